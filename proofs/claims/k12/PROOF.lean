import PyProof.Rows.All
import Wide.All
import OpenK.AllK
import Wide.FinOn
import KE.KStateDown
import HandS.ForMost
import HandS.Wide
import HandS.Gcd
import HandS.IsInst
import HandS.Defaults
import HandS.TupAny
import HandS.Zip
import KE.GoesEnum
import HandS.HeadEnd
import HandS.Conv
import HandS.More
import PyProof.ZipIter
import PyProof.CollectWalk
import KE.GoesMore
import KE.GoesZip
import KE.KDictZip
import KE.KStar
import KE.KDictList
import HandS.Star
import HandS.SortRule
import HandS.SortInts
import HandS.SortOrd
import HandS.FStr
import PyProof.Rows.StrFirst
import HandS.MakeKwOnly
import HandS.Small
import HandS.ClsMeth
import HandS.TupSets
import HandS.TupMul
import HandS.Strs
import HandS.Style
import HandS.HeadHook2
import HandS.HeadNt
import HandS.Head0
import HandS.Head1
import HandS.Head2
import HandS.Head3
import HandS.HeadHook1
import PySem.Challenge.RW_leaprungs_k12_edges_and_their_sums
set_option Elab.async false
set_option linter.all false
set_option maxRecDepth 100000
set_option maxHeartbeats 4000000
/-! ZBase: a logic of plain data over the hand layer. A slot holds a datum (D), not an address; what was made and does not change any more is frozen in a hidden part of the heap (F),
what may still change stands in a list by its address (Mem). -/
namespace Z
open PySem PySem.Spec PyProof.Rows L2
abbrev Fg := PySem.W.Frag
/-! ### plain data -/
inductive D where
  | non | bl (b : Bool) | int (i : Int) | str (x : Str) | ty (n : String)
  /-- a tuple; a list that does not change any more; a list that is read alone (the script) -/
  | tup (ds : List D) | lst (ds : List D) | scr (ds : List D)
  /-- an instance that does not change any more -/
  | obj (C : Addr) (fs : List (Str × D))
  /-- what stands at a: a thing of Mem, a class, a def -/
  | at (a : Addr)
/-- the datum d lies at v -/
inductive Rp (K : Fg) (F : Hp) : V → D → Prop
  | non : Rp K F .non .non
  | bl (b : Bool) : Rp K F (.bl b) (.bl b)
  | int (i : Int) : Rp K F (.int i) (.int i)
  | str (x : Str) : Rp K F (.str x) (.str x)
  | ty (n : String) : Rp K F (.ty n) (.ty n)
  | tup {a : Addr} {vs : List V} {ds : List D} : SqT K F a vs → vs.length = ds.length → (∀ (i : Nat) (v : V) (d : D), vs[i]? = some v → ds[i]? = some d → Rp K F v d) → Rp K F (.ref a) (.tup ds)
  | lst {a : Addr} {vs : List V} {ds : List D} : F a = some (.lst vs) → vs.length = ds.length → (∀ (i : Nat) (v : V) (d : D), vs[i]? = some v → ds[i]? = some d → Rp K F v d) → Rp K F (.ref a) (.lst ds)
  | scr {a : Addr} {vs : List V} {ds : List D} : SqL K F a vs → vs.length = ds.length → (∀ (i : Nat) (v : V) (d : D), vs[i]? = some v → ds[i]? = some d → Rp K F v d) → Rp K F (.ref a) (.scr ds)
  | obj {a C dx : Addr} {vs : List (Str × V)} {fs : List (Str × D)} : F a = some (.ins C dx vs) → vs.length = fs.length → (∀ (i : Nat) (q : Str × V) (p : Str × D), vs[i]? = some q → fs[i]? = some p → q.1 = p.1) →
      (∀ (i : Nat) (q : Str × V) (p : Str × D), vs[i]? = some q → fs[i]? = some p → Rp K F q.2 p.2) → Rp K F (.ref a) (.obj C fs)
  | at (a : Addr) : Rp K F (.ref a) (.at a)
/-- a row of data -/
structure Rps (K : Fg) (F : Hp) (vs : List V) (ds : List D) : Prop where
  len : vs.length = ds.length
  at_ : ∀ (i : Nat) (v : V) (d : D), vs[i]? = some v → ds[i]? = some d → Rp K F v d
/-- a row of named data -/
structure Rpf (K : Fg) (F : Hp) (vs : List (Str × V)) (ds : List (Str × D)) : Prop where
  len : vs.length = ds.length
  nm : ∀ (i : Nat) (q : Str × V) (p : Str × D), vs[i]? = some q → ds[i]? = some p → q.1 = p.1
  at_ : ∀ (i : Nat) (q : Str × V) (p : Str × D), vs[i]? = some q → ds[i]? = some p → Rp K F q.2 p.2
def Ex (F F' : Hp) : Prop := ∀ a o, F a = some o → F' a = some o
theorem Ex.refl (F : Hp) : Ex F F := fun _ _ h => h
theorem Ex.trans {F F1 F2 : Hp} (a : Ex F F1) (b : Ex F1 F2) : Ex F F2 := fun x o h => b x o (a x o h)
section
variable {K : Fg} {F F' : Hp} {v : V} {d : D} {vs : List V} {ds : List D}
theorem ex_rd {a : Addr} {u : HO} (e : Ex F F') (h : Rd F a u) : Rd F' a u := by
  rcases h with h | ⟨o, h⟩
  · exact .inl (e a _ h)
  · exact .inr ⟨o, e a _ h⟩
theorem ex_l {a : Addr} {xs : List V} (e : Ex F F') (h : SqL K F a xs) : SqL K F' a xs := by
  rcases h with h | h
  · exact .inl (ex_rd e h)
  · exact .inr h
theorem ex_t {a : Addr} {xs : List V} (e : Ex F F') (h : SqT K F a xs) : SqT K F' a xs := by
  rcases h with h | h
  · exact .inl (ex_rd e h)
  · exact .inr h
theorem Rp.mono (e : Ex F F') (h : Rp K F v d) : Rp K F' v d := by
  induction h with
  | non => exact .non
  | bl b => exact .bl b
  | int i => exact .int i
  | str x => exact .str x
  | ty n => exact .ty n
  | tup hs hl _ ih => exact .tup (ex_t e hs) hl ih
  | lst hs hl _ ih => exact .lst (e _ _ hs) hl ih
  | scr hs hl _ ih => exact .scr (ex_l e hs) hl ih
  | obj hs hl hn _ ih => exact .obj (e _ _ hs) hl hn ih
  | «at» a => exact .at a
theorem Rps.mono (e : Ex F F') (h : Rps K F vs ds) : Rps K F' vs ds := ⟨h.len, fun i v d a b => (h.at_ i v d a b).mono e⟩
theorem Rpf.mono {vs : List (Str × V)} {ds : List (Str × D)} (e : Ex F F') (h : Rpf K F vs ds) : Rpf K F' vs ds := ⟨h.len, h.nm, fun i v d a b => (h.at_ i v d a b).mono e⟩
theorem Rps.nil : Rps K F [] [] := ⟨rfl, fun i v d h _ => by simp at h⟩
theorem Rps.cons (h : Rp K F v d) (t : Rps K F vs ds) : Rps K F (v :: vs) (d :: ds) := ⟨by rw [List.length_cons, List.length_cons, t.len], fun i x y a b => by
  cases i with
  | zero =>
    rw [List.getElem?_cons_zero] at a b
    cases a
    cases b
    exact h
  | succ i =>
    rw [List.getElem?_cons_succ] at a b
    exact t.at_ i x y a b⟩
theorem Rps.append {vs' : List V} {ds' : List D} (a : Rps K F vs ds) (b : Rps K F vs' ds') : Rps K F (vs ++ vs') (ds ++ ds') := ⟨by rw [List.length_append, List.length_append, a.len, b.len], fun i x y p q => by
  by_cases h : i < vs.length
  · rw [List.getElem?_append_left h] at p
    rw [List.getElem?_append_left (by rw [← a.len]; exact h)] at q
    exact a.at_ i x y p q
  · have h' : vs.length ≤ i := Nat.le_of_not_lt h
    rw [List.getElem?_append_right h'] at p
    rw [List.getElem?_append_right (by rw [← a.len]; exact h'), ← a.len] at q
    exact b.at_ _ x y p q⟩
theorem Rps.one (h : Rp K F v d) : Rps K F [v] [d] := .cons h .nil
theorem Rps.get (h : Rps K F vs ds) {i : Nat} {d : D} (e : ds[i]? = some d) : ∃ v, vs[i]? = some v ∧ Rp K F v d := by
  have hi : i < vs.length := by rw [h.len]; exact (List.getElem?_eq_some_iff.mp e).1
  exact ⟨vs[i], List.getElem?_eq_getElem hi, h.at_ i _ d (List.getElem?_eq_getElem hi) e⟩
theorem Rps.getV (h : Rps K F vs ds) {i : Nat} {v : V} (e : vs[i]? = some v) : ∃ d, ds[i]? = some d ∧ Rp K F v d := by
  have hi : i < ds.length := by rw [← h.len]; exact (List.getElem?_eq_some_iff.mp e).1
  exact ⟨ds[i], List.getElem?_eq_getElem hi, h.at_ i v _ e (List.getElem?_eq_getElem hi)⟩
theorem Rps.uncons (h : Rps K F vs (d :: ds)) : ∃ v vs', vs = v :: vs' ∧ Rp K F v d ∧ Rps K F vs' ds := by
  cases vs with
  | nil => exact absurd h.len (by simp)
  | cons v vs' =>
    refine ⟨v, vs', rfl, h.at_ 0 v d rfl rfl, ⟨by simpa using h.len, fun i x y a b => h.at_ (i + 1) x y (by simpa using a) (by simpa using b)⟩⟩
theorem Rps.unnil (h : Rps K F vs []) : vs = [] := List.eq_nil_of_length_eq_zero h.len
theorem Rps.take (h : Rps K F vs ds) (n : Nat) : Rps K F (vs.take n) (ds.take n) := ⟨by rw [List.length_take, List.length_take, h.len], fun i x y a b => by
  by_cases hi : i < n
  · rw [List.getElem?_take_of_lt hi] at a b
    exact h.at_ i x y a b
  · rw [List.getElem?_eq_none (by rw [List.length_take]; omega)] at a
    cases a⟩
theorem Rps.drop (h : Rps K F vs ds) (n : Nat) : Rps K F (vs.drop n) (ds.drop n) := ⟨by rw [List.length_drop, List.length_drop, h.len], fun i x y a b => by
  rw [List.getElem?_drop] at a b
  exact h.at_ _ x y a b⟩
theorem Rps.set (h : Rps K F vs ds) (i : Nat) (hv : Rp K F v d) : Rps K F (vs.set i v) (ds.set i d) := ⟨by rw [List.length_set, List.length_set, h.len], fun j x y a b => by
  by_cases hj : i = j
  · subst hj
    by_cases hl : i < vs.length
    · rw [List.getElem?_set_self hl] at a
      rw [List.getElem?_set_self (by rw [← h.len]; exact hl)] at b
      cases a
      cases b
      exact hv
    · rw [List.getElem?_eq_none (by rw [List.length_set]; omega)] at a
      cases a
  · rw [List.getElem?_set_ne hj] at a b
    exact h.at_ j x y a b⟩
theorem Rps.reverse (h : Rps K F vs ds) : Rps K F vs.reverse ds.reverse := ⟨by rw [List.length_reverse, List.length_reverse, h.len], fun i x y a b => by
  by_cases hi : i < vs.length
  · rw [List.getElem?_reverse hi] at a
    rw [List.getElem?_reverse (by rw [← h.len]; exact hi), ← h.len] at b
    exact h.at_ _ x y a b
  · rw [List.getElem?_eq_none (by rw [List.length_reverse]; omega)] at a
    cases a⟩
theorem Rps.dropLast (h : Rps K F vs ds) : Rps K F vs.dropLast ds.dropLast := by
  rw [List.dropLast_eq_take, List.dropLast_eq_take, h.len]
  exact h.take _
theorem Rps.eraseIdx (h : Rps K F vs ds) (n : Nat) : Rps K F (vs.eraseIdx n) (ds.eraseIdx n) := by
  rw [List.eraseIdx_eq_take_drop_succ, List.eraseIdx_eq_take_drop_succ]
  exact (h.take n).append (h.drop (n + 1))
theorem Rps.of_map {α : Type} {xs : List α} {f : α → V} {g : α → D} (h : ∀ x ∈ xs, Rp K F (f x) (g x)) : Rps K F (xs.map f) (xs.map g) := ⟨by rw [List.length_map, List.length_map], fun i v d a b => by
  rw [List.getElem?_map] at a b
  cases e : xs[i]? with
  | none =>
    rw [e] at a
    cases a
  | some x =>
    rw [e] at a b
    cases a
    cases b
    exact h x (List.mem_of_getElem? e)⟩
/-! inversions -/
theorem Rp.of_int {i : Int} (h : Rp K F v (.int i)) : v = .int i := by cases h; rfl
theorem Rp.of_bl {b : Bool} (h : Rp K F v (.bl b)) : v = .bl b := by cases h; rfl
theorem Rp.of_str {x : Str} (h : Rp K F v (.str x)) : v = .str x := by cases h; rfl
theorem Rp.of_ty {x : String} (h : Rp K F v (.ty x)) : v = .ty x := by cases h; rfl
theorem Rp.of_non (h : Rp K F v .non) : v = .non := by cases h; rfl
theorem Rp.of_at {a : Addr} (h : Rp K F v (.at a)) : v = .ref a := by cases h; rfl
theorem Rp.of_tup (h : Rp K F v (.tup ds)) : ∃ a vs, v = .ref a ∧ SqT K F a vs ∧ Rps K F vs ds := by
  cases h with
  | tup hs hl ha => exact ⟨_, _, rfl, hs, hl, ha⟩
theorem Rp.of_lst (h : Rp K F v (.lst ds)) : ∃ a vs, v = .ref a ∧ F a = some (.lst vs) ∧ Rps K F vs ds := by
  cases h with
  | lst hs hl ha => exact ⟨_, _, rfl, hs, hl, ha⟩
theorem Rp.of_scr (h : Rp K F v (.scr ds)) : ∃ a vs, v = .ref a ∧ SqL K F a vs ∧ Rps K F vs ds := by
  cases h with
  | scr hs hl ha => exact ⟨_, _, rfl, hs, hl, ha⟩
theorem Rp.of_obj {C : Addr} {fs : List (Str × D)} (h : Rp K F v (.obj C fs)) : ∃ a dx vs, v = .ref a ∧ F a = some (.ins C dx vs) ∧ Rpf K F vs fs := by
  cases h with
  | obj hs hl hn ha => exact ⟨_, _, _, rfl, hs, hl, hn, ha⟩
theorem Rp.mk_tup {a : Addr} (h : SqT K F a vs) (r : Rps K F vs ds) : Rp K F (.ref a) (.tup ds) := .tup h r.len r.at_
theorem Rp.mk_lst {a : Addr} (h : F a = some (.lst vs)) (r : Rps K F vs ds) : Rp K F (.ref a) (.lst ds) := .lst h r.len r.at_
theorem Rp.mk_scr {a : Addr} (h : SqL K F a vs) (r : Rps K F vs ds) : Rp K F (.ref a) (.scr ds) := .scr h r.len r.at_
end
/-! ### what may change -/
inductive MO where
  | lst (ds : List D) | ins (C : Addr) (fs : List (Str × D)) | dK (kvs : List (Key × D))
abbrev Mem := List (Addr × MO)
def MoOk (K : Fg) (F H : Hp) (a : Addr) : MO → Prop
  | .lst ds => ∃ vs, H a = some (.lst vs) ∧ Rps K F vs ds
  | .ins C fs => ∃ dx vs, H a = some (.ins C dx vs) ∧ Rpf K F vs fs
  | .dK kvs => ∃ ws : List (Key × V), H a = some (.dK ws) ∧ ws.map (·.1) = kvs.map (·.1) ∧ Rps K F (ws.map (·.2)) (kvs.map (·.2))
structure Lay (K : Fg) (F : Hp) (M : Mem) (H : Hp) : Prop where
  fr : ∀ a o, F a = some o → H a = some o
  nd : (M.map (·.1)).Nodup
  ap : ∀ p ∈ M, F p.1 = none
  mu : ∀ p ∈ M, MoOk K F H p.1 p.2
section
variable {K : Fg} {F F' H H' : Hp} {M : Mem} {a p : Addr} {mo mo' : MO} {o : HO}
theorem MoOk.mono (e : Ex F F') (h : H' a = H a) (x : MoOk K F H a mo) : MoOk K F' H' a mo := by
  cases mo with
  | lst ds =>
    obtain ⟨vs, q, r⟩ := x
    exact ⟨vs, h.trans q, r.mono e⟩
  | ins C fs =>
    obtain ⟨dx, vs, q, r⟩ := x
    exact ⟨dx, vs, h.trans q, r.mono e⟩
  | dK kvs =>
    obtain ⟨ws, q, e1, r⟩ := x
    exact ⟨ws, h.trans q, e1, r.mono e⟩
theorem MoOk.there (x : MoOk K F H a mo) : ∃ o, H a = some o := by
  cases mo with
  | lst ds =>
    obtain ⟨vs, q, r⟩ := x
    exact ⟨_, q⟩
  | ins C fs =>
    obtain ⟨dx, vs, q, r⟩ := x
    exact ⟨_, q⟩
  | dK kvs =>
    obtain ⟨ws, q, _⟩ := x
    exact ⟨_, q⟩
theorem Lay.free (L : Lay K F M H) (h : H p = none) : F p = none := by
  cases e : F p with
  | none => rfl
  | some o =>
    rw [L.fr p o e] at h
    cases h
theorem Lay.notin (L : Lay K F M H) (h : H p = none) : p ∉ M.map (·.1) := fun hm => by
  obtain ⟨q, hq, rfl⟩ := List.mem_map.mp hm
  obtain ⟨o, e⟩ := (L.mu q hq).there
  rw [e] at h
  cases h
theorem ex_upd (h : F p = none) : Ex F (upd F p o) := fun a u e => by
  rw [upd_ne (ne_of_none e h)]
  exact e
/-- the heap has grown, all else stands -/
theorem Lay.grow (L : Lay K F M H) (h : ∀ a o, H a = some o → H' a = some o) : Lay K F M H' where
  fr := fun a o e => h a o (L.fr a o e)
  nd := L.nd
  ap := L.ap
  mu := fun q hq => by
    obtain ⟨o, e⟩ := (L.mu q hq).there
    exact (L.mu q hq).mono (Ex.refl F) (by rw [e, h _ _ e])
/-- a new thing that will not change -/
theorem Lay.new (L : Lay K F M H) (h : H p = none) : Lay K (upd F p o) M (upd H p o) where
  fr := fun a u e => by
    by_cases ha : a = p
    · subst ha
      rw [upd_same] at e ⊢
      exact e
    · rw [upd_ne ha] at e ⊢
      exact L.fr a u e
  nd := L.nd
  ap := fun q hq => by
    obtain ⟨u, e⟩ := (L.mu q hq).there
    rw [upd_ne (ne_of_none e h)]
    exact L.ap q hq
  mu := fun q hq => by
    obtain ⟨u, e⟩ := (L.mu q hq).there
    exact (L.mu q hq).mono (ex_upd (L.free h)) (upd_ne (ne_of_none e h))
/-- a new thing that may change -/
theorem Lay.newM (L : Lay K F M H) (h : H p = none) (m : MoOk K F (upd H p o) p mo) : Lay K F ((p, mo) :: M) (upd H p o) where
  fr := fun a u e => by
    rw [upd_ne (fun z => by rw [z, L.free h] at e; cases e)]
    exact L.fr a u e
  nd := List.nodup_cons.mpr ⟨L.notin h, L.nd⟩
  ap := fun q hq => by
    rcases List.mem_cons.mp hq with rfl | hq
    · exact L.free h
    · exact L.ap q hq
  mu := fun q hq => by
    rcases List.mem_cons.mp hq with rfl | hq
    · exact m
    · obtain ⟨u, e⟩ := (L.mu q hq).there
      exact (L.mu q hq).mono (Ex.refl F) (upd_ne (ne_of_none e h))
theorem nodup_at {M : Mem} (hN : (M.map (·.1)).Nodup) {i j : Nat} {p q : Addr × MO} (a : M[i]? = some p) (b : M[j]? = some q) (e : p.1 = q.1) : i = j := by
  refine nd_ix hN (x := p.1) (by rw [List.getElem?_map, a]; rfl) ?_
  rw [List.getElem?_map, b, e]
  rfl
/-- a thing changes -/
theorem Lay.set (L : Lay K F M H) {i : Nat} (hi : M[i]? = some (p, mo)) (m : MoOk K F (upd H p o) p mo') : Lay K F (M.set i (p, mo')) (upd H p o) where
  fr := fun a u e => by
    rw [upd_ne (fun z => by rw [z, L.ap _ (List.mem_of_getElem? hi)] at e; cases e)]
    exact L.fr a u e
  nd := by
    have e : (M.set i (p, mo')).map (·.1) = M.map (·.1) := by
      rw [List.map_set]
      apply List.ext_getElem?
      intro j
      by_cases hj : i = j
      · subst hj
        have hl : i < (M.map (·.1)).length := by
          rw [List.length_map]
          exact (List.getElem?_eq_some_iff.mp hi).1
        rw [List.getElem?_set_self hl, List.getElem?_map, hi]
        rfl
      · rw [List.getElem?_set_ne hj]
    rw [e]
    exact L.nd
  ap := fun q hq => by
    rcases List.mem_or_eq_of_mem_set hq with hq | rfl
    · exact L.ap q hq
    · exact L.ap (p, mo) (List.mem_of_getElem? hi)
  mu := fun q hq => by
    obtain ⟨j, hj⟩ := List.mem_iff_getElem?.mp hq
    by_cases hij : i = j
    · subst hij
      rw [List.getElem?_set_self (List.getElem?_eq_some_iff.mp hi).1] at hj
      cases hj
      exact m
    · rw [List.getElem?_set_ne hij] at hj
      refine (L.mu q (List.mem_of_getElem? hj)).mono (Ex.refl F) (upd_ne fun z => hij ?_)
      exact nodup_at L.nd hi hj z.symm
/-- a thing is forgotten -/
theorem Lay.drop (L : Lay K F M H) (i : Nat) : Lay K F (M.eraseIdx i) H where
  fr := L.fr
  nd := by
    have h := L.nd.sublist ((List.eraseIdx_sublist M i).map (·.1))
    exact h
  ap := fun q hq => L.ap q (List.mem_of_mem_eraseIdx hq)
  mu := fun q hq => L.mu q (List.mem_of_mem_eraseIdx hq)
/-- a thing changes no more -/
theorem Lay.frz (L : Lay K F M H) {i : Nat} (hi : M[i]? = some (p, mo)) (hp : H p = some o) : Lay K (upd F p o) (M.eraseIdx i) H ∧ Ex F (upd F p o) := by
  have hF := L.ap _ (List.mem_of_getElem? hi)
  have ex : Ex F (upd F p o) := ex_upd hF
  refine ⟨⟨fun a u e => ?_, (L.drop i).nd, fun q hq => ?_, fun q hq => ((L.drop i).mu q hq).mono ex rfl⟩, ex⟩
  · by_cases ha : a = p
    · subst ha
      rw [upd_same] at e
      rw [← e]
      exact hp
    · rw [upd_ne ha] at e
      exact L.fr a u e
  · rw [upd_ne]
    · exact (L.drop i).ap q hq
    · intro z
      obtain ⟨j, hj⟩ := List.mem_iff_getElem?.mp hq
      rw [List.getElem?_eraseIdx] at hj
      split at hj
      · have := nodup_at L.nd hi hj z.symm
        omega
      · have := nodup_at L.nd hi hj z.symm
        omega
theorem Lay.at_ (L : Lay K F M H) {i : Nat} (hi : M[i]? = some (p, mo)) : MoOk K F H p mo := L.mu _ (List.mem_of_getElem? hi)
end
/-! ### slots -/
abbrev Gm := List (Option D)
structure Has (K : Fg) (F : Hp) (σ : L2.St) (Γ : Gm) : Prop where
  len : σ.length = Γ.length
  at_ : ∀ (i : Nat) (d : D), Γ[i]? = some (some d) → ∃ v, σ[i]? = some (some v) ∧ Rp K F v d
theorem Has.mono {K : Fg} {F F' : Hp} {σ : L2.St} {Γ : Gm} (e : Ex F F') (h : Has K F σ Γ) : Has K F' σ Γ := ⟨h.len, fun i d q => by
  obtain ⟨v, a, b⟩ := h.at_ i d q
  exact ⟨v, a, b.mono e⟩⟩
theorem Has.set {K : Fg} {F : Hp} {σ : L2.St} {Γ : Gm} {v : V} {d : D} (h : Has K F σ Γ) (i : Nat) (r : Rp K F v d) : Has K F (σ.set i (some v)) (Γ.set i (some d)) := ⟨by rw [List.length_set, List.length_set, h.len], fun j x q => by
  by_cases hj : i = j
  · subst hj
    by_cases hl : i < Γ.length
    · rw [List.getElem?_set_self hl] at q
      cases q
      exact ⟨v, List.getElem?_set_self (by rw [h.len]; exact hl), r⟩
    · rw [List.getElem?_eq_none (by rw [List.length_set]; omega)] at q
      cases q
  · rw [List.getElem?_set_ne hj] at q ⊢
    exact h.at_ j x q⟩
/-- a slot's datum told otherwise, or forgotten -/
theorem Has.weak {K : Fg} {F : Hp} {σ : L2.St} {Γ Γ' : Gm} (h : Has K F σ Γ) (hl : Γ'.length = Γ.length) (w : ∀ (i : Nat) (d : D), Γ'[i]? = some (some d) → ∃ d0, Γ[i]? = some (some d0) ∧ ∀ v, Rp K F v d0 → Rp K F v d) : Has K F σ Γ' := ⟨h.len.trans hl.symm, fun i d q => by
  obtain ⟨d0, a, b⟩ := w i d q
  obtain ⟨v, c, e⟩ := h.at_ i d0 a
  exact ⟨v, c, b v e⟩⟩
def zwipe (Γ : Gm) : List Nat → Gm
  | [] => Γ
  | v :: vs => (zwipe Γ vs).set v none
theorem Has.unset {K : Fg} {F : Hp} {σ : L2.St} {Γ : Gm} (h : Has K F σ Γ) (i : Nat) : Has K F (σ.set i none) (Γ.set i none) := ⟨by rw [List.length_set, List.length_set, h.len], fun j x q => by
  by_cases hj : i = j
  · subst hj
    by_cases hl : i < Γ.length
    · rw [List.getElem?_set_self hl] at q
      cases q
    · rw [List.getElem?_eq_none (by rw [List.length_set]; omega)] at q
      cases q
  · rw [List.getElem?_set_ne hj] at q ⊢
    exact h.at_ j x q⟩
theorem Has.wipe {K : Fg} {F : Hp} {σ : L2.St} {Γ : Gm} (h : Has K F σ Γ) : ∀ vs : List Nat, Has K F (L2.wipe σ vs) (zwipe Γ vs)
  | [] => h
  | v :: vs => (h.wipe vs).unset v
/-! ### judgements over readings -/
/-- the text's written part; what is wanted of an exception, in the layer's words and of data -/
structure Cz where
  K : Fg
  W : Value → Option Addr → L2.St → Hp → Prop := fun _ _ _ _ => False
  ke : Value → Option (List (Str × D)) → Gm → Mem → Prop := fun _ _ _ _ => False
/-- an exception's own fields lie at d -/
def XfOk (K : Fg) (F H : Hp) (d : Option Addr) : Option (List (Str × D)) → Prop
  | none => d = none
  | some fs => ∃ dd vs, d = some dd ∧ H dd = some (.xd vs) ∧ Rpf K F vs fs
variable {c : Cz}
def XOk (c : Cz) (R : Mem) (F : Hp) : Prop := ∀ (cls : Value) (d : Option Addr) (F' : Hp) (σ' : L2.St) (H' : Hp) (Γ' : Gm) (M' : Mem) (fs : Option (List (Str × D))), Ex F F' → Has c.K F' σ' Γ' → Lay c.K F' (M' ++ R) H' → XfOk c.K F' H' d fs → c.ke cls fs Γ' M' → c.W cls d σ' H'
def KOk {α β : Type} (rel : Hp → β → α → Prop) (K : Fg) (R : Mem) (F : Hp) (k : α → Mem → Prop) (Q : β → Hp → Prop) : Prop := ∀ (v : β) (F' H' : Hp) (M' : Mem) (d : α), Ex F F' → Lay K F' (M' ++ R) H' → rel F' v d → k d M' → Q v H'
abbrev EOk (K : Fg) := KOk (fun F v d => Rp K F v d) K
abbrev AOk (K : Fg) := KOk (fun F v d => Rps K F v d) K
abbrev TOk (K : Fg) := KOk (fun _ (b : Bool) b' => b = b') K
abbrev GOk (K : Fg) := KOk (fun F σ Γ => Has K F σ Γ) K
theorem KOk.mono {α β : Type} {rel : Hp → β → α → Prop} {K : Fg} {R : Mem} {F F' : Hp} {k : α → Mem → Prop} {Q : β → Hp → Prop} (e : Ex F F') (h : KOk rel K R F k Q) : KOk rel K R F' k Q := fun v F1 H1 M1 d e1 => h v F1 H1 M1 d (e.trans e1)
theorem XOk.mono {R : Mem} {F F' : Hp} (e : Ex F F') (h : XOk c R F) : XOk c R F' := fun cls d F1 σ' H' Γ' M' fs e1 => h cls d F1 σ' H' Γ' M' fs (e.trans e1)
def ZE (c : Cz) (t : TE) (Γ : Gm) (M : Mem) (k : D → Mem → Prop) : Prop :=
  ∀ (R : Mem) (F : Hp) (σ : L2.St) (H : Hp) (Q : VK), Has c.K F σ Γ → Lay c.K F (M ++ R) H → XOk c R F → EOk c.K R F k Q → t σ H Q
def ZA (c : Cz) (t : TA) (Γ : Gm) (M : Mem) (k : List D → Mem → Prop) : Prop :=
  ∀ (R : Mem) (F : Hp) (σ : L2.St) (H : Hp) (Q : List V → Hp → Prop), Has c.K F σ Γ → Lay c.K F (M ++ R) H → XOk c R F → AOk c.K R F k Q → t σ H Q
def ZT (c : Cz) (t : TT) (Γ : Gm) (M : Mem) (k : Bool → Mem → Prop) : Prop :=
  ∀ (R : Mem) (F : Hp) (σ : L2.St) (H : Hp) (Q : Bool → Hp → Prop), Has c.K F σ Γ → Lay c.K F (M ++ R) H → XOk c R F → TOk c.K R F k Q → t σ H Q
/-- a target takes d -/
def ZG (c : Cz) (g : TG) (d : D) (Γ : Gm) (M : Mem) (k : Gm → Mem → Prop) : Prop :=
  ∀ (R : Mem) (F : Hp) (σ : L2.St) (H : Hp) (v : V) (Q : L2.St → Hp → Prop), Has c.K F σ Γ → Lay c.K F (M ++ R) H → XOk c R F → Rp c.K F v d → GOk c.K R F k Q → g v σ H Q
def ZGs (c : Cz) (g : TGs) (ds : List D) (Γ : Gm) (M : Mem) (k : Gm → Mem → Prop) : Prop :=
  ∀ (R : Mem) (F : Hp) (σ : L2.St) (H : Hp) (vs : List V) (Q : L2.St → Hp → Prop), Has c.K F σ Γ → Lay c.K F (M ++ R) H → XOk c R F → Rps c.K F vs ds → GOk c.K R F k Q → g vs σ H Q
structure ZEnds where
  nx : Gm → Mem → Prop
  rt : D → Mem → Prop
  bk : Gm → Mem → Prop := fun _ _ => False
  ct : Gm → Mem → Prop := fun _ _ => False
structure DOk (K : Fg) (R : Mem) (F : Hp) (DD : ZEnds) (D : Ends) : Prop where
  nx : GOk K R F DD.nx D.nx
  rt : EOk K R F DD.rt D.rt
  bk : GOk K R F DD.bk D.bk
  ct : GOk K R F DD.ct D.ct
theorem DOk.mono {K : Fg} {R : Mem} {F F' : Hp} {DD : ZEnds} {D : Ends} (e : Ex F F') (h : DOk K R F DD D) : DOk K R F' DD D := ⟨h.nx.mono e, h.rt.mono e, h.bk.mono e, h.ct.mono e⟩
def ZS (c : Cz) (t : TS) (Γ : Gm) (M : Mem) (DD : ZEnds) : Prop :=
  ∀ (R : Mem) (F : Hp) (σ : L2.St) (H : Hp) (D : Ends), Has c.K F σ Γ → Lay c.K F (M ++ R) H → XOk c R F → DOk c.K R F DD D → t D σ H
/-- an iterator that walks ds -/
def Walks (K : Fg) (F : Hp) (J : It) (ds : List D) : Prop := ∀ (F1 : Hp) (M1 : Mem) (H1 : Hp), Ex F F1 → Lay K F1 M1 H1 →
  (∀ i, i < ds.length → J.go i H1) ∧ (∀ i, ds.length ≤ i → J.stop i H1) ∧ ∀ (i : Nat) (d : D) (x : V) (H2 : Hp), ds[i]? = some d → J.yld i H1 x H2 → ∃ F2, Ex F1 F2 ∧ Lay K F2 M1 H2 ∧ Rp K F2 x d
def ZI (c : Cz) (w : TI) (Γ : Gm) (M : Mem) (k : List D → Mem → Prop) : Prop :=
  ∀ (R : Mem) (F : Hp) (σ : L2.St) (H : Hp) (Q : It → Hp → Prop), Has c.K F σ Γ → Lay c.K F (M ++ R) H → XOk c R F → (∀ (J : It) (F' H' : Hp) (M' : Mem) (ds : List D), Ex F F' → Lay c.K F' (M' ++ R) H' → Walks c.K F' J ds → k ds M' → Q J H') → w σ H Q
/-! ### rules of every kind -/
section
variable {Γ : Gm} {M : Mem} {k : D → Mem → Prop} {ta tb : TE} {DD : ZEnds}
theorem z_var {i : Nat} {d : D} (h : Γ[i]? = some (some d)) (hk : k d M) : ZE c (tVar i) Γ M k := fun R F σ H Q hs L _ q => by
  obtain ⟨v, e, r⟩ := hs.at_ i d h
  exact ⟨v, e, q v F H M d (Ex.refl F) L r hk⟩
theorem z_glb {v : V} {d : D} (h : ∀ F, Rp c.K F v d) (hk : k d M) : ZE c (tC v) Γ M k := fun R F σ H Q hs L _ q => q v F H M d (Ex.refl F) L (h F) hk
theorem z_int {i : Int} (hk : k (.int i) M) : ZE c (tC (.int i)) Γ M k := z_glb (fun _ => .int i) hk
theorem z_bl {i : Bool} (hk : k (.bl i) M) : ZE c (tC (.bl i)) Γ M k := z_glb (fun _ => .bl i) hk
theorem z_non (hk : k .non M) : ZE c (tC .non) Γ M k := z_glb (fun _ => .non) hk
theorem z_str {x : Str} (hk : k (.str x) M) : ZE c (tC (.str x)) Γ M k := z_glb (fun _ => .str x) hk
theorem z_ty {x : String} (hk : k (.ty x) M) : ZE c (tC (.ty x)) Γ M k := z_glb (fun _ => .ty x) hk
theorem z_at {a : Addr} (hk : k (.at a) M) : ZE c (tC (.ref a)) Γ M k := z_glb (fun _ => .at a) hk
/-- weaken the end -/
theorem ZE.imp {k' : D → Mem → Prop} (h : ZE c ta Γ M k) (i : ∀ d M', k d M' → k' d M') : ZE c ta Γ M k' := fun R F σ H Q hs L X q => h R F σ H Q hs L X fun v F' H' M' d e L' r kk => q v F' H' M' d e L' r (i d M' kk)
theorem ZA.imp {ta : TA} {k k' : List D → Mem → Prop} (h : ZA c ta Γ M k) (i : ∀ d M', k d M' → k' d M') : ZA c ta Γ M k' := fun R F σ H Q hs L X q => h R F σ H Q hs L X fun v F' H' M' d e L' r kk => q v F' H' M' d e L' r (i d M' kk)
theorem ZT.imp {ta : TT} {k k' : Bool → Mem → Prop} (h : ZT c ta Γ M k) (i : ∀ d M', k d M' → k' d M') : ZT c ta Γ M k' := fun R F σ H Q hs L X q => h R F σ H Q hs L X fun v F' H' M' d e L' r kk => q v F' H' M' d e L' r (i d M' kk)
/-- two operands, then an operation on values -/
def ZR (c : Cz) (r : R2) (x y : D) (M : Mem) (k : D → Mem → Prop) : Prop := ∀ (R : Mem) (F H : Hp) (v w : V) (Q : VK), Lay c.K F (M ++ R) H → Rp c.K F v x → Rp c.K F w y → EOk c.K R F k Q → r v w H Q
theorem z_op {r : R2} (h : ZE c ta Γ M fun x M1 => ZE c tb Γ M1 fun y M2 => ZR c r x y M2 k) : ZE c (tOp r ta tb) Γ M k := fun R F σ H Q hs L X q =>
  h R F σ H _ hs L X fun v F1 H1 M1 x e1 L1 r1 h1 => h1 R F1 σ H1 _ (hs.mono e1) L1 (X.mono e1) fun w F2 H2 M2 y e2 L2 r2 h2 => h2 R F2 H2 v w Q L2 (r1.mono e2) r2 (q.mono (e1.trans e2))
def ZU (c : Cz) (r : V → Hp → VK → Prop) (x : D) (M : Mem) (k : D → Mem → Prop) : Prop := ∀ (R : Mem) (F H : Hp) (v : V) (Q : VK), Lay c.K F (M ++ R) H → Rp c.K F v x → EOk c.K R F k Q → r v H Q
theorem z_un {r : V → Hp → VK → Prop} (h : ZE c ta Γ M fun x M1 => ZU c r x M1 k) : ZE c (tUn r ta) Γ M k := fun R F σ H Q hs L X q =>
  h R F σ H _ hs L X fun v F1 H1 M1 x e1 L1 r1 h1 => h1 R F1 H1 v Q L1 r1 (q.mono e1)
/-- arguments -/
theorem za_nil {k : List D → Mem → Prop} (hk : k [] M) : ZA c tNil Γ M k := fun R F σ H Q hs L _ q => q [] F H M [] (Ex.refl F) L .nil hk
theorem za_cons {tr : TA} {k : List D → Mem → Prop} (h : ZE c ta Γ M fun x M1 => ZA c tr Γ M1 fun xs M2 => k (x :: xs) M2) : ZA c (tCons ta tr) Γ M k := fun R F σ H Q hs L X q =>
  h R F σ H _ hs L X fun v F1 H1 M1 x e1 L1 r1 h1 => h1 R F1 σ H1 _ (hs.mono e1) L1 (X.mono e1) fun ws F2 H2 M2 xs e2 L2 r2 h2 => q (v :: ws) F2 H2 M2 (x :: xs) (e1.trans e2) L2 (.cons (r1.mono e2) r2) h2
/-- a call on values (a built-in) -/
def ZC (c : Cz) (r : List V → Hp → VK → Prop) (ds : List D) (M : Mem) (k : D → Mem → Prop) : Prop := ∀ (R : Mem) (F H : Hp) (vs : List V) (Q : VK), Lay c.K F (M ++ R) H → Rps c.K F vs ds → EOk c.K R F k Q → r vs H Q
theorem z_cb {r : List V → Hp → VK → Prop} {ta : TA} (h : ZA c ta Γ M fun ds M1 => ZC c r ds M1 k) : ZE c (tCB r ta) Γ M k := fun R F σ H Q hs L X q =>
  h R F σ H _ hs L X fun vs F1 H1 M1 ds e1 L1 r1 h1 => h1 R F1 H1 vs Q L1 r1 (q.mono e1)
/-- displays -/
theorem z_tup {ta : TA} (h : ZA c ta Γ M fun ds M1 => ds.length ≤ sizeLine ∧ k (.tup ds) M1) : ZE c (tTup ta) Γ M k := fun R F σ H Q hs L X q =>
  h R F σ H _ hs L X fun vs F1 H1 M1 ds e1 L1 r1 ⟨hl, hk⟩ => ⟨by rw [r1.len]; exact hl, fun p hp => q (.ref p) (upd F1 p (.tup vs)) _ M1 (.tup ds) (e1.trans (ex_upd (L1.free hp))) (L1.new hp) (.mk_tup (SqT.of upd_same) (r1.mono (ex_upd (L1.free hp)))) hk⟩
theorem z_lst {ta : TA} (h : ZA c ta Γ M fun ds M1 => ds.length ≤ sizeLine ∧ k (.lst ds) M1) : ZE c (tLst ta) Γ M k := fun R F σ H Q hs L X q =>
  h R F σ H _ hs L X fun vs F1 H1 M1 ds e1 L1 r1 ⟨hl, hk⟩ => ⟨by rw [r1.len]; exact hl, fun p hp => q (.ref p) (upd F1 p (.lst vs)) _ M1 (.lst ds) (e1.trans (ex_upd (L1.free hp))) (L1.new hp) (.mk_lst upd_same (r1.mono (ex_upd (L1.free hp)))) hk⟩
/-- a list that may change -/
def mk (t : TE) : TE := t
theorem z_lstM {ta : TA} (h : ZA c ta Γ M fun ds M1 => ds.length ≤ sizeLine ∧ ∀ p, k (.at p) ((p, .lst ds) :: M1)) : ZE c (mk (tLst ta)) Γ M k := fun R F σ H Q hs L X q =>
  h R F σ H _ hs L X fun vs F1 H1 M1 ds e1 L1 r1 ⟨hl, hk⟩ => ⟨by rw [r1.len]; exact hl, fun p hp => q (.ref p) F1 _ ((p, .lst ds) :: M1) (.at p) e1 (L1.newM hp ⟨vs, upd_same, r1⟩) (.at p) (hk p)⟩
/-- a list that may change made of a frozen one is not to be had; a changing one is frozen where it is handed on -/
def FrzK (k : D → Mem → Prop) (d : D) (M : Mem) : Prop := match d, M with
  | .at a, (b, .lst ds) :: M1 => a = b ∧ k (.lst ds) M1
  | _, _ => False
def fz (t : TE) : TE := t
theorem z_fz (h : ZE c ta Γ M (FrzK k)) : ZE c (fz ta) Γ M k := fun R F σ H Q hs L X q =>
  h R F σ H Q hs L X fun v F1 H1 M1 d e1 L1 r1 h1 => by
    cases d with
    | «at» a =>
      cases M1 with
      | nil => exact h1.elim
      | cons q1 M2 =>
        obtain ⟨b, mo⟩ := q1
        cases mo with
        | lst ds =>
          obtain ⟨rfl, h1⟩ := h1
          obtain ⟨vs, hv, rv⟩ := L1.at_ (i := 0) rfl
          obtain ⟨L2, e2⟩ := L1.frz (i := 0) rfl hv
          rw [r1.of_at]
          exact q _ _ H1 M2 (.lst ds) (e1.trans e2) L2 (.mk_lst upd_same (rv.mono e2)) h1
        | ins C fs => exact h1.elim
        | dK kvs => exact h1.elim
    | _ => exact h1.elim
/-- tests -/
theorem zt_test {k : Bool → Mem → Prop} (h : ZE c ta Γ M fun d M1 => ∃ b, d = .bl b ∧ k b M1) : ZT c (tTest ta) Γ M k := fun R F σ H Q hs L X q =>
  h R F σ H _ hs L X fun v F1 H1 M1 d e1 L1 r1 ⟨b, e, h1⟩ => by
    subst e
    exact ⟨b, r1.of_bl, q b F1 H1 M1 b e1 L1 rfl h1⟩
theorem zt_B {k : Bool → Mem → Prop} (h : ZE c ta Γ M fun d M1 => ∃ b, d = .bl b ∧ k b M1) : ZT c (tB ta) Γ M k := zt_test h
theorem zt_and {t u : TT} {k : Bool → Mem → Prop} (h : ZT c t Γ M fun b M1 => (b = true → ZT c u Γ M1 k) ∧ (b = false → k false M1)) : ZT c (tAnd t u) Γ M k := fun R F σ H Q hs L X q =>
  h R F σ H _ hs L X fun b F1 H1 M1 b' e1 L1 r1 ⟨h1, h2⟩ => by
    subst r1
    cases b with
    | true => exact h1 rfl R F1 σ H1 Q (hs.mono e1) L1 (X.mono e1) (q.mono e1)
    | false => exact q false F1 H1 M1 false e1 L1 rfl (h2 rfl)
theorem zt_or {t u : TT} {k : Bool → Mem → Prop} (h : ZT c t Γ M fun b M1 => (b = true → k true M1) ∧ (b = false → ZT c u Γ M1 k)) : ZT c (tOr t u) Γ M k := fun R F σ H Q hs L X q =>
  h R F σ H _ hs L X fun b F1 H1 M1 b' e1 L1 r1 ⟨h1, h2⟩ => by
    subst r1
    cases b with
    | false => exact h2 rfl R F1 σ H1 Q (hs.mono e1) L1 (X.mono e1) (q.mono e1)
    | true => exact q true F1 H1 M1 true e1 L1 rfl (h1 rfl)
theorem zt_not {t : TT} {k : Bool → Mem → Prop} (h : ZT c t Γ M fun b M1 => k (!b) M1) : ZT c (tNot t) Γ M k := fun R F σ H Q hs L X q =>
  h R F σ H _ hs L X fun b F1 H1 M1 b' e1 L1 r1 h1 => q (!b) F1 H1 M1 (!b') e1 L1 (by rw [r1]) h1
theorem z_andV (h : ZE c ta Γ M fun d M1 => ∃ b, d = .bl b ∧ (b = true → ZE c tb Γ M1 k) ∧ (b = false → k (.bl false) M1)) : ZE c (tAndV ta tb) Γ M k := fun R F σ H Q hs L X q =>
  h R F σ H _ hs L X fun v F1 H1 M1 d e1 L1 r1 ⟨b, e, h1, h2⟩ => by
    subst e
    refine ⟨b, r1.of_bl, ?_⟩
    cases b with
    | true => exact h1 rfl R F1 σ H1 Q (hs.mono e1) L1 (X.mono e1) (q.mono e1)
    | false => exact q (.bl false) F1 H1 M1 (.bl false) e1 L1 (.bl _) (h2 rfl)
theorem z_orV (h : ZE c ta Γ M fun d M1 => ∃ b, d = .bl b ∧ (b = true → k (.bl true) M1) ∧ (b = false → ZE c tb Γ M1 k)) : ZE c (tOrV ta tb) Γ M k := fun R F σ H Q hs L X q =>
  h R F σ H _ hs L X fun v F1 H1 M1 d e1 L1 r1 ⟨b, e, h1, h2⟩ => by
    subst e
    refine ⟨b, r1.of_bl, ?_⟩
    cases b with
    | false => exact h2 rfl R F1 σ H1 Q (hs.mono e1) L1 (X.mono e1) (q.mono e1)
    | true => exact q (.bl true) F1 H1 M1 (.bl true) e1 L1 (.bl _) (h1 rfl)
theorem z_notV (h : ZE c ta Γ M fun d M1 => ∃ b, d = .bl b ∧ k (.bl (!b)) M1) : ZE c (tNotV ta) Γ M k := fun R F σ H Q hs L X q =>
  h R F σ H _ hs L X fun v F1 H1 M1 d e1 L1 r1 ⟨b, e, h1⟩ => by
    subst e
    exact ⟨b, r1.of_bl, q (.bl (!b)) F1 H1 M1 (.bl (!b)) e1 L1 (.bl _) h1⟩
theorem z_if {t : TT} (h : ZT c t Γ M fun b M1 => (b = true → ZE c ta Γ M1 k) ∧ (b = false → ZE c tb Γ M1 k)) : ZE c (tIf t ta tb) Γ M k := fun R F σ H Q hs L X q =>
  h R F σ H _ hs L X fun b F1 H1 M1 b' e1 L1 r1 ⟨h1, h2⟩ => by
    subst r1
    cases b with
    | true => exact h1 rfl R F1 σ H1 Q (hs.mono e1) L1 (X.mono e1) (q.mono e1)
    | false => exact h2 rfl R F1 σ H1 Q (hs.mono e1) L1 (X.mono e1) (q.mono e1)
/-- targets -/
theorem zg_name {i : Nat} {d : D} {k : Gm → Mem → Prop} (hk : k (Γ.set i (some d)) M) : ZG c (gName i) d Γ M k := fun R F σ H v Q hs L _ r q => q (σ.set i (some v)) F H M (Γ.set i (some d)) (Ex.refl F) L (hs.set i r) hk
theorem zgs_nil {k : Gm → Mem → Prop} (hk : k Γ M) : ZGs c gNil [] Γ M k := fun R F σ H vs Q hs L _ r q => ⟨r.unnil, q σ F H M Γ (Ex.refl F) L hs hk⟩
theorem zgs_cons {g : TG} {gs : TGs} {d : D} {ds : List D} {k : Gm → Mem → Prop} (h : ZG c g d Γ M fun Γ1 M1 => ZGs c gs ds Γ1 M1 k) : ZGs c (gCons g gs) (d :: ds) Γ M k := fun R F σ H vs Q hs L X r q => by
  obtain ⟨v, vs', rfl, r1, r2⟩ := r.uncons
  exact ⟨v, vs', rfl, h R F σ H v _ hs L X r1 fun σ' F1 H1 M1 Γ1 e1 L1 hs1 h1 => h1 R F1 σ' H1 vs' Q hs1 L1 (X.mono e1) (r2.mono e1) (q.mono e1)⟩
theorem zg_tup {gs : TGs} {n : Nat} {ds : List D} {k : Gm → Mem → Prop} (hn : ds.length = n) (h : ZGs c gs ds Γ M k) : ZG c (gTup c.K n gs) (.tup ds) Γ M k := fun R F σ H v Q hs L X r q => by
  obtain ⟨a, vs, rfl, s, rs⟩ := r.of_tup
  exact ⟨a, vs, rfl, ex_t L.fr s, by rw [rs.len]; exact hn, h R F σ H vs Q hs L X rs q⟩
/-- statements -/
theorem zs_nil (h : DD.nx Γ M) : ZS c tNext Γ M DD := fun R F σ H D hs L _ q => q.nx σ F H M Γ (Ex.refl F) L hs h
theorem zs_seq {t u : TS} (h : ZS c t Γ M { DD with nx := fun Γ' M' => ZS c u Γ' M' DD }) : ZS c (tSeq t u) Γ M DD := fun R F σ H D hs L X q =>
  h R F σ H { D with nx := u D } hs L X ⟨fun σ' F1 H1 M1 Γ1 e1 L1 hs1 h1 => h1 R F1 σ' H1 D hs1 L1 (X.mono e1) (q.mono e1), q.rt, q.bk, q.ct⟩
theorem zs_asg {g : TG} (h : ZE c ta Γ M fun d M1 => ZG c g d Γ M1 DD.nx) : ZS c (tAsg ta g) Γ M DD := fun R F σ H D hs L X q =>
  h R F σ H _ hs L X fun v F1 H1 M1 d e1 L1 r1 h1 => h1 R F1 σ H1 v _ (hs.mono e1) L1 (X.mono e1) r1 (q.nx.mono e1)
theorem zs_drop (h : ZE c ta Γ M fun _ M1 => DD.nx Γ M1) : ZS c (tDrop ta) Γ M DD := fun R F σ H D hs L X q =>
  h R F σ H _ hs L X fun v F1 H1 M1 d e1 L1 r1 h1 => q.nx σ F1 H1 M1 Γ e1 L1 (hs.mono e1) h1
theorem zs_ret (h : ZE c ta Γ M DD.rt) : ZS c (tRet ta) Γ M DD := fun R F σ H D hs L X q => h R F σ H _ hs L X q.rt
theorem zs_retN (h : DD.rt .non M) : ZS c tRetN Γ M DD := fun R F σ H D hs L X q => q.rt .non F H M .non (Ex.refl F) L .non h
theorem zs_break (h : DD.bk Γ M) : ZS c tBreak Γ M DD := fun R F σ H D hs L _ q => q.bk σ F H M Γ (Ex.refl F) L hs h
theorem zs_cont (h : DD.ct Γ M) : ZS c tCont Γ M DD := fun R F σ H D hs L _ q => q.ct σ F H M Γ (Ex.refl F) L hs h
theorem zs_if {t : TT} {u w : TS} (h : ZT c t Γ M fun b M1 => (b = true → ZS c u Γ M1 DD) ∧ (b = false → ZS c w Γ M1 DD)) : ZS c (tIfS t u w) Γ M DD := fun R F σ H D hs L X q =>
  h R F σ H _ hs L X fun b F1 H1 M1 b' e1 L1 r1 ⟨h1, h2⟩ => by
    subst r1
    cases b with
    | true => exact h1 rfl R F1 σ H1 D (hs.mono e1) L1 (X.mono e1) (q.mono e1)
    | false => exact h2 rfl R F1 σ H1 D (hs.mono e1) L1 (X.mono e1) (q.mono e1)
theorem ZS.imp {t : TS} {DD' : ZEnds} (h : ZS c t Γ M DD) (n : ∀ Γ' M', DD.nx Γ' M' → DD'.nx Γ' M') (r : ∀ d M', DD.rt d M' → DD'.rt d M') (b : ∀ Γ' M', DD.bk Γ' M' → DD'.bk Γ' M') (ct : ∀ Γ' M', DD.ct Γ' M' → DD'.ct Γ' M') : ZS c t Γ M DD' := fun R F σ H D hs L X q =>
  h R F σ H D hs L X ⟨fun v F' H' M' d e L' rr kk => q.nx v F' H' M' d e L' rr (n _ _ kk), fun v F' H' M' d e L' rr kk => q.rt v F' H' M' d e L' rr (r _ _ kk), fun v F' H' M' d e L' rr kk => q.bk v F' H' M' d e L' rr (b _ _ kk), fun v F' H' M' d e L' rr kk => q.ct v F' H' M' d e L' rr (ct _ _ kk)⟩
/-- a changing list of Mem changes no more: the slot j told as a frozen list -/
theorem zs_frz {t : TS} {i j : Nat} {a : Addr} {ds : List D} (hi : M[i]? = some (a, .lst ds)) (hj : Γ[j]? = some (some (.at a))) (h : ZS c t (Γ.set j (some (.lst ds))) (M.eraseIdx i) DD) : ZS c t Γ M DD := fun R F σ H D hs L X q => by
  have hl : i < M.length := (List.getElem?_eq_some_iff.mp hi).1
  have hi' : (M ++ R)[i]? = some (a, .lst ds) := by rw [List.getElem?_append_left hl]; exact hi
  obtain ⟨vs, hv, rv⟩ := L.at_ hi'
  obtain ⟨L2, e2⟩ := L.frz hi' hv
  rw [List.eraseIdx_append_of_lt_length hl] at L2
  refine h R _ σ H D ((hs.mono e2).weak (by rw [List.length_set]) fun n d hd => ?_) L2 (X.mono e2) (q.mono e2)
  by_cases hn : j = n
  · subst hn
    rw [List.getElem?_set_self (List.getElem?_eq_some_iff.mp hj).1] at hd
    cases hd
    refine ⟨_, hj, fun v hv => ?_⟩
    rw [hv.of_at]
    exact .mk_lst upd_same (rv.mono e2)
  · rw [List.getElem?_set_ne hn] at hd
    exact ⟨d, hd, fun _ h => h⟩
/-- a thing of Mem is forgotten -/
theorem zs_forget {t : TS} {i : Nat} (h : ZS c t Γ (M.eraseIdx i) DD) : ZS c t Γ M DD := fun R F σ H D hs L X q => by
  by_cases hl : i < M.length
  · have L2 := L.drop i
    rw [List.eraseIdx_append_of_lt_length hl] at L2
    exact h R F σ H D hs L2 X q
  · rw [List.eraseIdx_of_length_le (Nat.le_of_not_lt hl)] at h
    exact h R F σ H D hs L X q
/-- while: by a word and a measure -/
theorem zs_while {t : TT} {u : TS} (W : Nat → Gm → Mem → Prop) (m0 : Nat) (h0 : W m0 Γ M)
    (hs : ∀ m Γ1 M1, W m Γ1 M1 → ZT c t Γ1 M1 fun b M2 => (b = true → ZS c u Γ1 M2 { DD with nx := fun Γ' M' => ∃ m', m' < m ∧ W m' Γ' M', ct := fun Γ' M' => ∃ m', m' < m ∧ W m' Γ' M', bk := DD.nx }) ∧ (b = false → DD.nx Γ1 M2)) : ZS c (tWhile t u) Γ M DD := fun R F σ H D hσ L X q => by
  refine ⟨fun m σ' H' => ∃ F' Γ' M', Ex F F' ∧ Has c.K F' σ' Γ' ∧ Lay c.K F' (M' ++ R) H' ∧ W m Γ' M', ⟨m0, F, Γ, M, Ex.refl F, hσ, L, h0⟩, fun m σ' H' ⟨F1, Γ1, M1, e1, hs1, L1, w1⟩ => ?_⟩
  refine hs m Γ1 M1 w1 R F1 σ' H' _ hs1 L1 (X.mono e1) fun b F2 H2 M2 b' e2 L2 r2 ⟨h1, h2⟩ => ?_
  subst r2
  cases b with
  | true =>
    refine ⟨fun σ3 H3 => ∃ m', m' < m ∧ ∃ F' Γ' M', Ex F F' ∧ Has c.K F' σ3 Γ' ∧ Lay c.K F' (M' ++ R) H3 ∧ W m' Γ' M', fun σ3 H3 h => h, ?_⟩
    refine h1 rfl R F2 σ' H2 _ (hs1.mono e2) L2 (X.mono (e1.trans e2)) ⟨fun σ3 F3 H3 M3 Γ3 e3 L3 hs3 ⟨m', hm, w'⟩ => ⟨m', hm, F3, Γ3, M3, (e1.trans e2).trans e3, hs3, L3, w'⟩, q.rt.mono (e1.trans e2), q.nx.mono (e1.trans e2), fun σ3 F3 H3 M3 Γ3 e3 L3 hs3 ⟨m', hm, w'⟩ => ⟨m', hm, F3, Γ3, M3, (e1.trans e2).trans e3, hs3, L3, w'⟩⟩
  | false => exact q.nx σ' F2 H2 M2 Γ1 (e1.trans e2) L2 (hs1.mono e2) (h2 rfl)
/-- for: by a word of the turn -/
def ForK (c : Cz) (g : TG) (tb : TS) (Γ : Gm) (DD : ZEnds) (ds : List D) (M : Mem) : Prop := ∃ I : Nat → Gm → Mem → Prop, I 0 Γ M ∧
  (∀ i d Γ1 M1, ds[i]? = some d → I i Γ1 M1 → ZG c g d Γ1 M1 fun Γ2 M2 => ZS c tb Γ2 M2 { DD with nx := I (i + 1), ct := I (i + 1), bk := DD.nx }) ∧ ∀ Γ1 M1, I ds.length Γ1 M1 → DD.nx Γ1 M1
theorem zs_for {wi : TI} {g : TG} {tb : TS} (h : ZI c wi Γ M (ForK c g tb Γ DD)) : ZS c (tFor wi g tb) Γ M DD := fun R F σ H D hσ L X q => by
  refine h R F σ H _ hσ L X fun J F1 H1 M1 ds e1 L1 wk ⟨I, h0, hs, hd⟩ => ?_
  refine ⟨fun i m σ' H' => m = ds.length - i ∧ i ≤ ds.length ∧ ∃ F' Γ' M', Ex F1 F' ∧ Has c.K F' σ' Γ' ∧ Lay c.K F' (M' ++ R) H' ∧ I i Γ' M', ⟨ds.length, by simp, Nat.zero_le _, F1, Γ, M1, Ex.refl _, hσ.mono e1, L1, h0⟩, ?_⟩
  rintro i m σ' H' ⟨rfl, hi, F2, Γ2, M2, e2, hs2, L2, w2⟩
  obtain ⟨g1, g2, g3⟩ := wk F2 _ H' e2 L2
  by_cases hlt : i < ds.length
  · refine .inr ⟨g1 i hlt, fun σ3 H3 => ∃ F' Γ' M', Ex F1 F' ∧ Has c.K F' σ3 Γ' ∧ Lay c.K F' (M' ++ R) H3 ∧ I (i + 1) Γ' M', fun σ3 H3 z => ⟨ds.length - (i + 1), by omega, rfl, hlt, z⟩, fun x H3 y => ?_⟩
    obtain ⟨F3, e3, L3, r3⟩ := g3 i _ x H3 (List.getElem?_eq_getElem hlt) y
    have e13 : Ex F F3 := (e1.trans e2).trans e3
    refine hs i _ Γ2 M2 (List.getElem?_eq_getElem hlt) w2 R F3 σ' H3 x _ (hs2.mono e3) L3 (X.mono e13) r3 fun σ4 F4 H4 M4 Γ4 e4 L4 hs4 h4 => ?_
    exact h4 R F4 σ4 H4 _ hs4 L4 (X.mono (e13.trans e4)) ⟨fun σ5 F5 H5 M5 Γ5 e5 L5 hs5 w5 => ⟨F5, Γ5, M5, ((e2.trans e3).trans e4).trans e5, hs5, L5, w5⟩, q.rt.mono (e13.trans e4), q.nx.mono (e13.trans e4), fun σ5 F5 H5 M5 Γ5 e5 L5 hs5 w5 => ⟨F5, Γ5, M5, ((e2.trans e3).trans e4).trans e5, hs5, L5, w5⟩⟩
  · have e : i = ds.length := by omega
    subst e
    exact .inl ⟨g2 _ (Nat.le_refl _), q.nx σ' F2 H' M2 Γ2 (e1.trans e2) L2 hs2 (hd _ _ w2)⟩
/-- comprehensions -/
def Own (g : TG) (vs : List Nat) : Prop := ∀ (x : V) (σ : L2.St) (H : Hp) (Q : L2.St → Hp → Prop), g x σ H Q → g x σ H fun σ2 H2 => L2.wipe σ2 vs = L2.wipe σ vs ∧ Q σ2 H2
def Owns (g : TGs) (vs : List Nat) : Prop := ∀ (x : List V) (σ : L2.St) (H : Hp) (Q : L2.St → Hp → Prop), g x σ H Q → g x σ H fun σ2 H2 => L2.wipe σ2 vs = L2.wipe σ vs ∧ Q σ2 H2
theorem wipe_set_mem {σ : L2.St} {j : Nat} {x : Option V} : ∀ {vs : List Nat}, j ∈ vs → L2.wipe (σ.set j x) vs = L2.wipe σ vs
  | [], h => by simp at h
  | v :: vs, h => by
    unfold L2.wipe
    by_cases hv : j = v
    · subst hv
      have e : ∀ (ws : List Nat) (τ : L2.St), (L2.wipe (τ.set j x) ws).set j none = (L2.wipe τ ws).set j none := by
        intro ws
        induction ws with
        | nil =>
          intro τ
          exact List.set_set ..
        | cons w ws ih =>
          intro τ
          unfold L2.wipe
          by_cases hw : w = j
          · subst hw
            rw [ih τ]
          · rw [List.set_comm _ _ hw, ih τ, List.set_comm _ _ hw]
      exact e vs σ
    · rw [wipe_set_mem (vs := vs) ((List.mem_cons.mp h).resolve_left hv)]
theorem own_name {j : Nat} {vs : List Nat} (h : j ∈ vs) : Own (gName j) vs := fun x σ H Q q => ⟨wipe_set_mem h, q⟩
theorem owns_nil {vs : List Nat} : Owns gNil vs := fun x σ H Q ⟨e, q⟩ => ⟨e, rfl, q⟩
theorem owns_cons {g : TG} {gs : TGs} {vs : List Nat} (mono : ∀ (x : V) (σ : L2.St) (H : Hp) (Q Q' : L2.St → Hp → Prop), (∀ a b, Q a b → Q' a b) → g x σ H Q → g x σ H Q') (monos : ∀ (x : List V) (σ : L2.St) (H : Hp) (Q Q' : L2.St → Hp → Prop), (∀ a b, Q a b → Q' a b) → gs x σ H Q → gs x σ H Q') (h : Own g vs) (hs : Owns gs vs) : Owns (gCons g gs) vs := fun x σ H Q ⟨v, r, e, q⟩ => by
  refine ⟨v, r, e, mono _ _ _ _ _ (fun σ1 H1 ⟨e1, q1⟩ => ?_) (h v σ H _ q)⟩
  exact monos _ _ _ _ _ (fun σ2 H2 ⟨e2, q2⟩ => ⟨e2.trans e1, q2⟩) (hs r σ1 H1 Q q1)
theorem mono_name {j : Nat} (x : V) (σ : L2.St) (H : Hp) (Q Q' : L2.St → Hp → Prop) (i : ∀ a b, Q a b → Q' a b) (h : gName j x σ H Q) : gName j x σ H Q' := i _ _ h
theorem mono_nil (x : List V) (σ : L2.St) (H : Hp) (Q Q' : L2.St → Hp → Prop) (i : ∀ a b, Q a b → Q' a b) (h : gNil x σ H Q) : gNil x σ H Q' := ⟨h.1, i _ _ h.2⟩
theorem mono_cons {g : TG} {gs : TGs} (mono : ∀ (x : V) (σ : L2.St) (H : Hp) (Q Q' : L2.St → Hp → Prop), (∀ a b, Q a b → Q' a b) → g x σ H Q → g x σ H Q') (monos : ∀ (x : List V) (σ : L2.St) (H : Hp) (Q Q' : L2.St → Hp → Prop), (∀ a b, Q a b → Q' a b) → gs x σ H Q → gs x σ H Q')
    (x : List V) (σ : L2.St) (H : Hp) (Q Q' : L2.St → Hp → Prop) (i : ∀ a b, Q a b → Q' a b) (h : gCons g gs x σ H Q) : gCons g gs x σ H Q' := by
  obtain ⟨v, r, e, q⟩ := h
  exact ⟨v, r, e, mono _ _ _ _ _ (fun σ1 H1 q1 => monos _ _ _ _ _ i q1) q⟩
theorem mono_tup {K : Fg} {n : Nat} {gs : TGs} (monos : ∀ (x : List V) (σ : L2.St) (H : Hp) (Q Q' : L2.St → Hp → Prop), (∀ a b, Q a b → Q' a b) → gs x σ H Q → gs x σ H Q') (x : V) (σ : L2.St) (H : Hp) (Q Q' : L2.St → Hp → Prop) (i : ∀ a b, Q a b → Q' a b) (h : gTup K n gs x σ H Q) : gTup K n gs x σ H Q' := by
  obtain ⟨a, xs, e, s, hl, q⟩ := h
  exact ⟨a, xs, e, s, hl, monos _ _ _ _ _ i q⟩
theorem own_tup {K : Fg} {n : Nat} {gs : TGs} {vs : List Nat} (hs : Owns gs vs) : Own (gTup K n gs) vs := fun x σ H Q ⟨a, xs, e, s, hl, q⟩ => ⟨a, xs, e, s, hl, hs xs σ H Q q⟩
def LcK (c : Cz) (g : TG) (tt : TT) (te : TE) (vs : List Nat) (Γ : Gm) (k : List D → Mem → Prop) (ds : List D) (M : Mem) : Prop := ds.length ≤ sizeLine ∧ ∃ I : Nat → List D → Mem → Prop, I 0 [] M ∧
  (∀ i d acc M1, ds[i]? = some d → acc.length ≤ i → I i acc M1 → ZG c g d (zwipe Γ vs) M1 fun Γ2 M2 => ZT c tt Γ2 M2 fun b M3 => (b = true → ZE c te Γ2 M3 fun y M4 => I (i + 1) (acc ++ [y]) M4) ∧ (b = false → I (i + 1) acc M3)) ∧ ∀ acc M1, I ds.length acc M1 → k acc M1
/-- what a block's exceptions may be: none -/
abbrev Cz.blk (c : Cz) : Cz := ⟨c.K, fun _ _ _ _ => False, fun _ _ _ _ => False⟩
theorem xok_blk {R : Mem} {F : Hp} : XOk c.blk R F := fun _ _ _ _ _ _ _ _ _ _ _ _ h => h
theorem wipe_wipe {σ : L2.St} {vs : List Nat} : L2.wipe (L2.wipe σ vs) vs = L2.wipe σ vs := by
  have : ∀ (us : List Nat) (τ : L2.St), (∀ u ∈ us, ∀ z, τ[u]? = some z → z = none) → L2.wipe τ us = τ := by
    intro us
    induction us with
    | nil => intro τ _; rfl
    | cons u us ih =>
      intro τ ht
      unfold L2.wipe
      rw [ih τ fun v hv => ht v (List.mem_cons_of_mem _ hv)]
      apply List.ext_getElem?
      intro n
      by_cases hn : u = n
      · subst hn
        by_cases hl : u < τ.length
        · rw [List.getElem?_set_self hl]
          have := ht u List.mem_cons_self τ[u] (List.getElem?_eq_getElem hl)
          rw [List.getElem?_eq_getElem hl, this]
        · rw [List.getElem?_eq_none (by rw [List.length_set]; omega), List.getElem?_eq_none (by omega)]
      · rw [List.getElem?_set_ne hn]
  refine this vs _ fun u hu z hz => ?_
  cases z with
  | none => rfl
  | some y => exact absurd hu (L2.wipe_some hz).2
theorem lc_gen {wi : TI} {g : TG} {tt : TT} {te : TE} {vs : List Nat} {k : List D → Mem → Prop} {R : Mem} {F : Hp} {σ : L2.St} {H : Hp} {Q : VK} (ho : Own g vs) (h : ZI c wi Γ M (LcK c.blk g tt te vs Γ k)) (hσ : Has c.K F σ Γ) (L : Lay c.K F (M ++ R) H) (X : XOk c R F)
    (q : ∀ p ws F' H' M' ds, Ex F F' → Lay c.K F' (M' ++ (p, .lst ds) :: R) H' → H' p = some (.lst ws) → Rps c.K F' ws ds → k ds M' → Q (.ref p) H') : tLc wi g tt te vs σ H Q := by
  refine h R F σ H _ hσ L X fun J F1 H1 M1 ds e1 L1 wk ⟨hz, I, h0, hs, hd⟩ => ?_
  intro p hp
  refine ⟨fun i m H' => m = ds.length - i ∧ i ≤ ds.length ∧ ∃ F' M' acc, acc.length ≤ i ∧ Ex F1 F' ∧ Lay c.K F' (M' ++ (p, .lst acc) :: R) H' ∧ I i acc M', ⟨ds.length, by simp, Nat.zero_le _, F1, M1, [], Nat.le_refl _, Ex.refl _, ?_, h0⟩, ?_⟩
  · have L2 := L1.newM hp (o := .lst []) (mo := .lst []) ⟨[], upd_same, .nil⟩
    refine ⟨L2.fr, ?_, fun r hr => L2.ap r ?_, fun r hr => L2.mu r ?_⟩
    · have e : List.Perm (M1 ++ (p, MO.lst []) :: R) ((p, MO.lst []) :: (M1 ++ R)) := List.perm_middle
      exact ((e.map (·.1)).nodup_iff).mpr L2.nd
    · rcases List.mem_append.mp hr with hr | hr
      · exact List.mem_cons_of_mem _ (List.mem_append_left _ hr)
      · rcases List.mem_cons.mp hr with rfl | hr
        · exact List.mem_cons_self
        · exact List.mem_cons_of_mem _ (List.mem_append_right _ hr)
    · rcases List.mem_append.mp hr with hr | hr
      · exact List.mem_cons_of_mem _ (List.mem_append_left _ hr)
      · rcases List.mem_cons.mp hr with rfl | hr
        · exact List.mem_cons_self
        · exact List.mem_cons_of_mem _ (List.mem_append_right _ hr)
  · rintro i m H' ⟨rfl, hi, F2, M2, acc, hacc, e2, Lb, w2⟩
    obtain ⟨g1, g2, g3⟩ := wk F2 _ H' e2 Lb
    by_cases hlt : i < ds.length
    · refine .inr ⟨g1 i hlt, fun H3 => ∃ F' M' acc, acc.length ≤ i + 1 ∧ Ex F1 F' ∧ Lay c.K F' (M' ++ (p, .lst acc) :: R) H3 ∧ I (i + 1) acc M', fun H3 z => ⟨ds.length - (i + 1), by omega, rfl, hlt, z⟩, fun x H3 y => ?_⟩
      obtain ⟨F3, e3, L3, r3⟩ := g3 i _ x H3 (List.getElem?_eq_getElem hlt) y
      have e13 : Ex F F3 := (e1.trans e2).trans e3
      have z : g x (L2.wipe σ vs) H3 (fun σ2 H2 => tt σ2 H2 fun b H3 => if b = true then te σ2 H3 fun y H4 => ∃ acc, H4 p = some (.lst acc) ∧ acc.length < sizeLine ∧ ∃ F' M' acc', acc'.length ≤ i + 1 ∧ Ex F1 F' ∧ Lay c.K F' (M' ++ (p, .lst acc') :: R) (upd H4 p (.lst (acc ++ [y]))) ∧ I (i + 1) acc' M' else ∃ F' M' acc, acc.length ≤ i + 1 ∧ Ex F1 F' ∧ Lay c.K F' (M' ++ (p, .lst acc) :: R) H3 ∧ I (i + 1) acc M') := by
        refine hs i _ acc M2 (List.getElem?_eq_getElem hlt) hacc w2 ((p, .lst acc) :: R) F3 (L2.wipe σ vs) H3 x _ ((hσ.mono e13).wipe vs) L3 xok_blk r3 fun σ4 F4 H4 M4 Γ4 e4 L4 hs4 h4 => ?_
        refine h4 ((p, .lst acc) :: R) F4 σ4 H4 _ hs4 L4 xok_blk fun b F5 H5 M5 b' e5 L5 r5 ⟨h5, h6⟩ => ?_
        subst r5
        cases b with
        | true =>
          refine h5 rfl ((p, .lst acc) :: R) F5 σ4 H5 _ (hs4.mono e5) L5 xok_blk fun y F6 H6 M6 d6 e6 L6 r6 w6 => ?_
          have hat : (M6 ++ (p, MO.lst acc) :: R)[M6.length]? = some (p, .lst acc) := by
            rw [List.getElem?_append_right (Nat.le_refl _), Nat.sub_self]
            rfl
          obtain ⟨ws, hw, rw_⟩ := L6.at_ hat
          refine ⟨ws, hw, by rw [rw_.len]; omega, F6, M6, acc ++ [d6], by rw [List.length_append]; exact Nat.succ_le_succ hacc, (((e2.trans e3).trans e4).trans e5).trans e6, ?_, w6⟩
          have L7 := L6.set (o := .lst (ws ++ [y])) (mo' := .lst (acc ++ [d6])) hat ⟨_, upd_same, rw_.append (.one r6)⟩
          rw [List.set_append_right _ _ (Nat.le_refl _), Nat.sub_self] at L7
          exact L7
        | false => exact ⟨F5, M5, acc, Nat.le_succ_of_le hacc, ((e2.trans e3).trans e4).trans e5, L5, h6 rfl⟩
      have z2 := ho x _ H3 _ z
      rw [wipe_wipe] at z2
      exact z2
    · have e : i = ds.length := by omega
      subst e
      have hat : (M2 ++ (p, MO.lst acc) :: R)[M2.length]? = some (p, .lst acc) := by
        rw [List.getElem?_append_right (Nat.le_refl _), Nat.sub_self]
        rfl
      obtain ⟨ws, hw, rw_⟩ := Lb.at_ hat
      exact .inl ⟨g2 _ (Nat.le_refl _), q p ws F2 H' M2 acc (e1.trans e2) Lb hw rw_ (hd _ _ w2)⟩
end
end Z
set_option Elab.async false
set_option linter.all false
set_option maxRecDepth 100000
set_option maxHeartbeats 4000000
/-! ZRules: rules for operators, calls, sequences over ZBase. p_..: a rule of the hand layer with a reading of one name; z.., zr_.., zc_..: what such a reading asks of data. -/
namespace Z
open PySem PySem.Spec PyProof.Rows L2
variable {c : Cz}
/-! ### sequences -/
inductive Sf : D → List D → Prop
  | tup {ds} : Sf (.tup ds) ds
  | lst {ds} : Sf (.lst ds) ds
  | scr {ds} : Sf (.scr ds) ds
inductive Sq (M : Mem) : D → List D → Prop
  | tup {ds} : Sq M (.tup ds) ds
  | lst {ds} : Sq M (.lst ds) ds
  | scr {ds} : Sq M (.scr ds) ds
  | «at» {a : Addr} {ds} (i : Nat) (h : M[i]? = some (a, .lst ds)) : Sq M (.at a) ds
section
variable {K : Fg} {F H : Hp} {M R : Mem} {v : V} {d : D} {ds : List D}
theorem Lay.memAt {i : Nat} {a : Addr} {mo : MO} (L : Lay K F (M ++ R) H) (h : M[i]? = some (a, mo)) : MoOk K F H a mo := L.at_ (i := i) (by rw [List.getElem?_append_left (List.getElem?_eq_some_iff.mp h).1]; exact h)
theorem Lay.memSet {i : Nat} {a : Addr} {mo mo' : MO} {o : HO} (L : Lay K F (M ++ R) H) (h : M[i]? = some (a, mo)) (m : MoOk K F (upd H a o) a mo') : Lay K F (M.set i (a, mo') ++ R) (upd H a o) := by
  have hl : i < M.length := (List.getElem?_eq_some_iff.mp h).1
  have x := L.set (i := i) (by rw [List.getElem?_append_left hl]; exact h) m
  rw [List.set_append_left _ _ hl] at x
  exact x
theorem Sq.read (s : Sq M d ds) (L : Lay K F (M ++ R) H) (r : Rp K F v d) : ∃ a vs, v = .ref a ∧ (SqL K H a vs ∨ SqT K H a vs) ∧ Rps K F vs ds := by
  cases s with
  | tup =>
    obtain ⟨a, vs, e, h, q⟩ := r.of_tup
    exact ⟨a, vs, e, .inr (ex_t L.fr h), q⟩
  | lst =>
    obtain ⟨a, vs, e, h, q⟩ := r.of_lst
    exact ⟨a, vs, e, .inl (SqL.of (L.fr _ _ h)), q⟩
  | scr =>
    obtain ⟨a, vs, e, h, q⟩ := r.of_scr
    exact ⟨a, vs, e, .inl (ex_l L.fr h), q⟩
  | «at» i h =>
    obtain ⟨vs, e, q⟩ := L.memAt h
    exact ⟨_, vs, r.of_at, .inl (SqL.of e), q⟩
theorem Rps.atI {vs : List V} {i : Int} {e : D} (r : Rps K F vs ds) (h : L2.atI ds i = some e) : ∃ x, L2.atI vs i = some x ∧ Rp K F x e := by
  unfold L2.atI at h ⊢
  rw [r.len]
  cases q : L2.ixN ds.length i with
  | none =>
    rw [q] at h
    cases h
  | some j =>
    rw [q] at h
    exact r.get (show ds[j]? = some e from h)
end
/-- a list, however it stands -/
inductive Sl (M : Mem) : D → List D → Prop
  | lst {ds} : Sl M (.lst ds) ds
  | scr {ds} : Sl M (.scr ds) ds
  | «at» {a : Addr} {ds} (i : Nat) (h : M[i]? = some (a, .lst ds)) : Sl M (.at a) ds
theorem Sl.read {K : Fg} {F H : Hp} {M R : Mem} {v : V} {d : D} {ds : List D} (s : Sl M d ds) (L : Lay K F (M ++ R) H) (r : Rp K F v d) : ∃ a vs, v = .ref a ∧ SqL K H a vs ∧ Rps K F vs ds := by
  cases s with
  | lst =>
    obtain ⟨a, vs, e, h, q⟩ := r.of_lst
    exact ⟨a, vs, e, SqL.of (L.fr _ _ h), q⟩
  | scr =>
    obtain ⟨a, vs, e, h, q⟩ := r.of_scr
    exact ⟨a, vs, e, ex_l L.fr h, q⟩
  | «at» i h =>
    obtain ⟨vs, e, q⟩ := L.memAt h
    exact ⟨_, vs, r.of_at, SqL.of e, q⟩
/-! ### integers -/
def MulOk (i j : Int) : Prop := IntMulOk i j
theorem MulOk.of {i j : Int} (h : i.natAbs.log2 + j.natAbs.log2 < 1000000) : MulOk i j := CMulW.ok h
theorem bits_small {i : Int} (h : i.natAbs < 2 ^ 64) : Builtin.Int.intBits i ≤ 64 := by
  unfold Builtin.Int.intBits
  split
  · omega
  · rename_i h0
    have : i.natAbs.log2 < 64 := (Nat.log2_lt (by intro e; apply h0; simp [Int.natAbs_eq_zero.mp e])).mpr h
    omega
theorem MulOk.left {i j : Int} (h : i.natAbs < 2 ^ 64) : MulOk i j := IntMulOk.of_left (bits_small h)
theorem MulOk.right {i j : Int} (h : j.natAbs < 2 ^ 64) : MulOk i j := IntMulOk.of_right (bits_small h)
def DivOk (i j : Int) : Prop := j ≠ 0 ∧ Builtin.divisionGoesByPylong i j = false
section
variable {X : Cx}
theorem op_mulZ : OpR X (binaryOp .Mult) (rI MulOk fun i j => .int (i * j)) := opI fun _ _ _ _ _ _ _ hc q => mul_int q hc
theorem op_fdivZ : OpR X (binaryOp .FloorDiv) (rI DivOk fun i j => .int (i.fdiv j)) := opI fun _ _ _ _ _ _ _ hc q => floordiv_int hc.1 q (.inl hc.2)
end
def rAddS : R2 := fun x y H Q => ∃ i j, x = .str i ∧ y = .str j ∧ i.length + j.length ≤ sizeLine ∧ Q (.str (i ++ j)) H
def rAddZ (K : Fg) : R2 := fun x y H Q => rI0 (fun i j => .int (i + j)) x y H Q ∨ rCatA K x y H Q ∨ rCat x y H Q ∨ rAddS x y H Q
def rSubZ : R2 := rI0 fun i j => .int (i - j)
def rMulZ : R2 := fun x y H Q => rI MulOk (fun i j => .int (i * j)) x y H Q ∨ rRep x y H Q
def rModZ : R2 := rI (fun _ j => 0 < j) fun i j => .int (i % j)
def rDivZ : R2 := rI DivOk fun i j => .int (i.fdiv j)
def rPowZ : R2 := rI CPow fun i j => .int (i ^ j.toNat)
def rLtZ : R2 := rI0 fun i j => .bl (decide (i < j))
def rLeZ : R2 := rI0 fun i j => .bl (decide (i ≤ j))
def rGtZ : R2 := rI0 fun i j => .bl (decide (j < i))
def rGeZ : R2 := rI0 fun i j => .bl (decide (j ≤ i))
def rEqZ (K : Fg) : R2 := fun x y H Q => rEq x y H Q ∨ rEqD K x y H Q
def rNeZ (K : Fg) : R2 := fun x y H Q => rNe x y H Q ∨ rNeD K x y H Q
def rIsNZ : R2 := fun x y H Q => y = .non ∧ Q (.bl (decide (x = .non))) H
def rNotNZ : R2 := fun x y H Q => y = .non ∧ Q (.bl (!decide (x = .non))) H
def uNegZ : V → Hp → VK → Prop := rU fun i => .int (-i)
section
variable {X : Cx} {a b : Expr} {ta tb : TE} {pos : Pos}
theorem p_add (ha : PE X a ta) (hb : PE X b tb) : PE X (.BinOp a .Add b pos) (tOp (rAddZ X.K) ta tb) := pe_op (op_add.or (op_catA.or (op_cat.or op_add_str))) ha hb
theorem p_sub (ha : PE X a ta) (hb : PE X b tb) : PE X (.BinOp a .Sub b pos) (tOp rSubZ ta tb) := pe_op op_sub ha hb
theorem p_mul (ha : PE X a ta) (hb : PE X b tb) : PE X (.BinOp a .Mult b pos) (tOp rMulZ ta tb) := pe_op (op_mulZ.or op_rep) ha hb
theorem p_mod (ha : PE X a ta) (hb : PE X b tb) : PE X (.BinOp a .Mod b pos) (tOp rModZ ta tb) := pe_op op_mod ha hb
theorem p_fdiv (ha : PE X a ta) (hb : PE X b tb) : PE X (.BinOp a .FloorDiv b pos) (tOp rDivZ ta tb) := pe_op op_fdivZ ha hb
theorem p_pow (ha : PE X a ta) (hb : PE X b tb) : PE X (.BinOp a .Pow b pos) (tOp rPowZ ta tb) := pe_op op_pow ha hb
theorem p_neg (ha : PE X a ta) : PE X (.UnaryOp .USub a pos) (tUn uNegZ ta) := pe_un un_neg ha
theorem p_lt (ha : PE X a ta) (hb : PE X b tb) : PE X (.Compare a [.Lt] [b] pos) (tOp rLtZ ta tb) := pe_cmpR op_lt ha hb (nomark _)
theorem p_le (ha : PE X a ta) (hb : PE X b tb) : PE X (.Compare a [.LtE] [b] pos) (tOp rLeZ ta tb) := pe_cmpR op_le ha hb (nomark _)
theorem p_gt (ha : PE X a ta) (hb : PE X b tb) : PE X (.Compare a [.Gt] [b] pos) (tOp rGtZ ta tb) := pe_cmpR op_gt ha hb (nomark _)
theorem p_ge (ha : PE X a ta) (hb : PE X b tb) : PE X (.Compare a [.GtE] [b] pos) (tOp rGeZ ta tb) := pe_cmpR op_ge ha hb (nomark _)
theorem p_eq (hu : X.A.units + 64 < cLine) (ha : PE X a ta) (hb : PE X b tb) : PE X (.Compare a [.Eq] [b] pos) (tOp (rEqZ X.K) ta tb) := pe_cmpR (op_eq.or (op_eqD hu)) ha hb (nomark _)
theorem p_ne (hu : X.A.units + 64 < cLine) (ha : PE X a ta) (hb : PE X b tb) : PE X (.Compare a [.NotEq] [b] pos) (tOp (rNeZ X.K) ta tb) := pe_cmpR (op_ne.or (op_neD hu)) ha hb (nomark _)
theorem p_isN (ha : PE X a ta) (hb : PE X b tb) : PE X (.Compare a [.Is] [b] pos) (tOp rIsNZ ta tb) := pe_cmpR op_isN ha hb (nomark _)
theorem p_notN (ha : PE X a ta) (hb : PE X b tb) : PE X (.Compare a [.IsNot] [b] pos) (tOp rNotNZ ta tb) := pe_cmpR op_notN ha hb (nomark _)
/-- the same as tests -/
theorem q_lt (ha : PE X a ta) (hb : PE X b tb) : PT X (.Compare a [.Lt] [b] pos) (tTest (tOp rLtZ ta tb)) := pt_cmpR op_lt ha hb (nomark _)
theorem q_le (ha : PE X a ta) (hb : PE X b tb) : PT X (.Compare a [.LtE] [b] pos) (tTest (tOp rLeZ ta tb)) := pt_cmpR op_le ha hb (nomark _)
theorem q_gt (ha : PE X a ta) (hb : PE X b tb) : PT X (.Compare a [.Gt] [b] pos) (tTest (tOp rGtZ ta tb)) := pt_cmpR op_gt ha hb (nomark _)
theorem q_ge (ha : PE X a ta) (hb : PE X b tb) : PT X (.Compare a [.GtE] [b] pos) (tTest (tOp rGeZ ta tb)) := pt_cmpR op_ge ha hb (nomark _)
theorem q_eq (hu : X.A.units + 64 < cLine) (ha : PE X a ta) (hb : PE X b tb) : PT X (.Compare a [.Eq] [b] pos) (tTest (tOp (rEqZ X.K) ta tb)) := pt_cmpR (op_eq.or (op_eqD hu)) ha hb (nomark _)
theorem q_ne (hu : X.A.units + 64 < cLine) (ha : PE X a ta) (hb : PE X b tb) : PT X (.Compare a [.NotEq] [b] pos) (tTest (tOp (rNeZ X.K) ta tb)) := pt_cmpR (op_ne.or (op_neD hu)) ha hb (nomark _)
theorem q_isN (ha : PE X a ta) (hb : PE X b tb) : PT X (.Compare a [.Is] [b] pos) (tTest (tOp rIsNZ ta tb)) := pt_cmpR op_isN ha hb (nomark _)
theorem q_notN (ha : PE X a ta) (hb : PE X b tb) : PT X (.Compare a [.IsNot] [b] pos) (tTest (tOp rNotNZ ta tb)) := pt_cmpR op_notN ha hb (nomark _)
theorem p_mk {e : Expr} {t : TE} (h : PE X e t) : PE X e (mk t) := h
theorem p_fz {e : Expr} {t : TE} (h : PE X e t) : PE X e (fz t) := h
end
section
variable {M : Mem} {k : D → Mem → Prop} {i j : Int}
theorem zr_I0 {g : Int → Int → Int} (h : k (.int (g i j)) M) : ZR c (rI0 fun i j => .int (g i j)) (.int i) (.int j) M k := fun R F H v w Q L r1 r2 q => ⟨i, j, r1.of_int, r2.of_int, q _ F H M _ (Ex.refl F) L (.int _) h⟩
theorem zr_I {C : Int → Int → Prop} {g : Int → Int → Int} (hc : C i j) (h : k (.int (g i j)) M) : ZR c (rI C fun i j => .int (g i j)) (.int i) (.int j) M k := fun R F H v w Q L r1 r2 q => ⟨i, j, r1.of_int, r2.of_int, hc, q _ F H M _ (Ex.refl F) L (.int _) h⟩
theorem zr_B0 {g : Int → Int → Bool} (h : k (.bl (g i j)) M) : ZR c (rI0 fun i j => .bl (g i j)) (.int i) (.int j) M k := fun R F H v w Q L r1 r2 q => ⟨i, j, r1.of_int, r2.of_int, q _ F H M _ (Ex.refl F) L (.bl _) h⟩
theorem zr_addI (h : k (.int (i + j)) M) : ZR c (rAddZ c.K) (.int i) (.int j) M k := fun R F H v w Q L r1 r2 q => .inl (zr_I0 (c := c) (g := fun i j => i + j) h R F H v w Q L r1 r2 q)
theorem zr_sub (h : k (.int (i - j)) M) : ZR c rSubZ (.int i) (.int j) M k := zr_I0 (g := fun i j => i - j) h
theorem zr_mulI (hc : MulOk i j) (h : k (.int (i * j)) M) : ZR c rMulZ (.int i) (.int j) M k := fun R F H v w Q L r1 r2 q => .inl (zr_I (c := c) (C := MulOk) (g := fun i j => i * j) hc h R F H v w Q L r1 r2 q)
theorem zr_mod (hc : 0 < j) (h : k (.int (i % j)) M) : ZR c rModZ (.int i) (.int j) M k := zr_I (C := fun _ j => 0 < j) (g := fun i j => i % j) hc h
theorem zr_div (hc : DivOk i j) (h : k (.int (i.fdiv j)) M) : ZR c rDivZ (.int i) (.int j) M k := zr_I (C := DivOk) (g := fun i j => i.fdiv j) hc h
theorem zr_divP (h0 : 0 < j) (hc : Builtin.divisionGoesByPylong i j = false) (h : k (.int (i / j)) M) : ZR c rDivZ (.int i) (.int j) M k := zr_div ⟨by omega, hc⟩ (by rw [Int.fdiv_eq_ediv_of_nonneg i (by omega)]; exact h)
theorem zr_pow (hc : CPow i j) (h : k (.int (i ^ j.toNat)) M) : ZR c rPowZ (.int i) (.int j) M k := zr_I (C := CPow) (g := fun i j => i ^ j.toNat) hc h
theorem zr_lt (h : k (.bl (decide (i < j))) M) : ZR c rLtZ (.int i) (.int j) M k := zr_B0 (g := fun i j => decide (i < j)) h
theorem zr_le (h : k (.bl (decide (i ≤ j))) M) : ZR c rLeZ (.int i) (.int j) M k := zr_B0 (g := fun i j => decide (i ≤ j)) h
theorem zr_gt (h : k (.bl (decide (j < i))) M) : ZR c rGtZ (.int i) (.int j) M k := zr_B0 (g := fun i j => decide (j < i)) h
theorem zr_ge (h : k (.bl (decide (j ≤ i))) M) : ZR c rGeZ (.int i) (.int j) M k := zr_B0 (g := fun i j => decide (j ≤ i)) h
theorem zu_neg (h : k (.int (-i)) M) : ZU c uNegZ (.int i) M k := fun R F H v Q L r1 q => ⟨i, r1.of_int, q _ F H M _ (Ex.refl F) L (.int _) h⟩
/-- == of scalars -/
theorem zr_eqI (h : k (.bl (decide (i = j))) M) : ZR c (rEqZ c.K) (.int i) (.int j) M k := fun R F H v w Q L r1 r2 q => .inl (by
  rw [r1.of_int, r2.of_int]
  refine ⟨rfl, q _ F H M (.bl (decide (i = j))) (Ex.refl F) L ?_ h⟩
  rw [show decide (V.int i = V.int j) = decide (i = j) by simp]
  exact .bl _)
theorem zr_neI (h : k (.bl (!decide (i = j))) M) : ZR c (rNeZ c.K) (.int i) (.int j) M k := fun R F H v w Q L r1 r2 q => .inl (by
  rw [r1.of_int, r2.of_int]
  refine ⟨rfl, q _ F H M (.bl (!decide (i = j))) (Ex.refl F) L ?_ h⟩
  rw [show decide (V.int i = V.int j) = decide (i = j) by simp]
  exact .bl _)
theorem zr_eqB {i j : Bool} (h : k (.bl (decide (i = j))) M) : ZR c (rEqZ c.K) (.bl i) (.bl j) M k := fun R F H v w Q L r1 r2 q => .inl (by
  rw [r1.of_bl, r2.of_bl]
  refine ⟨rfl, q _ F H M (.bl (decide (i = j))) (Ex.refl F) L ?_ h⟩
  rw [show decide (V.bl i = V.bl j) = decide (i = j) by simp]
  exact .bl _)
theorem zr_neB {i j : Bool} (h : k (.bl (!decide (i = j))) M) : ZR c (rNeZ c.K) (.bl i) (.bl j) M k := fun R F H v w Q L r1 r2 q => .inl (by
  rw [r1.of_bl, r2.of_bl]
  refine ⟨rfl, q _ F H M (.bl (!decide (i = j))) (Ex.refl F) L ?_ h⟩
  rw [show decide (V.bl i = V.bl j) = decide (i = j) by simp]
  exact .bl _)
theorem zr_eqS {i j : Str} (h : k (.bl (decide (i = j))) M) : ZR c (rEqZ c.K) (.str i) (.str j) M k := fun R F H v w Q L r1 r2 q => .inl (by
  rw [r1.of_str, r2.of_str]
  refine ⟨rfl, q _ F H M (.bl (decide (i = j))) (Ex.refl F) L ?_ h⟩
  rw [show decide (V.str i = V.str j) = decide (i = j) by simp]
  exact .bl _)
theorem zr_neS {i j : Str} (h : k (.bl (!decide (i = j))) M) : ZR c (rNeZ c.K) (.str i) (.str j) M k := fun R F H v w Q L r1 r2 q => .inl (by
  rw [r1.of_str, r2.of_str]
  refine ⟨rfl, q _ F H M (.bl (!decide (i = j))) (Ex.refl F) L ?_ h⟩
  rw [show decide (V.str i = V.str j) = decide (i = j) by simp]
  exact .bl _)
def isNon : D → Bool
  | .non => true
  | _ => false
theorem non_iff {K : Fg} {F : Hp} {v : V} {d : D} (r : Rp K F v d) : decide (v = .non) = isNon d := by
  cases r <;> simp [isNon]
theorem zr_isN {d : D} (h : k (.bl (isNon d)) M) : ZR c rIsNZ d .non M k := fun R F H v w Q L r1 r2 q => ⟨r2.of_non, by
  rw [non_iff r1]
  exact q _ F H M _ (Ex.refl F) L (.bl _) h⟩
theorem zr_notN {d : D} (h : k (.bl (!isNon d)) M) : ZR c rNotNZ d .non M k := fun R F H v w Q L r1 r2 q => ⟨r2.of_non, by
  rw [non_iff r1]
  exact q _ F H M _ (Ex.refl F) L (.bl _) h⟩
/-- + of tuples, lists, texts -/
theorem zr_addT {xs ys : List D} (hl : xs.length + ys.length ≤ sizeLine) (h : k (.tup (xs ++ ys)) M) : ZR c (rAddZ c.K) (.tup xs) (.tup ys) M k := fun R F H v w Q L r1 r2 q => .inr (.inl (by
  obtain ⟨a, vs, rfl, s1, p1⟩ := r1.of_tup
  obtain ⟨b, ws, rfl, s2, p2⟩ := r2.of_tup
  refine ⟨a, b, vs, ws, rfl, rfl, ex_t L.fr s1, ex_t L.fr s2, by rw [p1.len, p2.len]; exact hl, fun e => ?_, fun e e2 => ?_, fun e e2 p hp => ?_⟩
  · have e' : xs = [] := List.eq_nil_of_length_eq_zero (by rw [← p1.len, e]; rfl)
    subst e'
    exact q _ F H M (.tup ys) (Ex.refl F) L (.mk_tup s2 p2) h
  · have e' : ys = [] := List.eq_nil_of_length_eq_zero (by rw [← p2.len, e2]; rfl)
    subst e'
    rw [List.append_nil] at h
    exact q _ F H M (.tup xs) (Ex.refl F) L (.mk_tup s1 p1) h
  · exact q _ _ _ M (.tup (xs ++ ys)) (ex_upd (L.free hp)) (L.new hp) (.mk_tup (SqT.of upd_same) ((p1.append p2).mono (ex_upd (L.free hp)))) h))
inductive St (M : Mem) : D → List D → Prop
  | lst {ds} : St M (.lst ds) ds
  | «at» {a : Addr} {ds} (i : Nat) (h : M[i]? = some (a, .lst ds)) : St M (.at a) ds
theorem St.read {K : Fg} {F H : Hp} {M R : Mem} {v : V} {d : D} {ds : List D} (s : St M d ds) (L : Lay K F (M ++ R) H) (r : Rp K F v d) : ∃ a vs, v = .ref a ∧ H a = some (.lst vs) ∧ Rps K F vs ds := by
  cases s with
  | lst =>
    obtain ⟨a, vs, e, h, q⟩ := r.of_lst
    exact ⟨a, vs, e, L.fr _ _ h, q⟩
  | «at» i h =>
    obtain ⟨vs, e, q⟩ := L.memAt h
    exact ⟨_, vs, r.of_at, e, q⟩
theorem zr_addL {x y : D} {xs ys : List D} (s1 : St M x xs) (s2 : St M y ys) (hl : xs.length + ys.length ≤ sizeLine) (h : k (.lst (xs ++ ys)) M) : ZR c (rAddZ c.K) x y M k := fun R F H v w Q L r1 r2 q => .inr (.inr (.inl (by
  obtain ⟨a, vs, rfl, e1, p1⟩ := s1.read L r1
  obtain ⟨b, ws, rfl, e2, p2⟩ := s2.read L r2
  exact ⟨a, b, vs, ws, rfl, rfl, e1, e2, by rw [p1.len, p2.len]; exact hl, fun p hp => q _ _ _ M (.lst (xs ++ ys)) (ex_upd (L.free hp)) (L.new hp) (.mk_lst upd_same ((p1.append p2).mono (ex_upd (L.free hp)))) h⟩)))
theorem zr_addS {x y : Str} (hl : x.length + y.length ≤ sizeLine) (h : k (.str (x ++ y)) M) : ZR c (rAddZ c.K) (.str x) (.str y) M k := fun R F H v w Q L r1 r2 q => .inr (.inr (.inr ⟨x, y, r1.of_str, r2.of_str, hl, q _ F H M _ (Ex.refl F) L (.str _) h⟩))
theorem Rps.rep {K : Fg} {F : Hp} {vs : List V} {ds : List D} (r : Rps K F vs ds) : ∀ n : Nat, Rps K F (List.replicate n vs).flatten (List.replicate n ds).flatten
  | 0 => .nil
  | n + 1 => by
    rw [List.replicate_succ, List.replicate_succ, List.flatten_cons, List.flatten_cons]
    exact r.append (r.rep n)
/-- list * int -/
theorem zr_repL {x : D} {xs : List D} {n : Int} (s1 : St M x xs) (h0 : -(2 ^ 63) ≤ n) (h1 : n < 2 ^ 63) (hl : xs.length * n.toNat ≤ sizeLine) (h : k (.lst (List.replicate n.toNat xs).flatten) M) : ZR c rMulZ x (.int n) M k := fun R F H v w Q L r1 r2 q => .inr (by
  obtain ⟨a, vs, rfl, e1, p1⟩ := s1.read L r1
  exact ⟨a, n, vs, rfl, r2.of_int, e1, h0, h1, by rw [p1.len]; exact hl, fun p hp => q _ _ _ M _ (ex_upd (L.free hp)) (L.new hp) (.mk_lst upd_same ((p1.rep n.toNat).mono (ex_upd (L.free hp)))) h⟩)
end
/-! ### subscripts, slices, membership -/
section
variable {X : Cx} {a b : Expr} {ta tb : TE} {pos p2 : Pos}
def rIxZ (K : Fg) : R2 := rIx K
theorem p_ix (ha : PE X a ta) (hb : PE X b tb) (hs : PlainIx b := by intro _ _; rfl) : PE X (.Subscript a b pos) (tOp (rIxZ X.K) ta tb) := pe_ix ix_seq ha hb hs
def rSlZ (K : Fg) : V → Option Int → Option Int → Hp → VK → Prop := fun x lo hi H Q => rSlL K x lo hi H Q ∨ rSlA K x lo hi H Q ∨ rSlS x lo hi H Q
theorem p_sl {lo hi : Option Expr} {tl th : TO} (he : PE X a ta) (hl : PO X lo tl) (hh : PO X hi th) : PE X (.Subscript a (.Slice lo hi none p2) pos) (tSl (rSlZ X.K) ta tl th) := pe_slice (sl_list.or (sl_tupA.or sl_str)) he hl hh
def rInZ (K : Fg) : R2 := rIn K false
def rNotInZ (K : Fg) : R2 := rIn K true
theorem p_in (ha : PE X a ta) (hb : PE X b tb) (hm : behindInMarks .In b = false := by rfl) : PE X (.Compare a [.In] [b] pos) (tOp (rInZ X.K) ta tb) := pe_cmpR op_in_seq ha hb hm
theorem p_notIn (ha : PE X a ta) (hb : PE X b tb) (hm : behindInMarks .NotIn b = false := by rfl) : PE X (.Compare a [.NotIn] [b] pos) (tOp (rNotInZ X.K) ta tb) := pe_cmpR op_notIn_seq ha hb hm
theorem q_in (ha : PE X a ta) (hb : PE X b tb) (hm : behindInMarks .In b = false := by rfl) : PT X (.Compare a [.In] [b] pos) (tTest (tOp (rInZ X.K) ta tb)) := pt_cmpR op_in_seq ha hb hm
theorem q_notIn (ha : PE X a ta) (hb : PE X b tb) (hm : behindInMarks .NotIn b = false := by rfl) : PT X (.Compare a [.NotIn] [b] pos) (tTest (tOp (rNotInZ X.K) ta tb)) := pt_cmpR op_notIn_seq ha hb hm
end
section
variable {M : Mem} {k : D → Mem → Prop} {Γ : Gm} {d : D} {ds : List D}
theorem zr_ix {i : Int} {e : D} (s : Sq M d ds) (hi : L2.atI ds i = some e) (h : k e M) : ZR c (rIxZ c.K) d (.int i) M k := fun R F H v w Q L r1 r2 q => by
  obtain ⟨a, vs, rfl, p, rr⟩ := s.read L r1
  obtain ⟨x, hx, rx⟩ := rr.atI hi
  have qq := q x F H M e (Ex.refl F) L rx h
  rcases p with p | p
  · exact .inl ⟨a, vs, i, x, rfl, r2.of_int, p, hx, qq⟩
  · exact .inr (.inl ⟨a, vs, i, x, rfl, r2.of_int, p, hx, qq⟩)
theorem zr_ixS {z : Str} {i : Int} {n : Nat} (hz : z.length ≤ sizeLine) (hi : L2.atI z.cps.toList i = some n) (h : k (.str ⟨#[n]⟩) M) : ZR c (rIxZ c.K) (.str z) (.int i) M k := fun R F H v w Q L r1 r2 q =>
  .inr (.inr ⟨z, i, n, r1.of_str, r2.of_int, hz, hi, q _ F H M _ (Ex.refl F) L (.str _) h⟩)
/-- the part of a slice -/
def ZO (c : Cz) (t : TO) (Γ : Gm) (M : Mem) (k : Option Int → Mem → Prop) : Prop :=
  ∀ (R : Mem) (F : Hp) (σ : L2.St) (H : Hp) (Q : Option Int → Hp → Prop), Has c.K F σ Γ → Lay c.K F (M ++ R) H → XOk c R F → KOk (fun _ (o : Option Int) o' => o = o') c.K R F k Q → t σ H Q
theorem zo_none {k : Option Int → Mem → Prop} (h : k none M) : ZO c tNoPart Γ M k := fun R F σ H Q hs L _ q => q none F H M none (Ex.refl F) L rfl h
theorem zo_some {te : TE} {k : Option Int → Mem → Prop} (h : ZE c te Γ M fun d M1 => ∃ i, d = .int i ∧ k (some i) M1) : ZO c (tPart te) Γ M k := fun R F σ H Q hs L X q =>
  h R F σ H _ hs L X fun v F1 H1 M1 d e1 L1 r1 ⟨i, e, h1⟩ => by
    subst e
    exact ⟨i, r1.of_int, q (some i) F1 H1 M1 (some i) e1 L1 rfl h1⟩
def ZSl (c : Cz) (r : V → Option Int → Option Int → Hp → VK → Prop) (d : D) (lo hi : Option Int) (M : Mem) (k : D → Mem → Prop) : Prop := ∀ (R : Mem) (F H : Hp) (v : V) (Q : VK), Lay c.K F (M ++ R) H → Rp c.K F v d → EOk c.K R F k Q → r v lo hi H Q
theorem z_sl {r : V → Option Int → Option Int → Hp → VK → Prop} {te : TE} {tl th : TO} (h : ZE c te Γ M fun d M1 => ZO c tl Γ M1 fun lo M2 => ZO c th Γ M2 fun hi M3 => ZSl c r d lo hi M3 k) : ZE c (tSl r te tl th) Γ M k := fun R F σ H Q hs L X q =>
  h R F σ H _ hs L X fun v F1 H1 M1 d e1 L1 r1 h1 => h1 R F1 σ H1 _ (hs.mono e1) L1 (X.mono e1) fun lo F2 H2 M2 lo' e2 L2 r2 h2 => h2 R F2 σ H2 _ ((hs.mono e1).mono e2) L2 (X.mono (e1.trans e2)) fun hi F3 H3 M3 hi' e3 L3 r3 h3 => by
    subst r2 r3
    exact h3 R F3 H3 v Q L3 (r1.mono (e2.trans e3)) (q.mono ((e1.trans e2).trans e3))
def cutD (xs : List D) (lo hi : Option Int) : List D := (xs.drop (HT.sIx xs.length 0 lo)).take (HT.sIx xs.length xs.length hi - HT.sIx xs.length 0 lo)
theorem Rps.cut {K : Fg} {F : Hp} {vs : List V} {ds : List D} (r : Rps K F vs ds) (lo hi : Option Int) : Rps K F (cutV vs lo hi) (cutD ds lo hi) := by
  unfold cutV cutD
  rw [r.len]
  exact (r.drop _).take _
/-- a slice of a list -/
theorem zl_list {lo hi : Option Int} (s : Sl M d ds) (h : k (.lst (cutD ds lo hi)) M) : ZSl c (rSlZ c.K) d lo hi M k := fun R F H v Q L r1 q => .inl (by
  obtain ⟨a, vs, rfl, p, rr⟩ := s.read L r1
  exact ⟨a, vs, rfl, p, fun p hp => q _ _ _ M _ (ex_upd (L.free hp)) (L.new hp) (.mk_lst upd_same ((rr.cut lo hi).mono (ex_upd (L.free hp)))) h⟩)
theorem zl_tup {lo hi : Option Int} (h : k (.tup (cutD ds lo hi)) M) : ZSl c (rSlZ c.K) (.tup ds) lo hi M k := fun R F H v Q L r1 q => .inr (.inl (by
  obtain ⟨a, vs, rfl, s1, rr⟩ := r1.of_tup
  refine ⟨a, vs, rfl, ex_t L.fr s1, fun ⟨e1, e2⟩ => ?_, fun _ p hp => q _ _ _ M _ (ex_upd (L.free hp)) (L.new hp) (.mk_tup (SqT.of upd_same) ((rr.cut lo hi).mono (ex_upd (L.free hp)))) h⟩
  have e : cutD ds lo hi = ds := by
    unfold cutD
    rw [← rr.len, e1, e2, List.drop_zero, Nat.sub_zero, rr.len, List.take_length]
  rw [e] at h
  exact q _ F H M _ (Ex.refl F) L (.mk_tup s1 rr) h))
theorem zl_str {z : Str} {lo hi : Option Int} (hz : z.length ≤ sizeLine) (h : k (.str (cutS z lo hi)) M) : ZSl c (rSlZ c.K) (.str z) lo hi M k := fun R F H v Q L r1 q => .inr (.inr ⟨z, r1.of_str, hz, q _ F H M _ (Ex.refl F) L (.str _) h⟩)
theorem Rps.ints {K : Fg} {F : Hp} : ∀ {ns : List Int} {vs : List V}, Rps K F vs (ns.map D.int) → vs = ns.map V.int
  | [], vs, r => r.unnil
  | n :: ns, vs, r => by
    obtain ⟨v, vs', rfl, r1, r2⟩ := r.uncons
    rw [r1.of_int, Rps.ints r2]
    rfl
theorem Rps.bls {K : Fg} {F : Hp} : ∀ {ns : List Bool} {vs : List V}, Rps K F vs (ns.map D.bl) → vs = ns.map V.bl
  | [], vs, r => r.unnil
  | n :: ns, vs, r => by
    obtain ⟨v, vs', rfl, r1, r2⟩ := r.uncons
    rw [r1.of_bl, Rps.bls r2]
    rfl
theorem Rps.strs {K : Fg} {F : Hp} : ∀ {ns : List Str} {vs : List V}, Rps K F vs (ns.map D.str) → vs = ns.map V.str
  | [], vs, r => r.unnil
  | n :: ns, vs, r => by
    obtain ⟨v, vs', rfl, r1, r2⟩ := r.uncons
    rw [r1.of_str, Rps.strs r2]
    rfl
theorem inV_ints (i : Int) : ∀ ns : List Int, inV (.int i) (ns.map V.int) = decide (i ∈ ns)
  | [] => rfl
  | n :: ns => by
    show (eqV (.int n) (.int i) || inV (.int i) (ns.map V.int)) = _
    rw [inV_ints i ns]
    have e : eqV (.int n) (.int i) = decide (i = n) := by
      show (n == i) = _
      by_cases h : n = i
      · subst h; simp
      · rw [beq_eq_false_iff_ne.mpr h, decide_eq_false (fun z => h z.symm)]
    rw [e, Bool.eq_iff_iff]
    simp
theorem all_flat_ints (ns : List Int) : (ns.map V.int).all flatV = true := by
  rw [List.all_map, List.all_eq_true]
  intro x _
  rfl
theorem zr_inI {i : Int} {ns : List Int} (s : Sq M d (ns.map D.int)) (h : k (.bl (decide (i ∈ ns))) M) : ZR c (rInZ c.K) (.int i) d M k := fun R F H v w Q L r1 r2 q => by
  obtain ⟨a, vs, rfl, p, rr⟩ := s.read L r2
  rw [rr.ints] at p
  refine ⟨a, _, rfl, p, by rw [r1.of_int]; rfl, all_flat_ints ns, ?_⟩
  rw [r1.of_int]
  show Q (.bl (inV (.int i) (ns.map V.int))) H
  rw [inV_ints]
  exact q _ F H M _ (Ex.refl F) L (.bl _) h
theorem zr_notInI {i : Int} {ns : List Int} (s : Sq M d (ns.map D.int)) (h : k (.bl (!decide (i ∈ ns))) M) : ZR c (rNotInZ c.K) (.int i) d M k := fun R F H v w Q L r1 r2 q => by
  obtain ⟨a, vs, rfl, p, rr⟩ := s.read L r2
  rw [rr.ints] at p
  refine ⟨a, _, rfl, p, by rw [r1.of_int]; rfl, all_flat_ints ns, ?_⟩
  rw [r1.of_int]
  show Q (.bl (!inV (.int i) (ns.map V.int))) H
  rw [inV_ints]
  exact q _ F H M _ (Ex.refl F) L (.bl _) h
end
/-! ### truth -/
/-- the truth of a datum -/
inductive TruD (M : Mem) : D → Bool → Prop
  | non : TruD M .non false
  | bl (b : Bool) : TruD M (.bl b) b
  | int (i : Int) : TruD M (.int i) (i != 0)
  | sq {d : D} {ds : List D} (s : Sq M d ds) : TruD M d (!ds.isEmpty)
theorem TruD.read {K : Fg} {F H : Hp} {M R : Mem} {v : V} {d : D} {b : Bool} (s : TruD M d b) (L : Lay K F (M ++ R) H) (r : Rp K F v d) : TruV K v H b := by
  cases s with
  | non => rw [r.of_non]; rfl
  | bl b => rw [r.of_bl]; rfl
  | int i => rw [r.of_int]; rfl
  | sq s =>
    obtain ⟨a, vs, rfl, p, rr⟩ := s.read L r
    have e : ∀ ds : List D, vs.length = ds.length → (!ds.isEmpty) = !vs.isEmpty := by
      intro ds h
      cases ds <;> cases vs <;> simp at h ⊢
    rw [e _ rr.len]
    rcases p with p | p
    · exact .inl ⟨vs, p, rfl⟩
    · exact .inr (.inl ⟨vs, p, rfl⟩)
def tTruZ (K : Fg) (t : TE) : TT := fun σ H Q => t σ H fun x H1 => ∃ k, TruV K x H1 k ∧ Q k H1
theorem q_truth {X : Cx} {a : Expr} {ta : TE} (ha : PE X a ta) (he : ∀ whole, isTrue a X.env whole = (do let v ← whole; standAt a.pos; holding [v] (truthy v)) := by intro _; rfl) : PT X a (tTruZ X.K ta) := pt_truth ha he
theorem zt_truth {ta : TE} {Γ : Gm} {M : Mem} {k : Bool → Mem → Prop} (h : ZE c ta Γ M fun d M1 => ∃ b, TruD M1 d b ∧ k b M1) : ZT c (tTruZ c.K ta) Γ M k := fun R F σ H Q hs L X q =>
  h R F σ H _ hs L X fun v F1 H1 M1 d e1 L1 r1 ⟨b, e, h1⟩ => ⟨b, e.read L1 r1, q b F1 H1 M1 b e1 L1 rfl h1⟩
/-! ### built-ins -/
def rLenZ (K : Fg) : List V → Hp → VK → Prop := fun xs H Q => ∃ x n, xs = [x] ∧ LenV K x H n ∧ Q (.int n) H
def rAbsZ : List V → Hp → VK → Prop := fun xs H Q => ∃ i, xs = [.int i] ∧ Q (.int (if i < 0 then -i else i)) H
def rMax2Z : List V → Hp → VK → Prop := fun xs H Q => ∃ i j, xs = [.int i, .int j] ∧ Q (.int (if j > i then j else i)) H
def rMin2Z : List V → Hp → VK → Prop := fun xs H Q => ∃ i j, xs = [.int i, .int j] ∧ Q (.int (if j < i then j else i)) H
def rIntZ : List V → Hp → VK → Prop := fun xs H Q => (∃ i, xs = [.int i] ∧ Q (.int i) H) ∨ ∃ k, xs = [.bl k] ∧ Q (.int (if k then 1 else 0)) H
def rListZ (K : Fg) : List V → Hp → VK → Prop := fun xs H Q => ∃ p ys, xs = [.ref p] ∧ (SqL K H p ys ∨ SqT K H p ys) ∧ ∀ l, H l = none → Q (.ref l) (upd H l (.lst ys))
def rTupZ (K : Fg) : List V → Hp → VK → Prop := fun xs H Q => ∃ p ys, xs = [.ref p] ∧ ((SqL K H p ys ∧ ∀ l, H l = none → Q (.ref l) (upd H l (.tup ys))) ∨ (SqT K H p ys ∧ Q (.ref p) H))
def rIsiZ (K : Fg) : List V → Hp → VK → Prop := rIsi K
def rGcdZ : List V → Hp → VK → Prop := rGcd
def rSumZ (K : Fg) : List V → Hp → VK → Prop := rSum K
def rAllZ (K : Fg) : List V → Hp → VK → Prop := rAll K
def rAnyZ (K : Fg) : List V → Hp → VK → Prop := rAny K
section
variable {X : Cx}
theorem cz_len : CallR X (.builtin "len") (rLenZ X.K) := call_len
theorem cz_abs : CallR X (.builtin "abs") rAbsZ := call_abs
theorem cz_max2 (hc : X.calm = true) : CallR X (.builtin "max") rMax2Z := call_max2 hc
theorem cz_min2 (hc : X.calm = true) : CallR X (.builtin "min") rMin2Z := call_min2 hc
theorem cz_int : CallR X (.type "int") rIntZ := call_int1
theorem cz_list : CallR X (.type "list") (rListZ X.K) := call_list_of
theorem cz_tuple : CallR X (.type "tuple") (rTupZ X.K) := call_tuple_of
theorem cz_isi : CallR X (.builtin "isinstance") (rIsiZ X.K) := call_isi
theorem cz_gcd : CallR X (.builtin "math.gcd") rGcdZ := cr_gcd
theorem cz_sum (hc : X.calm = true) : CallR X (.builtin "sum") (rSumZ X.K) := cr_sum hc
theorem cz_all (hc : X.calm = true) : CallR X (.builtin "all") (rAllZ X.K) := cr_all hc
theorem cz_any (hc : X.calm = true) : CallR X (.builtin "any") (rAnyZ X.K) := cr_any hc
end
theorem boot_isinstance : bootBuiltins "isinstance" = some (.builtin "isinstance") := by decide +kernel
theorem boot_abs : bootBuiltins "abs" = some (.builtin "abs") := by decide +kernel
theorem boot_max : bootBuiltins "max" = some (.builtin "max") := by decide +kernel
theorem boot_min : bootBuiltins "min" = some (.builtin "min") := by decide +kernel
theorem boot_sum : bootBuiltins "sum" = some (.builtin "sum") := by decide +kernel
theorem boot_all : bootBuiltins "all" = some (.builtin "all") := by decide +kernel
theorem boot_any : bootBuiltins "any" = some (.builtin "any") := by decide +kernel
theorem boot_int : bootBuiltins "int" = some (.type "int") := by decide +kernel
theorem boot_bool : bootBuiltins "bool" = some (.type "bool") := by decide +kernel
theorem boot_str : bootBuiltins "str" = some (.type "str") := by decide +kernel
theorem boot_list : bootBuiltins "list" = some (.type "list") := by decide +kernel
theorem boot_tuple : bootBuiltins "tuple" = some (.type "tuple") := by decide +kernel
theorem boot_sorted : bootBuiltins "sorted" = some (.builtin "sorted") := by decide +kernel
section
variable {M : Mem} {k : D → Mem → Prop} {d : D} {ds : List D} {i j : Int}
theorem Rps.one1 {K : Fg} {F : Hp} {vs : List V} {d : D} (r : Rps K F vs [d]) : ∃ v, vs = [v] ∧ Rp K F v d := by
  obtain ⟨v, vs', rfl, r1, r2⟩ := r.uncons
  exact ⟨v, by rw [r2.unnil], r1⟩
theorem Rps.two {K : Fg} {F : Hp} {vs : List V} {d e : D} (r : Rps K F vs [d, e]) : ∃ v w, vs = [v, w] ∧ Rp K F v d ∧ Rp K F w e := by
  obtain ⟨v, vs', rfl, r1, r2⟩ := r.uncons
  obtain ⟨w, rfl, r3⟩ := r2.one1
  exact ⟨v, w, rfl, r1, r3⟩
theorem zc_len (s : Sq M d ds) (h : k (.int ds.length) M) : ZC c (rLenZ c.K) [d] M k := fun R F H vs Q L r q => by
  obtain ⟨v, rfl, r1⟩ := r.one1
  obtain ⟨a, vs, rfl, p, rr⟩ := s.read L r1
  refine ⟨.ref a, ds.length, rfl, ?_, q _ F H M _ (Ex.refl F) L (.int _) h⟩
  rw [← rr.len]
  rcases p with p | p
  · exact .inl ⟨vs, p, rfl⟩
  · exact .inr ⟨vs, p, rfl⟩
theorem zc_lenS {z : Str} (hz : z.length ≤ sizeLine) (h : k (.int z.length) M) : ZC c (rLenZ c.K) [.str z] M k := fun R F H vs Q L r q => by
  obtain ⟨v, rfl, r1⟩ := r.one1
  rw [r1.of_str]
  exact ⟨.str z, z.length, rfl, ⟨hz, rfl⟩, q _ F H M _ (Ex.refl F) L (.int _) h⟩
theorem abs_eq (i : Int) : (if i < 0 then -i else i) = (i.natAbs : Int) := by
  split <;> omega
theorem zc_abs (h : k (.int (i.natAbs : Int)) M) : ZC c rAbsZ [.int i] M k := fun R F H vs Q L r q => by
  obtain ⟨v, rfl, r1⟩ := r.one1
  rw [r1.of_int]
  refine ⟨i, rfl, ?_⟩
  rw [abs_eq]
  exact q _ F H M _ (Ex.refl F) L (.int _) h
theorem zc_max2 (h : k (.int (max i j)) M) : ZC c rMax2Z [.int i, .int j] M k := fun R F H vs Q L r q => by
  obtain ⟨v, w, rfl, r1, r2⟩ := r.two
  rw [r1.of_int, r2.of_int]
  refine ⟨i, j, rfl, ?_⟩
  rw [show (if j > i then j else i) = max i j by split <;> omega]
  exact q _ F H M _ (Ex.refl F) L (.int _) h
theorem zc_min2 (h : k (.int (min i j)) M) : ZC c rMin2Z [.int i, .int j] M k := fun R F H vs Q L r q => by
  obtain ⟨v, w, rfl, r1, r2⟩ := r.two
  rw [r1.of_int, r2.of_int]
  refine ⟨i, j, rfl, ?_⟩
  rw [show (if j < i then j else i) = min i j by split <;> omega]
  exact q _ F H M _ (Ex.refl F) L (.int _) h
theorem zc_int (h : k (.int i) M) : ZC c rIntZ [.int i] M k := fun R F H vs Q L r q => by
  obtain ⟨v, rfl, r1⟩ := r.one1
  rw [r1.of_int]
  exact .inl ⟨i, rfl, q _ F H M _ (Ex.refl F) L (.int _) h⟩
theorem zc_intB {b : Bool} (h : k (.int (if b then 1 else 0)) M) : ZC c rIntZ [.bl b] M k := fun R F H vs Q L r q => by
  obtain ⟨v, rfl, r1⟩ := r.one1
  rw [r1.of_bl]
  exact .inr ⟨b, rfl, q _ F H M _ (Ex.refl F) L (.int _) h⟩
theorem zc_gcd (h : k (.int ((Nat.gcd i.natAbs j.natAbs : Nat) : Int)) M) : ZC c rGcdZ [.int i, .int j] M k := fun R F H vs Q L r q => by
  obtain ⟨v, w, rfl, r1, r2⟩ := r.two
  rw [r1.of_int, r2.of_int]
  exact ⟨i, j, rfl, q _ F H M _ (Ex.refl F) L (.int _) h⟩
theorem zc_sum {ns : List Int} (s : Sl M d (ns.map D.int)) (h : k (.int ns.sum) M) : ZC c (rSumZ c.K) [d] M k := fun R F H vs Q L r q => by
  obtain ⟨v, rfl, r1⟩ := r.one1
  obtain ⟨a, vs, rfl, p, rr⟩ := s.read L r1
  rw [rr.ints] at p
  exact ⟨a, ns, rfl, p, q _ F H M _ (Ex.refl F) L (.int _) h⟩
theorem zc_all {bs : List Bool} (s : Sl M d (bs.map D.bl)) (h : k (.bl (bs.all id)) M) : ZC c (rAllZ c.K) [d] M k := fun R F H vs Q L r q => by
  obtain ⟨v, rfl, r1⟩ := r.one1
  obtain ⟨a, vs, rfl, p, rr⟩ := s.read L r1
  rw [rr.bls] at p
  exact ⟨a, bs, rfl, p, q _ F H M _ (Ex.refl F) L (.bl _) h⟩
theorem zc_any {bs : List Bool} (s : Sl M d (bs.map D.bl)) (h : k (.bl (bs.any id)) M) : ZC c (rAnyZ c.K) [d] M k := fun R F H vs Q L r q => by
  obtain ⟨v, rfl, r1⟩ := r.one1
  obtain ⟨a, vs, rfl, p, rr⟩ := s.read L r1
  rw [rr.bls] at p
  exact ⟨a, bs, rfl, p, q _ F H M _ (Ex.refl F) L (.bl _) h⟩
theorem zc_list (s : Sq M d ds) (h : k (.lst ds) M) : ZC c (rListZ c.K) [d] M k := fun R F H vs Q L r q => by
  obtain ⟨v, rfl, r1⟩ := r.one1
  obtain ⟨a, vs, rfl, p, rr⟩ := s.read L r1
  exact ⟨a, vs, rfl, p, fun p hp => q _ _ _ M _ (ex_upd (L.free hp)) (L.new hp) (.mk_lst upd_same (rr.mono (ex_upd (L.free hp)))) h⟩
theorem zc_tuple (s : Sl M d ds) (h : k (.tup ds) M) : ZC c (rTupZ c.K) [d] M k := fun R F H vs Q L r q => by
  obtain ⟨v, rfl, r1⟩ := r.one1
  obtain ⟨a, vs, rfl, p, rr⟩ := s.read L r1
  exact ⟨a, vs, rfl, .inl ⟨p, fun p hp => q _ _ _ M _ (ex_upd (L.free hp)) (L.new hp) (.mk_tup (SqT.of upd_same) (rr.mono (ex_upd (L.free hp)))) h⟩⟩
theorem zc_tupleT (h : k (.tup ds) M) : ZC c (rTupZ c.K) [.tup ds] M k := fun R F H vs Q L r q => by
  obtain ⟨v, rfl, r1⟩ := r.one1
  obtain ⟨a, vs, rfl, p, rr⟩ := r1.of_tup
  exact ⟨a, vs, rfl, .inr ⟨ex_t L.fr p, q _ F H M _ (Ex.refl F) L (.mk_tup p rr) h⟩⟩
/-- a built-in call whose new list may change -/
theorem z_listM {ta : TA} {Γ : Gm} (h : ZA c ta Γ M fun ds M1 => ∃ d xs, ds = [d] ∧ Sq M1 d xs ∧ ∀ p, k (.at p) ((p, .lst xs) :: M1)) : ZE c (mk (tCB (rListZ c.K) ta)) Γ M k := fun R F σ H Q hs L X q =>
  h R F σ H _ hs L X fun vs F1 H1 M1 ds e1 L1 r1 ⟨d, xs, e, s, h1⟩ => by
    subst e
    obtain ⟨v, rfl, r2⟩ := r1.one1
    obtain ⟨a, vs, rfl, p, rr⟩ := s.read L1 r2
    exact ⟨a, vs, rfl, p, fun p hp => q _ F1 _ ((p, .lst xs) :: M1) (.at p) e1 (L1.newM hp ⟨vs, upd_same, rr⟩) (.at p) (h1 p)⟩
/-- isinstance of a built-in class -/
def tyD : D → Option String
  | .non => some "NoneType"
  | .bl _ => some "bool"
  | .int _ => some "int"
  | .str _ => some "str"
  | .tup _ => some "tuple"
  | .lst _ => some "list"
  | .scr _ => none
  | _ => none
theorem tyD_ok {K : Fg} {F H : Hp} {M : Mem} {v : V} {d : D} {T : String} (h : tyD d = some T) (L : Lay K F M H) (r : Rp K F v d) : TyX K H v (.type T) := by
  cases d with
  | non => cases h; rw [r.of_non]; exact .base .non
  | bl b => cases h; rw [r.of_bl]; exact .base (.bl b)
  | int b => cases h; rw [r.of_int]; exact .base (.int b)
  | str b => cases h; rw [r.of_str]; exact .base (.str b)
  | tup ds =>
    cases h
    obtain ⟨a, vs, rfl, p, _⟩ := r.of_tup
    rcases ex_t L.fr p with (p | ⟨o, p⟩) | ⟨o, its, n, p, hc, _⟩
    · exact .base (.tup p)
    · exact .fTuple p
    · exact .kTuple p hc
  | lst ds =>
    cases h
    obtain ⟨a, vs, rfl, p, _⟩ := r.of_lst
    exact .base (.lst (L.fr _ _ p))
  | _ => cases h
theorem zc_isi {T U : String} {b : Bool} (ht : tyD d = some T) (hk : kitB T U = some b) (h : k (.bl b) M) : ZC c (rIsiZ c.K) [d, .ty U] M k := fun R F H vs Q L r q => by
  obtain ⟨v, w, rfl, r1, r2⟩ := r.two
  rw [r2.of_ty]
  exact ⟨v, .ty U, .type T, .type U, b, rfl, .ty U, tyD_ok ht L r1, kit_ty hk, q _ F H M _ (Ex.refl F) L (.bl _) h⟩
theorem zc_isiAt {a : Addr} {i : Nat} (hi : M[i]? = some (a, .lst ds)) {U : String} {b : Bool} (hk : kitB "list" U = some b) (h : k (.bl b) M) : ZC c (rIsiZ c.K) [.at a, .ty U] M k := fun R F H vs Q L r q => by
  obtain ⟨v, w, rfl, r1, r2⟩ := r.two
  rw [r2.of_ty, r1.of_at]
  obtain ⟨vs, e, _⟩ := L.memAt hi
  exact ⟨_, .ty U, .type "list", .type U, b, rfl, .ty U, .base (.lst e), kit_ty hk, q _ F H M _ (Ex.refl F) L (.bl _) h⟩
theorem kit_ii : kitB "int" "int" = some true := by decide +kernel
theorem kit_ib : kitB "int" "bool" = some false := by decide +kernel
theorem kit_bi : kitB "bool" "int" = some true := by decide +kernel
theorem kit_bb : kitB "bool" "bool" = some true := by decide +kernel
theorem kit_tt : kitB "tuple" "tuple" = some true := by decide +kernel
theorem kit_ll : kitB "list" "list" = some true := by decide +kernel
theorem kit_ss : kitB "str" "str" = some true := by decide +kernel
theorem kit_nt : kitB "NoneType" "tuple" = some false := by decide +kernel
end
end Z
set_option Elab.async false
set_option linter.all false
set_option maxRecDepth 100000
set_option maxHeartbeats 4000000
/-! ZMore: methods of lists, stores, comprehensions, iterators, calls of defs, a def's body, a law's end. -/
namespace PySem
/-- enumerate(v) of whatever begins so -/
theorem meets_enumerate_newG {v : Value} {o : Obj} {H : Heap → Prop} (B : Begins v o H) :
    Meets (Builtin.«enumerate.__new__» ⟨[.type "enumerate", v], []⟩) (fun _ R s => H s.heap ∧
      R (.ok (.ret (.ref (s.heap.push o).objs.size))) { s with heap := (s.heap.push o).push { cls := .type "enumerate", data := .fields #[.none, .bool false, .ref s.heap.objs.size, rawInt 0, .none, .none] } }) :=
  .of_wp fun prog w A R s h => by
    obtain ⟨hp, g, d, tk, os⟩ := s; obtain ⟨h1, h⟩ := h
    have hsub := sub_enumerate
    have q1 : ∀ {A' : Around} {E : Value → Shared → Prop} {Q : Value → Shared → Prop}, Q (.ref hp.objs.size) ⟨hp.push o, g, d, tk, os⟩ → wpAny (model prog w) A' (pyIter v) Q E ⟨hp, g, d, tk, os⟩ :=
      fun q => B.iter prog w _ _ ⟨hp, g, d, tk, os⟩ _ h1 q
    wp_walk using q1
    refine wpAny_stack_any fun st => wpAny_pure ?_
    split
    · rename_i c _ _ _ _ _
      cases (c == Value.type "enumerate")
      · wp_walk using q1
        exact ⟨_, rfl, h⟩
      · wp_walk using q1
        exact ⟨_, rfl, h⟩
    · wp_walk using q1
      exact ⟨_, rfl, h⟩
section
variable {prog : Program} {w : World} {A : Around} {E : Value → Shared → Prop} {s : Shared}
theorem enum_beginsG {v : Value} {o : Obj} {H : Heap → Prop} {Q : Value → Shared → Prop} (B : Begins v o H) (h1 : H s.heap)
    (h : ∀ h', IsEnum h' (s.heap.objs.size + 1) s.heap.objs.size 0 .none → h'.get? s.heap.objs.size = some o → h'.objs.size = s.heap.objs.size + 2 →
      (∀ b o, s.heap.get? b = some o → h'.get? b = some o) → Q (.ref (s.heap.objs.size + 1)) { s with heap := h' }) :
    wpAny (model prog w) A (call (.type "enumerate") [v]) Q E s := by
  refine callType_new F.called_enumerate (by decide) (F.typeCall_enumerate_1 _) (F.newCall_enumerate_1 _) (fun obj => F.args_object_init_2 obj _) F.entry_enumerate_new
    (meets_enumerate_newG B) ⟨h1, ?_⟩
  have hz : (s.heap.push o).objs.size = s.heap.objs.size + 1 := Heap.size_push ..
  show _ ∧ _
  rw [hz]
  have he : IsEnum ((s.heap.push o).push { cls := .type "enumerate", data := .fields #[.none, .bool false, .ref s.heap.objs.size, rawInt 0, .none, .none] }) (s.heap.objs.size + 1) s.heap.objs.size 0 .none := by
    have := Heap.get?_push_size (s.heap.push o) (o := { cls := .type "enumerate", data := .fields #[.none, .bool false, .ref s.heap.objs.size, rawInt 0, .none, .none] }) rfl
    rw [hz] at this; exact this
  refine ⟨⟨_, he, rfl⟩, h _ he (Heap.get?_push_of_some _ (Heap.get?_push_size _ B.free)) (by rw [Heap.size_push, hz]) fun b o x => Heap.get?_push_of_some _ (Heap.get?_push_of_some _ x)⟩
end
end PySem
namespace Z
open PySem PySem.Spec PyProof.Rows L2
variable {c : Cz}
/-! ### enumerate of a tuple -/
def IteT (K : Fg) (a : Addr) (n : Nat) : It :=
  ⟨fun i H => ∃ (xs : List V) (x : V), SqT K H a xs ∧ xs[i]? = some x ∧ xs.length = n, fun i H v H' => ∃ T x, v = .ref T ∧ H T = none ∧ H' = upd H T (.tup [.int (i : Nat), x]) ∧ ∀ xs, SqT K H a xs → xs[i]? = some x, fun i H => ∃ xs : List V, SqT K H a xs ∧ xs.length = n ∧ n ≤ i⟩
theorem turn_enumT {P : Program} {w : World} {K : Fg} {elts : List Expr} {kk : Nat} {tpos : Pos} (a e it : Addr) (n : Nat) :
    Turn P w K (.Tuple elts kk tpos) (IteT K a n) [e, it] e (fun i h => (∃ old, IsEnum h e it ((i : Nat) : Int) old) ∧ h.IsTupleIter it a i ∧ e ≠ it ∧ i ≤ n ∧ a ≠ it ∧ a ≠ e) where
  mem := by simp
  obj := fun i h st b hb => by
    obtain ⟨⟨old, he⟩, ⟨o, ho, hc, hd⟩, _⟩ := st
    have e' : b = e ∨ b = it := by simpa using hb
    rcases e' with z | z
    · rw [z]; exact ⟨_, he, fun v q => nomatch q⟩
    · rw [z]; exact ⟨o, ho, fun v q => by rw [hd] at q; cases q⟩
  keep := fun i h h' st k => let ⟨⟨old, he⟩, hi, hne⟩ := st; ⟨⟨old, k e (by simp) _ he⟩, hi.at fun o q => k it (by simp) o q, hne⟩
  item := by
    intro X hP hw hK hc i pins s σ H E I hf st hg
    subst hP hw hK
    obtain ⟨⟨old, he⟩, hit, hne, hin, hai, hae⟩ := st
    obtain ⟨xs, x, hq, hx, hn⟩ := hg
    obtain ⟨its, rv, p, hz⟩ := I.tuple hq
    obtain ⟨u, hu, ru⟩ := rv.get hx
    have hel : e < s.heap.objs.size := Heap.lt_size he
    have hil : it < s.heap.objs.size := by obtain ⟨_, q, _⟩ := hit; exact Heap.lt_size q
    have hlen : its.toArray.size = n := by rw [List.size_toArray, ← rv.length, hn]
    have hlt : i < its.toArray.size := by
      rw [List.size_toArray, ← rv.length]
      exact (List.getElem?_eq_some_iff.mp hx).1
    refine wpAny_pyNext_enum_itemC (Draws.tuple (A := X.A.in1) (I.ok.hd hc) it a hai its.toArray) he ⟨hit, p⟩ hlt hne (by simp [hne, hae.symm]) fun u' h' tk hu' ho hst' hT hsz hk => ?_
    have eu : u' = u := by
      rw [List.getElem?_toArray] at hu'
      rw [hu] at hu'
      exact (Option.some.inj hu').symm
    subst eu
    refine ⟨_, rfl, wpAny_letOwnedTupleGo_enum (s := { s with heap := h', toks := tk + 1 }) ho fun h'' he' sb => ?_⟩
    have hT2 : h''.get? s.heap.objs.size = some { cls := .type "tuple", data := .seq #[.int i tk, u'] } := (sb.2 _ (Nat.ne_of_gt hel)).trans hT
    have new : ObjOk X.prog X.w (upd H s.heap.objs.size (.tup [.int (i : Nat), x])) h'' s.heap.objs.size (.tup [.int (i : Nat), x]) :=
      ⟨by show 2 ≤ sizeLine; decide, [.int i tk, u'], .cons ⟨_, rfl⟩ (.cons ru .nil), ⟨_, hT2, rfl, _, rfl⟩⟩
    have I1 : Inv X pins σ (upd H s.heap.objs.size (.tup [.int (i : Nat), x])) { s with heap := h'', toks := tk + 1 } :=
      I.turnedNew (ch := [e, it]) (fun b ob hb q => (sb.2 b (fun z => hb (by simp [z]))).trans (hk b ob (fun z => hb (by simp [z])) (fun z => hb (by simp [z])) q)) hf (Nat.le_refl _) new
    refine ⟨.ref s.heap.objs.size, _, I1, rfl, ⟨_, x, rfl, I.hok.fresh (Nat.le_refl _), rfl, fun ys hy => by rw [I.tuple_inj hy hq]; exact hx⟩, ⟨⟨u', ?_⟩, hst'.1.at fun o q => (sb.2 it (Ne.symm hne)).trans q, hne, by omega, hai, hae⟩, fun b hb => ?_⟩
    · have e1 : ((i + 1 : Nat) : Int) = (i : Int) + 1 := by omega
      rw [e1]; exact he'
    · have hb' : b < s.heap.objs.size := by
        have e' : b = e ∨ b = it := by simpa using hb
        rcases e' with z | z
        · rw [z]; exact hel
        · rw [z]; exact hil
      rw [upd_ne (Nat.ne_of_lt hb')]
      exact (hf b hb).1
  done := by
    intro X hP hw hK hc i pins s σ H E I hf st hg
    subst hP hw hK
    obtain ⟨⟨old, he⟩, hit, hne, hin, hai, hae⟩ := st
    obtain ⟨xs, hq, hn, hx⟩ := hg
    obtain ⟨its, rv, p, hz⟩ := I.tuple hq
    obtain ⟨f0, f1, f2, f3, f4, f5⟩ := hf it (by simp)
    have ei : i = its.toArray.size := by rw [List.size_toArray, ← rv.length]; omega
    refine wpAny_pyNext_enum_endD (Draws.tuple (A := X.A.in1) (I.ok.hd hc) it a hai its.toArray) he (by rw [← ei]; exact ⟨hit, p⟩) fun h' eb => ⟨rfl, I.turned (t' := s.toks) (fun b o hb q => eb b o hb q) f0 f1 f3 f4 f5⟩
  self := fun A i s Q E st h => let ⟨⟨_, he⟩, _⟩ := st; wpAny_pyIter_enum he h
/-- enumerate of a list or a tuple -/
def iEnumZ (K : Fg) (ta : TA) : TI := fun σ H R => ta σ H fun vs H1 => ∃ a xs, vs = [.ref a] ∧ ((SqL K H1 a xs ∧ R (Ite K a) H1) ∨ (SqT K H1 a xs ∧ R (IteT K a xs.length) H1))
theorem pi_enumZ {X : Cx} {e : Expr} {ta : TA} {p pos tpos : Pos} {elts : List Expr} {kk : Nat} (hg : Gl X "enumerate") (hm : X.mg "enumerate" = none) (ha : PA X [e] ta) (hs : starEach [e] X.env = [(false, eval e X.env)] := by rfl) :
    PI X (.Tuple elts kk tpos) (.Call (.Name "enumerate" p) [e] [] pos) (iEnumZ X.K ta) := by
  refine ⟨fun pins s σ H R I h => ?_⟩
  refine Call_ (ld_blt I hg hm boot_enumerate (PyProof.Rows.callWith_type1 (thn (ha.run pos pins s σ H _ I h) fun us s1 ⟨vs, H1, I1, r1, q1⟩ => ?_) hs rfl))
  obtain ⟨a, xs, ex, q⟩ := q1
  subst ex
  cases r1 with
  | cons r rr =>
    cases rr
    cases r
    have fin : ∀ (tn : Nat → Heap → Prop) (J : It) (h' : Heap), (∀ b o, s1.heap.get? b = some o → h'.get? b = some o) → Turn X.prog X.w X.K (.Tuple elts kk tpos) J [s1.heap.objs.size + 1, s1.heap.objs.size] (s1.heap.objs.size + 1) tn → tn 0 h' → R J H1 → PIE X pins σ (.Tuple elts kk tpos) R (.ref (s1.heap.objs.size + 1)) { s1 with heap := h' } := fun tn J h' hk tt t0 q => by
      have I2 : Inv X pins σ H1 { s1 with heap := h' } := I1.kept (t' := s1.toks) hk
      refine ⟨s1.heap.objs.size + 1, [s1.heap.objs.size + 1, s1.heap.objs.size], tn, J, H1, rfl, I2, tt, t0, fun b hb => ?_, q⟩
      have e' : b = s1.heap.objs.size + 1 ∨ b = s1.heap.objs.size := by simpa using hb
      have hle : s1.heap.objs.size ≤ b := by
        rcases e' with z | z
        · rw [z]; exact Nat.le_add_right _ _
        · rw [z]; exact Nat.le_refl _
      exact I1.fpOk hle (I1.hok.fresh hle)
    rcases q with ⟨hq, q⟩ | ⟨hq, q⟩
    · obtain ⟨its, rv, p', hz⟩ := I1.list hq
      exact call_enumerate_list p'.isList fun h' he hit hsz hk => wpAny_pyIter_enum he (fin _ _ h' hk (turn_enum a (s1.heap.objs.size + 1) s1.heap.objs.size) ⟨⟨.none, he⟩, hit, Nat.succ_ne_self _⟩ q)
    · obtain ⟨its, rv, p', hz⟩ := I1.tuple hq
      have hal : a < s1.heap.objs.size := p'.lt
      refine enum_beginsG (begins_tuple a its.toArray) p' fun h' he hit hsz hk => wpAny_pyIter_enum he (fin _ _ h' hk (turn_enumT a (s1.heap.objs.size + 1) s1.heap.objs.size xs.length) ⟨⟨.none, he⟩, ⟨_, hit, rfl, rfl⟩, Nat.succ_ne_self _, Nat.zero_le _, Nat.ne_of_lt hal, Nat.ne_of_lt (Nat.lt_succ_of_lt hal)⟩ q)
/-! ### a list, a tuple, a text walked -/
def iSeqZ (K : Fg) (tl : TE) : TI := fun σ H R => tl σ H fun x H1 => (∃ a, x = .ref a ∧ (∃ xs, SqL K H1 a xs) ∧ R (Itl K a) H1) ∨ (∃ a, x = .ref a ∧ (∃ xs, SqT K H1 a xs) ∧ R (Itt K a) H1) ∨ ∃ x', x = .str x' ∧ R (Its x') H1
theorem pi_seqZ {X : Cx} {tg l : Expr} {tl : TE} (hl : PE X l tl) : PI X tg l (iSeqZ X.K tl) := by
  refine ⟨fun pins s σ H R I h => ?_⟩
  refine thn (hl.run pins s σ H _ I h) fun v s1 ⟨x, H1, I1, r1, q1⟩ => ?_
  rcases q1 with ⟨a, e, ⟨xs, hq⟩, q⟩ | ⟨a, e, ⟨xs, hq⟩, q⟩ | ⟨x', ex, q⟩
  · subst e
    cases r1
    obtain ⟨its, rv, p, hz⟩ := I1.list hq
    refine wpAny_pyIter_list p.isList ?_
    refine ⟨s1.heap.objs.size, [s1.heap.objs.size], _, _, H1, rfl, I1.kept (t' := s1.toks) fun b o e => Heap.get?_push_of_some _ e, turn_list a _, ⟨_, Heap.get?_push_size _ rfl, rfl, rfl⟩, fun b hb => ?_, q⟩
    have e : b = s1.heap.objs.size := by simpa using hb
    subst e
    exact I1.fpOk (Nat.le_refl _) (I1.hok.fresh (Nat.le_refl _))
  · subst e
    cases r1
    obtain ⟨its, rv, p, hz⟩ := I1.tuple hq
    refine wpAny_pyIter_tuple (show s1.heap.IsTuple a its.toArray from p) ?_
    refine ⟨s1.heap.objs.size, [s1.heap.objs.size], _, _, H1, rfl, I1.kept (t' := s1.toks) fun b o e => Heap.get?_push_of_some _ e, turn_tuple a _, ⟨_, Heap.get?_push_size _ rfl, rfl, rfl⟩, fun b hb => ?_, q⟩
    have e : b = s1.heap.objs.size := by simpa using hb
    subst e
    exact I1.fpOk (Nat.le_refl _) (I1.hok.fresh (Nat.le_refl _))
  · subst ex
    obtain ⟨t, rfl⟩ := r1
    cases ha : x'.cps.all (· < 128)
    · exact wpAny_pyIter_wide ha (pi_one (tk := s1.toks) I1 _ (turn_str _ x' t "str_iterator" (.inr rfl)) ⟨_, Heap.get?_push_size _ rfl, rfl, rfl⟩ q)
    · exact wpAny_pyIter_ascii ha (pi_one (tk := s1.toks) I1 _ (turn_str _ x' t "str_ascii_iterator" (.inl rfl)) ⟨_, Heap.get?_push_size _ rfl, rfl, rfl⟩ q)
section
variable {Γ : Gm} {M : Mem} {kk : List D → Mem → Prop}
theorem walks_l {K : Fg} {F : Hp} {a : Addr} {vs : List V} {ds : List D} (h : SqL K F a vs) (r : Rps K F vs ds) (inj : ∀ F1 M1 H1, Ex F F1 → Lay K F1 M1 H1 → ∀ xs, SqL K H1 a xs → xs = vs) : Walks K F (Itl K a) ds := fun F1 M1 H1 e L => by
  have hs : SqL K H1 a vs := ex_l L.fr (ex_l e h)
  refine ⟨fun i hi => ⟨vs, vs[i]'(by rw [r.len]; exact hi), hs, List.getElem?_eq_getElem _⟩, fun i hi => ⟨vs, hs, by rw [r.len]; exact hi⟩, fun i d x H2 hd hy => ?_⟩
  obtain ⟨rfl, hy⟩ := hy
  obtain ⟨v, hv, rv⟩ := r.get hd
  have ev : x = v := Option.some.inj ((hy vs hs).symm.trans hv)
  subst ev
  exact ⟨F1, Ex.refl _, L, rv.mono e⟩
/-- what stands at an address is one thing alone, whatever heap it is read in (no injectivity is needed: a turn's datum is told by the row that we know) -/
theorem walks_list {K : Fg} {F : Hp} {a : Addr} {vs : List V} {ds : List D} (h : SqL K F a vs) (r : Rps K F vs ds) : Walks K F (Itl K a) ds := fun F1 M1 H1 e L => by
  have hs : SqL K H1 a vs := ex_l L.fr (ex_l e h)
  refine ⟨fun i hi => ⟨vs, vs[i]'(by rw [r.len]; exact hi), hs, List.getElem?_eq_getElem _⟩, fun i hi => ⟨vs, hs, by rw [r.len]; exact hi⟩, fun i d x H2 hd hy => ?_⟩
  obtain ⟨rfl, hy⟩ := hy
  obtain ⟨v, hv, rv⟩ := r.get hd
  have ev : x = v := Option.some.inj ((hy vs hs).symm.trans hv)
  subst ev
  exact ⟨F1, Ex.refl _, L, rv.mono e⟩
theorem walks_tup {K : Fg} {F : Hp} {a : Addr} {vs : List V} {ds : List D} (h : SqT K F a vs) (r : Rps K F vs ds) : Walks K F (Itt K a) ds := fun F1 M1 H1 e L => by
  have hs : SqT K H1 a vs := ex_t L.fr (ex_t e h)
  refine ⟨fun i hi => ⟨vs, vs[i]'(by rw [r.len]; exact hi), hs, List.getElem?_eq_getElem _⟩, fun i hi => ⟨vs, hs, by rw [r.len]; exact hi⟩, fun i d x H2 hd hy => ?_⟩
  obtain ⟨rfl, hy⟩ := hy
  obtain ⟨v, hv, rv⟩ := r.get hd
  have ev : x = v := Option.some.inj ((hy vs hs).symm.trans hv)
  subst ev
  exact ⟨F1, Ex.refl _, L, rv.mono e⟩
/-- the signs of a text -/
def signsD (x : Str) : List D := x.cps.toList.map fun n => D.str ⟨#[n]⟩
theorem walks_str {K : Fg} {F : Hp} {x : Str} : Walks K F (Its x) (signsD x) := fun F1 M1 H1 e L => by
  have hl : (signsD x).length = x.cps.size := by unfold signsD; rw [List.length_map, Array.length_toList]
  refine ⟨fun i hi => by rw [hl] at hi; exact hi, fun i hi => by rw [hl] at hi; exact hi, fun i d v H2 hd hy => ?_⟩
  obtain ⟨rfl, n, hn, rfl⟩ := hy
  refine ⟨F1, Ex.refl _, L, ?_⟩
  unfold signsD at hd
  rw [List.getElem?_map, Array.getElem?_toList, hn] at hd
  cases hd
  exact .str _
theorem zi_seq {tl : TE} (h : ZE c tl Γ M fun d M1 => ∃ ds, Sf d ds ∧ kk ds M1) : ZI c (iSeqZ c.K tl) Γ M kk := fun R F σ H Q hs L X q =>
  h R F σ H _ hs L X fun v F1 H1 M1 d e1 L1 r1 ⟨ds, s, h1⟩ => by
    cases s with
    | tup =>
      obtain ⟨a, vs, rfl, p, rr⟩ := r1.of_tup
      exact .inr (.inl ⟨a, rfl, ⟨vs, ex_t L1.fr p⟩, q _ F1 H1 M1 ds e1 L1 (walks_tup p rr) h1⟩)
    | lst =>
      obtain ⟨a, vs, rfl, p, rr⟩ := r1.of_lst
      exact .inl ⟨a, rfl, ⟨vs, SqL.of (L1.fr _ _ p)⟩, q _ F1 H1 M1 ds e1 L1 (walks_list (SqL.of p) rr) h1⟩
    | scr =>
      obtain ⟨a, vs, rfl, p, rr⟩ := r1.of_scr
      exact .inl ⟨a, rfl, ⟨vs, ex_l L1.fr p⟩, q _ F1 H1 M1 ds e1 L1 (walks_list p rr) h1⟩
theorem zi_str {tl : TE} (h : ZE c tl Γ M fun d M1 => ∃ x, d = .str x ∧ kk (signsD x) M1) : ZI c (iSeqZ c.K tl) Γ M kk := fun R F σ H Q hs L X q =>
  h R F σ H _ hs L X fun v F1 H1 M1 d e1 L1 r1 ⟨x, e, h1⟩ => by
    subst e
    exact .inr (.inr ⟨x, r1.of_str, q _ F1 H1 M1 _ e1 L1 walks_str h1⟩)
/-- range -/
def rngD (lo : Int) (n : Nat) : List D := (List.range n).map fun i => D.int (lo + (i : Nat))
theorem rngD_length (lo : Int) (n : Nat) : (rngD lo n).length = n := by unfold rngD; rw [List.length_map, List.length_range]
theorem rngD_get {lo : Int} {n i : Nat} {d : D} (h : (rngD lo n)[i]? = some d) : i < n ∧ d = .int (lo + (i : Nat)) := by
  unfold rngD at h
  rw [List.getElem?_map] at h
  by_cases hi : i < n
  · rw [List.getElem?_range hi] at h
    cases h
    exact ⟨hi, rfl⟩
  · rw [List.getElem?_eq_none (by rw [List.length_range]; omega)] at h
    cases h
theorem walks_rng {K : Fg} {F : Hp} {lo : Int} {n : Nat} : Walks K F (Itr lo n) (rngD lo n) := fun F1 M1 H1 e L => by
  refine ⟨fun i hi => by rw [rngD_length] at hi; exact hi, fun i hi => by rw [rngD_length] at hi; exact hi, fun i d v H2 hd hy => ?_⟩
  obtain ⟨rfl, rfl⟩ := hy
  rw [(rngD_get hd).2]
  exact ⟨F1, Ex.refl _, L, .int _⟩
theorem zi_rng1 {ta : TA} (h : ZA c ta Γ M fun ds M1 => ∃ j, ds = [.int j] ∧ -(2 ^ 62) ≤ j ∧ j < 2 ^ 62 ∧ kk (rngD 0 j.toNat) M1) : ZI c (iRng1 ta) Γ M kk := fun R F σ H Q hs L X q =>
  h R F σ H _ hs L X fun vs F1 H1 M1 ds e1 L1 r1 ⟨j, e, b1, b2, h1⟩ => by
    subst e
    obtain ⟨v, rfl, r2⟩ := r1.one1
    rw [r2.of_int]
    exact ⟨j, rfl, b1, b2, q _ F1 H1 M1 _ e1 L1 walks_rng h1⟩
theorem zi_rng2 {ta : TA} (h : ZA c ta Γ M fun ds M1 => ∃ i j, ds = [.int i, .int j] ∧ (-(2 ^ 62) ≤ i ∧ i < 2 ^ 62 ∧ -(2 ^ 62) ≤ j ∧ j < 2 ^ 62) ∧ kk (rngD i (j - i).toNat) M1) : ZI c (iRng2 ta) Γ M kk := fun R F σ H Q hs L X q =>
  h R F σ H _ hs L X fun vs F1 H1 M1 ds e1 L1 r1 ⟨i, j, e, b, h1⟩ => by
    subst e
    obtain ⟨v, w, rfl, r2, r3⟩ := r1.two
    rw [r2.of_int, r3.of_int]
    exact ⟨i, j, rfl, b, q _ F1 H1 M1 _ e1 L1 walks_rng h1⟩
/-- enumerate -/
def enumD (ds : List D) : List D := ds.mapIdx fun i d => D.tup [.int (i : Nat), d]
theorem enumD_length (ds : List D) : (enumD ds).length = ds.length := by unfold enumD; rw [List.length_mapIdx]
theorem enumD_get {ds : List D} {i : Nat} {d : D} (h : (enumD ds)[i]? = some d) : ∃ e, ds[i]? = some e ∧ d = .tup [.int (i : Nat), e] := by
  unfold enumD at h
  rw [List.getElem?_mapIdx] at h
  cases q : ds[i]? with
  | none => rw [q] at h; cases h
  | some e =>
    rw [q] at h
    exact ⟨e, rfl, (Option.some.inj h).symm⟩
theorem pair_new {K : Fg} {F1 H1 : Hp} {M1 : Mem} {T : Addr} {x y : V} {a b : D} (L : Lay K F1 M1 H1) (nT : H1 T = none) (r1 : Rp K F1 x a) (r2 : Rp K F1 y b) : ∃ F2, Ex F1 F2 ∧ Lay K F2 M1 (upd H1 T (.tup [x, y])) ∧ Rp K F2 (.ref T) (.tup [a, b]) :=
  ⟨_, ex_upd (L.free nT), L.new nT, .mk_tup (SqT.of upd_same) (.cons (r1.mono (ex_upd (L.free nT))) (.one (r2.mono (ex_upd (L.free nT)))))⟩
theorem walks_enumL {K : Fg} {F : Hp} {a : Addr} {vs : List V} {ds : List D} (h : SqL K F a vs) (r : Rps K F vs ds) : Walks K F (Ite K a) (enumD ds) := fun F1 M1 H1 e L => by
  have hs : SqL K H1 a vs := ex_l L.fr (ex_l e h)
  refine ⟨fun i hi => ⟨vs, vs[i]'(by rw [r.len, ← enumD_length]; exact hi), hs, List.getElem?_eq_getElem _⟩, fun i hi => ⟨vs, hs, by rw [r.len, ← enumD_length]; exact hi⟩, fun i d x H2 hd hy => ?_⟩
  obtain ⟨T, x', rfl, nT, rfl, hy⟩ := hy
  obtain ⟨d', hd', rfl⟩ := enumD_get hd
  obtain ⟨v, hv, rv⟩ := r.get hd'
  have ev : x' = v := Option.some.inj ((hy vs hs).symm.trans hv)
  subst ev
  exact pair_new L nT (.int _) (rv.mono e)
theorem walks_enumT {K : Fg} {F : Hp} {a : Addr} {vs : List V} {ds : List D} (h : SqT K F a vs) (r : Rps K F vs ds) : Walks K F (IteT K a vs.length) (enumD ds) := fun F1 M1 H1 e L => by
  have hs : SqT K H1 a vs := ex_t L.fr (ex_t e h)
  refine ⟨fun i hi => ⟨vs, vs[i]'(by rw [r.len, ← enumD_length]; exact hi), hs, List.getElem?_eq_getElem _, rfl⟩, fun i hi => ⟨vs, hs, rfl, by rw [r.len, ← enumD_length]; exact hi⟩, fun i d x H2 hd hy => ?_⟩
  obtain ⟨T, x', rfl, nT, rfl, hy⟩ := hy
  obtain ⟨d', hd', rfl⟩ := enumD_get hd
  obtain ⟨v, hv, rv⟩ := r.get hd'
  have ev : x' = v := Option.some.inj ((hy vs hs).symm.trans hv)
  subst ev
  exact pair_new L nT (.int _) (rv.mono e)
theorem zi_enum {ta : TA} (h : ZA c ta Γ M fun ds M1 => ∃ d xs, ds = [d] ∧ Sf d xs ∧ kk (enumD xs) M1) : ZI c (iEnumZ c.K ta) Γ M kk := fun R F σ H Q hs L X q =>
  h R F σ H _ hs L X fun ws F1 H1 M1 ds e1 L1 r1 ⟨d, xs, e, s, h1⟩ => by
    subst e
    obtain ⟨v, rfl, r2⟩ := r1.one1
    cases s with
    | tup =>
      obtain ⟨a, vs, rfl, p, rr⟩ := r2.of_tup
      exact ⟨a, vs, rfl, .inr ⟨ex_t L1.fr p, q _ F1 H1 M1 _ e1 L1 (walks_enumT p rr) h1⟩⟩
    | lst =>
      obtain ⟨a, vs, rfl, p, rr⟩ := r2.of_lst
      exact ⟨a, vs, rfl, .inl ⟨SqL.of (L1.fr _ _ p), q _ F1 H1 M1 _ e1 L1 (walks_enumL (SqL.of p) rr) h1⟩⟩
    | scr =>
      obtain ⟨a, vs, rfl, p, rr⟩ := r2.of_scr
      exact ⟨a, vs, rfl, .inl ⟨ex_l L1.fr p, q _ F1 H1 M1 _ e1 L1 (walks_enumL p rr) h1⟩⟩
/-- zip of two lists, two tuples -/
def zipD (ds es : List D) : List D := List.zipWith (fun d e => D.tup [d, e]) ds es
theorem zipD_length (ds es : List D) : (zipD ds es).length = min ds.length es.length := by unfold zipD; rw [List.length_zipWith]
theorem zipD_get {ds es : List D} {i : Nat} {d : D} (h : (zipD ds es)[i]? = some d) : ∃ a b, ds[i]? = some a ∧ es[i]? = some b ∧ d = .tup [a, b] := by
  unfold zipD at h
  rw [List.getElem?_zipWith] at h
  cases q : ds[i]? with
  | none => rw [q] at h; cases h
  | some a =>
    cases q2 : es[i]? with
    | none => rw [q, q2] at h; cases h
    | some b =>
      rw [q, q2] at h
      exact ⟨a, b, rfl, rfl, (Option.some.inj h).symm⟩
theorem walks_zipL {K : Fg} {F : Hp} {a b : Addr} {vs ws : List V} {ds es : List D} (h : SqL K F a vs) (r : Rps K F vs ds) (h2 : SqL K F b ws) (r2 : Rps K F ws es) : Walks K F (Itz K a b) (zipD ds es) := fun F1 M1 H1 e L => by
  have hs : SqL K H1 a vs := ex_l L.fr (ex_l e h)
  have hs2 : SqL K H1 b ws := ex_l L.fr (ex_l e h2)
  have l1 := r.len
  have l2 := r2.len
  refine ⟨fun i hi => ?_, fun i hi => ⟨vs, ws, hs, hs2, ?_⟩, fun i d x H2 hd hy => ?_⟩
  · rw [zipD_length] at hi
    exact ⟨vs, ws, vs[i]'(by omega), ws[i]'(by omega), hs, hs2, List.getElem?_eq_getElem _, List.getElem?_eq_getElem _⟩
  · rw [zipD_length] at hi
    omega
  · obtain ⟨T, x', y', rfl, nT, rfl, hy, hy2⟩ := hy
    obtain ⟨a', b', ha, hb, rfl⟩ := zipD_get hd
    obtain ⟨v, hv, rv⟩ := r.get ha
    obtain ⟨w, hw, rw_⟩ := r2.get hb
    have ev : x' = v := Option.some.inj ((hy vs hs).symm.trans hv)
    have ew : y' = w := Option.some.inj ((hy2 ws hs2).symm.trans hw)
    subst ev ew
    exact pair_new L nT (rv.mono e) (rw_.mono e)
theorem walks_zipT {K : Fg} {F : Hp} {a b : Addr} {vs ws : List V} {ds es : List D} (h : SqT K F a vs) (r : Rps K F vs ds) (h2 : SqT K F b ws) (r2 : Rps K F ws es) : Walks K F (RZ.ItzT K a b) (zipD ds es) := fun F1 M1 H1 e L => by
  have hs : SqT K H1 a vs := ex_t L.fr (ex_t e h)
  have hs2 : SqT K H1 b ws := ex_t L.fr (ex_t e h2)
  have l1 := r.len
  have l2 := r2.len
  refine ⟨fun i hi => ?_, fun i hi => ⟨vs, ws, hs, hs2, ?_⟩, fun i d x H2 hd hy => ?_⟩
  · rw [zipD_length] at hi
    exact ⟨vs, ws, vs[i]'(by omega), ws[i]'(by omega), hs, hs2, List.getElem?_eq_getElem _, List.getElem?_eq_getElem _⟩
  · rw [zipD_length] at hi
    omega
  · obtain ⟨T, x', y', rfl, nT, rfl, hy, hy2⟩ := hy
    obtain ⟨a', b', ha, hb, rfl⟩ := zipD_get hd
    obtain ⟨v, hv, rv⟩ := r.get ha
    obtain ⟨w, hw, rw_⟩ := r2.get hb
    have ev : x' = v := Option.some.inj ((hy vs hs).symm.trans hv)
    have ew : y' = w := Option.some.inj ((hy2 ws hs2).symm.trans hw)
    subst ev ew
    exact pair_new L nT (rv.mono e) (rw_.mono e)
def iZipZ (K : Fg) (ta : TA) : TI := RZ.iZipA K ta
theorem zi_zipT {ta : TA} (h : ZA c ta Γ M fun ds M1 => ∃ xs ys, ds = [.tup xs, .tup ys] ∧ kk (zipD xs ys) M1) : ZI c (iZipZ c.K ta) Γ M kk := fun R F σ H Q hs L X q =>
  h R F σ H _ hs L X fun ws F1 H1 M1 ds e1 L1 r1 ⟨xs, ys, e, h1⟩ => by
    subst e
    obtain ⟨v, w, rfl, r2, r3⟩ := r1.two
    obtain ⟨a, vs, rfl, p, rr⟩ := r2.of_tup
    obtain ⟨b, ws, rfl, p2, rr2⟩ := r3.of_tup
    exact ⟨a, b, vs, ws, rfl, .inr ⟨ex_t L1.fr p, ex_t L1.fr p2, q _ F1 H1 M1 _ e1 L1 (walks_zipT p rr p2 rr2) h1⟩⟩
theorem zi_zipL {ta : TA} (h : ZA c ta Γ M fun ds M1 => ∃ xs ys, ds = [.lst xs, .lst ys] ∧ kk (zipD xs ys) M1) : ZI c (iZipZ c.K ta) Γ M kk := fun R F σ H Q hs L X q =>
  h R F σ H _ hs L X fun ws F1 H1 M1 ds e1 L1 r1 ⟨xs, ys, e, h1⟩ => by
    subst e
    obtain ⟨v, w, rfl, r2, r3⟩ := r1.two
    obtain ⟨a, vs, rfl, p, rr⟩ := r2.of_lst
    obtain ⟨b, ws, rfl, p2, rr2⟩ := r3.of_lst
    exact ⟨a, b, vs, ws, rfl, .inl ⟨SqL.of (L1.fr _ _ p), SqL.of (L1.fr _ _ p2), q _ F1 H1 M1 _ e1 L1 (walks_zipL (SqL.of p) rr (SqL.of p2) rr2) h1⟩⟩
theorem pi_zipZ {X : Cx} {e e2 : Expr} {ta : TA} {p pos tpos : Pos} {elts : List Expr} {kk : Nat} (hg : Gl X "zip") (hm : X.mg "zip" = none) (ha : PA X [e, e2] ta)
    (hs : starEach [e, e2] X.env = (false, eval e X.env) :: starEach [e2] X.env := by rfl) (hpl : (backTo pos (starEach [e2] X.env)).any (·.1) = false := by rfl) :
    PI X (.Tuple elts kk tpos) (.Call (.Name "zip" p) [e, e2] [] pos) (iZipZ X.K ta) := RZ.pi_zipA hg hm ha hs hpl
end
/-! ### comprehensions -/
section
variable {Γ : Gm} {M : Mem} {k : D → Mem → Prop}
theorem z_lc {wi : TI} {g : TG} {tt : TT} {te : TE} {vs : List Nat} (ho : Own g vs) (h : ZI c wi Γ M (LcK c.blk g tt te vs Γ fun ds M1 => k (.lst ds) M1)) : ZE c (tLc wi g tt te vs) Γ M k := fun R F σ H Q hs L X q => by
  refine lc_gen ho h hs L X fun p ws F1 H1 M1 ds e1 L1 hp rr hk => ?_
  have hat : (M1 ++ (p, MO.lst ds) :: R)[M1.length]? = some (p, .lst ds) := by
    rw [List.getElem?_append_right (Nat.le_refl _), Nat.sub_self]
    rfl
  obtain ⟨L2, e2⟩ := L1.frz hat hp
  rw [List.eraseIdx_append_of_length_le (Nat.le_refl _), Nat.sub_self] at L2
  exact q _ _ H1 M1 (.lst ds) (e1.trans e2) L2 (.mk_lst upd_same (rr.mono e2)) hk
theorem Lay.perm {K : Fg} {F H : Hp} {M M' : Mem} (L : Lay K F M H) (p : M.Perm M') : Lay K F M' H := ⟨L.fr, ((p.map (·.1)).nodup_iff).mp L.nd, fun q hq => L.ap q (p.mem_iff.mpr hq), fun q hq => L.mu q (p.mem_iff.mpr hq)⟩
theorem z_lcM {wi : TI} {g : TG} {tt : TT} {te : TE} {vs : List Nat} (ho : Own g vs) (h : ZI c wi Γ M (LcK c.blk g tt te vs Γ fun ds M1 => ∀ p, k (.at p) ((p, .lst ds) :: M1))) : ZE c (mk (tLc wi g tt te vs)) Γ M k := fun R F σ H Q hs L X q => by
  refine lc_gen ho h hs L X fun p ws F1 H1 M1 ds e1 L1 hp rr hk => ?_
  exact q _ F1 H1 ((p, .lst ds) :: M1) (.at p) e1 (L1.perm List.perm_middle) (.at p) (hk p)
theorem zt_yes {k : Bool → Mem → Prop} (h : k true M) : ZT c tYes Γ M k := fun R F σ H Q hs L _ q => q true F H M true (Ex.refl F) L rfl h
/-- a comprehension that leaves Mem, element by element -/
theorem LcK.map {g : TG} {te : TE} {vs : List Nat} {ds : List D} (f : D → D) (hl : ds.length ≤ sizeLine) {kk : List D → Mem → Prop} (h : ∀ (i : Nat) (d : D), ds[i]? = some d → ZG c g d (zwipe Γ vs) M fun Γ2 M2 => ZE c te Γ2 M2 fun y M4 => y = f d ∧ M4 = M) (hk : kk (ds.map f) M) : LcK c g tYes te vs Γ kk ds M := by
  refine ⟨hl, fun i acc M1 => M1 = M ∧ acc = (ds.take i).map f, ⟨rfl, by simp⟩, fun i d acc M1 hd _ ⟨e1, e2⟩ => ?_, fun acc M1 ⟨e1, e2⟩ => ?_⟩
  · subst e1 e2
    refine fun R F σ H v Q hs L X r q => h i d hd R F σ H v Q hs L X r fun σ' F' H' M' Γ' e L' hs' h' => q σ' F' H' M' Γ' e L' hs' ?_
    refine zt_yes ⟨fun _ => h'.imp fun y M4 ⟨ey, em⟩ => ⟨em, ?_⟩, fun z => nomatch z⟩
    rw [ey, List.take_add_one, hd, List.map_append]
    rfl
  · subst e1 e2
    rw [List.take_length]
    exact hk
end
theorem Lay.lstSet {K : Fg} {F H : Hp} {M R : Mem} {i : Nat} {a : Addr} {ds es : List D} {ys : List V} (L : Lay K F (M ++ R) H) (hi : M[i]? = some (a, .lst ds)) (r : Rps K F ys es) : Lay K F (M.set i (a, .lst es) ++ R) (upd H a (.lst ys)) := L.memSet (mo' := .lst es) hi ⟨ys, upd_same, r⟩
/-! ### methods of a list that changes -/
section
variable {Γ : Gm} {M : Mem} {k : D → Mem → Prop} {to : TE} {ta : TA}
def ZM (c : Cz) (r : V → List V → Hp → VK → Prop) (d : D) (xs : List D) (M : Mem) (k : D → Mem → Prop) : Prop := ∀ (R : Mem) (F H : Hp) (v : V) (vs : List V) (Q : VK), Lay c.K F (M ++ R) H → Rp c.K F v d → Rps c.K F vs xs → EOk c.K R F k Q → r v vs H Q
theorem tyV_of {K : Fg} {H : Hp} {a : Addr} {vs : List V} (h : H a = some (.lst vs)) : tyV K "list" (.ref a) H := .inl ⟨rfl, vs, .inl (.inl h)⟩
theorem z_bm {r : V → List V → Hp → VK → Prop} (h : ZE c to Γ M fun d M1 => (∃ ds, St M1 d ds) ∧ ZA c ta Γ M1 fun xs M2 => ZM c r d xs M2 k) : ZE c (tBM c.K "list" r to ta) Γ M k := fun R F σ H Q hs L X q =>
  h R F σ H _ hs L X fun v F1 H1 M1 d e1 L1 r1 ⟨⟨ds, s⟩, h1⟩ => by
    obtain ⟨a, vs, rfl, p, rr⟩ := s.read L1 r1
    exact ⟨tyV_of p, h1 R F1 σ H1 _ (hs.mono e1) L1 (X.mono e1) fun ws F2 H2 M2 xs e2 L2 r2 h2 => h2 R F2 H2 _ ws Q L2 (r1.mono e2) r2 (q.mono (e1.trans e2))⟩
theorem z_bm0 {r : V → List V → Hp → VK → Prop} (h : ZE c to Γ M fun d M1 => (∃ ds, St M1 d ds) ∧ ZM c r d [] M1 k) : ZE c (tBM0 c.K "list" r to) Γ M k := fun R F σ H Q hs L X q =>
  h R F σ H _ hs L X fun v F1 H1 M1 d e1 L1 r1 ⟨⟨ds, s⟩, h1⟩ => by
    obtain ⟨a, vs, rfl, p, rr⟩ := s.read L1 r1
    exact ⟨tyV_of p, h1 R F1 H1 _ [] Q L1 r1 .nil (q.mono e1)⟩
variable {i : Nat} {a : Addr} {ds : List D} {d : D}
theorem zm_append (hi : M[i]? = some (a, .lst ds)) (hl : ds.length < sizeLine) (h : k .non (M.set i (a, .lst (ds ++ [d])))) : ZM c rAppend (.at a) [d] M k := fun R F H v vs Q L r rs q => by
  obtain ⟨w, rfl, r2⟩ := rs.one1
  obtain ⟨xs, e, rr⟩ := L.memAt hi
  rw [r.of_at]
  exact ⟨a, xs, w, rfl, rfl, e, by rw [rr.len]; exact hl, q .non F _ _ .non (Ex.refl F) (L.lstSet (ys := (xs ++ [w])) hi (rr.append (.one r2))) .non h⟩
theorem zm_pop {e : D} (hi : M[i]? = some (a, .lst ds)) (hl : ds[ds.length - 1]? = some e) (h : k e (M.set i (a, .lst ds.dropLast))) : ZM c rPop (.at a) [] M k := fun R F H v vs Q L r rs q => by
  obtain ⟨xs, ex, rr⟩ := L.memAt hi
  obtain ⟨x, hx, rx⟩ := rr.get hl
  rw [r.of_at, rs.unnil]
  exact ⟨a, xs, x, rfl, rfl, ex, by rw [rr.len]; exact hx, q x F _ _ e (Ex.refl F) (L.lstSet (ys := xs.dropLast) hi (rr.dropLast)) rx h⟩
theorem zm_popAt {e : D} {z : Int} {n : Nat} (hi : M[i]? = some (a, .lst ds)) (h1 : -(2 ^ 63) ≤ z) (h2 : z < 2 ^ 63) (hn : seqIndex? z ds.length = some n) (hl : ds[n]? = some e) (h : k e (M.set i (a, .lst (ds.eraseIdx n)))) : ZM c rPopAt (.at a) [.int z] M k := fun R F H v vs Q L r rs q => by
  obtain ⟨w, rfl, r2⟩ := rs.one1
  obtain ⟨xs, ex, rr⟩ := L.memAt hi
  obtain ⟨x, hx, rx⟩ := rr.get hl
  rw [r.of_at, r2.of_int]
  exact ⟨a, xs, z, n, x, rfl, rfl, ex, h1, h2, by rw [rr.len]; exact hn, hx, q x F _ _ e (Ex.refl F) (L.lstSet (ys := (xs.eraseIdx n)) hi (rr.eraseIdx n)) rx h⟩
theorem zm_reverse (hi : M[i]? = some (a, .lst ds)) (h : k .non (M.set i (a, .lst ds.reverse))) : ZM c rReverse (.at a) [] M k := fun R F H v vs Q L r rs q => by
  obtain ⟨xs, ex, rr⟩ := L.memAt hi
  rw [r.of_at, rs.unnil]
  exact ⟨a, xs, rfl, rfl, ex, q .non F _ _ .non (Ex.refl F) (L.lstSet (ys := xs.reverse) hi (rr.reverse)) .non h⟩
theorem zm_extend {x : D} {es : List D} (hi : M[i]? = some (a, .lst ds)) (s : St M x es) (hl : ds.length + es.length ≤ sizeLine) (h : k .non (M.set i (a, .lst (ds ++ es)))) : ZM c rExtend (.at a) [x] M k := fun R F H v vs Q L r rs q => by
  obtain ⟨w, rfl, r2⟩ := rs.one1
  obtain ⟨xs, ex, rr⟩ := L.memAt hi
  obtain ⟨b, ys, rfl, ey, ry⟩ := s.read L r2
  rw [r.of_at]
  exact ⟨a, b, xs, ys, rfl, rfl, ex, ey, by rw [rr.len, ry.len]; exact hl, q .non F _ _ .non (Ex.refl F) (L.lstSet (ys := (xs ++ ys)) hi (rr.append ry)) .non h⟩
def rInsZ : V → List V → Hp → VK → Prop := fun x vs H Q => ∃ (l : Addr) (xs : List V) (i : Int) (y : V), x = .ref l ∧ vs = [.int i, y] ∧ H l = some (.lst xs) ∧ xs.length < sizeLine ∧ 0 ≤ i ∧ i < 2 ^ 63 ∧
    Q .non (upd H l (.lst (xs.take i.toNat ++ [y] ++ xs.drop i.toNat)))
theorem mt_insZ {X : Cx} : MtR X "list.insert" rInsZ := mt_insert
theorem zm_insert {z : Int} (hi : M[i]? = some (a, .lst ds)) (hl : ds.length < sizeLine) (h0 : 0 ≤ z) (h1 : z < 2 ^ 63) (h : k .non (M.set i (a, .lst (ds.take z.toNat ++ [d] ++ ds.drop z.toNat)))) : ZM c rInsZ (.at a) [.int z, d] M k := fun R F H v vs Q L r rs q => by
  obtain ⟨w, w2, rfl, r2, r3⟩ := rs.two
  obtain ⟨xs, e, rr⟩ := L.memAt hi
  rw [r.of_at, r2.of_int]
  exact ⟨a, xs, z, w2, rfl, rfl, e, by rw [rr.len]; exact hl, h0, h1, q .non F _ _ .non (Ex.refl F) (L.lstSet (ys := (xs.take z.toNat ++ [w2] ++ xs.drop z.toNat)) hi (((rr.take _).append (.one r3)).append (rr.drop _))) .non h⟩
/-- xs[i] = e -/
theorem zg_setL {ti : TE} {kg : Gm → Mem → Prop} (h : ZE c to Γ M fun o M1 => ZE c ti Γ M1 fun x M2 => ∃ a n ds z j, o = .at a ∧ x = .int z ∧ M2[n]? = some (a, .lst ds) ∧ ixN ds.length z = some j ∧ kg Γ (M2.set n (a, .lst (ds.set j d)))) : ZG c (gSub to ti rSetL) d Γ M kg := fun R F σ H v Q hs L X r q =>
  h R F σ H _ hs L X fun o F1 H1 M1 od e1 L1 r1 h1 => h1 R F1 σ H1 _ (hs.mono e1) L1 (X.mono e1) fun x F2 H2 M2 xd e2 L2 r2 ⟨a, n, ds, z, j, eo, ex, hn, hj, hk⟩ => by
    subst eo ex
    obtain ⟨xs, e, rr⟩ := L2.memAt hn
    rw [r1.of_at, r2.of_int]
    exact ⟨a, xs, z, j, rfl, rfl, e, by rw [rr.len]; exact hj, q σ F2 _ _ Γ (e1.trans e2) (L2.lstSet (ys := xs.set j v) hn (rr.set j (r.mono (e1.trans e2)))) ((hs.mono e1).mono e2) hk⟩
/-- x += e (ints) -/
theorem zs_aug {te : TE} {f : Int → Int → Int} {n : Nat} {x : Int} {DD : ZEnds} (hx : Γ[n]? = some (some (.int x))) (h : ZE c te Γ M fun d M1 => ∃ y, d = .int y ∧ DD.nx (Γ.set n (some (.int (f x y)))) M1) : ZS c (tAug n te (ipI f)) Γ M DD := fun R F σ H D hs L X q => by
  obtain ⟨v, e, r⟩ := hs.at_ n _ hx
  rw [r.of_int] at e
  refine ⟨_, e, h R F σ H _ hs L X fun w F1 H1 M1 d e1 L1 r1 ⟨y, ed, hk⟩ => ?_⟩
  subst ed
  exact ⟨x, y, rfl, r1.of_int, q.nx _ F1 H1 M1 _ e1 L1 ((hs.mono e1).set n (.int _)) hk⟩
/-- list(range(..)) -/
theorem rgV_rps {K : Fg} {F : Hp} (a b : Int) : Rps K F (rgV a b) (rngD a (b - a).toNat) := by
  unfold rgV rngD
  exact Rps.of_map fun x _ => .int _
theorem z_listRg1 {te : TE} (h : ZE c te Γ M fun d M1 => ∃ n, d = .int n ∧ RgOk 0 n ∧ k (.lst (rngD 0 n.toNat)) M1) : ZE c (tLstRg (tRg1 te)) Γ M k := fun R F σ H Q hs L X q =>
  h R F σ H _ hs L X fun v F1 H1 M1 d e1 L1 r1 ⟨n, ed, ok, hk⟩ => by
    subst ed
    refine ⟨n, r1.of_int, ok, fun p hp => q _ _ _ M1 _ (e1.trans (ex_upd (L1.free hp))) (L1.new hp) (.mk_lst upd_same ((rgV_rps 0 n).mono (Ex.refl _))) ?_⟩
    rw [Int.sub_zero]
    exact hk
theorem z_listRg1M {te : TE} (h : ZE c te Γ M fun d M1 => ∃ n, d = .int n ∧ RgOk 0 n ∧ ∀ p, k (.at p) ((p, .lst (rngD 0 n.toNat)) :: M1)) : ZE c (mk (tLstRg (tRg1 te))) Γ M k := fun R F σ H Q hs L X q =>
  h R F σ H _ hs L X fun v F1 H1 M1 d e1 L1 r1 ⟨n, ed, ok, hk⟩ => by
    subst ed
    refine ⟨n, r1.of_int, ok, fun p hp => q _ F1 _ ((p, .lst (rngD 0 n.toNat)) :: M1) (.at p) e1 (L1.newM hp ⟨_, upd_same, ?_⟩) (.at p) (hk p)⟩
    have x := rgV_rps (K := c.K) (F := F1) 0 n
    rw [Int.sub_zero] at x
    exact x
/-- list * int, the new list may change -/
theorem z_repLM {ta tb : TE} (h : ZE c ta Γ M fun x M1 => ZE c tb Γ M1 fun y M2 => ∃ xs n, St M2 x xs ∧ y = .int n ∧ -(2 ^ 63) ≤ n ∧ n < 2 ^ 63 ∧ xs.length * n.toNat ≤ sizeLine ∧ ∀ p, k (.at p) ((p, .lst (List.replicate n.toNat xs).flatten) :: M2)) : ZE c (mk (tOp rMulZ ta tb)) Γ M k := fun R F σ H Q hs L X q =>
  h R F σ H _ hs L X fun v F1 H1 M1 x e1 L1 r1 h1 => h1 R F1 σ H1 _ (hs.mono e1) L1 (X.mono e1) fun w F2 H2 M2 y e2 L2 r2 ⟨xs, n, s, ey, b1, b2, b3, hk⟩ => by
    subst ey
    obtain ⟨a, vs, rfl, e, rr⟩ := s.read L2 (r1.mono e2)
    exact .inr ⟨a, n, vs, rfl, r2.of_int, e, b1, b2, by rw [rr.len]; exact b3, fun p hp => q _ F2 _ ((p, .lst (List.replicate n.toNat xs).flatten) :: M2) (.at p) (e1.trans e2) (L2.newM hp ⟨_, upd_same, rr.rep n.toNat⟩) (.at p) (hk p)⟩
end
/-! ### calls of defs -/
abbrev ZSp := List D → Mem → (D → Mem → Prop) → Prop
/-- a promise over data, as the layer takes it -/
def toSp (K : Fg) (S : ZSp) : Sp := fun vs H Q _ => ∃ (R : Mem) (F : Hp) (M : Mem) (ds : List D) (k : D → Mem → Prop), Lay K F (M ++ R) H ∧ Rps K F vs ds ∧ S ds M k ∧ EOk K R F k Q
/-- a call of a def by values -/
def zcall (K : Fg) (S : ZSp) : List V → Hp → VK → Prop := fun vs H Q => toSp K S vs H Q fun _ _ _ => False
/-- the def x of the module keeps the promise S for these arguments -/
structure FnZ (P : Program) (w : World) (K : Fg) (mg : Str → Option Value) (base : Heap) (x : Str) (k : Nat) (S : ZSp) : Prop where
  ex : ∃ (f : Addr) (fd : FuncData) (ps : List Str) (sp : Sp) (ds : List Value) (dvs : List V), FnOk P w K mg base CX0 k f fd ps sp ∧ mg x = some (.ref f) ∧ PySem.W.keepIn K (.ref f) = true ∧ Binds K fd ps ds ∧ Vals dvs ds ∧
    ∀ vs H Q, zcall K S vs H Q → sp (vs ++ dvs) H Q E0
section
variable {X : Cx} {k : Nat} {S : ZSp} {x : Str} {e : Expr} {es : List Expr} {t : TA} {p pos : Pos}
theorem p_call {j : Nat} (G : FnZ X.prog X.w X.K X.mg X.base x k S) (hr : Room j X.A) (ha : PA X (e :: es) t) (hj : k ≤ j := by decide) (hg : Gl X x := by rfl) (hdb : (x == ("__debug__" : Str)) = false := by decide)
    (he : starEach (e :: es) X.env = (false, eval e X.env) :: starEach es X.env := by rfl) (hpl : (backTo pos (starEach es X.env)).any (·.1) = false := by rfl) : PE X (.Call (.Name x p) (e :: es) [] pos) (tCB (zcall X.K S) t) := by
  obtain ⟨f, fd, ps, sp, ds, dvs, F, hm, hk, hb, hd, hs⟩ := G.ex
  refine ⟨fun pins s σ H Q I h => ?_⟩
  refine wpAny_Call_Name_kw (ld_glob I hg hm ?_ hdb)
  refine PySem.W.callWith_K (h₀ := X.base) I.ok.mod.kin hk (thn (ha.run pos pins s σ H _ I h) fun us s1 ⟨vs, H1, I1, r, q⟩ => ⟨I1.kIn, ?_⟩) he hpl
  exact run_fn F (hr.mono hj) hb hd pass0 I1 r (hs vs H1 Q q)
theorem p_call0 {j : Nat} (G : FnZ X.prog X.w X.K X.mg X.base x k S) (hr : Room j X.A) (hj : k ≤ j := by decide) (hg : Gl X x := by rfl) (hdb : (x == ("__debug__" : Str)) = false := by decide) : PE X (.Call (.Name x p) [] [] pos) (tCB (zcall X.K S) tNil) := by
  obtain ⟨f, fd, ps, sp, ds, dvs, F, hm, hk, hb, hd, hs⟩ := G.ex
  have h := pe_call0 F (hr.mono hj) hg hm hk hb hd pass0 hdb (p := p) (pos := pos)
  exact ⟨fun pins s σ H Q I q => h.run pins s σ H Q I (hs [] H Q q)⟩
end
theorem zc_call {S : ZSp} {ds : List D} {M : Mem} {k : D → Mem → Prop} (h : S ds M k) : ZC c (zcall c.K S) ds M k := fun R F H vs Q L r q => ⟨R, F, M, ds, k, L, r, h, q⟩
/-! ### a def's body -/
def startD (N : List Str) (ds : List D) : Gm := ds.map some ++ List.replicate (N.length - ds.length) none
theorem has_start {K : Fg} {F : Hp} {N : List Str} {vs : List V} {ds : List D} (r : Rps K F vs ds) : Has K F (L2.start N vs) (startD N ds) := ⟨by
  unfold L2.start startD
  rw [List.length_append, List.length_append, List.length_map, List.length_map, List.length_replicate, List.length_replicate, r.len], fun i d h => by
  unfold startD at h
  unfold L2.start
  by_cases hi : i < ds.length
  · rw [List.getElem?_append_left (by rw [List.length_map]; exact hi), List.getElem?_map] at h
    obtain ⟨d', hd', e⟩ := Option.map_eq_some_iff.mp h
    cases e
    obtain ⟨v, hv, rv⟩ := r.get hd'
    refine ⟨v, ?_, rv⟩
    rw [List.getElem?_append_left (by rw [List.length_map, r.len]; exact hi), List.getElem?_map, hv]
    rfl
  · rw [List.getElem?_append_right (by rw [List.length_map]; omega), List.getElem?_replicate] at h
    split at h
    · cases h
    · cases h⟩
section
variable {P : Program} {w : World} {K : Fg} {mg : Str → Option Value} {base : Heap} {x qual : Str} {params : Arguments} {body : List Stmt} {scope : Scope} {dvs : List V} {kws : List (Str × V)} {f : Addr} {fd : FuncData} {N ps : List Str} {k : Nat}
/-- THE RULE for a def that lets no exception out: t its reading, then what the reading asks of data -/
theorem fn_z (F : FunD K x qual params body scope dvs kws f fd) (Sc : FnScope N ps scope) (S : ZSp) (len : ∀ ds M kk, S ds M kk → ds.length = ps.length) (t : TS)
    (ht : ∀ (cdv : Value) (A : Around) (outer : List Env) (s : Shared) (H : Hp) (E : XK), Room k (A.deeper (envOfC qual scope s.heap.objs.size f cdv)) → PSs (cxOf CX0 P w K mg base N qual scope f cdv A outer s H E).nox body t)
    (hz : ∀ ds M kk, S ds M kk → ZS { K := K } t (startD N ds) M { nx := fun _ M' => kk .non M', rt := kk }) : FnOk P w K mg base CX0 (k + 1) f fd ps (toSp K S) := by
  refine F.ok Sc (fun vs H Q E ⟨R, F, M, ds, kk, L, r, s, q⟩ => by rw [r.len]; exact len ds M kk s) fun cdv A outer s H vs Q E hr ⟨R, F, M, ds, kk, L, r, sp, q⟩ => ⟨t, (ht cdv A outer s H E hr).nox, ?_⟩
  refine hz ds M kk sp R F _ H _ (has_start r) L (fun _ _ _ _ _ _ _ _ _ _ _ _ h => h) ⟨fun σ' F' H' M' Γ' e L' hs' h' => q .non F' H' M' .non e L' .non h', fun v F' H' M' d e L' r' h' => q v F' H' M' d e L' r' h', fun σ' F' H' M' Γ' e L' hs' h' => h'.elim, fun σ' F' H' M' Γ' e L' hs' h' => h'.elim⟩
/-- a def without defaults is called -/
theorem fnz_of {S : ZSp} (F : FunD K x qual params body scope [] kws f fd) (G : FnOk P w K mg base CX0 k f fd ps (toSp K S)) (hm : mg x = some (.ref f)) (hb : Binds K fd ps []) : FnZ P w K mg base x k S :=
  ⟨f, fd, ps, toSp K S, [], [], G, hm, F.kp, hb, .nil, fun vs H Q ⟨R, F, M, ds, kk, L, r, s, q⟩ => by rw [List.append_nil]; exact ⟨R, F, M, ds, kk, L, r, s, q⟩⟩
/-- a weaker promise -/
theorem FnZ.imp {S S' : ZSp} (G : FnZ P w K mg base x k S) (h : ∀ ds M kk, S' ds M kk → S ds M kk) : FnZ P w K mg base x k S' := by
  obtain ⟨f, fd, ps, sp, ds, dvs, F, hm, hk, hb, hd, hs⟩ := G.ex
  exact ⟨f, fd, ps, sp, ds, dvs, F, hm, hk, hb, hd, fun vs H Q ⟨R, F, M, ds, kk, L, r, s, q⟩ => hs vs H Q ⟨R, F, M, ds, kk, L, r, h ds M kk s, q⟩⟩
theorem FnZ.up {S : ZSp} {j : Nat} (G : FnZ P w K mg base x k S) (h : k ≤ j) : FnZ P w K mg base x j S := by
  obtain ⟨f, fd, ps, sp, ds, dvs, F, hm, hk, hb, hd, hs⟩ := G.ex
  exact ⟨f, fd, ps, sp, ds, dvs, F.mono h, hm, hk, hb, hd, hs⟩
end
/-! ### a law's end -/
def SLaw : ZSp := fun ds M k => ∃ ns : List Int, ds = [.scr (ns.map D.int)] ∧ M = [] ∧ ns.length ≤ 63 ∧ ∀ M', k (.bl true) M'
theorem law_sp {K : Fg} {H : Hp} {a : Addr} {ns : List Int} (hl : ns.length ≤ 63) (hS : SqL K H a (ns.map V.int)) : toSp K SLaw [.ref a] H (fun v _ => v = .bl true) fun _ _ _ => False :=
  ⟨[], H, [], [.scr (ns.map D.int)], fun d _ => d = .bl true, ⟨fun _ _ h => h, List.nodup_nil, fun _ h => by simp at h, fun _ h => by simp at h⟩, .one (.mk_scr hS (Rps.of_map fun x _ => .int x)), ⟨ns, rfl, rfl, hl, fun _ => rfl⟩, fun v F' H' M' d e L r h => by
    subst h
    exact r.of_bl⟩
end Z
set_option maxRecDepth 100000
set_option Elab.async false
namespace PySem.Z
open PySem Sem

theorem zz_typeCall (vs : List Value) : checkTypeCall "zip" ⟨vs, []⟩ = pure () := by kernel_rfl
theorem zz_newCall (vs : List Value) : checkBuiltinCall "zip.__new__" ⟨.type "zip" :: vs, []⟩ = pure () := by cases vs <;> kernel_rfl
theorem zz_argsInit (obj : Value) (vs : List Value) : argsOk "object.__init__" ⟨obj :: vs, []⟩ := by
  unfold argsOk; rw [signature?_of (id := "object.__init__") (n := ['_', '_', 't', 'i', 'n', 'i', '_', '_']) (o := ['t', 'c', 'e', 'j', 'b', 'o']) (by kernel_rfl) F.owner_object]; kernel_rfl

theorem forIn_any {M : Model} {A : Around} {E : Value → Shared → Prop} {α β : Type} {f : α → β → Sem (ForInStep β)} {Q : β → Shared → Prop} (I : List α → β → Shared → Prop)
    (hs : ∀ a r b s, I (a :: r) b s → wpAny M A (f a b) (fun st s' => ∃ b', st = .yield b' ∧ I r b' s') E s) (hd : ∀ b s, I [] b s → Q b s) :
    ∀ (l : List α) (b : β) (s : Shared), I l b s → wpAny M A (forIn l b f) Q E s
  | [], b, s, h => by rw [List.forIn_nil]; exact wpAny_pure (hd b s h)
  | a :: r, b, s, h => by
    rw [List.forIn_cons]
    refine wpAny_bind (wpAny_mono (hs a r b s h) (fun st s' h' => ?_) fun _ _ x => x)
    obtain ⟨b', rfl, h'⟩ := h'
    exact forIn_any I hs hd r b' s' h'

theorem nn {a b : Nat} (h : a ≠ b) : @Ne Addr a b := h
structure Rw where
  at_ : Nat
  lst : Bool
  vals : Array Value
def RowAt (h : Heap) (r : Rw) : Prop := match r.lst with | true => h.IsList r.at_ r.vals | false => h.IsTuple r.at_ r.vals
def ItAt (h : Heap) (it : Addr) (r : Rw) (i : Nat) : Prop := match r.lst with | true => h.IsListIter it r.at_ i | false => h.IsTupleIter it r.at_ i
theorem RowAt.keep {h h' : Heap} {r : Rw} (x : RowAt h r) (k : ∀ o, h.get? r.at_ = some o → h'.get? r.at_ = some o) : RowAt h' r := by
  obtain ⟨a, l, v⟩ := r; cases l <;> exact Exists.elim x fun o y => ⟨o, k o y.1, y.2⟩
theorem ItAt.keep {h h' : Heap} {r : Rw} {it i} (x : ItAt h it r i) (k : ∀ o, h.get? it = some o → h'.get? it = some o) : ItAt h' it r i := by
  obtain ⟨a, l, v⟩ := r; cases l <;> exact Exists.elim x fun o y => ⟨o, k o y.1, y.2⟩

section
variable {prog : Program} {w : World} {A : Around} {E : Value → Shared → Prop} {s : Shared}
theorem zz_item {it : Addr} {i : Nat} {r : Rw} {x : Value} {Q : Value → Shared → Prop} (hit : ItAt s.heap it r i) (hr : RowAt s.heap r) (hx : r.vals[i]? = some x)
    (hQ : ∀ h', ItAt h' it r (i + 1) → Heap.SameBut it s.heap h' → Q x { s with heap := h' }) : wpAny (model prog w) A (Builtin.SmallTypes.nextOf (.ref it)) Q E s := by
  obtain ⟨a, l, v⟩ := r; cases l
  · exact wpAny_nextOf_tuple_item hit hr hx hQ
  · exact wpAny_nextOf_list_item hit hr hx hQ
theorem zz_end {it : Addr} {i : Nat} {r : Rw} {Q : Value → Shared → Prop} (hh : A.handled = none) (hit : ItAt s.heap it r i) (hr : RowAt s.heap r) (hx : r.vals[i]? = none)
    (hE : ∀ h' e, Heap.ExtBut it s.heap h' → (∃ o, h'.get? e = some o ∧ o.cls = .type "StopIteration") → E (.ref e) { s with heap := h' }) : wpAny (model prog w) A (Builtin.SmallTypes.nextOf (.ref it)) Q E s := by
  obtain ⟨a, l, v⟩ := r; cases l
  · exact wpAny_nextOf_tuple_end hh hit hr hx hE
  · exact wpAny_nextOf_list_end hh hit hr hx hE

def refsF : Nat → Nat → List Value
  | _, 0 => []
  | b, n + 1 => .ref b :: refsF (b + 1) n
theorem refsF_length : ∀ n b, (refsF b n).length = n
  | 0, _ => rfl
  | n + 1, b => by rw [refsF, List.length_cons, refsF_length n]
theorem refsF_snoc : ∀ n b, refsF b n ++ [.ref (b + n)] = refsF b (n + 1)
  | 0, b => rfl
  | n + 1, b => by
    show Value.ref b :: (refsF (b + 1) n ++ [.ref (b + (n + 1))]) = .ref b :: refsF (b + 1) (n + 1)
    rw [← refsF_snoc n (b + 1), show b + (n + 1) = b + 1 + n by omega]

theorem upd_tup {T : Addr} {arr : Array Value} {x : Value} {k : Nat} {Q : Unit → Shared → Prop} (hT : s.heap.get? T = some { cls := .type "tuple", data := .seq arr }) (hsz : arr.size ≤ sizeLine)
    (h : ∀ h', h'.get? T = some { cls := .type "tuple", data := .seq (arr.setIfInBounds k x) } → Heap.SameBut T s.heap h' → Q () { s with heap := h' }) :
    wpAny (model prog w) A (updateSeq T (·.setIfInBounds k x)) Q E s := by
  refine wpAny_updateSeq hT rfl (h _ ?_ (Heap.SameBut.update ..)) hsz (by simp; omega)
  rw [Heap.get?_update_self _ hT rfl]
  simp [Obj.mapSeq]

/-- the first next of a zip -/
theorem zn_item0 {b n : Nat} {rs : List Rw} {arr : Array Value} {Q : Value → Shared → Prop} (hn : rs.length = n) (hnz : 0 < n) (hlin : n ≤ sizeLine)
    (hrow : ∀ j r, rs[j]? = some r → r.at_ < b ∧ RowAt s.heap r ∧ ItAt s.heap (b + j) r 0 ∧ ∃ x, r.vals[0]? = some x)
    (hz : IsZip s.heap (b + n + 2) (b + n) (b + n + 1) .none) (hTI : s.heap.get? (b + n) = some { cls := .type "tuple", data := .seq (refsF b n).toArray })
    (hTO : s.heap.get? (b + n + 1) = some { cls := .type "tuple", data := .seq arr }) (harr : arr.size = n)
    (hQ : ∀ h' col tk, col.size = n → (∀ (j : Nat) (r : Rw), rs[j]? = some r → col[j]? = r.vals[0]?) → IsZip h' (b + n + 2) (b + n) (b + n + 1) (rawInt s.heap.objs.size) →
      (∀ (j : Nat) (r : Rw), rs[j]? = some r → ItAt h' (b + j) r 1) → h'.get? (b + n) = some { cls := .type "tuple", data := .seq (refsF b n).toArray } →
      h'.get? s.heap.objs.size = some { cls := .type "tuple", data := .seq col } → h'.objs.size = s.heap.objs.size + 1 →
      (∀ c o, (c < b ∨ b + n + 2 < c) → s.heap.get? c = some o → h'.get? c = some o) → Q (.ref s.heap.objs.size) { s with heap := h', toks := tk }) :
    wpAny (model prog w) A (Builtin.«zip.__next__» ⟨[.ref (b + n + 2)], []⟩) (fun fin s' => ∃ v, fin = .done (.ret v) ∧ Q v s') E s := by
  obtain ⟨hp, g, d, tk0, os⟩ := s
  show wpAny _ _ (field (.ref (b + n + 2)) 2 >>= _) _ _ _
  refine wpAny_bind (wpAny_field hz rfl (x := .bool false) rfl ?_)
  show wpAny _ _ (field (.ref (b + n + 2)) 3 >>= _) _ _ _
  refine wpAny_bind (wpAny_field hz rfl (x := .ref (b + n)) rfl ?_)
  refine wpAny_bind (wpAny_seqItems hTI rfl ?_)
  obtain ⟨m, rfl⟩ : ∃ m, n = m + 1 := ⟨n - 1, by omega⟩
  show wpAny _ _ (Builtin.SmallTypes.ownedTupleIsFree (.ref (b + (m + 1) + 2)) >>= _) _ _ _
  refine wpAny_bind ?_
  unfold Builtin.SmallTypes.ownedTupleIsFree
  refine wpAny_bind (wpAny_field hz rfl (x := .none) rfl (wpAny_pure ?_))
  simp only [if_true]
  refine wpAny_bind (wpAny_rule ?_)
  refine wpAny_bind (wpAny_field hz rfl (x := .ref (b + (m + 1) + 1)) rfl ?_)
  refine wpAny_bind (wpAny_setField_rec hz (by simp) fun g0 hz0 hs0 => ?_)
  replace hz0 : IsZip g0 (b + (m + 1) + 2) (b + (m + 1)) (b + (m + 1) + 1) .ellipsis := hz0
  replace hs0 : Heap.SameBut (b + (m + 1) + 2) hp g0 := hs0
  refine wpAny_bind (forIn_any (fun l bb s' => bb = ⟨none, ⟨⟩⟩ ∧ ∃ k m' arr' tk h', l = (refsF (b + k) m').zipIdx k ∧ k + m' = m + 1 ∧ s' = ⟨h', g, d, tk, os⟩ ∧
      IsZip h' (b + (m + 1) + 2) (b + (m + 1)) (b + (m + 1) + 1) .ellipsis ∧ h'.get? (b + (m + 1)) = some { cls := .type "tuple", data := .seq (refsF b (m + 1)).toArray } ∧
      h'.get? (b + (m + 1) + 1) = some { cls := .type "tuple", data := .seq arr' } ∧ arr'.size = m + 1 ∧ (∀ (j : Nat) (r : Rw), j < k → rs[j]? = some r → arr'[j]? = r.vals[0]?) ∧
      (∀ (j : Nat) (r : Rw), rs[j]? = some r → ItAt h' (b + j) r (if j < k then 1 else 0)) ∧ h'.objs.size = hp.objs.size ∧
      (∀ c o, (c < b ∨ b + (m + 1) + 2 < c) → hp.get? c = some o → h'.get? c = some o)) ?_ ?_ _ _ _ ?_)
  · rintro ⟨v, k⟩ r bb s' ⟨rfl, k0, m', arr', tk, h', hl, hkm, rfl, hz', hTI', hTO', ha', hcol, hit, hsz, hkp⟩
    cases m' with
    | zero => cases hl
    | succ m' =>
    obtain ⟨⟨rfl, rfl⟩, rfl⟩ := (by simpa [refsF, List.zipIdx_cons] using hl : (v = Value.ref (b + k0) ∧ k = k0) ∧ r = (refsF (b + k0 + 1) m').zipIdx (k0 + 1))
    obtain ⟨r, hr⟩ : ∃ r, rs[k]? = some r := ⟨rs[k]'(by omega), List.getElem?_eq_getElem (by omega)⟩
    obtain ⟨h1, h2, _, x, hx⟩ := hrow k r hr
    have hI := hit k r hr
    rw [if_neg (Nat.lt_irrefl k)] at hI
    refine wpAny_bind (wpAny_onRaise ?_)
    show wpAny _ _ (Builtin.SmallTypes.nextOf (.ref (b + k)) >>= _) _ _ _
    refine wpAny_bind (zz_item (s := ⟨h', g, d, tk, os⟩) hI (h2.keep fun o e => hkp _ o (.inl h1) e) hx fun p hit1 hs1 => wpAny_pure ?_)
    replace hs1 : Heap.SameBut (b + k) h' p := hs1
    have hU : p.get? (b + (m + 1) + 1) = some { cls := .type "tuple", data := .seq arr' } := hs1.extBut _ _ (nn (by omega)) hTO'
    refine wpAny_bind (wpAny_seqItems (s := ⟨p, g, d, tk, os⟩) hU rfl ?_)
    refine wpAny_bind (upd_tup (s := ⟨p, g, d, tk, os⟩) hU (by omega) fun q hq hs2 => ?_)
    replace hs2 : Heap.SameBut (b + (m + 1) + 1) p q := hs2
    refine wpAny_bind (wpAny_letGo (wpAny_pure ⟨_, rfl, rfl, k + 1, m', _, tk, q, by rw [show b + (k + 1) = b + k + 1 by omega], by omega, rfl, hs2.extBut _ _ (nn (by omega)) (hs1.extBut _ _ (nn (by omega)) hz'),
      hs2.extBut _ _ (nn (by omega)) (hs1.extBut _ _ (nn (by omega)) hTI'), hq, by simp [ha'], ?_, ?_, by rw [hs2.1, hs1.1, hsz], ?_⟩))
    · intro j r' hj hr'
      by_cases e : j = k
      · subst e; rw [hr] at hr'; cases hr'; rw [hx, Array.getElem?_setIfInBounds_self_of_lt (by omega)]
      · rw [Array.getElem?_setIfInBounds_ne (Ne.symm e)]; exact hcol j r' (by omega) hr'
    · intro j r' hr'
      by_cases e : j = k
      · subst e; rw [hr] at hr'; cases hr'; rw [if_pos (Nat.lt_succ_self _)]; exact hit1.keep fun o e => hs2.extBut _ _ (nn (by omega)) e
      · have := hit j r' hr'
        have hjn : j < m + 1 := by rw [← hn]; exact (List.getElem?_eq_some_iff.mp hr').1
        rw [show (if j < k + 1 then 1 else 0) = (if j < k then 1 else 0) by split <;> split <;> omega]
        exact this.keep fun o e => hs2.extBut _ _ (nn (by omega)) (hs1.extBut _ _ (nn (by omega)) e)
    · intro c o hc e
      exact hs2.extBut _ _ (nn (by omega)) (hs1.extBut _ _ (nn (by omega)) (hkp c o hc e))
  · rintro bb s' ⟨rfl, k, m', arr', tk, h', hl, hkm, rfl, hz', hTI', hTO', ha', hcol, hit, hsz, hkp⟩
    cases m' with
    | succ m' => cases hl
    | zero =>
    obtain rfl : k = m + 1 := by omega
    refine wpAny_bind (wpAny_seqItems (s := ⟨h', g, d, tk, os⟩) hTO' rfl ?_)
    refine wpAny_bind (wpAny_newTuple ?_ (by simp; omega))
    have hlt : b + (m + 1) + 2 < h'.objs.size := Heap.lt_size hz'
    refine wpAny_bind ?_
    show wpAny _ _ (Builtin.SmallTypes.ownedTupleHandOut (.ref (b + (m + 1) + 2)) (.ref h'.objs.size)) _ _ ⟨h'.push { cls := .type "tuple", data := .seq arr'.toList.toArray }, g, d, tk, os⟩
    unfold Builtin.SmallTypes.ownedTupleHandOut
    have hz6 : IsZip (h'.push { cls := .type "tuple", data := .seq arr'.toList.toArray }) (b + (m + 1) + 2) (b + (m + 1)) (b + (m + 1) + 1) .ellipsis := Heap.get?_push_of_some _ hz'
    refine wpAny_bind (wpAny_setField_rec hz6 (by simp) fun h7 hz7 hs7 => ?_)
    replace hz7 : IsZip h7 (b + (m + 1) + 2) (b + (m + 1)) (b + (m + 1) + 1) (rawInt h'.objs.size) := hz7
    refine wpAny_setField_rec hz7 (by simp) fun h8 hz8 hs8 => ?_
    replace hz8 : IsZip h8 (b + (m + 1) + 2) (b + (m + 1)) (b + (m + 1) + 1) (rawInt h'.objs.size) := hz8
    replace hs7 : Heap.SameBut (b + (m + 1) + 2) (h'.push { cls := .type "tuple", data := .seq arr'.toList.toArray }) h7 := hs7
    replace hs8 : Heap.SameBut (b + (m + 1) + 2) h7 h8 := hs8
    have up : ∀ c o, c ≠ b + (m + 1) + 2 → h'.get? c = some o → h8.get? c = some o := fun c o c1 e => hs8.extBut _ _ c1 (hs7.extBut _ _ c1 (Heap.get?_push_of_some _ e))
    have hT8 : h8.get? h'.objs.size = some { cls := .type "tuple", data := .seq arr' } := by
      have := hs8.extBut _ _ (Nat.ne_of_gt hlt) (hs7.extBut _ _ (Nat.ne_of_gt hlt) (Heap.get?_push_size h' (o := { cls := .type "tuple", data := .seq arr'.toList.toArray }) rfl))
      rw [this]
    have h88 : h8.objs.size = h'.objs.size + 1 := by rw [hs8.1, hs7.1, Heap.size_push]
    refine wpAny_pure ⟨_, rfl, ?_⟩
    rw [hsz] at hz8 hT8 h88
    show Q (.ref h'.objs.size) ⟨h8, g, d, tk, os⟩
    rw [hsz]
    refine hQ h8 arr' tk ha' (fun j r hr => hcol j r (by rw [← hn]; exact (List.getElem?_eq_some_iff.mp hr).1) hr) hz8 (fun j r hr => ?_) (up _ _ (nn (by omega)) hTI') hT8 h88 fun c o hc e => up c o (nn (by omega)) (hkp c o hc e)
    have hjn : j < m + 1 := by rw [← hn]; exact (List.getElem?_eq_some_iff.mp hr).1
    have := hit j r hr
    rw [if_pos hjn] at this
    exact this.keep fun o e => up _ o (nn (by omega)) e
  · have i1 : b + (m + 1) ≠ b + (m + 1) + 2 := by omega
    have i2 : b + (m + 1) + 1 ≠ b + (m + 1) + 2 := by omega
    have i3 : ∀ c, (c < b ∨ b + (m + 1) + 2 < c) → c ≠ b + (m + 1) + 2 := by omega
    refine ⟨rfl, 0, m + 1, arr, tk0, g0, rfl, by omega, rfl, hz0, hs0.extBut _ _ i1 hTI, hs0.extBut _ _ i2 hTO, harr, fun j r hj => absurd hj (Nat.not_lt_zero j), fun j r hr => ?_, hs0.1, fun c o hc e => hs0.extBut _ _ (i3 c hc) e⟩
    have hjn : j < m + 1 := by rw [← hn]; exact (List.getElem?_eq_some_iff.mp hr).1
    rw [if_neg (Nat.not_lt_zero j)]
    exact (hrow j r hr).2.2.1.keep fun o e => hs0.extBut _ _ (nn (by omega)) e

/-- the later nexts: the tuple handed out before is still held -/
theorem zn_itemH {b n i T : Nat} {f : Bool} {oT : Obj} {rs : List Rw} {Q : Value → Shared → Prop} (hn : rs.length = n) (hnz : 0 < n) (hlin : n ≤ sizeLine)
    (hrow : ∀ j r, rs[j]? = some r → r.at_ < b ∧ RowAt s.heap r ∧ ItAt s.heap (b + j) r i ∧ ∃ x, r.vals[i]? = some x)
    (hz : IsZipHeld s.heap (b + n + 2) (b + n) (b + n + 1) T f) (hT : s.heap.get? T = some oT) (hTI : s.heap.get? (b + n) = some { cls := .type "tuple", data := .seq (refsF b n).toArray })
    (hQ : ∀ h' col, col.size = n → (∀ (j : Nat) (r : Rw), rs[j]? = some r → col[j]? = r.vals[i]?) → IsZipHeld h' (b + n + 2) (b + n) (b + n + 1) T true →
      (∀ (j : Nat) (r : Rw), rs[j]? = some r → ItAt h' (b + j) r (i + 1)) → h'.get? (b + n) = some { cls := .type "tuple", data := .seq (refsF b n).toArray } →
      h'.get? s.heap.objs.size = some { cls := .type "tuple", data := .seq col } → h'.objs.size = s.heap.objs.size + 1 →
      (∀ c o, (c < b ∨ b + n + 2 < c) → s.heap.get? c = some o → h'.get? c = some o) → Q (.ref s.heap.objs.size) { s with heap := h' }) :
    wpAny (model prog w) A (Builtin.«zip.__next__» ⟨[.ref (b + n + 2)], []⟩) (fun fin s' => ∃ v, fin = .done (.ret v) ∧ Q v s') E s := by
  obtain ⟨hp, g, d, tk, os⟩ := s
  show wpAny _ _ (field (.ref (b + n + 2)) 2 >>= _) _ _ _
  refine wpAny_bind (wpAny_field hz rfl (x := .bool false) rfl ?_)
  show wpAny _ _ (field (.ref (b + n + 2)) 3 >>= _) _ _ _
  refine wpAny_bind (wpAny_field hz rfl (x := .ref (b + n)) rfl ?_)
  refine wpAny_bind (wpAny_seqItems hTI rfl ?_)
  obtain ⟨m, rfl⟩ : ∃ m, n = m + 1 := ⟨n - 1, by omega⟩
  show wpAny _ _ (Builtin.SmallTypes.ownedTupleIsFree (.ref (b + (m + 1) + 2)) >>= _) _ _ _
  refine wpAny_bind (wpAny_tupleHeld_zip hz hT fun g0 hz0 hs0 => ?_)
  simp only [Bool.false_eq_true, if_false]
  replace hs0 : Heap.SameBut (b + (m + 1) + 2) hp g0 := hs0
  rw [← Array.forIn_toList]
  refine wpAny_bind (forIn_any (fun l bb s' => ∃ acc : Array Value, bb = ⟨none, acc⟩ ∧ ∃ k m' h', l = refsF (b + k) m' ∧ k + m' = m + 1 ∧ s' = ⟨h', g, d, tk, os⟩ ∧
      IsZipHeld h' (b + (m + 1) + 2) (b + (m + 1)) (b + (m + 1) + 1) T true ∧ h'.get? (b + (m + 1)) = some { cls := .type "tuple", data := .seq (refsF b (m + 1)).toArray } ∧
      acc.size = k ∧ (∀ (j : Nat) (r : Rw), j < k → rs[j]? = some r → acc[j]? = r.vals[i]?) ∧
      (∀ (j : Nat) (r : Rw), rs[j]? = some r → ItAt h' (b + j) r (if j < k then i + 1 else i)) ∧ h'.objs.size = hp.objs.size ∧
      (∀ c o, (c < b ∨ b + (m + 1) + 2 < c) → hp.get? c = some o → h'.get? c = some o)) ?_ ?_ _ _ _ ?_)
  · rintro v r bb s' ⟨acc, rfl, k0, m', h', hl, hkm, rfl, hz', hTI', ha', hcol, hit, hsz, hkp⟩
    cases m' with
    | zero => cases hl
    | succ m' =>
    obtain ⟨rfl, rfl⟩ := (by simpa [refsF] using hl : v = Value.ref (b + k0) ∧ r = refsF (b + k0 + 1) m')
    obtain ⟨r, hr⟩ : ∃ r, rs[k0]? = some r := ⟨rs[k0]'(by omega), List.getElem?_eq_getElem (by omega)⟩
    obtain ⟨h1, h2, _, x, hx⟩ := hrow k0 r hr
    have hI := hit k0 r hr
    rw [if_neg (Nat.lt_irrefl k0)] at hI
    refine wpAny_bind (wpAny_holding ?_)
    show wpAny _ _ (Builtin.SmallTypes.nextOf (.ref (b + k0)) >>= _) _ _ _
    refine wpAny_bind (zz_item (s := ⟨h', g, d, tk, os⟩) hI (h2.keep fun o e => hkp _ o (.inl h1) e) hx fun p hit1 hs1 => wpAny_pure ?_)
    replace hs1 : Heap.SameBut (b + k0) h' p := hs1
    refine wpAny_pure ⟨_, rfl, _, rfl, k0 + 1, m', p, by rw [show b + (k0 + 1) = b + k0 + 1 by omega], by omega, rfl, hs1.extBut _ _ (nn (by omega)) hz',
      hs1.extBut _ _ (nn (by omega)) hTI', by simp [ha'], ?_, ?_, by rw [hs1.1, hsz], ?_⟩
    · intro j r' hj hr'
      by_cases e : j = k0
      · subst e; rw [hr] at hr'; cases hr'; rw [hx, Array.getElem?_push, if_pos ha'.symm]
      · rw [Array.getElem?_push, if_neg (show ¬ j = acc.size by omega)]; exact hcol j r' (by omega) hr'
    · intro j r' hr'
      by_cases e : j = k0
      · subst e; rw [hr] at hr'; cases hr'; rw [if_pos (Nat.lt_succ_self _)]; exact hit1
      · have := hit j r' hr'
        have hjn : j < m + 1 := by rw [← hn]; exact (List.getElem?_eq_some_iff.mp hr').1
        rw [show (if j < k0 + 1 then i + 1 else i) = (if j < k0 then i + 1 else i) by split <;> split <;> omega]
        exact this.keep fun o e => hs1.extBut _ _ (nn (by omega)) e
    · intro c o hc e
      exact hs1.extBut _ _ (nn (by omega)) (hkp c o hc e)
  · rintro bb s' ⟨acc, rfl, k, m', h', hl, hkm, rfl, hz', hTI', ha', hcol, hit, hsz, hkp⟩
    cases m' with
    | succ m' => cases hl
    | zero =>
    obtain rfl : k = m + 1 := by omega
    show wpAny _ _ (newTuple acc.toList >>= _) _ _ _
    refine wpAny_bind (wpAny_newTuple ?_ (by simp; omega))
    have hlt : b + (m + 1) + 2 < h'.objs.size := Heap.lt_size hz'
    refine wpAny_pure ⟨_, rfl, ?_⟩
    show Q (.ref h'.objs.size) ⟨h'.push { cls := .type "tuple", data := .seq acc.toList.toArray }, g, d, tk, os⟩
    have hp4 := Heap.get?_push_size h' (o := { cls := .type "tuple", data := .seq acc.toList.toArray }) rfl
    have hz4 : (h'.push { cls := .type "tuple", data := .seq acc.toList.toArray }).objs.size = h'.objs.size + 1 := Heap.size_push ..
    rw [hsz] at hp4 hz4 ⊢
    refine hQ _ acc ha' (fun j r hr => hcol j r (by rw [← hn]; exact (List.getElem?_eq_some_iff.mp hr).1) hr) (Heap.get?_push_of_some _ hz') (fun j r hr => ?_) (Heap.get?_push_of_some _ hTI') hp4 hz4
      fun c o hc e => Heap.get?_push_of_some _ (hkp c o hc e)
    have hjn : j < m + 1 := by rw [← hn]; exact (List.getElem?_eq_some_iff.mp hr).1
    have := hit j r hr
    rw [if_pos hjn] at this
    exact this.keep fun o e => Heap.get?_push_of_some _ e
  · have i1 : b + (m + 1) ≠ b + (m + 1) + 2 := by omega
    have i3 : ∀ c, (c < b ∨ b + (m + 1) + 2 < c) → c ≠ b + (m + 1) + 2 := by omega
    refine ⟨#[], rfl, 0, m + 1, g0, rfl, by omega, rfl, hz0, hs0.extBut _ _ i1 hTI, rfl, fun j r hj => absurd hj (Nat.not_lt_zero j), fun j r hr => ?_, hs0.1, fun c o hc e => hs0.extBut _ _ (i3 c hc) e⟩
    have hjn : j < m + 1 := by rw [← hn]; exact (List.getElem?_eq_some_iff.mp hr).1
    rw [if_neg (Nat.not_lt_zero j)]
    exact (hrow j r hr).2.2.1.keep fun o e => hs0.extBut _ _ (nn (by omega)) e

/-- the end, first next -/
theorem zn_end0 {b n : Nat} {r0 : Rw} {Q : Fin → Shared → Prop} (hh : A.handled = none) (hnz : 0 < n)
    (hr1 : r0.at_ < b) (hr2 : RowAt s.heap r0) (hr3 : ItAt s.heap b r0 0) (hend : r0.vals[0]? = none)
    (hz : IsZip s.heap (b + n + 2) (b + n) (b + n + 1) .none) (hTI : s.heap.get? (b + n) = some { cls := .type "tuple", data := .seq (refsF b n).toArray })
    (hE : ∀ h' e, (∀ c o, (c < b ∨ b + n + 2 < c) → s.heap.get? c = some o → h'.get? c = some o) → (∃ o, h'.get? e = some o ∧ o.cls = .type "StopIteration") → E (.ref e) { s with heap := h' }) :
    wpAny (model prog w) A (Builtin.«zip.__next__» ⟨[.ref (b + n + 2)], []⟩) Q E s := by
  obtain ⟨hp, g, d, tk0, os⟩ := s
  show wpAny _ _ (field (.ref (b + n + 2)) 2 >>= _) _ _ _
  refine wpAny_bind (wpAny_field hz rfl (x := .bool false) rfl ?_)
  show wpAny _ _ (field (.ref (b + n + 2)) 3 >>= _) _ _ _
  refine wpAny_bind (wpAny_field hz rfl (x := .ref (b + n)) rfl ?_)
  refine wpAny_bind (wpAny_seqItems hTI rfl ?_)
  obtain ⟨m, rfl⟩ : ∃ m, n = m + 1 := ⟨n - 1, by omega⟩
  show wpAny _ _ (Builtin.SmallTypes.ownedTupleIsFree (.ref (b + (m + 1) + 2)) >>= _) _ _ _
  refine wpAny_bind ?_
  unfold Builtin.SmallTypes.ownedTupleIsFree
  refine wpAny_bind (wpAny_field hz rfl (x := .none) rfl (wpAny_pure ?_))
  simp only [if_true]
  refine wpAny_bind (wpAny_rule ?_)
  refine wpAny_bind (wpAny_field hz rfl (x := .ref (b + (m + 1) + 1)) rfl ?_)
  refine wpAny_bind (wpAny_setField_rec hz (by simp) fun g0 hz0 hs0 => ?_)
  replace hz0 : IsZip g0 (b + (m + 1) + 2) (b + (m + 1)) (b + (m + 1) + 1) .ellipsis := hz0
  replace hs0 : Heap.SameBut (b + (m + 1) + 2) hp g0 := hs0
  refine wpAny_bind ?_
  simp only [refsF, List.zipIdx_cons, List.forIn_cons]
  refine wpAny_bind (wpAny_bind (wpAny_onRaise ?_))
  show wpAny _ _ (Builtin.SmallTypes.nextOf (.ref b) >>= _) _ _ ⟨g0, g, d, tk0, os⟩
  refine wpAny_bind (zz_end (s := ⟨g0, g, d, tk0, os⟩) hh (hr3.keep fun o e => hs0.extBut _ _ (nn (by omega)) e) (hr2.keep fun o e => hs0.extBut _ _ (nn (by omega)) e) hend fun q e hq he => ?_)
  replace hq : Heap.ExtBut b g0 q := hq
  obtain ⟨oe, hoe, hce⟩ := he
  replace hoe : q.get? e = some oe := hoe
  have hzq : IsZip q (b + (m + 1) + 2) (b + (m + 1)) (b + (m + 1) + 1) .ellipsis := hq _ _ (nn (by omega)) hz0
  have hez : e ≠ b + (m + 1) + 2 := fun x => by subst x; rw [hzq] at hoe; cases hoe; simp at hce
  refine wpAny_setField_rec (s := ⟨q, g, d, tk0, os⟩) hzq (by simp) fun q' _ hq' => ?_
  replace hq' : Heap.SameBut (b + (m + 1) + 2) q q' := hq'
  exact hE q' e (fun c o hc x => hq'.extBut _ _ (nn (by omega)) (hq _ _ (nn (by omega)) (hs0.extBut _ _ (nn (by omega)) x))) ⟨oe, hq'.extBut _ _ hez hoe, hce⟩

theorem zn_endH {b n i T : Nat} {f : Bool} {oT : Obj} {r0 : Rw} {Q : Fin → Shared → Prop} (hh : A.handled = none) (hnz : 0 < n)
    (hr1 : r0.at_ < b) (hr2 : RowAt s.heap r0) (hr3 : ItAt s.heap b r0 i) (hend : r0.vals[i]? = none)
    (hz : IsZipHeld s.heap (b + n + 2) (b + n) (b + n + 1) T f) (hT : s.heap.get? T = some oT) (hTI : s.heap.get? (b + n) = some { cls := .type "tuple", data := .seq (refsF b n).toArray })
    (hE : ∀ h' e, (∀ c o, (c < b ∨ b + n + 2 < c) → s.heap.get? c = some o → h'.get? c = some o) → (∃ o, h'.get? e = some o ∧ o.cls = .type "StopIteration") → E (.ref e) { s with heap := h' }) :
    wpAny (model prog w) A (Builtin.«zip.__next__» ⟨[.ref (b + n + 2)], []⟩) Q E s := by
  obtain ⟨hp, g, d, tk0, os⟩ := s
  show wpAny _ _ (field (.ref (b + n + 2)) 2 >>= _) _ _ _
  refine wpAny_bind (wpAny_field hz rfl (x := .bool false) rfl ?_)
  show wpAny _ _ (field (.ref (b + n + 2)) 3 >>= _) _ _ _
  refine wpAny_bind (wpAny_field hz rfl (x := .ref (b + n)) rfl ?_)
  refine wpAny_bind (wpAny_seqItems hTI rfl ?_)
  obtain ⟨m, rfl⟩ : ∃ m, n = m + 1 := ⟨n - 1, by omega⟩
  show wpAny _ _ (Builtin.SmallTypes.ownedTupleIsFree (.ref (b + (m + 1) + 2)) >>= _) _ _ _
  refine wpAny_bind (wpAny_tupleHeld_zip hz hT fun g0 hz0 hs0 => ?_)
  simp only [Bool.false_eq_true, if_false]
  replace hs0 : Heap.SameBut (b + (m + 1) + 2) hp g0 := hs0
  rw [← Array.forIn_toList]
  refine wpAny_bind ?_
  simp only [refsF, List.forIn_cons]
  refine wpAny_bind (wpAny_bind (wpAny_holding ?_))
  show wpAny _ _ (Builtin.SmallTypes.nextOf (.ref b) >>= _) _ _ ⟨g0, g, d, tk0, os⟩
  refine wpAny_bind (zz_end (s := ⟨g0, g, d, tk0, os⟩) hh (hr3.keep fun o e => hs0.extBut _ _ (nn (by omega)) e) (hr2.keep fun o e => hs0.extBut _ _ (nn (by omega)) e) hend fun q e hq he => ?_)
  replace hq : Heap.ExtBut b g0 q := hq
  exact hE q e (fun c o hc x => (hq _ _ (nn (by omega)) (hs0.extBut _ _ (nn (by omega)) x))) he
/-- zip of nothing ends at once -/
theorem zn_endE {b : Nat} {f0 : Value} {Q : Fin → Shared → Prop} (hh : A.handled = none)
    (hz : IsZip s.heap (b + 2) b (b + 1) f0) (hTI : s.heap.get? b = some { cls := .type "tuple", data := .seq #[] })
    (hE : ∀ h' e, (∀ c o, s.heap.get? c = some o → h'.get? c = some o) → (∃ o, h'.get? e = some o ∧ o.cls = .type "StopIteration") → E (.ref e) { s with heap := h' }) :
    wpAny (model prog w) A (Builtin.«zip.__next__» ⟨[.ref (b + 2)], []⟩) Q E s := by
  obtain ⟨hp, g, d, tk0, os⟩ := s
  show wpAny _ _ (field (.ref (b + 2)) 2 >>= _) _ _ _
  refine wpAny_bind (wpAny_field hz rfl (x := .bool false) rfl ?_)
  show wpAny _ _ (field (.ref (b + 2)) 3 >>= _) _ _ _
  refine wpAny_bind (wpAny_field hz rfl (x := .ref b) rfl ?_)
  refine wpAny_bind (wpAny_seqItems hTI rfl ?_)
  show wpAny _ _ (rule "zip.__next__.no-iterables" >>= _) _ _ _
  refine wpAny_bind (wpAny_rule ?_)
  refine wpAny_bind ?_
  show wpAny _ _ (newExc (.type "StopIteration") [] >>= _) _ _ _
  refine wpAny_bind ?_
  simp only [newExc, newTuple]
  refine wpAny_bind (wpAny_newObj_type ?_ (by size_fits))
  refine wpAny_bind (m := firstArgMember _ _) (wpAny_of_eq (a := Value.none) (by first | rfl | (simp only [firstArgMember]; rfl)) ?_)
  refine wpAny_newObj_type ?_ (by size_fits)
  simp only [raiseNew]
  refine wpAny_bind (wpAny_handled ?_)
  first | rw [show A.in1.handled = none from hh] | rw [hh]
  refine wpAny_bind (wpAny_pure (wpAny_throw ?_))
  exact hE _ _ (fun c o e => Heap.get?_push_of_some _ (Heap.get?_push_of_some _ e)) ⟨_, Heap.get?_push_size _ rfl, rfl⟩
end
end PySem.Z
set_option maxRecDepth 100000
set_option Elab.async false
namespace PySem.Z
open PySem

theorem newClass_zip (vs : List Value) : Builtin.SmallTypes.newClass "zip" ⟨.type "zip" :: vs, []⟩ = pure (.type "zip", vs) := by
  unfold Builtin.SmallTypes.newClass
  simp only [isType, sub_zip, pure_bind, Bool.not_true, Bool.false_eq_true, if_false]

/-- what zip.__new__ leaves -/
structure ZBeg (b : Nat) (rs : List Rw) (h0 h : Heap) : Prop where
  old : ∀ c o, h0.get? c = some o → h.get? c = some o
  it : ∀ (j : Nat) (r : Rw), rs[j]? = some r → ItAt h (b + j) r 0
  TI : h.get? (b + rs.length) = some { cls := .type "tuple", data := .seq (refsF b rs.length).toArray }
  TO : ∃ arr : Array Value, arr.size = rs.length ∧ h.get? (b + rs.length + 1) = some { cls := .type "tuple", data := .seq arr }
  z : IsZip h (b + rs.length + 2) (b + rs.length) (b + rs.length + 1) .none
  size : h.objs.size = b + rs.length + 3

section
variable {prog : Program} {w : World} {A : Around} {E : Value → Shared → Prop} {s : Shared}
theorem zz_iter {r : Rw} {Q : Value → Shared → Prop} (hr : RowAt s.heap r)
    (hQ : ∀ h', ItAt h' s.heap.objs.size r 0 → h'.objs.size = s.heap.objs.size + 1 → (∀ c o, s.heap.get? c = some o → h'.get? c = some o) → Q (.ref s.heap.objs.size) { s with heap := h' }) :
    wpAny (model prog w) A (pyIter (.ref r.at_)) Q E s := by
  obtain ⟨a, l, v⟩ := r; cases l
  · exact wpAny_pyIter_tuple hr (hQ _ ⟨_, Heap.get?_push_size _ rfl, rfl, rfl⟩ (Heap.size_push ..) fun c o e => Heap.get?_push_of_some _ e)
  · exact wpAny_pyIter_list hr (hQ _ ⟨_, Heap.get?_push_size _ rfl, rfl, rfl⟩ (Heap.size_push ..) fun c o e => Heap.get?_push_of_some _ e)
end

theorem zz_new (rs : List Rw) (hlin : rs.length ≤ sizeLine) :
    Meets (Builtin.«zip.__new__» ⟨.type "zip" :: rs.map (fun r => Value.ref r.at_), []⟩) (fun _ R s => (∀ (j : Nat) (r : Rw), rs[j]? = some r → RowAt s.heap r) ∧
      ∀ h', ZBeg s.heap.objs.size rs s.heap h' → R (.ok (.ret (.ref (s.heap.objs.size + rs.length + 2)))) { s with heap := h' }) :=
  .of_wp fun prog w A R s h => by
    obtain ⟨hp, g, d, tk, os⟩ := s; obtain ⟨hr, h⟩ := h
    unfold Builtin.«zip.__new__»
    refine wpAny_bind (wpAny_of_eq (newClass_zip _) ?_)
    try dsimp only
    refine wpAny_bind ?_
    unfold Builtin.SmallTypes.iterAll
    refine wpAny_bind (forIn_any (fun l (bb : Array Value) s' => ∃ k h', l = (rs.drop k).map (fun r => Value.ref r.at_) ∧ k ≤ rs.length ∧ bb = (refsF hp.objs.size k).toArray ∧ s' = ⟨h', g, d, tk, os⟩ ∧
      (∀ (j : Nat) (r : Rw), j < k → rs[j]? = some r → ItAt h' (hp.objs.size + j) r 0) ∧ h'.objs.size = hp.objs.size + k ∧ (∀ c o, hp.get? c = some o → h'.get? c = some o)) ?_ ?_ _ _ _ ?_)
    · rintro v r bb s' ⟨k, h', hl, hk, rfl, rfl, hit, hsz, hkp⟩
      have hlt : k < rs.length := by
        rcases Nat.lt_or_ge k rs.length with h | h
        · exact h
        · rw [List.drop_eq_nil_of_le h] at hl; cases hl
      rw [List.drop_eq_getElem_cons hlt, List.map_cons] at hl
      injection hl with e1 e2
      subst e1 e2
      have hrk : rs[k]? = some rs[k] := List.getElem?_eq_getElem hlt
      refine wpAny_bind (wpAny_holding (zz_iter (s := ⟨h', g, d, tk, os⟩) (r := rs[k]) ?_ fun p hi hsp hkp' => wpAny_pure ⟨_, rfl, k + 1, p, rfl, hlt, ?_, rfl, ?_, ?_, fun c o e => hkp' _ _ (hkp c o e)⟩))
      · exact (hr k _ hrk).keep fun o e => hkp _ o e
      · show (refsF hp.objs.size k).toArray.push (.ref h'.objs.size) = _
        rw [hsz, List.push_toArray, refsF_snoc]
      · intro j r hj hr'
        by_cases e : j = k
        · subst e; rw [hrk] at hr'; cases hr'; rw [← hsz]; exact hi
        · exact (hit j r (by omega) hr').keep fun o e => hkp' _ o e
      · rw [hsp]; show h'.objs.size + 1 = _; rw [hsz]; omega
    · rintro bb s' ⟨k, h', hl, hk, rfl, rfl, hit, hsz, hkp⟩
      have hk' : k = rs.length := by
        rcases Nat.lt_or_ge k rs.length with h | h
        · rw [List.drop_eq_getElem_cons h] at hl; cases hl
        · omega
      subst hk'
      refine wpAny_pure ?_
      have e0 : ((refsF hp.objs.size rs.length).toArray).toList = refsF hp.objs.size rs.length := rfl
      rw [e0]
      refine wpAny_bind (wpAny_newTuple ?_ (by rw [refsF_length]; exact hlin))
      refine wpAny_bind (wpAny_newTuple ?_ (by rw [List.length_map, refsF_length]; exact hlin))
      refine wpAny_bind ?_
      unfold Builtin.SmallTypes.newRecord
      refine wpAny_newObj_type (hd := show (5:Nat) ≤ sizeLine + 2 from Nat.le_of_ble_eq_true rfl) (wpAny_pure ⟨_, rfl, ?_⟩)
      have z1 : (h'.push { cls := .type "tuple", data := .seq (refsF hp.objs.size rs.length).toArray }).objs.size = hp.objs.size + rs.length + 1 := by rw [Heap.size_push, hsz]
      have z2 : ((h'.push { cls := .type "tuple", data := .seq (refsF hp.objs.size rs.length).toArray }).push { cls := .type "tuple", data := .seq ((refsF hp.objs.size rs.length).map fun _ => Value.none).toArray }).objs.size = hp.objs.size + rs.length + 2 := by rw [Heap.size_push, z1]
      show R (.ok (.ret (.ref ((h'.push _).push _).objs.size))) _
      rw [z2]
      refine h _ ⟨fun c o e => Heap.get?_push_of_some _ (Heap.get?_push_of_some _ (Heap.get?_push_of_some _ (hkp c o e))), fun j r hr' => ?_, ?_, ⟨((refsF hp.objs.size rs.length).map fun _ => Value.none).toArray, by simp [refsF_length], ?_⟩, ?_, ?_⟩
      · exact (hit j r (List.getElem?_eq_some_iff.mp hr').1 hr').keep fun o e => Heap.get?_push_of_some _ (Heap.get?_push_of_some _ (Heap.get?_push_of_some _ e))
      · have := Heap.get?_push_size h' (o := { cls := .type "tuple", data := .seq (refsF hp.objs.size rs.length).toArray }) rfl
        rw [hsz] at this
        exact Heap.get?_push_of_some _ (Heap.get?_push_of_some _ this)
      · have := Heap.get?_push_size (h'.push { cls := .type "tuple", data := .seq (refsF hp.objs.size rs.length).toArray }) (o := { cls := .type "tuple", data := .seq ((refsF hp.objs.size rs.length).map fun _ => Value.none).toArray }) rfl
        rw [z1] at this
        exact Heap.get?_push_of_some _ this
      · have := Heap.get?_push_size ((h'.push { cls := .type "tuple", data := .seq (refsF hp.objs.size rs.length).toArray }).push { cls := .type "tuple", data := .seq ((refsF hp.objs.size rs.length).map fun _ => Value.none).toArray }) (o := { cls := .type "zip", data := .fields ([.none, .bool false] ++ [.bool false, .ref h'.objs.size, .ref (h'.push { cls := .type "tuple", data := .seq (refsF hp.objs.size rs.length).toArray }).objs.size] : List Value).toArray }) rfl
        rw [z2, z1, hsz] at this
        rw [z1, hsz]
        exact this
      · rw [Heap.size_push, z2]
    · exact ⟨0, hp, rfl, Nat.zero_le _, rfl, rfl, fun j r hj => absurd hj (Nat.not_lt_zero j), rfl, fun c o e => e⟩

section
variable {prog : Program} {w : World} {A : Around} {E : Value → Shared → Prop} {s : Shared}
theorem zz_call {rs : List Rw} {Q : Value → Shared → Prop} (hlin : rs.length ≤ sizeLine) (hr : ∀ (j : Nat) (r : Rw), rs[j]? = some r → RowAt s.heap r)
    (h : ∀ h', ZBeg s.heap.objs.size rs s.heap h' → Q (.ref (s.heap.objs.size + rs.length + 2)) { s with heap := h' }) :
    wpAny (model prog w) A (call (.type "zip") (rs.map (fun r => Value.ref r.at_))) Q E s :=
  callType_new F.called_zip (by decide) (zz_typeCall _) (zz_newCall _) (fun obj => zz_argsInit obj _) F.entry_zip_new (zz_new rs hlin)
    ⟨hr, fun h' B => ⟨⟨_, B.z, rfl⟩, h h' B⟩⟩
end
end PySem.Z
set_option maxRecDepth 100000
set_option Elab.async false
namespace PySem.Z
open PySem

theorem zip_no_len : typeLookup (.type "zip") "__len__" = pure none := by rw [typeLookup_type, builtinLookup_eq_fast]; kernel_rfl
theorem zip_no_hint : typeLookup (.type "zip") "__length_hint__" = pure none := by rw [typeLookup_type, builtinLookup_eq_fast]; kernel_rfl

/-- the walk of list(zip(..)), i columns drawn -/
structure ZSt (b n : Nat) (rs : List Rw) (i : Nat) (h : Heap) : Prop where
  row : ∀ (j : Nat) (r : Rw), rs[j]? = some r → r.at_ < b ∧ RowAt h r ∧ ItAt h (b + j) r i
  z : (i = 0 ∧ IsZip h (b + n + 2) (b + n) (b + n + 1) .none) ∨ (0 < i ∧ ∃ T f o, IsZipHeld h (b + n + 2) (b + n) (b + n + 1) T f ∧ b + n + 2 < T ∧ h.get? T = some o)
  TI : h.get? (b + n) = some { cls := .type "tuple", data := .seq (refsF b n).toArray }
  TO : i = 0 → ∃ arr : Array Value, arr.size = n ∧ h.get? (b + n + 1) = some { cls := .type "tuple", data := .seq arr }
  size : h.objs.size = b + n + 4 + i

/-- the columns drawn so far, and the list of them -/
structure ZCols (S b1 n i : Nat) (rs : List Rw) (h : Heap) : Prop where
  lst : ∃ (acc : Array Value) (c : Nat), h.get? S = some { cls := .type "list", dict := none, data := .seq acc c, slots := #[] } ∧ acc.size = i ∧ ∀ j, j < i → acc[j]? = some (.ref (b1 + j))
  col : ∀ c, c < i → ∃ col : Array Value, h.get? (b1 + c) = some { cls := .type "tuple", data := .seq col } ∧ col.size = n ∧ ∀ (j : Nat) (r : Rw), rs[j]? = some r → col[j]? = r.vals[c]?

section
variable {prog : Program} {w : World} {A : Around} {E : Value → Shared → Prop} {s : Shared}

theorem zx_item {b n i : Nat} {rs : List Rw} {Q : Option Value → Shared → Prop} (hn : rs.length = n) (hnz : 0 < n) (hlin : n ≤ sizeLine) (st : ZSt b n rs i s.heap) (hx : ∀ (j : Nat) (r : Rw), rs[j]? = some r → ∃ x, r.vals[i]? = some x)
    (hQ : ∀ h' col tk, ZSt b n rs (i + 1) h' → h'.get? (b + n + 4 + i) = some { cls := .type "tuple", data := .seq col } → col.size = n → (∀ (j : Nat) (r : Rw), rs[j]? = some r → col[j]? = r.vals[i]?) →
      (∀ c o, (c < b ∨ b + n + 2 < c) → s.heap.get? c = some o → h'.get? c = some o) → Q (some (.ref (b + n + 4 + i))) { s with heap := h', toks := tk }) :
    wpAny (model prog w) A (pyNext (.ref (b + n + 2))) Q E s := by
  have hT : s.TypeIs (.ref (b + n + 2)) "zip" := by
    rcases st.z with ⟨_, z⟩ | ⟨_, _, _, _, z, _, _⟩ <;> exact ⟨_, z, rfl⟩
  have hrow : ∀ j r, rs[j]? = some r → r.at_ < b ∧ RowAt s.heap r ∧ ItAt s.heap (b + j) r i ∧ ∃ x, r.vals[i]? = some x := fun j r e => ⟨(st.row j r e).1, (st.row j r e).2.1, (st.row j r e).2.2, hx j r e⟩
  unfold pyNext
  refine wpAny_bind (wpAny_attempt (wpAny_callSpecial?_slot (name := Str.ofString "__next__") hT F.slot_zip_next
    (wpAny_call_entry F.slot_zip_next hT F.entry_zip_next ?_ (F.args_zip_next_1 _))))
  rcases st.z with ⟨rfl, z⟩ | ⟨_, T, f, o, z, hTb, hTo⟩
  · obtain ⟨arr, ha, hTO⟩ := st.TO rfl
    refine zn_item0 hn hnz hlin hrow z st.TI hTO ha fun h' col tk hc1 hc2 hz' hit' hTI' hnew hsz hk => wpAny_pure ?_
    rw [st.size] at hnew hsz hz' ⊢
    exact hQ h' col tk ⟨fun j r e => ⟨(st.row j r e).1, (st.row j r e).2.1.keep fun o e' => hk _ o (.inl (st.row j r e).1) e', hit' j r e⟩, .inr ⟨Nat.succ_pos _, _, _, _, hz', by omega, hnew⟩, hTI', fun e => absurd e (Nat.succ_ne_zero _), hsz⟩ hnew hc1 hc2 hk
  · refine zn_itemH hn hnz hlin hrow z hTo st.TI fun h' col hc1 hc2 hz' hit' hTI' hnew hsz hk => wpAny_pure ?_
    rw [st.size] at hnew hsz ⊢
    exact hQ h' col s.toks ⟨fun j r e => ⟨(st.row j r e).1, (st.row j r e).2.1.keep fun o e' => hk _ o (.inl (st.row j r e).1) e', hit' j r e⟩, .inr ⟨Nat.succ_pos _, _, _, _, hz', hTb, hk _ _ (.inr hTb) hTo⟩, hTI', fun e => absurd e (Nat.succ_ne_zero _), hsz⟩ hnew hc1 hc2 hk

theorem zx_end {b n i : Nat} {rs : List Rw} {Q : Option Value → Shared → Prop} (hh : A.handled = none) (hn : rs.length = n) (hni : n = 0 → i = 0) (st : ZSt b n rs i s.heap) (hx : ∀ (j : Nat) (r : Rw), rs[j]? = some r → r.vals[i]? = none)
    (hQ : ∀ h', (∀ c o, (c < b ∨ b + n + 2 < c) → s.heap.get? c = some o → h'.get? c = some o) → Q none { s with heap := h' }) :
    wpAny (model prog w) A (pyNext (.ref (b + n + 2))) Q E s := by
  have hT : s.TypeIs (.ref (b + n + 2)) "zip" := by
    rcases st.z with ⟨_, z⟩ | ⟨_, _, _, _, z, _, _⟩ <;> exact ⟨_, z, rfl⟩
  unfold pyNext
  refine wpAny_bind (wpAny_attempt (wpAny_callSpecial?_slot (name := Str.ofString "__next__") hT F.slot_zip_next
    (wpAny_call_entry F.slot_zip_next hT F.entry_zip_next ?_ (F.args_zip_next_1 _))))
  have tail : ∀ h' e, (∀ c o, (c < b ∨ b + n + 2 < c) → s.heap.get? c = some o → h'.get? c = some o) → (∃ o, h'.get? e = some o ∧ o.cls = .type "StopIteration") → wpAny (model prog w) A (do
      if ← isInstance (.ref e) (.type "StopIteration") then pure none else throw (.ref e)) Q E { s with heap := h' } := fun h' e hk he => by
    obtain ⟨o, ho, hc⟩ := he
    refine wpAny_bind (wpAny_isInstance (T := "StopIteration") (b := true) ⟨o, ho, hc⟩ isSubtype_stop ?_)
    exact wpAny_pure (hQ _ hk)
  rcases Nat.eq_zero_or_pos n with rfl | hnz
  · have hTI : s.heap.get? b = some { cls := .type "tuple", data := .seq #[] } := st.TI
    rcases st.z with ⟨_, z⟩ | ⟨h0, _⟩
    · exact zn_endE hh z hTI fun h' e hk he => tail h' e (fun c o _ => hk c o) he
    · exact absurd (hni rfl) (Nat.ne_of_gt h0)
  · obtain ⟨r0, hr0⟩ : ∃ r, rs[0]? = some r := ⟨rs[0]'(by omega), List.getElem?_eq_getElem (by omega)⟩
    have R := st.row 0 r0 hr0
    rcases st.z with ⟨rfl, z⟩ | ⟨_, T, f, o, z, hTb, hTo⟩
    · exact zn_end0 hh hnz R.1 R.2.1 R.2.2 (hx 0 r0 hr0) z st.TI tail
    · exact zn_endH hh hnz R.1 R.2.1 R.2.2 (hx 0 r0 hr0) z hTo st.TI tail

theorem ZSt.keep {b n i : Nat} {rs : List Rw} {h h' : Heap} (st : ZSt b n rs i h) (hn : rs.length = n) (hsz : h'.objs.size = h.objs.size) (hk : ∀ c o, c ≠ b + n + 3 → h.get? c = some o → h'.get? c = some o)
    (hTS : ∃ o, h'.get? (b + n + 3) = some o) : ZSt b n rs i h' := by
  refine ⟨fun j r e => ?_, ?_, hk _ _ (nn (by omega)) st.TI, fun e => ?_, by rw [hsz]; exact st.size⟩
  · have := st.row j r e
    have hj : j < n := by rw [← hn]; exact (List.getElem?_eq_some_iff.mp e).1
    have h1 := this.1
    exact ⟨this.1, this.2.1.keep fun o e' => hk _ o (nn (by omega)) e', this.2.2.keep fun o e' => hk _ o (nn (by omega)) e'⟩
  · rcases st.z with ⟨e, z⟩ | ⟨e, T, f, o, z, hTb, hTo⟩
    · exact .inl ⟨e, hk _ _ (nn (by omega)) z⟩
    · refine .inr ⟨e, T, f, ?_⟩
      by_cases hT : T = b + n + 3
      · obtain ⟨o', ho'⟩ := hTS
        exact ⟨o', hk _ _ (nn (by omega)) z, hTb, hT ▸ ho'⟩
      · exact ⟨o, hk _ _ (nn (by omega)) z, hTb, hk _ _ hT hTo⟩
  · obtain ⟨arr, h1, h2⟩ := st.TO e
    exact ⟨arr, h1, hk _ _ (nn (by omega)) h2⟩

theorem zx_loop {R : Result → Shared → Prop} {b n m : Nat} {rs : List Rw} (hh : A.handled = none) (hn : rs.length = n) (hlin : n ≤ sizeLine) (hm : m ≤ sizeLine) (hnm : n = 0 → m = 0)
    (hv : ∀ (j : Nat) (r : Rw), rs[j]? = some r → r.vals.size = m) (res : Value) :
    ∀ (k i : Nat) (s : Shared), m - i = k → i ≤ m → ZSt b n rs i s.heap → ZCols (b + n + 3) (b + n + 4) n i rs s.heap →
    (∀ h' tk, ZCols (b + n + 3) (b + n + 4) n m rs h' → (∀ c o, c < b → s.heap.get? c = some o → h'.get? c = some o) → R (.ok (.ret res)) { s with heap := h', toks := tk }) →
    codeAny (model prog w) A (.builtin "list.extend.loop" ⟨[.ref (b + n + 3), .ref (b + n + 2), res], []⟩) R s := by
  intro k
  induction k with
  | zero =>
    intro i s hk hi st C hR
    obtain rfl : i = m := by omega
    refine codeAny_builtin F.entry_extend_loop ?_
    rw [Around.under_plainId F.plain_extend_loop _]
    show wpAny _ A.in1 (pyNext (.ref (b + n + 2)) >>= _) _ _ s
    refine wpAny_bind (zx_end hh hn hnm st (fun j r e => by rw [Array.getElem?_eq_none]; rw [hv j r e]; exact Nat.le_refl _) fun h' hk => ?_)
    refine wpAny_pure (hR h' s.toks ⟨?_, fun c hc => ?_⟩ fun c o hc e => hk c o (.inl hc) e)
    · obtain ⟨acc, c, h1, h2⟩ := C.lst
      exact ⟨acc, c, hk _ _ (.inr (by omega)) h1, h2⟩
    · obtain ⟨col, h1, h2⟩ := C.col c hc
      exact ⟨col, hk _ _ (.inr (by omega)) h1, h2⟩
  | succ k ih =>
    intro i s hk hi st C hR
    have hlt : i < m := by omega
    have hnz : 0 < n := by rcases Nat.eq_zero_or_pos n with e | e; have := hnm e; omega; exact e
    refine codeAny_builtin F.entry_extend_loop ?_
    rw [Around.under_plainId F.plain_extend_loop _]
    show wpAny _ A.in1 (pyNext (.ref (b + n + 2)) >>= _) _ _ s
    refine wpAny_bind (zx_item hn hnz hlin st (fun j r e => ⟨_, Array.getElem?_eq_getElem (by rw [hv j r e]; exact hlt)⟩) fun h' col tk st' hcol hc1 hc2 hkp => ?_)
    obtain ⟨acc, c, hS, ha, hacc⟩ := C.lst
    have hS' := hkp _ _ (.inr (by omega)) hS
    show wpAny _ A.in1 (updateSeq (b + n + 3) (·.push (.ref (b + n + 4 + i))) >>= _) _ _ ⟨h', s.gens, s.drawn, tk, s.os⟩
    refine wpAny_bind ?_
    have oth : ∀ c o, c ≠ b + n + 3 → h'.get? c = some o → (h'.update (b + n + 3) (Obj.mapSeq (·.push (.ref (b + n + 4 + i))))).get? c = some o := fun c o hc e =>
      (Heap.get?_update_other _ _ (Ne.symm hc)).trans e
    have hsz : (h'.update (b + n + 3) (Obj.mapSeq (·.push (.ref (b + n + 4 + i))))).objs.size = h'.objs.size := (Heap.SameBut.update ..).1
    have hSS := Heap.get?_update_self (Obj.mapSeq (·.push (Value.ref (b + n + 4 + i)))) hS' rfl
    refine wpAny_updateSeq (s := ⟨h', s.gens, s.drawn, tk, s.os⟩) hS' rfl (wpAny_pure ⟨plainId_quiet F.plain_extend_loop _, ih (i + 1) _ (by omega) hlt (st'.keep hn hsz oth ⟨_, hSS⟩) ⟨?_, ?_⟩ fun h'' tk' C' hk' => hR h'' tk' C' fun c o hc e => hk' c o hc (oth _ _ (nn (by omega)) (hkp _ _ (.inl hc) e))⟩)
      (by rw [ha]; omega) (by show (acc.push _).size ≤ sizeLine + 1; rw [Array.size_push, ha]; omega)
    · refine ⟨_, _, hSS, by show (acc.push _).size = _; rw [Array.size_push, ha], fun j hj => ?_⟩
      show (acc.push _)[j]? = _
      rw [Array.getElem?_push]
      by_cases e : j = i
      · subst e; rw [if_pos ha.symm]
      · rw [if_neg (by rw [ha]; exact e)]; exact hacc j (by omega)
    · intro c hc
      by_cases e : c = i
      · subst e; exact ⟨col, oth _ _ (nn (by omega)) hcol, hc1, hc2⟩
      · obtain ⟨col', h1, h2⟩ := C.col c (by omega)
        exact ⟨col', oth _ _ (nn (by omega)) (hkp _ _ (.inr (by omega)) h1), h2⟩

theorem zx_call {b n m : Nat} {rs : List Rw} {h0 : Heap} {Q : Value → Shared → Prop} (hh : A.handled = none) (hn : rs.length = n) (hlin : n ≤ sizeLine) (hm : m ≤ sizeLine) (hnm : n = 0 → m = 0)
    (hv : ∀ (j : Nat) (r : Rw), rs[j]? = some r → r.vals.size = m) (hr : ∀ (j : Nat) (r : Rw), rs[j]? = some r → r.at_ < b ∧ RowAt s.heap r) (B : ZBeg b rs h0 s.heap)
    (hQ : ∀ h' tk, ZCols (b + n + 3) (b + n + 4) n m rs h' → (∀ c o, c < b → s.heap.get? c = some o → h'.get? c = some o) → Q (.ref (b + n + 3)) { s with heap := h', toks := tk }) :
    wpAny (model prog w) A (call (.type "list") [.ref (b + n + 2)]) Q E s := by
  subst hn
  have hsz := B.size
  refine callType_codes (Q₁ := fun obj s₁ => obj = .ref s.heap.objs.size ∧ s₁ = { s with heap := s.heap.push { cls := .type "list", data := .seq #[] } }) PySem.F.called_list (PySem.F.typeCall_list_1 _) PySem.F.entry_list_init
    (code_list_new _ ⟨rfl, rfl⟩) fun obj s₁ h₁ => ?_
  obtain ⟨rfl, rfl⟩ := h₁
  rw [hsz]
  have hS : (s.heap.push { cls := .type "list", data := .seq #[] }).get? (b + rs.length + 3) = some { cls := .type "list", data := .seq #[] } := by
    rw [← hsz]; exact Heap.get?_push_size _ rfl
  refine ⟨⟨_, hS, rfl⟩, PySem.F.args_list_init_2 _ _, ?_⟩
  obtain ⟨arr, ha1, ha2⟩ := B.TO
  have st0 : ZSt b rs.length rs 0 (s.heap.push { cls := .type "list", data := .seq #[] }) :=
    ⟨fun j r e => ⟨(hr j r e).1, (hr j r e).2.keep fun o e' => Heap.get?_push_of_some _ e', (B.it j r e).keep fun o e' => Heap.get?_push_of_some _ e'⟩, .inl ⟨rfl, Heap.get?_push_of_some _ B.z⟩,
      Heap.get?_push_of_some _ B.TI, fun _ => ⟨arr, ha1, Heap.get?_push_of_some _ ha2⟩, by rw [Heap.size_push, hsz]⟩
  -- the list's cell may be written, nothing else
  have key : ∀ (h : Heap) (c₁ tk : Nat), h.objs.size = b + rs.length + 4 → (∀ c o, c ≠ b + rs.length + 3 → (s.heap.push { cls := .type "list", data := .seq #[] }).get? c = some o → h.get? c = some o) →
      h.get? (b + rs.length + 3) = some { cls := .type "list", data := .seq #[] c₁ } →
      codeAny (model prog w) A.in1 (.builtin "list.extend.loop" ⟨[.ref (b + rs.length + 3), .ref (b + rs.length + 2), .none], []⟩) (wants (fun r s₂ => r = .none ∧ Q (.ref (b + rs.length + 3)) s₂) E) { s with heap := h, toks := tk } := by
    intro h c₁ tk h1 h2 h3
    refine zx_loop (A := A.in1) hh rfl hlin hm hnm hv .none m 0 _ rfl (Nat.zero_le _) (st0.keep rfl (by rw [h1, Heap.size_push, hsz]) h2 ⟨_, h3⟩) ⟨⟨#[], c₁, h3, rfl, fun j hj => absurd hj (Nat.not_lt_zero j)⟩, fun c hc => absurd hc (Nat.not_lt_zero c)⟩ fun h' tk' C hk => ?_
    exact ⟨rfl, hQ h' tk' C fun c o hc e => hk c o hc (h2 c o (nn (by omega)) (Heap.get?_push_of_some _ e))⟩
  show wpAny _ _ (do let old ← Builtin.List.listItems (.ref (b + rs.length + 3)); Builtin.List.listUpdate (.ref (b + rs.length + 3)) (fun _ => #[]); letGo old.toList.reverse; Builtin.List.listExtendWith (.ref (b + rs.length + 3)) (.ref (b + rs.length + 2)) .none) _ _ _
  refine wpAny_bind ?_
  unfold Builtin.List.listItems
  refine wpAny_bind (wpAny_seqItems hS rfl (wpAny_pure ?_))
  show wpAny _ _ (updateSeq (b + rs.length + 3) (fun _ => #[]) >>= fun _ => letGo (#[] : Array Value).toList.reverse >>= fun _ => Builtin.List.listExtendWith (.ref (b + rs.length + 3)) (.ref (b + rs.length + 2)) .none) _ _ _
  refine wpAny_bind (wpAny_updateSeq hS rfl ?_)
  have hS₂ := Heap.get?_update_self (Obj.mapSeq (fun _ => (#[] : Array Value))) hS rfl
  have oth : ∀ c o, c ≠ b + rs.length + 3 → (s.heap.push { cls := .type "list", data := .seq #[] }).get? c = some o → ((s.heap.push { cls := .type "list", data := .seq #[] }).update (b + rs.length + 3) (Obj.mapSeq (fun _ => (#[] : Array Value)))).get? c = some o :=
    fun c o hc e => (Heap.get?_update_other _ _ (Ne.symm hc)).trans e
  have sz2 : ((s.heap.push { cls := .type "list", data := .seq #[] }).update (b + rs.length + 3) (Obj.mapSeq (fun _ => (#[] : Array Value)))).objs.size = b + rs.length + 4 := by
    rw [(Heap.SameBut.update ..).1, Heap.size_push, hsz]
  refine wpAny_bind (wpAny_letGo ?_)
  have hz2 := oth _ _ (nn (by omega)) (Heap.get?_push_of_some _ B.z)
  have hT : Shared.TypeIs ⟨(s.heap.push { cls := .type "list", data := .seq #[] }).update (b + rs.length + 3) (Obj.mapSeq (fun _ => (#[] : Array Value))), s.gens, s.drawn, s.toks, s.os⟩ (.ref (b + rs.length + 2)) "zip" := ⟨_, hz2, rfl⟩
  unfold Builtin.List.listExtendWith
  refine wpAny_bind (wpAny_typeOf hT ?_)
  have h1 : Builtin.List.listSameRef (.ref (b + rs.length + 3)) (.ref (b + rs.length + 2)) = false := by simp [Builtin.List.listSameRef]
  have h2 : (Value.type "zip" == Value.type "list") = false := by decide
  have h3 : (Value.type "zip" == Value.type "tuple") = false := by decide
  simp only [h1, h2, h3, Bool.or_false, Bool.false_eq_true, if_false]
  refine wpAny_bind (wpAny_pyIter_zip hz2 ?_)
  refine wpAny_bind (wpAny_holding ?_)
  unfold Builtin.List.listLengthHint
  refine wpAny_bind (wpAny_specialOf hT zip_no_len ?_)
  show wpAny _ _ (specialOf (Value.ref (b + rs.length + 2)) (Str.ofString "__length_hint__") >>= _) _ _ _
  refine wpAny_bind (wpAny_specialOf hT zip_no_hint ?_)
  refine wpAny_pure ?_
  show wpAny _ _ (rule "list.extend.makes-room" >>= fun _ => Builtin.List.listTouch (.ref (b + rs.length + 3)) >>= fun _ =>
    again (.builtin "list.extend.loop" ⟨[.ref (b + rs.length + 3), .ref (b + rs.length + 2), .none], []⟩)) _ _ _
  refine wpAny_bind (wpAny_rule ?_)
  refine wpAny_bind ?_
  show wpAny _ _ (updateSeq (b + rs.length + 3) (·.push .none) >>= fun _ => updateSeq (b + rs.length + 3) (·.pop)) _ _ _
  refine wpAny_bind (wpAny_updateSeq hS₂ rfl ?_)
  have hS₃ := Heap.get?_update_self (Obj.mapSeq (·.push Value.none)) hS₂ rfl
  refine wpAny_updateSeq hS₃ rfl ?_
  have hS₄ := Heap.get?_update_self (Obj.mapSeq (·.pop)) hS₃ rfl
  refine wpAny_pure ⟨plainId_quiet F.plain_extend_loop _, key _ _ s.toks ?_ (fun c o hc e => ?_) hS₄⟩
  · rw [(Heap.SameBut.update ..).1, (Heap.SameBut.update ..).1, sz2]
  · exact (Heap.get?_update_other _ _ (Ne.symm hc)).trans ((Heap.get?_update_other _ _ (Ne.symm hc)).trans (oth c o hc e))
end
end PySem.Z
set_option Elab.async false
set_option linter.all false
set_option maxRecDepth 100000
set_option maxHeartbeats 4000000
namespace Z
open PySem PySem.Spec PyProof.Rows L2 StX

theorem inv_many {X : Cx} {pins : List (Addr × Obj)} {σ : L2.St} {H H' : Hp} {s : Shared} {h' : Heap} {t' : Nat} (I : Inv X pins σ H s) (k : ∀ b u, s.heap.get? b = some u → h'.get? b = some u)
    (low : ∀ a, a < s.heap.objs.size → H' a = H a) (new : ∀ a o, s.heap.objs.size ≤ a → H' a = some o → ObjOk X.prog X.w H' h' a o) : Inv X pins σ H' { s with heap := h', toks := t' } := by
  have ext : ∀ a o, H a = some o → H' a = some o := fun a o e => by rw [low a (I.hok.lt e)]; exact e
  refine I.un ⟨fun b u q _ _ _ => k b u q, fun b u q _ _ _ => ⟨u.slots, k b u q⟩, fun b u q n _ => by rw [low b (Heap.lt_size q)]; exact n, fun b u q _ => ⟨u, k b u q⟩, fun b xs q => ext _ _ q, fun b o u q => ext _ _ q, fun b ps q => ⟨#[], by rw [ext _ _ q]; simp⟩⟩ ?_
  intro a o e
  rcases Nat.lt_or_ge a s.heap.objs.size with h | h
  · rw [low a h] at e
    exact (I.hok a o e).stay (fun b u _ q => k b u q) (fun b q => ext _ _ q) fun b xs q => ext _ _ q
  · exact new a o h e

def layC : Hp → Addr → List (List V) → Hp
  | H, _, [] => H
  | H, b, c :: cs => layC (upd H b (.tup c)) (b + 1) cs
theorem layC_low : ∀ (cs : List (List V)) (H : Hp) (b a : Nat), a < b → layC H b cs a = H a
  | [], _, _, _, _ => rfl
  | c :: cs, H, b, a, h => by rw [layC, layC_low cs _ (b + 1) a (Nat.lt_succ_of_lt h), upd_ne (Nat.ne_of_lt h)]
theorem layC_new : ∀ (cs : List (List V)) (H : Hp) (b a : Nat) (o : HO), b ≤ a → (∀ x, b ≤ x → H x = none) → layC H b cs a = some o → ∃ i c, a = b + i ∧ cs[i]? = some c ∧ o = .tup c
  | [], H, b, a, o, h, hn, e => by rw [layC, hn a h] at e; cases e
  | c :: cs, H, b, a, o, h, hn, e => by
    by_cases hab : a = b
    · subst hab
      rw [layC, layC_low cs _ (a + 1) a (Nat.lt_succ_self _), upd_same] at e
      cases e; exact ⟨0, c, rfl, rfl, rfl⟩
    · skip
      rw [layC] at e
      obtain ⟨i, c', e1, e2, e3⟩ := layC_new cs _ (b + 1) a o (by omega) (fun x hx => by rw [upd_ne (show x ≠ b by omega)]; exact hn x (by omega)) e
      exact ⟨i + 1, c', by omega, by simpa using e2, e3⟩
def refsV (b n : Nat) : List V := (List.range n).map fun c => V.ref (b + c)

/-- *rows: lists or tuples -/
inductive RowsV (K : Fg) (H : Hp) : List V → List (List V) → Prop
  | nil : RowsV K H [] []
  | cons {p : Addr} {r : List V} {xs rows} : (SqL K H p r ∨ SqT K H p r) → RowsV K H xs rows → RowsV K H (.ref p :: xs) (r :: rows)
def colsV (rows : List (List V)) (n : Nat) : List (List V) := (List.range n).map fun c => rows.map fun r => (r[c]?).getD .non

/-- list(zip(..)) over lists and tuples of one length -/
def tZipL (K : Fg) (ta : TA) : TE := fun σ H Q => ta σ H fun xs H1 => ∃ (rows : List (List V)) (n : Nat), RowsV K H1 xs rows ∧ (∀ r ∈ rows, r.length = n) ∧ (rows = [] → n = 0) ∧ rows.length ≤ sizeLine ∧ n ≤ sizeLine ∧
  ∀ b p : Nat, p < b → H1 p = none → (∀ x, b ≤ x → H1 x = none) → Q (.ref p) (upd (layC H1 b (colsV rows n)) p (.lst (refsV b n)))


theorem vals_ix : ∀ {xs : List V} {us : List Value}, xs.length = us.length → (∀ (i : Nat) x, xs[i]? = some x → ∃ u, us[i]? = some u ∧ RelV x u) → Vals xs us
  | [], [], _, _ => .nil
  | x :: xs, u :: us, hl, h => by
    obtain ⟨u', e, r⟩ := h 0 x rfl
    cases e
    exact .cons r (vals_ix (Nat.succ.inj hl) fun i y e => h (i + 1) y e)
  | [], _ :: _, hl, _ => by cases hl
  | _ :: _, [], hl, _ => by cases hl

theorem rows_rw {X : Cx} {pins : List (Addr × Obj)} {σ : L2.St} {H : Hp} {s : Shared} (I : Inv X pins σ H s) : ∀ {xs : List V} {rows : List (List V)} {us : List Value}, RowsV X.K H xs rows → Vals xs us →
    ∃ rs : List PySem.Z.Rw, us = rs.map (fun r => Value.ref r.at_) ∧ rs.length = rows.length ∧ ∀ (j : Nat) (r : PySem.Z.Rw), rs[j]? = some r → PySem.Z.RowAt s.heap r ∧ ∃ row, rows[j]? = some row ∧ Vals row r.vals.toList
  | _, _, _, .nil, .nil => ⟨[], rfl, rfl, fun j r e => by simp at e⟩
  | _, _, _, .cons (p := p) (r := r) (xs := xs) (rows := rows) h t, .cons (b := u) (l₂ := us) rx rxs => by
    obtain ⟨rs, e1, e2, e3⟩ := rows_rw I t rxs
    obtain rfl : u = Value.ref p := rx
    obtain ⟨l, its, h1, h2⟩ : ∃ (l : Bool) (its : List Value), Vals r its ∧ PySem.Z.RowAt s.heap ⟨p, l, its.toArray⟩ := by
      rcases h with h | h
      · obtain ⟨its, r', pl, _⟩ := I.list h
        exact ⟨true, its, r', pl.isList⟩
      · obtain ⟨its, r', pl, _⟩ := I.tuple h
        exact ⟨false, its, r', pl⟩
    refine ⟨⟨p, l, its.toArray⟩ :: rs, by rw [e1]; rfl, by rw [List.length_cons, List.length_cons, e2], fun j r' e => ?_⟩
    cases j with
    | zero => cases e; exact ⟨h2, r, rfl, by simpa using h1⟩
    | succ j => exact e3 j r' e

theorem refs_vals {us : Array Value} {b n : Nat} (hs : us.size = n) (h : ∀ j, j < n → us[j]? = some (.ref (b + j))) : Vals (refsV b n) us.toList := by
  refine vals_ix (by simp [refsV, hs]) fun i x e => ?_
  have hi : i < n := by have := (List.getElem?_eq_some_iff.mp e).1; simpa [refsV] using this
  refine ⟨.ref (b + i), by rw [Array.getElem?_toList]; exact h i hi, ?_⟩
  simp [refsV, hi] at e
  subst e; rfl

theorem keep_type {T : String} {M : Model} {h : Heap} : ∃ k, (k = Keeper.frame ∨ k = Keeper.machine ∨ k = Keeper.boundFrame) ∧ PySem.W.Looks M h (keeperOf (.type T)) k := ⟨.machine, .inr (.inl rfl), .of_pure rfl⟩

section
variable {X : Cx} {pins : List (Addr × Obj)} {σ : L2.St} {H : Hp} {s : Shared}
theorem run_zip {xs : List V} {us : List Value} {Q : VK} (hc : X.calm = true) (I : Inv X pins σ H s) (rv : Vals xs us)
    (h : ∃ (rows : List (List V)) (n : Nat), RowsV X.K H xs rows ∧ (∀ r ∈ rows, r.length = n) ∧ (rows = [] → n = 0) ∧ rows.length ≤ sizeLine ∧ n ≤ sizeLine ∧
      ∀ b p : Nat, p < b → H p = none → (∀ x, b ≤ x → H x = none) → Q (.ref p) (upd (layC H b (colsV rows n)) p (.lst (refsV b n)))) :
    wpAny (model X.prog X.w) X.A (call (.type "zip") us) (fun z s₁ => wpAny (model X.prog X.w) X.A (call (.type "list") [z]) (EP X pins σ Q) X.xe s₁) X.xe s := by
  obtain ⟨rows, m, hR, hm, hz, hl1, hl2, q⟩ := h
  obtain ⟨rs, rfl, hlen, hrs⟩ := rows_rw I hR rv
  have hd := I.ok.hd hc
  refine PySem.Z.zz_call (by rw [hlen]; exact hl1) (fun j r e => (hrs j r e).1) fun h1 B => ?_
  have hv : ∀ (j : Nat) (r : PySem.Z.Rw), rs[j]? = some r → r.vals.size = m := fun j r e => by
    obtain ⟨_, row, e1, e2⟩ := hrs j r e
    have h1 : row.length = r.vals.toList.length := e2.length
    have h2 : r.vals.toList.length = r.vals.size := Array.length_toList
    rw [← h2, ← h1]; exact hm row (List.mem_of_getElem? e1)
  have hat : ∀ (j : Nat) (r : PySem.Z.Rw), rs[j]? = some r → r.at_ < s.heap.objs.size := fun j r e => by
    have := (hrs j r e).1
    obtain ⟨a, l, v⟩ := r
    cases l <;> (obtain ⟨o, ho, _⟩ := this; exact Heap.lt_size ho)
  refine PySem.Z.zx_call (s := { s with heap := h1 }) (b := s.heap.objs.size) hd rfl (by rw [hlen]; exact hl1) hl2 (fun e => hz (by rw [hlen] at e; exact List.eq_nil_of_length_eq_zero e)) hv (fun j r e => ⟨hat j r e, (hrs j r e).1.keep fun o e' => B.old _ o e'⟩) B fun h' tk C hk => ?_
  have kp : ∀ c o, s.heap.get? c = some o → h'.get? c = some o := fun c o e => hk c o (Heap.lt_size e) (B.old c o e)
  have fresh : ∀ x, s.heap.objs.size ≤ x → H x = none := fun x hx => I.hok.fresh hx
  have hq := q (s.heap.objs.size + rs.length + 4) (s.heap.objs.size + rs.length + 3) (by omega) (fresh _ (by omega)) (fun x hx => fresh x (by omega))
  refine ⟨.ref (s.heap.objs.size + rs.length + 3), _, inv_many (s := s) (t' := tk) I kp (fun a ha => ?_) (fun a o ha e => ?_), rfl, hq⟩
  · rw [upd_ne (show a ≠ s.heap.objs.size + rs.length + 3 by omega), layC_low _ _ _ _ (by omega)]
  · by_cases hp : a = s.heap.objs.size + rs.length + 3
    · subst hp
      rw [upd_same] at e; cases e
      obtain ⟨acc, c, h2, h3, h4⟩ := C.lst
      exact ⟨by simp [refsV]; exact hl2, acc.toList, c, refs_vals h3 h4, by rw [Array.toArray_toList]; exact h2⟩
    · rw [upd_ne hp] at e
      have hlo : s.heap.objs.size + rs.length + 4 ≤ a := by
        rcases Nat.lt_or_ge a (s.heap.objs.size + rs.length + 4) with h | h
        · rw [layC_low _ _ _ _ h, fresh a ha] at e; cases e
        · exact h
      obtain ⟨i, col, rfl, hi, rfl⟩ := layC_new _ _ _ _ _ hlo (fun x hx => fresh x (by omega)) e
      have him : i < m := by have := (List.getElem?_eq_some_iff.mp hi).1; simpa [colsV] using this
      obtain ⟨cl, h2, h3, h4⟩ := C.col i him
      have hcol : col = rows.map fun r => (r[i]?).getD .non := by
        have : (colsV rows m)[i]? = some (rows.map fun r => (r[i]?).getD .non) := by simp [colsV, him]
        rw [this] at hi; cases hi; rfl
      subst hcol
      refine ⟨by rw [List.length_map]; exact hl1, cl.toList, vals_ix (by rw [List.length_map]; exact hlen.symm.trans (h3.symm.trans Array.length_toList.symm)) fun j x e => ?_, ⟨_, h2, rfl, _, by rw [Array.toArray_toList]⟩⟩
      have hj : j < rs.length := by have := (List.getElem?_eq_some_iff.mp e).1; simp at this; omega
      obtain ⟨_, row, e1, e2⟩ := hrs j rs[j] (List.getElem?_eq_getElem hj)
      have hrow : row.length = m := hm row (List.mem_of_getElem? e1)
      obtain ⟨y, hy⟩ : ∃ y, row[i]? = some y := ⟨row[i]'(by omega), List.getElem?_eq_getElem (by omega)⟩
      obtain ⟨u, hu, ru⟩ := e2.get hy
      rw [List.getElem?_map, e1] at e
      simp [hy] at e
      subst e
      refine ⟨u, ?_, ru⟩
      rw [Array.getElem?_toList, h4 j rs[j] (List.getElem?_eq_getElem hj)]
      rw [Array.getElem?_toList] at hu
      exact hu

theorem evalArgs_many {M : Model} {A : Around} {E : Value → Shared → Prop} {s : Shared} {f : Value} {x y : Bool × Sem Value} {rest : List (Bool × Sem Value)} {Q : Args → Shared → Prop}
    (h : wpAny M A (spliced (x :: y :: rest)) (fun vs s' => Q ⟨vs, []⟩ s') E s) : wpAny M A (evalArgs f true (x :: y :: rest) []) Q E s := by
  unfold evalArgs
  obtain ⟨b, x⟩ := x
  cases b <;>
  · show wpAny M A (spliced _ >>= _) Q E s
    refine wpAny_bind (wpAny_mono h (fun vs s' h' => ?_) fun _ _ x => x)
    refine wpAny_holding ?_
    exact wpAny_pure h'

theorem p_zipS {e : Expr} {te : TE} {l z : Str} {p1 p2 p3 pos1 pos2 : Pos} (hc : X.calm = true) (hg1 : Gl X l) (hm1 : X.mg l = none) (hv1 : bootBuiltins l = some (.type "list")) (hg2 : Gl X z) (hm2 : X.mg z = none) (hv2 : bootBuiltins z = some (.type "zip"))
    (he : PE X e te) (hn1 : l ≠ "__name__" := by decide) (hdb1 : (l == ("__debug__" : Str)) = false := by decide) (hn2 : z ≠ "__name__" := by decide) (hdb2 : (z == ("__debug__" : Str)) = false := by decide)
    (hst : starEach [.Starred e p3] X.env = [(true, eval e X.env)] := by rfl) :
    PE X (.Call (.Name l p1) [.Call (.Name z p2) [.Starred e p3] [] pos2] [] pos1) (tZipL X.K (tStar X.K te tNil)) := by
  refine ⟨fun pins s σ H Q I h => ?_⟩
  refine wpAny_Call_Name_kw (ld_blt I hg1 hm1 hv1 ?_ hn1 hdb1)
  refine PyProof.Rows.callWith_type1 ?_
  refine Calls.spliced_cons (thn (Q := fun v s₁ => wpAny (model X.prog X.w) X.A (call (.type "list") [v]) (EP X pins σ Q) X.xe s₁) ?_ fun v s1 h1 => Calls.spliced_nil h1)
  refine wpAny_Call_Name_kw (ld_blt I hg2 hm2 hv2 ?_ hn2 hdb2)
  rw [hst]
  refine PySem.W.ks_call (P := fun _ => True) rfl (fun _ _ => keep_type) (PySem.W.ks_lone ?_)
  refine thn (he.run pins s σ H _ I h) fun v s1 ⟨y, H1, I1, ry, a, xs, ey, hx, q⟩ => ?_
  subst ey
  obtain rfl : v = Value.ref a := ry
  refine star_any I1 (hx.elim .inl .inr) fun us s2 I2 rv => ⟨trivial, ?_⟩
  refine run_zip hc I2 rv ?_
  simpa [tNil] using q
theorem p_zipS1 {e e2 : Expr} {es : List Expr} {ta : TA} {l z : Str} {p1 p2 p3 pos1 pos2 : Pos} (hc : X.calm = true) (hg1 : Gl X l) (hm1 : X.mg l = none) (hv1 : bootBuiltins l = some (.type "list")) (hg2 : Gl X z) (hm2 : X.mg z = none) (hv2 : bootBuiltins z = some (.type "zip"))
    (he : PA X (.Starred e p3 :: e2 :: es) ta) (hn1 : l ≠ "__name__" := by decide) (hdb1 : (l == ("__debug__" : Str)) = false := by decide) (hn2 : z ≠ "__name__" := by decide) (hdb2 : (z == ("__debug__" : Str)) = false := by decide)
    (hst : ∃ x y r, backTo pos2 (starEach (.Starred e p3 :: e2 :: es) X.env) = (true, x) :: y :: r := by exact ⟨_, _, _, rfl⟩) :
    PE X (.Call (.Name l p1) [.Call (.Name z p2) (.Starred e p3 :: e2 :: es) [] pos2] [] pos1) (tZipL X.K ta) := by
  refine ⟨fun pins s σ H Q I h => ?_⟩
  refine wpAny_Call_Name_kw (ld_blt I hg1 hm1 hv1 ?_ hn1 hdb1)
  refine PyProof.Rows.callWith_type1 ?_
  refine Calls.spliced_cons (thn (Q := fun v s₁ => wpAny (model X.prog X.w) X.A (call (.type "list") [v]) (EP X pins σ Q) X.xe s₁) ?_ fun v s1 h1 => Calls.spliced_nil h1)
  refine wpAny_Call_Name_kw (ld_blt I hg2 hm2 hv2 ?_ hn2 hdb2)
  have hr := he.run pos2 pins s σ H _ I h
  obtain ⟨x, y, r, hst⟩ := hst
  rw [hst] at hr ⊢
  refine PySem.W.ks_call (P := fun _ => True) rfl (fun _ _ => keep_type) (evalArgs_many ?_)
  refine thn hr fun us s2 ⟨vs, H2, I2, rv, q⟩ => ⟨trivial, ?_⟩
  exact run_zip hc I2 rv q
end

/-! ### on data -/
inductive Sqs (M : Mem) : List D → List (List D) → Prop
  | nil : Sqs M [] []
  | cons {d : D} {r : List D} {ds rows} : Sq M d r → Sqs M ds rows → Sqs M (d :: ds) (r :: rows)
theorem Sqs.tups {M : Mem} : ∀ (rows : List (List D)), Sqs M (rows.map D.tup) rows
  | [] => .nil
  | _ :: rows => .cons .tup (Sqs.tups rows)
theorem Sqs.append {M : Mem} {ds es : List D} {rows rows' : List (List D)} (h : Sqs M ds rows) (h' : Sqs M es rows') : Sqs M (ds ++ es) (rows ++ rows') := by
  induction h with
  | nil => exact h'
  | cons a _ ih => exact .cons a ih
def colsD (rows : List (List D)) (n : Nat) : List (List D) := (List.range n).map fun c => rows.map fun r => (r[c]?).getD .non

variable {c : Cz} {Γ : Gm} {M : Mem}
theorem za_star {te : TE} {t : TA} {k : List D → Mem → Prop} (h : ZE c te Γ M fun d M1 => ∃ ds, Sq M1 d ds ∧ ZA c t Γ M1 fun es M2 => k (ds ++ es) M2) : ZA c (tStar c.K te t) Γ M k := fun R F σ H Q hs L X q =>
  h R F σ H _ hs L X fun v F1 H1 M1 d e1 L1 r1 ⟨ds, s, h1⟩ => by
    obtain ⟨a, vs, rfl, p, rr⟩ := s.read L1 r1
    exact ⟨a, vs, rfl, p.elim .inr .inl, h1 R F1 σ H1 _ (hs.mono e1) L1 (X.mono e1) fun ws F2 H2 M2 es e2 L2 r2 kk => q _ F2 H2 M2 _ (e1.trans e2) L2 ((rr.mono e2).append r2) kk⟩

theorem Sqs.read {K : Fg} {F H : Hp} {R : Mem} {ds : List D} {rows : List (List D)} (s : Sqs M ds rows) (L : Lay K F (M ++ R) H) : ∀ {vs : List V}, Rps K F vs ds → ∃ rv : List (List V), RowsV K H vs rv ∧ rv.length = rows.length ∧ ∀ (i : Nat) (r : List D), rows[i]? = some r → ∃ rv', rv[i]? = some rv' ∧ Rps K F rv' r := by
  induction s with
  | nil => intro vs r; rw [r.unnil]; exact ⟨[], .nil, rfl, fun i r e => by simp at e⟩
  | cons a _ ih =>
    intro vs r
    obtain ⟨v, vs', rfl, rv, rvs⟩ := r.uncons
    obtain ⟨l, h1, h2, h3⟩ := ih rvs
    obtain ⟨p, ws, rfl, hp, rr⟩ := a.read L rv
    refine ⟨ws :: l, .cons hp h1, by rw [List.length_cons, List.length_cons, h2], fun i r e => ?_⟩
    cases i with
    | zero => cases e; exact ⟨ws, rfl, rr⟩
    | succ i => exact h3 i r e

theorem lay_cols {K : Fg} : ∀ (cs : List (List V)) (dcs : List (List D)) (F H : Hp) (M : Mem) (b : Nat), cs.length = dcs.length → Lay K F M H → (∀ x, b ≤ x → H x = none) →
    (∀ (i : Nat) (x : List V) (y : List D), cs[i]? = some x → dcs[i]? = some y → Rps K F x y) →
    ∃ F', Ex F F' ∧ Lay K F' M (layC H b cs) ∧ ∀ (i : Nat) (y : List D), dcs[i]? = some y → Rp K F' (.ref (b + i)) (.tup y)
  | [], [], F, H, M, b, _, L, _, _ => ⟨F, Ex.refl F, L, fun i y e => by simp at e⟩
  | x :: cs, y :: dcs, F, H, M, b, hl, L, hn, hr => by
    have hb := hn b (Nat.le_refl b)
    have L1 : Lay K (upd F b (.tup x)) M (upd H b (.tup x)) := L.new hb
    have E1 : Ex F (upd F b (.tup x)) := ex_upd (L.free hb)
    obtain ⟨F', e, L', h'⟩ := lay_cols cs dcs _ _ M (b + 1) (Nat.succ.inj hl) L1 (fun z hz => by rw [upd_ne (show z ≠ b by omega)]; exact hn z (by omega)) (fun i a d h1 h2 => (hr (i + 1) a d h1 h2).mono E1)
    refine ⟨F', E1.trans e, L', fun i d hd => ?_⟩
    cases i with
    | zero =>
      obtain rfl : y = d := by simpa using hd
      exact (Rp.mk_tup (SqT.of upd_same) ((hr 0 x y rfl rfl).mono E1) : Rp K _ (.ref b) (.tup y)).mono e
    | succ i =>
      have := h' i d hd
      rw [show b + (i + 1) = b + 1 + i by omega]; exact this
  | [], _ :: _, _, _, _, _, hl, _, _, _ => by cases hl
  | _ :: _, [], _, _, _, _, hl, _, _, _ => by cases hl

theorem z_zipL {ta : TA} {k : D → Mem → Prop} (h : ZA c ta Γ M fun ds M1 => ∃ rows n, Sqs M1 ds rows ∧ (∀ r ∈ rows, r.length = n) ∧ (rows = [] → n = 0) ∧ rows.length ≤ sizeLine ∧ n ≤ sizeLine ∧ k (.lst ((colsD rows n).map D.tup)) M1) :
    ZE c (tZipL c.K ta) Γ M k := fun R F σ H Q hs L X q =>
  h R F σ H _ hs L X fun vs F1 H1 M1 ds e1 L1 r1 ⟨rows, n, hS, hn, hz, hl1, hl2, kk⟩ => by
    obtain ⟨rv, h1, h2, h3⟩ := hS.read L1 r1
    have hlen : ∀ r ∈ rv, r.length = n := fun r hr => by
      obtain ⟨i, hi⟩ := List.mem_iff_getElem?.mp hr
      obtain ⟨r', hr'⟩ : ∃ r', rows[i]? = some r' := by
        have := (List.getElem?_eq_some_iff.mp hi).1
        exact ⟨rows[i]'(by omega), List.getElem?_eq_getElem (by omega)⟩
      obtain ⟨y, e, rr⟩ := h3 i r' hr'
      rw [hi] at e; cases e
      rw [rr.len]; exact hn r' (List.mem_of_getElem? hr')
    refine ⟨rv, n, h1, hlen, fun e => hz (by subst e; exact List.eq_nil_of_length_eq_zero h2.symm), by rw [h2]; exact hl1, hl2, fun b p hpb hp hfr => ?_⟩
    obtain ⟨F2, e2, L2, h4⟩ := lay_cols (K := c.K) (colsV rv n) (colsD rows n) F1 H1 (M1 ++ R) b (by simp [colsV, colsD]) L1 hfr (fun i x y hx hy => by
      have hi : i < n := by have := (List.getElem?_eq_some_iff.mp hx).1; simpa [colsV] using this
      have ex : (colsV rv n)[i]? = some (rv.map fun r => (r[i]?).getD .non) := by simp [colsV, hi]
      have ey : (colsD rows n)[i]? = some (rows.map fun r => (r[i]?).getD .non) := by simp [colsD, hi]
      rw [ex] at hx; cases hx
      rw [ey] at hy; cases hy
      refine ⟨by rw [List.length_map, List.length_map, h2], fun j v d hv hd => ?_⟩
      rw [List.getElem?_map] at hv hd
      obtain ⟨r, hr, rfl⟩ := Option.map_eq_some_iff.mp hd
      obtain ⟨r', hr', rr⟩ := h3 j r hr
      rw [hr'] at hv
      cases hv
      have hri : i < r.length := by rw [hn r (List.mem_of_getElem? hr)]; exact hi
      have hri' : i < r'.length := by rw [rr.len]; exact hri
      show Rp c.K F1 ((r'[i]?).getD .non) ((r[i]?).getD .non)
      rw [List.getElem?_eq_getElem hri, List.getElem?_eq_getElem hri']
      exact rr.at_ i _ _ (List.getElem?_eq_getElem hri') (List.getElem?_eq_getElem hri))
    have hp' : layC H1 b (colsV rv n) p = none := by rw [layC_low _ _ _ _ hpb]; exact hp
    refine q (.ref p) _ _ M1 _ ((e1.trans e2).trans (ex_upd (L2.free hp'))) (L2.new hp') (.mk_lst upd_same ((?_ : Rps c.K F2 (refsV b n) ((colsD rows n).map D.tup)).mono (ex_upd (L2.free hp')))) kk
    refine ⟨by simp [refsV, colsD], fun i v d hv hd => ?_⟩
    have hi : i < n := by have := (List.getElem?_eq_some_iff.mp hv).1; simpa [refsV] using this
    rw [List.getElem?_map] at hd
    obtain ⟨y, hy, rfl⟩ := Option.map_eq_some_iff.mp hd
    have ev : (refsV b n)[i]? = some (.ref (b + i)) := by simp [refsV, hi]
    rw [ev] at hv; cases hv
    exact h4 i y hy
end Z
set_option Elab.async false
set_option linter.all false
set_option maxRecDepth 100000
set_option maxHeartbeats 4000000
/-! ZLin: further rules: lcm, a chain of two comparisons, x, y = a, b. -/
namespace Z
open PySem PySem.Spec PyProof.Rows L2
theorem boot_zip : bootBuiltins "zip" = some (.type "zip") := by decide +kernel
theorem boot_set : bootBuiltins "set" = some (.type "set") := by decide +kernel
section
variable {X : Cx}
def rLcmZ : List V → Hp → VK → Prop := fun vs H Q => ∃ a b : Int, vs = [.int a, .int b] ∧ a.natAbs.log2 < 13400 ∧ b.natAbs.log2 < 13400 ∧ (Nat.lcm a.natAbs b.natAbs).log2 < bitsLine ∧ Q (.int ((Nat.lcm a.natAbs b.natAbs : Nat) : Int)) H
theorem log2_max {a b n : Nat} (ha : a.log2 < n) (hb : b.log2 < n) : (max a b).log2 < n := by
  rcases Nat.le_total a b with h | h
  · rw [Nat.max_eq_right h]; exact hb
  · rw [Nat.max_eq_left h]; exact ha
theorem cz_lcm : CallR X (.builtin "math.lcm") rLcmZ := by
  intro pins s σ H vs us Q I r h
  obtain ⟨a, b, rfl, ha, hb, hl, q⟩ := h
  obtain ⟨t, u, rfl⟩ := Vals.int2 r
  have e : (Nat.lcm 1 a.natAbs).lcm b.natAbs = Nat.lcm a.natAbs b.natAbs := by rw [Nat.lcm_comm 1, Nat.lcm_one_right]
  have h1 : (max 1 a.natAbs).log2 < 13400 := log2_max (by decide) ha
  have h2 : (max a.natAbs b.natAbs).log2 < 13400 := log2_max ha hb
  refine call_function_meets PySem.W.MGF.kind_lcm PySem.W.MGF.plain_lcm PySem.W.MGF.entry_lcm (PySem.W.MGF.args_lcm _ _) (PySem.W.mg_run_lcm a t b u (by omega) (by omega) (by rw [e]; exact hl)).meets ?_
  rw [e]
  exact ⟨.int _, H, I.tok _, ⟨_, rfl⟩, q⟩
end
variable {c : Cz} {Γ : Gm} {M : Mem} {k : D → Mem → Prop} {ta tb tc : TE} {DD : ZEnds}
theorem zc_lcm {i j : Int} (h1 : i.natAbs.log2 < 13400) (h2 : j.natAbs.log2 < 13400) (h3 : (Nat.lcm i.natAbs j.natAbs).log2 < bitsLine) (h : k (.int ((Nat.lcm i.natAbs j.natAbs : Nat) : Int)) M) : ZC c rLcmZ [.int i, .int j] M k := fun R F H vs Q L r q => by
  obtain ⟨v, w, rfl, r1, r2⟩ := r.two
  rw [r1.of_int, r2.of_int]
  exact ⟨i, j, rfl, h1, h2, h3, q _ F H M _ (Ex.refl F) L (.int _) h⟩
theorem z_chain {r r' : R2} (h : ZE c ta Γ M fun x M1 => ZE c tb Γ M1 fun y M2 => ZR c r x y M2 fun z M3 => ∃ b, z = .bl b ∧ (b = true → ZE c tc Γ M3 fun u M4 => ZR c r' y u M4 k) ∧ (b = false → k (.bl false) M3)) : ZE c (tChain r r' ta tb tc) Γ M k := fun R F σ H Q hs L X q =>
  h R F σ H _ hs L X fun v F1 H1 M1 x e1 L1 r1 h1 => h1 R F1 σ H1 _ (hs.mono e1) L1 (X.mono e1) fun w F2 H2 M2 y e2 L2 r2 h2 => h2 R F2 H2 v w _ L2 (r1.mono e2) r2 fun z F3 H3 M3 d e3 L3 r3 ⟨b, hb, h3, h4⟩ => by
    subst hb
    refine ⟨b, r3.of_bl, ?_⟩
    have E := (e1.trans e2).trans e3
    cases b with
    | true => exact h3 rfl R F3 σ H3 _ (hs.mono E) L3 (X.mono E) fun u F4 H4 M4 du e4 L4 r4 h5 => h5 R F4 H4 w u Q L4 ((r2.mono e3).mono e4) r4 (q.mono (E.trans e4))
    | false => exact q (.bl false) F3 H3 M3 (.bl false) E L3 (.bl false) (h4 rfl)
theorem zs_par {i j : Nat} {ta : TA} (h : ZA c ta Γ M fun ds M1 => ∃ x y, ds = [x, y] ∧ DD.nx ((Γ.set i (some x)).set j (some y)) M1) : ZS c (tPar i j ta) Γ M DD := fun R F σ H D hs L X q =>
  h R F σ H _ hs L X fun vs F1 H1 M1 ds e1 L1 r1 ⟨x, y, e, h1⟩ => by
    subst e
    obtain ⟨v, w, rfl, r1, r2⟩ := r1.two
    exact ⟨v, w, rfl, q.nx _ F1 H1 M1 _ e1 L1 (((hs.mono e1).set i r1).set j r2) h1⟩
end Z
namespace Z
open PySem PySem.Spec PyProof.Rows L2
theorem boot_len : bootBuiltins "len" = some (.builtin "len") := by decide +kernel
end Z
namespace Z
open PySem PySem.Spec PyProof.Rows L2
variable {c : Cz} {Γ : Gm} {M : Mem} {k : D → Mem → Prop} {ta : TE}
/-- a value handed on: a changing list of Mem changes no more, any other value as it is -/
theorem z_fz2 (h : ZE c ta Γ M fun d M1 => (∃ a i ds, d = .at a ∧ M1[i]? = some (a, .lst ds) ∧ k (.lst ds) (M1.eraseIdx i)) ∨ k d M1) : ZE c (fz ta) Γ M k := fun R F σ H Q hs L X q =>
  h R F σ H Q hs L X fun v F1 H1 M1 d e1 L1 r1 h1 => by
    rcases h1 with ⟨a, i, ds, rfl, hi, hk⟩ | hk
    · have hl : i < M1.length := (List.getElem?_eq_some_iff.mp hi).1
      have hi' : (M1 ++ R)[i]? = some (a, .lst ds) := by rw [List.getElem?_append_left hl]; exact hi
      obtain ⟨vs, hv, rv⟩ := L1.at_ hi'
      obtain ⟨L2, e2⟩ := L1.frz hi' hv
      rw [List.eraseIdx_append_of_lt_length hl] at L2
      rw [r1.of_at]
      exact q (.ref a) _ H1 _ (.lst ds) (e1.trans e2) L2 (.mk_lst upd_same (rv.mono e2)) hk
    · exact q v F1 H1 M1 d e1 L1 r1 hk
end Z
set_option Elab.async false
set_option linter.all false
set_option maxRecDepth 100000
set_option maxHeartbeats 4000000
/-! ZDeep: == and != of data at any depth. -/
namespace Z
open PySem PySem.Spec PyProof.Rows L2
mutual
inductive Pd (M : Mem) : D → PyData → Prop
  | non : Pd M .non .none
  | bl (b : Bool) : Pd M (.bl b) (.bool b)
  | int (i : Int) : Pd M (.int i) (.int i)
  | str (x : Str) : Pd M (.str x) (.str x)
  | tup {ds : List D} {es : List PyData} : PdAll M ds es → Pd M (.tup ds) (.tuple es)
  | lst {ds : List D} {es : List PyData} : PdAll M ds es → Pd M (.lst ds) (.list es)
  | scr {ds : List D} {es : List PyData} : PdAll M ds es → Pd M (.scr ds) (.list es)
  | «at» {a : Addr} {i : Nat} {ds : List D} {es : List PyData} : M[i]? = some (a, .lst ds) → PdAll M ds es → Pd M (.at a) (.list es)
inductive PdAll (M : Mem) : List D → List PyData → Prop
  | nil : PdAll M [] []
  | cons {d : D} {ds : List D} {e : PyData} {es : List PyData} : Pd M d e → PdAll M ds es → PdAll M (d :: ds) (e :: es)
end
section
variable {K : Fg} {F H : Hp} {M R : Mem}
mutual
theorem Pd.dp (L : Lay K F (M ++ R) H) : ∀ (e : PyData) (d : D) (v : V), Pd M d e → Rp K F v d → L2.Dp K H v e
  | .none, _, _, h, r => by cases h; rw [r.of_non]; exact .non
  | .bool b, _, _, h, r => by cases h; rw [r.of_bl]; exact .bl _
  | .int i, _, _, h, r => by cases h; rw [r.of_int]; exact .int _
  | .str x, _, _, h, r => by cases h; rw [r.of_str]; exact .str _
  | .tuple es, _, _, h, r => by
    cases h with
    | tup h =>
      obtain ⟨a, vs, rfl, q, rr⟩ := r.of_tup
      exact .tup (ex_t L.fr q) (Pd.dpAll L es _ _ h rr)
  | .list es, _, _, h, r => by
    cases h with
    | lst h =>
      obtain ⟨a, vs, rfl, q, rr⟩ := r.of_lst
      exact .lst (.inl (.inl (L.fr _ _ q))) (Pd.dpAll L es _ _ h rr)
    | scr h =>
      obtain ⟨a, vs, rfl, q, rr⟩ := r.of_scr
      exact .lst (ex_l L.fr q) (Pd.dpAll L es _ _ h rr)
    | «at» hi h =>
      rw [r.of_at]
      have hl := (List.getElem?_eq_some_iff.mp hi).1
      obtain ⟨vs, q, rr⟩ := L.at_ (by rw [List.getElem?_append_left hl]; exact hi)
      exact .lst (.inl (.inl q)) (Pd.dpAll L es _ _ h rr)
  | .dict es, _, _, h, r => by cases h
theorem Pd.dpAll (L : Lay K F (M ++ R) H) : ∀ (es : List PyData) (ds : List D) (vs : List V), PdAll M ds es → Rps K F vs ds → L2.DpAll K H vs es
  | [], _, _, h, r => by cases h; rw [r.unnil]; exact .nil
  | e :: es, _, _, h, r => by
    cases h with
    | cons h1 h2 =>
      obtain ⟨v, vs', rfl, r1, r2⟩ := r.uncons
      exact .cons (Pd.dp L e _ _ h1 r1) (Pd.dpAll L es _ _ h2 r2)
end
end
variable {c : Cz} {M : Mem} {k : D → Mem → Prop} {x y : D} {d e : PyData}
theorem zr_eqD (h1 : Pd M x d) (h2 : Pd M y e) (s1 : SeqAt.shaped d = true) (s2 : SeqAt.shaped e = true) (h : k (.bl (PyData.eqv d e)) M) : ZR c (rEqZ c.K) x y M k := fun R F H v w Q L r1 r2 q =>
  .inr ⟨d, e, Pd.dp L d x v h1 r1, Pd.dp L e y w h2 r2, s1, s2, q _ F H M _ (Ex.refl F) L (.bl _) h⟩
theorem zr_neD (h1 : Pd M x d) (h2 : Pd M y e) (s1 : SeqAt.shaped d = true) (s2 : SeqAt.shaped e = true) (h : k (.bl (!PyData.eqv d e)) M) : ZR c (rNeZ c.K) x y M k := fun R F H v w Q L r1 r2 q =>
  .inr ⟨d, e, Pd.dp L d x v h1 r1, Pd.dp L e y w h2 r2, s1, s2, q _ F H M _ (Ex.refl F) L (.bl _) h⟩
/-- rows of ints as data -/
theorem PdAll.ints {M : Mem} : ∀ (r : List Int), PdAll M (r.map D.int) (r.map PyData.int)
  | [] => .nil
  | x :: r => .cons (.int x) (PdAll.ints r)
theorem PdAll.map {α : Type} {M : Mem} {f : α → D} {g : α → PyData} (h : ∀ x, Pd M (f x) (g x)) : ∀ (r : List α), PdAll M (r.map f) (r.map g)
  | [] => .nil
  | x :: r => .cons (h x) (PdAll.map h r)
theorem canLay_map {α : Type} {g : α → PyData} (h : ∀ x, (g x).canLay0 = true) : ∀ r : List α, PyData.canLayAll0 (r.map g) = true
  | [] => rfl
  | x :: r => by rw [List.map_cons]; show (_ && _) = true; rw [h x, canLay_map h r]; rfl
theorem depth_map {α : Type} {g : α → PyData} {n : Nat} (h : ∀ x, (g x).depth ≤ n) : ∀ r : List α, PyData.depthAll (r.map g) ≤ n
  | [] => Nat.zero_le _
  | x :: r => by rw [List.map_cons]; exact Nat.max_le.mpr ⟨h x, depth_map h r⟩
end Z
set_option Elab.async false
set_option linter.all false
set_option maxRecDepth 100000
set_option maxHeartbeats 4000000
/-! ZSort: sorted() of ints, and of (int, thing) pairs whose ints are all unlike. -/
namespace Z
open PySem PySem.Spec PyProof.Rows L2 SrtO
section
variable {prog : Program} {w : World} {A : Around} {E : Value → Shared → Prop} {s : Shared}
/-- a tuple of an int and a reference -/
def IsIR (h : Heap) (v : Value) (x : Int) (r : Addr) : Prop := ∃ a o t n, v = .ref a ∧ h.get? a = some o ∧ o.cls = .type "tuple" ∧ o.data = .seq #[.int x t, .ref r] n
theorem IsIR.keeps {h h' : Heap} {v : Value} {x : Int} {r : Addr} (p : IsIR h v x r) (k : ∀ b o, h.get? b = some o → o.cls = .type "tuple" → h'.get? b = some o) : IsIR h' v x r := by
  obtain ⟨a, o, t, n, e, ho, hc, hd⟩ := p
  exact ⟨a, o, t, n, e, k _ _ ho hc, hc, hd⟩
theorem ir_cmp {vs : List Value} {k : Value → Int} {rf : Value → Addr} (hp : ∀ v ∈ vs, IsIR s.heap v (k v) (rf v)) (hk : ∀ v ∈ vs, ∀ u ∈ vs, k v = k u → rf v = rf u) : Cmp prog w A s (tuples' true) (fun p => p.1 ∈ vs) (lt2 fun v u => decide (k v < k u)) := by
  intro p q hm hm'
  have h1 := hp _ hm
  have h2 := hp _ hm'
  have h3 := hk _ hm _ hm'
  show wpAny (model prog w) A (keyLt' (tuples' true) p.1 q.1) (fun r s' => s' = s ∧ r = decide (k p.1 < k q.1)) (fun _ _ => False) s
  generalize k p.1 = x at h1 h3 ⊢
  generalize rf p.1 = y at h1 h3 ⊢
  generalize k q.1 = x' at h2 h3 ⊢
  generalize rf q.1 = y' at h2 h3 ⊢
  obtain ⟨a, o, t, n, e, ho, hc, hd⟩ := h1
  obtain ⟨a', o', t', n', e', ho', hc', hd'⟩ := h2
  rw [e, e']
  refine PySem.W.kat_lt ho hd ho' hd' ?_
  show PySem.W.KatLex prog w A true (decide (2 < 2)) _ [(.int x t, .int x' t'), (.ref y, .ref y')] 0 s
  refine PySem.W.kat_cons (SeqAt.EqAt.int_int x t x' t' prog w _ _ ?_)
  refine PySem.W.kat_go (fun e1 => ?_) (fun e1 => ?_)
  · have ex : x = x' := by simpa using e1
    have ey : y = y' := h3 ex
    subst ex ey
    refine PySem.W.kat_yes (PySem.W.kat_cons (SeqAt.EqAt.same _ prog w _ _ ?_))
    refine PySem.W.kat_go (fun e2 => ?_) (fun e2 => absurd e2 (by decide))
    exact PySem.W.kat_yes (PySem.W.kat_nil ⟨rfl, (decide_eq_false (Int.lt_irrefl _)).symm⟩)
  · exact PySem.W.kat_no (oneLt_int ⟨rfl, rfl⟩)
theorem ir_firsts {h : Heap} : ∀ {vs : List Value}, (∀ v ∈ vs, ∃ x r, IsIR h v x r) → ∃ fs : List Value, PySem.W.KatTups h vs fs ∧ fs.length = vs.length ∧ ∀ f ∈ fs, ∃ x t, f = Value.int x t
  | [], _ => ⟨[], PySem.W.KatTups.nil, rfl, fun _ hm => by simp at hm⟩
  | v :: vs, hp => by
    obtain ⟨fs, h1, h2, h3⟩ := ir_firsts (vs := vs) fun v' hm => hp v' (List.mem_cons_of_mem _ hm)
    obtain ⟨x, r, a, o, t, n, e, ho, hc, hd⟩ := hp v (List.mem_cons_self ..)
    subst e
    refine ⟨.int x t :: fs, PySem.W.KatTups.cons ho hc hd rfl h1, by rw [List.length_cons, List.length_cons, h2], fun f hm => ?_⟩
    rcases List.mem_cons.mp hm with rfl | hm
    · exact ⟨x, t, rfl⟩
    · exact h3 f hm
theorem ir_sortable {a : Addr} {vs : List Value} {k : Value → Int} {rf : Value → Addr} (h0 : 0 < vs.length) (hp : ∀ v ∈ vs, IsIR s.heap v (k v) (rf v)) (hk : ∀ v ∈ vs, ∀ u ∈ vs, k v = k u → rf v = rf u) (ha : ∀ o, s.heap.get? a = some o → o.cls ≠ .type "tuple") : SortableO prog w A s a vs fun v u => decide (k v < k u) := by
  intro h' keep
  have hp' : ∀ v ∈ vs, IsIR h' v (k v) (rf v) := fun v hm => (hp v hm).keeps fun b o e c => keep b o (fun z => by subst z; exact ha o e c) e
  obtain ⟨fs, h1, h2, h3⟩ := ir_firsts fun v hm => ⟨_, _, hp' v hm⟩
  refine ⟨tuples' true, fun Q E hq => ?_, ir_cmp hp' hk⟩
  refine PySem.W.kat_kind (T := .type "int") h1 (by omega) (fun f hm => ?_) (by rfl) ?_
  · obtain ⟨x, t, rfl⟩ := h3 f hm
    exact PySem.W.Looks.now
  · have e : (Value.type "int" != Value.type "tuple") = true := by first | decide +kernel | rfl | decide
    rw [e]
    exact hq
theorem swo_key (k : Value → Int) : Swo fun v u => decide (k v < k u) := by
  refine ⟨fun x y h => ?_, fun x y z h1 h2 => ?_⟩
  · have := of_decide_eq_true h
    exact decide_eq_false (by omega)
  · have a := of_decide_eq_false h1
    have b := of_decide_eq_false h2
    exact decide_eq_false (by omega)
theorem sorted_ir {l : Addr} {vs : List Value} {k : Value → Int} {rf : Value → Addr} {Q : Value → Shared → Prop} (hl : s.heap.IsList l vs.toArray) (hz : vs.length ≤ sizeLine) (hp : ∀ v ∈ vs, IsIR s.heap v (k v) (rf v)) (hk : ∀ v ∈ vs, ∀ u ∈ vs, k v = k u → rf v = rf u)
    (h : ∀ (h' : Heap) (d : Addr) (out : List Value), Srtd (fun v u => decide (k v < k u)) out → out.Perm vs → (∀ b o, s.heap.get? b = some o → h'.get? b = some o) → s.heap.objs.size ≤ d → (∃ n, h'.get? d = some (seqObj "list" out.toArray n)) → Q (.ref d) { s with heap := h' }) :
    wpAny (model prog w) A (call (.builtin "sorted") [.ref l]) Q E s := by
  refine sorted_ord (swo_key k) hl hz (fun h2 h₁ a ha kk => ?_) fun out hs hb => ?_
  · refine ir_sortable (s := { s with heap := h₁ }) (by omega) (fun v hm => (hp v hm).keeps fun b o e _ => (kk b o e).2) hk fun o e => ?_
    have e' : some o = some (seqObj "list" vs.toArray 0) := e.symm.trans ha
    cases e'
    intro c
    exact absurd (Value.type.inj c) (by decide)
  · exact h _ _ out hs hb.perm (fun b o e => sortedAll_old e) (Nat.le_succ _) (sortedAll_at s.heap vs out.toArray)
end

/-! ### over the layer, on data -/
abbrev IR := Addr × Int × Addr
def irV (p : IR) : V := .ref p.1
def rSortF (K : Fg) : List V → Hp → VK → Prop := fun vs H Q => ∃ (a : Addr) (ps : List IR), vs = [.ref a] ∧ SqL K H a (ps.map irV) ∧ (∀ p ∈ ps, SqT K H p.1 [.int p.2.1, .ref p.2.2]) ∧ (ps.map (·.2.1)).Nodup ∧
  ∀ (ps' : List IR) (p : Addr), ps'.Perm ps → ps'.Pairwise (fun x y => x.2.1 ≤ y.2.1) → H p = none → Q (.ref p) (upd H p (.lst (ps'.map irV)))
theorem nodup_key {ps : List IR} (h : (ps.map (·.2.1)).Nodup) : ∀ p ∈ ps, ∀ q ∈ ps, p.2.1 = q.2.1 → p = q := by
  induction ps with
  | nil => intro p hp; cases hp
  | cons x ps ih =>
    rw [List.map_cons, List.nodup_cons] at h
    intro p hp q hq e
    rcases List.mem_cons.mp hp with e1 | hp1
    · rcases List.mem_cons.mp hq with e2 | hq1
      · rw [e1, e2]
      · rw [e1] at e
        exact absurd (List.mem_map.mpr ⟨q, hq1, e.symm⟩) h.1
    · rcases List.mem_cons.mp hq with e2 | hq1
      · rw [e2] at e
        exact absurd (List.mem_map.mpr ⟨p, hp1, e⟩) h.1
      · exact ih h.2 p hp1 q hq1 e
theorem cr_sortF {X : Cx} : CallR X (.builtin "sorted") (rSortF X.K) := by
  intro pins s σ H vs us Q I r h
  obtain ⟨a, ps, rfl, hs, hx, hnd, q⟩ := h
  obtain ⟨its, rv, hl, hz⟩ := I.list hs
  obtain ⟨u, rfl, ru⟩ := vals1 r
  obtain rfl : u = Value.ref a := ru
  have hits : its = ps.map fun p => Value.ref p.1 := by
    have key : ∀ (ps : List IR) (its : List Value), Vals (ps.map irV) its → its = ps.map fun p => Value.ref p.1 := by
      intro ps
      induction ps with
      | nil => intro its h; cases h; rfl
      | cons p ps ih =>
        intro its h
        cases h with
        | cons h1 h2 => rw [List.map_cons, ← ih _ h2]; exact congrArg (· :: _) h1
    exact key ps its rv
  let g : Value → IR := fun v => match v with
    | .ref t => (ps.find? fun p => decide (p.1 = t)).getD (0, 0, 0)
    | _ => (0, 0, 0)
  have huniq : ∀ p ∈ ps, ∀ p' ∈ ps, p'.1 = p.1 → p' = p := fun p hp p' hp' e => by
    have h1 := hx p hp
    have h2 := hx p' hp'
    rw [e] at h2
    have := I.tuple_inj h1 h2
    simp at this
    exact nodup_key hnd p' hp' p hp this.1.symm
  have hg : ∀ p ∈ ps, g (.ref p.1) = p := fun p hp => by
    show (ps.find? fun q => decide (q.1 = p.1)).getD (0, 0, 0) = p
    cases e : ps.find? fun q => decide (q.1 = p.1) with
    | none => have := List.find?_eq_none.mp e p hp; simp at this
    | some p' =>
      have h1 := List.mem_of_find?_eq_some e
      have h2 := List.find?_some e
      exact huniq p hp p' h1 (of_decide_eq_true h2)
  refine sorted_ir (k := fun v => (g v).2.1) (rf := fun v => (g v).2.2) hl.isList (by rw [← rv.length]; exact hz) (fun v hv => ?_) (fun v hv u hu e => ?_) fun h' d out hsrt hperm kp hd hn => ?_
  · rw [hits] at hv
    obtain ⟨p, hp, rfl⟩ := List.mem_map.mp hv
    rw [hg p hp]
    obtain ⟨its2, r2, ⟨o, ho, hc, n, hd⟩, _⟩ := I.tuple (hx p hp)
    obtain ⟨u1, u2, rfl, ri, rj⟩ := vals2 r2
    obtain ⟨t1, rfl⟩ := ri
    obtain rfl : u2 = Value.ref p.2.2 := rj
    exact ⟨p.1, o, t1, n, rfl, ho, hc, hd⟩
  · rw [hits] at hv hu
    obtain ⟨p, hp, rfl⟩ := List.mem_map.mp hv
    obtain ⟨p', hp', rfl⟩ := List.mem_map.mp hu
    rw [hg p hp, hg p' hp'] at e ⊢
    rw [nodup_key hnd p hp p' hp' e]
  · obtain ⟨n, hn⟩ := hn
    have hback : ∀ v ∈ out, Value.ref (g v).1 = v ∧ g v ∈ ps := fun v hv => by
      have hv := hperm.mem_iff.mp hv
      rw [hits] at hv
      obtain ⟨p, hp, rfl⟩ := List.mem_map.mp hv
      rw [hg p hp]; exact ⟨rfl, hp⟩
    have hp2 : (out.map g).Perm ps := by
      have := hperm.map g
      rw [hits, List.map_map] at this
      have e : ps.map (g ∘ fun p => Value.ref p.1) = ps := by
        have e2 : ps.map (g ∘ fun p => Value.ref p.1) = ps.map id := List.map_congr_left fun p hp => hg p hp
        rw [e2, List.map_id]
      rwa [e] at this
    have hvals : Vals ((out.map g).map irV) out := by
      rw [List.map_map]
      have key : ∀ l : List Value, (∀ v ∈ l, Value.ref (g v).1 = v) → Vals (l.map (irV ∘ g)) l := by
        intro l
        induction l with
        | nil => intro _; exact .nil
        | cons v l ih => intro h; exact .cons (h v List.mem_cons_self).symm (ih fun u hu => h u (List.mem_cons_of_mem _ hu))
      exact key out fun v hv => (hback v hv).1
    have hsl : ((out.map g).map irV).length ≤ sizeLine := by
      rw [List.length_map, hp2.length_eq]
      rw [List.length_map] at hz; exact hz
    refine ⟨.ref d, upd H d (.lst ((out.map g).map irV)), I.laid (t' := s.toks) kp hd ⟨hsl, out, n, hvals, hn⟩, rfl, q _ d hp2 ?_ (I.hok.fresh hd)⟩
    refine List.pairwise_map.mpr (hsrt.imp fun h => ?_)
    have := of_decide_eq_false h
    omega
def rSortZ (K : Fg) : List V → Hp → VK → Prop := fun vs H Q => rSortedI K vs H Q ∨ rSortF K vs H Q
theorem cz_sorted {X : Cx} : CallR X (.builtin "sorted") (rSortZ X.K) := cr_sortedI.or cr_sortF
variable {c : Cz} {M : Mem} {k : D → Mem → Prop} {d : D}
theorem zc_sortI {ns : List Int} (s : Sl M d (ns.map D.int)) (h : ∀ ns' : List Int, ns'.Perm ns → ns'.Pairwise (· ≤ ·) → k (.lst (ns'.map D.int)) M) : ZC c (rSortZ c.K) [d] M k := fun R F H vs Q L r q => by
  obtain ⟨v, rfl, r1⟩ := r.one1
  obtain ⟨a, vs, rfl, p, rr⟩ := s.read L r1
  rw [rr.ints] at p
  refine .inl ⟨a, ns, rfl, p, fun ns' l h1 h2 hl => q _ _ _ M _ (ex_upd (L.free hl)) (L.new hl) (.mk_lst upd_same (Rps.of_map fun x _ => .int x)) (h ns' h1 h2)⟩
abbrev irD (p : Int × List D) : D := .tup [.int p.1, .tup p.2]
theorem zc_sortF {ps : List (Int × List D)} (s : Sl M d (ps.map irD)) (hnd : (ps.map (·.1)).Nodup) (h : ∀ ps' : List (Int × List D), ps'.Perm ps → ps'.Pairwise (fun x y => x.1 ≤ y.1) → k (.lst (ps'.map irD)) M) : ZC c (rSortZ c.K) [d] M k := fun R F H vs Q L r q => by
  obtain ⟨v, rfl, r1⟩ := r.one1
  obtain ⟨a, vs, rfl, p, rr⟩ := s.read L r1
  -- each item's two refs
  have hits : ∀ (ps : List (Int × List D)) (vs : List V), Rps c.K F vs (ps.map irD) → ∃ qs : List (IR × List D), vs = qs.map (fun q => irV q.1) ∧ ps = qs.map (fun q => (q.1.2.1, q.2)) ∧ ∀ q ∈ qs, SqT c.K H q.1.1 [.int q.1.2.1, .ref q.1.2.2] ∧ Rp c.K F (irV q.1) (irD (q.1.2.1, q.2)) := by
    intro ps
    induction ps with
    | nil => intro vs r; rw [r.unnil]; exact ⟨[], rfl, rfl, fun q h => by cases h⟩
    | cons p ps ih =>
      intro vs r
      obtain ⟨v, vs', rfl, r1, r2⟩ := r.uncons
      obtain ⟨qs, e1, e2, e3⟩ := ih vs' r2
      obtain ⟨t, ws, rfl, ht, rw_⟩ := r1.of_tup
      obtain ⟨v1, v2, rfl, s1, s2⟩ := rw_.two
      have hv1 := s1.of_int
      obtain ⟨t2, ws2, rfl, _, _⟩ := s2.of_tup
      subst hv1
      refine ⟨((t, p.1, t2), p.2) :: qs, by rw [e1]; rfl, by rw [List.map_cons, ← e2], fun q hq => ?_⟩
      rcases List.mem_cons.mp hq with rfl | hq
      · exact ⟨ex_t L.fr ht, r1⟩
      · exact e3 q hq
  obtain ⟨qs, rfl, rfl, h3⟩ := hits ps vs rr
  refine .inr ⟨a, qs.map (·.1), rfl, by rw [List.map_map]; exact p, fun x hx => ?_, ?_, fun ps' l h1 h2 hl => ?_⟩
  · obtain ⟨z, hz, rfl⟩ := List.mem_map.mp hx
    exact (h3 z hz).1
  · rw [List.map_map] at hnd ⊢; exact hnd
  · -- the order carried to the data
    have hnd2 : (qs.map fun q => q.1.2.1).Nodup := by rw [List.map_map] at hnd; exact hnd
    let g : IR → List D := fun p => ((qs.find? fun q => decide (q.1.2.1 = p.2.1)).map (·.2)).getD []
    have hg : ∀ z ∈ qs, g z.1 = z.2 := fun z hz => by
      have key : ∀ (qs : List (IR × List D)), (qs.map fun q => q.1.2.1).Nodup → ∀ z ∈ qs, (qs.find? fun q => decide (q.1.2.1 = z.1.2.1)) = some z := by
        intro qs
        induction qs with
        | nil => intro _ z hz; cases hz
        | cons y qs ih =>
          intro hn z hz
          rw [List.map_cons, List.nodup_cons] at hn
          rw [List.find?_cons]
          rcases List.mem_cons.mp hz with rfl | hz
          · simp
          · have hne : ¬ y.1.2.1 = z.1.2.1 := fun e => hn.1 (List.mem_map.mpr ⟨z, hz, e.symm⟩)
            rw [decide_eq_false hne]; exact ih hn.2 z hz
      show ((qs.find? fun q => decide (q.1.2.1 = z.1.2.1)).map (·.2)).getD [] = z.2
      rw [key qs hnd2 z hz]; rfl
    have hm : ∀ x ∈ ps', ∃ z ∈ qs, z.1 = x := fun x hx => by
      obtain ⟨z, hz, e⟩ := List.mem_map.mp (h1.mem_iff.mp hx)
      exact ⟨z, hz, e⟩
    have hperm : (ps'.map fun x => (x.2.1, g x)).Perm (qs.map fun q => (q.1.2.1, q.2)) := by
      have := h1.map fun x : IR => (x.2.1, g x)
      rw [List.map_map] at this
      have e : qs.map ((fun x : IR => (x.2.1, g x)) ∘ (·.1)) = qs.map fun q => (q.1.2.1, q.2) := List.map_congr_left fun z hz => by
        show (z.1.2.1, g z.1) = _
        rw [hg z hz]
      rwa [e] at this
    have hk := h (ps'.map fun x => (x.2.1, g x)) hperm (List.pairwise_map.mpr (h2.imp fun h => h))
    refine q _ _ _ M _ (ex_upd (L.free hl)) (L.new hl) (.mk_lst upd_same ((?_ : Rps c.K F (ps'.map irV) _).mono (ex_upd (L.free hl)))) hk
    rw [List.map_map]
    refine Rps.of_map fun x hx => ?_
    obtain ⟨z, hz, rfl⟩ := hm x hx
    show Rp c.K F (irV z.1) (irD (z.1.2.1, g z.1))
    rw [hg z hz]; exact (h3 z hz).2
section
variable {P : Program} {w : World} {K : Fg} {mg : Str → Option Value} {base : Heap} {x qual : Str} {params : Arguments} {body : List Stmt} {scope : Scope} {dvs : List V} {kws : List (Str × V)} {f : Addr} {fd : FuncData} {ps : List Str} {k : Nat}
/-- a def with defaults is called with all its arguments -/
theorem fnz_dfl {S : ZSp} (F : FunD K x qual params body scope dvs kws f fd) (G : FnOk P w K mg base CX0 k f fd ps (toSp K S)) (hm : mg x = some (.ref f)) (hb : ∃ ds, Vals [] ds ∧ Binds K fd ps ds) : FnZ P w K mg base x k S := by
  obtain ⟨ds, hd, hb⟩ := hb
  exact ⟨f, fd, ps, toSp K S, ds, [], G, hm, F.kp, hb, hd, fun vs H Q ⟨R, F, M, ds, kk, L, r, s, q⟩ => by rw [List.append_nil]; exact ⟨R, F, M, ds, kk, L, r, s, q⟩⟩
end
end Z
set_option Elab.async false
set_option linter.all false
set_option maxRecDepth 100000
set_option maxHeartbeats 4000000
/-! YOps: what operators and built-ins do to plain data; none where the layer has no rule. -/
namespace Z
open PySem PySem.Spec PyProof.Rows L2
/-- two results at once -/
def bp {α β γ : Type} (m : Option (α × β)) (f : α → β → Option γ) : Option γ := m.bind fun p => f p.1 p.2
@[simp] theorem bp_some {α β γ : Type} (a : α) (b : β) (f : α → β → Option γ) : bp (some (a, b)) f = f a b := rfl
@[simp] theorem bp_none {α β γ : Type} (f : α → β → Option γ) : bp none f = none := rfl
def mulB (i j : Int) : Bool := decide (i.natAbs < 2 ^ 64) || decide (j.natAbs < 2 ^ 64) || decide (i.natAbs.log2 + j.natAbs.log2 < 1000000)
theorem mulB_ok {i j : Int} (h : mulB i j = true) : MulOk i j := by
  unfold mulB at h
  rw [Bool.or_eq_true, Bool.or_eq_true] at h
  rcases h with (h | h) | h
  · exact .left (of_decide_eq_true h)
  · exact .right (of_decide_eq_true h)
  · exact .of (of_decide_eq_true h)
def divB (j : Int) : Bool := decide (j ≠ 0) && decide (j.natAbs.log2 < 9000)
theorem divB_ok {i j : Int} (h : divB j = true) : DivOk i j := by
  unfold divB at h
  rw [Bool.and_eq_true] at h
  exact ⟨of_decide_eq_true h.1, PyProof.noPylong_of_log2 (of_decide_eq_true h.2)⟩
def powB (i j : Int) : Bool := decide (0 ≤ j) && decide (j ≤ 1000000) && decide (i.natAbs < 2 ^ 64)
theorem powB_ok {i j : Int} (h : powB i j = true) : CPow i j := by
  unfold powB at h
  rw [Bool.and_eq_true, Bool.and_eq_true] at h
  exact ⟨of_decide_eq_true h.1.1, of_decide_eq_true h.1.2, of_decide_eq_true h.2⟩
def gd (b : Bool) (d : D) : Option D := if b then some d else none
theorem gd_some {b : Bool} {d e : D} (h : gd b d = some e) : b = true ∧ d = e := by
  unfold gd at h
  cases b with
  | true => exact ⟨rfl, Option.some.inj h⟩
  | false => cases h
@[simp] theorem gd_true (d : D) : gd true d = some d := rfl
theorem gd_of {b : Bool} {d : D} (h : b = true) : gd b d = some d := by rw [h]; rfl
def dAdd : D → D → Option D
  | .int i, .int j => some (.int (i + j))
  | .tup x, .tup y => gd (decide (x.length + y.length ≤ sizeLine)) (.tup (x ++ y))
  | .lst x, .lst y => gd (decide (x.length + y.length ≤ sizeLine)) (.lst (x ++ y))
  | .str x, .str y => gd (decide (x.length + y.length ≤ sizeLine)) (.str (x ++ y))
  | _, _ => none
def dSub : D → D → Option D
  | .int i, .int j => some (.int (i - j))
  | _, _ => none
def repB (n : Nat) (j : Int) : Bool := decide (-(2 ^ 63) ≤ j) && decide (j < 2 ^ 63) && decide (n * j.toNat ≤ sizeLine)
def dMul : D → D → Option D
  | .int i, .int j => gd (mulB i j) (.int (i * j))
  | .lst x, .int j => gd (repB x.length j) (.lst (List.replicate j.toNat x).flatten)
  | _, _ => none
def dMod : D → D → Option D
  | .int i, .int j => gd (decide (0 < j)) (.int (i % j))
  | _, _ => none
def dDiv : D → D → Option D
  | .int i, .int j => gd (divB j) (.int (i.fdiv j))
  | _, _ => none
def dPow : D → D → Option D
  | .int i, .int j => gd (powB i j) (.int (i ^ j.toNat))
  | _, _ => none
def dNeg : D → Option D
  | .int i => some (.int (-i))
  | _ => none
def bLt : D → D → Option Bool
  | .int i, .int j => some (decide (i < j))
  | _, _ => none
def bLe : D → D → Option Bool
  | .int i, .int j => some (decide (i ≤ j))
  | _, _ => none
def bGt : D → D → Option Bool
  | .int i, .int j => some (decide (j < i))
  | _, _ => none
def bGe : D → D → Option Bool
  | .int i, .int j => some (decide (j ≤ i))
  | _, _ => none
mutual
def toPy : D → Option PyData
  | .non => some .none
  | .bl b => some (.bool b)
  | .int i => some (.int i)
  | .str x => some (.str x)
  | .tup ds => (toPys ds).map .tuple
  | .lst ds => (toPys ds).map .list
  | .scr ds => (toPys ds).map .list
  | _ => none
def toPys : List D → Option (List PyData)
  | [] => some []
  | d :: ds => match toPy d, toPys ds with
    | some x, some y => some (x :: y)
    | _, _ => none
end
mutual
theorem toPy_pd {M : Mem} : ∀ (d : D) (p : PyData), toPy d = some p → Pd M d p
  | .non, p, h => by cases h; exact .non
  | .bl b, p, h => by cases h; exact .bl b
  | .int i, p, h => by cases h; exact .int i
  | .str x, p, h => by cases h; exact .str x
  | .tup ds, p, h => by
    unfold toPy at h
    obtain ⟨q, hq, rfl⟩ := Option.map_eq_some_iff.mp h
    exact .tup (toPys_pd ds q hq)
  | .lst ds, p, h => by
    unfold toPy at h
    obtain ⟨q, hq, rfl⟩ := Option.map_eq_some_iff.mp h
    exact .lst (toPys_pd ds q hq)
  | .scr ds, p, h => by
    unfold toPy at h
    obtain ⟨q, hq, rfl⟩ := Option.map_eq_some_iff.mp h
    exact .scr (toPys_pd ds q hq)
  | .ty _, p, h => by cases h
  | .obj _ _, p, h => by cases h
  | .at _, p, h => by cases h
theorem toPys_pd {M : Mem} : ∀ (ds : List D) (ps : List PyData), toPys ds = some ps → PdAll M ds ps
  | [], ps, h => by cases h; exact .nil
  | d :: ds, ps, h => by
    unfold toPys at h
    cases h1 : toPy d with
    | none => rw [h1] at h; cases h
    | some x =>
      rw [h1] at h
      cases h2 : toPys ds with
      | none => rw [h2] at h; cases h
      | some y =>
        rw [h2] at h
        cases h
        exact .cons (toPy_pd d x h1) (toPys_pd ds y h2)
end
def shp (p : PyData) : Bool := SeqAt.shaped p
def bEqP (x y : D) : Option Bool := (toPy x).bind fun p => (toPy y).bind fun q => if shp p && shp q then some (PyData.eqv p q) else none
def bEq : D → D → Option Bool
  | .int i, .int j => some (decide (i = j))
  | .bl i, .bl j => some (decide (i = j))
  | .str i, .str j => some (decide (i = j))
  | .tup x, .tup y => bEqP (.tup x) (.tup y)
  | .lst x, .lst y => bEqP (.lst x) (.lst y)
  | x, y => bEqP x y
def bNe (x y : D) : Option Bool := (bEq x y).map (!·)
def asInts : List D → Option (List Int)
  | [] => some []
  | .int i :: ds => (asInts ds).map (i :: ·)
  | _ => none
theorem asInts_eq : ∀ {ds : List D} {ns : List Int}, asInts ds = some ns → ds = ns.map D.int
  | [], ns, h => by cases h; rfl
  | .int i :: ds, ns, h => by
    unfold asInts at h
    obtain ⟨q, hq, rfl⟩ := Option.map_eq_some_iff.mp h
    rw [asInts_eq hq]; rfl
  | .non :: _, _, h | .bl _ :: _, _, h | .str _ :: _, _, h | .ty _ :: _, _, h | .tup _ :: _, _, h | .lst _ :: _, _, h | .scr _ :: _, _, h | .obj _ _ :: _, _, h | .at _ :: _, _, h => by cases h
@[simp] theorem asInts_map : ∀ ns : List Int, asInts (ns.map D.int) = some ns
  | [] => rfl
  | n :: ns => by rw [List.map_cons]; unfold asInts; rw [asInts_map ns]; rfl
def asBls : List D → Option (List Bool)
  | [] => some []
  | .bl i :: ds => (asBls ds).map (i :: ·)
  | _ => none
theorem asBls_eq : ∀ {ds : List D} {ns : List Bool}, asBls ds = some ns → ds = ns.map D.bl
  | [], ns, h => by cases h; rfl
  | .bl i :: ds, ns, h => by
    unfold asBls at h
    obtain ⟨q, hq, rfl⟩ := Option.map_eq_some_iff.mp h
    rw [asBls_eq hq]; rfl
  | .non :: _, _, h | .int _ :: _, _, h | .str _ :: _, _, h | .ty _ :: _, _, h | .tup _ :: _, _, h | .lst _ :: _, _, h | .scr _ :: _, _, h | .obj _ _ :: _, _, h | .at _ :: _, _, h => by cases h
@[simp] theorem asBls_map : ∀ ns : List Bool, asBls (ns.map D.bl) = some ns
  | [] => rfl
  | n :: ns => by rw [List.map_cons]; unfold asBls; rw [asBls_map ns]; rfl
/-- the items of a list or a tuple -/
def items : D → Option (List D)
  | .tup x => some x
  | .lst x => some x
  | .scr x => some x
  | _ => none
def bIn (x : D) (y : D) : Option Bool := match x with
  | .int i => (items y).bind fun ds => (asInts ds).bind fun ns => some (decide (i ∈ ns))
  | _ => none
def bTru : D → Option Bool
  | .non => some false
  | .bl b => some b
  | .int i => some (i != 0)
  | .tup x => some (!x.isEmpty)
  | .lst x => some (!x.isEmpty)
  | .scr x => some (!x.isEmpty)
  | _ => none
def dBl : D → Option Bool
  | .bl b => some b
  | _ => none
def dLen : D → Option D
  | .tup x => some (.int (x.length : Nat))
  | .lst x => some (.int (x.length : Nat))
  | .scr x => some (.int (x.length : Nat))
  | .str z => gd (decide (z.length ≤ sizeLine)) (.int (z.length : Nat))
  | _ => none
def dIx : D → D → Option D
  | .tup x, .int i => L2.atI x i
  | .lst x, .int i => L2.atI x i
  | .scr x, .int i => L2.atI x i
  | .str z, .int i => if z.length ≤ sizeLine then (L2.atI z.cps.toList i).map fun n => .str ⟨#[n]⟩ else none
  | _, _ => none
/-- a part of a slice -/
def dPart : D → Option (Option Int)
  | .int i => some (some i)
  | _ => none
def dSlice : D → Option Int → Option Int → Option D
  | .tup x, lo, hi => some (.tup (cutD x lo hi))
  | .lst x, lo, hi => some (.lst (cutD x lo hi))
  | .scr x, lo, hi => some (.lst (cutD x lo hi))
  | .str z, lo, hi => gd (decide (z.length ≤ sizeLine)) (.str (cutS z lo hi))
  | _, _, _ => none
def dAbs : D → Option D
  | .int i => some (.int (i.natAbs : Int))
  | _ => none
def dMax2 : D → D → Option D
  | .int i, .int j => some (.int (max i j))
  | _, _ => none
def dMin2 : D → D → Option D
  | .int i, .int j => some (.int (min i j))
  | _, _ => none
def dGcd : D → D → Option D
  | .int i, .int j => some (.int ((Nat.gcd i.natAbs j.natAbs : Nat) : Int))
  | _, _ => none
def lcmB (i j : Int) : Bool := decide (i.natAbs.log2 < 13400) && decide (j.natAbs.log2 < 13400) && decide ((Nat.lcm i.natAbs j.natAbs).log2 < bitsLine)
def dLcm : D → D → Option D
  | .int i, .int j => gd (lcmB i j) (.int ((Nat.lcm i.natAbs j.natAbs : Nat) : Int))
  | _, _ => none
def dInt : D → Option D
  | .int i => some (.int i)
  | .bl b => some (.int (if b then 1 else 0))
  | _ => none
def itemsL : D → Option (List D)
  | .lst x => some x
  | .scr x => some x
  | _ => none
def dSum (d : D) : Option D := (itemsL d).bind fun ds => (asInts ds).bind fun ns => some (.int ns.sum)
def dAll (d : D) : Option D := (itemsL d).bind fun ds => (asBls ds).bind fun ns => some (.bl (ns.all id))
def dAny (d : D) : Option D := (itemsL d).bind fun ds => (asBls ds).bind fun ns => some (.bl (ns.any id))
def dList (d : D) : Option D := (items d).bind fun ds => some (.lst ds)
def dTuple (d : D) : Option D := (items d).bind fun ds => some (.tup ds)
/-- isinstance of built-in classes -/
def isiT (t u : String) : Option Bool := if u = "int" then (if t = "int" ∨ t = "bool" then some true else some false) else if u = "bool" ∨ u = "str" ∨ u = "tuple" ∨ u = "list" then some (t == u) else none
def bIsi (d : D) (u : String) : Option Bool := (tyD d).bind fun t => isiT t u
theorem kit_tab : ∀ t ∈ ["NoneType", "bool", "int", "str", "tuple", "list"], ∀ u ∈ ["int", "bool", "str", "tuple", "list"], kitB t u = isiT t u := by decide +kernel
theorem tyD_mem {d : D} {t : String} (h : tyD d = some t) : t ∈ ["NoneType", "bool", "int", "str", "tuple", "list"] := by
  cases d <;> cases h <;> simp
theorem isi_ok {t u : String} {b : Bool} (ht : t ∈ ["NoneType", "bool", "int", "str", "tuple", "list"]) (h : isiT t u = some b) : kitB t u = some b := by
  have hu : u ∈ ["int", "bool", "str", "tuple", "list"] := by
    unfold isiT at h
    by_cases h1 : u = "int"
    · simp [h1]
    rw [if_neg h1] at h
    by_cases h2 : u = "bool" ∨ u = "str" ∨ u = "tuple" ∨ u = "list"
    · simp only [List.mem_cons]
      rcases h2 with h | h | h | h
      · exact .inr (.inl h)
      · exact .inr (.inr (.inl h))
      · exact .inr (.inr (.inr (.inl h)))
      · exact .inr (.inr (.inr (.inr (.inl h))))
    · rw [if_neg h2] at h; cases h
  rw [kit_tab t ht u hu]; exact h
/-- unpacking -/
def un2 : D → Option (D × D)
  | .tup [a, b] => some (a, b)
  | _ => none
def un3 : D → Option (D × D × D)
  | .tup [a, b, c] => some (a, b, c)
  | _ => none
theorem un2_some {d a b : D} (h : un2 d = some (a, b)) : d = .tup [a, b] := by
  unfold un2 at h
  split at h
  · cases h; rfl
  · cases h
theorem un3_some {d a b c : D} (h : un3 d = some (a, b, c)) : d = .tup [a, b, c] := by
  unfold un3 at h
  split at h
  · cases h; rfl
  · cases h
/-! loops -/
inductive Fl (N S R : Type) where
  | nx (n : N) | ct (s : S) | bk (s : S) | rt (r : R)
section
variable {N S R α : Type}
/-- the rest behind a part that may also leave -/
def Fl.seq {N' : Type} (m : Option (Fl N S R)) (f : N → Option (Fl N' S R)) : Option (Fl N' S R) := m.bind fun
  | .nx n => f n
  | .ct s => some (.ct s)
  | .bk s => some (.bk s)
  | .rt r => some (.rt r)
/-- the rest of a def behind such a part -/
def Fl.fin (m : Option (Fl N S α)) (f : N → Option α) : Option α := m.bind fun
  | .nx n => f n
  | .rt r => some r
  | _ => none
def foldO (f : S → D → Option S) : List D → S → Option S
  | [], s => some s
  | d :: ds, s => (f s d).bind fun s' => foldO f ds s'
def forL (f : S → D → Option (Fl S S R)) : List D → S → Option (Fl S S R)
  | [], s => some (.nx s)
  | d :: ds, s => (f s d).bind fun
    | .nx s' => forL f ds s'
    | .ct s' => forL f ds s'
    | .bk s' => some (.nx s')
    | .rt r => some (.rt r)
def whlN (f : S → Option (Fl S S R)) : Nat → S → Option (Fl S S R)
  | 0, _ => none
  | n + 1, s => (f s).bind fun
    | .nx s' => whlN f n s'
    | .ct s' => whlN f n s'
    | .bk s' => some (.nx s')
    | .rt r => some (.rt r)
open Classical in
noncomputable def whl (f : S → Option (Fl S S R)) (s : S) : Option (Fl S S R) := if h : ∃ n r, whlN f n s = some r then some h.choose_spec.choose else none
theorem whlN_mono {f : S → Option (Fl S S R)} : ∀ {n m : Nat} {s : S} {r : Fl S S R}, n ≤ m → whlN f n s = some r → whlN f m s = some r
  | 0, _, _, _, _, h => by cases h
  | n + 1, 0, _, _, h, _ => by omega
  | n + 1, m + 1, s, r, hm, h => by
    unfold whlN at h ⊢
    cases e : f s with
    | none => rw [e] at h; cases h
    | some x =>
      rw [e] at h
      cases x with
      | nx s' => exact whlN_mono (Nat.le_of_succ_le_succ hm) h
      | ct s' => exact whlN_mono (Nat.le_of_succ_le_succ hm) h
      | bk s' => exact h
      | rt r' => exact h
theorem whl_of {f : S → Option (Fl S S R)} {n : Nat} {s : S} {r : Fl S S R} (h : whlN f n s = some r) : whl f s = some r := by
  have hx : ∃ n r, whlN f n s = some r := ⟨n, r, h⟩
  unfold whl
  rw [dif_pos hx]
  have h2 := hx.choose_spec.choose_spec
  have h3 := whlN_mono (Nat.le_max_left n hx.choose) h
  have h4 := whlN_mono (Nat.le_max_right n hx.choose) h2
  rw [h3] at h4
  exact h4.symm
theorem whl_ex {f : S → Option (Fl S S R)} {s : S} {r : Fl S S R} (h : whl f s = some r) : ∃ n, whlN f n s = some r := by
  unfold whl at h
  split at h
  · rename_i hx
    cases h
    exact ⟨_, hx.choose_spec.choose_spec⟩
  · cases h
theorem whl_nx {f : S → Option (Fl S S R)} {s s' : S} {r : Fl S S R} (h : f s = some (.nx s')) (h2 : whl f s' = some r) : whl f s = some r := by
  obtain ⟨n, hn⟩ := whl_ex h2
  exact whl_of (n := n + 1) (by unfold whlN; rw [h]; exact hn)
theorem whl_bk {f : S → Option (Fl S S R)} {s s' : S} (h : f s = some (.bk s')) : whl f s = some (.nx s') := whl_of (n := 1) (by unfold whlN; rw [h]; rfl)
theorem whl_rt {f : S → Option (Fl S S R)} {s : S} {r : R} (h : f s = some (.rt r)) : whl f s = some (.rt r) := whl_of (n := 1) (by unfold whlN; rw [h]; rfl)
/-- comprehensions -/
def mapO (f : D → Option D) : List D → Option (List D)
  | [] => some []
  | d :: ds => (f d).bind fun y => (mapO f ds).bind fun ys => some (y :: ys)
def mapS (f : S → D → Option (D × S)) : List D → S → Option (List D × S)
  | [], s => some ([], s)
  | d :: ds, s => bp (f s d) fun y s => bp (mapS f ds s) fun ys s => some (y :: ys, s)
def filO (f : D → Option (Option D)) : List D → Option (List D)
  | [] => some []
  | d :: ds => (f d).bind fun y => (filO f ds).bind fun ys => some (y.toList ++ ys)
/-- iterators -/
def itSeq : D → Option (List D) := items
def rngB (i : Int) : Bool := decide (-(2 ^ 62) ≤ i) && decide (i < 2 ^ 62)
def itRng1 : D → Option (List D)
  | .int j => if rngB j then some (rngD 0 j.toNat) else none
  | _ => none
def itRng2 : D → D → Option (List D)
  | .int i, .int j => if rngB i && rngB j then some (rngD i (j - i).toNat) else none
  | _, _ => none
def itEnum (d : D) : Option (List D) := (items d).bind fun ds => some (enumD ds)
def itZip : D → D → Option (List D)
  | .tup x, .tup y => some (zipD x y)
  | .lst x, .lst y => some (zipD x y)
  | _, _ => none
def szB (ds : List D) : Option (List D) := if ds.length ≤ sizeLine then some ds else none
end
end Z
set_option Elab.async false
set_option linter.all false
set_option maxRecDepth 100000
set_option maxHeartbeats 4000000
/-! Printed by mkslots.py. -/
namespace Z
open PySem PySem.Spec PyProof.Rows L2
section
variable {c : Cz} {M : Mem} {k : D → Mem → Prop} {kg : Gm → Mem → Prop} {d : D} {r : Gm}
theorem zv0 (h : k d M) : ZE c (tVar 0) (some d :: r) M k := z_var rfl h
theorem zg0 {a : Option D} (h : kg (some d :: r) M) : ZG c (gName 0) d (a :: r) M kg := zg_name h
theorem zv1 {a0 : Option D} (h : k d M) : ZE c (tVar 1) (a0 :: some d :: r) M k := z_var rfl h
theorem zg1 {a0 : Option D} {a : Option D} (h : kg (a0 :: some d :: r) M) : ZG c (gName 1) d (a0 :: a :: r) M kg := zg_name h
theorem zv2 {a0 a1 : Option D} (h : k d M) : ZE c (tVar 2) (a0 :: a1 :: some d :: r) M k := z_var rfl h
theorem zg2 {a0 a1 : Option D} {a : Option D} (h : kg (a0 :: a1 :: some d :: r) M) : ZG c (gName 2) d (a0 :: a1 :: a :: r) M kg := zg_name h
theorem zv3 {a0 a1 a2 : Option D} (h : k d M) : ZE c (tVar 3) (a0 :: a1 :: a2 :: some d :: r) M k := z_var rfl h
theorem zg3 {a0 a1 a2 : Option D} {a : Option D} (h : kg (a0 :: a1 :: a2 :: some d :: r) M) : ZG c (gName 3) d (a0 :: a1 :: a2 :: a :: r) M kg := zg_name h
theorem zv4 {a0 a1 a2 a3 : Option D} (h : k d M) : ZE c (tVar 4) (a0 :: a1 :: a2 :: a3 :: some d :: r) M k := z_var rfl h
theorem zg4 {a0 a1 a2 a3 : Option D} {a : Option D} (h : kg (a0 :: a1 :: a2 :: a3 :: some d :: r) M) : ZG c (gName 4) d (a0 :: a1 :: a2 :: a3 :: a :: r) M kg := zg_name h
theorem zv5 {a0 a1 a2 a3 a4 : Option D} (h : k d M) : ZE c (tVar 5) (a0 :: a1 :: a2 :: a3 :: a4 :: some d :: r) M k := z_var rfl h
theorem zg5 {a0 a1 a2 a3 a4 : Option D} {a : Option D} (h : kg (a0 :: a1 :: a2 :: a3 :: a4 :: some d :: r) M) : ZG c (gName 5) d (a0 :: a1 :: a2 :: a3 :: a4 :: a :: r) M kg := zg_name h
theorem zv6 {a0 a1 a2 a3 a4 a5 : Option D} (h : k d M) : ZE c (tVar 6) (a0 :: a1 :: a2 :: a3 :: a4 :: a5 :: some d :: r) M k := z_var rfl h
theorem zg6 {a0 a1 a2 a3 a4 a5 : Option D} {a : Option D} (h : kg (a0 :: a1 :: a2 :: a3 :: a4 :: a5 :: some d :: r) M) : ZG c (gName 6) d (a0 :: a1 :: a2 :: a3 :: a4 :: a5 :: a :: r) M kg := zg_name h
theorem zv7 {a0 a1 a2 a3 a4 a5 a6 : Option D} (h : k d M) : ZE c (tVar 7) (a0 :: a1 :: a2 :: a3 :: a4 :: a5 :: a6 :: some d :: r) M k := z_var rfl h
theorem zg7 {a0 a1 a2 a3 a4 a5 a6 : Option D} {a : Option D} (h : kg (a0 :: a1 :: a2 :: a3 :: a4 :: a5 :: a6 :: some d :: r) M) : ZG c (gName 7) d (a0 :: a1 :: a2 :: a3 :: a4 :: a5 :: a6 :: a :: r) M kg := zg_name h
theorem zv8 {a0 a1 a2 a3 a4 a5 a6 a7 : Option D} (h : k d M) : ZE c (tVar 8) (a0 :: a1 :: a2 :: a3 :: a4 :: a5 :: a6 :: a7 :: some d :: r) M k := z_var rfl h
theorem zg8 {a0 a1 a2 a3 a4 a5 a6 a7 : Option D} {a : Option D} (h : kg (a0 :: a1 :: a2 :: a3 :: a4 :: a5 :: a6 :: a7 :: some d :: r) M) : ZG c (gName 8) d (a0 :: a1 :: a2 :: a3 :: a4 :: a5 :: a6 :: a7 :: a :: r) M kg := zg_name h
theorem zv9 {a0 a1 a2 a3 a4 a5 a6 a7 a8 : Option D} (h : k d M) : ZE c (tVar 9) (a0 :: a1 :: a2 :: a3 :: a4 :: a5 :: a6 :: a7 :: a8 :: some d :: r) M k := z_var rfl h
theorem zg9 {a0 a1 a2 a3 a4 a5 a6 a7 a8 : Option D} {a : Option D} (h : kg (a0 :: a1 :: a2 :: a3 :: a4 :: a5 :: a6 :: a7 :: a8 :: some d :: r) M) : ZG c (gName 9) d (a0 :: a1 :: a2 :: a3 :: a4 :: a5 :: a6 :: a7 :: a8 :: a :: r) M kg := zg_name h
theorem zv10 {a0 a1 a2 a3 a4 a5 a6 a7 a8 a9 : Option D} (h : k d M) : ZE c (tVar 10) (a0 :: a1 :: a2 :: a3 :: a4 :: a5 :: a6 :: a7 :: a8 :: a9 :: some d :: r) M k := z_var rfl h
theorem zg10 {a0 a1 a2 a3 a4 a5 a6 a7 a8 a9 : Option D} {a : Option D} (h : kg (a0 :: a1 :: a2 :: a3 :: a4 :: a5 :: a6 :: a7 :: a8 :: a9 :: some d :: r) M) : ZG c (gName 10) d (a0 :: a1 :: a2 :: a3 :: a4 :: a5 :: a6 :: a7 :: a8 :: a9 :: a :: r) M kg := zg_name h
theorem zv11 {a0 a1 a2 a3 a4 a5 a6 a7 a8 a9 a10 : Option D} (h : k d M) : ZE c (tVar 11) (a0 :: a1 :: a2 :: a3 :: a4 :: a5 :: a6 :: a7 :: a8 :: a9 :: a10 :: some d :: r) M k := z_var rfl h
theorem zg11 {a0 a1 a2 a3 a4 a5 a6 a7 a8 a9 a10 : Option D} {a : Option D} (h : kg (a0 :: a1 :: a2 :: a3 :: a4 :: a5 :: a6 :: a7 :: a8 :: a9 :: a10 :: some d :: r) M) : ZG c (gName 11) d (a0 :: a1 :: a2 :: a3 :: a4 :: a5 :: a6 :: a7 :: a8 :: a9 :: a10 :: a :: r) M kg := zg_name h
theorem zv12 {a0 a1 a2 a3 a4 a5 a6 a7 a8 a9 a10 a11 : Option D} (h : k d M) : ZE c (tVar 12) (a0 :: a1 :: a2 :: a3 :: a4 :: a5 :: a6 :: a7 :: a8 :: a9 :: a10 :: a11 :: some d :: r) M k := z_var rfl h
theorem zg12 {a0 a1 a2 a3 a4 a5 a6 a7 a8 a9 a10 a11 : Option D} {a : Option D} (h : kg (a0 :: a1 :: a2 :: a3 :: a4 :: a5 :: a6 :: a7 :: a8 :: a9 :: a10 :: a11 :: some d :: r) M) : ZG c (gName 12) d (a0 :: a1 :: a2 :: a3 :: a4 :: a5 :: a6 :: a7 :: a8 :: a9 :: a10 :: a11 :: a :: r) M kg := zg_name h
theorem zv13 {a0 a1 a2 a3 a4 a5 a6 a7 a8 a9 a10 a11 a12 : Option D} (h : k d M) : ZE c (tVar 13) (a0 :: a1 :: a2 :: a3 :: a4 :: a5 :: a6 :: a7 :: a8 :: a9 :: a10 :: a11 :: a12 :: some d :: r) M k := z_var rfl h
theorem zg13 {a0 a1 a2 a3 a4 a5 a6 a7 a8 a9 a10 a11 a12 : Option D} {a : Option D} (h : kg (a0 :: a1 :: a2 :: a3 :: a4 :: a5 :: a6 :: a7 :: a8 :: a9 :: a10 :: a11 :: a12 :: some d :: r) M) : ZG c (gName 13) d (a0 :: a1 :: a2 :: a3 :: a4 :: a5 :: a6 :: a7 :: a8 :: a9 :: a10 :: a11 :: a12 :: a :: r) M kg := zg_name h
theorem zv14 {a0 a1 a2 a3 a4 a5 a6 a7 a8 a9 a10 a11 a12 a13 : Option D} (h : k d M) : ZE c (tVar 14) (a0 :: a1 :: a2 :: a3 :: a4 :: a5 :: a6 :: a7 :: a8 :: a9 :: a10 :: a11 :: a12 :: a13 :: some d :: r) M k := z_var rfl h
theorem zg14 {a0 a1 a2 a3 a4 a5 a6 a7 a8 a9 a10 a11 a12 a13 : Option D} {a : Option D} (h : kg (a0 :: a1 :: a2 :: a3 :: a4 :: a5 :: a6 :: a7 :: a8 :: a9 :: a10 :: a11 :: a12 :: a13 :: some d :: r) M) : ZG c (gName 14) d (a0 :: a1 :: a2 :: a3 :: a4 :: a5 :: a6 :: a7 :: a8 :: a9 :: a10 :: a11 :: a12 :: a13 :: a :: r) M kg := zg_name h
theorem zv15 {a0 a1 a2 a3 a4 a5 a6 a7 a8 a9 a10 a11 a12 a13 a14 : Option D} (h : k d M) : ZE c (tVar 15) (a0 :: a1 :: a2 :: a3 :: a4 :: a5 :: a6 :: a7 :: a8 :: a9 :: a10 :: a11 :: a12 :: a13 :: a14 :: some d :: r) M k := z_var rfl h
theorem zg15 {a0 a1 a2 a3 a4 a5 a6 a7 a8 a9 a10 a11 a12 a13 a14 : Option D} {a : Option D} (h : kg (a0 :: a1 :: a2 :: a3 :: a4 :: a5 :: a6 :: a7 :: a8 :: a9 :: a10 :: a11 :: a12 :: a13 :: a14 :: some d :: r) M) : ZG c (gName 15) d (a0 :: a1 :: a2 :: a3 :: a4 :: a5 :: a6 :: a7 :: a8 :: a9 :: a10 :: a11 :: a12 :: a13 :: a14 :: a :: r) M kg := zg_name h
theorem zv16 {a0 a1 a2 a3 a4 a5 a6 a7 a8 a9 a10 a11 a12 a13 a14 a15 : Option D} (h : k d M) : ZE c (tVar 16) (a0 :: a1 :: a2 :: a3 :: a4 :: a5 :: a6 :: a7 :: a8 :: a9 :: a10 :: a11 :: a12 :: a13 :: a14 :: a15 :: some d :: r) M k := z_var rfl h
theorem zg16 {a0 a1 a2 a3 a4 a5 a6 a7 a8 a9 a10 a11 a12 a13 a14 a15 : Option D} {a : Option D} (h : kg (a0 :: a1 :: a2 :: a3 :: a4 :: a5 :: a6 :: a7 :: a8 :: a9 :: a10 :: a11 :: a12 :: a13 :: a14 :: a15 :: some d :: r) M) : ZG c (gName 16) d (a0 :: a1 :: a2 :: a3 :: a4 :: a5 :: a6 :: a7 :: a8 :: a9 :: a10 :: a11 :: a12 :: a13 :: a14 :: a15 :: a :: r) M kg := zg_name h
theorem zv17 {a0 a1 a2 a3 a4 a5 a6 a7 a8 a9 a10 a11 a12 a13 a14 a15 a16 : Option D} (h : k d M) : ZE c (tVar 17) (a0 :: a1 :: a2 :: a3 :: a4 :: a5 :: a6 :: a7 :: a8 :: a9 :: a10 :: a11 :: a12 :: a13 :: a14 :: a15 :: a16 :: some d :: r) M k := z_var rfl h
theorem zg17 {a0 a1 a2 a3 a4 a5 a6 a7 a8 a9 a10 a11 a12 a13 a14 a15 a16 : Option D} {a : Option D} (h : kg (a0 :: a1 :: a2 :: a3 :: a4 :: a5 :: a6 :: a7 :: a8 :: a9 :: a10 :: a11 :: a12 :: a13 :: a14 :: a15 :: a16 :: some d :: r) M) : ZG c (gName 17) d (a0 :: a1 :: a2 :: a3 :: a4 :: a5 :: a6 :: a7 :: a8 :: a9 :: a10 :: a11 :: a12 :: a13 :: a14 :: a15 :: a16 :: a :: r) M kg := zg_name h
theorem zv18 {a0 a1 a2 a3 a4 a5 a6 a7 a8 a9 a10 a11 a12 a13 a14 a15 a16 a17 : Option D} (h : k d M) : ZE c (tVar 18) (a0 :: a1 :: a2 :: a3 :: a4 :: a5 :: a6 :: a7 :: a8 :: a9 :: a10 :: a11 :: a12 :: a13 :: a14 :: a15 :: a16 :: a17 :: some d :: r) M k := z_var rfl h
theorem zg18 {a0 a1 a2 a3 a4 a5 a6 a7 a8 a9 a10 a11 a12 a13 a14 a15 a16 a17 : Option D} {a : Option D} (h : kg (a0 :: a1 :: a2 :: a3 :: a4 :: a5 :: a6 :: a7 :: a8 :: a9 :: a10 :: a11 :: a12 :: a13 :: a14 :: a15 :: a16 :: a17 :: some d :: r) M) : ZG c (gName 18) d (a0 :: a1 :: a2 :: a3 :: a4 :: a5 :: a6 :: a7 :: a8 :: a9 :: a10 :: a11 :: a12 :: a13 :: a14 :: a15 :: a16 :: a17 :: a :: r) M kg := zg_name h
theorem zv19 {a0 a1 a2 a3 a4 a5 a6 a7 a8 a9 a10 a11 a12 a13 a14 a15 a16 a17 a18 : Option D} (h : k d M) : ZE c (tVar 19) (a0 :: a1 :: a2 :: a3 :: a4 :: a5 :: a6 :: a7 :: a8 :: a9 :: a10 :: a11 :: a12 :: a13 :: a14 :: a15 :: a16 :: a17 :: a18 :: some d :: r) M k := z_var rfl h
theorem zg19 {a0 a1 a2 a3 a4 a5 a6 a7 a8 a9 a10 a11 a12 a13 a14 a15 a16 a17 a18 : Option D} {a : Option D} (h : kg (a0 :: a1 :: a2 :: a3 :: a4 :: a5 :: a6 :: a7 :: a8 :: a9 :: a10 :: a11 :: a12 :: a13 :: a14 :: a15 :: a16 :: a17 :: a18 :: some d :: r) M) : ZG c (gName 19) d (a0 :: a1 :: a2 :: a3 :: a4 :: a5 :: a6 :: a7 :: a8 :: a9 :: a10 :: a11 :: a12 :: a13 :: a14 :: a15 :: a16 :: a17 :: a18 :: a :: r) M kg := zg_name h
theorem zv20 {a0 a1 a2 a3 a4 a5 a6 a7 a8 a9 a10 a11 a12 a13 a14 a15 a16 a17 a18 a19 : Option D} (h : k d M) : ZE c (tVar 20) (a0 :: a1 :: a2 :: a3 :: a4 :: a5 :: a6 :: a7 :: a8 :: a9 :: a10 :: a11 :: a12 :: a13 :: a14 :: a15 :: a16 :: a17 :: a18 :: a19 :: some d :: r) M k := z_var rfl h
theorem zg20 {a0 a1 a2 a3 a4 a5 a6 a7 a8 a9 a10 a11 a12 a13 a14 a15 a16 a17 a18 a19 : Option D} {a : Option D} (h : kg (a0 :: a1 :: a2 :: a3 :: a4 :: a5 :: a6 :: a7 :: a8 :: a9 :: a10 :: a11 :: a12 :: a13 :: a14 :: a15 :: a16 :: a17 :: a18 :: a19 :: some d :: r) M) : ZG c (gName 20) d (a0 :: a1 :: a2 :: a3 :: a4 :: a5 :: a6 :: a7 :: a8 :: a9 :: a10 :: a11 :: a12 :: a13 :: a14 :: a15 :: a16 :: a17 :: a18 :: a19 :: a :: r) M kg := zg_name h
theorem zv21 {a0 a1 a2 a3 a4 a5 a6 a7 a8 a9 a10 a11 a12 a13 a14 a15 a16 a17 a18 a19 a20 : Option D} (h : k d M) : ZE c (tVar 21) (a0 :: a1 :: a2 :: a3 :: a4 :: a5 :: a6 :: a7 :: a8 :: a9 :: a10 :: a11 :: a12 :: a13 :: a14 :: a15 :: a16 :: a17 :: a18 :: a19 :: a20 :: some d :: r) M k := z_var rfl h
theorem zg21 {a0 a1 a2 a3 a4 a5 a6 a7 a8 a9 a10 a11 a12 a13 a14 a15 a16 a17 a18 a19 a20 : Option D} {a : Option D} (h : kg (a0 :: a1 :: a2 :: a3 :: a4 :: a5 :: a6 :: a7 :: a8 :: a9 :: a10 :: a11 :: a12 :: a13 :: a14 :: a15 :: a16 :: a17 :: a18 :: a19 :: a20 :: some d :: r) M) : ZG c (gName 21) d (a0 :: a1 :: a2 :: a3 :: a4 :: a5 :: a6 :: a7 :: a8 :: a9 :: a10 :: a11 :: a12 :: a13 :: a14 :: a15 :: a16 :: a17 :: a18 :: a19 :: a20 :: a :: r) M kg := zg_name h
theorem zv22 {a0 a1 a2 a3 a4 a5 a6 a7 a8 a9 a10 a11 a12 a13 a14 a15 a16 a17 a18 a19 a20 a21 : Option D} (h : k d M) : ZE c (tVar 22) (a0 :: a1 :: a2 :: a3 :: a4 :: a5 :: a6 :: a7 :: a8 :: a9 :: a10 :: a11 :: a12 :: a13 :: a14 :: a15 :: a16 :: a17 :: a18 :: a19 :: a20 :: a21 :: some d :: r) M k := z_var rfl h
theorem zg22 {a0 a1 a2 a3 a4 a5 a6 a7 a8 a9 a10 a11 a12 a13 a14 a15 a16 a17 a18 a19 a20 a21 : Option D} {a : Option D} (h : kg (a0 :: a1 :: a2 :: a3 :: a4 :: a5 :: a6 :: a7 :: a8 :: a9 :: a10 :: a11 :: a12 :: a13 :: a14 :: a15 :: a16 :: a17 :: a18 :: a19 :: a20 :: a21 :: some d :: r) M) : ZG c (gName 22) d (a0 :: a1 :: a2 :: a3 :: a4 :: a5 :: a6 :: a7 :: a8 :: a9 :: a10 :: a11 :: a12 :: a13 :: a14 :: a15 :: a16 :: a17 :: a18 :: a19 :: a20 :: a21 :: a :: r) M kg := zg_name h
theorem zv23 {a0 a1 a2 a3 a4 a5 a6 a7 a8 a9 a10 a11 a12 a13 a14 a15 a16 a17 a18 a19 a20 a21 a22 : Option D} (h : k d M) : ZE c (tVar 23) (a0 :: a1 :: a2 :: a3 :: a4 :: a5 :: a6 :: a7 :: a8 :: a9 :: a10 :: a11 :: a12 :: a13 :: a14 :: a15 :: a16 :: a17 :: a18 :: a19 :: a20 :: a21 :: a22 :: some d :: r) M k := z_var rfl h
theorem zg23 {a0 a1 a2 a3 a4 a5 a6 a7 a8 a9 a10 a11 a12 a13 a14 a15 a16 a17 a18 a19 a20 a21 a22 : Option D} {a : Option D} (h : kg (a0 :: a1 :: a2 :: a3 :: a4 :: a5 :: a6 :: a7 :: a8 :: a9 :: a10 :: a11 :: a12 :: a13 :: a14 :: a15 :: a16 :: a17 :: a18 :: a19 :: a20 :: a21 :: a22 :: some d :: r) M) : ZG c (gName 23) d (a0 :: a1 :: a2 :: a3 :: a4 :: a5 :: a6 :: a7 :: a8 :: a9 :: a10 :: a11 :: a12 :: a13 :: a14 :: a15 :: a16 :: a17 :: a18 :: a19 :: a20 :: a21 :: a22 :: a :: r) M kg := zg_name h
theorem zv24 {a0 a1 a2 a3 a4 a5 a6 a7 a8 a9 a10 a11 a12 a13 a14 a15 a16 a17 a18 a19 a20 a21 a22 a23 : Option D} (h : k d M) : ZE c (tVar 24) (a0 :: a1 :: a2 :: a3 :: a4 :: a5 :: a6 :: a7 :: a8 :: a9 :: a10 :: a11 :: a12 :: a13 :: a14 :: a15 :: a16 :: a17 :: a18 :: a19 :: a20 :: a21 :: a22 :: a23 :: some d :: r) M k := z_var rfl h
theorem zg24 {a0 a1 a2 a3 a4 a5 a6 a7 a8 a9 a10 a11 a12 a13 a14 a15 a16 a17 a18 a19 a20 a21 a22 a23 : Option D} {a : Option D} (h : kg (a0 :: a1 :: a2 :: a3 :: a4 :: a5 :: a6 :: a7 :: a8 :: a9 :: a10 :: a11 :: a12 :: a13 :: a14 :: a15 :: a16 :: a17 :: a18 :: a19 :: a20 :: a21 :: a22 :: a23 :: some d :: r) M) : ZG c (gName 24) d (a0 :: a1 :: a2 :: a3 :: a4 :: a5 :: a6 :: a7 :: a8 :: a9 :: a10 :: a11 :: a12 :: a13 :: a14 :: a15 :: a16 :: a17 :: a18 :: a19 :: a20 :: a21 :: a22 :: a23 :: a :: r) M kg := zg_name h
theorem zv25 {a0 a1 a2 a3 a4 a5 a6 a7 a8 a9 a10 a11 a12 a13 a14 a15 a16 a17 a18 a19 a20 a21 a22 a23 a24 : Option D} (h : k d M) : ZE c (tVar 25) (a0 :: a1 :: a2 :: a3 :: a4 :: a5 :: a6 :: a7 :: a8 :: a9 :: a10 :: a11 :: a12 :: a13 :: a14 :: a15 :: a16 :: a17 :: a18 :: a19 :: a20 :: a21 :: a22 :: a23 :: a24 :: some d :: r) M k := z_var rfl h
theorem zg25 {a0 a1 a2 a3 a4 a5 a6 a7 a8 a9 a10 a11 a12 a13 a14 a15 a16 a17 a18 a19 a20 a21 a22 a23 a24 : Option D} {a : Option D} (h : kg (a0 :: a1 :: a2 :: a3 :: a4 :: a5 :: a6 :: a7 :: a8 :: a9 :: a10 :: a11 :: a12 :: a13 :: a14 :: a15 :: a16 :: a17 :: a18 :: a19 :: a20 :: a21 :: a22 :: a23 :: a24 :: some d :: r) M) : ZG c (gName 25) d (a0 :: a1 :: a2 :: a3 :: a4 :: a5 :: a6 :: a7 :: a8 :: a9 :: a10 :: a11 :: a12 :: a13 :: a14 :: a15 :: a16 :: a17 :: a18 :: a19 :: a20 :: a21 :: a22 :: a23 :: a24 :: a :: r) M kg := zg_name h
theorem zv26 {a0 a1 a2 a3 a4 a5 a6 a7 a8 a9 a10 a11 a12 a13 a14 a15 a16 a17 a18 a19 a20 a21 a22 a23 a24 a25 : Option D} (h : k d M) : ZE c (tVar 26) (a0 :: a1 :: a2 :: a3 :: a4 :: a5 :: a6 :: a7 :: a8 :: a9 :: a10 :: a11 :: a12 :: a13 :: a14 :: a15 :: a16 :: a17 :: a18 :: a19 :: a20 :: a21 :: a22 :: a23 :: a24 :: a25 :: some d :: r) M k := z_var rfl h
theorem zg26 {a0 a1 a2 a3 a4 a5 a6 a7 a8 a9 a10 a11 a12 a13 a14 a15 a16 a17 a18 a19 a20 a21 a22 a23 a24 a25 : Option D} {a : Option D} (h : kg (a0 :: a1 :: a2 :: a3 :: a4 :: a5 :: a6 :: a7 :: a8 :: a9 :: a10 :: a11 :: a12 :: a13 :: a14 :: a15 :: a16 :: a17 :: a18 :: a19 :: a20 :: a21 :: a22 :: a23 :: a24 :: a25 :: some d :: r) M) : ZG c (gName 26) d (a0 :: a1 :: a2 :: a3 :: a4 :: a5 :: a6 :: a7 :: a8 :: a9 :: a10 :: a11 :: a12 :: a13 :: a14 :: a15 :: a16 :: a17 :: a18 :: a19 :: a20 :: a21 :: a22 :: a23 :: a24 :: a25 :: a :: r) M kg := zg_name h
theorem zv27 {a0 a1 a2 a3 a4 a5 a6 a7 a8 a9 a10 a11 a12 a13 a14 a15 a16 a17 a18 a19 a20 a21 a22 a23 a24 a25 a26 : Option D} (h : k d M) : ZE c (tVar 27) (a0 :: a1 :: a2 :: a3 :: a4 :: a5 :: a6 :: a7 :: a8 :: a9 :: a10 :: a11 :: a12 :: a13 :: a14 :: a15 :: a16 :: a17 :: a18 :: a19 :: a20 :: a21 :: a22 :: a23 :: a24 :: a25 :: a26 :: some d :: r) M k := z_var rfl h
theorem zg27 {a0 a1 a2 a3 a4 a5 a6 a7 a8 a9 a10 a11 a12 a13 a14 a15 a16 a17 a18 a19 a20 a21 a22 a23 a24 a25 a26 : Option D} {a : Option D} (h : kg (a0 :: a1 :: a2 :: a3 :: a4 :: a5 :: a6 :: a7 :: a8 :: a9 :: a10 :: a11 :: a12 :: a13 :: a14 :: a15 :: a16 :: a17 :: a18 :: a19 :: a20 :: a21 :: a22 :: a23 :: a24 :: a25 :: a26 :: some d :: r) M) : ZG c (gName 27) d (a0 :: a1 :: a2 :: a3 :: a4 :: a5 :: a6 :: a7 :: a8 :: a9 :: a10 :: a11 :: a12 :: a13 :: a14 :: a15 :: a16 :: a17 :: a18 :: a19 :: a20 :: a21 :: a22 :: a23 :: a24 :: a25 :: a26 :: a :: r) M kg := zg_name h
theorem zv28 {a0 a1 a2 a3 a4 a5 a6 a7 a8 a9 a10 a11 a12 a13 a14 a15 a16 a17 a18 a19 a20 a21 a22 a23 a24 a25 a26 a27 : Option D} (h : k d M) : ZE c (tVar 28) (a0 :: a1 :: a2 :: a3 :: a4 :: a5 :: a6 :: a7 :: a8 :: a9 :: a10 :: a11 :: a12 :: a13 :: a14 :: a15 :: a16 :: a17 :: a18 :: a19 :: a20 :: a21 :: a22 :: a23 :: a24 :: a25 :: a26 :: a27 :: some d :: r) M k := z_var rfl h
theorem zg28 {a0 a1 a2 a3 a4 a5 a6 a7 a8 a9 a10 a11 a12 a13 a14 a15 a16 a17 a18 a19 a20 a21 a22 a23 a24 a25 a26 a27 : Option D} {a : Option D} (h : kg (a0 :: a1 :: a2 :: a3 :: a4 :: a5 :: a6 :: a7 :: a8 :: a9 :: a10 :: a11 :: a12 :: a13 :: a14 :: a15 :: a16 :: a17 :: a18 :: a19 :: a20 :: a21 :: a22 :: a23 :: a24 :: a25 :: a26 :: a27 :: some d :: r) M) : ZG c (gName 28) d (a0 :: a1 :: a2 :: a3 :: a4 :: a5 :: a6 :: a7 :: a8 :: a9 :: a10 :: a11 :: a12 :: a13 :: a14 :: a15 :: a16 :: a17 :: a18 :: a19 :: a20 :: a21 :: a22 :: a23 :: a24 :: a25 :: a26 :: a27 :: a :: r) M kg := zg_name h
theorem zv29 {a0 a1 a2 a3 a4 a5 a6 a7 a8 a9 a10 a11 a12 a13 a14 a15 a16 a17 a18 a19 a20 a21 a22 a23 a24 a25 a26 a27 a28 : Option D} (h : k d M) : ZE c (tVar 29) (a0 :: a1 :: a2 :: a3 :: a4 :: a5 :: a6 :: a7 :: a8 :: a9 :: a10 :: a11 :: a12 :: a13 :: a14 :: a15 :: a16 :: a17 :: a18 :: a19 :: a20 :: a21 :: a22 :: a23 :: a24 :: a25 :: a26 :: a27 :: a28 :: some d :: r) M k := z_var rfl h
theorem zg29 {a0 a1 a2 a3 a4 a5 a6 a7 a8 a9 a10 a11 a12 a13 a14 a15 a16 a17 a18 a19 a20 a21 a22 a23 a24 a25 a26 a27 a28 : Option D} {a : Option D} (h : kg (a0 :: a1 :: a2 :: a3 :: a4 :: a5 :: a6 :: a7 :: a8 :: a9 :: a10 :: a11 :: a12 :: a13 :: a14 :: a15 :: a16 :: a17 :: a18 :: a19 :: a20 :: a21 :: a22 :: a23 :: a24 :: a25 :: a26 :: a27 :: a28 :: some d :: r) M) : ZG c (gName 29) d (a0 :: a1 :: a2 :: a3 :: a4 :: a5 :: a6 :: a7 :: a8 :: a9 :: a10 :: a11 :: a12 :: a13 :: a14 :: a15 :: a16 :: a17 :: a18 :: a19 :: a20 :: a21 :: a22 :: a23 :: a24 :: a25 :: a26 :: a27 :: a28 :: a :: r) M kg := zg_name h
end
end Z
set_option Elab.async false
set_option linter.all false
set_option maxRecDepth 100000
set_option maxHeartbeats 4000000
/-! YBase: the walk against a mirror: h says that the mirror's rest gives out. -/
namespace Z
open PySem PySem.Spec PyProof.Rows L2
/-! ### peeling -/
theorem ob {α β : Type} {m : Option α} {f : α → Option β} {o : β} {P : Prop} (h : m.bind f = some o) (k : ∀ v, m = some v → f v = some o → P) : P := by
  obtain ⟨v, h1, h2⟩ := Option.bind_eq_some_iff.mp h
  exact k v h1 h2
theorem obp {α β γ : Type} {m : Option (α × β)} {f : α → β → Option γ} {o : γ} {P : Prop} (h : bp m f = some o) (k : ∀ a b, m = some (a, b) → f a b = some o → P) : P := by
  unfold bp at h
  obtain ⟨⟨a, b⟩, h1, h2⟩ := Option.bind_eq_some_iff.mp h
  exact k a b h1 h2
theorem obp3 {α β δ γ : Type} {m : Option (α × β × δ)} {f : α → β × δ → Option γ} {o : γ} {P : Prop} (h : bp m f = some o) (k : ∀ a b c, m = some (a, b, c) → f a (b, c) = some o → P) : P := by
  unfold bp at h
  obtain ⟨⟨a, b, c⟩, h1, h2⟩ := Option.bind_eq_some_iff.mp h
  exact k a b c h1 h2
theorem ifT {α : Type} {b : Bool} {x y : α} {o : α} (hb : b = true) (h : (if b = true then x else y) = o) : x = o := by rw [if_pos hb] at h; exact h
theorem ifF {α : Type} {b : Bool} {x y : α} {o : α} (hb : b = false) (h : (if b = true then x else y) = o) : y = o := by rw [hb] at h; exact h
theorem nT {b : Bool} (h : (!b) = true) : b = false := by cases b <;> simp_all
theorem nF {b : Bool} (h : (!b) = false) : b = true := by cases b <;> simp_all
/-! ### what a slot's datum stands for -/
inductive View (M : Mem) : D → D → Prop
  | eq {d : D} : View M d d
  | «at» {a : Addr} {ds : List D} (i : Nat) (h : M[i]? = some (a, .lst ds)) : View M (.at a) (.lst ds)
section
variable {M : Mem} {dx x dy y : D} {ds : List D}
theorem View.int {i : Int} (v : View M dx (.int i)) : dx = .int i := by cases v; rfl
theorem View.bl {i : Bool} (v : View M dx (.bl i)) : dx = .bl i := by cases v; rfl
theorem View.str {i : Str} (v : View M dx (.str i)) : dx = .str i := by cases v; rfl
theorem View.tup {i : List D} (v : View M dx (.tup i)) : dx = .tup i := by cases v; rfl
theorem View.scr {i : List D} (v : View M dx (.scr i)) : dx = .scr i := by cases v; rfl
theorem View.lstSt (v : View M dx (.lst ds)) : St M dx ds := by
  cases v with
  | eq => exact .lst
  | «at» i h => exact .at i h
theorem View.sq (v : View M dx x) (h : items x = some ds) : Sq M dx ds := by
  cases v with
  | eq =>
    cases dx <;> cases h
    · exact .tup
    · exact .lst
    · exact .scr
  | «at» i h2 => cases h; exact .at i h2
theorem View.sl (v : View M dx x) (h : itemsL x = some ds) : Sl M dx ds := by
  cases v with
  | eq =>
    cases dx <;> cases h
    · exact .lst
    · exact .scr
  | «at» i h2 => cases h; exact .at i h2
theorem View.non (v : View M dx x) : isNon dx = isNon x := by
  cases v <;> rfl
end
variable {c : Cz}
section
variable {M : Mem} {k : D → Mem → Prop} {dx x dy y z : D} {ds : List D} {b : Bool} {lo hi : Option Int}
/-! ### operators -/
theorem y_add (vx : View M dx x) (vy : View M dy y) (h : dAdd x y = some z) (hk : k z M) : ZR c (rAddZ c.K) dx dy M k := by
  unfold dAdd at h
  split at h
  · rw [vx.int, vy.int]; cases h; exact zr_addI hk
  · obtain ⟨h1, rfl⟩ := gd_some h
    rw [vx.tup, vy.tup]; exact zr_addT (of_decide_eq_true h1) hk
  · obtain ⟨h1, rfl⟩ := gd_some h
    exact zr_addL vx.lstSt vy.lstSt (of_decide_eq_true h1) hk
  · obtain ⟨h1, rfl⟩ := gd_some h
    rw [vx.str, vy.str]; exact zr_addS (of_decide_eq_true h1) hk
  · cases h
theorem y_sub (vx : View M dx x) (vy : View M dy y) (h : dSub x y = some z) (hk : k z M) : ZR c rSubZ dx dy M k := by
  unfold dSub at h
  split at h
  · rw [vx.int, vy.int]; cases h; exact zr_sub hk
  · cases h
theorem y_mul (vx : View M dx x) (vy : View M dy y) (h : dMul x y = some z) (hk : k z M) : ZR c rMulZ dx dy M k := by
  unfold dMul at h
  split at h
  · obtain ⟨h1, rfl⟩ := gd_some h
    rw [vx.int, vy.int]; exact zr_mulI (mulB_ok h1) hk
  · obtain ⟨h1, rfl⟩ := gd_some h
    unfold repB at h1
    rw [Bool.and_eq_true, Bool.and_eq_true] at h1
    rw [vy.int]; exact zr_repL vx.lstSt (of_decide_eq_true h1.1.1) (of_decide_eq_true h1.1.2) (of_decide_eq_true h1.2) hk
  · cases h
theorem y_mod (vx : View M dx x) (vy : View M dy y) (h : dMod x y = some z) (hk : k z M) : ZR c rModZ dx dy M k := by
  unfold dMod at h
  split at h
  · obtain ⟨h1, rfl⟩ := gd_some h
    rw [vx.int, vy.int]; exact zr_mod (of_decide_eq_true h1) hk
  · cases h
theorem y_div (vx : View M dx x) (vy : View M dy y) (h : dDiv x y = some z) (hk : k z M) : ZR c rDivZ dx dy M k := by
  unfold dDiv at h
  split at h
  · obtain ⟨h1, rfl⟩ := gd_some h
    rw [vx.int, vy.int]; exact zr_div (divB_ok h1) hk
  · cases h
theorem y_pow (vx : View M dx x) (vy : View M dy y) (h : dPow x y = some z) (hk : k z M) : ZR c rPowZ dx dy M k := by
  unfold dPow at h
  split at h
  · obtain ⟨h1, rfl⟩ := gd_some h
    rw [vx.int, vy.int]; exact zr_pow (powB_ok h1) hk
  · cases h
theorem y_neg (vx : View M dx x) (h : dNeg x = some z) (hk : k z M) : ZU c uNegZ dx M k := by
  unfold dNeg at h
  split at h
  · rw [vx.int]; cases h; exact zu_neg hk
  · cases h
theorem y_lt (vx : View M dx x) (vy : View M dy y) (h : bLt x y = some b) (hk : k (.bl b) M) : ZR c rLtZ dx dy M k := by
  unfold bLt at h
  split at h
  · rw [vx.int, vy.int]; cases h; exact zr_lt hk
  · cases h
theorem y_le (vx : View M dx x) (vy : View M dy y) (h : bLe x y = some b) (hk : k (.bl b) M) : ZR c rLeZ dx dy M k := by
  unfold bLe at h
  split at h
  · rw [vx.int, vy.int]; cases h; exact zr_le hk
  · cases h
theorem y_gt (vx : View M dx x) (vy : View M dy y) (h : bGt x y = some b) (hk : k (.bl b) M) : ZR c rGtZ dx dy M k := by
  unfold bGt at h
  split at h
  · rw [vx.int, vy.int]; cases h; exact zr_gt hk
  · cases h
theorem y_ge (vx : View M dx x) (vy : View M dy y) (h : bGe x y = some b) (hk : k (.bl b) M) : ZR c rGeZ dx dy M k := by
  unfold bGe at h
  split at h
  · rw [vx.int, vy.int]; cases h; exact zr_ge hk
  · cases h
theorem View.pd {p : PyData} (v : View M dx x) (h : toPy x = some p) : Pd M dx p := by
  cases v with
  | eq => exact toPy_pd _ p h
  | «at» i hi =>
    unfold toPy at h
    obtain ⟨q, hq, rfl⟩ := Option.map_eq_some_iff.mp h
    exact .at hi (toPys_pd _ q hq)
theorem eqP_ok (vx : View M dx x) (vy : View M dy y) (h : bEqP x y = some b) : ∃ p q, Pd M dx p ∧ Pd M dy q ∧ SeqAt.shaped p = true ∧ SeqAt.shaped q = true ∧ b = PyData.eqv p q := by
  unfold bEqP at h
  obtain ⟨p, h1, h⟩ := Option.bind_eq_some_iff.mp h
  obtain ⟨q, h2, h⟩ := Option.bind_eq_some_iff.mp h
  split at h
  · rename_i hs
    rw [Bool.and_eq_true] at hs
    cases h
    exact ⟨p, q, vx.pd h1, vy.pd h2, hs.1, hs.2, rfl⟩
  · cases h
theorem y_eq (vx : View M dx x) (vy : View M dy y) (h : bEq x y = some b) (hk : k (.bl b) M) : ZR c (rEqZ c.K) dx dy M k := by
  unfold bEq at h
  split at h
  · rw [vx.int, vy.int]; cases h; exact zr_eqI hk
  · rw [vx.bl, vy.bl]; cases h; exact zr_eqB hk
  · rw [vx.str, vy.str]; cases h; exact zr_eqS hk
  all_goals
    obtain ⟨p, q, h1, h2, h3, h4, rfl⟩ := eqP_ok vx vy h
    exact zr_eqD h1 h2 h3 h4 hk
theorem y_ne (vx : View M dx x) (vy : View M dy y) (h : bNe x y = some b) (hk : k (.bl b) M) : ZR c (rNeZ c.K) dx dy M k := by
  unfold bNe at h
  obtain ⟨b', h', rfl⟩ := Option.map_eq_some_iff.mp h
  clear h
  unfold bEq at h'
  split at h'
  · rw [vx.int, vy.int]; cases h'; exact zr_neI hk
  · rw [vx.bl, vy.bl]; cases h'; exact zr_neB hk
  · rw [vx.str, vy.str]; cases h'; exact zr_neS hk
  all_goals
    obtain ⟨p, q, h1, h2, h3, h4, rfl⟩ := eqP_ok vx vy h'
    exact zr_neD h1 h2 h3 h4 hk
theorem y_isN (vx : View M dx x) (hk : k (.bl (isNon x)) M) : ZR c rIsNZ dx .non M k := zr_isN (by rw [vx.non]; exact hk)
theorem y_notN (vx : View M dx x) (hk : k (.bl (!isNon x)) M) : ZR c rNotNZ dx .non M k := zr_notN (by rw [vx.non]; exact hk)
theorem y_in (vx : View M dx x) (vy : View M dy y) (h : bIn x y = some b) (hk : k (.bl b) M) : ZR c (rInZ c.K) dx dy M k := by
  unfold bIn at h
  split at h
  · obtain ⟨ds, h1, h⟩ := Option.bind_eq_some_iff.mp h
    obtain ⟨ns, h2, h⟩ := Option.bind_eq_some_iff.mp h
    cases h
    rw [vx.int]
    exact zr_inI (by rw [← asInts_eq h2]; exact vy.sq h1) hk
  · cases h
theorem y_notIn (vx : View M dx x) (vy : View M dy y) (h : bIn x y = some b) (hk : k (.bl (!b)) M) : ZR c (rNotInZ c.K) dx dy M k := by
  unfold bIn at h
  split at h
  · obtain ⟨ds, h1, h⟩ := Option.bind_eq_some_iff.mp h
    obtain ⟨ns, h2, h⟩ := Option.bind_eq_some_iff.mp h
    cases h
    rw [vx.int]
    exact zr_notInI (by rw [← asInts_eq h2]; exact vy.sq h1) hk
  · cases h
theorem y_ix (vx : View M dx x) (vy : View M dy y) (h : dIx x y = some z) (hk : k z M) : ZR c (rIxZ c.K) dx dy M k := by
  unfold dIx at h
  split at h
  · rw [vy.int]; exact zr_ix (vx.sq rfl) h hk
  · rw [vy.int]; exact zr_ix (vx.sq rfl) h hk
  · rw [vy.int]; exact zr_ix (vx.sq rfl) h hk
  · rw [vx.str, vy.int]
    split at h
    · rename_i hz
      obtain ⟨n, hn, rfl⟩ := Option.map_eq_some_iff.mp h
      exact zr_ixS hz hn hk
    · cases h
  · cases h
theorem y_slice (vx : View M dx x) (h : dSlice x lo hi = some z) (hk : k z M) : ZSl c (rSlZ c.K) dx lo hi M k := by
  unfold dSlice at h
  split at h
  · rw [vx.tup]; cases h; exact zl_tup hk
  · cases h; exact zl_list (vx.sl rfl) hk
  · cases h; exact zl_list (vx.sl rfl) hk
  · obtain ⟨h1, rfl⟩ := gd_some h
    rw [vx.str]; exact zl_str (of_decide_eq_true h1) hk
  · cases h
theorem zo_some' {te : TE} {Γ : Gm} {k : Option Int → Mem → Prop} (h : ZE c te Γ M fun d M1 => ∃ o, dPart d = some o ∧ k o M1) : ZO c (tPart te) Γ M k := zo_some (h.imp fun d M1 ⟨o, h1, h2⟩ => by
  unfold dPart at h1
  split at h1
  · cases h1; exact ⟨_, rfl, h2⟩
  · cases h1)
theorem y_truD (vx : View M dx x) (h : bTru x = some b) : TruD M dx b := by
  unfold bTru at h
  split at h <;> cases h
  · cases vx; exact .non
  · rw [vx.bl]; exact .bl _
  · rw [vx.int]; exact .int _
  · exact .sq (vx.sq rfl)
  · exact .sq (vx.sq rfl)
  · exact .sq (vx.sq rfl)
theorem dBl_some (h : dBl x = some b) : x = .bl b := by
  unfold dBl at h
  split at h
  · cases h; rfl
  · cases h
/-! ### built-ins -/
theorem y_len (vx : View M dx x) (h : dLen x = some z) (hk : k z M) : ZC c (rLenZ c.K) [dx] M k := by
  unfold dLen at h
  split at h
  · cases h; exact zc_len (vx.sq rfl) hk
  · cases h; exact zc_len (vx.sq rfl) hk
  · cases h; exact zc_len (vx.sq rfl) hk
  · obtain ⟨h1, rfl⟩ := gd_some h
    rw [vx.str]; exact zc_lenS (of_decide_eq_true h1) hk
  · cases h
theorem y_abs (h : dAbs x = some z) (hk : k z M) : ZC c rAbsZ [x] M k := by
  unfold dAbs at h
  split at h
  · cases h; exact zc_abs hk
  · cases h
theorem y_max2 (h : dMax2 x y = some z) (hk : k z M) : ZC c rMax2Z [x, y] M k := by
  unfold dMax2 at h
  split at h
  · cases h; exact zc_max2 hk
  · cases h
theorem y_min2 (h : dMin2 x y = some z) (hk : k z M) : ZC c rMin2Z [x, y] M k := by
  unfold dMin2 at h
  split at h
  · cases h; exact zc_min2 hk
  · cases h
theorem y_gcd (h : dGcd x y = some z) (hk : k z M) : ZC c rGcdZ [x, y] M k := by
  unfold dGcd at h
  split at h
  · cases h; exact zc_gcd hk
  · cases h
theorem y_lcm (h : dLcm x y = some z) (hk : k z M) : ZC c rLcmZ [x, y] M k := by
  unfold dLcm at h
  split at h
  · obtain ⟨h1, rfl⟩ := gd_some h
    unfold lcmB at h1
    rw [Bool.and_eq_true, Bool.and_eq_true] at h1
    exact zc_lcm (of_decide_eq_true h1.1.1) (of_decide_eq_true h1.1.2) (of_decide_eq_true h1.2) hk
  · cases h
theorem y_int (h : dInt x = some z) (hk : k z M) : ZC c rIntZ [x] M k := by
  unfold dInt at h
  split at h
  · cases h; exact zc_int hk
  · cases h; exact zc_intB hk
  · cases h
theorem y_sum (vx : View M dx x) (h : dSum x = some z) (hk : k z M) : ZC c (rSumZ c.K) [dx] M k := by
  unfold dSum at h
  obtain ⟨ds, h1, h⟩ := Option.bind_eq_some_iff.mp h
  obtain ⟨ns, h2, h⟩ := Option.bind_eq_some_iff.mp h
  cases h
  exact zc_sum (by rw [← asInts_eq h2]; exact vx.sl h1) hk
theorem y_all (vx : View M dx x) (h : dAll x = some z) (hk : k z M) : ZC c (rAllZ c.K) [dx] M k := by
  unfold dAll at h
  obtain ⟨ds, h1, h⟩ := Option.bind_eq_some_iff.mp h
  obtain ⟨ns, h2, h⟩ := Option.bind_eq_some_iff.mp h
  cases h
  exact zc_all (by rw [← asBls_eq h2]; exact vx.sl h1) hk
theorem y_any (vx : View M dx x) (h : dAny x = some z) (hk : k z M) : ZC c (rAnyZ c.K) [dx] M k := by
  unfold dAny at h
  obtain ⟨ds, h1, h⟩ := Option.bind_eq_some_iff.mp h
  obtain ⟨ns, h2, h⟩ := Option.bind_eq_some_iff.mp h
  cases h
  exact zc_any (by rw [← asBls_eq h2]; exact vx.sl h1) hk
theorem y_list (vx : View M dx x) (h : dList x = some z) (hk : k z M) : ZC c (rListZ c.K) [dx] M k := by
  unfold dList at h
  obtain ⟨ds, h1, h⟩ := Option.bind_eq_some_iff.mp h
  cases h
  exact zc_list (vx.sq h1) hk
theorem y_tuple (vx : View M dx x) (h : dTuple x = some z) (hk : k z M) : ZC c (rTupZ c.K) [dx] M k := by
  unfold dTuple at h
  obtain ⟨ds, h1, h⟩ := Option.bind_eq_some_iff.mp h
  cases h
  cases vx with
  | eq =>
    cases dx <;> cases h1
    · exact zc_tupleT hk
    · exact zc_tuple .lst hk
    · exact zc_tuple .scr hk
  | «at» i hi => cases h1; exact zc_tuple (.at i hi) hk
theorem y_isi {u : String} (vx : View M dx x) (h : bIsi x u = some b) (hk : k (.bl b) M) : ZC c (rIsiZ c.K) [dx, .ty u] M k := by
  unfold bIsi at h
  obtain ⟨t, h1, h⟩ := Option.bind_eq_some_iff.mp h
  have hk2 := isi_ok (tyD_mem h1) h
  cases vx with
  | eq => exact zc_isi h1 hk2 hk
  | «at» i hi => cases h1; exact zc_isiAt hi hk2 hk
end
/-! ### unpacking, iterators -/
section
variable {Γ : Gm} {M : Mem} {kg : Gm → Mem → Prop} {d a b e : D}
theorem zg_un2 {g1 g2 : TG} (h : un2 d = some (a, b)) (hk : ZG c g1 a Γ M fun Γ1 M1 => ZG c g2 b Γ1 M1 kg) : ZG c (gTup c.K 2 (gCons g1 (gCons g2 gNil))) d Γ M kg := by
  rw [un2_some h]
  exact zg_tup rfl (zgs_cons (fun R F σ H v Q hs L X r q => hk R F σ H v Q hs L X r fun σ' F' H' M' Γ' ee L' hs' h' => q σ' F' H' M' Γ' ee L' hs' (zgs_cons (fun R F σ H v Q hs L X r q => h' R F σ H v Q hs L X r fun σ' F' H' M' Γ' ee L' hs' h' => q σ' F' H' M' Γ' ee L' hs' (zgs_nil h')))))
theorem zg_un3 {g1 g2 g3 : TG} (h : un3 d = some (a, b, e)) (hk : ZG c g1 a Γ M fun Γ1 M1 => ZG c g2 b Γ1 M1 fun Γ2 M2 => ZG c g3 e Γ2 M2 kg) : ZG c (gTup c.K 3 (gCons g1 (gCons g2 (gCons g3 gNil)))) d Γ M kg := by
  rw [un3_some h]
  exact zg_tup rfl (zgs_cons (fun R F σ H v Q hs L X r q => hk R F σ H v Q hs L X r fun σ' F' H' M' Γ' ee L' hs' h' => q σ' F' H' M' Γ' ee L' hs' (zgs_cons (fun R F σ H v Q hs L X r q => h' R F σ H v Q hs L X r fun σ' F' H' M' Γ' ee L' hs' h' => q σ' F' H' M' Γ' ee L' hs' (zgs_cons (fun R F σ H v Q hs L X r q => h' R F σ H v Q hs L X r fun σ' F' H' M' Γ' ee L' hs' h' => q σ' F' H' M' Γ' ee L' hs' (zgs_nil h')))))))
variable {kk : List D → Mem → Prop} {ds : List D}
theorem y_sf (h : itSeq d = some ds) : Sf d ds := by
  unfold itSeq at h
  cases d <;> cases h
  · exact .tup
  · exact .lst
  · exact .scr
theorem rngB_ok {i : Int} (h : rngB i = true) : -(2 ^ 62) ≤ i ∧ i < 2 ^ 62 := by
  unfold rngB at h
  rw [Bool.and_eq_true] at h
  exact ⟨of_decide_eq_true h.1, of_decide_eq_true h.2⟩
theorem zi_rng1' {ta : TA} (h : ZA c ta Γ M fun xs M1 => ∃ d ds, xs = [d] ∧ itRng1 d = some ds ∧ kk ds M1) : ZI c (iRng1 ta) Γ M kk := zi_rng1 (h.imp fun xs M1 ⟨d, ds, e, h1, h2⟩ => by
  subst e
  unfold itRng1 at h1
  split at h1
  · split at h1
    · rename_i hr
      cases h1
      obtain ⟨h3, h4⟩ := rngB_ok hr
      exact ⟨_, rfl, h3, h4, h2⟩
    · cases h1
  · cases h1)
theorem zi_rng2' {ta : TA} (h : ZA c ta Γ M fun xs M1 => ∃ d e ds, xs = [d, e] ∧ itRng2 d e = some ds ∧ kk ds M1) : ZI c (iRng2 ta) Γ M kk := zi_rng2 (h.imp fun xs M1 ⟨d, d', ds, e, h1, h2⟩ => by
  subst e
  unfold itRng2 at h1
  split at h1
  · split at h1
    · rename_i hr
      rw [Bool.and_eq_true] at hr
      cases h1
      exact ⟨_, _, rfl, ⟨(rngB_ok hr.1).1, (rngB_ok hr.1).2, (rngB_ok hr.2).1, (rngB_ok hr.2).2⟩, h2⟩
    · cases h1
  · cases h1)
theorem zi_enum' {ta : TA} (h : ZA c ta Γ M fun xs M1 => ∃ d ds, xs = [d] ∧ itEnum d = some ds ∧ kk ds M1) : ZI c (iEnumZ c.K ta) Γ M kk := zi_enum (h.imp fun xs M1 ⟨d, ds, e, h1, h2⟩ => by
  subst e
  unfold itEnum at h1
  obtain ⟨ys, h3, h1⟩ := Option.bind_eq_some_iff.mp h1
  cases h1
  refine ⟨d, ys, rfl, ?_, h2⟩
  cases d <;> cases h3
  · exact .tup
  · exact .lst
  · exact .scr)
end
/-! ### weakening -/
structure Wk (Γ Γ' : Gm) : Prop where
  len : Γ'.length = Γ.length
  at_ : ∀ (i : Nat) (d : D), Γ'[i]? = some (some d) → Γ[i]? = some (some d)
theorem Wk.rfl {Γ : Gm} : Wk Γ Γ := ⟨Eq.refl _, fun _ _ h => h⟩
theorem Wk.nil : Wk [] [] := .rfl
theorem Wk.keep {Γ Γ' : Gm} {o : Option D} (h : Wk Γ Γ') : Wk (o :: Γ) (o :: Γ') := ⟨by rw [List.length_cons, List.length_cons, h.len], fun i d e => by
  cases i with
  | zero => exact e
  | succ i => rw [List.getElem?_cons_succ] at e ⊢; exact h.at_ i d e⟩
theorem Wk.drop {Γ Γ' : Gm} {o : Option D} (h : Wk Γ Γ') : Wk (o :: Γ) (none :: Γ') := ⟨by rw [List.length_cons, List.length_cons, h.len], fun i d e => by
  cases i with
  | zero => cases e
  | succ i => rw [List.getElem?_cons_succ] at e ⊢; exact h.at_ i d e⟩
theorem Wk.has {K : Fg} {F : Hp} {σ : L2.St} {Γ Γ' : Gm} (w : Wk Γ Γ') (h : Has K F σ Γ) : Has K F σ Γ' := h.weak w.len fun i d e => ⟨d, w.at_ i d e, fun _ r => r⟩
theorem zs_weak {t : TS} {Γ Γ' : Gm} {M : Mem} {DD : ZEnds} (w : Wk Γ Γ') (h : ZS c t Γ' M DD) : ZS c t Γ M DD := fun R F σ H D hs L X q => h R F σ H D (w.has hs) L X q
theorem zg_weak {g : TG} {d : D} {Γ Γ' : Gm} {M : Mem} {k : Gm → Mem → Prop} (w : Wk Γ Γ') (h : ZG c g d Γ' M k) : ZG c g d Γ M k := fun R F σ H v Q hs L X r q => h R F σ H v Q (w.has hs) L X r q
theorem zt_weak {t : TT} {Γ Γ' : Gm} {M : Mem} {k : Bool → Mem → Prop} (w : Wk Γ Γ') (h : ZT c t Γ' M k) : ZT c t Γ M k := fun R F σ H Q hs L X q => h R F σ H Q (w.has hs) L X q
/-! ### joins -/
section
variable {N S R α : Type} {Γ : Gm} {M : Mem} {DD : ZEnds} {t u : TS} {out : α}
structure NxH (Γs : N → Gm) (Ms : N → Mem) (nx : Gm → Mem → Prop) (s : N) : Prop where
  go : ∀ Γ', Wk Γ' (Γs s) → nx Γ' (Ms s)
theorem y_nx {Γs : N → Gm} {Ms : N → Mem} {s s0 : N} {nx nx' : Gm → Mem → Prop} {M : Mem} (h : some s = some s0) (J : NxH Γs Ms nx s0) (w : Wk Γ (Γs s)) (hM : Ms s = M) (hn : nx = nx') : nx' Γ M := by
  cases h; subst hM hn; exact J.go Γ w
theorem y_join (Γs : N → Gm) (Ms : N → Mem) {m1 : Option N} {mr : N → Option α} (h : m1.bind mr = some out)
    (h1 : ∀ s, m1 = some s → ∀ DD' : ZEnds, NxH Γs Ms DD'.nx s → ZS c t Γ M DD') (h2 : ∀ s, mr s = some out → ZS c u (Γs s) (Ms s) DD) : ZS c (tSeq t u) Γ M DD := by
  obtain ⟨s, e1, e2⟩ := Option.bind_eq_some_iff.mp h
  exact zs_seq (h1 s e1 _ ⟨fun Γ' w => zs_weak w (h2 s e2)⟩)
/-- expressions' joins -/
def OrK (c : Cz) (u : TT) (Γ : Gm) (M : Mem) (b : Bool) (k : Bool → Mem → Prop) : Prop := (b = true → k true M) ∧ (b = false → ZT c u Γ M k)
theorem zt_or' {t u : TT} {k : Bool → Mem → Prop} (h : ZT c t Γ M fun b M1 => OrK c u Γ M1 b k) : ZT c (tOr t u) Γ M k := zt_or h
def AndK (c : Cz) (u : TT) (Γ : Gm) (M : Mem) (b : Bool) (k : Bool → Mem → Prop) : Prop := (b = true → ZT c u Γ M k) ∧ (b = false → k false M)
theorem zt_and' {t u : TT} {k : Bool → Mem → Prop} (h : ZT c t Γ M fun b M1 => AndK c u Γ M1 b k) : ZT c (tAnd t u) Γ M k := zt_and h
def OrV (c : Cz) (u : TE) (Γ : Gm) (M : Mem) (b : Bool) (k : D → Mem → Prop) : Prop := (b = true → k (.bl true) M) ∧ (b = false → ZE c u Γ M k)
theorem z_orV' {ta tb : TE} {k : D → Mem → Prop} (h : ZE c ta Γ M fun d M1 => ∃ b, d = .bl b ∧ OrV c tb Γ M1 b k) : ZE c (tOrV ta tb) Γ M k := z_orV h
def AndV (c : Cz) (u : TE) (Γ : Gm) (M : Mem) (b : Bool) (k : D → Mem → Prop) : Prop := (b = true → ZE c u Γ M k) ∧ (b = false → k (.bl false) M)
theorem z_andV' {ta tb : TE} {k : D → Mem → Prop} (h : ZE c ta Γ M fun d M1 => ∃ b, d = .bl b ∧ AndV c tb Γ M1 b k) : ZE c (tAndV ta tb) Γ M k := z_andV h
def IfE (c : Cz) (ta tb : TE) (Γ : Gm) (M : Mem) (b : Bool) (k : D → Mem → Prop) : Prop := (b = true → ZE c ta Γ M k) ∧ (b = false → ZE c tb Γ M k)
theorem z_if' {t : TT} {ta tb : TE} {k : D → Mem → Prop} (h : ZT c t Γ M fun b M1 => IfE c ta tb Γ M1 b k) : ZE c (tIf t ta tb) Γ M k := z_if h
theorem y_ifE {ta tb : TE} {mA mB : Option D} {mr : D → Option α} {b : Bool} {k : D → Mem → Prop} (h : (if b = true then mA else mB).bind mr = some out) (hA : ∀ v, mA = some v → ∀ k' : D → Mem → Prop, k' v M → ZE c ta Γ M k') (hB : ∀ v, mB = some v → ∀ k' : D → Mem → Prop, k' v M → ZE c tb Γ M k')
    (hk : ∀ v, mr v = some out → k v M) : IfE c ta tb Γ M b k := by
  obtain ⟨v, e1, e2⟩ := Option.bind_eq_some_iff.mp h
  exact ⟨fun hb => hA v (ifT hb e1) k (hk v e2), fun hb => hB v (ifF hb e1) k (hk v e2)⟩
theorem y_lf {v v0 : D} {k : D → Mem → Prop} (h : some v = some v0) (hk : k v0 M) : k v M := by cases h; exact hk
theorem y_lfB {v v0 : Bool} {k : Bool → Mem → Prop} (h : some v = some v0) (hk : k v0 M) : k v M := by cases h; exact hk
theorem y_and {tb : TT} {m2 : Option Bool} {mr : Bool → Option α} {b : Bool} {k : Bool → Mem → Prop} (h : (if b = true then m2 else some false).bind mr = some out) (h2 : ∀ v, m2 = some v → ∀ k' : Bool → Mem → Prop, k' v M → ZT c tb Γ M k')
    (hk : ∀ v, mr v = some out → k v M) : AndK c tb Γ M b k := by
  obtain ⟨v, e1, e2⟩ := Option.bind_eq_some_iff.mp h
  exact ⟨fun hb => h2 v (ifT hb e1) k (hk v e2), fun hb => by cases (ifF hb e1); exact hk _ e2⟩
theorem y_or {tb : TT} {m2 : Option Bool} {mr : Bool → Option α} {b : Bool} {k : Bool → Mem → Prop} (h : (if b = true then some true else m2).bind mr = some out) (h2 : ∀ v, m2 = some v → ∀ k' : Bool → Mem → Prop, k' v M → ZT c tb Γ M k')
    (hk : ∀ v, mr v = some out → k v M) : OrK c tb Γ M b k := by
  obtain ⟨v, e1, e2⟩ := Option.bind_eq_some_iff.mp h
  exact ⟨fun hb => by cases (ifT hb e1); exact hk _ e2, fun hb => h2 v (ifF hb e1) k (hk v e2)⟩
theorem y_andX {tb : TT} (Ms : S → Mem) {m2 : Option (Bool × S)} {mr : Bool → S → Option α} {b : Bool} {s : S} {k : Bool → Mem → Prop} (h : bp (if b = true then m2 else some (false, s)) mr = some out) (h2 : ∀ v s', m2 = some (v, s') → ∀ k' : Bool → Mem → Prop, k' v (Ms s') → ZT c tb Γ (Ms s) k')
    (hM : Ms s = M) (hk : ∀ v s', mr v s' = some out → k v (Ms s')) : AndK c tb Γ M b k := by
  subst hM
  unfold bp at h
  obtain ⟨⟨v, s'⟩, e1, e2⟩ := Option.bind_eq_some_iff.mp h
  exact ⟨fun hb => h2 v s' (ifT hb e1) k (hk v s' e2), fun hb => by cases (ifF hb e1); exact hk _ _ e2⟩
theorem y_orX {tb : TT} (Ms : S → Mem) {m2 : Option (Bool × S)} {mr : Bool → S → Option α} {b : Bool} {s : S} {k : Bool → Mem → Prop} (h : bp (if b = true then some (true, s) else m2) mr = some out) (h2 : ∀ v s', m2 = some (v, s') → ∀ k' : Bool → Mem → Prop, k' v (Ms s') → ZT c tb Γ (Ms s) k')
    (hM : Ms s = M) (hk : ∀ v s', mr v s' = some out → k v (Ms s')) : OrK c tb Γ M b k := by
  subst hM
  unfold bp at h
  obtain ⟨⟨v, s'⟩, e1, e2⟩ := Option.bind_eq_some_iff.mp h
  exact ⟨fun hb => by cases (ifT hb e1); exact hk _ _ e2, fun hb => h2 v s' (ifF hb e1) k (hk v s' e2)⟩
theorem y_lfX {Ms : S → Mem} {v v0 : Bool} {s s0 : S} {k : Bool → Mem → Prop} (h : some (v, s) = some (v0, s0)) (hk : k v0 (Ms s0)) (hM : Ms s = M) : k v M := by cases h; subst hM; exact hk
theorem y_lfXD {Ms : S → Mem} {v v0 : D} {s s0 : S} {k : D → Mem → Prop} (h : some (v, s) = some (v0, s0)) (hk : k v0 (Ms s0)) (hM : Ms s = M) : k v M := by cases h; subst hM; exact hk
theorem y_andV {tb : TE} {m2 : Option D} {mr : D → Option α} {b : Bool} {k : D → Mem → Prop} (h : (if b = true then m2 else some (.bl false)).bind mr = some out) (h2 : ∀ v, m2 = some v → ∀ k' : D → Mem → Prop, k' v M → ZE c tb Γ M k')
    (hk : ∀ v, mr v = some out → k v M) : AndV c tb Γ M b k := by
  obtain ⟨v, e1, e2⟩ := Option.bind_eq_some_iff.mp h
  exact ⟨fun hb => h2 v (ifT hb e1) k (hk v e2), fun hb => by cases (ifF hb e1); exact hk _ e2⟩
theorem y_orV {tb : TE} {m2 : Option D} {mr : D → Option α} {b : Bool} {k : D → Mem → Prop} (h : (if b = true then some (.bl true) else m2).bind mr = some out) (h2 : ∀ v, m2 = some v → ∀ k' : D → Mem → Prop, k' v M → ZE c tb Γ M k')
    (hk : ∀ v, mr v = some out → k v M) : OrV c tb Γ M b k := by
  obtain ⟨v, e1, e2⟩ := Option.bind_eq_some_iff.mp h
  exact ⟨fun hb => by cases (ifT hb e1); exact hk _ e2, fun hb => h2 v (ifF hb e1) k (hk v e2)⟩
end
/-! ### loops -/
section
variable {S R α : Type} {Γ : Gm} {M : Mem} {DD : ZEnds} {u tb : TS} {g : TG} {out : α} {ds : List D}
theorem drop_cons {α : Type} {l : List α} {i : Nat} {d : α} (h : l[i]? = some d) : l.drop i = d :: l.drop (i + 1) := by
  obtain ⟨hi, e⟩ := List.getElem?_eq_some_iff.mp h
  rw [List.drop_eq_getElem_cons hi, e]
/-- a loop that only steps -/
theorem y_forO (Γs : S → Gm) (Ms : S → Mem) {f : S → D → Option S} {s0 : S} {mr : S → Option α} (h : (foldO f ds s0).bind mr = some out) (w : Wk Γ (Γs s0))
    (hb : ∀ s d s', f s d = some s' → ∀ DD' : ZEnds, NxH Γs Ms DD'.nx s' → ZG c g d (Γs s) (Ms s) fun Γ2 M2 => ZS c tb Γ2 M2 DD')
    (h2 : ∀ s, mr s = some out → ZS c u (Γs s) (Ms s) DD) (hM : Ms s0 = M) : ForK c g tb Γ { DD with nx := fun Γ' M' => ZS c u Γ' M' DD } ds M := by
  subst hM
  obtain ⟨se, e1, e2⟩ := Option.bind_eq_some_iff.mp h
  refine ⟨fun i Γ' M' => ∃ s, foldO f (ds.drop i) s = some se ∧ Wk Γ' (Γs s) ∧ M' = Ms s, ⟨s0, by rw [List.drop_zero]; exact e1, w, rfl⟩, ?_, ?_⟩
  · rintro i d Γ1 M1 hd ⟨s, hs, w1, rfl⟩
    rw [drop_cons hd] at hs
    unfold foldO at hs
    obtain ⟨s', h1, h3⟩ := Option.bind_eq_some_iff.mp hs
    exact zg_weak w1 (hb s d s' h1 _ ⟨fun Γ' w' => ⟨s', h3, w', rfl⟩⟩)
  · rintro Γ1 M1 ⟨s, hs, w1, rfl⟩
    rw [List.drop_length] at hs
    cases hs
    exact zs_weak w1 (h2 _ e2)
/-- what a part that may leave hands on -/
structure FlH {N : Type} (Γn : N → Gm) (Mn : N → Mem) (Γl : S → Gm) (Ml : S → Mem) (kd : R → D × Mem) (DD : ZEnds) (x : Fl N S R) : Prop where
  nx : ∀ n, x = .nx n → ∀ Γ', Wk Γ' (Γn n) → DD.nx Γ' (Mn n)
  ct : ∀ s, x = .ct s → ∀ Γ', Wk Γ' (Γl s) → DD.ct Γ' (Ml s)
  bk : ∀ s, x = .bk s → ∀ Γ', Wk Γ' (Γl s) → DD.bk Γ' (Ml s)
  rt : ∀ r, x = .rt r → ∀ G, DD.rt (kd r).1 (G ++ (kd r).2)
theorem y_forL (Γs : S → Gm) (Ms : S → Mem) (kd : R → D × Mem) {f : S → D → Option (Fl S S R)} {s0 : S} {res : Fl S S R} (h : forL f ds s0 = some res) (w : Wk Γ (Γs s0))
    (hb : ∀ s d x, f s d = some x → ∀ DD' : ZEnds, FlH Γs Ms Γs Ms kd DD' x → ZG c g d (Γs s) (Ms s) fun Γ2 M2 => ZS c tb Γ2 M2 DD')
    (hn : ∀ s, res = .nx s → ∀ Γ', Wk Γ' (Γs s) → DD.nx Γ' (Ms s)) (hr : ∀ r, res = .rt r → ∀ G, DD.rt (kd r).1 (G ++ (kd r).2)) : ForK c g tb Γ DD ds (Ms s0) := by
  refine ⟨fun i Γ' M' => ∃ s, forL f (ds.drop i) s = some res ∧ Wk Γ' (Γs s) ∧ M' = Ms s, ⟨s0, by rw [List.drop_zero]; exact h, w, rfl⟩, ?_, ?_⟩
  · rintro i d Γ1 M1 hd ⟨s, hs, w1, rfl⟩
    rw [drop_cons hd] at hs
    unfold forL at hs
    obtain ⟨x, h1, h3⟩ := Option.bind_eq_some_iff.mp hs
    refine zg_weak w1 (hb s d x h1 _ ⟨fun s' e Γ' w' => ?_, fun s' e Γ' w' => ?_, fun s' e Γ' w' => ?_, fun r e G => ?_⟩)
    · subst e; exact ⟨s', h3, w', rfl⟩
    · subst e; exact ⟨s', h3, w', rfl⟩
    · subst e; exact hn s' (Option.some.inj h3).symm Γ' w'
    · subst e; exact hr r (Option.some.inj h3).symm G
  · rintro Γ1 M1 ⟨s, hs, w1, rfl⟩
    rw [List.drop_length] at hs
    exact hn s (Option.some.inj hs).symm _ w1
theorem y_whl (Γs : S → Gm) (Ms : S → Mem) (kd : R → D × Mem) {t : TT} {f : S → Option (Fl S S R)} {s0 : S} {res : Fl S S R} (h : whl f s0 = some res) (w : Wk Γ (Γs s0))
    (hb : ∀ s x, f s = some x → ∀ DD' : ZEnds, FlH Γs Ms Γs Ms kd DD' x → ZT c t (Γs s) (Ms s) fun b M2 => (b = true → ZS c tb (Γs s) M2 DD') ∧ (b = false → ∀ Γ', Wk Γ' (Γs s) → DD'.bk Γ' M2))
    (hn : ∀ s, res = .nx s → ∀ Γ', Wk Γ' (Γs s) → DD.nx Γ' (Ms s)) (hr : ∀ r, res = .rt r → ∀ G, DD.rt (kd r).1 (G ++ (kd r).2)) : ZS c (tWhile t tb) Γ (Ms s0) DD := by
  obtain ⟨n, hn0⟩ := whl_ex h
  refine zs_while (fun m Γ' M' => ∃ s, whlN f m s = some res ∧ Wk Γ' (Γs s) ∧ M' = Ms s) n ⟨s0, hn0, w, rfl⟩ ?_
  rintro m Γ1 M1 ⟨s, hs, w1, rfl⟩
  cases m with
  | zero => cases hs
  | succ m =>
    unfold whlN at hs
    obtain ⟨x, h1, h3⟩ := Option.bind_eq_some_iff.mp hs
    have key := zt_weak w1 (hb s x h1 { DD with nx := fun Γ' M' => ∃ m', m' < m + 1 ∧ ∃ s, whlN f m' s = some res ∧ Wk Γ' (Γs s) ∧ M' = Ms s, ct := fun Γ' M' => ∃ m', m' < m + 1 ∧ ∃ s, whlN f m' s = some res ∧ Wk Γ' (Γs s) ∧ M' = Ms s, bk := DD.nx } ⟨fun s' e Γ' w' => ?_, fun s' e Γ' w' => ?_, fun s' e Γ' w' => ?_, fun r e G => ?_⟩)
    · refine key.imp fun b M2 ⟨k1, k2⟩ => ⟨fun hb => zs_weak w1 (k1 hb), fun hb => k2 hb _ w1⟩
    · subst e; exact ⟨m, Nat.lt_succ_self m, s', h3, w', rfl⟩
    · subst e; exact ⟨m, Nat.lt_succ_self m, s', h3, w', rfl⟩
    · subst e; exact hn s' (Option.some.inj h3).symm Γ' w'
    · subst e; exact hr r (Option.some.inj h3).symm G
end
end Z
set_option Elab.async false
set_option linter.all false
set_option maxRecDepth 100000
set_option maxHeartbeats 4000000
/-! YDef: comprehensions, lists that change, ends, defs. -/
namespace Z
open PySem PySem.Spec PyProof.Rows L2
/-! ### comprehensions -/
def lcO (f : D → Option D) (ds : List D) : Option (List D) := if ds.length ≤ sizeLine then mapO f ds else none
def lcS {S : Type} (f : S → D → Option (D × S)) (ds : List D) (s : S) : Option (List D × S) := if ds.length ≤ sizeLine then mapS f ds s else none
def lcF (f : D → Option (Option D)) (ds : List D) : Option (List D) := if ds.length ≤ sizeLine then filO f ds else none
theorem mapO_len {f : D → Option D} : ∀ {ds ys : List D}, mapO f ds = some ys → ys.length = ds.length
  | [], ys, h => by cases h; rfl
  | d :: ds, ys, h => by
    unfold mapO at h
    obtain ⟨y, h1, h⟩ := Option.bind_eq_some_iff.mp h
    obtain ⟨zs, h2, h⟩ := Option.bind_eq_some_iff.mp h
    cases h
    rw [List.length_cons, List.length_cons, mapO_len h2]
variable {c : Cz}
section
variable {S : Type} {Γ : Gm} {M : Mem} {kk : List D → Mem → Prop} {g : TG} {te : TE} {tt : TT} {vs : List Nat} {ds ys : List D}
theorem y_lcO {f : D → Option D} (h : lcO f ds = some ys) (hb : ∀ d y, f d = some y → ∀ k' : D → Mem → Prop, k' y M → ZG c g d (zwipe Γ vs) M fun Γ2 M2 => ZE c te Γ2 M2 k') (hk : kk ys M) : LcK c g tYes te vs Γ kk ds M := by
  unfold lcO at h
  split at h
  · rename_i hl
    refine ⟨hl, fun i acc M1 => M1 = M ∧ ∃ zs, mapO f (ds.drop i) = some zs ∧ acc ++ zs = ys, ⟨rfl, ys, by rw [List.drop_zero]; exact h, rfl⟩, fun i d acc M1 hd _ ⟨e1, zs, e2, e3⟩ => ?_, fun acc M1 ⟨e1, zs, e2, e3⟩ => ?_⟩
    · subst e1
      rw [drop_cons hd] at e2
      unfold mapO at e2
      obtain ⟨y, h1, e2⟩ := Option.bind_eq_some_iff.mp e2
      obtain ⟨ws, h2, e2⟩ := Option.bind_eq_some_iff.mp e2
      cases e2
      have key := hb d y h1 (fun y M4 => M4 = M1 ∧ ∃ zs, mapO f (ds.drop (i + 1)) = some zs ∧ (acc ++ [y]) ++ zs = ys) ⟨rfl, ws, h2, by rw [List.append_assoc]; exact e3⟩
      refine fun R F σ H v Q hs L X r q => key R F σ H v Q hs L X r fun σ' F' H' M' Γ' e L' hs' h' => q σ' F' H' M' Γ' e L' hs' ?_
      exact zt_yes ⟨fun _ => h', fun z => nomatch z⟩
    · subst e1
      rw [List.drop_length] at e2
      cases e2
      rw [List.append_nil] at e3
      subst e3; exact hk
  · cases h
theorem y_lcS (Ms : S → Mem) {f : S → D → Option (D × S)} {s s1 : S} (h : lcS f ds s = some (ys, s1)) (hb : ∀ s d y s', f s d = some (y, s') → ∀ k' : D → Mem → Prop, k' y (Ms s') → ZG c g d (zwipe Γ vs) (Ms s) fun Γ2 M2 => ZE c te Γ2 M2 k') (hM : Ms s = M) (hk : kk ys (Ms s1)) : LcK c g tYes te vs Γ kk ds M := by
  subst hM
  unfold lcS at h
  split at h
  · rename_i hl
    refine ⟨hl, fun i acc M1 => ∃ s zs, M1 = Ms s ∧ mapS f (ds.drop i) s = some (zs, s1) ∧ acc ++ zs = ys, ⟨s, ys, rfl, by rw [List.drop_zero]; exact h, rfl⟩, fun i d acc M1 hd _ ⟨s, zs, e1, e2, e3⟩ => ?_, fun acc M1 ⟨s, zs, e1, e2, e3⟩ => ?_⟩
    · subst e1
      rw [drop_cons hd] at e2
      unfold mapS bp at e2
      obtain ⟨⟨y, s'⟩, h1, e2⟩ := Option.bind_eq_some_iff.mp e2
      obtain ⟨⟨ws, s2⟩, h2, e2⟩ := Option.bind_eq_some_iff.mp e2
      cases e2
      have key := hb s d y s' h1 (fun y M4 => ∃ s zs, M4 = Ms s ∧ mapS f (ds.drop (i + 1)) s = some (zs, s2) ∧ (acc ++ [y]) ++ zs = ys) ⟨s', ws, rfl, h2, by rw [List.append_assoc]; exact e3⟩
      refine fun R F σ H v Q hs L X r q => key R F σ H v Q hs L X r fun σ' F' H' M' Γ' e L' hs' h' => q σ' F' H' M' Γ' e L' hs' ?_
      exact zt_yes ⟨fun _ => h', fun z => nomatch z⟩
    · subst e1
      rw [List.drop_length] at e2
      cases e2
      rw [List.append_nil] at e3
      subst e3; exact hk
  · cases h
theorem y_lcF {f : D → Option (Option D)} (h : lcF f ds = some ys) (hb : ∀ d r, f d = some r → ∀ (kT : D → Mem → Prop) (kF : Mem → Prop), (∀ y, r = some y → kT y M) → (r = none → kF M) → ZG c g d (zwipe Γ vs) M fun Γ2 M2 => ZT c tt Γ2 M2 fun b M3 => (b = true → ZE c te Γ2 M3 kT) ∧ (b = false → kF M3)) (hk : kk ys M) : LcK c g tt te vs Γ kk ds M := by
  unfold lcF at h
  split at h
  · rename_i hl
    refine ⟨hl, fun i acc M1 => M1 = M ∧ ∃ zs, filO f (ds.drop i) = some zs ∧ acc ++ zs = ys, ⟨rfl, ys, by rw [List.drop_zero]; exact h, rfl⟩, fun i d acc M1 hd _ ⟨e1, zs, e2, e3⟩ => ?_, fun acc M1 ⟨e1, zs, e2, e3⟩ => ?_⟩
    · subst e1
      rw [drop_cons hd] at e2
      unfold filO at e2
      obtain ⟨y, h1, e2⟩ := Option.bind_eq_some_iff.mp e2
      obtain ⟨ws, h2, e2⟩ := Option.bind_eq_some_iff.mp e2
      cases e2
      refine hb d y h1 (fun y M4 => M4 = M1 ∧ ∃ zs, filO f (ds.drop (i + 1)) = some zs ∧ (acc ++ [y]) ++ zs = ys) (fun M4 => M4 = M1 ∧ ∃ zs, filO f (ds.drop (i + 1)) = some zs ∧ acc ++ zs = ys) (fun z hz => ?_) (fun hz => ?_)
      · subst hz
        exact ⟨rfl, ws, h2, by rw [List.append_assoc]; exact e3⟩
      · subst hz
        exact ⟨rfl, ws, h2, e3⟩
    · subst e1
      rw [List.drop_length] at e2
      cases e2
      rw [List.append_nil] at e3
      subst e3; exact hk
  · cases h
theorem y_fT {y : D} {r : Option D} {kT : D → Mem → Prop} (h : some (some y) = some r) (k : ∀ y, r = some y → kT y M) : kT y M := k y (Option.some.inj h).symm
theorem y_fF {r : Option D} {kF : Mem → Prop} (h : some none = some r) (k : r = none → kF M) : kF M := k (Option.some.inj h).symm
end
/-! ### lists that change -/
def dApp (ds : List D) (d : D) : Option (List D) := if ds.length < sizeLine then some (ds ++ [d]) else none
def dExt (ds : List D) (d : D) : Option (List D) := match d with
  | .lst es => if ds.length + es.length ≤ sizeLine then some (ds ++ es) else none
  | _ => none
def dPop (ds : List D) : Option (D × List D) := (ds[ds.length - 1]?).map fun d => (d, ds.dropLast)
def dPopAt (ds : List D) : D → Option (D × List D)
  | .int z => if -(2 ^ 63) ≤ z ∧ z < 2 ^ 63 then (seqIndex? z ds.length).bind fun n => (ds[n]?).map fun d => (d, ds.eraseIdx n) else none
  | _ => none
def dIns (ds : List D) (x : D) (d : D) : Option (List D) := match x with
  | .int z => if ds.length < sizeLine ∧ 0 ≤ z ∧ z < 2 ^ 63 then some (ds.take z.toNat ++ [d] ++ ds.drop z.toNat) else none
  | _ => none
def dSet (ds : List D) (x : D) (d : D) : Option (List D) := match x with
  | .int z => (ixN ds.length z).map fun j => ds.set j d
  | _ => none
section
variable {M M' : Mem} {k : D → Mem → Prop} {i : Nat} {a : Addr} {ds ds' : List D} {d x : D}
theorem y_append (hi : M[i]? = some (a, .lst ds)) (h : dApp ds d = some ds') (hM : M.set i (a, .lst ds') = M') (hk : k .non M') : ZM c rAppend (.at a) [d] M k := by
  unfold dApp at h
  split at h
  · rename_i hl
    cases h
    subst hM
    exact zm_append hi hl hk
  · cases h
theorem y_extend (hi : M[i]? = some (a, .lst ds)) (v : View M x d) (h : dExt ds d = some ds') (hM : M.set i (a, .lst ds') = M') (hk : k .non M') : ZM c rExtend (.at a) [x] M k := by
  unfold dExt at h
  split at h
  · split at h
    · rename_i hl
      cases h
      subst hM
      exact zm_extend hi v.lstSt hl hk
    · cases h
  · cases h
theorem y_pop (hi : M[i]? = some (a, .lst ds)) (h : dPop ds = some (d, ds')) (hM : M.set i (a, .lst ds') = M') (hk : k d M') : ZM c rPop (.at a) [] M k := by
  unfold dPop at h
  obtain ⟨e, h1, h2⟩ := Option.map_eq_some_iff.mp h
  cases h2
  subst hM
  exact zm_pop hi h1 hk
theorem y_popAt (hi : M[i]? = some (a, .lst ds)) (h : dPopAt ds x = some (d, ds')) (hM : M.set i (a, .lst ds') = M') (hk : k d M') : ZM c rPopAt (.at a) [x] M k := by
  unfold dPopAt at h
  split at h
  · split at h
    · rename_i hz
      obtain ⟨n, h1, h⟩ := Option.bind_eq_some_iff.mp h
      obtain ⟨e, h2, h3⟩ := Option.map_eq_some_iff.mp h
      cases h3
      subst hM
      exact zm_popAt hi hz.1 hz.2 h1 h2 hk
    · cases h
  · cases h
theorem y_insert (hi : M[i]? = some (a, .lst ds)) (h : dIns ds x d = some ds') (hM : M.set i (a, .lst ds') = M') (hk : k .non M') : ZM c rInsZ (.at a) [x, d] M k := by
  unfold dIns at h
  split at h
  · split at h
    · rename_i hz
      cases h
      subst hM
      exact zm_insert hi hz.1 hz.2.1 hz.2.2 hk
    · cases h
  · cases h
theorem y_reverse (hi : M[i]? = some (a, .lst ds)) (hM : M.set i (a, .lst ds.reverse) = M') (hk : k .non M') : ZM c rReverse (.at a) [] M k := by
  subst hM; exact zm_reverse hi hk
theorem zg_setL' {to ti : TE} {Γ : Gm} {kg : Gm → Mem → Prop} (h : ZE c to Γ M fun o M1 => ZE c ti Γ M1 fun x M2 => ∃ a i ds ds' M', o = .at a ∧ M2[i]? = some (a, .lst ds) ∧ dSet ds x d = some ds' ∧ M2.set i (a, .lst ds') = M' ∧ kg Γ M') : ZG c (gSub to ti rSetL) d Γ M kg := zg_setL (h.imp fun o M1 h1 => h1.imp fun x M2 ⟨a, i, ds, ds', M', e, hi, hs, hM, hk⟩ => by
  subst e hM
  unfold dSet at hs
  split at hs
  · obtain ⟨j, h2, rfl⟩ := Option.map_eq_some_iff.mp hs
    exact ⟨a, i, ds, _, j, rfl, rfl, hi, h2, hk⟩
  · cases hs)
/-- lists made that may change -/
def dRgL : D → Option (List D)
  | .int n => if -(2 ^ 62) ≤ n ∧ n ≤ 2 ^ 24 then some (rngD 0 n.toNat) else none
  | _ => none
theorem dRgL_ok {d : D} {ds : List D} (h : dRgL d = some ds) : ∃ n, d = .int n ∧ RgOk 0 n ∧ ds = rngD 0 n.toNat := by
  unfold dRgL at h
  split at h
  · split at h
    · rename_i hr
      cases h
      obtain ⟨h1, h2⟩ := hr
      exact ⟨_, rfl, ⟨by omega, by omega, by omega, by omega, by omega⟩, rfl⟩
    · cases h
  · cases h
theorem z_rgF {te : TE} {Γ : Gm} (h : ZE c te Γ M fun d M1 => ∃ ds, dRgL d = some ds ∧ k (.lst ds) M1) : ZE c (tLstRg (tRg1 te)) Γ M k := z_listRg1 (h.imp fun d M1 ⟨ds, h1, h2⟩ => by
  obtain ⟨n, e1, e2, e3⟩ := dRgL_ok h1
  subst e3
  exact ⟨n, e1, e2, h2⟩)
theorem z_rgM {te : TE} {Γ : Gm} (h : ZE c te Γ M fun d M1 => ∃ ds, dRgL d = some ds ∧ ∀ p, k (.at p) ((p, .lst ds) :: M1)) : ZE c (tLstRg (tRg1 te)) Γ M k := z_listRg1M (h.imp fun d M1 ⟨ds, h1, h2⟩ => by
  obtain ⟨n, e1, e2, e3⟩ := dRgL_ok h1
  subst e3
  exact ⟨n, e1, e2, h2⟩)
theorem z_lsM {ta : TA} {Γ : Gm} (h : ZA c ta Γ M fun xs M1 => ∃ dx d ds, xs = [dx] ∧ View M1 dx d ∧ items d = some ds ∧ ∀ p, k (.at p) ((p, .lst ds) :: M1)) : ZE c (tCB (rListZ c.K) ta) Γ M k := z_listM (h.imp fun xs M1 ⟨dx, d, ds, e, v, hi, hk⟩ => ⟨dx, ds, e, v.sq hi, hk⟩)
def dRep (ds : List D) : D → Option (List D)
  | .int j => if repB ds.length j then some (List.replicate j.toNat ds).flatten else none
  | _ => none
theorem z_repM {ta tb : TE} {Γ : Gm} (h : ZE c ta Γ M fun x M1 => ZE c tb Γ M1 fun y M2 => ∃ ds rs, View M2 x (.lst ds) ∧ dRep ds y = some rs ∧ ∀ p, k (.at p) ((p, .lst rs) :: M2)) : ZE c (tOp rMulZ ta tb) Γ M k := z_repLM (h.imp fun x M1 h1 => h1.imp fun y M2 ⟨ds, rs, v, hr, hk⟩ => by
  unfold dRep at hr
  split at hr
  · split at hr
    · rename_i hb
      cases hr
      unfold repB at hb
      rw [Bool.and_eq_true, Bool.and_eq_true] at hb
      exact ⟨_, _, v.lstSt, rfl, of_decide_eq_true hb.1.1, of_decide_eq_true hb.1.2, of_decide_eq_true hb.2, hk⟩
    · cases hr
  · cases hr)
end
/-! ### ends -/
/-- a def's end: what is returned, what its changing parameters hold -/
structure HitD {α : Type} (kd : α → D × Mem) (DD : ZEnds) (out : α) : Prop where
  rt : ∀ G, DD.rt (kd out).1 (G ++ (kd out).2)
  nn : (kd out).1 = .non → ∀ Γ' G, DD.nx Γ' (G ++ (kd out).2)
theorem y_ret {α : Type} {kd : α → D × Mem} {rt : D → Mem → Prop} {x out : α} {d : D} {M : Mem} (G : Mem) (h : some x = some out) (hit : ∀ G, rt (kd out).1 (G ++ (kd out).2)) (hd : (kd x).1 = d) (hM : G ++ (kd x).2 = M) : rt d M := by
  cases h; subst hd hM; exact hit G
theorem y_end {α : Type} {kd : α → D × Mem} {DD : ZEnds} {x out : α} {Γ : Gm} (G : Mem) {M : Mem} (h : some x = some out) (hit : HitD kd DD out) (hx : (kd x).1 = .non) (hM : G ++ (kd x).2 = M) : DD.nx Γ M := by
  cases h; subst hM; exact hit.nn hx Γ G
section
variable {N N' S R α : Type} {Γ : Gm} {M : Mem} {DD : ZEnds} {t u tb : TS} {Γn : N → Gm} {Mn : N → Mem} {Γl : S → Gm} {Ml : S → Mem} {kd : R → D × Mem}
theorem y_nxF {x : Fl N S R} {n : N} {nx : Gm → Mem → Prop} (h : some (.nx n) = some x) (J : FlH Γn Mn Γl Ml kd DD x) (w : Wk Γ (Γn n)) (hM : Mn n = M) (hn : DD.nx = nx) : nx Γ M := by cases h; subst hM hn; exact J.nx n rfl Γ w
theorem y_ctF {x : Fl N S R} {n : S} {ct : Gm → Mem → Prop} (h : some (.ct n) = some x) (J : FlH Γn Mn Γl Ml kd DD x) (w : Wk Γ (Γl n)) (hM : Ml n = M) (hn : DD.ct = ct) : ct Γ M := by cases h; subst hM hn; exact J.ct n rfl Γ w
theorem y_bkF {x : Fl N S R} {n : S} {bk : Gm → Mem → Prop} (h : some (.bk n) = some x) (J : FlH Γn Mn Γl Ml kd DD x) (w : Wk Γ (Γl n)) (hM : Ml n = M) (hn : DD.bk = bk) : bk Γ M := by cases h; subst hM hn; exact J.bk n rfl Γ w
theorem y_bkW {x : Fl N S R} {n : S} (h : some (.bk n) = some x) (J : FlH Γn Mn Γl Ml kd DD x) (hM : Ml n = M) : ∀ Γ', Wk Γ' (Γl n) → DD.bk Γ' M := by cases h; subst hM; exact J.bk n rfl
theorem y_rtF {x : Fl N S R} {r : R} {rt : D → Mem → Prop} {d : D} (G : Mem) (h : some (.rt r) = some x) (J : FlH Γn Mn Γl Ml kd DD x) (hd : (kd r).1 = d) (hM : G ++ (kd r).2 = M) (hn : DD.rt = rt) : rt d M := by cases h; subst hd hM hn; exact J.rt r rfl G
/-- a part that may leave, then the rest: within a part that may leave -/
theorem y_joinF {Γm : N' → Gm} {Mm : N' → Mem} (Γn : N → Gm) (Mn : N → Mem) {m1 : Option (Fl N S R)} {mr : N → Option (Fl N' S R)} {out : Fl N' S R} (h : Fl.seq m1 mr = some out) (J : FlH Γm Mm Γl Ml kd DD out)
    (h1 : ∀ x, m1 = some x → ∀ DD' : ZEnds, FlH Γn Mn Γl Ml kd DD' x → ZS c t Γ M DD') (h2 : ∀ s, mr s = some out → ZS c u (Γn s) (Mn s) DD) : ZS c (tSeq t u) Γ M DD := by
  unfold Fl.seq at h
  obtain ⟨x, e1, e2⟩ := Option.bind_eq_some_iff.mp h
  refine zs_seq (h1 x e1 _ ⟨fun n e Γ' w => ?_, fun n e => ?_, fun n e => ?_, fun n e => ?_⟩)
  · subst e; exact zs_weak w (h2 n e2)
  · subst e; cases e2; exact J.ct n rfl
  · subst e; cases e2; exact J.bk n rfl
  · subst e; cases e2; exact J.rt n rfl
/-- .. at a def's level -/
theorem y_joinD {kd : α → D × Mem} (Γn : N → Gm) (Mn : N → Mem) {m1 : Option (Fl N Unit α)} {mr : N → Option α} {out : α} (h : Fl.fin m1 mr = some out) (hit : ∀ G, DD.rt (kd out).1 (G ++ (kd out).2))
    (h1 : ∀ x, m1 = some x → ∀ DD' : ZEnds, FlH Γn Mn (fun _ => []) (fun _ => []) kd DD' x → ZS c t Γ M DD') (h2 : ∀ s, mr s = some out → ZS c u (Γn s) (Mn s) DD) : ZS c (tSeq t u) Γ M DD := by
  unfold Fl.fin at h
  obtain ⟨x, e1, e2⟩ := Option.bind_eq_some_iff.mp h
  refine zs_seq (h1 x e1 _ ⟨fun n e Γ' w => ?_, fun n e => ?_, fun n e => ?_, fun n e => ?_⟩)
  · subst e; exact zs_weak w (h2 n e2)
  · subst e; cases e2
  · subst e; cases e2
  · subst e; cases e2; exact hit
variable {g : TG} {ds : List D}
def Fl.pass {N' So : Type} (m : Option (Fl S S R)) (f : S → Option (Fl N' So R)) : Option (Fl N' So R) := m.bind fun
  | .nx s => f s
  | .rt r => some (.rt r)
  | _ => none
theorem y_forF {Γm : N' → Gm} {Mm : N' → Mem} {So : Type} {Γl : So → Gm} {Ml : So → Mem} (Γs : S → Gm) (Ms : S → Mem) {f : S → D → Option (Fl S S R)} {s0 : S} {mr : S → Option (Fl N' So R)} {out : Fl N' So R}
    (h : Fl.pass (forL f ds s0) mr = some out) (J : FlH Γm Mm Γl Ml kd DD out) (w : Wk Γ (Γs s0))
    (hb : ∀ s d x, f s d = some x → ∀ DD' : ZEnds, FlH Γs Ms Γs Ms kd DD' x → ZG c g d (Γs s) (Ms s) fun Γ2 M2 => ZS c tb Γ2 M2 DD') (h2 : ∀ s, mr s = some out → ZS c u (Γs s) (Ms s) DD) (hM : Ms s0 = M) : ForK c g tb Γ { DD with nx := fun Γ' M' => ZS c u Γ' M' DD } ds M := by
  subst hM
  unfold Fl.pass at h
  obtain ⟨x, e1, e2⟩ := Option.bind_eq_some_iff.mp h
  refine y_forL Γs Ms kd e1 w hb (fun s e Γ' w => ?_) (fun r e => ?_)
  · subst e; exact zs_weak w (h2 s e2)
  · subst e; cases e2; exact J.rt r rfl
theorem y_forD {kd : α → D × Mem} (Γs : S → Gm) (Ms : S → Mem) {f : S → D → Option (Fl S S α)} {s0 : S} {mr : S → Option α} {out : α} (h : Fl.fin (forL f ds s0) mr = some out) (hit : ∀ G, DD.rt (kd out).1 (G ++ (kd out).2)) (w : Wk Γ (Γs s0))
    (hb : ∀ s d x, f s d = some x → ∀ DD' : ZEnds, FlH Γs Ms Γs Ms kd DD' x → ZG c g d (Γs s) (Ms s) fun Γ2 M2 => ZS c tb Γ2 M2 DD') (h2 : ∀ s, mr s = some out → ZS c u (Γs s) (Ms s) DD) (hM : Ms s0 = M) : ForK c g tb Γ { DD with nx := fun Γ' M' => ZS c u Γ' M' DD } ds M := by
  subst hM
  unfold Fl.fin at h
  obtain ⟨x, e1, e2⟩ := Option.bind_eq_some_iff.mp h
  refine y_forL Γs Ms kd e1 w hb (fun s e Γ' w => ?_) (fun r e => ?_)
  · subst e; exact zs_weak w (h2 s e2)
  · subst e; cases e2; exact hit
/-- a loop with break or continue that returns nothing -/
def Fl.out : Fl S S Empty → Option S
  | .nx s => some s
  | _ => none
theorem y_forB (Γs : S → Gm) (Ms : S → Mem) {f : S → D → Option (Fl S S Empty)} {s0 : S} {mr : S → Option α} {out : α} (h : (((forL f ds s0).bind Fl.out).bind mr) = some out) (w : Wk Γ (Γs s0))
    (hb : ∀ s d x, f s d = some x → ∀ DD' : ZEnds, FlH Γs Ms Γs Ms (fun r => nomatch r) DD' x → ZG c g d (Γs s) (Ms s) fun Γ2 M2 => ZS c tb Γ2 M2 DD') (h2 : ∀ s, mr s = some out → ZS c u (Γs s) (Ms s) DD) (hM : Ms s0 = M) : ForK c g tb Γ { DD with nx := fun Γ' M' => ZS c u Γ' M' DD } ds M := by
  subst hM
  obtain ⟨s1, e1, e2⟩ := Option.bind_eq_some_iff.mp h
  obtain ⟨x, e0, e1⟩ := Option.bind_eq_some_iff.mp e1
  refine y_forL Γs Ms _ e0 w hb (fun s' e Γ' w => ?_) (fun r e => nomatch r)
  subst e; cases e1; exact zs_weak w (h2 _ e2)
theorem y_whlB (Γs : S → Gm) (Ms : S → Mem) {tt : TT} {f : S → Option (Fl S S Empty)} {s0 : S} {mr : S → Option α} {out : α} (h : (((whl f s0).bind Fl.out).bind mr) = some out) (w : Wk Γ (Γs s0))
    (hb : ∀ s x, f s = some x → ∀ DD' : ZEnds, FlH Γs Ms Γs Ms (fun r => nomatch r) DD' x → ZT c tt (Γs s) (Ms s) fun b M2 => (b = true → ZS c tb (Γs s) M2 DD') ∧ (b = false → ∀ Γ', Wk Γ' (Γs s) → DD'.bk Γ' M2)) (h2 : ∀ s, mr s = some out → ZS c u (Γs s) (Ms s) DD) (hM : Ms s0 = M) : ZS c (tSeq (tWhile tt tb) u) Γ M DD := by
  subst hM
  obtain ⟨s1, e1, e2⟩ := Option.bind_eq_some_iff.mp h
  obtain ⟨x, e0, e1⟩ := Option.bind_eq_some_iff.mp e1
  refine zs_seq (y_whl Γs Ms _ e0 w hb (fun s' e Γ' w => ?_) (fun r e => nomatch r))
  subst e; cases e1; exact zs_weak w (h2 _ e2)
theorem y_whlD {kd : α → D × Mem} (Γs : S → Gm) (Ms : S → Mem) {tt : TT} {f : S → Option (Fl S S α)} {s0 : S} {mr : S → Option α} {out : α} (h : Fl.fin (whl f s0) mr = some out) (hit : ∀ G, DD.rt (kd out).1 (G ++ (kd out).2)) (w : Wk Γ (Γs s0))
    (hb : ∀ s x, f s = some x → ∀ DD' : ZEnds, FlH Γs Ms Γs Ms kd DD' x → ZT c tt (Γs s) (Ms s) fun b M2 => (b = true → ZS c tb (Γs s) M2 DD') ∧ (b = false → ∀ Γ', Wk Γ' (Γs s) → DD'.bk Γ' M2)) (h2 : ∀ s, mr s = some out → ZS c u (Γs s) (Ms s) DD) (hM : Ms s0 = M) : ZS c (tSeq (tWhile tt tb) u) Γ M DD := by
  subst hM
  unfold Fl.fin at h
  obtain ⟨x, e1, e2⟩ := Option.bind_eq_some_iff.mp h
  refine zs_seq (y_whl Γs Ms kd e1 w hb (fun s e Γ' w => ?_) (fun r e => ?_))
  · subst e; exact zs_weak w (h2 s e2)
  · subst e; cases e2; exact hit
end
/-! ### frames -/
theorem Lay.perm' {K : Fg} {F : Hp} {M M' : Mem} {H : Hp} (L : Lay K F M H) (p : M.Perm M') : Lay K F M' H := L.perm p
theorem Lay.dropR {K : Fg} {F : Hp} {A B : Mem} {H : Hp} (L : Lay K F (A ++ B) H) : Lay K F A H :=
  ⟨L.fr, L.nd.sublist ((List.sublist_append_left A B).map (·.1)), fun p hp => L.ap p (List.mem_append_left _ hp), fun p hp => L.mu p (List.mem_append_left _ hp)⟩
theorem zs_fr {K : Fg} {t : TS} {Γ : Gm} {M M0 R0 : Mem} {DD : ZEnds} (hp : M.Perm (M0 ++ R0))
    (h : ZS { K := K } t Γ M0 { nx := fun Γ' M' => ∃ G M2, (M' ++ R0).Perm (M2 ++ G) ∧ DD.nx Γ' M2, rt := fun d M' => ∃ G M2, (M' ++ R0).Perm (M2 ++ G) ∧ DD.rt d M2 }) : ZS { K := K } t Γ M DD := fun R F σ H Dd hs L X q => by
  have L1 : Lay K F (M0 ++ (R0 ++ R)) H := by
    rw [← List.append_assoc]
    exact L.perm (hp.append_right R)
  refine h (R0 ++ R) F σ H Dd hs L1 (fun _ _ _ _ _ _ _ _ _ _ _ _ z => z.elim) ⟨fun v F' H' M' d e L' r ⟨G, M2, p, k⟩ => ?_, fun v F' H' M' d e L' r ⟨G, M2, p, k⟩ => ?_, fun v F' H' M' d e L' r k => k.elim, fun v F' H' M' d e L' r k => k.elim⟩
  all_goals
    have L2 : Lay K F' (M2 ++ R) H' := by
      rw [← List.append_assoc] at L'
      have L3 := L'.perm (p.append_right R)
      have p2 : (M2 ++ G ++ R).Perm ((M2 ++ R) ++ G) := by
        rw [List.append_assoc, List.append_assoc]
        exact List.Perm.append_left M2 List.perm_append_comm
      exact (L3.perm p2).dropR
  · exact q.nx v F' H' M2 d e L2 r k
  · exact q.rt v F' H' M2 d e L2 r k
theorem perm_pick {M : Mem} {i : Nat} {x : Addr × MO} (h : M[i]? = some x) : M.Perm ([x] ++ M.eraseIdx i) := by
  obtain ⟨hi, rfl⟩ := List.getElem?_eq_some_iff.mp h
  rw [List.eraseIdx_eq_take_drop_succ]
  have e : M = M.take i ++ (M[i] :: M.drop (i + 1)) := by rw [← List.drop_eq_getElem_cons hi, List.take_append_drop]
  refine (List.Perm.of_eq e).trans ?_
  exact List.perm_middle
theorem perm_put {M : Mem} {i : Nat} {x y : Addr × MO} (h : M[i]? = some x) : (M.set i y).Perm ([y] ++ M.eraseIdx i) := by
  have hi := (List.getElem?_eq_some_iff.mp h).1
  have h2 : (M.set i y)[i]? = some y := List.getElem?_set_self hi
  have := perm_pick h2
  have e : (M.set i y).eraseIdx i = M.eraseIdx i := by
    rw [List.eraseIdx_eq_take_drop_succ, List.eraseIdx_eq_take_drop_succ, List.take_set_of_le (Nat.le_refl _), List.drop_set_of_lt (Nat.lt_succ_self _)]
  rw [e] at this; exact this
/-- a def that changes nothing -/
theorem zs_def0 {K : Fg} {t : TS} {Γ : Gm} {M : Mem} {out : D} {kk : D → Mem → Prop} (hk : kk out M) (h : ∀ DD : ZEnds, HitD (fun x : D => (x, [])) DD out → ZS { K := K } t Γ [] DD) : ZS { K := K } t Γ M { nx := fun _ M' => kk .non M', rt := kk } := by
  refine zs_fr (M0 := []) (R0 := M) (.refl _) (h _ ⟨fun G => ⟨G, M, ?_, hk⟩, fun e Γ' G => ⟨G, M, ?_, ?_⟩⟩)
  · show ((G ++ []) ++ M).Perm (M ++ G)
    rw [List.append_nil]; exact List.perm_append_comm
  · show ((G ++ []) ++ M).Perm (M ++ G)
    rw [List.append_nil]; exact List.perm_append_comm
  · have e' : out = .non := e
    subst e'
    exact hk
/-- a def that changes one list -/
theorem zs_def1 {K : Fg} {t : TS} {Γ : Gm} {M : Mem} {i : Nat} {a : Addr} {box : List D} {out : D × List D} {kk : D → Mem → Prop} (hi : M[i]? = some (a, .lst box)) (hk : kk out.1 (M.set i (a, .lst out.2)))
    (h : ∀ DD : ZEnds, HitD (fun x : D × List D => (x.1, [(a, .lst x.2)])) DD out → ZS { K := K } t Γ [(a, .lst box)] DD) : ZS { K := K } t Γ M { nx := fun _ M' => kk .non M', rt := kk } := by
  have key : ∀ G : Mem, ((G ++ [(a, MO.lst out.2)]) ++ M.eraseIdx i).Perm (M.set i (a, .lst out.2) ++ G) := fun G => by
    rw [List.append_assoc]
    exact List.perm_append_comm.trans ((perm_put hi).symm.append_right G)
  refine zs_fr (perm_pick hi) (h _ ⟨fun G => ⟨G, _, key G, hk⟩, fun e Γ' G => ⟨G, _, key G, ?_⟩⟩)
  have e' : out.1 = .non := e
  show kk .non _
  rw [← e']; exact hk
end Z
namespace Z
open PySem PySem.Spec PyProof.Rows L2
variable {c : Cz}
theorem zs_one {t : TS} {Γ : Gm} {M : Mem} {DD : ZEnds} (h : ZS c (tSeq t tNext) Γ M DD) : ZS c t Γ M DD := h
theorem own_t2 {K : Fg} {i j : Nat} {vs : List Nat} (hi : i ∈ vs) (hj : j ∈ vs) : Own (gTup K 2 (gCons (gName i) (gCons (gName j) gNil))) vs :=
  own_tup (owns_cons mono_name (mono_cons mono_name mono_nil) (own_name hi) (owns_cons mono_name mono_nil (own_name hj) owns_nil))
theorem own_t3 {K : Fg} {i j l : Nat} {vs : List Nat} (hi : i ∈ vs) (hj : j ∈ vs) (hl : l ∈ vs) : Own (gTup K 3 (gCons (gName i) (gCons (gName j) (gCons (gName l) gNil)))) vs :=
  own_tup (owns_cons mono_name (mono_cons mono_name (mono_cons mono_name mono_nil)) (own_name hi) (owns_cons mono_name (mono_cons mono_name mono_nil) (own_name hj) (owns_cons mono_name mono_nil (own_name hl) owns_nil)))
theorem own_t12 {K K' : Fg} {i j l : Nat} {vs : List Nat} (hi : i ∈ vs) (hj : j ∈ vs) (hl : l ∈ vs) : Own (gTup K 2 (gCons (gName i) (gCons (gTup K' 2 (gCons (gName j) (gCons (gName l) gNil))) gNil))) vs :=
  own_tup (owns_cons mono_name (mono_cons (mono_tup (mono_cons mono_name (mono_cons mono_name mono_nil))) mono_nil) (own_name hi) (owns_cons (mono_tup (mono_cons mono_name (mono_cons mono_name mono_nil))) mono_nil (own_t2 hj hl) owns_nil))
section
variable {α : Type} {Γ : Gm} {M : Mem} {out : α}
def ChK (c : Cz) (tc : TE) (r' : R2) (y : D) (Γ : Gm) (M : Mem) (b : Bool) (k : D → Mem → Prop) : Prop := (b = true → ZE c tc Γ M fun u M4 => ZR c r' y u M4 k) ∧ (b = false → k (.bl false) M)
theorem z_chain' {r r' : R2} {ta tb tc : TE} {k : D → Mem → Prop} (h : ZE c ta Γ M fun x M1 => ZE c tb Γ M1 fun y M2 => ZR c r x y M2 fun z M3 => ∃ b, z = .bl b ∧ ChK c tc r' y Γ M3 b k) : ZE c (tChain r r' ta tb tc) Γ M k := z_chain h
theorem y_chain {tc : TE} {r' : R2} {y : D} {m2 : Option Bool} {mr : Bool → Option α} {b : Bool} {k : D → Mem → Prop} (h : (if b = true then m2 else some false).bind mr = some out)
    (h2 : ∀ v, m2 = some v → ∀ k' : D → Mem → Prop, k' (.bl v) M → ZE c tc Γ M fun u M4 => ZR c r' y u M4 k') (hk : ∀ v, mr v = some out → k (.bl v) M) : ChK c tc r' y Γ M b k := by
  obtain ⟨v, e1, e2⟩ := Option.bind_eq_some_iff.mp h
  exact ⟨fun hb => h2 v (ifT hb e1) k (hk v e2), fun hb => by cases (ifF hb e1); exact hk _ e2⟩
theorem y_lfC {v v0 : Bool} {k : D → Mem → Prop} (h : some v = some v0) (hk : k (.bl v0) M) : k (.bl v) M := by cases h; exact hk
variable {kk : List D → Mem → Prop} {d e : D} {ds : List D}
theorem zi_zip0 {ta : TA} (h : ZA c ta Γ M fun ds M1 => ∃ xs ys, (ds = [.tup xs, .tup ys] ∨ ds = [.lst xs, .lst ys]) ∧ kk (zipD xs ys) M1) : ZI c (iZipZ c.K ta) Γ M kk := fun R F σ H Q hs L X q =>
  h R F σ H _ hs L X fun ws F1 H1 M1 ds e1 L1 r1 ⟨xs, ys, e, h1⟩ => by
    rcases e with e | e
    all_goals
      subst e
      obtain ⟨v, w, rfl, r2, r3⟩ := r1.two
    · obtain ⟨a, vs, rfl, p, rr⟩ := r2.of_tup
      obtain ⟨b, ws, rfl, p2, rr2⟩ := r3.of_tup
      exact ⟨a, b, vs, ws, rfl, .inr ⟨ex_t L1.fr p, ex_t L1.fr p2, q _ F1 H1 M1 _ e1 L1 (walks_zipT p rr p2 rr2) h1⟩⟩
    · obtain ⟨a, vs, rfl, p, rr⟩ := r2.of_lst
      obtain ⟨b, ws, rfl, p2, rr2⟩ := r3.of_lst
      exact ⟨a, b, vs, ws, rfl, .inl ⟨SqL.of (L1.fr _ _ p), SqL.of (L1.fr _ _ p2), q _ F1 H1 M1 _ e1 L1 (walks_zipL (SqL.of p) rr (SqL.of p2) rr2) h1⟩⟩
theorem zi_zip' {ta : TA} (h : ZA c ta Γ M fun xs M1 => ∃ d e ds, xs = [d, e] ∧ itZip d e = some ds ∧ kk ds M1) : ZI c (iZipZ c.K ta) Γ M kk := zi_zip0 (h.imp fun xs M1 ⟨d, e, ds, ee, h1, h2⟩ => by
  subst ee
  unfold itZip at h1
  split at h1
  · cases h1; exact ⟨_, _, .inl rfl, h2⟩
  · cases h1; exact ⟨_, _, .inr rfl, h2⟩
  · cases h1)
end
end Z
namespace Z
open PySem PySem.Spec PyProof.Rows L2
variable {c : Cz}
section
variable {Γ Γ' : Gm} {M M' : Mem} {DD : ZEnds} {t : TS} {i j : Nat} {a : Addr} {ds : List D}
/-- an owned list is handed on: it changes no more -/
theorem y_frz (hi : M[i]? = some (a, .lst ds)) (hj : Γ[j]? = some (some (.at a))) (hΓ : Γ.set j (some (.lst ds)) = Γ') (hM : M.eraseIdx i = M') (h : ZS c t Γ' M' DD) : ZS c t Γ M DD := by
  subst hΓ hM; exact zs_frz hi hj h
theorem y_forgetS (hM : M.eraseIdx i = M') (h : ZS c t Γ M' DD) : ZS c t Γ M DD := by
  subst hM; exact zs_forget h
theorem zs_par' {i j : Nat} {ta : TA} (h : ZA c ta Γ M fun ds M1 => ∃ x y Γ', ds = [x, y] ∧ (Γ.set i (some x)).set j (some y) = Γ' ∧ DD.nx Γ' M1) : ZS c (tPar i j ta) Γ M DD := zs_par (h.imp fun ds M1 ⟨x, y, Γ', e, e2, h2⟩ => ⟨x, y, e, by rw [e2]; exact h2⟩)
def dAugA : D → D → Option D
  | .int i, .int j => some (.int (i + j))
  | _, _ => none
theorem zs_aug' {te : TE} {f : Int → Int → Int} {n : Nat} {x : D} (hx : Γ[n]? = some (some x)) (h : ZE c te Γ M fun y M1 => ∃ i j, x = .int i ∧ y = .int j ∧ DD.nx (Γ.set n (some (.int (f i j)))) M1) : ZS c (tAug n te (ipI f)) Γ M DD := fun R F σ H D hs L X q => by
  obtain ⟨v, e, r⟩ := hs.at_ n _ hx
  refine ⟨_, e, h R F σ H _ hs L X fun w F1 H1 M1 d e1 L1 r1 ⟨i, j, ei, ej, hk⟩ => ?_⟩
  subst ei ej
  exact ⟨i, j, r.of_int, r1.of_int, q.nx _ F1 H1 M1 _ e1 L1 ((hs.mono e1).set n (.int _)) hk⟩
theorem zs_augA {te : TE} {n : Nat} {x : D} (hx : Γ[n]? = some (some x)) (h : ZE c te Γ M fun y M1 => ∃ z Γ', dAugA x y = some z ∧ Γ.set n (some z) = Γ' ∧ DD.nx Γ' M1) : ZS c (tAug n te (ipI fun i j => i + j)) Γ M DD := zs_aug' hx (h.imp fun y M1 ⟨z, Γ', h1, h2, h3⟩ => by
  unfold dAugA at h1
  split at h1
  · cases h1; exact ⟨_, _, rfl, rfl, by rw [h2]; exact h3⟩
  · cases h1)
theorem zs_augS {te : TE} {n : Nat} {x : D} (hx : Γ[n]? = some (some x)) (h : ZE c te Γ M fun y M1 => ∃ z Γ', dSub x y = some z ∧ Γ.set n (some z) = Γ' ∧ DD.nx Γ' M1) : ZS c (tAug n te (ipI fun i j => i - j)) Γ M DD := zs_aug' hx (h.imp fun y M1 ⟨z, Γ', h1, h2, h3⟩ => by
  unfold dSub at h1
  split at h1
  · cases h1; exact ⟨_, _, rfl, rfl, by rw [h2]; exact h3⟩
  · cases h1)
end
/-- a def whose new list may change -/
structure HitO {α : Type} (kd : α → List D × Mem) (DD : ZEnds) (out : α) : Prop where
  rt : ∀ p G1 G2, DD.rt (.at p) (G1 ++ (p, .lst (kd out).1) :: (G2 ++ (kd out).2))
theorem y_retO {α : Type} {kd : α → List D × Mem} {rt : D → Mem → Prop} {x out : α} {p : Addr} {M : Mem} (G1 G2 : Mem) (h : some x = some out) (hit : ∀ p G1 G2, rt (.at p) (G1 ++ (p, .lst (kd out).1) :: (G2 ++ (kd out).2))) (hM : G1 ++ (p, .lst (kd x).1) :: (G2 ++ (kd x).2) = M) : rt (.at p) M := by
  cases h; subst hM; exact hit p G1 G2
theorem zs_defO0 {K : Fg} {t : TS} {Γ : Gm} {M : Mem} {out : List D} {kk : D → Mem → Prop} (hk : ∀ p, kk (.at p) ((p, .lst out) :: M)) (h : ∀ DD : ZEnds, HitO (fun x : List D => (x, [])) DD out → ZS { K := K } t Γ [] DD) : ZS { K := K } t Γ M { nx := fun _ M' => kk .non M', rt := kk } := by
  refine zs_fr (M0 := []) (R0 := M) (.refl _) ((h { nx := fun _ _ => False, rt := fun d M' => ∃ G M2, (M' ++ M).Perm (M2 ++ G) ∧ kk d M2 } ⟨fun p G1 G2 => ⟨G1 ++ G2, (p, .lst out) :: M, ?_, hk p⟩⟩).imp (fun _ _ h => h.elim) (fun _ _ h => h) (fun _ _ h => h) (fun _ _ h => h))
  show ((G1 ++ (p, MO.lst out) :: (G2 ++ [])) ++ M).Perm ((p, MO.lst out) :: M ++ (G1 ++ G2))
  rw [List.append_nil]
  have e1 : (G1 ++ (p, MO.lst out) :: G2) ++ M = G1 ++ ((p, MO.lst out) :: (G2 ++ M)) := by simp
  rw [e1]
  refine List.perm_middle.trans ?_
  show ((p, MO.lst out) :: (G1 ++ (G2 ++ M))).Perm ((p, MO.lst out) :: (M ++ (G1 ++ G2)))
  refine List.Perm.cons _ ?_
  rw [← List.append_assoc]
  exact List.perm_append_comm
end Z
namespace Z
open PySem PySem.Spec PyProof.Rows L2
variable {c : Cz}
/-- a def that changes two lists -/
theorem perm_pick2 {M : Mem} {i j : Nat} {x y : Addr × MO} (hi : M[i]? = some x) (hj : M[j]? = some y) (hij : i ≠ j) : ∃ R0, M.Perm ([x, y] ++ R0) ∧ ∀ x' y', ((M.set i x').set j y').Perm ([x', y'] ++ R0) := by
  have fin : ∀ l, (M.eraseIdx i)[l]? = some y → (∀ x' y', ((M.set i x').set j y').eraseIdx i = (M.eraseIdx i).set l y') → ∃ R0, M.Perm ([x, y] ++ R0) ∧ ∀ x' y', ((M.set i x').set j y').Perm ([x', y'] ++ R0) := fun l hl he => by
    refine ⟨(M.eraseIdx i).eraseIdx l, (perm_pick hi).trans (List.Perm.append_left [x] (perm_pick hl)), fun x' y' => ?_⟩
    have hi2 : (M.set i x')[i]? = some x' := List.getElem?_set_self (List.getElem?_eq_some_iff.mp hi).1
    have hi3 : ((M.set i x').set j y')[i]? = some x' := by rw [List.getElem?_set_ne (Ne.symm hij)]; exact hi2
    refine (perm_pick hi3).trans (List.Perm.append_left [x'] ?_)
    rw [he x' y']
    exact perm_put hl
  rcases Nat.lt_or_ge j i with h | h
  · refine fin j (by rw [List.getElem?_eraseIdx, if_pos h]; exact hj) fun x' y' => ?_
    rw [List.eraseIdx_set_gt h, List.eraseIdx_set_eq]
  · refine fin (j - 1) (by rw [List.getElem?_eraseIdx, if_neg (by omega), show j - 1 + 1 = j by omega]; exact hj) fun x' y' => ?_
    rw [List.eraseIdx_set_lt (by omega), List.eraseIdx_set_eq]
theorem zs_def2 {K : Fg} {t : TS} {Γ : Gm} {M : Mem} {i j : Nat} {a b : Addr} {ba bb : List D} {out : D × List D × List D} {kk : D → Mem → Prop} (hi : M[i]? = some (a, .lst ba)) (hj : M[j]? = some (b, .lst bb)) (hij : i ≠ j) (hk : kk out.1 ((M.set i (a, .lst out.2.1)).set j (b, .lst out.2.2)))
    (h : ∀ DD : ZEnds, HitD (fun x : D × List D × List D => (x.1, [(a, .lst x.2.1), (b, .lst x.2.2)])) DD out → ZS { K := K } t Γ [(a, .lst ba), (b, .lst bb)] DD) : ZS { K := K } t Γ M { nx := fun _ M' => kk .non M', rt := kk } := by
  obtain ⟨R0, p1, p2⟩ := perm_pick2 hi hj hij
  have key : ∀ G : Mem, ((G ++ [(a, MO.lst out.2.1), (b, MO.lst out.2.2)]) ++ R0).Perm ((M.set i (a, .lst out.2.1)).set j (b, .lst out.2.2) ++ G) := fun G => by
    rw [List.append_assoc]
    exact List.perm_append_comm.trans ((p2 _ _).symm.append_right G)
  refine zs_fr p1 (h _ ⟨fun G => ⟨G, _, key G, hk⟩, fun e Γ' G => ⟨G, _, key G, ?_⟩⟩)
  have e' : out.1 = .non := e
  show kk .non _
  rw [← e']; exact hk
end Z
namespace Z
open PySem PySem.Spec PyProof.Rows L2
variable {c : Cz}
/-! ### sorted -/
def leI (a b : Int) : Bool := decide (a ≤ b)
def sortI (ns : List Int) : List Int := ns.mergeSort leI
theorem sortI_perm (ns : List Int) : (sortI ns).Perm ns := List.mergeSort_perm ns leI
theorem sortI_sorted (ns : List Int) : (sortI ns).Pairwise (· ≤ ·) := by
  have h := List.pairwise_mergeSort (le := leI) (fun a b c h1 h2 => by simp only [leI, decide_eq_true_eq] at *; omega) (fun a b => by simp only [leI, Bool.or_eq_true, decide_eq_true_eq]; omega) ns
  exact h.imp fun h => of_decide_eq_true h
theorem uniq_by {α : Type} {f : α → Int} : ∀ {l m : List α}, l.Perm m → l.Pairwise (fun x y => f x ≤ f y) → m.Pairwise (fun x y => f x ≤ f y) → (∀ x ∈ l, ∀ y ∈ l, f x = f y → x = y) → l = m
  | [], m, h, _, _, _ => (List.perm_nil.mp h.symm).symm
  | x :: l, m, h, h1, h2, hi => by
    cases m with
    | nil => exact absurd (List.perm_nil.mp h) (by simp)
    | cons y m =>
      obtain ⟨a1, a2⟩ := List.pairwise_cons.mp h1
      obtain ⟨b1, b2⟩ := List.pairwise_cons.mp h2
      have hx : x ∈ y :: m := h.mem_iff.mp List.mem_cons_self
      have hy : y ∈ x :: l := h.mem_iff.mpr List.mem_cons_self
      have e1 : f y ≤ f x := by rcases List.mem_cons.mp hx with e | e; rw [e]; exact Int.le_refl _; exact b1 x e
      have e2 : f x ≤ f y := by rcases List.mem_cons.mp hy with e | e; rw [e]; exact Int.le_refl _; exact a1 y e
      have hxy : x = y := hi x List.mem_cons_self y hy (by omega)
      subst hxy
      rw [uniq_by (List.Perm.cons_inv h) a2 b2 fun z hz w hw => hi z (List.mem_cons_of_mem _ hz) w (List.mem_cons_of_mem _ hw)]
def asIR : D → Option (Int × List D)
  | .tup [.int i, .tup ds] => some (i, ds)
  | _ => none
def asIRs : List D → Option (List (Int × List D))
  | [] => some []
  | d :: ds => (asIR d).bind fun p => (asIRs ds).bind fun ps => some (p :: ps)
theorem asIR_eq {d : D} {p : Int × List D} (h : asIR d = some p) : d = irD p := by
  unfold asIR at h
  split at h
  · cases h; rfl
  · cases h
theorem asIRs_eq : ∀ {ds : List D} {ps : List (Int × List D)}, asIRs ds = some ps → ds = ps.map irD
  | [], ps, h => by cases h; rfl
  | d :: ds, ps, h => by
    unfold asIRs at h
    obtain ⟨p, h1, h⟩ := Option.bind_eq_some_iff.mp h
    obtain ⟨qs, h2, h⟩ := Option.bind_eq_some_iff.mp h
    cases h
    rw [asIR_eq h1, asIRs_eq h2]; rfl
theorem asIRs_map : ∀ ps : List (Int × List D), asIRs (ps.map irD) = some ps
  | [] => rfl
  | p :: ps => by
    rw [List.map_cons]; unfold asIRs; rw [asIRs_map ps]; rfl
def leK (p q : Int × List D) : Bool := decide (p.1 ≤ q.1)
def sortK (ps : List (Int × List D)) : List (Int × List D) := ps.mergeSort leK
theorem sortK_perm (ps : List (Int × List D)) : (sortK ps).Perm ps := List.mergeSort_perm ps leK
theorem sortK_sorted (ps : List (Int × List D)) : (sortK ps).Pairwise (fun p q => p.1 ≤ q.1) := by
  have h := List.pairwise_mergeSort (le := leK) (fun a b c h1 h2 => by simp only [leK, decide_eq_true_eq] at *; omega) (fun a b => by simp only [leK, Bool.or_eq_true, decide_eq_true_eq]; omega) ps
  exact h.imp fun h => of_decide_eq_true h
def dSort (d : D) : Option D := (itemsL d).bind fun ds => match asInts ds with
  | some ns => some (.lst ((sortI ns).map .int))
  | none => (asIRs ds).bind fun ps => if (ps.map (·.1)).Nodup then some (.lst ((sortK ps).map irD)) else none
theorem nodup_inj {α : Type} {f : α → Int} : ∀ {l : List α}, (l.map f).Nodup → ∀ x ∈ l, ∀ y ∈ l, f x = f y → x = y
  | [], _, x, hx, _, _, _ => absurd hx List.not_mem_nil
  | z :: l, h, x, hx, y, hy, e => by
    rw [List.map_cons] at h
    obtain ⟨h1, h2⟩ := List.nodup_cons.mp h
    rcases List.mem_cons.mp hx with hx | hx
    · rcases List.mem_cons.mp hy with hy | hy
      · rw [hx, hy]
      · exact absurd (List.mem_map.mpr ⟨y, hy, by rw [← e, hx]⟩) h1
    · rcases List.mem_cons.mp hy with hy | hy
      · exact absurd (List.mem_map.mpr ⟨x, hx, by rw [e, hy]⟩) h1
      · exact nodup_inj h2 x hx y hy e
theorem y_sort {M : Mem} {k : D → Mem → Prop} {dx x z : D} (vx : View M dx x) (h : dSort x = some z) (hk : k z M) : ZC c (rSortZ c.K) [dx] M k := by
  unfold dSort at h
  obtain ⟨ds, h1, h⟩ := Option.bind_eq_some_iff.mp h
  cases e : asInts ds with
  | some ns =>
    rw [e] at h
    cases h
    refine zc_sortI (ns := ns) (by rw [← asInts_eq e]; exact vx.sl h1) fun ns' hp hs => ?_
    have := uniq_by (f := id) (hp.trans (sortI_perm ns).symm) hs (sortI_sorted ns) (fun _ _ _ _ e => e)
    rw [this]; exact hk
  | none =>
    rw [e] at h
    obtain ⟨ps, h2, h⟩ := Option.bind_eq_some_iff.mp h
    split at h
    · rename_i hn
      cases h
      refine zc_sortF (ps := ps) (by rw [← asIRs_eq h2]; exact vx.sl h1) hn fun ps' hp hs => ?_
      have := uniq_by (f := fun p : Int × List D => p.1) (hp.trans (sortK_perm ps).symm) hs (sortK_sorted ps) (fun x hx y hy e => nodup_inj hn x (hp.mem_iff.mp hx) y (hp.mem_iff.mp hy) e)
      rw [this]; exact hk
    · cases h
end Z
set_option Elab.async false
set_option linter.all false
set_option maxRecDepth 100000
set_option maxHeartbeats 4000000
/-! YStr: texts, constants of the module, defs with a star parameter. -/
namespace Z
open PySem PySem.Spec PyProof.Rows L2
variable {c : Cz}
/-! ### texts -/
theorem boot_str' : bootBuiltins "str" = some (.type "str") := by decide +kernel
def rStrZ : List V → Hp → VK → Prop := fun xs H Q => ∃ i : Int, xs = [.int i] ∧ i.natAbs.log2 < 1920 ∧ Q (.str (toString i)) H
theorem cz_str {X : Cx} : CallR X (.type "str") rStrZ := call_str_int
def dStr : D → Option D
  | .int i => gd (decide (i.natAbs.log2 < 1920)) (.str (toString i : Str))
  | _ => none
def dFmt : D → Option D
  | .int i => gd (decide (i.natAbs.log2 < 1920)) (.str (toString i : Str))
  | .str z => gd (decide (z.length ≤ sizeLine)) (.str z)
  | _ => none
def tJoined (ts : List TE) : TE := fun σ H Q => tJs ts Str.empty σ H fun out H1 => Q (.str out) H1
def dJ (acc : Str) : D → Option Str
  | .str y => if (acc ++ y).length ≤ sizeLine then some (acc ++ y) else none
  | _ => none
section
variable {Γ : Gm} {M : Mem} {k : D → Mem → Prop} {x y z dx dy : D} {b : Bool}
theorem y_str (h : dStr x = some z) (hk : k z M) : ZC c rStrZ [x] M k := fun R F H vs Q L r q => by
  obtain ⟨v, rfl, r1⟩ := r.one1
  unfold dStr at h
  split at h
  · obtain ⟨h1, rfl⟩ := gd_some h
    rw [r1.of_int]
    exact ⟨_, rfl, of_decide_eq_true h1, q _ F H M _ (Ex.refl F) L (.str _) hk⟩
  · cases h
theorem z_fmt {te : TE} (h : ZE c te Γ M fun d M1 => ∃ z, dFmt d = some z ∧ k z M1) : ZE c (tFmt te) Γ M k := fun R F σ H Q hs L X q =>
  h R F σ H _ hs L X fun v F1 H1 M1 d e1 L1 r1 ⟨z, hz, hk⟩ => by
    unfold dFmt at hz
    split at hz
    · obtain ⟨h1, rfl⟩ := gd_some hz
      exact .inr ⟨_, r1.of_int, of_decide_eq_true h1, q _ F1 H1 M1 _ e1 L1 (.str _) hk⟩
    · obtain ⟨h1, rfl⟩ := gd_some hz
      exact .inl ⟨_, r1.of_str, of_decide_eq_true h1, q _ F1 H1 M1 _ e1 L1 (.str _) hk⟩
    · cases hz
/-- the parts, one behind another -/
def ZJ (c : Cz) (ts : List TE) (acc : Str) (Γ : Gm) (M : Mem) (k : Str → Mem → Prop) : Prop := ∀ (R : Mem) (F : Hp) (σ : L2.St) (H : Hp) (Q : Str → Hp → Prop), Has c.K F σ Γ → Lay c.K F (M ++ R) H → XOk c R F →
  KOk (fun _ (o : Str) o' => o = o') c.K R F k Q → tJs ts acc σ H Q
theorem zj_nil {acc : Str} {k : Str → Mem → Prop} (h : k acc M) : ZJ c [] acc Γ M k := fun R F σ H Q hs L X q => q acc F H M acc (Ex.refl F) L rfl h
theorem zj_cons {t : TE} {ts : List TE} {acc : Str} {k : Str → Mem → Prop} (h : ZE c t Γ M fun d M1 => ∃ a', dJ acc d = some a' ∧ ZJ c ts a' Γ M1 k) : ZJ c (t :: ts) acc Γ M k := fun R F σ H Q hs L X q =>
  h R F σ H _ hs L X fun v F1 H1 M1 d e1 L1 r1 ⟨a', h1, h2⟩ => by
    unfold dJ at h1
    split at h1
    · split at h1
      · rename_i hl
        cases h1
        exact ⟨_, r1.of_str, hl, h2 R F1 σ H1 Q (hs.mono e1) L1 (X.mono e1) (q.mono e1)⟩
      · cases h1
    · cases h1
theorem z_joined {ts : List TE} (h : ZJ c ts Str.empty Γ M fun out M1 => k (.str out) M1) : ZE c (tJoined ts) Γ M k := fun R F σ H Q hs L X q =>
  h R F σ H _ hs L X fun out F1 H1 M1 out' e1 L1 r1 h1 => by
    subst r1
    exact q _ F1 H1 M1 _ e1 L1 (.str _) h1
theorem p_joined {X : Cx} {v1 v2 : Expr} {rest : List Expr} {ts : List TE} {pos : Pos} (h : PJ X (v1 :: v2 :: rest) ts) : PE X (.JoinedStr (v1 :: v2 :: rest) pos) (tJoined ts) := pe_joined h
/-! in -/
def rInS (n : Bool) : R2 := fun x y H Q => ∃ (c : Nat) (z : Str), x = .str ⟨#[c]⟩ ∧ y = .str z ∧ Q (.bl (if n then !decide (c ∈ z.cps.toList) else decide (c ∈ z.cps.toList))) H
def rInY (K : Fg) (n : Bool) : R2 := fun x y H Q => rIn K n x y H Q ∨ rInS n x y H Q
def bInY (x y : D) : Option Bool := match x, y with
  | .str s, .str z => match s.cps.toList with
    | [c] => if s = ⟨#[c]⟩ then some (decide (c ∈ z.cps.toList)) else none
    | _ => none
  | x, y => bIn x y
section
variable {X : Cx} {a e : Expr} {ta tb : TE} {pos : Pos}
theorem op_inY : OpR X (compareOp .In) (rInY X.K false) := op_in_seq.or op_in_sign
theorem op_notInY : OpR X (compareOp .NotIn) (rInY X.K true) := op_notIn_seq.or op_notIn_sign
theorem p_inY (ha : PE X a ta) (hb : PE X e tb) (hm : behindInMarks .In e = false := by rfl) : PE X (.Compare a [.In] [e] pos) (tOp (rInY X.K false) ta tb) := pe_cmpR op_inY ha hb hm
theorem p_notInY (ha : PE X a ta) (hb : PE X e tb) (hm : behindInMarks .NotIn e = false := by rfl) : PE X (.Compare a [.NotIn] [e] pos) (tOp (rInY X.K true) ta tb) := pe_cmpR op_notInY ha hb hm
theorem q_inY (ha : PE X a ta) (hb : PE X e tb) (hm : behindInMarks .In e = false := by rfl) : PT X (.Compare a [.In] [e] pos) (tTest (tOp (rInY X.K false) ta tb)) := pt_cmpR op_inY ha hb hm
theorem q_notInY (ha : PE X a ta) (hb : PE X e tb) (hm : behindInMarks .NotIn e = false := by rfl) : PT X (.Compare a [.NotIn] [e] pos) (tTest (tOp (rInY X.K true) ta tb)) := pt_cmpR op_notInY ha hb hm
end
theorem y_inB {n : Bool} (vx : View M dx x) (vy : View M dy y) (h : bInY x y = some b) (hk : k (.bl (if n then !b else b)) M) : ZR c (rInY c.K n) dx dy M k := fun R F H v w Q L r1 r2 q => by
  unfold bInY at h
  split at h
  · split at h
    · split at h
      · rename_i hs
        cases h
        rw [vx.str] at r1
        rw [vy.str] at r2
        rw [hs] at r1
        exact .inr ⟨_, _, r1.of_str, r2.of_str, q _ F H M _ (Ex.refl F) L (.bl _) hk⟩
      · cases h
    · cases h
  · cases n with
    | false => exact .inl (y_in (c := c) vx vy h hk R F H v w Q L r1 r2 q)
    | true => exact .inl (y_notIn (c := c) vx vy h hk R F H v w Q L r1 r2 q)
theorem y_inY (vx : View M dx x) (vy : View M dy y) (h : bInY x y = some b) (hk : k (.bl b) M) : ZR c (rInY c.K false) dx dy M k := y_inB vx vy h hk
theorem y_notInY (vx : View M dx x) (vy : View M dy y) (h : bInY x y = some b) (hk : k (.bl (!b)) M) : ZR c (rInY c.K true) dx dy M k := y_inB vx vy h hk
/-! methods of texts -/
def rFindZ : V → List V → Hp → VK → Prop := fun x xs H Q => ∃ a b, x = .str a ∧ xs = [.str b] ∧ Q (.int (Txt.find a b)) H
theorem mt_findZ {X : Cx} : MtR X "str.find" rFindZ := mt_find
def dFind : D → D → Option D
  | .str a, .str b => some (.int (Txt.find a b))
  | _, _ => none
theorem z_bmS {r : V → List V → Hp → VK → Prop} {to : TE} {ta : TA} (h : ZE c to Γ M fun d M1 => (∃ s, d = .str s) ∧ ZA c ta Γ M1 fun xs M2 => ZM c r d xs M2 k) : ZE c (tBM c.K "str" r to ta) Γ M k := fun R F σ H Q hs L X q =>
  h R F σ H _ hs L X fun v F1 H1 M1 d e1 L1 r1 ⟨⟨s, es⟩, h1⟩ => by
    subst es
    refine ⟨by rw [r1.of_str]; rfl, h1 R F1 σ H1 _ (hs.mono e1) L1 (X.mono e1) fun ws F2 H2 M2 xs e2 L2 r2 h2 => h2 R F2 H2 _ ws Q L2 (r1.mono e2) r2 (q.mono (e1.trans e2))⟩
theorem dFind_str (h : dFind x y = some z) : ∃ s, x = .str s := by
  unfold dFind at h
  split at h
  · exact ⟨_, rfl⟩
  · cases h
def isS : D → Option Str
  | .str s => some s
  | _ => none
theorem isS_ok {s : Str} (h : isS x = some s) : ∃ s, x = .str s := by
  unfold isS at h
  split at h
  · exact ⟨_, rfl⟩
  · cases h
theorem y_find (h : dFind x y = some z) (hk : k z M) : ZM c rFindZ x [y] M k := fun R F H v vs Q L r rs q => by
  obtain ⟨w, rfl, r2⟩ := rs.one1
  unfold dFind at h
  split at h
  · cases h
    rw [r.of_str, r2.of_str]
    exact ⟨_, _, rfl, rfl, q _ F H M _ (Ex.refl F) L (.int _) hk⟩
  · cases h
/-! texts walked -/
def itStr : D → Option (List D)
  | .str z => some (signsD z)
  | d => itSeq d
theorem zi_seqY {tl : TE} {kk : List D → Mem → Prop} (h : ZE c tl Γ M fun d M1 => ∃ ds, itStr d = some ds ∧ kk ds M1) : ZI c (iSeqZ c.K tl) Γ M kk := fun R F σ H Q hs L X q =>
  h R F σ H _ hs L X fun v F1 H1 M1 d e1 L1 r1 ⟨ds, hd, h1⟩ => by
    cases d with
    | str z =>
      cases hd
      exact .inr (.inr ⟨z, r1.of_str, q _ F1 H1 M1 _ e1 L1 walks_str h1⟩)
    | tup xs =>
      cases hd
      obtain ⟨a, vs, rfl, p, rr⟩ := r1.of_tup
      exact .inr (.inl ⟨a, rfl, ⟨vs, ex_t L1.fr p⟩, q _ F1 H1 M1 _ e1 L1 (walks_tup p rr) h1⟩)
    | lst xs =>
      cases hd
      obtain ⟨a, vs, rfl, p, rr⟩ := r1.of_lst
      exact .inl ⟨a, rfl, ⟨vs, SqL.of (L1.fr _ _ p)⟩, q _ F1 H1 M1 _ e1 L1 (walks_list (SqL.of p) rr) h1⟩
    | scr xs =>
      cases hd
      obtain ⟨a, vs, rfl, p, rr⟩ := r1.of_scr
      exact .inl ⟨a, rfl, ⟨vs, ex_l L1.fr p⟩, q _ F1 H1 M1 _ e1 L1 (walks_list p rr) h1⟩
    | _ => cases hd
end
end Z
set_option Elab.async false
set_option linter.all false
set_option maxRecDepth 100000
set_option maxHeartbeats 4000000
/-! YFn: constants of the module, defs with a star parameter. -/
namespace Z
open PySem PySem.Spec PyProof.Rows L2
variable {c : Cz}
/-! ### constants -/
mutual
def okD (K : Fg) : D → Value → Bool
  | .non, .none => true
  | .bl b, .bool d => b == d
  | .int i, .int j _ => decide (i = j)
  | .str s, .str z _ => decide (s = z)
  | .tup ds, .ref a => match K.lookup a with
    | some o => decide (o.cls = Value.type "tuple") && (match o.data with
      | .seq its _ => decide (its.size ≤ sizeLine) && okDs K ds its.toList
      | _ => false)
    | none => false
  | _, _ => false
def okDs (K : Fg) : List D → List Value → Bool
  | [], [] => true
  | d :: ds, v :: vs => okD K d v && okDs K ds vs
  | _, _ => false
end
mutual
theorem okD_ok {K : Fg} : ∀ (d : D) (v : Value), okD K d v = true → ∃ x, RelV x v ∧ ∀ F, Rp K F x d
  | .non, v, h => by
    cases v <;> first | exact ⟨.non, rfl, fun _ => .non⟩ | cases h
  | .bl b, v, h => by
    cases v <;> first | cases h | skip
    unfold okD at h
    rw [beq_iff_eq] at h
    subst h
    exact ⟨.bl b, rfl, fun _ => .bl b⟩
  | .int i, v, h => by
    cases v <;> first | cases h | skip
    unfold okD at h
    have h := of_decide_eq_true h
    subst h
    exact ⟨.int i, ⟨_, rfl⟩, fun _ => .int i⟩
  | .str i, v, h => by
    cases v <;> first | cases h | skip
    unfold okD at h
    have h := of_decide_eq_true h
    subst h
    exact ⟨.str i, ⟨_, rfl⟩, fun _ => .str i⟩
  | .tup ds, v, h => by
    cases v <;> first | cases h | skip
    rename_i a
    unfold okD at h
    cases e : K.lookup a with
    | none => rw [e] at h; cases h
    | some o =>
      rw [e] at h
      dsimp only at h
      rw [Bool.and_eq_true] at h
      obtain ⟨h1, h2⟩ := h
      cases e2 : o.data with
      | seq its n =>
        rw [e2] at h2
        dsimp only at h2
        rw [Bool.and_eq_true] at h2
        obtain ⟨xs, hx, hr⟩ := okDs_ok ds its.toList h2.2
        exact ⟨.ref a, rfl, fun F => .mk_tup (.inr ⟨o, its, n, e, of_decide_eq_true h1, e2, of_decide_eq_true h2.1, hx⟩) (hr F)⟩
      | _ => rw [e2] at h2; cases h2
  | .lst _, v, h => by cases v <;> cases h
  | .scr _, v, h => by cases v <;> cases h
  | .ty _, v, h => by cases v <;> cases h
  | .obj _ _, v, h => by cases v <;> cases h
  | .at _, v, h => by cases v <;> cases h
theorem okDs_ok {K : Fg} : ∀ (ds : List D) (vs : List Value), okDs K ds vs = true → ∃ xs, Vals xs vs ∧ ∀ F, Rps K F xs ds
  | [], [], _ => ⟨[], .nil, fun _ => .nil⟩
  | d :: ds, v :: vs, h => by
    unfold okDs at h
    rw [Bool.and_eq_true] at h
    obtain ⟨x, r, p⟩ := okD_ok d v h.1
    obtain ⟨xs, rs, ps⟩ := okDs_ok ds vs h.2
    exact ⟨x :: xs, .cons r rs, fun F => .cons (p F) (ps F)⟩
  | [], _ :: _, h => by cases h
  | _ :: _, [], h => by cases h
end
def constB (K : Fg) (x : Str) (d : D) : Bool := match PySem.W.nsIn K mainGlobals x with
  | some (some v) => okD K d v
  | _ => false
/-- the module's constant x is d -/
structure Cst (K : Fg) (mg : Str → Option Value) (x : Str) (v : V) (d : D) : Prop where
  g : ∃ u, mg x = some u ∧ RelV v u
  r : ∀ F, Rp K F v d
theorem const_ok {K : Fg} {h : Heap} {mg : Str → Option Value} (X : K.In h) (G : h.Ns mainGlobals mg) {x : Str} {d : D} (hc : constB K x d = true) : ∃ v, Cst K mg x v d := by
  unfold constB at hc
  cases e : PySem.W.nsIn K mainGlobals x with
  | none => rw [e] at hc; cases hc
  | some o =>
    rw [e] at hc
    cases o with
    | none => cases hc
    | some u =>
      obtain ⟨v, r, p⟩ := okD_ok d u hc
      exact ⟨v, ⟨u, PySem.W.mg_of X G e, r⟩, p⟩
theorem pe_cst {X : Cx} {x : Str} {v : V} {d : D} {pos : Pos} (hc : Cst X.K X.mg x v d) (hg : Gl X x := by rfl) (hd : (x == ("__debug__" : Str)) = false := by decide) : PE X (.Name x pos) (tC v) := by
  obtain ⟨u, h1, h2⟩ := hc.g
  exact pe_glob hg h1 h2 hd
/-! ### a def called by its positional arguments -/
structure FnZR (P : Program) (w : World) (K : Fg) (mg : Str → Option Value) (base : Heap) (x : Str) (k : Nat) (S : ZSp) : Prop where
  ex : ∃ f, FnR P w K mg base CX0 k f (toSp K S) ∧ mg x = some (.ref f) ∧ PySem.W.keepIn K (.ref f) = true
section
variable {X : Cx} {k : Nat} {S : ZSp} {x : Str} {e : Expr} {es : List Expr} {t : TA} {p pos : Pos}
theorem p_callR {j : Nat} (G : FnZR X.prog X.w X.K X.mg X.base x k S) (hr : Room j X.A) (ha : PA X (e :: es) t) (hj : k ≤ j := by decide) (hg : Gl X x := by rfl) (hdb : (x == ("__debug__" : Str)) = false := by decide)
    (he : starEach (e :: es) X.env = (false, eval e X.env) :: starEach es X.env := by rfl) (hpl : (backTo pos (starEach es X.env)).any (·.1) = false := by rfl) : PE X (.Call (.Name x p) (e :: es) [] pos) (tCB (zcall X.K S) t) := by
  obtain ⟨f, F, hm, hk⟩ := G.ex
  refine ⟨fun pins s σ H Q I h => ?_⟩
  refine wpAny_Call_Name_kw (ld_glob I hg hm ?_ hdb)
  refine PySem.W.callWith_K (h₀ := X.base) I.ok.mod.kin hk (thn (ha.run pos pins s σ H _ I h) fun us s1 ⟨vs, H1, I1, r, q⟩ => ⟨I1.kIn, ?_⟩) he hpl
  exact wpAny_call (run_fnR F (hr.mono hj) pass0 I1 r q)
theorem p_callR0 {j : Nat} (G : FnZR X.prog X.w X.K X.mg X.base x k S) (hr : Room j X.A) (hj : k ≤ j := by decide) (hg : Gl X x := by rfl) (hdb : (x == ("__debug__" : Str)) = false := by decide) : PE X (.Call (.Name x p) [] [] pos) (tCB (zcall X.K S) tNil) := by
  obtain ⟨f, F, hm, hk⟩ := G.ex
  refine ⟨fun pins s σ H Q I h => ?_⟩
  refine wpAny_Call_Name_kw (ld_glob I hg hm ?_ hdb)
  exact PySem.W.callWith_K0 I.kIn hk (wpAny_call (run_fnR (us := []) (vs := []) F (hr.mono hj) pass0 I .nil h))
end
def SStar (n : Nat) (S : ZSp) : ZSp := fun ds M k => ∃ ws rest, ds = ws ++ rest ∧ ws.length = n ∧ rest.length ≤ sizeLine ∧ S (ws ++ [.tup rest]) M k
section
variable {P : Program} {w : World} {K : Fg} {mg : Str → Option Value} {base : Heap} {x qual : Str} {params : Arguments} {body : List Stmt} {scope : Scope} {f : Addr} {fd : FuncData} {N ps : List Str} {k : Nat}
theorem rps_split {F : Hp} : ∀ {vs : List V} {ws rest : List D}, Rps K F vs (ws ++ rest) → ∃ v1 v2, vs = v1 ++ v2 ∧ Rps K F v1 ws ∧ Rps K F v2 rest
  | vs, [], rest, h => ⟨[], vs, rfl, .nil, h⟩
  | vs, w :: ws, rest, h => by
    obtain ⟨v, vs', rfl, r1, r2⟩ := Rps.uncons (d := w) (ds := ws ++ rest) h
    obtain ⟨v1, v2, rfl, r3, r4⟩ := rps_split r2
    exact ⟨v :: v1, v2, rfl, .cons r1 r3, r4⟩
theorem fn_zstar {pv : Str} (F : FunD K x qual params body scope [] [] f fd) (Sc : FnScope N (ps ++ [pv]) scope) (S : ZSp) (t : TS)
    (hb : ∀ (dV kV doc pm : Value) (an : Option Addr) (cdv ct : Value) (us rest : List Value), us.length = ps.length → bindArgs (PySem.W.fnOf x qual params body scope dV kV doc pm an cdv ct) ⟨us ++ rest, []⟩ = (newTuple rest >>= fun t => pure (ps.zip us ++ [(pv, t)])))
    (ht : ∀ (cdv : Value) (A : Around) (outer : List Env) (s : Shared) (H : Hp) (E : XK), Room k (A.deeper (envOfC qual scope s.heap.objs.size f cdv)) → PSs (cxOf CX0 P w K mg base N qual scope f cdv A outer s H E).nox body t)
    (hz : ∀ ds M kk, S ds M kk → ZS { K := K } t (startD N ds) M { nx := fun _ M' => kk .non M', rt := kk }) : FnR P w K mg base CX0 (k + 1) f (toSp K (SStar ps.length S)) := by
  obtain ⟨oc, od, dV, kV, doc, pm, an, cdv, ct, osl, rfl, lk, hcd, hD, hK⟩ := F.ex
  refine (StX.fn_star (sp := toSp K S) lk hcd Sc StX.cxUp_none (hb dV kV doc pm an cdv ct) fun A outer s H vs Q E hr ⟨R, F, M, ds, kk, L, r, sp, q⟩ => ⟨t, (ht cdv A outer s H E hr).nox, ?_⟩).imp fun vs H Q E ⟨R, F, M, ds, kk, L, r, ⟨ws, rest, e, hl, hz, hs⟩, q⟩ => ?_
  · refine hz ds M kk sp R F _ H _ (has_start r) L (fun _ _ _ _ _ _ _ _ _ _ _ _ h => h) ⟨fun σ' F' H' M' Γ' e L' hs' h' => q .non F' H' M' .non e L' .non h', fun v F' H' M' d e L' r' h' => q v F' H' M' d e L' r' h', fun σ' F' H' M' Γ' e L' hs' h' => h'.elim, fun σ' F' H' M' Γ' e L' hs' h' => h'.elim⟩
  · subst e
    obtain ⟨v1, v2, rfl, r1, r2⟩ := rps_split r
    refine ⟨v1, v2, rfl, by rw [r1.len]; exact hl, by rw [r2.len]; exact hz, fun p hp => ?_⟩
    have ex := ex_upd (o := .tup v2) (L.free hp)
    exact ⟨R, _, M, ws ++ [.tup rest], kk, L.new hp, (r1.mono ex).append (.one (.mk_tup (SqT.of upd_same) (r2.mono ex))), hs, q.mono ex⟩
theorem fnzr_of {S : ZSp} (F : FunD K x qual params body scope [] [] f fd) (G : FnR P w K mg base CX0 k f (toSp K S)) (hm : mg x = some (.ref f)) : FnZR P w K mg base x k S := ⟨f, G, hm, F.kp⟩
end
end Z
namespace Z
open PySem PySem.Spec PyProof.Rows L2
variable {c : Cz}
section
variable {S α : Type} {Γ : Gm} {M : Mem} {out : α}
theorem y_andVX {tb : TE} (Ms : S → Mem) {m2 : Option (D × S)} {mr : D → S → Option α} {b : Bool} {s : S} {k : D → Mem → Prop} (h : bp (if b = true then m2 else some (.bl false, s)) mr = some out) (h2 : ∀ v s', m2 = some (v, s') → ∀ k' : D → Mem → Prop, k' v (Ms s') → ZE c tb Γ (Ms s) k')
    (hM : Ms s = M) (hk : ∀ v s', mr v s' = some out → k v (Ms s')) : AndV c tb Γ M b k := by
  subst hM
  unfold bp at h
  obtain ⟨⟨v, s'⟩, e1, e2⟩ := Option.bind_eq_some_iff.mp h
  exact ⟨fun hb => h2 v s' (ifT hb e1) k (hk v s' e2), fun hb => by cases (ifF hb e1); exact hk _ _ e2⟩
theorem y_orVX {tb : TE} (Ms : S → Mem) {m2 : Option (D × S)} {mr : D → S → Option α} {b : Bool} {s : S} {k : D → Mem → Prop} (h : bp (if b = true then some (.bl true, s) else m2) mr = some out) (h2 : ∀ v s', m2 = some (v, s') → ∀ k' : D → Mem → Prop, k' v (Ms s') → ZE c tb Γ (Ms s) k')
    (hM : Ms s = M) (hk : ∀ v s', mr v s' = some out → k v (Ms s')) : OrV c tb Γ M b k := by
  subst hM
  unfold bp at h
  obtain ⟨⟨v, s'⟩, e1, e2⟩ := Option.bind_eq_some_iff.mp h
  exact ⟨fun hb => by cases (ifT hb e1); exact hk _ _ e2, fun hb => h2 v s' (ifF hb e1) k (hk v s' e2)⟩
theorem y_ifEX {ta tb : TE} (Ms : S → Mem) {mA mB : Option (D × S)} {mr : D → S → Option α} {b : Bool} {s : S} {k : D → Mem → Prop} (h : bp (if b = true then mA else mB) mr = some out) (hA : ∀ v s', mA = some (v, s') → ∀ k' : D → Mem → Prop, k' v (Ms s') → ZE c ta Γ (Ms s) k') (hB : ∀ v s', mB = some (v, s') → ∀ k' : D → Mem → Prop, k' v (Ms s') → ZE c tb Γ (Ms s) k')
    (hM : Ms s = M) (hk : ∀ v s', mr v s' = some out → k v (Ms s')) : IfE c ta tb Γ M b k := by
  subst hM
  unfold bp at h
  obtain ⟨⟨v, s'⟩, e1, e2⟩ := Option.bind_eq_some_iff.mp h
  exact ⟨fun hb => hA v s' (ifT hb e1) k (hk v s' e2), fun hb => hB v s' (ifF hb e1) k (hk v s' e2)⟩
end
end Z
set_option Elab.async false
set_option linter.all false
set_option maxRecDepth 100000
set_option maxHeartbeats 4000000
/-! YHead: a def with a star parameter. -/
namespace Z
open PySem PySem.Spec PyProof.Rows L2
section
variable {P : Program} {w : World} {K : Fg} {mg : Str → Option Value} {base : Heap} {x qual : Str} {params : Arguments} {body : List Stmt} {scope : Scope} {f : Addr} {fd : FuncData} {N ps : List Str} {k : Nat}
theorem fn_zstar0 {pv : Str} (F : FunD K x qual params body scope [] [] f fd) (Sc : FnScope N (ps ++ [pv]) scope) (S : ZSp) (t : TS)
    (hb : ∀ (kV doc pm : Value) (an : Option Addr) (cdv ct : Value) (us rest : List Value), us.length = ps.length → bindArgs (PySem.W.fnOf x qual params body scope .none kV doc pm an cdv ct) ⟨us ++ rest, []⟩ = (newTuple rest >>= fun t => pure (ps.zip us ++ [(pv, t)])))
    (ht : ∀ (cdv : Value) (A : Around) (outer : List Env) (s : Shared) (H : Hp) (E : XK), Room k (A.deeper (envOfC qual scope s.heap.objs.size f cdv)) → PSs (cxOf CX0 P w K mg base N qual scope f cdv A outer s H E).nox body t)
    (hz : ∀ ds M kk, S ds M kk → ZS { K := K } t (startD N ds) M { nx := fun _ M' => kk .non M', rt := kk }) : FnR P w K mg base CX0 (k + 1) f (toSp K (SStar ps.length S)) := by
  obtain ⟨oc, od, dV, kV, doc, pm, an, cdv, ct, osl, rfl, lk, hcd, hD, hK⟩ := F.ex
  have hdV : dV = .none := by
    rcases hD with ⟨_, rfl⟩ | ⟨e, _⟩
    · rfl
    · exact absurd rfl e
  subst hdV
  refine (StX.fn_star (sp := toSp K S) lk hcd Sc StX.cxUp_none (hb kV doc pm an cdv ct) fun A outer s H vs Q E hr ⟨R, F, M, ds, kk, L, r, sp, q⟩ => ⟨t, (ht cdv A outer s H E hr).nox, ?_⟩).imp fun vs H Q E ⟨R, F, M, ds, kk, L, r, ⟨ws, rest, e, hl, hz, hs⟩, q⟩ => ?_
  · refine hz ds M kk sp R F _ H _ (has_start r) L (fun _ _ _ _ _ _ _ _ _ _ _ _ h => h) ⟨fun σ' F' H' M' Γ' e L' hs' h' => q .non F' H' M' .non e L' .non h', fun v F' H' M' d e L' r' h' => q v F' H' M' d e L' r' h', fun σ' F' H' M' Γ' e L' hs' h' => h'.elim, fun σ' F' H' M' Γ' e L' hs' h' => h'.elim⟩
  · subst e
    obtain ⟨v1, v2, rfl, r1, r2⟩ := rps_split r
    refine ⟨v1, v2, rfl, by rw [r1.len]; exact hl, by rw [r2.len]; exact hz, fun p hp => ?_⟩
    have ex := ex_upd (o := .tup v2) (L.free hp)
    exact ⟨R, _, M, ws ++ [.tup rest], kk, L.new hp, (r1.mono ex).append (.one (.mk_tup (SqT.of upd_same) (r2.mono ex))), hs, q.mono ex⟩
end
end Z
set_option Elab.async false
set_option linter.all false
set_option maxRecDepth 100000
set_option maxHeartbeats 4000000
/-! YSimp: equations of the operators, for simp. -/
namespace Z
open PySem PySem.Spec PyProof.Rows L2
section
variable {i j : Int} {x y : List D} {d e : D} {b c : Bool}
@[simp] theorem dAdd_ii : dAdd (.int i) (.int j) = some (.int (i + j)) := rfl
@[simp] theorem dSub_ii : dSub (.int i) (.int j) = some (.int (i - j)) := rfl
@[simp] theorem dNeg_i : dNeg (.int i) = some (.int (-i)) := rfl
@[simp] theorem dAbs_i : dAbs (.int i) = some (.int (i.natAbs : Int)) := rfl
@[simp] theorem dInt_i : dInt (.int i) = some (.int i) := rfl
@[simp] theorem dInt_b : dInt (.bl b) = some (.int (if b then 1 else 0)) := rfl
@[simp] theorem dMax2_ii : dMax2 (.int i) (.int j) = some (.int (max i j)) := rfl
@[simp] theorem dMin2_ii : dMin2 (.int i) (.int j) = some (.int (min i j)) := rfl
@[simp] theorem dGcd_ii : dGcd (.int i) (.int j) = some (.int ((Nat.gcd i.natAbs j.natAbs : Nat) : Int)) := rfl
theorem mulB_r (h : j.natAbs < 2 ^ 64) : mulB i j = true := by
  unfold mulB; rw [decide_eq_true h]; simp
theorem mulB_l (h : i.natAbs < 2 ^ 64) : mulB i j = true := by
  unfold mulB; rw [decide_eq_true h]; simp
theorem log2_le_of_lt {n k : Nat} (h : n < 2 ^ k) : n.log2 ≤ k := by
  by_cases h0 : n = 0
  · subst h0; simp
  · exact Nat.le_of_lt ((Nat.log2_lt h0).mpr h)
theorem mulB_n {a c : Nat} (h1 : i.natAbs < 2 ^ a) (h2 : j.natAbs < 2 ^ c) (h : a + c < 1000000) : mulB i j = true := by
  unfold mulB
  have e1 := log2_le_of_lt h1
  have e2 := log2_le_of_lt h2
  rw [decide_eq_true (p := i.natAbs.log2 + j.natAbs.log2 < 1000000) (by omega)]; simp
theorem dMul_ii (h : mulB i j = true) : dMul (.int i) (.int j) = some (.int (i * j)) := gd_of h
theorem dMul_r (h : j.natAbs < 2 ^ 64) : dMul (.int i) (.int j) = some (.int (i * j)) := dMul_ii (mulB_r h)
theorem dMul_l (h : i.natAbs < 2 ^ 64) : dMul (.int i) (.int j) = some (.int (i * j)) := dMul_ii (mulB_l h)
theorem dMul_n {a c : Nat} (h1 : i.natAbs < 2 ^ a) (h2 : j.natAbs < 2 ^ c) (h : a + c < 1000000) : dMul (.int i) (.int j) = some (.int (i * j)) := dMul_ii (mulB_n h1 h2 h)
theorem dMod_ii (h : 0 < j) : dMod (.int i) (.int j) = some (.int (i % j)) := gd_of (decide_eq_true h)
theorem divB_n {a : Nat} (h0 : j ≠ 0) (h1 : j.natAbs < 2 ^ a) (h : a < 9000) : divB j = true := by
  unfold divB
  have e1 := log2_le_of_lt h1
  rw [decide_eq_true h0, decide_eq_true (p := j.natAbs.log2 < 9000) (by omega)]; rfl
theorem dDiv_n {a : Nat} (h0 : j ≠ 0) (h1 : j.natAbs < 2 ^ a) (h : a < 9000) : dDiv (.int i) (.int j) = some (.int (i.fdiv j)) := gd_of (divB_n h0 h1 h)
@[simp] theorem bLt_ii : bLt (.int i) (.int j) = some (decide (i < j)) := rfl
@[simp] theorem bLe_ii : bLe (.int i) (.int j) = some (decide (i ≤ j)) := rfl
@[simp] theorem bGt_ii : bGt (.int i) (.int j) = some (decide (j < i)) := rfl
@[simp] theorem bGe_ii : bGe (.int i) (.int j) = some (decide (j ≤ i)) := rfl
@[simp] theorem bEq_ii : bEq (.int i) (.int j) = some (decide (i = j)) := rfl
@[simp] theorem bEq_bb : bEq (.bl b) (.bl c) = some (decide (b = c)) := rfl
@[simp] theorem bNe_ii : bNe (.int i) (.int j) = some (!decide (i = j)) := rfl
@[simp] theorem bNe_bb : bNe (.bl b) (.bl c) = some (!decide (b = c)) := rfl
@[simp] theorem bEq_ss {s t : Str} : bEq (.str s) (.str t) = some (decide (s = t)) := rfl
@[simp] theorem bNe_ss {s t : Str} : bNe (.str s) (.str t) = some (!decide (s = t)) := rfl
@[simp] theorem bTru_b : bTru (.bl b) = some b := rfl
@[simp] theorem bTru_i : bTru (.int i) = some (i != 0) := rfl
@[simp] theorem bTru_non : bTru .non = some false := rfl
@[simp] theorem bTru_l : bTru (.lst x) = some (!x.isEmpty) := rfl
@[simp] theorem bTru_t : bTru (.tup x) = some (!x.isEmpty) := rfl
@[simp] theorem dBl_b : dBl (.bl b) = some b := rfl
@[simp] theorem dLen_t : dLen (.tup x) = some (.int (x.length : Nat)) := rfl
@[simp] theorem dLen_l : dLen (.lst x) = some (.int (x.length : Nat)) := rfl
@[simp] theorem dLen_s : dLen (.scr x) = some (.int (x.length : Nat)) := rfl
@[simp] theorem dPart_i : dPart (.int i) = some (some i) := rfl
@[simp] theorem un2_t : un2 (.tup [d, e]) = some (d, e) := rfl
@[simp] theorem items_t : items (.tup x) = some x := rfl
@[simp] theorem items_l : items (.lst x) = some x := rfl
@[simp] theorem itStr_t : itStr (.tup x) = some x := rfl
@[simp] theorem itStr_l : itStr (.lst x) = some x := rfl
@[simp] theorem itStr_s {z : Str} : itStr (.str z) = some (signsD z) := rfl
@[simp] theorem dTuple_l : dTuple (.lst x) = some (.tup x) := rfl
@[simp] theorem dTuple_t : dTuple (.tup x) = some (.tup x) := rfl
@[simp] theorem dList_t : dList (.tup x) = some (.lst x) := rfl
@[simp] theorem dList_l : dList (.lst x) = some (.lst x) := rfl
@[simp] theorem dSum_l {ns : List Int} : dSum (.lst (ns.map .int)) = some (.int ns.sum) := by unfold dSum; simp [itemsL]
@[simp] theorem isNon_i : isNon (.int i) = false := rfl
@[simp] theorem isNon_non : isNon .non = true := rfl
@[simp] theorem isNon_t : isNon (.tup x) = false := rfl
@[simp] theorem isNon_l : isNon (.lst x) = false := rfl
theorem itRng1_n {n : Nat} (h : n < 2 ^ 62) : itRng1 (.int (n : Int)) = some (rngD 0 n) := by
  have h' : ((n : Nat) : Int) < 2 ^ 62 := by exact_mod_cast h
  have hb : rngB (n : Int) = true := by unfold rngB; rw [Bool.and_eq_true]; exact ⟨decide_eq_true (by omega), decide_eq_true h'⟩
  show (if rngB (n : Int) = true then some (rngD 0 (n : Int).toNat) else none) = _
  rw [if_pos hb, Int.toNat_natCast]
@[simp] theorem ii_int : bIsi (.int i) "int" = some true := rfl
@[simp] theorem ii_bool : bIsi (.int i) "bool" = some false := rfl
@[simp] theorem ii_tup : bIsi (.tup x) "tuple" = some true := rfl
@[simp] theorem ii_bb : bIsi (.bl b) "bool" = some true := rfl
@[simp] theorem ii_str {s : Str} : bIsi (.str s) "str" = some true := rfl
@[simp] theorem ii_ll : bIsi (.lst x) "list" = some true := rfl
theorem dIx_l {n : Nat} {v : D} (h : x[n]? = some v) : dIx (.lst x) (.int (n : Int)) = some v := L2.atI_nat h
theorem dIx_t {n : Nat} {v : D} (h : x[n]? = some v) : dIx (.tup x) (.int (n : Int)) = some v := L2.atI_nat h
theorem dIx_sc {n : Nat} {v : D} (h : x[n]? = some v) : dIx (.scr x) (.int (n : Int)) = some v := L2.atI_nat h
@[simp] theorem dIx_l0 : dIx (.lst (d :: x)) (.int 0) = some d := dIx_l (n := 0) rfl
@[simp] theorem dIx_t0 : dIx (.tup (d :: x)) (.int 0) = some d := dIx_t (n := 0) rfl
@[simp] theorem dIx_l1 : dIx (.lst (d :: e :: x)) (.int 1) = some e := dIx_l (n := 1) rfl
@[simp] theorem dIx_t1 : dIx (.tup (d :: e :: x)) (.int 1) = some e := dIx_t (n := 1) rfl
@[simp] theorem dIx_l2 {f : D} : dIx (.lst (d :: e :: f :: x)) (.int 2) = some f := dIx_l (n := 2) rfl
@[simp] theorem dIx_t2 {f : D} : dIx (.tup (d :: e :: f :: x)) (.int 2) = some f := dIx_t (n := 2) rfl
theorem dSet_n {n : Nat} (h : n < x.length) : dSet x (.int (n : Int)) d = some (x.set n d) := by
  have e : L2.ixN x.length (n : Int) = some n := by
    unfold L2.ixN
    rw [if_pos (by omega), if_pos (by omega), Int.toNat_natCast]
  show (L2.ixN x.length (n : Int)).map _ = _
  rw [e]; rfl
@[simp] theorem dSet_0 {f : D} : dSet (f :: x) (.int 0) d = some (d :: x) := dSet_n (n := 0) (by simp)
@[simp] theorem dSet_1 {f g : D} : dSet (f :: g :: x) (.int 1) d = some (f :: d :: x) := dSet_n (n := 1) (by simp)
@[simp] theorem dSet_2 {f g h : D} : dSet (f :: g :: h :: x) (.int 2) d = some (f :: g :: d :: x) := dSet_n (n := 2) (by simp)
theorem dApp_ok (h : x.length < sizeLine) : dApp x d = some (x ++ [d]) := by unfold dApp; rw [if_pos h]
end
section
variable {S R : Type}
theorem foldO_cons {f : S → D → Option S} {d : D} {ds : List D} {s s' : S} (h : f s d = some s') : foldO f (d :: ds) s = foldO f ds s' := by
  show (f s d).bind _ = _
  rw [h]; rfl
/-- a fold by an invariant -/
theorem foldO_inv {f : S → D → Option S} (I : Nat → S → Prop) : ∀ (ds : List D) (k : Nat) (s : S), I k s → (∀ i d s, ds[i]? = some d → I (k + i) s → ∃ s', f s d = some s' ∧ I (k + i + 1) s') → ∃ s', foldO f ds s = some s' ∧ I (k + ds.length) s'
  | [], k, s, h, _ => ⟨s, rfl, h⟩
  | d :: ds, k, s, h, hs => by
    obtain ⟨s1, e1, h1⟩ := hs 0 d s rfl h
    obtain ⟨s2, e2, h2⟩ := foldO_inv I ds (k + 1) s1 h1 fun i d s hd hI => by
      have := hs (i + 1) d s hd (by rw [show k + (i + 1) = k + 1 + i by omega]; exact hI)
      rwa [show k + (i + 1) + 1 = k + 1 + i + 1 by omega] at this
    refine ⟨s2, by rw [foldO_cons e1]; exact e2, ?_⟩
    rw [List.length_cons, show k + (ds.length + 1) = k + 1 + ds.length by omega]; exact h2
theorem forL_all {f : S → D → Option (Fl S S R)} (I : S → Prop) : ∀ (ds : List D) (s : S), I s → (∀ d ∈ ds, ∀ s, I s → ∃ s', f s d = some (.nx s') ∧ I s') → ∃ s', forL f ds s = some (.nx s') ∧ I s'
  | [], s, h, _ => ⟨s, rfl, h⟩
  | d :: ds, s, h, hs => by
    obtain ⟨s1, e1, h1⟩ := hs d List.mem_cons_self s h
    obtain ⟨s2, e2, h2⟩ := forL_all I ds s1 h1 fun d hd => hs d (List.mem_cons_of_mem _ hd)
    refine ⟨s2, ?_, h2⟩
    show (f s d).bind _ = _
    rw [e1]; exact e2
theorem forL_unit {f : Unit → D → Option (Fl Unit Unit R)} {ds : List D} (h : ∀ d ∈ ds, f () d = some (.nx ())) : forL f ds () = some (.nx ()) := by
  obtain ⟨_, e, _⟩ := forL_all (fun _ => True) ds () trivial fun d hd s _ => ⟨(), h d hd, trivial⟩
  exact e
theorem mapO_map {α : Type} {f : D → Option D} {g : α → D} {r : α → D} : ∀ {xs : List α}, (∀ x ∈ xs, f (g x) = some (r x)) → mapO f (xs.map g) = some (xs.map r)
  | [], _ => rfl
  | x :: xs, h => by
    show (f (g x)).bind _ = _
    rw [h x List.mem_cons_self]
    show (mapO f (xs.map g)).bind _ = _
    rw [mapO_map fun y hy => h y (List.mem_cons_of_mem _ hy)]; rfl
theorem lcO_map {α : Type} {f : D → Option D} {g : α → D} {r : α → D} {xs : List α} (hl : xs.length ≤ sizeLine) (h : ∀ x ∈ xs, f (g x) = some (r x)) : lcO f (xs.map g) = some (xs.map r) := by
  unfold lcO; rw [List.length_map, if_pos hl]; exact mapO_map h
theorem filO_map {α : Type} {f : D → Option (Option D)} {g : α → D} {p : α → Bool} : ∀ {xs : List α}, (∀ x ∈ xs, f (g x) = some (if p x then some (g x) else none)) → filO f (xs.map g) = some ((xs.filter p).map g)
  | [], _ => rfl
  | x :: xs, h => by
    show (f (g x)).bind _ = _
    rw [h x List.mem_cons_self]
    show (filO f (xs.map g)).bind _ = _
    rw [filO_map fun y hy => h y (List.mem_cons_of_mem _ hy)]
    cases e : p x with
    | true => rw [List.filter_cons_of_pos e]; simp
    | false => rw [List.filter_cons_of_neg (by rw [e]; decide)]; simp
theorem lcF_map {α : Type} {f : D → Option (Option D)} {g : α → D} {p : α → Bool} {xs : List α} (hl : xs.length ≤ sizeLine) (h : ∀ x ∈ xs, f (g x) = some (if p x then some (g x) else none)) : lcF f (xs.map g) = some ((xs.filter p).map g) := by
  unfold lcF; rw [List.length_map, if_pos hl]; exact filO_map h
/-- a comprehension that draws -/
theorem mapS_all {f : S → D → Option (D × S)} (I : S → Prop) (P : D → Prop) : ∀ (ds : List D) (s : S), I s → (∀ d ∈ ds, ∀ s, I s → ∃ y s', f s d = some (y, s') ∧ P y ∧ I s') → ∃ ys s', mapS f ds s = some (ys, s') ∧ ys.length = ds.length ∧ (∀ y ∈ ys, P y) ∧ I s'
  | [], s, h, _ => ⟨[], s, rfl, rfl, fun _ h => absurd h List.not_mem_nil, h⟩
  | d :: ds, s, h, hs => by
    obtain ⟨y, s1, e1, p1, h1⟩ := hs d List.mem_cons_self s h
    obtain ⟨ys, s2, e2, l2, p2, h2⟩ := mapS_all I P ds s1 h1 fun d hd => hs d (List.mem_cons_of_mem _ hd)
    refine ⟨y :: ys, s2, ?_, by rw [List.length_cons, List.length_cons, l2], fun z hz => ?_, h2⟩
    · show bp (f s d) _ = _
      rw [e1, bp_some, e2, bp_some]
    · rcases List.mem_cons.mp hz with rfl | hz
      · exact p1
      · exact p2 z hz
theorem lcS_all {f : S → D → Option (D × S)} (I : S → Prop) (P : D → Prop) {ds : List D} {s : S} (hl : ds.length ≤ sizeLine) (h : I s) (hs : ∀ d ∈ ds, ∀ s, I s → ∃ y s', f s d = some (y, s') ∧ P y ∧ I s') : ∃ ys s', lcS f ds s = some (ys, s') ∧ ys.length = ds.length ∧ (∀ y ∈ ys, P y) ∧ I s' := by
  unfold lcS; rw [if_pos hl]; exact mapS_all I P ds s h hs
theorem mem_rngD {n : Nat} {d : D} (h : d ∈ rngD 0 n) : ∃ i, i < n ∧ d = .int ((i : Nat) : Int) := by
  unfold rngD at h
  obtain ⟨i, hi, rfl⟩ := List.mem_map.mp h
  exact ⟨i, List.mem_range.mp hi, by rw [Int.zero_add]⟩
theorem all_map {α : Type} {g : α → D} : ∀ {ys : List D}, (∀ y ∈ ys, ∃ x, y = g x) → ∃ xs : List α, ys = xs.map g
  | [], _ => ⟨[], rfl⟩
  | y :: ys, h => by
    obtain ⟨x, rfl⟩ := h y List.mem_cons_self
    obtain ⟨xs, rfl⟩ := all_map (g := g) fun z hz => h z (List.mem_cons_of_mem _ hz)
    exact ⟨x :: xs, rfl⟩
end
end Z
set_option Elab.async false
set_option linter.all false
set_option maxRecDepth 100000
set_option maxHeartbeats 4000000
/-! YSimp2: loops by an invariant, read off the goal. -/
namespace Z
open PySem PySem.Spec PyProof.Rows L2
theorem fin_all {S R : Type} {f : S → D → Option (Fl S S R)} {ds : List D} {s : S} {mr : S → Option R} (I : S → Prop) (P : R → Prop) (h : I s) (hs : ∀ d ∈ ds, ∀ s, I s → ∃ s', f s d = some (.nx s') ∧ I s') (hm : ∀ s, I s → ∃ r, mr s = some r ∧ P r) : ∃ r, Fl.fin (forL f ds s) mr = some r ∧ P r := by
  obtain ⟨s', e, h'⟩ := forL_all (R := R) I ds s h hs
  rw [e]; exact hm s' h'
theorem fin_unit {R : Type} {f : Unit → D → Option (Fl Unit Unit R)} {ds : List D} {mr : Unit → Option R} {r : R} (hs : ∀ d ∈ ds, f () d = some (.nx ())) (hm : mr () = some r) : Fl.fin (forL f ds ()) mr = some r := by
  rw [forL_unit hs]; exact hm
theorem pass_unit {R N S α : Type} {f : Unit → D → Option (Fl Unit Unit R)} {ds : List D} {mr : Unit → Option (Fl N S R)} {r : Fl N S R} (hs : ∀ d ∈ ds, f () d = some (.nx ())) (hm : mr () = some r) : Fl.pass (forL f ds ()) mr = some r := by
  rw [forL_unit hs]; exact hm
theorem fold_all {S β : Type} {f : S → D → Option S} {ds : List D} {s : S} {mr : S → Option β} (I : S → Prop) (P : β → Prop) (h : I s) (hs : ∀ d ∈ ds, ∀ s, I s → ∃ s', f s d = some s' ∧ I s') (hm : ∀ s, I s → ∃ r, mr s = some r ∧ P r) : ∃ r, (foldO f ds s).bind mr = some r ∧ P r := by
  obtain ⟨s', e, h'⟩ := foldO_inv (fun _ => I) ds 0 s h fun i d s hd hI => hs d (List.mem_of_getElem? hd) s hI
  rw [e]; exact hm s' h'
theorem fold_ix {S β : Type} {f : S → D → Option S} {ds : List D} {s : S} {mr : S → Option β} (I : Nat → S → Prop) (P : β → Prop) (h : I 0 s) (hs : ∀ i d s, ds[i]? = some d → I i s → ∃ s', f s d = some s' ∧ I (i + 1) s') (hm : ∀ s, I ds.length s → ∃ r, mr s = some r ∧ P r) : ∃ r, (foldO f ds s).bind mr = some r ∧ P r := by
  obtain ⟨s', e, h'⟩ := foldO_inv I ds 0 s h fun i d s hd hI => by
    rw [Nat.zero_add] at hI ⊢; exact hs i d s hd hI
  rw [Nat.zero_add] at h'
  rw [e]; exact hm s' h'
/-- a comprehension that draws, then the rest -/
theorem lcS_then {S β : Type} {f : S → D → Option (D × S)} {ds : List D} {s : S} {mr : List D → S → Option β} (I : S → Prop) (P : D → Prop) (Q : β → Prop) (hl : ds.length ≤ sizeLine) (h : I s) (hs : ∀ d ∈ ds, ∀ s, I s → ∃ y s', f s d = some (y, s') ∧ P y ∧ I s') (hm : ∀ ys s, ys.length = ds.length → (∀ y ∈ ys, P y) → I s → ∃ r, mr ys s = some r ∧ Q r) : ∃ r, bp (lcS f ds s) mr = some r ∧ Q r := by
  obtain ⟨ys, s', e, l, p, h'⟩ := lcS_all I P hl h hs
  rw [e, bp_some]; exact hm ys s' l p h'
theorem ex_pr {V S : Type} {m : Option (V × S)} {v : V} {I : S → Prop} (h : ∃ r, m = some r ∧ ∃ b, r = (v, b) ∧ I b) : ∃ b, m = some (v, b) ∧ I b := by
  obtain ⟨r, e, b, rfl, hb⟩ := h
  exact ⟨b, e, hb⟩
theorem ex_pr2 {A B : Type} {m : Option (A × B)} {P : A → B → Prop} (h : ∃ r, m = some r ∧ ∃ a b, r = (a, b) ∧ P a b) : ∃ a b, m = some (a, b) ∧ P a b := by
  obtain ⟨r, e, a, b, rfl, hp⟩ := h
  exact ⟨a, b, e, hp⟩
theorem ex_pr3 {A B α : Type} {m : Option (A × B)} {g : α → A} {P : α → B → Prop} (h : ∃ r, m = some r ∧ ∃ a b, r = (g a, b) ∧ P a b) : ∃ a b, m = some (g a, b) ∧ P a b := by
  obtain ⟨r, e, a, b, rfl, hp⟩ := h
  exact ⟨a, b, e, hp⟩
theorem ex_nx {N S R : Type} {m : Option (Fl N S R)} {I : N → Prop} (h : ∃ r, m = some r ∧ ∃ b, r = .nx b ∧ I b) : ∃ b, m = some (.nx b) ∧ I b := by
  obtain ⟨r, e, b, rfl, hb⟩ := h
  exact ⟨b, e, hb⟩
theorem ex_eq {V : Type} {m : Option V} {v : V} (h : ∃ r, m = some r ∧ r = v) : m = some v := by
  obtain ⟨r, e, rfl⟩ := h
  exact e
end Z
set_option Elab.async false
set_option linter.all false
set_option maxRecDepth 100000
set_option maxHeartbeats 4000000
/-! YTxt: texts of numbers, parts of texts. -/
namespace Z
open PySem PySem.Spec PyProof.Rows L2 TL
/-- the signs of an integer -/
def tI (i : Int) : List Nat := if i < 0 then 45 :: numL i.natAbs else numL i.natAbs
theorem tl_int (i : Int) : tl (Str.ofString (toString i)) = tI i := by
  unfold tI
  by_cases h : i < 0
  · rw [if_pos h]
    obtain ⟨m, rfl⟩ : ∃ m : Nat, i = Int.negSucc m := ⟨(-i - 1).toNat, by omega⟩
    have e : toString (Int.negSucc m) = "-" ++ toString ((m + 1 : Nat) : Int) := rfl
    have e2 : (Int.negSucc m).natAbs = m + 1 := rfl
    rw [e, e2, ← tl_num (m + 1), tl_ofString, tl_ofString, String.toList_append, List.map_append]
    rfl
  · rw [if_neg h]
    obtain ⟨m, rfl⟩ : ∃ m : Nat, i = (m : Int) := ⟨i.toNat, by omega⟩
    exact tl_num m
theorem pow2_10 (n : Nat) : 2 ^ n ≤ 10 ^ n := Nat.pow_le_pow_left (by decide) n
theorem tI_len {i : Int} {n : Nat} (h0 : 0 < n) (h : i.natAbs < 2 ^ n) : (tI i).length ≤ n + 1 := by
  have := numL_len (n := i.natAbs) h0 (Nat.lt_of_lt_of_le h (pow2_10 n))
  unfold tI
  split
  · rw [List.length_cons]; omega
  · omega
theorem log_lt {i : Int} {n : Nat} (h : i.natAbs < 2 ^ n) (hn : n < 1920) : decide (i.natAbs.log2 < 1920) = true := by
  have := log2_le_of_lt h
  exact decide_eq_true (by omega)
theorem dStr_n {i : Int} {n : Nat} (h : i.natAbs < 2 ^ n) (hn : n < 1920) : dStr (.int i) = some (.str (Str.ofString (toString i))) := gd_of (log_lt h hn)
theorem dFmt_n {i : Int} {n : Nat} (h : i.natAbs < 2 ^ n) (hn : n < 1920) : dFmt (.int i) = some (.str (Str.ofString (toString i))) := gd_of (log_lt h hn)
theorem dJ_ok {x y : Str} (h : (tl x).length + (tl y).length ≤ 100000) : dJ x (.str y) = some (x ++ y) := by
  show (if (x ++ y).length ≤ sizeLine then some (x ++ y) else none) = _
  rw [if_pos]
  rw [len_tl, tl_append, List.length_append]
  have : sizeLine = 16777216 := rfl
  omega
theorem size_ok {n : Nat} (h : n ≤ 100000) : n ≤ sizeLine := by
  have : sizeLine = 16777216 := rfl
  omega
theorem tl_mk1 (n : Nat) : tl (⟨#[n]⟩ : Str) = [n] := rfl
/-- the place of a sign -/
theorem find_at {x y : Str} {s : Nat} {a b : List Nat} (ey : tl y = [s]) (ex : tl x = a ++ s :: b) (h : s ∉ a) : Txt.find x y = (a.length : Int) := by
  have hy : tl y ≠ [] := by rw [ey]; simp
  have hA : StrLaws.At x y x.length a.length := (at_iff hy _).mpr (by rw [ey, ex, List.drop_left]; simp [pre])
  rcases find_whole x y with ⟨_, hn⟩ | ⟨i, e, hi, hk⟩
  · exact absurd hA (hn _)
  · rw [e]
    have h1 : ¬ a.length < i := fun hl => hk _ hl hA
    have h2 := (at_iff hy _).mp hi
    rw [ey, ex] at h2
    by_cases h3 : i < a.length
    · rw [List.drop_append_of_le_length (by omega), List.drop_eq_getElem_cons h3, List.cons_append] at h2
      have h4 : [a[i]] = [s] := by simpa [pre] using h2
      have : a[i] = s := by simpa using h4
      exact absurd (this ▸ List.getElem_mem h3) h
    · have : i = a.length := by omega
      rw [this]
theorem dFind_at {x y : Str} {s : Nat} {a b : List Nat} (ey : tl y = [s]) (ex : tl x = a ++ s :: b) (h : s ∉ a) : dFind (.str x) (.str y) = some (.int (a.length : Int)) := by
  show some (D.int (Txt.find x y)) = _
  rw [find_at ey ex h]
/-- a sign in a text -/
theorem bIn_sign {x y : Str} {s : Nat} (ex : tl x = [s]) : bInY (.str x) (.str y) = some (decide (s ∈ tl y)) := by
  have e : x = ⟨#[s]⟩ := ext_tl ex
  subst e
  show (if (⟨#[s]⟩ : Str) = (⟨#[s]⟩ : Str) then some (decide (s ∈ tl y)) else none) = _
  rw [if_pos rfl]
theorem str_eq {x y : Str} : decide (x = y) = decide (tl x = tl y) := decide_eq_decide.mpr ⟨fun h => by rw [h], fun h => ext_tl h⟩
theorem bEq_tl {x y : Str} : bEq (.str x) (.str y) = some (decide (tl x = tl y)) := by rw [bEq_ss, str_eq]
theorem bNe_tl {x y : Str} : bNe (.str x) (.str y) = some (!decide (tl x = tl y)) := by rw [bNe_ss, str_eq]
/-- parts of a text -/
theorem slice_to {x : Str} {k : Nat} (hx : x.length ≤ sizeLine) : ∃ y, dSlice (.str x) none (some (k : Int)) = some (.str y) ∧ tl y = (tl x).take k := by
  refine ⟨_, gd_of (decide_eq_true hx), ?_⟩
  unfold cutS
  rw [tl_mk, HT.sIx_none, HT.sIx_nat, List.drop_zero, Nat.sub_zero, len_tl]
  show List.take (min k (tl x).length) (tl x) = _
  by_cases h : k ≤ (tl x).length
  · rw [Nat.min_eq_left h]
  · rw [Nat.min_eq_right (by omega), List.take_length, List.take_of_length_le (by omega)]
theorem slice_from {x : Str} {k : Nat} (hx : x.length ≤ sizeLine) : ∃ y, dSlice (.str x) (some (k : Int)) none = some (.str y) ∧ tl y = (tl x).drop k := by
  refine ⟨_, gd_of (decide_eq_true hx), ?_⟩
  unfold cutS
  rw [tl_mk, HT.sIx_none, HT.sIx_nat, len_tl]
  show List.take ((tl x).length - min k (tl x).length) (List.drop (min k (tl x).length) (tl x)) = _
  by_cases h : k ≤ (tl x).length
  · rw [Nat.min_eq_left h, List.take_of_length_le (by rw [List.length_drop]; exact Nat.le_refl _)]
  · rw [Nat.min_eq_right (by omega), List.drop_length, List.drop_eq_nil_of_le (by omega), List.take_nil]
theorem dIx_s0 {x : Str} {s : Nat} {r : List Nat} (ex : tl x = s :: r) (hx : x.length ≤ sizeLine) : dIx (.str x) (.int 0) = some (.str ⟨#[s]⟩) := by
  show (if x.length ≤ sizeLine then (L2.atI x.cps.toList 0).map fun n => D.str ⟨#[n]⟩ else none) = _
  rw [if_pos hx, show x.cps.toList = s :: r from ex]
  rw [show L2.atI (s :: r) 0 = some s from L2.atI_nat (j := 0) rfl]; rfl
theorem signs_tl {x : Str} : signsD x = (tl x).map fun n => D.str ⟨#[n]⟩ := rfl
/-- a loop that only steps -/
theorem forL_foldl {S R α β : Type} {f : S → D → Option (Fl S S R)} {g : α → D} {r : β → S} {st : β → α → β} : ∀ {xs : List α} {s : β}, (∀ s x, x ∈ xs → f (r s) (g x) = some (.nx (r (st s x)))) → forL f (xs.map g) (r s) = some (.nx (r (xs.foldl st s)))
  | [], s, _ => rfl
  | x :: xs, s, h => by
    show (f (r s) (g x)).bind _ = _
    rw [h s x List.mem_cons_self]
    exact forL_foldl fun s y hy => h s y (List.mem_cons_of_mem _ hy)
theorem digits_mem : tl (Str.ofString "0123456789") = [48, 49, 50, 51, 52, 53, 54, 55, 56, 57] := by rw [tl_ofString]; rfl
theorem digit_in {c : Nat} (h : 48 ≤ c ∧ c ≤ 57) : bInY (.str ⟨#[c]⟩) (.str (Str.ofString "0123456789")) = some true := by
  rw [bIn_sign (s := c) rfl, digits_mem]
  congr 1
  rw [decide_eq_true_eq]
  simp only [List.mem_cons, List.not_mem_nil, or_false]; omega
theorem digit_find {c : Nat} (h : 48 ≤ c ∧ c ≤ 57) : dFind (.str (Str.ofString "0123456789")) (.str ⟨#[c]⟩) = some (.int ((c : Int) - 48)) := by
  have key : ∀ (d : Nat) (a b : List Nat), [48, 49, 50, 51, 52, 53, 54, 55, 56, 57] = a ++ (48 + d) :: b → a.length = d → (48 + d) ∉ a → dFind (.str (Str.ofString "0123456789")) (.str ⟨#[48 + d]⟩) = some (.int (((48 + d : Nat) : Int) - 48)) := fun d a b e hl hn => by
    rw [dFind_at (s := 48 + d) rfl (digits_mem.trans e) hn, hl]
    congr 2
    omega
  obtain ⟨d, rfl⟩ : ∃ d, c = 48 + d := ⟨c - 48, by omega⟩
  have hd : d ≤ 9 := by omega
  have : d = 0 ∨ d = 1 ∨ d = 2 ∨ d = 3 ∨ d = 4 ∨ d = 5 ∨ d = 6 ∨ d = 7 ∨ d = 8 ∨ d = 9 := by omega
  rcases this with rfl | rfl | rfl | rfl | rfl | rfl | rfl | rfl | rfl | rfl
  · exact key 0 [] [49, 50, 51, 52, 53, 54, 55, 56, 57] rfl rfl (by decide)
  · exact key 1 [48] [50, 51, 52, 53, 54, 55, 56, 57] rfl rfl (by decide)
  · exact key 2 [48, 49] [51, 52, 53, 54, 55, 56, 57] rfl rfl (by decide)
  · exact key 3 [48, 49, 50] [52, 53, 54, 55, 56, 57] rfl rfl (by decide)
  · exact key 4 [48, 49, 50, 51] [53, 54, 55, 56, 57] rfl rfl (by decide)
  · exact key 5 [48, 49, 50, 51, 52] [54, 55, 56, 57] rfl rfl (by decide)
  · exact key 6 [48, 49, 50, 51, 52, 53] [55, 56, 57] rfl rfl (by decide)
  · exact key 7 [48, 49, 50, 51, 52, 53, 54] [56, 57] rfl rfl (by decide)
  · exact key 8 [48, 49, 50, 51, 52, 53, 54, 55] [57] rfl rfl (by decide)
  · exact key 9 [48, 49, 50, 51, 52, 53, 54, 55, 56] [] rfl rfl (by decide)
/-- the first sign of a number -/
theorem numL_head : ∀ (n : Nat), 0 < n → ∃ c r, numL n = c :: r ∧ 49 ≤ c ∧ c ≤ 57 := by
  intro n
  induction n using Nat.strongRecOn with
  | _ n ih =>
    intro hn
    by_cases h : n < 10
    · exact ⟨48 + n, [], numL_lt h, by omega, by omega⟩
    · obtain ⟨c, r, e, h1, h2⟩ := ih (n / 10) (by omega) (by omega)
      exact ⟨c, r ++ [48 + n % 10], by rw [numL_step (by omega), e]; rfl, h1, h2⟩
theorem tI_head (i : Int) : ∃ c r, tI i = c :: r ∧ (i < 0 → c = 45) ∧ (0 ≤ i → 48 ≤ c ∧ c ≤ 57) := by
  unfold tI
  by_cases h : i < 0
  · rw [if_pos h]; exact ⟨45, _, rfl, fun _ => rfl, fun h' => by omega⟩
  · rw [if_neg h]
    by_cases h0 : i.natAbs = 0
    · rw [h0]; exact ⟨48, [], numL_lt (by decide), fun h' => by omega, fun _ => by omega⟩
    · obtain ⟨c, r, e, h1, h2⟩ := numL_head i.natAbs (by omega)
      exact ⟨c, r, e, fun h' => by omega, fun _ => by omega⟩
theorem tI_free {i : Int} {s : Nat} (h : s ≠ 45) (h2 : s < 48 ∨ 57 < s) : s ∉ tI i := by
  unfold tI
  split
  · rw [List.mem_cons]
    rintro (h' | h')
    · exact h h'
    · exact numL_free h2 h'
  · exact numL_free h2
end Z
set_option Elab.async false
set_option linter.all false
set_option maxRecDepth 100000
set_option maxHeartbeats 4000000
/-! YCls: instances: fields, methods, making. -/
namespace Z
open PySem PySem.Spec PyProof.Rows L2
/-! ### named data -/
section
variable {K : Fg} {F : Hp} {vs : List (Str × V)} {fs : List (Str × D)}
theorem Rpf.nil : Rpf K F [] [] := ⟨rfl, fun i q p h _ => by simp at h, fun i q p h _ => by simp at h⟩
theorem Rpf.cons {f : Str} {v : V} {d : D} (h : Rp K F v d) (t : Rpf K F vs fs) : Rpf K F ((f, v) :: vs) ((f, d) :: fs) := ⟨by rw [List.length_cons, List.length_cons, t.len], fun i q p a b => by
  cases i with
  | zero =>
    rw [List.getElem?_cons_zero] at a b
    cases a; cases b; rfl
  | succ i => rw [List.getElem?_cons_succ] at a b; exact t.nm i q p a b, fun i q p a b => by
  cases i with
  | zero =>
    rw [List.getElem?_cons_zero] at a b
    cases a; cases b; exact h
  | succ i => rw [List.getElem?_cons_succ] at a b; exact t.at_ i q p a b⟩
theorem Rpf.uncons {p : Str × D} (h : Rpf K F vs (p :: fs)) : ∃ v vs', vs = (p.1, v) :: vs' ∧ Rp K F v p.2 ∧ Rpf K F vs' fs := by
  cases vs with
  | nil => exact absurd h.len (by simp)
  | cons q vs' =>
    obtain ⟨g, v⟩ := q
    have e := h.nm 0 (g, v) p rfl rfl
    refine ⟨v, vs', by rw [← e], h.at_ 0 (g, v) p rfl rfl, ⟨by simpa using h.len, fun i x y a b => h.nm (i + 1) x y (by simpa using a) (by simpa using b), fun i x y a b => h.at_ (i + 1) x y (by simpa using a) (by simpa using b)⟩⟩
theorem Rpf.unnil (h : Rpf K F vs []) : vs = [] := List.eq_nil_of_length_eq_zero h.len
theorem Rpf.look {f : Str} {d : D} : ∀ {fs : List (Str × D)} {vs : List (Str × V)}, Rpf K F vs fs → fs.lookup f = some d → ∃ v, vs.lookup f = some v ∧ Rp K F v d
  | [], _, _, e => by cases e
  | p :: fs, vs, h, e => by
    obtain ⟨v, vs', rfl, r, t⟩ := h.uncons
    rw [List.lookup_cons] at e ⊢
    cases hb : f == p.1 with
    | true => rw [hb] at e; cases e; exact ⟨v, rfl, r⟩
    | false => rw [hb] at e; exact t.look e
theorem Rpf.look_none {f : Str} : ∀ {fs : List (Str × D)} {vs : List (Str × V)}, Rpf K F vs fs → fs.lookup f = none → vs.lookup f = none
  | [], _, h, _ => by rw [h.unnil]; rfl
  | p :: fs, vs, h, e => by
    obtain ⟨v, vs', rfl, r, t⟩ := h.uncons
    rw [List.lookup_cons] at e ⊢
    cases hb : f == p.1 with
    | true => rw [hb] at e; cases e
    | false => rw [hb] at e; exact t.look_none e
def putD (f : Str) (d : D) : List (Str × D) → List (Str × D)
  | [] => [(f, d)]
  | (g, x) :: r => if g = f then (g, d) :: r else (g, x) :: putD f d r
theorem Rpf.put {f : Str} {v : V} {d : D} (hv : Rp K F v d) : ∀ {fs : List (Str × D)} {vs : List (Str × V)}, Rpf K F vs fs → Rpf K F (putF f v vs) (putD f d fs)
  | [], _, h => by rw [h.unnil]; exact .cons hv .nil
  | (g, x) :: fs, vs, h => by
    obtain ⟨v', vs', rfl, r, t⟩ := h.uncons
    unfold putF putD
    by_cases e : g = f
    · rw [if_pos e, if_pos e]; exact .cons hv t
    · rw [if_neg e, if_neg e]; exact .cons r (Rpf.put hv t)
end
/-! ### what a slot's instance stands for -/
inductive ViewO (M : Mem) : D → D → Prop
  | eq {d : D} : ViewO M d d
  | «at» {a C : Addr} {fs : List (Str × D)} (i : Nat) (h : M[i]? = some (a, .ins C fs)) : ViewO M (.at a) (.obj C fs)
theorem ViewO.ins {K : Fg} {F H : Hp} {M R : Mem} {dx : D} {C : Addr} {fs : List (Str × D)} {v : V} (w : ViewO M dx (.obj C fs)) (L : Lay K F (M ++ R) H) (r : Rp K F v dx) : ∃ a dd vs, v = .ref a ∧ H a = some (.ins C dd vs) ∧ Rpf K F vs fs := by
  cases w with
  | eq =>
    obtain ⟨a, dd, vs, e, h, t⟩ := r.of_obj
    exact ⟨a, dd, vs, e, L.fr _ _ h, t⟩
  | «at» i h =>
    rename_i a
    obtain ⟨dd, vs, h2, t⟩ := L.mu _ (List.mem_append_left _ (List.mem_of_getElem? h))
    exact ⟨a, dd, vs, r.of_at, h2, t⟩
/-! ### fields -/
def rFld (K : Fg) (f : Str) : V → Hp → VK → Prop := fun x H Q => ∃ a C dx fs v, x = .ref a ∧ H a = some (.ins C dx fs) ∧ Cls K C ∧ NoAttr K C f ∧ fs.lookup f = some v ∧ Q v H
/-- f is a field of the instances of these classes -/
def FldOk (K : Fg) (cs : List Addr) (f : Str) : Prop := ∀ C ∈ cs, Cls K C ∧ NoAttr K C f
def dFld (cs : List Addr) (f : Str) : D → Option D
  | .obj C fs => if C ∈ cs then fs.lookup f else none
  | _ => none
def dPut (fs : List (Str × D)) (f : Str) (d : D) : Option (List (Str × D)) := if fs.length < 1000 then some (putD f d fs) else none
section
variable {X : Cx} {e o value : Expr} {ta tv : TE} {f : Str} {pos pos' : Pos}
theorem p_fld (he : PE X e ta) (hb : attributeBase e f X.env (eval e X.env) = eval e X.env := by rfl) : PE X (.Attribute e f pos) (tUn (rFld X.K f) ta) := pe_fld he hb
end
variable {c : Cz}
section
variable {Γ : Gm} {M M' : Mem} {k : D → Mem → Prop} {x z dx : D} {f : Str} {cs : List Addr} {DD : ZEnds} {ta tv : TE}
theorem y_fld (v : ViewO M dx x) (h : dFld cs f x = some z) (hc : FldOk c.K cs f) (hk : k z M) : ZU c (rFld c.K f) dx M k := fun R F H v' Q L r q => by
  unfold dFld at h
  split at h
  · split at h
    · rename_i C fs hC
      obtain ⟨a, dd, vs, rfl, hH, t⟩ := v.ins L r
      obtain ⟨u, hu, ru⟩ := t.look h
      exact ⟨a, C, dd, vs, u, rfl, hH, (hc C hC).1, (hc C hC).2, hu, q u F H M z (Ex.refl F) L ru hk⟩
    · cases h
  · cases h
theorem zs_fld (hc : FldOk c.K cs f) (h : ZE c tv Γ M fun y M1 => ZE c ta Γ M1 fun x M2 => ∃ a i C fs fs' M', x = .at a ∧ M2[i]? = some (a, .ins C fs) ∧ C ∈ cs ∧ dPut fs f y = some fs' ∧ M2.set i (a, .ins C fs') = M' ∧ DD.nx Γ M') : ZS c (sFld c.K ta tv f) Γ M DD := fun R F σ H D hs L X q =>
  h R F σ H _ hs L X fun v F1 H1 M1 y e1 L1 r1 h1 => h1 R F1 σ H1 _ (hs.mono e1) L1 (X.mono e1) fun w F2 H2 M2 x e2 L2 r2 ⟨a, i, C, fs, fs', M', ex, hi, hC, hp, hM, hk⟩ => by
    subst ex
    subst hM
    unfold dPut at hp
    split at hp
    · rename_i hl
      cases hp
      obtain ⟨dd, vs, hH, t⟩ := L2.mu _ (List.mem_append_left R (List.mem_of_getElem? hi))
      refine ⟨a, C, dd, vs, r2.of_at, hH, (hc C hC).1, (hc C hC).2, by rw [t.len]; exact hl, ?_⟩
      have hi' : (M2 ++ R)[i]? = some (a, .ins C fs) := by rw [List.getElem?_append_left (List.getElem?_eq_some_iff.mp hi).1]; exact hi
      have L3 := L2.set hi' (mo' := .ins C (putD f y fs)) (o := .ins C dd (putF f v vs)) ⟨dd, _, upd_same, t.put (r1.mono e2)⟩
      rw [List.set_append_left _ _ (List.getElem?_eq_some_iff.mp hi).1] at L3
      exact q.nx σ F2 _ _ Γ (e1.trans e2) L3 (hs.mono (e1.trans e2)) hk
    · cases hp
end
/-! ### methods -/
/-- the method m of the class keeps the promise S -/
structure MtZ (P : Program) (w : World) (K : Fg) (mg : Str → Option Value) (base : Heap) (C : Addr) (m : Str) (k : Nat) (S : ZSp) : Prop where
  cl : Cls K C
  ex : ∃ (f : Addr) (fd : FuncData) (ps : List Str) (sp : Sp) (ds : List Value) (dvs : List V), Meth K C m f ∧ FnOk P w K mg base CX0 k f fd ps sp ∧ Binds K fd ps ds ∧ Vals dvs ds ∧
    ∀ vs H Q, zcall K S vs H Q → sp (vs ++ dvs) H Q E0
def tMth (C : Addr) (m : Str) (r : List V → Hp → VK → Prop) (ta : TE) (t : TA) : TE := fun σ H Q => ta σ H fun x H1 => (∃ a dx fs, x = .ref a ∧ H1 a = some (.ins C dx fs) ∧ fs.lookup m = none) ∧ t σ H1 fun vs H2 => r (x :: vs) H2 Q
def dMth (C : Addr) (m : Str) : D → Option Unit
  | .obj C' fs => if C' = C ∧ fs.lookup m = none then some () else none
  | _ => none
section
variable {X : Cx} {o e : Expr} {es : List Expr} {ta : TE} {t : TA} {m : Str} {apos pos : Pos} {C : Addr} {k j : Nat} {S : ZSp}
theorem p_meth {pl : Sem Bool} (G : MtZ X.prog X.w X.K X.mg X.base C m k S) (hr : Room j X.A) (ho : PE X o ta) (ha : PA X (e :: es) t) (hj : k ≤ j := by decide)
    (hst : starEach (e :: es) X.env = (false, eval e X.env) :: starEach es X.env := by rfl) (hpl : (backTo pos (starEach es X.env)).any (·.1) = false := by rfl)
    (ht : eval (.Call (.Attribute o m apos) (e :: es) [] pos) X.env = (do
      let ov ← eval o X.env
      standAt apos.atName
      let (f, first) ← holding [ov] (getMethod ov m pl)
      callWith pos f first (backTo pos (starEach (e :: es) X.env)) (backToKw pos (keywordEach [] X.env))) := by rfl) :
    PE X (.Call (.Attribute o m apos) (e :: es) [] pos) (tMth C m (zcall X.K S) ta t) := by
  obtain ⟨f, fd, ps, sp, ds, dvs, hm, F, hb, hd, hs⟩ := G.ex
  refine ⟨fun pins s σ H Q I h => ?_⟩
  refine PySem.W.methodCall_KW (pl := pl) (thn (ho.run pins s σ H _ I h) fun u s1 ⟨x, H1, I1, rx, ⟨a, dx, fs, ex, ea, l⟩, q⟩ => ?_) ht
  subst ex
  obtain rfl : u = Value.ref a := rx
  refine getmeth_ok I1 ea G.cl hm l ?_
  refine PySem.W.callWith_K (first := [.ref a]) (h₀ := X.base) I.ok.mod.kin hm.kp (thn (ha.run pos pins s1 σ H1 _ I1 q) fun us s2 ⟨vs, H2, I2, r, q2⟩ => ⟨I2.kIn, ?_⟩) hst hpl
  exact run_fn (us := .ref a :: us) (vs := .ref a :: vs) F (hr.mono hj) hb hd pass0 I2 (.cons rfl r) (hs _ H2 Q q2)
theorem p_meth0 {pl : Sem Bool} (G : MtZ X.prog X.w X.K X.mg X.base C m k S) (hr : Room j X.A) (ho : PE X o ta) (hj : k ≤ j := by decide)
    (ht : eval (.Call (.Attribute o m apos) [] [] pos) X.env = (do
      let ov ← eval o X.env
      standAt apos.atName
      let (f, first) ← holding [ov] (getMethod ov m pl)
      callWith pos f first (backTo pos (starEach [] X.env)) (backToKw pos (keywordEach [] X.env))) := by rfl) :
    PE X (.Call (.Attribute o m apos) [] [] pos) (tMth C m (zcall X.K S) ta tNil) := by
  obtain ⟨f, fd, ps, sp, ds, dvs, hm, F, hb, hd, hs⟩ := G.ex
  refine ⟨fun pins s σ H Q I h => ?_⟩
  refine PySem.W.methodCall_KW (pl := pl) (thn (ho.run pins s σ H _ I h) fun u s1 ⟨x, H1, I1, rx, ⟨a, dx, fs, ex, ea, l⟩, q⟩ => ?_) ht
  subst ex
  obtain rfl : u = Value.ref a := rx
  refine getmeth_ok I1 ea G.cl hm l ?_
  exact PySem.W.callWith_K0 (first := [.ref a]) I1.kIn hm.kp (run_fn (us := [.ref a]) (vs := [.ref a]) F (hr.mono hj) hb hd pass0 I1 (.cons rfl .nil) (hs [.ref a] H1 Q q))
end
theorem z_mth {Γ : Gm} {M : Mem} {k : D → Mem → Prop} {C : Addr} {m : Str} {r : List V → Hp → VK → Prop} {ta : TE} {t : TA}
    (h : ZE c ta Γ M fun x M1 => (∃ y, ViewO M1 x y ∧ dMth C m y = some ()) ∧ ZA c t Γ M1 fun xs M2 => ZC c r (x :: xs) M2 k) : ZE c (tMth C m r ta t) Γ M k := fun R F σ H Q hs L X q =>
  h R F σ H _ hs L X fun v F1 H1 M1 x e1 L1 r1 ⟨⟨y, w, hy⟩, h1⟩ => by
    refine ⟨?_, h1 R F1 σ H1 _ (hs.mono e1) L1 (X.mono e1) fun vs F2 H2 M2 xs e2 L2 r2 h2 => h2 R F2 H2 (v :: vs) Q L2 (.cons (r1.mono e2) r2) (q.mono (e1.trans e2))⟩
    unfold dMth at hy
    split at hy
    · split at hy
      · rename_i C' fs hC
        obtain ⟨hC, hl⟩ := hC
        subst hC
        obtain ⟨a, dd, vs, rfl, hH, t⟩ := w.ins L1 r1
        exact ⟨a, dd, vs, rfl, hH, t.look_none hl⟩
      · cases hy
    · cases hy
/-! ### making -/
def rMk (K : Fg) (C : Addr) (S : ZSp) : List V → Hp → VK → Prop := fun vs H Q => ∀ x dx, H x = none → H dx = none → dx ≠ x → zcall K S (.ref x :: vs) (upd (upd H dx (.own x)) x (.ins C dx [])) (fun v H2 => v = .non ∧ Q (.ref x) H2)
/-- x(..) makes an instance of C, its __init__ keeps the promise S -/
structure MkZ (P : Program) (w : World) (K : Fg) (mg : Str → Option Value) (base : Heap) (x : Str) (C : Addr) (k : Nat) (S : ZSp) : Prop where
  ex : ∃ (f : Addr) (fd : FuncData) (ps : List Str) (sp : Sp) (ds : List Value) (dvs : List V), Mk K C f ∧ FnOk P w K mg base CX0 k f fd ps sp ∧ mg x = some (.ref C) ∧ Binds K fd ps ds ∧ Vals dvs ds ∧
    ∀ v vs H Q, zcall K S (v :: vs) H Q → sp (v :: (vs ++ dvs)) H Q E0
/-- .. with keywords: g puts the values in the parameters' order -/
structure MkKZ (P : Program) (w : World) (K : Fg) (mg : Str → Option Value) (base : Heap) (x : Str) (C : Addr) (k n : Nat) (ks : List Str) (g : List V → List V → List V) (S : ZSp) : Prop where
  ex : ∃ (f : Addr) (fd : FuncData) (ps : List Str) (sp : Sp) (gg : List Value → List Value → List Value) (gV : List V → List V → List V), Mk K C f ∧ FnOk P w K mg base CX0 k f fd ps sp ∧ mg x = some (.ref C) ∧ KBn K fd ps (n + 1) ks gg gV ∧
    ∀ v vs zs H Q, vs.length = n → zs.length = ks.length → zcall K S (v :: g vs zs) H Q → sp (gV (v :: vs) zs) H Q E0
def tMkK (n m : Nat) (r : List V → Hp → VK → Prop) (g : List V → List V → List V) (t tk : TA) : TE := fun σ H Q => t σ H fun vs H1 => tk σ H1 fun zs H2 => vs.length = n ∧ zs.length = m ∧ r (g vs zs) H2 Q
section
variable {X : Cx} {x : Str} {p pos : Pos} {e : Expr} {es : List Expr} {kws : List Keyword} {t tk : TA} {C : Addr} {k j n : Nat} {ks : List Str} {g : List V → List V → List V} {S : ZSp}
theorem p_make (G : MkZ X.prog X.w X.K X.mg X.base x C k S) (hr : Room j X.A) (ha : PA X (e :: es) t) (hj : k + 1 ≤ j := by decide) (hg : Gl X x := by rfl) (hdb : (x == ("__debug__" : Str)) = false := by decide)
    (he : starEach (e :: es) X.env = (false, eval e X.env) :: starEach es X.env := by rfl) (hpl : (backTo pos (starEach es X.env)).any (·.1) = false := by rfl) : PE X (.Call (.Name x p) (e :: es) [] pos) (tCB (rMk X.K C S) t) := by
  obtain ⟨f, fd, ps, sp, ds, dvs, M, F, hm, hb, hd, hs⟩ := G.ex
  refine ⟨fun pins s σ H Q I h => ?_⟩
  refine wpAny_Call_Name_kw (ld_glob I hg hm ?_ hdb)
  refine PySem.W.callWith_K (h₀ := X.base) I.ok.mod.kin M.kp (thn (ha.run pos pins s σ H _ I h) fun us s1 ⟨vs, H1, I1, r, q⟩ => ⟨I1.kIn, ?_⟩) he hpl
  exact run_make M F (hr.mono hj) hb hd pass0 I1 r fun x dx h1 h2 h3 => hs _ _ _ _ (q x dx h1 h2 h3)
theorem p_make0 (G : MkZ X.prog X.w X.K X.mg X.base x C k S) (hr : Room j X.A) (hj : k + 1 ≤ j := by decide) (hg : Gl X x := by rfl) (hdb : (x == ("__debug__" : Str)) = false := by decide) : PE X (.Call (.Name x p) [] [] pos) (tCB (rMk X.K C S) tNil) := by
  obtain ⟨f, fd, ps, sp, ds, dvs, M, F, hm, hb, hd, hs⟩ := G.ex
  refine ⟨fun pins s σ H Q I h => ?_⟩
  refine wpAny_Call_Name_kw (ld_glob I hg hm ?_ hdb)
  exact PySem.W.callWith_K0 I.kIn M.kp (run_make (us := []) M F (hr.mono hj) hb hd pass0 I .nil fun x dx h1 h2 h3 => hs _ [] _ _ (h x dx h1 h2 h3))
theorem p_makeK (G : MkKZ X.prog X.w X.K X.mg X.base x C k n ks g S) (hr : Room j X.A) (ha : PA X (e :: es) t) (hkw : PK X kws tk) (hj : k + 1 ≤ j := by decide) (hg : Gl X x := by rfl) (hdb : (x == ("__debug__" : Str)) = false := by decide)
    (hall : (backToKw pos (keywordEach kws X.env)).all (·.1.isSome) = true := by rfl) (hks : (backToKw pos (keywordEach kws X.env)).filterMap (·.1) = ks := by rfl)
    (he : starEach (e :: es) X.env = (false, eval e X.env) :: starEach es X.env := by rfl) (hpl : ((backTo pos (starEach (e :: es) X.env)).any (·.1) || (backToKw pos (keywordEach kws X.env)).any (·.1.isNone)) = false := by rfl) :
    PE X (.Call (.Name x p) (e :: es) kws pos) (tMkK n ks.length (rMk X.K C S) g t tk) := by
  obtain ⟨f, fd, ps, sp, gg, gV, M, F, hm, hb, hs⟩ := G.ex
  refine ⟨fun pins s σ H Q I h => ?_⟩
  refine wpAny_Call_Name_kw (ld_glob I hg hm ?_ hdb)
  refine PySem.W.callWith_KW (h₀ := X.base) I.ok.mod.kin M.kp hall (thn (ha.run pos pins s σ H _ I h) fun us s1 ⟨vs, H1, I1, r, q⟩ => ?_) hpl he
  refine thn (hkw.run pos pins s1 σ H1 _ I1 q) fun ws s2 ⟨zs, H2, I2, rz, l1, l2, q2⟩ => ⟨I2.kIn, ?_⟩
  rw [hks]
  exact run_makeK M F (hr.mono hj) hb pass0 I2 r rz l1 l2 fun x dx h1 h2 h3 => hs _ _ _ _ _ l1 l2 (q2 x dx h1 h2 h3)
end
section
variable {Γ : Gm} {M : Mem} {k : D → Mem → Prop} {C : Addr} {S : ZSp} {xs : List D} {fs : List (Str × D)}
theorem y_make (h : ∀ x, S (.at x :: xs) ((x, .ins C []) :: M) (fun d M' => d = .non ∧ M' = (x, .ins C fs) :: M)) (hk : k (.obj C fs) M) : ZC c (rMk c.K C S) xs M k := fun R F H vs Q L r q => by
  intro x dx hx hdx hne
  have L1 : Lay c.K F (M ++ R) (upd H dx (.own x)) := L.grow fun a o e => by
    rw [upd_ne (fun z => by rw [z, hdx] at e; cases e)]; exact e
  have L2 := L1.newM (p := x) (mo := .ins C []) (o := .ins C dx []) (by rw [upd_ne (Ne.symm hne)]; exact hx) ⟨dx, [], upd_same, Rpf.nil⟩
  refine ⟨R, F, (x, .ins C []) :: M, .at x :: xs, _, L2, .cons (.at x) r, h x, fun v F' H' M' d e L' r' ⟨hd, hM⟩ => ?_⟩
  subst hd
  subst hM
  refine ⟨r'.of_non, ?_⟩
  obtain ⟨dd, ws, hH, t⟩ := L'.at_ (i := 0) rfl
  obtain ⟨L3, e3⟩ := L'.frz (i := 0) rfl hH
  have t' := t.mono e3
  exact q (.ref x) _ H' M (.obj C fs) (e.trans e3) L3 (.obj upd_same t'.len t'.nm t'.at_) hk
theorem z_makeK {n m : Nat} {r : List V → Hp → VK → Prop} {g : List V → List V → List V} {t tk : TA}
    (h : ZA c t Γ M fun xs M1 => ZA c tk Γ M1 fun ys M2 => xs.length = n ∧ ys.length = m ∧ ∃ zs, (∀ F vs ws, Rps c.K F vs xs → Rps c.K F ws ys → Rps c.K F (g vs ws) zs) ∧ ZC c r zs M2 k) : ZE c (tMkK n m r g t tk) Γ M k := fun R F σ H Q hs L X q =>
  h R F σ H _ hs L X fun vs F1 H1 M1 xs e1 L1 r1 h1 => h1 R F1 σ H1 _ (hs.mono e1) L1 (X.mono e1) fun ws F2 H2 M2 ys e2 L2 r2 ⟨l1, l2, zs, hz, h2⟩ =>
    ⟨(r1.len).trans l1, (r2.len).trans l2, h2 R F2 H2 _ Q L2 (hz F2 vs ws (r1.mono e2) r2) (q.mono (e1.trans e2))⟩
end
end Z
set_option Elab.async false
set_option linter.all false
set_option maxRecDepth 100000
set_option maxHeartbeats 4000000
/-! YCls2: constants of classes, defs over one changing thing, lists by +, dicts. -/
namespace Z
open PySem PySem.Spec PyProof.Rows L2
/-! ### constants of a class -/
structure CCon (K : Fg) (mg : Str → Option Value) (x : Str) (C : Addr) (f : Str) (v : V) : Prop where
  g : mg x = some (.ref C)
  ex : ∃ mc u, ClX.CRead K C mc ∧ ClX.CVal K C mc f v u
theorem p_ccon {X : Cx} {x : Str} {C : Addr} {f : Str} {v : V} {p pos : Pos} (h : CCon X.K X.mg x C f v) (hg : Gl X x := by rfl) (hd : (x == ("__debug__" : Str)) = false := by decide)
    (hb : attributeBase (.Name x p) f X.env (eval (.Name x p) X.env) = eval (.Name x p) X.env := by rfl) : PE X (.Attribute (.Name x p) f pos) (tC v) := by
  obtain ⟨g, mc, u, r, k⟩ := h
  exact ⟨fun pins s σ H Q I q => (ClX.pe_cval (f := f) (pe_glob (v := .ref C) (pos := p) hg g rfl hd) hb).run pins s σ H Q I ⟨C, mc, v, u, rfl, r, k, q⟩⟩
variable {c : Cz}
/-! ### a def over one thing of the memory -/
theorem zs_defG {K : Fg} {t : TS} {Γ : Gm} {M : Mem} {i : Nat} {a : Addr} {mo mo' : MO} {α : Type} {kd : α → D × Mem} {out : α} {kk : D → Mem → Prop} (hi : M[i]? = some (a, mo)) (hkd : (kd out).2 = [(a, mo')]) (hk : kk (kd out).1 (M.set i (a, mo')))
    (h : ∀ DD : ZEnds, HitD kd DD out → ZS { K := K } t Γ [(a, mo)] DD) : ZS { K := K } t Γ M { nx := fun _ M' => kk .non M', rt := kk } := by
  have key : ∀ G : Mem, ((G ++ (kd out).2) ++ M.eraseIdx i).Perm (M.set i (a, mo') ++ G) := fun G => by
    rw [hkd, List.append_assoc]
    exact List.perm_append_comm.trans ((perm_put hi).symm.append_right G)
  refine zs_fr (perm_pick hi) (h _ ⟨fun G => ⟨G, _, key G, hk⟩, fun e Γ' G => ⟨G, _, key G, ?_⟩⟩)
  show kk .non _
  rw [← e]; exact hk
theorem set_id {M : Mem} {i : Nat} {p : Addr × MO} (h : M[i]? = some p) : M.set i p = M := by
  obtain ⟨hl, rfl⟩ := List.getElem?_eq_some_iff.mp h
  exact List.set_getElem_self hl
/-! ### a fresh list by + -/
theorem z_addM {ta tb : TE} {Γ : Gm} {M : Mem} {k : D → Mem → Prop} (h : ZE c ta Γ M fun x M1 => ZE c tb Γ M1 fun y M2 => ∃ xs ys zs, View M2 x (.lst xs) ∧ View M2 y (.lst ys) ∧ dExt xs (.lst ys) = some zs ∧ ∀ p, k (.at p) ((p, .lst zs) :: M2)) : ZE c (tOp (rAddZ c.K) ta tb) Γ M k := fun R F σ H Q hs L X q =>
  h R F σ H _ hs L X fun v F1 H1 M1 x e1 L1 r1 h1 => h1 R F1 σ H1 _ (hs.mono e1) L1 (X.mono e1) fun w F2 H2 M2 y e2 L2 r2 ⟨xs, ys, zs, s1, s2, hz, hk⟩ => .inr (.inr (.inl (by
    obtain ⟨a, vs, rfl, ea, p1⟩ := s1.lstSt.read L2 (r1.mono e2)
    obtain ⟨b, ws, rfl, eb, p2⟩ := s2.lstSt.read L2 r2
    have hz' : xs.length + ys.length ≤ sizeLine ∧ zs = xs ++ ys := by
      simp only [dExt] at hz
      split at hz
      · rename_i hl
        cases hz
        exact ⟨hl, rfl⟩
      · cases hz
    obtain ⟨hl, rfl⟩ := hz'
    exact ⟨a, b, vs, ws, rfl, rfl, ea, eb, by rw [p1.len, p2.len]; exact hl, fun p hp => q _ F2 _ ((p, .lst (xs ++ ys)) :: M2) (.at p) (e1.trans e2) (L2.newM hp ⟨_, upd_same, p1.append p2⟩) (.at p) (hk p)⟩)))
/-! ### dicts that change: keys are ints and texts -/
def dKey : D → Option Key
  | .int i => some (.inl i)
  | .str s => some (.inr s)
  | _ => none
theorem dKey_rp {K : Fg} {F : Hp} {v : V} {d : D} {k : Key} (h : dKey d = some k) (r : Rp K F v d) : v = kV k := by
  unfold dKey at h
  split at h
  · cases h; exact r.of_int
  · cases h; exact r.of_str
  · cases h
def bInK (kvs : List (Key × D)) (x : D) : Option Bool := (dKey x).map fun k => kvs.any fun kv => decide (kv.1 = k)
def dPutK (kvs : List (Key × D)) (x d : D) : Option (List (Key × D)) := (dKey x).bind fun k => if kvs.length < sizeLine then some (if (kvs.any fun kv => decide (kv.1 = k)) = true then kvs.map (fun kv => if kv.1 = k then (kv.1, d) else kv) else kvs ++ [(k, d)]) else none
theorem z_dnewM {Γ : Gm} {M : Mem} {k : D → Mem → Prop} (hk : ∀ p, k (.at p) ((p, .dK []) :: M)) : ZE c tDNewK Γ M k := fun R F σ H Q hs L X q => fun p hp =>
  q (.ref p) F _ ((p, .dK []) :: M) (.at p) (Ex.refl F) (L.newM hp ⟨[], upd_same, rfl, .nil⟩) (.at p) (hk p)
def rInK : R2 := fun x y H Q => ∃ a o, y = .ref a ∧ DGet H a x o ∧ Q (.bl o.isSome) H
theorem op_inK {X : Cx} (hu : X.A.units + 64 < cLine) : OpR X (compareOp .In) rInK := by
  intro pins s σ H x y v u Q I rx ry h
  obtain ⟨a, o, ey, g, q⟩ := h
  subst ey
  cases (show u = Value.ref a from ry)
  exact d_in (by omega) I g rx fun s' I' => ⟨.bl o.isSome, H, I', rfl, q⟩
section
variable {X : Cx} {a e : Expr} {ta tb : TE} {pos : Pos}
theorem p_inK (hu : X.A.units + 64 < cLine) (ha : PE X a ta) (hb : PE X e tb) (hm : behindInMarks .In e = false := by rfl) : PE X (.Compare a [.In] [e] pos) (tOp rInK ta tb) := pe_cmpR (op_inK hu) ha hb hm
theorem q_inK (hu : X.A.units + 64 < cLine) (ha : PE X a ta) (hb : PE X e tb) (hm : behindInMarks .In e = false := by rfl) : PT X (.Compare a [.In] [e] pos) (tTest (tOp rInK ta tb)) := pt_cmpR (op_inK hu) ha hb hm
theorem set_dictU (hu : X.A.units + 64 < cLine) : PSet X rSetD := set_dict (by omega)
end
theorem valV_any {ws : List (Key × V)} {kvs : List (Key × D)} {k : Key} (h : ws.map (·.1) = kvs.map (·.1)) : (valV ws k).isSome = kvs.any fun kv => decide (kv.1 = k) := by
  unfold valV
  rw [Option.isSome_map]
  induction ws generalizing kvs with
  | nil =>
    cases kvs with
    | nil => rfl
    | cons q kvs => cases h
  | cons p ws ih =>
    cases kvs with
    | nil => cases h
    | cons q kvs =>
      rw [List.map_cons, List.map_cons] at h
      injection h with h1 h2
      rw [List.find?_cons, List.any_cons, h1]
      cases decide (q.1 = k) with
      | true => rfl
      | false => rw [Bool.false_or]; exact ih h2
theorem y_inK {M : Mem} {k : D → Mem → Prop} {a : Addr} {i : Nat} {kvs : List (Key × D)} {x : D} {b : Bool} (hi : M[i]? = some (a, .dK kvs)) (h : bInK kvs x = some b) (hk : k (.bl b) M) : ZR c rInK x (.at a) M k := fun R F H v w Q L r1 r2 q => by
  unfold bInK at h
  obtain ⟨key, h1, rfl⟩ := Option.map_eq_some_iff.mp h
  obtain ⟨ws, hH, e1, rr⟩ := L.mu _ (List.mem_append_left R (List.mem_of_getElem? hi))
  rw [dKey_rp h1 r1, r2.of_at]
  refine ⟨a, _, rfl, DGet.k hH, ?_⟩
  rw [valV_any e1]
  exact q _ F H M _ (Ex.refl F) L (.bl _) hk
theorem zg_setK {to ti : TE} {Γ : Gm} {M : Mem} {d : D} {kg : Gm → Mem → Prop} (h : ZE c to Γ M fun o M1 => ZE c ti Γ M1 fun x M2 => ∃ a i kvs kvs' M', o = .at a ∧ M2[i]? = some (a, .dK kvs) ∧ dPutK kvs x d = some kvs' ∧ M2.set i (a, .dK kvs') = M' ∧ kg Γ M') : ZG c (gSub to ti rSetD) d Γ M kg := fun R F σ H v Q hs L X r q =>
  h R F σ H _ hs L X fun o F1 H1 M1 od e1 L1 r1 h1 => h1 R F1 σ H1 _ (hs.mono e1) L1 (X.mono e1) fun x F2 H2 M2 xd e2 L2 r2 ⟨a, i, kvs, kvs', M', eo, hi, hp, hM, hk⟩ => by
    subst eo hM
    unfold dPutK at hp
    obtain ⟨key, h1, hp⟩ := Option.bind_eq_some_iff.mp hp
    split at hp
    · rename_i hl
      cases hp
      obtain ⟨ws, hH, e3, rr⟩ := L2.mu _ (List.mem_append_left R (List.mem_of_getElem? hi))
      have hlen : ws.length = kvs.length := by have := congrArg List.length e3; rwa [List.length_map, List.length_map] at this
      have hany : (ws.any fun kv => decide (kv.1 = key)) = kvs.any fun kv => decide (kv.1 = key) := by
        have : ∀ {α : Type} (l : List (Key × α)), (l.any fun kv => decide (kv.1 = key)) = (l.map (·.1)).any fun x => decide (x = key) := fun l => by rw [List.any_map]; rfl
        rw [this, this, e3]
      have hrv : Rp c.K F2 v d := r.mono (e1.trans e2)
      refine ⟨a, _, r1.of_at, .inl ⟨ws, key, hH, dKey_rp h1 r2, by rw [hlen]; exact hl, rfl⟩, ?_⟩
      have hi' : (M2 ++ R)[i]? = some (a, .dK kvs) := by rw [List.getElem?_append_left (List.getElem?_eq_some_iff.mp hi).1]; exact hi
      have L3 := L2.set hi' (mo' := .dK (if (kvs.any fun kv => decide (kv.1 = key)) = true then kvs.map (fun kv => if kv.1 = key then (kv.1, d) else kv) else kvs ++ [(key, d)])) (o := .dK (putK ws key v)) (by
        refine ⟨_, upd_same, ?_, ?_⟩
        · unfold putK
          rw [hany]
          split
          · rw [List.map_map, List.map_map]
            have a1 : ∀ {α : Type} (y : α) (l : List (Key × α)), l.map ((·.1) ∘ fun kv => if kv.1 = key then (kv.1, y) else kv) = l.map (·.1) := fun y l => List.map_congr_left fun p _ => by
              show (if p.1 = key then (p.1, y) else p).1 = p.1
              split <;> rfl
            rw [a1, a1, e3]
          · rw [List.map_append, List.map_append, e3]; rfl
        · unfold putK
          rw [hany]
          split
          · refine ⟨by simp only [List.length_map]; exact hlen, fun j y z hy hz => ?_⟩
            rw [List.map_map, List.getElem?_map] at hy hz
            obtain ⟨p, hp, rfl⟩ := Option.map_eq_some_iff.mp hy
            obtain ⟨q', hq, rfl⟩ := Option.map_eq_some_iff.mp hz
            have hkey : p.1 = q'.1 := by
              have x1 : (ws.map (·.1))[j]? = some p.1 := by rw [List.getElem?_map, hp]; rfl
              have x2 : (kvs.map (·.1))[j]? = some q'.1 := by rw [List.getElem?_map, hq]; rfl
              rw [e3, x2] at x1
              exact (Option.some.inj x1).symm
            show Rp c.K F2 (if p.1 = key then (p.1, v) else p).2 (if q'.1 = key then (q'.1, d) else q').2
            rw [hkey]
            split
            · exact hrv
            · exact rr.at_ j p.2 q'.2 (by rw [List.getElem?_map, hp]; rfl) (by rw [List.getElem?_map, hq]; rfl)
          · rw [List.map_append, List.map_append]
            exact rr.append (.one hrv))
      rw [List.set_append_left _ _ (List.getElem?_eq_some_iff.mp hi).1] at L3
      exact q σ F2 _ _ Γ (e1.trans e2) L3 ((hs.mono e1).mono e2) hk
    · cases hp
end Z
set_option Elab.async false
set_option linter.all false
set_option maxRecDepth 100000
set_option maxHeartbeats 4000000
/-! YSet: the size of a set made of a tuple. -/
namespace Z
open PySem PySem.Spec PyProof.Rows L2
section
variable {P : Program} {w : World} {A : Around} {E : Value → Shared → Prop} {s : Shared}
/-- a set with nothing in it -/
abbrev noSet (w : World) : Obj := { cls := .type "set", dict := none, data := .set #[] 0 (.fresh 0 0 (!w.params.followText "set-order")) }
/-- the heap with it -/
abbrev withSet (w : World) (h : Heap) : Heap := h.push (noSet w)
theorem noneAt {h : Heap} {b : Addr} (hb : h.objs.size ≤ b) : h.get? b = none := by
  cases q : h.get? b with
  | none => rfl
  | some o => exact absurd (Nat.lt_of_lt_of_le (Heap.lt_size q) hb) (Nat.lt_irrefl _)
/-- what stands behind set(..) of a tuple of tuples of ints -/
def Made (P : Program) (w : World) (h0 : Heap) (ks : List (Addr × List Int)) (h : Heap) : Prop := ∃ L es ep t, SetTR P w h h0.objs.size L es ep t ∧ Got ks ks.length L ∧ ∀ b o, h0.get? b = some o → h.get? b = some o
theorem set_init_tuple {l : Addr} {items : Array Value} {ks : List (Addr × List Int)} (hh : A.handled = none) (hl : s.heap.IsTuple l items) (hit : items.toList = ks.map fun p => Value.ref p.1)
    (hk : ∀ p ∈ ks, IsT P w s.heap p.2 p.1) (hfew : ks.length < 64) (hu : A.units + 2 < cLine) {Q : Value → Shared → Prop} (hQ : ∀ h' tk, Made P w s.heap ks h' → Q .none { s with heap := h', toks := tk }) :
    codeAny (model P w) A (.call (.builtin "set.__init__") ⟨[.ref s.heap.objs.size, .ref l], []⟩) (wants Q E) { s with heap := withSet w s.heap } := by
  have hn : items.size = ks.length := by
    have q := congrArg List.length hit
    rwa [Array.length_toList, List.length_map] at q
  have hT : Shared.TypeIs { s with heap := withSet w s.heap } (.ref s.heap.objs.size) "set" := ⟨_, Heap.get?_push_size _ rfl, rfl⟩
  refine codeAny_call_builtin F.called_set.init.plain F.entry_set_init (check_set_init_1 hT ?_)
  obtain ⟨o, ho, hc, n, hd⟩ := hl
  obtain ⟨oc, od, dt, sl⟩ := o
  simp only at hc hd
  subst hc
  subst hd
  have hlt : l < s.heap.objs.size := Heap.lt_size ho
  have tl : (withSet w s.heap).IsTuple l items := ⟨_, Heap.get?_push_of_some _ ho, rfl, n, rfl⟩
  have f1 := F.sub_tuple_set
  have f2 := F.sub_tuple_frozenset
  have f3 : (Value.type "tuple" == Value.type "dict") = false := by decide
  have ho' := Heap.get?_push_of_some (noSet w) ho
  unfold Builtin.«set.__init__» noKeywords Builtin.Frozenset.updateFrom
  generalize hPI : pyIter = PI
  wp_walk
  subst hPI
  refine wpAny_pyIter_tuple tl (wpAny_bind (wpAny_runValue ?_))
  have sz : (withSet w s.heap).objs.size = s.heap.objs.size + 1 := Heap.size_push _ _
  refine set_update_tups ((Walks.tuple (by simp [hh]) _ l (by rw [sz]; exact Nat.ne_of_lt (Nat.lt_succ_of_lt hlt)) items).toS) s.heap.objs.size (by rw [sz]; simp only [List.mem_cons, List.mem_singleton, List.not_mem_nil, or_false, not_or]; exact ⟨Nat.ne_of_lt (Nat.lt_succ_self _), Nat.ne_of_gt hlt⟩) ks hn hfew
    (fun i v hv => ?val) s.heap hk (noneAt (Nat.le_refl _)) (fun b hb => noneAt (by rw [List.mem_singleton.mp hb, sz]; omega)) (by first | exact hu | (simp only [Around.in1_units] at *; omega) | (show _ < cLine; omega)) (items.size - 0) 0 _ (by omega) (Nat.zero_le _)
    ⟨⟨_, Heap.get?_push_size _ rfl, rfl, rfl⟩, tl.push _⟩ (fun b o e => Heap.get?_push_of_some _ (Heap.get?_push_of_some _ e)) ⟨[], #[], 0, _, setTR_fresh (Heap.get?_push_of_some _ (Heap.get?_push_size _ rfl)), Got.zero ks⟩ ?fin
  case val =>
    have q : items.toList[i]? = some v := by rw [Array.getElem?_toList]; exact hv
    rw [hit, List.getElem?_map] at q
    obtain ⟨p, hp, e⟩ := Option.map_eq_some_iff.mp q
    exact ⟨p, hp, e.symm⟩
  case fin =>
    intro s' L es ep t hm hS hg hkp
    obtain ⟨h', g2, d', tk', os'⟩ := s'
    obtain rfl : g2 = s.gens := hm.gens
    obtain rfl : d' = s.drawn := hm.drawn
    obtain rfl : os' = s.os := hm.os
    refine wpAny_pure ?_
    show wpAny _ _ (ret Value.none) _ _ _
    rw [hn] at hg
    exact wpAny_pure (hQ h' tk' ⟨L, es, ep, t, hS, hg, hkp⟩)
theorem call_set_tt {l : Addr} {items : Array Value} {ks : List (Addr × List Int)} {Q : Value → Shared → Prop} (hh : A.handled = none) (hl : s.heap.IsTuple l items) (hit : items.toList = ks.map fun p => Value.ref p.1)
    (hk : ∀ p ∈ ks, IsT P w s.heap p.2 p.1) (hfew : ks.length < 64) (hu : A.units + 3 < cLine) (hQ : ∀ h' tk, Made P w s.heap ks h' → Q (.ref s.heap.objs.size) { s with heap := h', toks := tk }) :
    wpAny (model P w) A (call (.type "set") [.ref l]) Q E s := by
  obtain ⟨c, tl, hmro⟩ := F.called_set.mro
  have g1 := F.called_set.made
  have g2 := F.called_set.sub
  have g3 := F.called_set.notType
  have g4 := F.called_set.canCreate
  have g5 := F.typeCall_set_1 (.ref l)
  refine wpAny_call (codeAny_of_tree ?_)
  show wpAny _ _ (callAny (.type "set") _) _ _ _
  refine wpAny_pure ⟨Code.quiet_builtin _ (by decide +kernel), codeAny_builtin F.entry_type_call ?_⟩
  rw [Around.under_plain (weight_type_call_type "set" [.ref l] []) rfl]
  repeat (any_goals (first | assumption | wp_step))
  refine codeAny_mono (code_set_led1 (.ref l) (E := E) (Q₁ := fun v s1 => v = .ref s.heap.objs.size ∧ s1 = { s with heap := withSet w s.heap }) ⟨rfl, rfl⟩) fun r s1 hr => ?_
  cases r with
  | error e => exact hr
  | ok fl =>
    cases fl with
    | ret v =>
      obtain ⟨rfl, rfl⟩ := hr
      have hT : Shared.TypeIs { s with heap := withSet w s.heap } (.ref s.heap.objs.size) "set" := ⟨_, Heap.get?_push_size _ rfl, rfl⟩
      have g6 := F.called_set.init.lookup
      have g7 := F.called_set.init.bind (.ref s.heap.objs.size)
      repeat (any_goals (first | assumption | wp_step))
      refine codeAny_mono (set_init_tuple (E := E) (Q := fun v s2 => v = .none ∧ ∃ h' tk, s2 = { s with heap := h', toks := tk } ∧ Made P w s.heap ks h') (by simp [hh]) hl hit hk hfew (by first | exact hu | (show _ < cLine; omega) | omega) fun h' tk m => ⟨rfl, h', tk, rfl, m⟩) fun r2 s2 hr2 => ?_
      cases r2 with
      | error e => exact hr2
      | ok fl2 =>
        cases fl2 with
        | ret v2 =>
          obtain ⟨rfl, h', tk, rfl, m⟩ := hr2
          repeat (any_goals (first | assumption | wp_step))
          exact hQ h' tk m
        | _ => exact hr2.elim
    | _ => exact hr.elim
end
end Z
set_option Elab.async false
set_option linter.all false
set_option maxRecDepth 100000
set_option maxHeartbeats 4000000
/-! YMul: a tuple times a number. -/
namespace Z
open PySem PySem.Spec PyProof.Rows L2
theorem tuple_mul1 (l : Addr) (items : Array Value) (n : Nat) (dd : Option Addr) (sl : Array (Option Value)) (u : Tok) :
    Meets (Builtin.«tuple.__mul__» ⟨[.ref l, .int 1 u], []⟩) (fun _ R s => s.heap.get? l = some { cls := .type "tuple", dict := dd, data := .seq items n, slots := sl } ∧ R (.ok (.ret (Value.ref l))) s) :=
  .of_wp fun prog w A R s h => by
    obtain ⟨hp, g, d, tk, os⟩ := s
    obtain ⟨hl, h⟩ := h
    have f1 := AutoSeq1.idx_int
    wp_walk using wpAny_loadPart' hl
    repeat (first
      | (refine wpAny_ite_false (by simp) ?_; wp_walk using wpAny_loadPart' hl)
      | (refine wpAny_ite_true (by simp) ?_; wp_walk using wpAny_loadPart' hl))
    exact ⟨_, rfl, h⟩
theorem tuple_mul0 (l : Addr) (items : Array Value) (n : Nat) (dd : Option Addr) (sl : Array (Option Value)) (x : Int) (u : Tok) (hx : x ≤ 0) (hx2 : -(2 ^ 63) ≤ x) (hi : items.isEmpty = false) :
    Meets (Builtin.«tuple.__mul__» ⟨[.ref l, .int x u], []⟩) (fun _ R s => s.heap.get? l = some { cls := .type "tuple", dict := dd, data := .seq items n, slots := sl } ∧
      R (.ok (.ret (Value.ref s.heap.objs.size))) { s with heap := s.heap.push { cls := Value.type "tuple", data := Data.seq #[] }, toks := s.toks }) :=
  .of_wp fun prog w A R s h => by
    obtain ⟨hp, g, d, tk, os⟩ := s
    obtain ⟨hl, h⟩ := h
    have f1 := AutoSeq1.idx_int
    have c0 : (decide (x < -(2 ^ 63)) || decide (x ≥ 2 ^ 63)) = false := by rw [decide_eq_false (by omega), decide_eq_false (by omega)] <;> rfl
    have c1 : (items.isEmpty || x == 1) = false := by rw [hi, Bool.false_or]; exact beq_eq_false_iff_ne.mpr (by omega)
    have c2 : (decide (x ≤ 0) || items.isEmpty) = true := by rw [decide_eq_true hx]; rfl
    wp_walk using wpAny_loadPart' hl
    repeat (first
      | (refine wpAny_ite_false (decide_eq_false (by rw [c0]; exact Bool.false_ne_true)) ?_; wp_walk using wpAny_loadPart' hl)
      | (refine wpAny_ite_false (decide_eq_false (by rw [c1]; exact Bool.false_ne_true)) ?_; wp_walk using wpAny_loadPart' hl)
      | (refine wpAny_ite_true (decide_eq_true (by rw [c2])) ?_; wp_walk using wpAny_loadPart' hl))
    exact ⟨_, rfl, h⟩
section
variable {X : Cx}
def rRepT1 (K : Fg) : R2 := fun x y H Q => ∃ l xs, x = .ref l ∧ y = .int 1 ∧ SqT K H l xs ∧ Q x H
def rRepT0 (K : Fg) : R2 := fun x y H Q => ∃ l k xs, x = .ref l ∧ y = .int k ∧ SqT K H l xs ∧ xs ≠ [] ∧ k ≤ 0 ∧ -(2 ^ 62) ≤ k ∧ ∀ p, H p = none → Q (.ref p) (upd H p (.tup []))
theorem op_repT1 : OpR X (binaryOp .Mult) (rRepT1 X.K) := by
  intro pins s σ H x y v u Q I rx ry h
  obtain ⟨l, xs, rfl, rfl, hT, q⟩ := h
  cases rx
  obtain ⟨t, rfl⟩ := ry
  obtain ⟨its, r, ⟨⟨cls, dd, data, sl⟩, ho, hc, n, hd⟩, hs⟩ := I.tuple hT
  simp only at hc hd
  subst hc hd
  refine wpAny_binaryOp_repeat_ref (T := "tuple") (U := "int") (by decide) ⟨_, ho, rfl⟩ (fun s' => typeIs_int s' 1 t) noFill_tuple_mul F.fills_int_mul F.slot_int_rmul repeat_tuple F.slot_int_index.lookup
    (call_meets F.slot_int_rmul (typeIs_int s 1 t) F.entry_int_rmul (F.args_int_rmul_2 _ _) (int_rmul_tuple 1 t l its.toArray n dd sl)
      ⟨ho, rfl, ⟨_, ho, rfl⟩, call_meets F.slot_tuple_mul ⟨_, ho, rfl⟩ F.entry_tuple_mul (F.args_tuple_mul_2 _ _) (tuple_mul1 l its.toArray n dd sl t) ⟨ho, ?_⟩⟩)
  exact ⟨.ref l, H, I, rfl, q⟩
theorem op_repT0 : OpR X (binaryOp .Mult) (rRepT0 X.K) := by
  intro pins s σ H x y v u Q I rx ry h
  obtain ⟨l, k, xs, rfl, rfl, hT, hne, hk, hk2, q⟩ := h
  cases rx
  obtain ⟨t, rfl⟩ := ry
  obtain ⟨its, r, ⟨⟨cls, dd, data, sl⟩, ho, hc, n, hd⟩, hs⟩ := I.tuple hT
  simp only at hc hd
  subst hc hd
  have hi : its.toArray.isEmpty = false := by
    cases its with
    | nil => exact absurd (List.eq_nil_of_length_eq_zero r.length) hne
    | cons a b => rfl
  refine wpAny_binaryOp_repeat_ref (T := "tuple") (U := "int") (by decide) ⟨_, ho, rfl⟩ (fun s' => typeIs_int s' k t) noFill_tuple_mul F.fills_int_mul F.slot_int_rmul repeat_tuple F.slot_int_index.lookup
    (call_meets F.slot_int_rmul (typeIs_int s k t) F.entry_int_rmul (F.args_int_rmul_2 _ _) (int_rmul_tuple k t l its.toArray n dd sl)
      ⟨ho, rfl, ⟨_, ho, rfl⟩, call_meets F.slot_tuple_mul ⟨_, ho, rfl⟩ F.entry_tuple_mul (F.args_tuple_mul_2 _ _) (tuple_mul0 l its.toArray n dd sl k t hk (by omega) hi) ⟨ho, ?_⟩⟩)
  refine ⟨.ref s.heap.objs.size, _, I.laid (t' := s.toks) (o := .tup []) (fun b ob q => Heap.get?_push_of_some _ q) (Nat.le_refl _) ?_, rfl, q _ (I.hok.fresh (Nat.le_refl _))⟩
  exact ⟨Nat.zero_le _, [], .nil, IsTup.new _ _⟩
def rRepTZ (K : Fg) : R2 := fun x y H Q => rRepT K x y H Q ∨ (rRepT1 K x y H Q ∨ rRepT0 K x y H Q)
theorem p_repT {a b : Expr} {ta tb : TE} {pos : Pos} (ha : PE X a ta) (hb : PE X b tb) : PE X (.BinOp a .Mult b pos) (tOp (rRepTZ X.K) ta tb) := pe_op (op_repT.or (op_repT1.or op_repT0)) ha hb
end
def dRepT : D → D → Option D
  | .tup [], _ => none
  | .tup xs, .int k => if -1000 ≤ k ∧ k ≤ 1000 ∧ xs.length ≤ 1000 then some (.tup (List.replicate k.toNat xs).flatten) else none
  | _, _ => none
variable {c : Cz}
theorem y_repT {M : Mem} {k : D → Mem → Prop} {x y z dy : D} (vy : View M dy y) (h : dRepT x y = some z) (hk : k z M) : ZR c (rRepTZ c.K) x dy M k := fun R F H v w Q L r1 r2 q => by
  unfold dRepT at h
  split at h
  · cases h
  · rename_i xs kk hne
    split at h
    · rename_i hb
      cases h
      obtain ⟨h1, h2, h3⟩ := hb
      obtain ⟨a, vs, rfl, hs, rr⟩ := r1.of_tup
      have hs' := ex_t L.fr hs
      rw [vy.int] at r2
      have hvs : vs ≠ [] := fun e => by
        subst e
        have := rr.len
        exact hne (List.eq_nil_of_length_eq_zero this.symm)
      rcases Int.lt_trichotomy kk 1 with hlt | heq | hgt
      · refine .inr (.inr ⟨a, kk, vs, rfl, r2.of_int, hs', hvs, by omega, by omega, fun p hp => ?_⟩)
        have e0 : kk.toNat = 0 := by omega
        rw [e0] at hk
        exact q _ _ _ M (.tup []) (ex_upd (L.free hp)) (L.new hp) (.mk_tup (SqT.of upd_same) .nil) hk
      · subst heq
        refine .inr (.inl ⟨a, vs, rfl, r2.of_int, hs', ?_⟩)
        have e1 : (List.replicate (1 : Int).toNat xs).flatten = xs := by show ([xs] : List (List D)).flatten = xs; simp
        rw [e1] at hk
        exact q _ F H M _ (Ex.refl F) L r1 hk
      · refine .inl ⟨a, kk, vs, rfl, r2.of_int, hs', hvs, by omega, h2, by rw [rr.len]; exact h3, fun p hp => ?_⟩
        exact q _ _ _ M _ (ex_upd (L.free hp)) (L.new hp) (.mk_tup (SqT.of upd_same) ((rr.rep kk.toNat).mono (ex_upd (L.free hp)))) hk
    · cases h
  · cases h
end Z
set_option Elab.async false
set_option linter.all false
set_option maxRecDepth 100000
set_option maxHeartbeats 4000000
/-! YExt: list.extend by a tuple. -/
namespace Z
open PySem PySem.Spec PyProof.Rows L2
theorem extend_tup (l : Addr) (items : Array Value) (n : Nat) (b : Addr) (items2 : Array Value) (n2 : Nat) (dd : Option Addr) (sl : Array (Option Value)) (hs0 : ¬(!items.isEmpty && Builtin.List.listTooLong (items.size + items2.size)) = true) (hs1 : items.size ≤ sizeLine) (hs2 : items.size + items2.size ≤ sizeLine + 1) :
    Meets (Builtin.«list.extend» ⟨[.ref l, .ref b], []⟩) (fun _ R s => s.heap.get? l = some { cls := .type "list", dict := none, data := .seq items n, slots := #[] } ∧ s.heap.get? b = some { cls := .type "tuple", dict := dd, data := .seq items2 n2, slots := sl } ∧ R (.ok (.ret Value.none)) { s with heap := s.heap.update l (Obj.mapSeq fun x => x ++ items2), toks := s.toks }) :=
  .of_wp fun prog w A R s h => by
    obtain ⟨hp, g, d, tk, os⟩ := s
    obtain ⟨hl, hb, h⟩ := h
    have f1 := AutoSeq1.idx_int
    have f2 := F.sub_tuple_tuple
    have f4 := F.sub_tuple_list
    have hz' : (items ++ items2).size ≤ sizeLine + 1 := by rw [Array.size_append]; exact hs2
    wp_walk using (wpAny_updateSeq hl rfl (hz := hs1) (_hz' := hz')), wpAny_loadPart' hl, wpAny_loadPart' hb
    exact ⟨_, rfl, h⟩
def rExtT (K : Fg) : V → List V → Hp → VK → Prop := fun x vs H Q => ∃ l b xs zs, x = .ref l ∧ vs = [.ref b] ∧ H l = some (.lst xs) ∧ SqT K H b zs ∧ xs.length + zs.length ≤ sizeLine ∧ Q .non (upd H l (.lst (xs ++ zs)))
def rExtZ (K : Fg) : V → List V → Hp → VK → Prop := fun x vs H Q => rExtend x vs H Q ∨ rExtT K x vs H Q
section
variable {X : Cx}
theorem mt_extT : MtR X "list.extend" (rExtT X.K) := by
  intro pins s σ H x vs v us Q I rx rv h
  obtain ⟨l, b, xs, zs, rfl, rfl, hH, hB, hz, q⟩ := h
  cases rx
  obtain ⟨u, rfl, ru⟩ := rv.one
  cases ru
  obtain ⟨z, its, n, r, hl, e⟩ := I.lstM hH
  obtain ⟨its2, r2, ⟨⟨oc, dd, dt, sl⟩, e2, hc, n2, hd⟩, _⟩ := I.tuple hB
  simp only at hc hd
  subst hc hd
  have l1 := r.length
  have l2 := r2.length
  have hsz : its.toArray.size + its2.toArray.size ≤ sizeLine := by rw [List.size_toArray, List.size_toArray]; omega
  refine call_meets F.slot_list_extend ⟨_, e, rfl⟩ F.entry_list_extend (F.args_list_extend_2 _ _)
    (extend_tup l its.toArray n b its2.toArray n2 dd sl (by rw [notLongL hsz, Bool.and_false]; exact Bool.false_ne_true) (by rw [List.size_toArray]; omega) (by omega)) ⟨e, e2, ?_⟩
  refine ⟨.non, _, I.lset (its' := its ++ its2) hH e (by simp) (r.append r2) ?_, rfl, q⟩
  rw [List.length_append]
  omega
theorem mt_extZ : MtR X "list.extend" (rExtZ X.K) := fun pins s σ H x vs v us Q I rx rv h => h.elim (mt_extend pins s σ H x vs v us Q I rx rv) (mt_extT pins s σ H x vs v us Q I rx rv)
end
def dExtZ (ds : List D) (d : D) : Option (List D) := match d with
  | .lst es => if ds.length + es.length ≤ sizeLine then some (ds ++ es) else none
  | .tup es => if ds.length + es.length ≤ sizeLine then some (ds ++ es) else none
  | _ => none
variable {c : Cz}
theorem y_extZ {M M' : Mem} {k : D → Mem → Prop} {i : Nat} {a : Addr} {ds ds' : List D} {x d : D} (hi : M[i]? = some (a, .lst ds)) (v : View M x d) (h : dExtZ ds d = some ds') (hM : M.set i (a, .lst ds') = M') (hk : k .non M') : ZM c (rExtZ c.K) (.at a) [x] M k := fun R F H v' vs Q L r rs q => by
  unfold dExtZ at h
  split at h
  · exact .inl (y_extend (c := c) hi v (by unfold dExt; exact h) hM hk R F H v' vs Q L r rs q)
  · split at h
    · rename_i es hl
      cases h
      subst hM
      obtain ⟨w, rfl, r2⟩ := rs.one1
      rw [v.tup] at r2
      obtain ⟨xs, ex, rr⟩ := L.memAt hi
      obtain ⟨b, ys, rfl, ey, ry⟩ := r2.of_tup
      rw [r.of_at]
      exact .inr ⟨a, b, xs, ys, rfl, rfl, ex, ex_t L.fr ey, by rw [rr.len, ry.len]; exact hl, q .non F _ _ .non (Ex.refl F) (L.lstSet (ys := (xs ++ ys)) hi (rr.append ry)) .non hk⟩
    · cases h
  · cases h
end Z
set_option Elab.async false
set_option linter.all false
set_option maxRecDepth 100000
set_option maxHeartbeats 4000000
/-! YCls3: the size of a set. -/
namespace Z
open PySem PySem.Spec PyProof.Rows L2
theorem dMth_cls {C C' : Addr} {m : Str} {fs : List (Str × D)} (h : dMth C m (.obj C' fs) = some ()) : C' = C := by
  by_cases hc : C' = C ∧ fs.lookup m = none
  · exact hc.1
  · have : dMth C m (.obj C' fs) = none := if_neg hc
    rw [this] at h; cases h
/-- each once -/
def once : List (List Int) → List (List Int)
  | [] => []
  | x :: r => if x ∈ r then once r else x :: once r
theorem mem_once {x : List Int} : ∀ {l : List (List Int)}, x ∈ once l ↔ x ∈ l
  | [] => .rfl
  | y :: r => by
    unfold once
    by_cases h : y ∈ r
    · rw [if_pos h, mem_once, List.mem_cons]
      exact ⟨.inr, fun h' => h'.elim (fun e => e ▸ h) id⟩
    · rw [if_neg h, List.mem_cons, List.mem_cons, mem_once]
theorem nodup_once : ∀ {l : List (List Int)}, (once l).Nodup
  | [] => List.nodup_nil
  | y :: r => by
    unfold once
    by_cases h : y ∈ r
    · rw [if_pos h]; exact nodup_once
    · rw [if_neg h]; exact List.nodup_cons.mpr ⟨fun h' => h (mem_once.mp h'), nodup_once⟩
theorem once_len {l m : List (List Int)} (hn : m.Nodup) (h : ∀ x, x ∈ m ↔ x ∈ l) : m.length = (once l).length :=
  ((List.perm_ext_iff_of_nodup hn nodup_once).mpr fun x => (h x).trans mem_once.symm).length_eq
theorem Made.size (s : Shared) {P : Program} {w : World} {h0 h : Heap} {ks : List (Addr × List Int)} (m : Made P w h0 ks h) : ∃ o es ep t, h.get? h0.objs.size = some o ∧ o.ExactSet ∧ o.data = .set es ep t ∧ t.fits es.size = true ∧ es.size = (once (ks.map (·.2))).length := by
  obtain ⟨L, es, ep, t, hS, hg, _⟩ := m
  have hS' : SetTR P w ({ s with heap := h } : Shared).heap h0.objs.size L es ep t := hS
  obtain ⟨o, ho, hx, hd⟩ := hS.ob
  refine ⟨o, es, ep, t, ho, hx, hd, hS'.fits, hS'.size.trans ?_⟩
  have e : L.length = (L.map (·.2)).length := (List.length_map ..).symm
  rw [e]
  refine once_len hS.nd fun x => ?_
  rw [List.mem_map, List.mem_map]
  constructor
  · rintro ⟨p, hp, rfl⟩
    have := hg.sub p hp
    rw [List.take_length] at this
    exact ⟨p, this, rfl⟩
  · rintro ⟨p, hp, rfl⟩
    have := hg.all p (by rw [List.take_length]; exact hp)
    exact List.mem_map.mp this
def rLenSetZ (K : Fg) : V → Hp → VK → Prop := fun x H Q => (∃ l, ∃ xs : List Str, x = .ref l ∧ (SqL K H l (xs.map V.str) ∨ SqT K H l (xs.map V.str)) ∧ xs.length ≤ 1 ∧ Q (.int xs.length) H) ∨
  ∃ l, ∃ ks : List (Addr × List Int), x = .ref l ∧ SqT K H l (ks.map fun p => V.ref p.1) ∧ (∀ p ∈ ks, SqT K H p.1 (p.2.map V.int)) ∧ ks.length < 64 ∧ Q (.int ((once (ks.map (·.2))).length : Nat)) H
theorem refs_of : ∀ {ks : List (Addr × List Int)} {us : List Value}, Vals (ks.map fun p => V.ref p.1) us → us = ks.map fun p => Value.ref p.1
  | [], _, .nil => rfl
  | p :: ks, _, .cons r t => by
    rw [List.map_cons, ← refs_of t]
    cases r; rfl
section
variable {X : Cx}
theorem p_lenSetZ {a : Expr} {ta : TE} {p p2 q pos : Pos} (hc : X.calm = true) (hu : X.A.units + 64 < cLine) (hg : Gl X "len") (hm : X.mg "len" = none) (hg2 : Gl X "set") (hm2 : X.mg "set" = none) (ha : PE X a ta)
    (na : starEach [a] X.env = (false, eval a X.env) :: starEach [] X.env := by rfl) : PE X (.Call (.Name "len" p) [.Call (.Name "set" p2) [a] [] q] [] pos) (tUn (rLenSetZ X.K) ta) := by
  refine ⟨fun pins s σ H Q I h => ?_⟩
  refine Call_ (ld_blt I hg hm PySem.boot_len ?_)
  refine PyProof.Rows.callWith_builtin1 (PyProof.Rows.args_cons ?_ rfl) rfl rfl
  refine Call_ (ld_blt I hg2 hm2 PyProof.Rows.boot_set ?_)
  refine PyProof.Rows.callWith_type1 (PyProof.Rows.args_cons (thn (ha.run pins s σ H _ I h) fun v s1 ⟨x, H1, I1, r1, q1⟩ => PyProof.Rows.args_nil ?_) na) na rfl
  rcases q1 with ⟨l, xs, rfl, hq, h1, q1⟩ | ⟨l, ks, rfl, hq, hk, hl, q1⟩
  · cases r1
    have fin : ∀ (its : List Value), Vals (xs.map V.str) its → ∀ (h' : Heap) (tk : Nat), h'.SetOf (PySem.strKind X.prog X.w) s1.heap.objs.size (fun k' => (xs.take its.toArray.size).any (· == k')) its.toArray.size →
        (∀ b o, b < s1.heap.objs.size → s1.heap.get? b = some o → h'.get? b = some o) →
        wpAny (model X.prog X.w) X.A (spliced (backTo pos (starEach [] X.env))) (fun vs s₂ => wpAny (model X.prog X.w) X.A (call (.builtin "len") (Value.ref s1.heap.objs.size :: vs)) (EP X pins σ Q) X.xe s₂) X.xe { s1 with heap := h', toks := tk } := fun its r h' tk hS hk => by
      refine PyProof.Rows.args_nil ?_
      have hl : its.toArray.size = xs.length := by rw [List.size_toArray, ← r.length, List.length_map]
      rw [hl] at hS
      obtain ⟨o, es, ep, t, ho, hex, hd, _, _, _, hf, hn⟩ := hS
      have I2 : Inv X pins σ H1 { s1 with heap := h', toks := tk } := I1.kept fun b o e => hk b o (Heap.lt_size e) e
      refine call_len_set ho hex hd hf (by rw [hn] <;> omega) ⟨.int xs.length, H1, I2.tok _, ⟨_, by rw [hn]⟩, q1⟩
    rcases hq with hq | hq
    · obtain ⟨its, r, pl, hz⟩ := I1.list hq
      exact SS.call_set_listS (I1.ok.hd hc) pl.isList (by simpa using strsAre_of r) h1 fun h' tk hS hk => fin its r h' tk hS hk
    · obtain ⟨its, r, pl, hz⟩ := I1.tuple hq
      exact SS.call_set_tupleS (I1.ok.hd hc) pl (by simpa using strsAre_of r) h1 fun h' tk hS hk => fin its r h' tk hS hk
  · cases r1
    obtain ⟨its, r, pl, hz⟩ := I1.tuple hq
    refine call_set_tt (I1.ok.hd hc) pl (ks := ks) (by simpa using refs_of r) (fun p hp => I1.isT (hk p hp)) hl (by omega) fun h' tk m => PyProof.Rows.args_nil ?_
    obtain ⟨o, es, ep, t, ho, hex, hd, hf, hn⟩ := m.size s1
    obtain ⟨L, _, _, _, _, _, hkp⟩ := m
    have hb : (once (ks.map (·.2))).length ≤ ks.length := by
      have : ∀ l : List (List Int), (once l).length ≤ l.length := fun l => by
        induction l with
        | nil => exact Nat.le_refl _
        | cons x r ih =>
          unfold once
          split
          · exact Nat.le_succ_of_le ih
          · exact Nat.succ_le_succ ih
      exact Nat.le_trans (this _) (by rw [List.length_map]; exact Nat.le_refl _)
    have I2 : Inv X pins σ H1 { s1 with heap := h', toks := tk } := I1.kept hkp
    exact call_len_set ho hex hd hf (by rw [hn]; omega) ⟨.int _, H1, I2.tok _, ⟨_, by rw [hn]⟩, q1⟩
end
/-! over data -/
def intsT : D → Option (List Int)
  | .tup ds => ds.mapM fun | .int i => some i | _ => none
  | _ => none
def dLenSet : D → Option D
  | .tup [] => some (.int 0)
  | .tup [.str _] => some (.int 1)
  | .tup ds => (ds.mapM intsT).bind fun ls => if ls.length < 64 then some (.int ((once ls).length : Nat)) else none
  | _ => none
theorem mapM_cons {α β : Type} {f : α → Option β} {x : α} {xs : List α} {ys : List β} (h : (x :: xs).mapM f = some ys) : ∃ y r, f x = some y ∧ xs.mapM f = some r ∧ ys = y :: r := by
  rw [List.mapM_cons] at h
  obtain ⟨y, h1, h⟩ := Option.bind_eq_some_iff.mp h
  obtain ⟨r, h2, h⟩ := Option.bind_eq_some_iff.mp h
  cases h
  exact ⟨y, r, h1, h2, rfl⟩
theorem ints_rps {K : Fg} {F : Hp} : ∀ {ds : List D} {vs : List V} {is : List Int}, (ds.mapM fun d => match d with | .int i => some i | _ => none) = some is → Rps K F vs ds → vs = is.map V.int
  | [], vs, is, h, r => by
    rw [List.mapM_nil] at h
    cases h
    rw [r.unnil]; rfl
  | d :: ds, vs, is, h, r => by
    obtain ⟨i, r', h1, h2, rfl⟩ := mapM_cons h
    obtain ⟨v, vs', rfl, rv, rr⟩ := r.uncons
    rw [List.map_cons, ints_rps h2 rr]
    split at h1
    · cases h1; rw [rv.of_int]
    · cases h1
theorem tups_rps {K : Fg} {F H : Hp} (e : Ex F H) : ∀ {ds : List D} {vs : List V} {ls : List (List Int)}, ds.mapM intsT = some ls → Rps K F vs ds → ∃ ks : List (Addr × List Int), vs = (ks.map fun p => V.ref p.1) ∧ (∀ p ∈ ks, SqT K H p.1 (p.2.map V.int)) ∧ ks.map (·.2) = ls
  | [], vs, ls, h, r => by
    rw [List.mapM_nil] at h
    cases h
    exact ⟨[], r.unnil, fun p hp => absurd hp List.not_mem_nil, rfl⟩
  | d :: ds, vs, ls, h, r => by
    obtain ⟨l, ls', h1, h2, rfl⟩ := mapM_cons h
    obtain ⟨v, vs', rfl, rv, rr⟩ := r.uncons
    obtain ⟨ks, rfl, hk, rfl⟩ := tups_rps e h2 rr
    unfold intsT at h1
    split at h1
    · obtain ⟨a, ws, rfl, hs, rw_⟩ := rv.of_tup
      refine ⟨(a, l) :: ks, rfl, fun p hp => ?_, rfl⟩
      rcases List.mem_cons.mp hp with rfl | hp
      · rw [← ints_rps h1 rw_]; exact ex_t e hs
      · exact hk p hp
    · cases h1
variable {c : Cz}
theorem y_lenSet {M : Mem} {k : D → Mem → Prop} {x z : D} (h : dLenSet x = some z) (hk : k z M) : ZU c (rLenSetZ c.K) x M k := fun R F H v Q L r q => by
  unfold dLenSet at h
  split at h
  · cases h
    obtain ⟨a, vs, rfl, hs, rr⟩ := r.of_tup
    rw [rr.unnil] at hs
    exact .inl ⟨a, [], rfl, .inr (ex_t L.fr hs), Nat.zero_le _, q _ F H M _ (Ex.refl F) L (.int _) hk⟩
  · cases h
    rename_i s
    obtain ⟨a, vs, rfl, hs, rr⟩ := r.of_tup
    obtain ⟨v, vs', rfl, rv, r2⟩ := rr.uncons
    rw [r2.unnil, rv.of_str] at hs
    exact .inl ⟨a, [s], rfl, .inr (ex_t L.fr hs), Nat.le_refl _, q _ F H M _ (Ex.refl F) L (.int _) hk⟩
  · obtain ⟨ls, h1, h⟩ := Option.bind_eq_some_iff.mp h
    split at h
    · rename_i hl
      cases h
      obtain ⟨a, vs, rfl, hs, rr⟩ := r.of_tup
      obtain ⟨ks, rfl, hk2, rfl⟩ := tups_rps (H := H) L.fr h1 rr
      exact .inr ⟨a, ks, rfl, ex_t L.fr hs, hk2, by rwa [List.length_map] at hl, q _ F H M _ (Ex.refl F) L (.int _) hk⟩
    · cases h
  · cases h
end Z
set_option Elab.async false
set_option linter.all false
set_option maxRecDepth 100000
set_option maxHeartbeats 4000000
/-! YCm: is / is not of bools; classmethods with keywords; a class held by a local name. -/
namespace Z
open PySem PySem.Spec PyProof.Rows L2
/-! ### is, of bools -/
section
variable {X : Cx} {a b : Expr} {ta tb : TE} {pos : Pos}
theorem p_isB (ha : PE X a ta) (hb : PE X b tb) : PE X (.Compare a [.Is] [b] pos) (tOp rIsB ta tb) := pe_cmpR op_isBl ha hb (nomark _)
theorem p_notB (ha : PE X a ta) (hb : PE X b tb) : PE X (.Compare a [.IsNot] [b] pos) (tOp rNotB ta tb) := pe_cmpR op_notBl ha hb (nomark _)
theorem q_isB (ha : PE X a ta) (hb : PE X b tb) : PT X (.Compare a [.Is] [b] pos) (tTest (tOp rIsB ta tb)) := pt_cmpR op_isBl ha hb (nomark _)
theorem q_notB (ha : PE X a ta) (hb : PE X b tb) : PT X (.Compare a [.IsNot] [b] pos) (tTest (tOp rNotB ta tb)) := pt_cmpR op_notBl ha hb (nomark _)
end
variable {c : Cz}
theorem y_isB {M : Mem} {k : D → Mem → Prop} {x : D} {a b : Bool} (hx : x = .bl a) (hk : k (.bl (a == b)) M) : ZR c rIsB x (.bl b) M k := fun R F H v w Q L r1 r2 q => by
  subst hx
  exact ⟨a, b, r1.of_bl, r2.of_bl, q _ F H M _ (Ex.refl F) L (by rw [show decide (a = b) = (a == b) from by cases a <;> cases b <;> rfl]; exact .bl _) hk⟩
theorem y_notB {M : Mem} {k : D → Mem → Prop} {x : D} {a b : Bool} (hx : x = .bl a) (hk : k (.bl (!(a == b))) M) : ZR c rNotB x (.bl b) M k := fun R F H v w Q L r1 r2 q => by
  subst hx
  exact ⟨a, b, r1.of_bl, r2.of_bl, q _ F H M _ (Ex.refl F) L (by rw [show (!decide (a = b)) = (!(a == b)) from by cases a <;> cases b <;> rfl]; exact .bl _) hk⟩
/-! ### classmethods -/
/-- the classmethod m of the class C, with keywords, keeps the promise S (the class goes ahead) -/
structure CmKZ (P : Program) (w : World) (K : Fg) (mg : Str → Option Value) (base : Heap) (C : Addr) (m : Str) (k n : Nat) (ks : List Str) (g : List V → List V → List V) (S : ZSp) : Prop where
  ex : ∃ (mc : Value) (p f : Addr) (fd : FuncData) (ps : List Str) (sp : Sp) (gg : List Value → List Value → List Value) (gV : List V → List V → List V), ClX.CRead K C mc ∧ ClX.CMet K C mc m p f ∧ FnOk P w K mg base CX0 k f fd ps sp ∧ KBn K fd ps (n + 1) ks gg gV ∧
    ∀ v vs zs H Q, vs.length = n → zs.length = ks.length → zcall K S (v :: g vs zs) H Q → sp (gV (v :: vs) zs) H Q E0
/-- C.m(..), C at the address written -/
def tCmK (C : Addr) (n m : Nat) (r : List V → Hp → VK → Prop) (g : List V → List V → List V) (ta : TE) (t tk : TA) : TE := fun σ H Q => ta σ H fun x H0 => x = .ref C ∧ t σ H0 fun vs H1 => tk σ H1 fun zs H2 => vs.length = n ∧ zs.length = m ∧ r (.ref C :: g vs zs) H2 Q
section
variable {X : Cx} {o e : Expr} {es : List Expr} {kws : List Keyword} {m : Str} {apos pos : Pos} {ta : TE} {t tk : TA} {C : Addr} {k j n : Nat} {ks : List Str} {g : List V → List V → List V} {S : ZSp} {pl : Sem Bool}
theorem p_cmK (G : CmKZ X.prog X.w X.K X.mg X.base C m k n ks g S) (hr : Room j X.A) (ho : PE X o ta) (ha : PA X (e :: es) t) (hkw : PK X kws tk) (hj : k ≤ j := by decide)
    (hall : (backToKw pos (keywordEach kws X.env)).all (·.1.isSome) = true := by rfl) (hks : (backToKw pos (keywordEach kws X.env)).filterMap (·.1) = ks := by rfl)
    (he : starEach (e :: es) X.env = (false, eval e X.env) :: starEach es X.env := by rfl) (hpl : ((backTo pos (starEach (e :: es) X.env)).any (·.1) || (backToKw pos (keywordEach kws X.env)).any (·.1.isNone)) = false := by rfl)
    (ht : eval (.Call (.Attribute o m apos) (e :: es) kws pos) X.env = (do
      let ov ← eval o X.env
      standAt apos.atName
      let (f, first) ← holding [ov] (getMethod ov m pl)
      callWith pos f first (backTo pos (starEach (e :: es) X.env)) (backToKw pos (keywordEach kws X.env))) := by rfl) :
    PE X (.Call (.Attribute o m apos) (e :: es) kws pos) (tCmK C n ks.length (zcall X.K S) g ta t tk) := by
  obtain ⟨mc, p, f, fd, ps, sp, gg, gV, r, cm, F, hb, hs⟩ := G.ex
  refine ⟨fun pins s σ H Q I h => ?_⟩
  refine PySem.W.methodCall_KW (pl := pl) (thn (ho.run pins s σ H _ I h) fun u s1 ⟨x, H1, I1, rx, ex, q⟩ => ?_) ht
  subst ex
  obtain rfl : u = Value.ref C := rx
  refine ClX.getmethcm_ok I1 r cm fun s2 I2 => ?_
  refine PySem.W.callWith_of (P := PySem.W.MethP X.K s1.heap.objs.size f (.ref C)) hpl (PySem.W.keeps_M cm.fi) (PyProof.Rows.evalArgs_kw2 hall ?_ he)
  refine thn (ha.run pos _ s2 σ H1 _ I2 q) fun us s3 ⟨vs, H2, I3, rv, q2⟩ => ?_
  refine thn (hkw.run pos _ s3 σ H2 _ I3 q2) fun ws s4 ⟨zs, H4, I4, rz, l1, l2, q4⟩ => ⟨⟨ClX.pin_at I4, I4.kIn⟩, ?_⟩
  rw [hks]
  have n1 : (Value.ref C :: us).length = n + 1 := by rw [List.length_cons, ← rv.length, l1]
  have rr : Vals (V.ref C :: vs) (Value.ref C :: us) := .cons rfl rv
  have z : wpAny (model X.prog X.w) X.A (call (.ref s1.heap.objs.size) us (ks.zip ws)) (EP X _ σ Q) X.xe s4 :=
    wpAny_call (PySem.W.method_call (ClX.pin_at I4) (codeAny_mono (F.run X.A X.stack s4 H4 ⟨Value.ref C :: us, ks.zip ws⟩ _ _ Q E0 (hr.mono hj) I4.env0 (hb.to _ _ _ I4.kIn n1 (rz.length.symm.trans l2)) (hb.rel rr rz) (hs _ _ _ _ _ l1 l2 q4)) fun r s' hq => by
      cases r with
      | error e => exact pass0 _ σ H4 s4 e s' I4 hq
      | ok fl =>
        cases fl with
        | ret u => exact I4.after hq
        | next => exact False.elim hq
        | brk => exact False.elim hq
        | cont => exact False.elim hq))
  exact thn z fun _ _ y => ClX.unpinE y
end
theorem z_cmK {Γ : Gm} {M : Mem} {k : D → Mem → Prop} {C : Addr} {n m : Nat} {r : List V → Hp → VK → Prop} {g : List V → List V → List V} {ta : TE} {t tk : TA}
    (h : ZE c ta Γ M fun x M0 => x = .at C ∧ ZA c t Γ M0 fun xs M1 => ZA c tk Γ M1 fun ys M2 => xs.length = n ∧ ys.length = m ∧ ∃ zs, (∀ F vs ws, Rps c.K F vs xs → Rps c.K F ws ys → Rps c.K F (g vs ws) zs) ∧ ZC c r (.at C :: zs) M2 k) :
    ZE c (tCmK C n m r g ta t tk) Γ M k := fun R F σ H Q hs L X q =>
  h R F σ H _ hs L X fun v F0 H0 M0 x e0 L0 r0 ⟨ex, h0⟩ => ⟨by subst ex; exact r0.of_at, h0 R F0 σ H0 _ (hs.mono e0) L0 (X.mono e0) fun vs F1 H1 M1 xs e1 L1 r1 h1 => h1 R F1 σ H1 _ ((hs.mono e0).mono e1) L1 ((X.mono e0).mono e1) fun ws F2 H2 M2 ys e2 L2 r2 ⟨l1, l2, zs, hz, h2⟩ =>
    ⟨(r1.len).trans l1, (r2.len).trans l2, h2 R F2 H2 _ Q L2 (.cons (.at C) (hz F2 vs ws (r1.mono e2) r2)) (q.mono ((e0.trans e1).trans e2))⟩⟩
theorem z_C {Γ : Gm} {M : Mem} {k : D → Mem → Prop} {C : Addr} (hk : k (.at C) M) : ZE c (tC (.ref C)) Γ M k := z_glb (fun _ => .at _) hk
/-! ### a class that a local name holds -/
def tMkL (i : Nat) (C : Addr) (n m : Nat) (r : List V → Hp → VK → Prop) (g : List V → List V → List V) (t tk : TA) : TE := fun σ H Q => σ[i]? = some (some (.ref C)) ∧ tMkK n m r g t tk σ H Q
section
variable {X : Cx} {x y : Str} {p pos : Pos} {e : Expr} {es : List Expr} {kws : List Keyword} {t tk : TA} {C : Addr} {i k j n : Nat} {ks : List Str} {g : List V → List V → List V} {S : ZSp}
theorem p_makeL (G : MkKZ X.prog X.w X.K X.mg X.base y C k n ks g S) (hr : Room j X.A) (hN : X.N[i]? = some x) (hv : Vis X.env.scope x) (ha : PA X (e :: es) t) (hkw : PK X kws tk) (hj : k + 1 ≤ j := by decide)
    (hdb : (x == ("__debug__" : Str)) = false := by decide) (hcd : (x == ("__classdict__" : Str)) = false := by decide)
    (hall : (backToKw pos (keywordEach kws X.env)).all (·.1.isSome) = true := by rfl) (hks : (backToKw pos (keywordEach kws X.env)).filterMap (·.1) = ks := by rfl)
    (he : starEach (e :: es) X.env = (false, eval e X.env) :: starEach es X.env := by rfl) (hpl : ((backTo pos (starEach (e :: es) X.env)).any (·.1) || (backToKw pos (keywordEach kws X.env)).any (·.1.isNone)) = false := by rfl) :
    PE X (.Call (.Name x p) (e :: es) kws pos) (tMkL i C n ks.length (rMk X.K C S) g t tk) := by
  obtain ⟨f, fd, ps, sp, gg, gV, M, F, hm, hb, hs⟩ := G.ex
  refine ⟨fun pins s σ H Q I h => ?_⟩
  obtain ⟨h0, h⟩ := h
  refine wpAny_Call_Name_kw (thn ((pe_var (pos := p) hN hv hdb hcd).run pins s σ H (fun v H1 => v = .ref C ∧ H1 = H) I ⟨.ref C, h0, rfl, rfl⟩) fun u s0 ⟨v, H0, I0, r0, q0⟩ => ?_)
  obtain ⟨rfl, rfl⟩ := q0
  cases r0
  refine PySem.W.callWith_KW (h₀ := X.base) I.ok.mod.kin M.kp hall (thn (ha.run pos pins s0 σ _ _ I0 h) fun us s1 ⟨vs, H1, I1, r, q⟩ => ?_) hpl he
  refine thn (hkw.run pos pins s1 σ H1 _ I1 q) fun ws s2 ⟨zs, H2, I2, rz, l1, l2, q2⟩ => ⟨I2.kIn, ?_⟩
  rw [hks]
  exact run_makeK M F (hr.mono hj) hb pass0 I2 r rz l1 l2 fun x dx h1 h2 h3 => hs _ _ _ _ _ l1 l2 (q2 x dx h1 h2 h3)
end
theorem z_makeL {Γ : Gm} {M : Mem} {k : D → Mem → Prop} {i : Nat} {C : Addr} {n m : Nat} {r : List V → Hp → VK → Prop} {g : List V → List V → List V} {t tk : TA} (hi : Γ[i]? = some (some (.at C))) (h : ZE c (tMkK n m r g t tk) Γ M k) : ZE c (tMkL i C n m r g t tk) Γ M k := fun R F σ H Q hs L X q => by
  obtain ⟨v, e, r⟩ := hs.at_ i _ hi
  exact ⟨by rw [e, r.of_at], h R F σ H Q hs L X q⟩
end Z
set_option Elab.async false
set_option linter.all false
set_option maxRecDepth 100000
set_option maxHeartbeats 4000000
/-! YEv: a mirror is worked off from its head: simp goes into the first part of a bind, into an if's test, into a loop's row alone. -/
namespace Z
open PySem PySem.Spec PyProof.Rows L2
theorem bind_cg {α β : Type} {m m' : Option α} {f : α → Option β} (h : m = m') : m.bind f = m'.bind f := by rw [h]
theorem bp_cg {α β γ : Type} {m m' : Option (α × β)} {f : α → β → Option γ} (h : m = m') : bp m f = bp m' f := by rw [h]
theorem ite_cg {α : Sort _} {c c' : Prop} {s : Decidable c} [Decidable c'] {x y : α} (h : c = c') : ite c x y = ite c' x y := by
  subst h; congr
theorem fin_cg {S R : Type} {m m' : Option (Fl S S R)} {f : S → Option R} (h : m = m') : Fl.fin m f = Fl.fin m' f := by rw [h]
theorem pass_cg {S R N' So : Type} {m m' : Option (Fl S S R)} {f : S → Option (Fl N' So R)} (h : m = m') : Fl.pass m f = Fl.pass m' f := by rw [h]
theorem foldO_cg {S : Type} {f : S → D → Option S} {ds ds' : List D} {s s' : S} (h : ds = ds') (h2 : s = s') : foldO f ds s = foldO f ds' s' := by rw [h, h2]
theorem forL_cg {S R : Type} {f : S → D → Option (Fl S S R)} {ds ds' : List D} {s s' : S} (h : ds = ds') (h2 : s = s') : forL f ds s = forL f ds' s' := by rw [h, h2]
theorem lcO_cg {f : D → Option D} {ds ds' : List D} (h : ds = ds') : lcO f ds = lcO f ds' := by rw [h]
theorem lcF_cg {f : D → Option (Option D)} {ds ds' : List D} (h : ds = ds') : lcF f ds = lcF f ds' := by rw [h]
theorem lcS_cg {S : Type} {f : S → D → Option (D × S)} {ds ds' : List D} {s s' : S} (h : ds = ds') (h2 : s = s') : lcS f ds s = lcS f ds' s' := by rw [h, h2]
theorem whl_cg {S R : Type} {f : S → Option (Fl S S R)} {s s' : S} (h : s = s') : whl f s = whl f s' := by rw [h]
theorem fin_nx {S R : Type} {f : S → Option R} {s : S} : Fl.fin (some (.nx s) : Option (Fl S S R)) f = f s := rfl
theorem fin_rt {S R : Type} {f : S → Option R} {r : R} : Fl.fin (some (.rt r) : Option (Fl S S R)) f = some r := rfl
theorem pass_nx {S R N' So : Type} {f : S → Option (Fl N' So R)} {s : S} : Fl.pass (some (.nx s) : Option (Fl S S R)) f = f s := rfl
theorem pass_rt {S R N' So : Type} {f : S → Option (Fl N' So R)} {r : R} : Fl.pass (some (.rt r) : Option (Fl S S R)) f = some (.rt r) := rfl
theorem out_nx {S : Type} {s : S} : Fl.out (.nx s : Fl S S Empty) = some s := rfl
/-! equations -/
section
variable {i j : Int} {x y : List D} {d e : D} {b c : Bool} {s t : Str} {C : Addr} {fs : List (Str × D)}
theorem isNon_s : isNon (.str s) = false := rfl
theorem isNon_o : isNon (.obj C fs) = false := rfl
theorem isNon_b : isNon (.bl b) = false := rfl
theorem isNon_sc : isNon (.scr x) = false := rfl
theorem bTru_s : bTru (.scr x) = some (!x.isEmpty) := rfl
theorem un3_t {f : D} : un3 (.tup [d, e, f]) = some (d, e, f) := rfl
theorem itZip_t : itZip (.tup x) (.tup y) = some (zipD x y) := rfl
theorem itZip_l : itZip (.lst x) (.lst y) = some (zipD x y) := rfl
theorem itEnum_t : itEnum (.tup x) = some (enumD x) := rfl
theorem itEnum_l : itEnum (.lst x) = some (enumD x) := rfl
theorem dAugA_i : dAugA (.int i) (.int j) = some (.int (i + j)) := rfl
theorem dTuple_lm {α : Type} {f : α → D} {l : List α} : dTuple (.lst (l.map f)) = some (.tup (l.map f)) := rfl
theorem ii_ti : bIsi (.tup x) "int" = some false := rfl
theorem ii_ts : bIsi (.tup x) "str" = some false := rfl
theorem ii_tl : bIsi (.tup x) "list" = some false := rfl
theorem ii_tb : bIsi (.tup x) "bool" = some false := rfl
theorem ii_li : bIsi (.lst x) "int" = some false := rfl
theorem ii_ls : bIsi (.lst x) "str" = some false := rfl
theorem ii_lt : bIsi (.lst x) "tuple" = some false := rfl
theorem ii_lb : bIsi (.lst x) "bool" = some false := rfl
theorem ii_it : bIsi (.int i) "tuple" = some false := rfl
theorem ii_il : bIsi (.int i) "list" = some false := rfl
theorem ii_is : bIsi (.int i) "str" = some false := rfl
theorem ii_si : bIsi (.str s) "int" = some false := rfl
theorem ii_st : bIsi (.str s) "tuple" = some false := rfl
theorem ii_sl : bIsi (.str s) "list" = some false := rfl
theorem ii_sb : bIsi (.str s) "bool" = some false := rfl
theorem ii_bi : bIsi (.bl b) "int" = some true := rfl
theorem ii_bt : bIsi (.bl b) "tuple" = some false := rfl
theorem ii_bl : bIsi (.bl b) "list" = some false := rfl
theorem ii_bs : bIsi (.bl b) "str" = some false := rfl
theorem ii_nt : bIsi .non "tuple" = some false := rfl
theorem ii_nl : bIsi .non "list" = some false := rfl
theorem ii_ns : bIsi .non "str" = some false := rfl
theorem ii_ni : bIsi .non "int" = some false := rfl
theorem ii_nb : bIsi .non "bool" = some false := rfl
theorem dAdd_tt (h : x.length + y.length ≤ 100000) : dAdd (.tup x) (.tup y) = some (.tup (x ++ y)) := gd_of (decide_eq_true (size_ok h))
theorem dAdd_ll (h : x.length + y.length ≤ 100000) : dAdd (.lst x) (.lst y) = some (.lst (x ++ y)) := gd_of (decide_eq_true (size_ok h))
theorem dAdd_ss (h : s.length + t.length ≤ 100000) : dAdd (.str s) (.str t) = some (.str (s ++ t)) := gd_of (decide_eq_true (size_ok h))
theorem dMul_li {n : Nat} (h : x.length * n ≤ 100000) (hn : n ≤ 1000000) : dMul (.lst x) (.int (n : Int)) = some (.lst (List.replicate n x).flatten) := by
  show gd (repB x.length (n : Int)) _ = _
  rw [Int.toNat_natCast]
  refine gd_of ?_
  unfold repB
  rw [Int.toNat_natCast, decide_eq_true (by omega), decide_eq_true (by omega), decide_eq_true (size_ok h)]; rfl
theorem dRepT_n {n : Nat} (h0 : x ≠ []) (hl : x.length ≤ 1000) (hn : n ≤ 1000) : dRepT (.tup x) (.int (n : Int)) = some (.tup (List.replicate n x).flatten) := by
  cases x with
  | nil => exact absurd rfl h0
  | cons a r =>
    show (if -1000 ≤ (n : Int) ∧ (n : Int) ≤ 1000 ∧ (a :: r).length ≤ 1000 then some (D.tup (List.replicate ((n : Int)).toNat (a :: r)).flatten) else none) = _
    rw [if_pos ⟨by omega, by omega, hl⟩, Int.toNat_natCast]
theorem dApp_n (h : x.length < 100000) : dApp x d = some (x ++ [d]) := dApp_ok (Nat.lt_of_lt_of_le h (size_ok (Nat.le_refl _)))
theorem dExt_n (h : x.length + y.length ≤ 100000) : dExt x (.lst y) = some (x ++ y) := if_pos (size_ok h)
theorem dExtZ_l (h : x.length + y.length ≤ 100000) : dExtZ x (.lst y) = some (x ++ y) := if_pos (size_ok h)
theorem dExtZ_t (h : x.length + y.length ≤ 100000) : dExtZ x (.tup y) = some (x ++ y) := if_pos (size_ok h)
theorem dIx_lm {α : Type} {f : α → D} {l : List α} {n : Nat} {a : α} (h : l[n]? = some a) : dIx (.lst (l.map f)) (.int (n : Int)) = some (f a) := dIx_l (by rw [List.getElem?_map, h]; rfl)
theorem dIx_tm {α : Type} {f : α → D} {l : List α} {n : Nat} {a : α} (h : l[n]? = some a) : dIx (.tup (l.map f)) (.int (n : Int)) = some (f a) := dIx_t (by rw [List.getElem?_map, h]; rfl)
theorem dIx_scm {α : Type} {f : α → D} {l : List α} {n : Nat} {a : α} (h : l[n]? = some a) : dIx (.scr (l.map f)) (.int (n : Int)) = some (f a) := dIx_sc (by rw [List.getElem?_map, h]; rfl)
theorem atI_last {α : Type} {x : List α} {d : α} : L2.atI (x ++ [d]) (-1) = some d := by
  unfold L2.atI
  have e : L2.ixN (x ++ [d]).length (-1) = some x.length := by
    unfold L2.ixN
    rw [if_neg (by omega), if_pos (by rw [List.length_append, List.length_singleton]; omega), List.length_append, List.length_singleton]
    congr 1; omega
  rw [e, Option.bind_some, List.getElem?_append_right (Nat.le_refl _), Nat.sub_self]; rfl
theorem dIx_last_t : dIx (.tup (x ++ [d])) (.int (-1)) = some d := atI_last
theorem dIx_last_l : dIx (.lst (x ++ [d])) (.int (-1)) = some d := atI_last
theorem dAll_m {bs : List Bool} : dAll (.lst (bs.map .bl)) = some (.bl (bs.all id)) := by
  show (asBls (bs.map .bl)).bind _ = _
  rw [asBls_map]; rfl
theorem dAny_m {bs : List Bool} : dAny (.lst (bs.map .bl)) = some (.bl (bs.any id)) := by
  show (asBls (bs.map .bl)).bind _ = _
  rw [asBls_map]; rfl
theorem itRng1_m {n : Nat} (h : n ≤ 1000000) : itRng1 (.int (n : Int)) = some (rngD 0 n) := itRng1_n (Nat.lt_of_le_of_lt h (by decide))
theorem dFld_s {f : Str} : dFld [C] f (.obj C fs) = fs.lookup f := if_pos (List.mem_singleton.mpr rfl)
theorem dMth_s {f : Str} (h : fs.lookup f = none) : dMth C f (.obj C fs) = some () := if_pos ⟨rfl, h⟩
theorem dPut_s {f : Str} (h : fs.length < 100) : dPut fs f d = some (putD f d fs) := if_pos (Nat.lt_trans h (by decide))
end
end Z
set_option Elab.async false
set_option linter.all false
set_option maxRecDepth 100000
set_option maxHeartbeats 4000000
/-! YRet: a mirror gives something with Q. -/
namespace Z
open PySem PySem.Spec PyProof.Rows L2
def Ret {β : Type} (m : Option β) (Q : β → Prop) : Prop := ∃ r, m = some r ∧ Q r
theorem ret_cg {β : Type} {m m' : Option β} {Q : β → Prop} (h : m = m') : Ret m Q = Ret m' Q := by rw [h]
namespace Ret
section
variable {α β γ S R : Type} {Q : β → Prop}
theorem mk {r : β} (h : Q r) : Ret (some r) Q := ⟨r, rfl, h⟩
theorem get {m : Option β} (h : Ret m Q) : ∃ r, m = some r ∧ Q r := h
theorem mono {m : Option β} {Q' : β → Prop} (h : Ret m Q) (i : ∀ r, Q r → Q' r) : Ret m Q' := let ⟨r, e, q⟩ := h; ⟨r, e, i r q⟩
theorem of_eq {m : Option β} {r : β} (e : m = some r) (h : Q r) : Ret m Q := ⟨r, e, h⟩
theorem eq {m : Option β} {r : β} (h : Ret m fun x => x = r) : m = some r := by obtain ⟨_, e, rfl⟩ := h; exact e
theorem bind {m : Option α} {f : α → Option β} {P : α → Prop} (h : Ret m P) (k : ∀ a, P a → Ret (f a) Q) : Ret (m.bind f) Q := by
  obtain ⟨a, rfl, q⟩ := h
  exact k a q
theorem step {m : Option α} {f : α → Option β} {a : α} (h : m = some a) (k : Ret (f a) Q) : Ret (m.bind f) Q := by
  rw [h]; exact k
theorem pair {m : Option (α × γ)} {f : α → γ → Option β} {P : α × γ → Prop} (h : Ret m P) (k : ∀ a b, P (a, b) → Ret (f a b) Q) : Ret (bp m f) Q := by
  obtain ⟨⟨a, b⟩, rfl, q⟩ := h
  exact k a b q
theorem stepP {m : Option (α × γ)} {f : α → γ → Option β} {a : α} {b : γ} (h : m = some (a, b)) (k : Ret (f a b) Q) : Ret (bp m f) Q := by
  rw [h]; exact k
theorem ite {c : Prop} [Decidable c] {a b : Option β} (h1 : c → Ret a Q) (h2 : ¬ c → Ret b Q) : Ret (if c then a else b) Q := by
  by_cases h : c
  · rw [if_pos h]; exact h1 h
  · rw [if_neg h]; exact h2 h
theorem pos {c : Prop} [Decidable c] {a b : Option β} (h : c) (h1 : Ret a Q) : Ret (if c then a else b) Q := by rw [if_pos h]; exact h1
theorem neg {c : Prop} [Decidable c] {a b : Option β} (h : ¬ c) (h1 : Ret b Q) : Ret (if c then a else b) Q := by rw [if_neg h]; exact h1
/-! loops -/
theorem foldI {f : S → D → Option S} {ds : List D} {s : S} (I : Nat → S → Prop) (h : I 0 s) (hs : ∀ i d s, ds[i]? = some d → I i s → Ret (f s d) (I (i + 1))) : Ret (foldO f ds s) (I ds.length) := by
  obtain ⟨s', e, h'⟩ := foldO_inv I ds 0 s h fun i d s hd hI => by
    rw [Nat.zero_add] at hI ⊢
    obtain ⟨s', e, q⟩ := hs i d s hd hI
    exact ⟨s', e, q⟩
  rw [Nat.zero_add] at h'
  exact ⟨s', e, h'⟩
theorem fold {f : S → D → Option S} {ds : List D} {s : S} {k : S → Option β} (I : Nat → S → Prop) (h : I 0 s) (hs : ∀ i d s, ds[i]? = some d → I i s → Ret (f s d) (I (i + 1))) (hk : ∀ s, I ds.length s → Ret (k s) Q) : Ret ((foldO f ds s).bind k) Q :=
  (foldI I h hs).bind hk
theorem forI {f : S → D → Option (Fl S S R)} {P : R → Prop} (I : Nat → S → Prop) : ∀ (ds : List D) (n : Nat) (s : S), I n s → (∀ i d s, ds[i]? = some d → I (n + i) s → Ret (f s d) fun x => (∃ s', x = .nx s' ∧ I (n + i + 1) s') ∨ (∃ s', x = .ct s' ∧ I (n + i + 1) s') ∨ ∃ r, x = .rt r ∧ P r) →
    Ret (forL f ds s) fun x => (∃ s', x = .nx s' ∧ I (n + ds.length) s') ∨ ∃ r, x = .rt r ∧ P r
  | [], n, s, h, _ => .mk (.inl ⟨s, rfl, h⟩)
  | d :: ds, n, s, h, hs => by
    have rest : ∀ s1, I (n + 1) s1 → Ret (forL f ds s1) fun x => (∃ s', x = .nx s' ∧ I (n + (d :: ds).length) s') ∨ ∃ r, x = .rt r ∧ P r := fun s1 h1 => by
      rw [List.length_cons, show n + (ds.length + 1) = n + 1 + ds.length by omega]
      refine forI I ds (n + 1) s1 h1 fun i d s hd hI => ?_
      have := hs (i + 1) d s hd (by rw [show n + (i + 1) = n + 1 + i by omega]; exact hI)
      rwa [show n + (i + 1) + 1 = n + 1 + i + 1 by omega] at this
    obtain ⟨x, e, q⟩ := hs 0 d s rfl h
    show Ret ((f s d).bind _) _
    rcases q with ⟨s1, rfl, h1⟩ | ⟨s1, rfl, h1⟩ | ⟨r, rfl, h1⟩
    · exact .step e (rest s1 h1)
    · exact .step e (rest s1 h1)
    · exact .step e (.mk (.inr ⟨r, rfl, h1⟩))
theorem fin {f : S → D → Option (Fl S S β)} {ds : List D} {s : S} {k : S → Option β} (I : Nat → S → Prop) (h : I 0 s)
    (hs : ∀ i d s, ds[i]? = some d → I i s → Ret (f s d) fun x => (∃ s', x = .nx s' ∧ I (i + 1) s') ∨ (∃ s', x = .ct s' ∧ I (i + 1) s') ∨ ∃ r, x = .rt r ∧ Q r) (hk : ∀ s, I ds.length s → Ret (k s) Q) : Ret (Fl.fin (forL f ds s) k) Q := by
  obtain ⟨x, e, q⟩ := forI (P := Q) I ds 0 s h fun i d s hd hI => by
    rw [Nat.zero_add] at hI ⊢; exact hs i d s hd hI
  rw [Nat.zero_add] at q
  rw [e]
  rcases q with ⟨s', rfl, h'⟩ | ⟨r, rfl, h'⟩
  · exact hk s' h'
  · exact .mk h'
/-- .. without a state, and no item leaves -/
theorem finU {f : Unit → D → Option (Fl Unit Unit β)} {ds : List D} {k : Unit → Option β} (hs : ∀ d ∈ ds, f () d = some (.nx ())) (hk : Ret (k ()) Q) : Ret (Fl.fin (forL f ds ()) k) Q := by
  rw [forL_unit hs]; exact hk
theorem passU {N' So : Type} {f : Unit → D → Option (Fl Unit Unit R)} {ds : List D} {k : Unit → Option (Fl N' So R)} {Q : Fl N' So R → Prop} (hs : ∀ d ∈ ds, f () d = some (.nx ())) (hk : Ret (k ()) Q) : Ret (Fl.pass (forL f ds ()) k) Q := by
  rw [forL_unit hs]; exact hk
theorem pass {N' So : Type} {f : S → D → Option (Fl S S R)} {ds : List D} {s : S} {k : S → Option (Fl N' So R)} {Q : Fl N' So R → Prop} (I : Nat → S → Prop) (h : I 0 s)
    (hs : ∀ i d s, ds[i]? = some d → I i s → Ret (f s d) fun x => (∃ s', x = .nx s' ∧ I (i + 1) s') ∨ (∃ s', x = .ct s' ∧ I (i + 1) s') ∨ ∃ r, x = .rt r ∧ Q (.rt r)) (hk : ∀ s, I ds.length s → Ret (k s) Q) : Ret (Fl.pass (forL f ds s) k) Q := by
  obtain ⟨x, e, q⟩ := forI (P := fun r => Q (.rt r)) I ds 0 s h fun i d s hd hI => by
    rw [Nat.zero_add] at hI ⊢; exact hs i d s hd hI
  rw [Nat.zero_add] at q
  rw [e]
  rcases q with ⟨s', rfl, h'⟩ | ⟨r, rfl, h'⟩
  · exact hk s' h'
  · exact .mk h'
/-- a comprehension: each item by itself -/
theorem lcO {f : D → Option D} {ds : List D} {k : List D → Option β} (P : Nat → D → Prop) (hl : ds.length ≤ 100000) (hs : ∀ i d, ds[i]? = some d → Ret (f d) (P i)) (hk : ∀ ys, ys.length = ds.length → (∀ i y, ys[i]? = some y → P i y) → Ret (k ys) Q) : Ret ((Z.lcO f ds).bind k) Q := by
  have key : ∀ (ds : List D) (n : Nat), (∀ i d, ds[i]? = some d → Ret (f d) (P (n + i))) → ∃ ys, mapO f ds = some ys ∧ ys.length = ds.length ∧ ∀ i y, ys[i]? = some y → P (n + i) y := fun ds => by
    induction ds with
    | nil => exact fun n _ => ⟨[], rfl, rfl, fun i y h => by simp at h⟩
    | cons d ds ih =>
      intro n hs
      obtain ⟨y, e1, p1⟩ := hs 0 d rfl
      obtain ⟨ys, e2, l2, p2⟩ := ih (n + 1) fun i d hd => by
        have := hs (i + 1) d hd
        rwa [show n + (i + 1) = n + 1 + i by omega] at this
      refine ⟨y :: ys, ?_, by rw [List.length_cons, List.length_cons, l2], fun i z hz => ?_⟩
      · show (f d).bind _ = _
        rw [e1, Option.bind_some, e2]; rfl
      · cases i with
        | zero => cases hz; exact p1
        | succ i =>
          have := p2 i z hz
          rwa [show n + (i + 1) = n + 1 + i by omega]
  obtain ⟨ys, e, l, p⟩ := key ds 0 fun i d hd => by rw [Nat.zero_add]; exact hs i d hd
  have e2 : Z.lcO f ds = some ys := by unfold Z.lcO; rw [if_pos (size_ok hl), e]
  exact .step e2 (hk ys l fun i y hy => by have := p i y hy; rwa [Nat.zero_add] at this)
/-- .. the items are known -/
theorem lcM {f : D → Option D} {g : α → D} {r : α → D} {xs : List α} {k : List D → Option β} (hl : xs.length ≤ 100000) (h : ∀ x ∈ xs, f (g x) = some (r x)) (hk : Ret (k (xs.map r)) Q) : Ret ((Z.lcO f (xs.map g)).bind k) Q := .step (lcO_map (size_ok hl) h) hk
/-- a comprehension that changes something -/
theorem lcS {f : S → D → Option (D × S)} {ds : List D} {s : S} {k : List D → S → Option β} (I : Nat → S → Prop) (P : Nat → D → Prop) (hl : ds.length ≤ 100000) (h : I 0 s) (hs : ∀ i d s, ds[i]? = some d → I i s → Ret (f s d) fun r => P i r.1 ∧ I (i + 1) r.2)
    (hk : ∀ ys s, ys.length = ds.length → (∀ i y, ys[i]? = some y → P i y) → I ds.length s → Ret (k ys s) Q) : Ret (bp (Z.lcS f ds s) k) Q := by
  have key : ∀ (ds : List D) (n : Nat) (s : S), I n s → (∀ i d s, ds[i]? = some d → I (n + i) s → Ret (f s d) fun r => P (n + i) r.1 ∧ I (n + i + 1) r.2) → ∃ ys s', mapS f ds s = some (ys, s') ∧ ys.length = ds.length ∧ (∀ i y, ys[i]? = some y → P (n + i) y) ∧ I (n + ds.length) s' := fun ds => by
    induction ds with
    | nil => exact fun n s h _ => ⟨[], s, rfl, rfl, fun i y h => by simp at h, h⟩
    | cons d ds ih =>
      intro n s h hs
      obtain ⟨⟨y, s1⟩, e1, p1, h1⟩ := hs 0 d s rfl h
      obtain ⟨ys, s2, e2, l2, p2, h2⟩ := ih (n + 1) s1 h1 fun i d s hd hI => by
        have := hs (i + 1) d s hd (by rw [show n + (i + 1) = n + 1 + i by omega]; exact hI)
        rwa [show n + (i + 1) = n + 1 + i by omega] at this
      refine ⟨y :: ys, s2, ?_, by rw [List.length_cons, List.length_cons, l2], fun i z hz => ?_, by rw [List.length_cons, show n + (ds.length + 1) = n + 1 + ds.length by omega]; exact h2⟩
      · show bp (f s d) _ = _
        rw [e1, bp_some, e2]; rfl
      · cases i with
        | zero => cases hz; exact p1
        | succ i =>
          have := p2 i z hz
          rwa [show n + (i + 1) = n + 1 + i by omega]
  obtain ⟨ys, s', e, l, p, h'⟩ := key ds 0 s h fun i d s hd hI => by rw [Nat.zero_add] at hI ⊢; exact hs i d s hd hI
  rw [Nat.zero_add] at h'
  have e2 : Z.lcS f ds s = some (ys, s') := by unfold Z.lcS; rw [if_pos (size_ok hl), e]
  exact .stepP e2 (hk ys s' l (fun i y hy => by have := p i y hy; rwa [Nat.zero_add] at this) h')
end
end Ret
/-- what is known of each item, as a row of typed items -/
theorem rowOf {α : Type} {g : α → D} {P : Nat → α → Prop} : ∀ {ys : List D}, (∀ (i : Nat) (y : D), ys[i]? = some y → ∃ a, y = g a ∧ P i a) → ∃ as : List α, ys = as.map g ∧ ∀ i a, as[i]? = some a → P i a
  | [], _ => ⟨[], rfl, fun i a h => by simp at h⟩
  | y :: ys, h => by
    obtain ⟨a, rfl, p⟩ := h 0 y rfl
    obtain ⟨as, rfl, q⟩ := rowOf (g := g) (P := fun i => P (i + 1)) (ys := ys) fun i y hy => h (i + 1) y hy
    refine ⟨a :: as, rfl, fun i b hb => ?_⟩
    cases i with
    | zero => cases hb; exact p
    | succ i => exact q i b hb
theorem rowOf' {α : Type} {g : α → D} {P : α → Prop} {ys : List D} (h : ∀ (i : Nat) (y : D), ys[i]? = some y → ∃ a, y = g a ∧ P a) : ∃ as : List α, ys = as.map g ∧ ∀ a ∈ as, P a := by
  obtain ⟨as, e, q⟩ := rowOf (P := fun _ => P) h
  refine ⟨as, e, fun a ha => ?_⟩
  obtain ⟨i, hi⟩ := List.mem_iff_getElem?.mp ha
  exact q i a hi
end Z
set_option Elab.async false
set_option linter.all false
set_option maxRecDepth 100000
set_option maxHeartbeats 4000000
/-! Printed by gen.py: the readings of the defs. -/
namespace Qk12
open PySem PySem.Spec PyProof.Rows L2 StX Z
def topS (i : Nat) : Stmt := PySem.Challenge.pw_leaprungs_k12_edges_and_their_sums.main.body.getD i (.Pass ⟨0, 0, 0, 0⟩)
structure Cs where
  c_Edge : Addr
  c_Frame : Addr
  d_Edge_init_effect : V
  d_Edge_init_guards : V
  d_Edge_init_sources : V
  d_Edge_plain_guards : V
  d_Edge_start_effect : V
  d_Edge_start_guards : V
structure Txt (Ac : Cs) (K : Fg) (mg : Str → Option Value) : Prop where
  n_abs : mg "abs" = none
  n_all : mg "all" = none
  n_bool : mg "bool" = none
  n_int : mg "int" = none
  n_isinstance : mg "isinstance" = none
  n_len : mg "len" = none
  n_list : mg "list" = none
  n_range : mg "range" = none
  n_str : mg "str" = none
  n_sum : mg "sum" = none
  n_tuple : mg "tuple" = none
  n_zip : mg "zip" = none
  g_Edge : mg "Edge" = some (.ref Ac.c_Edge)
  f_effect : FldOk K [Ac.c_Edge] "effect"
  f_forms : FldOk K [Ac.c_Frame] "forms"
  f_guards : FldOk K [Ac.c_Edge] "guards"
  f_label : FldOk K [Ac.c_Edge] "label"
  f_name : FldOk K [Ac.c_Frame] "name"
  f_sources : FldOk K [Ac.c_Edge] "sources"
  f_target : FldOk K [Ac.c_Edge] "target"
  f_unknowns : FldOk K [Ac.c_Edge] "unknowns"
  f_variables : FldOk K [Ac.c_Frame] "variables"
  cc_Edge_MOST_CONSTRAINTS : CCon K mg "Edge" Ac.c_Edge "MOST_CONSTRAINTS" (V.int 20)
  cc_Edge_MOST_UNKNOWNS : CCon K mg "Edge" Ac.c_Edge "MOST_UNKNOWNS" (V.int 5)
  d_Edge_init_effect : ∀ F, Rp K F Ac.d_Edge_init_effect (D.tup [])
  d_Edge_init_guards : ∀ F, Rp K F Ac.d_Edge_init_guards (D.tup [])
  d_Edge_init_sources : ∀ F, Rp K F Ac.d_Edge_init_sources (D.tup [])
  d_Edge_plain_guards : ∀ F, Rp K F Ac.d_Edge_plain_guards (D.tup [])
  d_Edge_start_effect : ∀ F, Rp K F Ac.d_Edge_start_effect (D.tup [])
  d_Edge_start_guards : ∀ F, Rp K F Ac.d_Edge_start_guards (D.tup [])
section
variable {P : Program} {w : World} {K : Fg} {mg : Str → Option Value} {base : Heap}
/-! affine_value -/
abbrev s_affine_value : Stmt := topS 1
abbrev N_affine_value : List Str := ["row", "integers", "value", "coefficient", "number"]
theorem sc_affine_value : FnScope N_affine_value ["row", "integers"] (defScope s_affine_value) := ⟨rfl, rfl, rfl, by decide +kernel, rfl, by decide +kernel, by decide +kernel⟩
def t_affine_value (K : Fg) (Ac : Cs) : TS :=
    (tSeq (tAsg (tOp (rIxZ K) (tVar 0) (tUn uNegZ (tC (.int 1)))) (gName 2))
    (tSeq (tFor (iZipZ K (tCons (tVar 0) (tCons (tVar 1) tNil))) (gTup K 2 (gCons (gName 3) (gCons (gName 4) gNil))) (tAsg (tOp (rAddZ K) (tVar 2) (tOp rMulZ (tVar 3) (tVar 4))) (gName 2)))
    (tRet (tVar 2))))
theorem red_affine_value {Ac : Cs} (T : Txt Ac K mg) (f : Addr) (cdv : Value) (A : Around) (outer : List Env) (s : Shared) (H : Hp) (E : XK) (hr : Room 0 (A.deeper (envOfC "affine_value" (defScope s_affine_value) s.heap.objs.size f cdv))) :
    PSs (cxOf CX0 P w K mg base N_affine_value "affine_value" (defScope s_affine_value) f cdv A outer s H E).nox (defBody s_affine_value) (t_affine_value K Ac) :=
    (pss_cons (ps_set (i := 2) sc_affine_value.nd rfl (by first | exact Or.inl rfl | exact Or.inr rfl) (p_ix (pv 0) (p_neg pe_int)))
    (pss_cons (ps_for PassesOwn.never rfl (pi_zipZ (by rfl) T.n_zip (pa_cons (pv 0) (pa_cons (pv 1) pa_nil))) (pg_tup rfl (pgs_cons (pg_name (i := 3) sc_affine_value.nd rfl (by first | exact Or.inl rfl | exact Or.inr rfl)) (pgs_cons (pg_name (i := 4) sc_affine_value.nd rfl (by first | exact Or.inl rfl | exact Or.inr rfl)) pgs_nil))) (pss_one (ps_set (i := 2) sc_affine_value.nd rfl (by first | exact Or.inl rfl | exact Or.inr rfl) (p_add (pv 2) (p_mul (pv 3) (pv 4))))))
    (pss_one (ps_ret (pv 2)))))
/-! unit_row -/
abbrev s_unit_row : Stmt := topS 3
abbrev N_unit_row : List Str := ["unknown", "unknowns"]
theorem sc_unit_row : FnScope N_unit_row ["unknown", "unknowns"] (defScope s_unit_row) := ⟨rfl, rfl, rfl, by decide +kernel, rfl, by decide +kernel, by decide +kernel⟩
def t_unit_row (K : Fg) (Ac : Cs) : TS :=
    (tRet (tOp (rAddZ K) (tOp (rAddZ K) (tOp (rRepTZ K) (tTup (tCons (tC (.int 0)) tNil)) (tVar 0)) (tTup (tCons (tC (.int 1)) tNil))) (tOp (rRepTZ K) (tTup (tCons (tC (.int 0)) tNil)) (tOp rSubZ (tVar 1) (tVar 0)))))
theorem red_unit_row {Ac : Cs} (T : Txt Ac K mg) (f : Addr) (cdv : Value) (A : Around) (outer : List Env) (s : Shared) (H : Hp) (E : XK) (hr : Room 0 (A.deeper (envOfC "unit_row" (defScope s_unit_row) s.heap.objs.size f cdv))) :
    PSs (cxOf CX0 P w K mg base N_unit_row "unit_row" (defScope s_unit_row) f cdv A outer s H E).nox (defBody s_unit_row) (t_unit_row K Ac) :=
    (pss_one (ps_ret (p_add (p_add (p_repT (pe_tup (pa_cons pe_int pa_nil)) (pv 0)) (pe_tup (pa_cons pe_int pa_nil))) (p_repT (pe_tup (pa_cons pe_int pa_nil)) (p_sub (pv 1) (pv 0))))))
/-! Frame.__init__ -/
abbrev s_Frame_init : Stmt := inClass (topS 4) 0
abbrev N_Frame_init : List Str := ["self", "name", "variables", "forms"]
theorem sc_Frame_init : FnScope N_Frame_init ["self", "name", "variables", "forms"] (defScope s_Frame_init) := ⟨rfl, rfl, rfl, by decide +kernel, rfl, by decide +kernel, by decide +kernel⟩
def t_Frame_init (K : Fg) (Ac : Cs) : TS :=
    (tSeq (sFld K (tVar 0) (tVar 1) "name")
    (tSeq (sFld K (tVar 0) (tCB (rTupZ K) (tCons (tVar 2) tNil)) "variables")
    (sFld K (tVar 0) (tCB (rTupZ K) (tCons (tVar 3) tNil)) "forms")))
theorem red_Frame_init {Ac : Cs} (T : Txt Ac K mg) (f : Addr) (cdv : Value) (A : Around) (outer : List Env) (s : Shared) (H : Hp) (E : XK) (hr : Room 0 (A.deeper (envOfC "Frame.__init__" (defScope s_Frame_init) s.heap.objs.size f cdv))) :
    PSs (cxOf CX0 P w K mg base N_Frame_init "Frame.__init__" (defScope s_Frame_init) f cdv A outer s H E).nox (defBody s_Frame_init) (t_Frame_init K Ac) :=
    (pss_cons (ps_fld (pv 0) (pv 1) rfl)
    (pss_cons (ps_fld (pv 0) (pe_callTy cz_tuple (by rfl) T.n_tuple Z.boot_tuple (pa_cons (pv 2) pa_nil)) rfl)
    (pss_one (ps_fld (pv 0) (pe_callTy cz_tuple (by rfl) T.n_tuple Z.boot_tuple (pa_cons (pv 3) pa_nil)) rfl))))
/-! Edge.__init__ -/
abbrev s_Edge_init : Stmt := inClass (topS 5) 2
abbrev N_Edge_init : List Str := ["self", "target", "unknowns", "sources", "guards", "effect", "label"]
theorem sc_Edge_init : FnScope N_Edge_init ["self", "target", "unknowns", "sources", "guards", "effect", "label"] (defScope s_Edge_init) := ⟨rfl, rfl, rfl, by decide +kernel, rfl, by decide +kernel, by decide +kernel⟩
def t_Edge_init (K : Fg) (Ac : Cs) : TS :=
    (tSeq (sFld K (tVar 0) (tVar 1) "target")
    (tSeq (sFld K (tVar 0) (tVar 2) "unknowns")
    (tSeq (sFld K (tVar 0) (tCB (rTupZ K) (tCons (tVar 3) tNil)) "sources")
    (tSeq (sFld K (tVar 0) (tCB (rTupZ K) (tCons (tVar 4) tNil)) "guards")
    (tSeq (sFld K (tVar 0) (tCB (rTupZ K) (tCons (tVar 5) tNil)) "effect")
    (sFld K (tVar 0) (tVar 6) "label"))))))
theorem red_Edge_init {Ac : Cs} (T : Txt Ac K mg) (f : Addr) (cdv : Value) (A : Around) (outer : List Env) (s : Shared) (H : Hp) (E : XK) (hr : Room 0 (A.deeper (envOfC "Edge.__init__" (defScope s_Edge_init) s.heap.objs.size f cdv))) :
    PSs (cxOf CX0 P w K mg base N_Edge_init "Edge.__init__" (defScope s_Edge_init) f cdv A outer s H E).nox (defBody s_Edge_init) (t_Edge_init K Ac) :=
    (pss_cons (ps_fld (pv 0) (pv 1) rfl)
    (pss_cons (ps_fld (pv 0) (pv 2) rfl)
    (pss_cons (ps_fld (pv 0) (pe_callTy cz_tuple (by rfl) T.n_tuple Z.boot_tuple (pa_cons (pv 3) pa_nil)) rfl)
    (pss_cons (ps_fld (pv 0) (pe_callTy cz_tuple (by rfl) T.n_tuple Z.boot_tuple (pa_cons (pv 4) pa_nil)) rfl)
    (pss_cons (ps_fld (pv 0) (pe_callTy cz_tuple (by rfl) T.n_tuple Z.boot_tuple (pa_cons (pv 5) pa_nil)) rfl)
    (pss_one (ps_fld (pv 0) (pv 6) rfl)))))))
/-! Edge.plain -/
abbrev s_Edge_plain : Stmt := inClass (topS 5) 3
abbrev N_Edge_plain : List Str := ["cls", "source", "target", "size", "fresh", "guards", "effect", "label", "unknowns", "rows", "unknown", "sources"]
theorem sc_Edge_plain : FnScope N_Edge_plain ["cls", "source", "target", "size", "fresh", "guards", "effect", "label"] (defScope s_Edge_plain) := ⟨rfl, rfl, rfl, by decide +kernel, rfl, by decide +kernel, by decide +kernel⟩
def t_Edge_plain (K : Fg) (Ac : Cs) (S_unit_row : ZSp) (S_Edge_init : ZSp) : TS :=
    (tSeq (tAsg (tOp (rAddZ K) (tVar 3) (tVar 4)) (gName 8))
    (tSeq (tAsg (tCB (rTupZ K) (tCons (tLc (iRng1 (tCons (tVar 3) tNil)) (gName 10) tYes (tCB (zcall K S_unit_row) (tCons (tVar 10) (tCons (tVar 8) tNil))) [10]) tNil)) (gName 9))
    (tSeq (tIfS (tTest (tOp rIsNZ (tVar 6) (tC .non))) (tAsg (tVar 9) (gName 6)) tNext)
    (tSeq (tAsg (tTup (tCons (tTup (tCons (tVar 1) (tCons (tVar 9) tNil))) tNil)) (gName 11))
    (tRet (tMkL 0 Ac.c_Edge 2 (["sources", "guards", "effect", "label"] : List Str).length (rMk K Ac.c_Edge S_Edge_init) (fun vs zs => vs ++ ((zs.drop 0).take 1 ++ ((zs.drop 1).take 1 ++ ((zs.drop 2).take 1 ++ ((zs.drop 3).take 1 ++ []))))) (tCons (tVar 2) (tCons (tVar 8) tNil)) (tCons (tVar 11) (tCons (tVar 5) (tCons (tVar 6) (tCons (tVar 7) tNil))))))))))
theorem red_Edge_plain {Ac : Cs} (T : Txt Ac K mg) (S_unit_row : ZSp) (S_Edge_init : ZSp)
    (G_unit_row : FnZ P w K mg base "unit_row" 1 S_unit_row)
    (G_Edge_init_2_sources_guards_effect_label : MkKZ P w K mg base "Edge" Ac.c_Edge 1 2 ["sources", "guards", "effect", "label"] (fun vs zs => vs ++ ((zs.drop 0).take 1 ++ ((zs.drop 1).take 1 ++ ((zs.drop 2).take 1 ++ ((zs.drop 3).take 1 ++ []))))) S_Edge_init) (f : Addr) (cdv : Value) (A : Around) (outer : List Env) (s : Shared) (H : Hp) (E : XK) (hr : Room 2 (A.deeper (envOfC "Edge.plain" (defScope s_Edge_plain) s.heap.objs.size f cdv))) :
    PSs (cxOf CX0 P w K mg base N_Edge_plain "Edge.plain" (defScope s_Edge_plain) f cdv A outer s H E).nox (defBody s_Edge_plain) (t_Edge_plain K Ac S_unit_row S_Edge_init) :=
    (pss_cons (ps_set (i := 8) sc_Edge_plain.nd rfl (by first | exact Or.inl rfl | exact Or.inr rfl) (p_add (pv 3) (pv 4)))
    (pss_cons (ps_set (i := 9) sc_Edge_plain.nd rfl (by first | exact Or.inl rfl | exact Or.inr rfl) (pe_callTy cz_tuple (by rfl) T.n_tuple Z.boot_tuple (pa_cons (pe_lc (own := [("unknown", 10)]) rfl sc_Edge_plain.nd (pi_range1 (by rfl) T.n_range (pa_cons (pv 3) pa_nil)) (blkOk_by (by kernel_rfl)) (fun _ _ _ _ _ => (pg_name (i := 10) sc_Edge_plain.nd rfl (by first | exact Or.inl rfl | exact Or.inr rfl))) (fun _ _ _ _ _ => pts_nil) (fun _ _ _ _ _ => (p_call G_unit_row hr (pa_cons (pv 10) (pa_cons (pv 8) pa_nil))))) pa_nil)))
    (pss_cons (ps_if (q_isN (pv 6) pe_non) (pss_one (ps_set (i := 6) sc_Edge_plain.nd rfl (by first | exact Or.inl rfl | exact Or.inr rfl) (pv 9))) pss_nil)
    (pss_cons (ps_set (i := 11) sc_Edge_plain.nd rfl (by first | exact Or.inl rfl | exact Or.inr rfl) (pe_tup (pa_cons (pe_tup (pa_cons (pv 1) (pa_cons (pv 9) pa_nil))) pa_nil)))
    (pss_one (ps_ret (p_makeL G_Edge_init_2_sources_guards_effect_label hr (i := 0) rfl (by first | exact Or.inl rfl | exact Or.inr rfl) (pa_cons (pv 2) (pa_cons (pv 8) pa_nil)) (pk_cons (pv 11) (pk_cons (pv 5) (pk_cons (pv 6) (pk_cons (pv 7) pk_nil)))))))))))
/-! Edge.start -/
abbrev s_Edge_start : Stmt := inClass (topS 5) 4
abbrev N_Edge_start : List Str := ["cls", "target", "fresh", "guards", "effect"]
theorem sc_Edge_start : FnScope N_Edge_start ["cls", "target", "fresh", "guards", "effect"] (defScope s_Edge_start) := ⟨rfl, rfl, rfl, by decide +kernel, rfl, by decide +kernel, by decide +kernel⟩
def t_Edge_start (K : Fg) (Ac : Cs) (S_Edge_init : ZSp) : TS :=
    (tRet (tMkL 0 Ac.c_Edge 2 (["guards", "effect", "label"] : List Str).length (rMk K Ac.c_Edge S_Edge_init) (fun vs zs => vs ++ ([Ac.d_Edge_init_sources] ++ ((zs.drop 0).take 1 ++ ((zs.drop 1).take 1 ++ ((zs.drop 2).take 1 ++ []))))) (tCons (tVar 1) (tCons (tVar 2) tNil)) (tCons (tVar 3) (tCons (tVar 4) (tCons (tC (.str "start")) tNil)))))
theorem red_Edge_start {Ac : Cs} (T : Txt Ac K mg) (S_Edge_init : ZSp)
    (G_Edge_init_2_guards_effect_label : MkKZ P w K mg base "Edge" Ac.c_Edge 1 2 ["guards", "effect", "label"] (fun vs zs => vs ++ ([Ac.d_Edge_init_sources] ++ ((zs.drop 0).take 1 ++ ((zs.drop 1).take 1 ++ ((zs.drop 2).take 1 ++ []))))) S_Edge_init) (f : Addr) (cdv : Value) (A : Around) (outer : List Env) (s : Shared) (H : Hp) (E : XK) (hr : Room 2 (A.deeper (envOfC "Edge.start" (defScope s_Edge_start) s.heap.objs.size f cdv))) :
    PSs (cxOf CX0 P w K mg base N_Edge_start "Edge.start" (defScope s_Edge_start) f cdv A outer s H E).nox (defBody s_Edge_start) (t_Edge_start K Ac S_Edge_init) :=
    (pss_one (ps_ret (p_makeL G_Edge_init_2_guards_effect_label hr (i := 0) rfl (by first | exact Or.inl rfl | exact Or.inr rfl) (pa_cons (pv 1) (pa_cons (pv 2) pa_nil)) (pk_cons (pv 3) (pk_cons (pv 4) (pk_cons pe_str pk_nil))))))
/-! Edge.with_guard -/
abbrev s_Edge_with_guard : Stmt := inClass (topS 5) 5
abbrev N_Edge_with_guard : List Str := ["self", "row"]
theorem sc_Edge_with_guard : FnScope N_Edge_with_guard ["self", "row"] (defScope s_Edge_with_guard) := ⟨rfl, rfl, rfl, by decide +kernel, rfl, by decide +kernel, by decide +kernel⟩
def t_Edge_with_guard (K : Fg) (Ac : Cs) (S_Edge_init : ZSp) : TS :=
    (tRet (tMkK 2 (["sources", "guards", "effect", "label"] : List Str).length (rMk K Ac.c_Edge S_Edge_init) (fun vs zs => vs ++ ((zs.drop 0).take 1 ++ ((zs.drop 1).take 1 ++ ((zs.drop 2).take 1 ++ ((zs.drop 3).take 1 ++ []))))) (tCons (tUn (rFld K "target") (tVar 0)) (tCons (tUn (rFld K "unknowns") (tVar 0)) tNil)) (tCons (tUn (rFld K "sources") (tVar 0)) (tCons (tOp (rAddZ K) (tUn (rFld K "guards") (tVar 0)) (tTup (tCons (tVar 1) tNil))) (tCons (tUn (rFld K "effect") (tVar 0)) (tCons (tUn (rFld K "label") (tVar 0)) tNil))))))
theorem red_Edge_with_guard {Ac : Cs} (T : Txt Ac K mg) (S_Edge_init : ZSp)
    (G_Edge_init_2_sources_guards_effect_label : MkKZ P w K mg base "Edge" Ac.c_Edge 1 2 ["sources", "guards", "effect", "label"] (fun vs zs => vs ++ ((zs.drop 0).take 1 ++ ((zs.drop 1).take 1 ++ ((zs.drop 2).take 1 ++ ((zs.drop 3).take 1 ++ []))))) S_Edge_init) (f : Addr) (cdv : Value) (A : Around) (outer : List Env) (s : Shared) (H : Hp) (E : XK) (hr : Room 2 (A.deeper (envOfC "Edge.with_guard" (defScope s_Edge_with_guard) s.heap.objs.size f cdv))) :
    PSs (cxOf CX0 P w K mg base N_Edge_with_guard "Edge.with_guard" (defScope s_Edge_with_guard) f cdv A outer s H E).nox (defBody s_Edge_with_guard) (t_Edge_with_guard K Ac S_Edge_init) :=
    (pss_one (ps_ret (p_makeK G_Edge_init_2_sources_guards_effect_label hr (pa_cons (p_fld (pv 0)) (pa_cons (p_fld (pv 0)) pa_nil)) (pk_cons (p_fld (pv 0)) (pk_cons (p_add (p_fld (pv 0)) (pe_tup (pa_cons (pv 1) pa_nil))) (pk_cons (p_fld (pv 0)) (pk_cons (p_fld (pv 0)) pk_nil)))))))
/-! Edge.closed -/
abbrev s_Edge_closed : Stmt := inClass (topS 5) 6
abbrev N_Edge_closed : List Str := ["self"]
theorem sc_Edge_closed : FnScope N_Edge_closed ["self"] (defScope s_Edge_closed) := ⟨rfl, rfl, rfl, by decide +kernel, rfl, by decide +kernel, by decide +kernel⟩
def t_Edge_closed (K : Fg) (Ac : Cs) (S_Edge_with_guard : ZSp) : TS :=
    (tRet (tMth Ac.c_Edge "with_guard" (zcall K S_Edge_with_guard) (tVar 0) (tCons (tOp (rAddZ K) (tOp (rRepTZ K) (tTup (tCons (tC (.int 0)) tNil)) (tUn (rFld K "unknowns") (tVar 0))) (tTup (tCons (tC (.int 1)) tNil))) tNil)))
theorem red_Edge_closed {Ac : Cs} (T : Txt Ac K mg) (S_Edge_with_guard : ZSp)
    (G_Edge_with_guard : MtZ P w K mg base Ac.c_Edge "with_guard" 3 S_Edge_with_guard) (f : Addr) (cdv : Value) (A : Around) (outer : List Env) (s : Shared) (H : Hp) (E : XK) (hr : Room 3 (A.deeper (envOfC "Edge.closed" (defScope s_Edge_closed) s.heap.objs.size f cdv))) :
    PSs (cxOf CX0 P w K mg base N_Edge_closed "Edge.closed" (defScope s_Edge_closed) f cdv A outer s H E).nox (defBody s_Edge_closed) (t_Edge_closed K Ac S_Edge_with_guard) :=
    (pss_one (ps_ret (p_meth G_Edge_with_guard hr (pv 0) (pa_cons (p_add (p_repT (pe_tup (pa_cons pe_int pa_nil)) (p_fld (pv 0))) (pe_tup (pa_cons pe_int pa_nil))) pa_nil))))
/-! Edge.guards_hold -/
abbrev s_Edge_guards_hold : Stmt := inClass (topS 5) 7
abbrev N_Edge_guards_hold : List Str := ["self", "values", "row"]
theorem sc_Edge_guards_hold : FnScope N_Edge_guards_hold ["self", "values"] (defScope s_Edge_guards_hold) := ⟨rfl, rfl, rfl, by decide +kernel, rfl, by decide +kernel, by decide +kernel⟩
def t_Edge_guards_hold (K : Fg) (Ac : Cs) (S_affine_value : ZSp) : TS :=
    (tSeq (tFor (iSeqZ K (tUn (rFld K "guards") (tVar 0))) (gName 2) (tIfS (tTest (tOp rGtZ (tCB (zcall K S_affine_value) (tCons (tVar 2) (tCons (tVar 1) tNil))) (tC (.int 0)))) (tRet (tC (.bl false))) tNext))
    (tRet (tC (.bl true))))
theorem red_Edge_guards_hold {Ac : Cs} (T : Txt Ac K mg) (S_affine_value : ZSp)
    (G_affine_value : FnZ P w K mg base "affine_value" 1 S_affine_value) (f : Addr) (cdv : Value) (A : Around) (outer : List Env) (s : Shared) (H : Hp) (E : XK) (hr : Room 1 (A.deeper (envOfC "Edge.guards_hold" (defScope s_Edge_guards_hold) s.heap.objs.size f cdv))) :
    PSs (cxOf CX0 P w K mg base N_Edge_guards_hold "Edge.guards_hold" (defScope s_Edge_guards_hold) f cdv A outer s H E).nox (defBody s_Edge_guards_hold) (t_Edge_guards_hold K Ac S_affine_value) :=
    (pss_cons (ps_for PassesOwn.never rfl (pi_seqZ (p_fld (pv 0))) (pg_name (i := 2) sc_Edge_guards_hold.nd rfl (by first | exact Or.inl rfl | exact Or.inr rfl)) (pss_one (ps_if (q_gt (p_call G_affine_value hr (pa_cons (pv 2) (pa_cons (pv 1) pa_nil))) pe_int) (pss_one (ps_ret pe_bl)) pss_nil)))
    (pss_one (ps_ret pe_bl)))
/-! Edge.source_state -/
abbrev s_Edge_source_state : Stmt := inClass (topS 5) 8
abbrev N_Edge_source_state : List Str := ["self", "position", "values", "rows", "row"]
theorem sc_Edge_source_state : FnScope N_Edge_source_state ["self", "position", "values"] (defScope s_Edge_source_state) := ⟨rfl, rfl, rfl, by decide +kernel, rfl, by decide +kernel, by decide +kernel⟩
def t_Edge_source_state (K : Fg) (Ac : Cs) (S_affine_value : ZSp) : TS :=
    (tSeq (tAsg (tOp (rIxZ K) (tOp (rIxZ K) (tUn (rFld K "sources") (tVar 0)) (tVar 1)) (tC (.int 1))) (gName 3))
    (tRet (tCB (rTupZ K) (tCons (tLc (iSeqZ K (tVar 3)) (gName 4) tYes (tCB (zcall K S_affine_value) (tCons (tVar 4) (tCons (tVar 2) tNil))) [4]) tNil))))
theorem red_Edge_source_state {Ac : Cs} (T : Txt Ac K mg) (S_affine_value : ZSp)
    (G_affine_value : FnZ P w K mg base "affine_value" 1 S_affine_value) (f : Addr) (cdv : Value) (A : Around) (outer : List Env) (s : Shared) (H : Hp) (E : XK) (hr : Room 1 (A.deeper (envOfC "Edge.source_state" (defScope s_Edge_source_state) s.heap.objs.size f cdv))) :
    PSs (cxOf CX0 P w K mg base N_Edge_source_state "Edge.source_state" (defScope s_Edge_source_state) f cdv A outer s H E).nox (defBody s_Edge_source_state) (t_Edge_source_state K Ac S_affine_value) :=
    (pss_cons (ps_set (i := 3) sc_Edge_source_state.nd rfl (by first | exact Or.inl rfl | exact Or.inr rfl) (p_ix (p_ix (p_fld (pv 0)) (pv 1)) pe_int))
    (pss_one (ps_ret (pe_callTy cz_tuple (by rfl) T.n_tuple Z.boot_tuple (pa_cons (pe_lc (own := [("row", 4)]) rfl sc_Edge_source_state.nd (pi_seqZ (pv 3)) (blkOk_by (by kernel_rfl)) (fun _ _ _ _ _ => (pg_name (i := 4) sc_Edge_source_state.nd rfl (by first | exact Or.inl rfl | exact Or.inr rfl))) (fun _ _ _ _ _ => pts_nil) (fun _ _ _ _ _ => (p_call G_affine_value hr (pa_cons (pv 4) (pa_cons (pv 2) pa_nil))))) pa_nil)))))
/-! Edge.target_state -/
abbrev s_Edge_target_state : Stmt := inClass (topS 5) 9
abbrev N_Edge_target_state : List Str := ["self", "values", "row"]
theorem sc_Edge_target_state : FnScope N_Edge_target_state ["self", "values"] (defScope s_Edge_target_state) := ⟨rfl, rfl, rfl, by decide +kernel, rfl, by decide +kernel, by decide +kernel⟩
def t_Edge_target_state (K : Fg) (Ac : Cs) (S_affine_value : ZSp) : TS :=
    (tRet (tCB (rTupZ K) (tCons (tLc (iSeqZ K (tUn (rFld K "effect") (tVar 0))) (gName 2) tYes (tCB (zcall K S_affine_value) (tCons (tVar 2) (tCons (tVar 1) tNil))) [2]) tNil)))
theorem red_Edge_target_state {Ac : Cs} (T : Txt Ac K mg) (S_affine_value : ZSp)
    (G_affine_value : FnZ P w K mg base "affine_value" 1 S_affine_value) (f : Addr) (cdv : Value) (A : Around) (outer : List Env) (s : Shared) (H : Hp) (E : XK) (hr : Room 1 (A.deeper (envOfC "Edge.target_state" (defScope s_Edge_target_state) s.heap.objs.size f cdv))) :
    PSs (cxOf CX0 P w K mg base N_Edge_target_state "Edge.target_state" (defScope s_Edge_target_state) f cdv A outer s H E).nox (defBody s_Edge_target_state) (t_Edge_target_state K Ac S_affine_value) :=
    (pss_one (ps_ret (pe_callTy cz_tuple (by rfl) T.n_tuple Z.boot_tuple (pa_cons (pe_lc (own := [("row", 2)]) rfl sc_Edge_target_state.nd (pi_seqZ (p_fld (pv 0))) (blkOk_by (by kernel_rfl)) (fun _ _ _ _ _ => (pg_name (i := 2) sc_Edge_target_state.nd rfl (by first | exact Or.inl rfl | exact Or.inr rfl))) (fun _ _ _ _ _ => pts_nil) (fun _ _ _ _ _ => (p_call G_affine_value hr (pa_cons (pv 2) (pa_cons (pv 1) pa_nil))))) pa_nil))))
/-! _law_purse -/
abbrev s_law_purse : Stmt := topS 7
abbrev N_law_purse : List Str := ["_law_script", "_law_cell"]
theorem sc_law_purse : FnScope N_law_purse ["_law_script"] (defScope s_law_purse) := ⟨rfl, rfl, rfl, by decide +kernel, rfl, by decide +kernel, by decide +kernel⟩
def t_law_purse (K : Fg) (Ac : Cs) : TS :=
    (tRet (tOp (rAddZ K) (tLst (tCons (tC (.int 0)) (tCons (tOp (rAddZ K) (tC (.int 1)) (tCB (rLenZ K) (tCons (tSl (rSlZ K) (tVar 0) tNoPart (tPart (tC (.int 63)))) tNil))) (tCons (tC (.int 0)) tNil)))) (tLc (iSeqZ K (tSl (rSlZ K) (tVar 0) tNoPart (tPart (tC (.int 63))))) (gName 1) tYes (tCB (rAbsZ) (tCons (tCB (rIntZ) (tCons (tVar 1) tNil)) tNil)) [1])))
theorem red_law_purse {Ac : Cs} (T : Txt Ac K mg) (f : Addr) (cdv : Value) (A : Around) (outer : List Env) (s : Shared) (H : Hp) (E : XK) (hr : Room 0 (A.deeper (envOfC "_law_purse" (defScope s_law_purse) s.heap.objs.size f cdv))) :
    PSs (cxOf CX0 P w K mg base N_law_purse "_law_purse" (defScope s_law_purse) f cdv A outer s H E).nox (defBody s_law_purse) (t_law_purse K Ac) :=
    (pss_one (ps_ret (p_add (pe_lst (pa_cons pe_int (pa_cons (p_add pe_int (pe_callB cz_len (by rfl) T.n_len Z.boot_len (pa_cons (p_sl (pv 0) po_none (po_some pe_int)) pa_nil))) (pa_cons pe_int pa_nil)))) (pe_lc (own := [("_law_cell", 1)]) rfl sc_law_purse.nd (pi_seqZ (p_sl (pv 0) po_none (po_some pe_int))) (blkOk_by (by kernel_rfl)) (fun _ _ _ _ _ => (pg_name (i := 1) sc_law_purse.nd rfl (by first | exact Or.inl rfl | exact Or.inr rfl))) (fun _ _ _ _ _ => pts_nil) (fun _ _ _ _ _ => (pe_callB cz_abs (by rfl) T.n_abs Z.boot_abs (pa_cons (pe_callTy cz_int (by rfl) T.n_int Z.boot_int (pa_cons (pv 1) pa_nil)) pa_nil)))))))
/-! _law_draw -/
abbrev s_law_draw : Stmt := topS 8
abbrev N_law_draw : List Str := ["_law_purse_here", "_law_size", "_law_cell", "_law_digit", "_law_mixed"]
theorem sc_law_draw : FnScope N_law_draw ["_law_purse_here", "_law_size"] (defScope s_law_draw) := ⟨rfl, rfl, rfl, by decide +kernel, rfl, by decide +kernel, by decide +kernel⟩
def t_law_draw (K : Fg) (Ac : Cs) : TS :=
    (tSeq (tIfS (tAnd (tTest (tOp (rEqZ K) (tOp (rIxZ K) (tVar 0) (tC (.int 0))) (tC (.int 0)))) (tTest (tOp rGtZ (tCB (rLenZ K) (tCons (tVar 0) tNil)) (tC (.int 3))))) (tSeq (tAsg (tBM K "list" rPopAt (tVar 0) (tCons (tC (.int 3)) tNil)) (gName 2))
    (tIfS (tTest (tOp rGeZ (tVar 2) (tOp rPowZ (tC (.int 10)) (tC (.int 18))))) (tAsg (tVar 2) (gSub (tVar 0) (tC (.int 0)) rSetL)) (tAsg (tOp rModZ (tCB (rIntZ) (tCons (tOp (rAddZ K) (tOp (rAddZ K) (tOp rMulZ (tOp (rIxZ K) (tVar 0) (tC (.int 1))) (tC (.int 40014))) (tOp rMulZ (tVar 2) (tC (.int 48271)))) (tC (.int 7))) tNil)) (tC (.int 2147483563))) (gSub (tVar 0) (tC (.int 1)) rSetL)))) tNext)
    (tSeq (tAsg (tOp (rAddZ K) (tOp (rIxZ K) (tVar 0) (tC (.int 2))) (tC (.int 1))) (gSub (tVar 0) (tC (.int 2)) rSetL))
    (tSeq (tIfS (tTest (tOp rGtZ (tOp (rIxZ K) (tVar 0) (tC (.int 0))) (tC (.int 0)))) (tSeq (tAsg (tOp rModZ (tCB (rIntZ) (tCons (tOp (rIxZ K) (tVar 0) (tC (.int 0))) tNil)) (tVar 1)) (gName 3))
    (tSeq (tAsg (tOp rDivZ (tOp (rIxZ K) (tVar 0) (tC (.int 0))) (tVar 1)) (gSub (tVar 0) (tC (.int 0)) rSetL))
    (tRet (tVar 3)))) tNext)
    (tSeq (tAsg (tOp rModZ (tCB (rIntZ) (tCons (tOp (rAddZ K) (tOp rMulZ (tOp (rIxZ K) (tVar 0) (tC (.int 1))) (tC (.int 48271))) (tOp rMulZ (tOp (rIxZ K) (tVar 0) (tC (.int 2))) (tC (.int 69621)))) tNil)) (tC (.int 2147483647))) (gName 4))
    (tSeq (tAsg (tOp rModZ (tCB (rIntZ) (tCons (tOp (rAddZ K) (tOp (rAddZ K) (tOp rMulZ (tVar 4) (tVar 4)) (tOp rMulZ (tOp (rIxZ K) (tVar 0) (tC (.int 1))) (tC (.int 16807)))) (tOp rMulZ (tOp (rIxZ K) (tVar 0) (tC (.int 2))) (tC (.int 40692)))) tNil)) (tC (.int 2147483399))) (gName 4))
    (tRet (tOp rModZ (tOp rDivZ (tVar 4) (tC (.int 11))) (tVar 1))))))))
theorem red_law_draw {Ac : Cs} (T : Txt Ac K mg) (f : Addr) (cdv : Value) (A : Around) (outer : List Env) (s : Shared) (H : Hp) (E : XK) (hr : Room 0 (A.deeper (envOfC "_law_draw" (defScope s_law_draw) s.heap.objs.size f cdv))) :
    PSs (cxOf CX0 P w K mg base N_law_draw "_law_draw" (defScope s_law_draw) f cdv A outer s H E).nox (defBody s_law_draw) (t_law_draw K Ac) :=
    (pss_cons (ps_if (PW.pt (pw_and (q_eq (Room.units hr) (p_ix (pv 0) pe_int) pe_int) (pw_and1 (q_gt (pe_callB cz_len (by rfl) T.n_len Z.boot_len (pa_cons (pv 0) pa_nil)) pe_int)))) (pss_cons (ps_set (i := 2) sc_law_draw.nd rfl (by first | exact Or.inl rfl | exact Or.inr rfl) (pe_bm PySem.F.plainAttrs_list PySem.F.slot_list_pop PySem.F.type_list_pop mt_popAt (pv 0) (pa_cons pe_int pa_nil)))
    (pss_one (ps_if (q_ge (pv 2) (p_pow pe_int pe_int)) (pss_one (ps_asg (pv 2) (pg_sub (pv 0) pe_int set_list))) (pss_one (ps_asg (p_mod (pe_callTy cz_int (by rfl) T.n_int Z.boot_int (pa_cons (p_add (p_add (p_mul (p_ix (pv 0) pe_int) pe_int) (p_mul (pv 2) pe_int)) pe_int) pa_nil)) pe_int) (pg_sub (pv 0) pe_int set_list)))))) pss_nil)
    (pss_cons (ps_asg (p_add (p_ix (pv 0) pe_int) pe_int) (pg_sub (pv 0) pe_int set_list))
    (pss_cons (ps_if (q_gt (p_ix (pv 0) pe_int) pe_int) (pss_cons (ps_set (i := 3) sc_law_draw.nd rfl (by first | exact Or.inl rfl | exact Or.inr rfl) (p_mod (pe_callTy cz_int (by rfl) T.n_int Z.boot_int (pa_cons (p_ix (pv 0) pe_int) pa_nil)) (pv 1)))
    (pss_cons (ps_asg (p_fdiv (p_ix (pv 0) pe_int) (pv 1)) (pg_sub (pv 0) pe_int set_list))
    (pss_one (ps_ret (pv 3))))) pss_nil)
    (pss_cons (ps_set (i := 4) sc_law_draw.nd rfl (by first | exact Or.inl rfl | exact Or.inr rfl) (p_mod (pe_callTy cz_int (by rfl) T.n_int Z.boot_int (pa_cons (p_add (p_mul (p_ix (pv 0) pe_int) pe_int) (p_mul (p_ix (pv 0) pe_int) pe_int)) pa_nil)) pe_int))
    (pss_cons (ps_set (i := 4) sc_law_draw.nd rfl (by first | exact Or.inl rfl | exact Or.inr rfl) (p_mod (pe_callTy cz_int (by rfl) T.n_int Z.boot_int (pa_cons (p_add (p_add (p_mul (pv 4) (pv 4)) (p_mul (p_ix (pv 0) pe_int) pe_int)) (p_mul (p_ix (pv 0) pe_int) pe_int)) pa_nil)) pe_int))
    (pss_one (ps_ret (p_mod (p_fdiv (pv 4) pe_int) (pv 1)))))))))
/-! _law_coefficient -/
abbrev s_law_coefficient : Stmt := topS 9
abbrev N_law_coefficient : List Str := ["_law_purse_here", "_law_way"]
theorem sc_law_coefficient : FnScope N_law_coefficient ["_law_purse_here"] (defScope s_law_coefficient) := ⟨rfl, rfl, rfl, by decide +kernel, rfl, by decide +kernel, by decide +kernel⟩
def t_law_coefficient (K : Fg) (Ac : Cs) (S_law_draw : ZSp) : TS :=
    (tSeq (tAsg (tCB (zcall K S_law_draw) (tCons (tVar 0) (tCons (tC (.int 6)) tNil))) (gName 1))
    (tSeq (tIfS (tTest (tOp (rEqZ K) (tVar 1) (tC (.int 0)))) (tRet (tOp rSubZ (tCB (zcall K S_law_draw) (tCons (tVar 0) (tCons (tC (.int 2001)) tNil))) (tC (.int 1000)))) tNext)
    (tSeq (tIfS (tTest (tOp (rEqZ K) (tVar 1) (tC (.int 1)))) (tRet (tC (.int 0))) tNext)
    (tRet (tOp rSubZ (tCB (zcall K S_law_draw) (tCons (tVar 0) (tCons (tC (.int 7)) tNil))) (tC (.int 3)))))))
theorem red_law_coefficient {Ac : Cs} (T : Txt Ac K mg) (S_law_draw : ZSp)
    (G_law_draw : FnZ P w K mg base "_law_draw" 1 S_law_draw) (f : Addr) (cdv : Value) (A : Around) (outer : List Env) (s : Shared) (H : Hp) (E : XK) (hr : Room 1 (A.deeper (envOfC "_law_coefficient" (defScope s_law_coefficient) s.heap.objs.size f cdv))) :
    PSs (cxOf CX0 P w K mg base N_law_coefficient "_law_coefficient" (defScope s_law_coefficient) f cdv A outer s H E).nox (defBody s_law_coefficient) (t_law_coefficient K Ac S_law_draw) :=
    (pss_cons (ps_set (i := 1) sc_law_coefficient.nd rfl (by first | exact Or.inl rfl | exact Or.inr rfl) (p_call G_law_draw hr (pa_cons (pv 0) (pa_cons pe_int pa_nil))))
    (pss_cons (ps_if (q_eq (Room.units hr) (pv 1) pe_int) (pss_one (ps_ret (p_sub (p_call G_law_draw hr (pa_cons (pv 0) (pa_cons pe_int pa_nil))) pe_int))) pss_nil)
    (pss_cons (ps_if (q_eq (Room.units hr) (pv 1) pe_int) (pss_one (ps_ret pe_int)) pss_nil)
    (pss_one (ps_ret (p_sub (p_call G_law_draw hr (pa_cons (pv 0) (pa_cons pe_int pa_nil))) pe_int))))))
/-! _law_constant -/
abbrev s_law_constant : Stmt := topS 10
abbrev N_law_constant : List Str := ["_law_purse_here"]
theorem sc_law_constant : FnScope N_law_constant ["_law_purse_here"] (defScope s_law_constant) := ⟨rfl, rfl, rfl, by decide +kernel, rfl, by decide +kernel, by decide +kernel⟩
def t_law_constant (K : Fg) (Ac : Cs) (S_law_draw : ZSp) : TS :=
    (tSeq (tIfS (tTest (tOp (rEqZ K) (tCB (zcall K S_law_draw) (tCons (tVar 0) (tCons (tC (.int 4)) tNil))) (tC (.int 0)))) (tRet (tOp rSubZ (tCB (zcall K S_law_draw) (tCons (tVar 0) (tCons (tC (.int 2000001)) tNil))) (tC (.int 1000000)))) tNext)
    (tRet (tOp rSubZ (tCB (zcall K S_law_draw) (tCons (tVar 0) (tCons (tC (.int 13)) tNil))) (tC (.int 6)))))
theorem red_law_constant {Ac : Cs} (T : Txt Ac K mg) (S_law_draw : ZSp)
    (G_law_draw : FnZ P w K mg base "_law_draw" 1 S_law_draw) (f : Addr) (cdv : Value) (A : Around) (outer : List Env) (s : Shared) (H : Hp) (E : XK) (hr : Room 1 (A.deeper (envOfC "_law_constant" (defScope s_law_constant) s.heap.objs.size f cdv))) :
    PSs (cxOf CX0 P w K mg base N_law_constant "_law_constant" (defScope s_law_constant) f cdv A outer s H E).nox (defBody s_law_constant) (t_law_constant K Ac S_law_draw) :=
    (pss_cons (ps_if (q_eq (Room.units hr) (p_call G_law_draw hr (pa_cons (pv 0) (pa_cons pe_int pa_nil))) pe_int) (pss_one (ps_ret (p_sub (p_call G_law_draw hr (pa_cons (pv 0) (pa_cons pe_int pa_nil))) pe_int))) pss_nil)
    (pss_one (ps_ret (p_sub (p_call G_law_draw hr (pa_cons (pv 0) (pa_cons pe_int pa_nil))) pe_int))))
/-! _law_rows -/
abbrev s_law_rows : Stmt := topS 11
abbrev N_law_rows : List Str := ["_law_purse_here", "_law_count", "_law_many", "_law_rows_here", "_law_k", "_law_row", "_law_at"]
theorem sc_law_rows : FnScope N_law_rows ["_law_purse_here", "_law_count", "_law_many"] (defScope s_law_rows) := ⟨rfl, rfl, rfl, by decide +kernel, rfl, by decide +kernel, by decide +kernel⟩
def t_law_rows (K : Fg) (Ac : Cs) (S_law_coefficient : ZSp) (S_law_constant : ZSp) : TS :=
    (tSeq (tAsg (tLst tNil) (gName 3))
    (tSeq (tFor (iRng1 (tCons (tVar 1) tNil)) (gName 4) (tSeq (tAsg (tLc (iRng1 (tCons (tVar 2) tNil)) (gName 6) tYes (tCB (zcall K S_law_coefficient) (tCons (tVar 0) tNil)) [6]) (gName 5))
    (tDrop (tBM K "list" rAppend (tVar 3) (tCons (tCB (rTupZ K) (tCons (tOp (rAddZ K) (tVar 5) (tLst (tCons (tCB (zcall K S_law_constant) (tCons (tVar 0) tNil)) tNil))) tNil)) tNil)))))
    (tRet (tCB (rTupZ K) (tCons (tVar 3) tNil)))))
theorem red_law_rows {Ac : Cs} (T : Txt Ac K mg) (S_law_coefficient : ZSp) (S_law_constant : ZSp)
    (G_law_coefficient : FnZ P w K mg base "_law_coefficient" 2 S_law_coefficient)
    (G_law_constant : FnZ P w K mg base "_law_constant" 2 S_law_constant) (f : Addr) (cdv : Value) (A : Around) (outer : List Env) (s : Shared) (H : Hp) (E : XK) (hr : Room 2 (A.deeper (envOfC "_law_rows" (defScope s_law_rows) s.heap.objs.size f cdv))) :
    PSs (cxOf CX0 P w K mg base N_law_rows "_law_rows" (defScope s_law_rows) f cdv A outer s H E).nox (defBody s_law_rows) (t_law_rows K Ac S_law_coefficient S_law_constant) :=
    (pss_cons (ps_set (i := 3) sc_law_rows.nd rfl (by first | exact Or.inl rfl | exact Or.inr rfl) (pe_lst pa_nil))
    (pss_cons (ps_for PassesOwn.never rfl (pi_range1 (by rfl) T.n_range (pa_cons (pv 1) pa_nil)) (pg_name (i := 4) sc_law_rows.nd rfl (by first | exact Or.inl rfl | exact Or.inr rfl)) (pss_cons (ps_setLc (i := 5) (own := [("_law_at", 6)]) rfl sc_law_rows.nd rfl (by rfl) (sw_true rfl rfl rfl (by decide +kernel)) (pi_range1 (by rfl) T.n_range (pa_cons (pv 2) pa_nil)) (blkOk_by (by kernel_rfl)) (fun _ _ _ _ _ => (pg_name (i := 6) sc_law_rows.nd rfl (by first | exact Or.inl rfl | exact Or.inr rfl))) (fun _ _ _ _ _ => pts_nil) (fun _ _ _ _ _ => (p_call G_law_coefficient hr (pa_cons (pv 0) pa_nil))))
    (pss_one (ps_expr (pe_bm PySem.F.plainAttrs_list PySem.F.slot_list_append PySem.F.type_list_append mt_append (pv 3) (pa_cons (pe_callTy cz_tuple (by rfl) T.n_tuple Z.boot_tuple (pa_cons (p_add (pv 5) (pe_lst (pa_cons (p_call G_law_constant hr (pa_cons (pv 0) pa_nil)) pa_nil))) pa_nil)) pa_nil))))))
    (pss_one (ps_ret (pe_callTy cz_tuple (by rfl) T.n_tuple Z.boot_tuple (pa_cons (pv 3) pa_nil))))))
/-! _law_near -/
abbrev s_law_near : Stmt := topS 12
abbrev N_law_near : List Str := ["_law_purse_here", "_law_many", "_law_k"]
theorem sc_law_near : FnScope N_law_near ["_law_purse_here", "_law_many"] (defScope s_law_near) := ⟨rfl, rfl, rfl, by decide +kernel, rfl, by decide +kernel, by decide +kernel⟩
def t_law_near (K : Fg) (Ac : Cs) (S_law_draw : ZSp) : TS :=
    (tRet (tCB (rTupZ K) (tCons (tLc (iRng1 (tCons (tVar 1) tNil)) (gName 2) tYes (tOp rSubZ (tCB (zcall K S_law_draw) (tCons (tVar 0) (tCons (tC (.int 19)) tNil))) (tC (.int 9))) [2]) tNil)))
theorem red_law_near {Ac : Cs} (T : Txt Ac K mg) (S_law_draw : ZSp)
    (G_law_draw : FnZ P w K mg base "_law_draw" 1 S_law_draw) (f : Addr) (cdv : Value) (A : Around) (outer : List Env) (s : Shared) (H : Hp) (E : XK) (hr : Room 1 (A.deeper (envOfC "_law_near" (defScope s_law_near) s.heap.objs.size f cdv))) :
    PSs (cxOf CX0 P w K mg base N_law_near "_law_near" (defScope s_law_near) f cdv A outer s H E).nox (defBody s_law_near) (t_law_near K Ac S_law_draw) :=
    (pss_one (ps_ret (pe_callTy cz_tuple (by rfl) T.n_tuple Z.boot_tuple (pa_cons (pe_lc (own := [("_law_k", 2)]) rfl sc_law_near.nd (pi_range1 (by rfl) T.n_range (pa_cons (pv 1) pa_nil)) (blkOk_by (by kernel_rfl)) (fun _ _ _ _ _ => (pg_name (i := 2) sc_law_near.nd rfl (by first | exact Or.inl rfl | exact Or.inr rfl))) (fun _ _ _ _ _ => pts_nil) (fun _ _ _ _ _ => (p_sub (p_call G_law_draw hr (pa_cons (pv 0) (pa_cons pe_int pa_nil))) pe_int))) pa_nil))))
/-! _law_far -/
abbrev s_law_far : Stmt := topS 13
abbrev N_law_far : List Str := ["_law_purse_here", "_law_many", "_law_values", "_law_k", "_law_great"]
theorem sc_law_far : FnScope N_law_far ["_law_purse_here", "_law_many"] (defScope s_law_far) := ⟨rfl, rfl, rfl, by decide +kernel, rfl, by decide +kernel, by decide +kernel⟩
def t_law_far (K : Fg) (Ac : Cs) (S_law_draw : ZSp) : TS :=
    (tSeq (tAsg (tLst tNil) (gName 2))
    (tSeq (tFor (iRng1 (tCons (tVar 1) tNil)) (gName 3) (tSeq (tAsg (tOp rSubZ (tCB (zcall K S_law_draw) (tCons (tVar 0) (tCons (tC (.int 2000001)) tNil))) (tC (.int 1000000))) (gName 4))
    (tDrop (tBM K "list" rAppend (tVar 2) (tCons (tOp (rAddZ K) (tOp rMulZ (tVar 4) (tC (.int 1000000))) (tCB (zcall K S_law_draw) (tCons (tVar 0) (tCons (tC (.int 1000000)) tNil)))) tNil)))))
    (tRet (tCB (rTupZ K) (tCons (tVar 2) tNil)))))
theorem red_law_far {Ac : Cs} (T : Txt Ac K mg) (S_law_draw : ZSp)
    (G_law_draw : FnZ P w K mg base "_law_draw" 1 S_law_draw) (f : Addr) (cdv : Value) (A : Around) (outer : List Env) (s : Shared) (H : Hp) (E : XK) (hr : Room 1 (A.deeper (envOfC "_law_far" (defScope s_law_far) s.heap.objs.size f cdv))) :
    PSs (cxOf CX0 P w K mg base N_law_far "_law_far" (defScope s_law_far) f cdv A outer s H E).nox (defBody s_law_far) (t_law_far K Ac S_law_draw) :=
    (pss_cons (ps_set (i := 2) sc_law_far.nd rfl (by first | exact Or.inl rfl | exact Or.inr rfl) (pe_lst pa_nil))
    (pss_cons (ps_for PassesOwn.never rfl (pi_range1 (by rfl) T.n_range (pa_cons (pv 1) pa_nil)) (pg_name (i := 3) sc_law_far.nd rfl (by first | exact Or.inl rfl | exact Or.inr rfl)) (pss_cons (ps_set (i := 4) sc_law_far.nd rfl (by first | exact Or.inl rfl | exact Or.inr rfl) (p_sub (p_call G_law_draw hr (pa_cons (pv 0) (pa_cons pe_int pa_nil))) pe_int))
    (pss_one (ps_expr (pe_bm PySem.F.plainAttrs_list PySem.F.slot_list_append PySem.F.type_list_append mt_append (pv 2) (pa_cons (p_add (p_mul (pv 4) pe_int) (p_call G_law_draw hr (pa_cons (pv 0) (pa_cons pe_int pa_nil)))) pa_nil))))))
    (pss_one (ps_ret (pe_callTy cz_tuple (by rfl) T.n_tuple Z.boot_tuple (pa_cons (pv 2) pa_nil))))))
/-! _law_checks -/
abbrev s_law_checks : Stmt := topS 14
abbrev N_law_checks : List Str := ["_law_purse_here", "_law_near_here", "_law_checks_here", "_law_k", "_law_row", "_law_at", "_law_constant_here"]
theorem sc_law_checks : FnScope N_law_checks ["_law_purse_here", "_law_near_here"] (defScope s_law_checks) := ⟨rfl, rfl, rfl, by decide +kernel, rfl, by decide +kernel, by decide +kernel⟩
def t_law_checks (K : Fg) (Ac : Cs) (S_law_draw : ZSp) (S_law_coefficient : ZSp) (S_law_constant : ZSp) : TS :=
    (tSeq (tAsg (tLst tNil) (gName 2))
    (tSeq (tFor (iRng1 (tCons (tCB (zcall K S_law_draw) (tCons (tVar 0) (tCons (tC (.int 5)) tNil))) tNil)) (gName 3) (tSeq (tAsg (tLc (iRng1 (tCons (tCB (rLenZ K) (tCons (tVar 1) tNil)) tNil)) (gName 5) tYes (tCB (zcall K S_law_coefficient) (tCons (tVar 0) tNil)) [5]) (gName 4))
    (tSeq (tAsg (tCB (zcall K S_law_constant) (tCons (tVar 0) tNil)) (gName 6))
    (tSeq (tIfS (tTest (tOp (rEqZ K) (tCB (zcall K S_law_draw) (tCons (tVar 0) (tCons (tC (.int 2)) tNil))) (tC (.int 0)))) (tAsg (tOp rSubZ (tOp rSubZ (tCB (zcall K S_law_draw) (tCons (tVar 0) (tCons (tC (.int 3)) tNil))) (tC (.int 1))) (tCB (rSumZ K) (tCons (tLc (iRng1 (tCons (tCB (rLenZ K) (tCons (tVar 1) tNil)) tNil)) (gName 5) tYes (tOp rMulZ (tOp (rIxZ K) (tVar 4) (tVar 5)) (tOp (rIxZ K) (tVar 1) (tVar 5))) [5]) tNil))) (gName 6)) tNext)
    (tDrop (tBM K "list" rAppend (tVar 2) (tCons (tCB (rTupZ K) (tCons (tOp (rAddZ K) (tVar 4) (tLst (tCons (tVar 6) tNil))) tNil)) tNil)))))))
    (tRet (tCB (rTupZ K) (tCons (tVar 2) tNil)))))
theorem red_law_checks {Ac : Cs} (T : Txt Ac K mg) (S_law_draw : ZSp) (S_law_coefficient : ZSp) (S_law_constant : ZSp)
    (G_law_draw : FnZ P w K mg base "_law_draw" 1 S_law_draw)
    (G_law_coefficient : FnZ P w K mg base "_law_coefficient" 2 S_law_coefficient)
    (G_law_constant : FnZ P w K mg base "_law_constant" 2 S_law_constant) (f : Addr) (cdv : Value) (A : Around) (outer : List Env) (s : Shared) (H : Hp) (E : XK) (hr : Room 2 (A.deeper (envOfC "_law_checks" (defScope s_law_checks) s.heap.objs.size f cdv))) :
    PSs (cxOf CX0 P w K mg base N_law_checks "_law_checks" (defScope s_law_checks) f cdv A outer s H E).nox (defBody s_law_checks) (t_law_checks K Ac S_law_draw S_law_coefficient S_law_constant) :=
    (pss_cons (ps_set (i := 2) sc_law_checks.nd rfl (by first | exact Or.inl rfl | exact Or.inr rfl) (pe_lst pa_nil))
    (pss_cons (ps_for PassesOwn.never rfl (pi_range1 (by rfl) T.n_range (pa_cons (p_call G_law_draw hr (pa_cons (pv 0) (pa_cons pe_int pa_nil))) pa_nil)) (pg_name (i := 3) sc_law_checks.nd rfl (by first | exact Or.inl rfl | exact Or.inr rfl)) (pss_cons (ps_set (i := 4) sc_law_checks.nd rfl (by first | exact Or.inl rfl | exact Or.inr rfl) (pe_lc (own := [("_law_at", 5)]) rfl sc_law_checks.nd (pi_range1 (by rfl) T.n_range (pa_cons (pe_callB cz_len (by rfl) T.n_len Z.boot_len (pa_cons (pv 1) pa_nil)) pa_nil)) (blkOk_by (by kernel_rfl)) (fun _ _ _ _ _ => (pg_name (i := 5) sc_law_checks.nd rfl (by first | exact Or.inl rfl | exact Or.inr rfl))) (fun _ _ _ _ _ => pts_nil) (fun _ _ _ _ _ => (p_call G_law_coefficient hr (pa_cons (pv 0) pa_nil)))))
    (pss_cons (ps_set (i := 6) sc_law_checks.nd rfl (by first | exact Or.inl rfl | exact Or.inr rfl) (p_call G_law_constant hr (pa_cons (pv 0) pa_nil)))
    (pss_cons (ps_if (q_eq (Room.units hr) (p_call G_law_draw hr (pa_cons (pv 0) (pa_cons pe_int pa_nil))) pe_int) (pss_one (ps_set (i := 6) sc_law_checks.nd rfl (by first | exact Or.inl rfl | exact Or.inr rfl) (p_sub (p_sub (p_call G_law_draw hr (pa_cons (pv 0) (pa_cons pe_int pa_nil))) pe_int) (pe_callB (cz_sum rfl) (by rfl) T.n_sum Z.boot_sum (pa_cons (pe_lc (own := [("_law_at", 5)]) rfl sc_law_checks.nd (pi_range1 (by rfl) T.n_range (pa_cons (pe_callB cz_len (by rfl) T.n_len Z.boot_len (pa_cons (pv 1) pa_nil)) pa_nil)) (blkOk_by (by kernel_rfl)) (fun _ _ _ _ _ => (pg_name (i := 5) sc_law_checks.nd rfl (by first | exact Or.inl rfl | exact Or.inr rfl))) (fun _ _ _ _ _ => pts_nil) (fun _ _ _ _ _ => (p_mul (p_ix (pv 4) (pv 5)) (p_ix (pv 1) (pv 5))))) pa_nil))))) pss_nil)
    (pss_one (ps_expr (pe_bm PySem.F.plainAttrs_list PySem.F.slot_list_append PySem.F.type_list_append mt_append (pv 2) (pa_cons (pe_callTy cz_tuple (by rfl) T.n_tuple Z.boot_tuple (pa_cons (p_add (pv 4) (pe_lst (pa_cons (pv 6) pa_nil))) pa_nil)) pa_nil))))))))
    (pss_one (ps_ret (pe_callTy cz_tuple (by rfl) T.n_tuple Z.boot_tuple (pa_cons (pv 2) pa_nil))))))
/-! _law_word -/
abbrev s_law_word : Stmt := topS 15
abbrev N_law_word : List Str := ["_law_purse_here", "_law_letters", "_law_word_here", "_law_k"]
theorem sc_law_word : FnScope N_law_word ["_law_purse_here"] (defScope s_law_word) := ⟨rfl, rfl, rfl, by decide +kernel, rfl, by decide +kernel, by decide +kernel⟩
def t_law_word (K : Fg) (Ac : Cs) (S_law_draw : ZSp) : TS :=
    (tSeq (tAsg (tC (.str "abcdefghijklmnopqrstuvwxyz")) (gName 1))
    (tSeq (tAsg (tC (.str "")) (gName 2))
    (tSeq (tFor (iRng1 (tCons (tOp (rAddZ K) (tC (.int 1)) (tCB (zcall K S_law_draw) (tCons (tVar 0) (tCons (tC (.int 4)) tNil)))) tNil)) (gName 3) (tAsg (tOp (rAddZ K) (tVar 2) (tOp (rIxZ K) (tVar 1) (tCB (zcall K S_law_draw) (tCons (tVar 0) (tCons (tC (.int 26)) tNil))))) (gName 2)))
    (tRet (tVar 2)))))
theorem red_law_word {Ac : Cs} (T : Txt Ac K mg) (S_law_draw : ZSp)
    (G_law_draw : FnZ P w K mg base "_law_draw" 1 S_law_draw) (f : Addr) (cdv : Value) (A : Around) (outer : List Env) (s : Shared) (H : Hp) (E : XK) (hr : Room 1 (A.deeper (envOfC "_law_word" (defScope s_law_word) s.heap.objs.size f cdv))) :
    PSs (cxOf CX0 P w K mg base N_law_word "_law_word" (defScope s_law_word) f cdv A outer s H E).nox (defBody s_law_word) (t_law_word K Ac S_law_draw) :=
    (pss_cons (ps_set (i := 1) sc_law_word.nd rfl (by first | exact Or.inl rfl | exact Or.inr rfl) pe_str)
    (pss_cons (ps_set (i := 2) sc_law_word.nd rfl (by first | exact Or.inl rfl | exact Or.inr rfl) pe_str)
    (pss_cons (ps_for PassesOwn.never rfl (pi_range1 (by rfl) T.n_range (pa_cons (p_add pe_int (p_call G_law_draw hr (pa_cons (pv 0) (pa_cons pe_int pa_nil)))) pa_nil)) (pg_name (i := 3) sc_law_word.nd rfl (by first | exact Or.inl rfl | exact Or.inr rfl)) (pss_one (ps_set (i := 2) sc_law_word.nd rfl (by first | exact Or.inl rfl | exact Or.inr rfl) (p_add (pv 2) (p_ix (pv 1) (p_call G_law_draw hr (pa_cons (pv 0) (pa_cons pe_int pa_nil))))))))
    (pss_one (ps_ret (pv 2))))))
/-! _law_value -/
abbrev s_law_value : Stmt := topS 16
abbrev N_law_value : List Str := ["_law_row", "_law_values", "_law_k"]
theorem sc_law_value : FnScope N_law_value ["_law_row", "_law_values"] (defScope s_law_value) := ⟨rfl, rfl, rfl, by decide +kernel, rfl, by decide +kernel, by decide +kernel⟩
def t_law_value (K : Fg) (Ac : Cs) : TS :=
    (tRet (tOp (rAddZ K) (tCB (rSumZ K) (tCons (tLc (iRng1 (tCons (tCB (rLenZ K) (tCons (tVar 1) tNil)) tNil)) (gName 2) tYes (tOp rMulZ (tOp (rIxZ K) (tVar 0) (tVar 2)) (tOp (rIxZ K) (tVar 1) (tVar 2))) [2]) tNil)) (tOp (rIxZ K) (tVar 0) (tCB (rLenZ K) (tCons (tVar 1) tNil)))))
theorem red_law_value {Ac : Cs} (T : Txt Ac K mg) (f : Addr) (cdv : Value) (A : Around) (outer : List Env) (s : Shared) (H : Hp) (E : XK) (hr : Room 0 (A.deeper (envOfC "_law_value" (defScope s_law_value) s.heap.objs.size f cdv))) :
    PSs (cxOf CX0 P w K mg base N_law_value "_law_value" (defScope s_law_value) f cdv A outer s H E).nox (defBody s_law_value) (t_law_value K Ac) :=
    (pss_one (ps_ret (p_add (pe_callB (cz_sum rfl) (by rfl) T.n_sum Z.boot_sum (pa_cons (pe_lc (own := [("_law_k", 2)]) rfl sc_law_value.nd (pi_range1 (by rfl) T.n_range (pa_cons (pe_callB cz_len (by rfl) T.n_len Z.boot_len (pa_cons (pv 1) pa_nil)) pa_nil)) (blkOk_by (by kernel_rfl)) (fun _ _ _ _ _ => (pg_name (i := 2) sc_law_value.nd rfl (by first | exact Or.inl rfl | exact Or.inr rfl))) (fun _ _ _ _ _ => pts_nil) (fun _ _ _ _ _ => (p_mul (p_ix (pv 0) (pv 2)) (p_ix (pv 1) (pv 2))))) pa_nil)) (p_ix (pv 0) (pe_callB cz_len (by rfl) T.n_len Z.boot_len (pa_cons (pv 1) pa_nil))))))
/-! _law_same -/
abbrev s_law_same : Stmt := topS 17
abbrev N_law_same : List Str := ["_law_told", "_law_due_here", "_law_k"]
theorem sc_law_same : FnScope N_law_same ["_law_told", "_law_due_here"] (defScope s_law_same) := ⟨rfl, rfl, rfl, by decide +kernel, rfl, by decide +kernel, by decide +kernel⟩
def t_law_same (K : Fg) (Ac : Cs) (S_law_same : ZSp) : TS :=
    (tSeq (tIfS (tOr (tTruZ K (tCB (rIsiZ K) (tCons (tVar 1) (tCons (tC (.ty "tuple")) tNil)))) (tTruZ K (tCB (rIsiZ K) (tCons (tVar 1) (tCons (tC (.ty "list")) tNil))))) (tSeq (tIfS (tAnd (tTruZ K (tCB (rIsiZ K) (tCons (tVar 1) (tCons (tC (.ty "tuple")) tNil)))) (tNot (tTruZ K (tCB (rIsiZ K) (tCons (tVar 0) (tCons (tC (.ty "tuple")) tNil)))))) (tRet (tC (.bl false))) tNext)
    (tSeq (tIfS (tAnd (tTruZ K (tCB (rIsiZ K) (tCons (tVar 1) (tCons (tC (.ty "list")) tNil)))) (tNot (tTruZ K (tCB (rIsiZ K) (tCons (tVar 0) (tCons (tC (.ty "list")) tNil)))))) (tRet (tC (.bl false))) tNext)
    (tSeq (tIfS (tTest (tOp (rNeZ K) (tCB (rLenZ K) (tCons (tVar 0) tNil)) (tCB (rLenZ K) (tCons (tVar 1) tNil)))) (tRet (tC (.bl false))) tNext)
    (tRet (tCB (rAllZ K) (tCons (tLc (iRng1 (tCons (tCB (rLenZ K) (tCons (tVar 1) tNil)) tNil)) (gName 2) tYes (tCB (zcall K S_law_same) (tCons (tOp (rIxZ K) (tVar 0) (tVar 2)) (tCons (tOp (rIxZ K) (tVar 1) (tVar 2)) tNil))) [2]) tNil)))))) tNext)
    (tSeq (tIfS (tTruZ K (tCB (rIsiZ K) (tCons (tVar 1) (tCons (tC (.ty "str")) tNil)))) (tRet (tAndV (tCB (rIsiZ K) (tCons (tVar 0) (tCons (tC (.ty "str")) tNil))) (tOp (rEqZ K) (tVar 0) (tVar 1)))) tNext)
    (tRet (tAndV (tCB (rIsiZ K) (tCons (tVar 0) (tCons (tC (.ty "int")) tNil))) (tAndV (tNotV (tCB (rIsiZ K) (tCons (tVar 0) (tCons (tC (.ty "bool")) tNil)))) (tOp (rEqZ K) (tVar 0) (tVar 1)))))))
theorem red_law_same {Ac : Cs} (T : Txt Ac K mg) (n_ : Nat) (S_law_same : ZSp)
    (G_law_same : FnZ P w K mg base "_law_same" (1 + n_) S_law_same) (f : Addr) (cdv : Value) (A : Around) (outer : List Env) (s : Shared) (H : Hp) (E : XK) (hr : Room (1 + n_) (A.deeper (envOfC "_law_same" (defScope s_law_same) s.heap.objs.size f cdv))) :
    PSs (cxOf CX0 P w K mg base N_law_same "_law_same" (defScope s_law_same) f cdv A outer s H E).nox (defBody s_law_same) (t_law_same K Ac S_law_same) :=
    (pss_cons (ps_if (PW.pt (pw_or (q_truth (pe_callB cz_isi (by rfl) T.n_isinstance Z.boot_isinstance (pa_cons (pv 1) (pa_cons (pe_bltn (by rfl) T.n_tuple Z.boot_tuple rfl) pa_nil)))) (pw_or1 (q_truth (pe_callB cz_isi (by rfl) T.n_isinstance Z.boot_isinstance (pa_cons (pv 1) (pa_cons (pe_bltn (by rfl) T.n_list Z.boot_list rfl) pa_nil))))))) (pss_cons (ps_if (PW.pt (pw_and (q_truth (pe_callB cz_isi (by rfl) T.n_isinstance Z.boot_isinstance (pa_cons (pv 1) (pa_cons (pe_bltn (by rfl) T.n_tuple Z.boot_tuple rfl) pa_nil)))) (pw_and1 (pt_not (q_truth (pe_callB cz_isi (by rfl) T.n_isinstance Z.boot_isinstance (pa_cons (pv 0) (pa_cons (pe_bltn (by rfl) T.n_tuple Z.boot_tuple rfl) pa_nil)))))))) (pss_one (ps_ret pe_bl)) pss_nil)
    (pss_cons (ps_if (PW.pt (pw_and (q_truth (pe_callB cz_isi (by rfl) T.n_isinstance Z.boot_isinstance (pa_cons (pv 1) (pa_cons (pe_bltn (by rfl) T.n_list Z.boot_list rfl) pa_nil)))) (pw_and1 (pt_not (q_truth (pe_callB cz_isi (by rfl) T.n_isinstance Z.boot_isinstance (pa_cons (pv 0) (pa_cons (pe_bltn (by rfl) T.n_list Z.boot_list rfl) pa_nil)))))))) (pss_one (ps_ret pe_bl)) pss_nil)
    (pss_cons (ps_if (q_ne (Room.units hr) (pe_callB cz_len (by rfl) T.n_len Z.boot_len (pa_cons (pv 0) pa_nil)) (pe_callB cz_len (by rfl) T.n_len Z.boot_len (pa_cons (pv 1) pa_nil))) (pss_one (ps_ret pe_bl)) pss_nil)
    (pss_one (ps_ret (pe_callB (cz_all rfl) (by rfl) T.n_all Z.boot_all (pa_cons (pe_lc (own := [("_law_k", 2)]) rfl sc_law_same.nd (pi_range1 (by rfl) T.n_range (pa_cons (pe_callB cz_len (by rfl) T.n_len Z.boot_len (pa_cons (pv 1) pa_nil)) pa_nil)) (blkOk_by (by kernel_rfl)) (fun _ _ _ _ _ => (pg_name (i := 2) sc_law_same.nd rfl (by first | exact Or.inl rfl | exact Or.inr rfl))) (fun _ _ _ _ _ => pts_nil) (fun _ _ _ _ _ => (p_call G_law_same hr (pa_cons (p_ix (pv 0) (pv 2)) (pa_cons (p_ix (pv 1) (pv 2)) pa_nil)) (by omega)))) pa_nil))))))) pss_nil)
    (pss_cons (ps_if (q_truth (pe_callB cz_isi (by rfl) T.n_isinstance Z.boot_isinstance (pa_cons (pv 1) (pa_cons (pe_bltn (by rfl) T.n_str Z.boot_str rfl) pa_nil)))) (pss_one (ps_ret (pe_and (pe_callB cz_isi (by rfl) T.n_isinstance Z.boot_isinstance (pa_cons (pv 0) (pa_cons (pe_bltn (by rfl) T.n_str Z.boot_str rfl) pa_nil))) (pe_one (p_eq (Room.units hr) (pv 0) (pv 1)))))) pss_nil)
    (pss_one (ps_ret (pe_and (pe_callB cz_isi (by rfl) T.n_isinstance Z.boot_isinstance (pa_cons (pv 0) (pa_cons (pe_bltn (by rfl) T.n_int Z.boot_int rfl) pa_nil))) (pe_and (pe_not (pe_callB cz_isi (by rfl) T.n_isinstance Z.boot_isinstance (pa_cons (pv 0) (pa_cons (pe_bltn (by rfl) T.n_bool Z.boot_bool rfl) pa_nil)))) (pe_one (p_eq (Room.units hr) (pv 0) (pv 1)))))))))
/-! _law_edge_seen -/
abbrev s_law_edge_seen : Stmt := topS 18
abbrev N_law_edge_seen : List Str := ["_law_edge", "_law_pairs_here", "_law_pair"]
theorem sc_law_edge_seen : FnScope N_law_edge_seen ["_law_edge"] (defScope s_law_edge_seen) := ⟨rfl, rfl, rfl, by decide +kernel, rfl, by decide +kernel, by decide +kernel⟩
def t_law_edge_seen (K : Fg) (Ac : Cs) : TS :=
    (tSeq (tAsg (tLc (iSeqZ K (tUn (rFld K "sources") (tVar 0))) (gName 2) tYes (tTup (tCons (tOp (rIxZ K) (tVar 2) (tC (.int 0))) (tCons (tCB (rListZ K) (tCons (tOp (rIxZ K) (tVar 2) (tC (.int 1))) tNil)) tNil))) [2]) (gName 1))
    (tRet (tTup (tCons (tUn (rFld K "target") (tVar 0)) (tCons (tUn (rFld K "unknowns") (tVar 0)) (tCons (tVar 1) (tCons (tUn (rFld K "guards") (tVar 0)) (tCons (tUn (rFld K "effect") (tVar 0)) (tCons (tUn (rFld K "label") (tVar 0)) tNil)))))))))
theorem red_law_edge_seen {Ac : Cs} (T : Txt Ac K mg) (f : Addr) (cdv : Value) (A : Around) (outer : List Env) (s : Shared) (H : Hp) (E : XK) (hr : Room 0 (A.deeper (envOfC "_law_edge_seen" (defScope s_law_edge_seen) s.heap.objs.size f cdv))) :
    PSs (cxOf CX0 P w K mg base N_law_edge_seen "_law_edge_seen" (defScope s_law_edge_seen) f cdv A outer s H E).nox (defBody s_law_edge_seen) (t_law_edge_seen K Ac) :=
    (pss_cons (ps_setLc (i := 1) (own := [("_law_pair", 2)]) rfl sc_law_edge_seen.nd rfl (by rfl) (sw_true rfl rfl rfl (by decide +kernel)) (pi_seqZ (p_fld (pv 0))) (blkOk_by (by kernel_rfl)) (fun _ _ _ _ _ => (pg_name (i := 2) sc_law_edge_seen.nd rfl (by first | exact Or.inl rfl | exact Or.inr rfl))) (fun _ _ _ _ _ => pts_nil) (fun _ _ _ _ _ => (pe_tup (pa_cons (p_ix (pv 2) pe_int) (pa_cons (pe_callTy cz_list (by rfl) T.n_list Z.boot_list (pa_cons (p_ix (pv 2) pe_int) pa_nil)) pa_nil)))))
    (pss_one (ps_ret (pe_tup (pa_cons (p_fld (pv 0)) (pa_cons (p_fld (pv 0)) (pa_cons (pv 1) (pa_cons (p_fld (pv 0)) (pa_cons (p_fld (pv 0)) (pa_cons (p_fld (pv 0)) pa_nil))))))))))
/-! _law_units -/
abbrev s_law_units : Stmt := topS 19
abbrev N_law_units : List Str := ["_law_size", "_law_many", "_law_at", "_law_k"]
theorem sc_law_units : FnScope N_law_units ["_law_size", "_law_many"] (defScope s_law_units) := ⟨rfl, rfl, rfl, by decide +kernel, rfl, by decide +kernel, by decide +kernel⟩
def t_law_units (K : Fg) (Ac : Cs) : TS :=
    (tRet (tCB (rTupZ K) (tCons (tLc (iRng1 (tCons (tVar 0) tNil)) (gName 3) tYes (tCB (rTupZ K) (tCons (tLc (iRng1 (tCons (tOp (rAddZ K) (tVar 1) (tC (.int 1))) tNil)) (gName 2) tYes (tCB (rIntZ) (tCons (tOp (rEqZ K) (tVar 2) (tVar 3)) tNil)) [2]) tNil)) [3]) tNil)))
theorem red_law_units {Ac : Cs} (T : Txt Ac K mg) (f : Addr) (cdv : Value) (A : Around) (outer : List Env) (s : Shared) (H : Hp) (E : XK) (hr : Room 0 (A.deeper (envOfC "_law_units" (defScope s_law_units) s.heap.objs.size f cdv))) :
    PSs (cxOf CX0 P w K mg base N_law_units "_law_units" (defScope s_law_units) f cdv A outer s H E).nox (defBody s_law_units) (t_law_units K Ac) :=
    (pss_one (ps_ret (pe_callTy cz_tuple (by rfl) T.n_tuple Z.boot_tuple (pa_cons (pe_lc (own := [("_law_k", 3)]) rfl sc_law_units.nd (pi_range1 (by rfl) T.n_range (pa_cons (pv 0) pa_nil)) (blkOk_by (by kernel_rfl)) (fun _ _ _ _ _ => (pg_name (i := 3) sc_law_units.nd rfl (by first | exact Or.inl rfl | exact Or.inr rfl))) (fun _ _ _ _ _ => pts_nil) (fun _ _ _ _ _ => (pe_callTy cz_tuple (by rfl) T.n_tuple Z.boot_tuple (pa_cons (pe_lc (own := [("_law_at", 2)]) rfl sc_law_units.nd (pi_range1 (by rfl) T.n_range (pa_cons (p_add (pv 1) pe_int) pa_nil)) (blkOk_by (by kernel_rfl)) (fun _ _ _ _ _ => (pg_name (i := 2) sc_law_units.nd rfl (by first | exact Or.inl rfl | exact Or.inr rfl))) (fun _ _ _ _ _ => pts_nil) (fun _ _ _ _ _ => (pe_callTy cz_int (by rfl) T.n_int Z.boot_int (pa_cons (p_eq (Room.units hr) (pv 2) (pv 3)) pa_nil)))) pa_nil)))) pa_nil))))
/-! _law_frame_holds -/
abbrev s_law_frame_holds : Stmt := topS 20
abbrev N_law_frame_holds : List Str := ["_law_purse_here", "_law_word_here", "_law_many", "_law_names", "_law_k", "_law_shapes", "_law_at", "_law_frame", "_law_other"]
theorem sc_law_frame_holds : FnScope N_law_frame_holds ["_law_purse_here"] (defScope s_law_frame_holds) := ⟨rfl, rfl, rfl, by decide +kernel, rfl, by decide +kernel, by decide +kernel⟩
def t_law_frame_holds (K : Fg) (Ac : Cs) (S_law_word : ZSp) (S_law_draw : ZSp) (S_law_coefficient : ZSp) (S_Frame_init : ZSp) (S_law_same : ZSp) : TS :=
    (tSeq (tAsg (tCB (zcall K S_law_word) (tCons (tVar 0) tNil)) (gName 1))
    (tSeq (tAsg (tOp (rAddZ K) (tC (.int 1)) (tCB (zcall K S_law_draw) (tCons (tVar 0) (tCons (tC (.int 4)) tNil)))) (gName 2))
    (tSeq (tAsg (tCB (rTupZ K) (tCons (tLc (iRng1 (tCons (tVar 2) tNil)) (gName 4) tYes (tOp (rAddZ K) (tCB (zcall K S_law_word) (tCons (tVar 0) tNil)) (tCB rStrZ (tCons (tVar 4) tNil))) [4]) tNil)) (gName 3))
    (tSeq (tAsg (tLst tNil) (gName 5))
    (tSeq (tFor (iRng1 (tCons (tOp (rAddZ K) (tC (.int 1)) (tCB (zcall K S_law_draw) (tCons (tVar 0) (tCons (tC (.int 4)) tNil)))) tNil)) (gName 4) (tDrop (tBM K "list" rAppend (tVar 5) (tCons (tCB (rTupZ K) (tCons (tLc (iRng1 (tCons (tVar 2) tNil)) (gName 6) tYes (tCB (zcall K S_law_coefficient) (tCons (tVar 0) tNil)) [6]) tNil)) tNil))))
    (tSeq (tAsg (tCB (rMk K Ac.c_Frame S_Frame_init) (tCons (tVar 1) (tCons (tVar 3) (tCons (tCB (rTupZ K) (tCons (tVar 5) tNil)) tNil)))) (gName 7))
    (tSeq (tAsg (tCB (rMk K Ac.c_Frame S_Frame_init) (tCons (tC (.str "other")) (tCons (tTup (tCons (tC (.str "x")) tNil)) (tCons (tTup (tCons (tTup (tCons (tC (.int 1)) tNil)) tNil)) tNil)))) (gName 8))
    (tSeq (tIfS (tNot (tTruZ K (tCB (zcall K S_law_same) (tCons (tTup (tCons (tUn (rFld K "name") (tVar 7)) (tCons (tUn (rFld K "variables") (tVar 7)) (tCons (tUn (rFld K "forms") (tVar 7)) tNil)))) (tCons (tTup (tCons (tVar 1) (tCons (tVar 3) (tCons (tCB (rTupZ K) (tCons (tVar 5) tNil)) tNil)))) tNil))))) (tRet (tC (.bl false))) tNext)
    (tRet (tCB (zcall K S_law_same) (tCons (tTup (tCons (tUn (rFld K "name") (tVar 8)) (tCons (tUn (rFld K "variables") (tVar 8)) (tCons (tUn (rFld K "forms") (tVar 8)) tNil)))) (tCons (tTup (tCons (tC (.str "other")) (tCons (tTup (tCons (tC (.str "x")) tNil)) (tCons (tTup (tCons (tTup (tCons (tC (.int 1)) tNil)) tNil)) tNil)))) tNil))))))))))))
theorem red_law_frame_holds {Ac : Cs} (T : Txt Ac K mg) (S_law_word : ZSp) (S_law_draw : ZSp) (S_law_coefficient : ZSp) (S_Frame_init : ZSp) (S_law_same : ZSp)
    (G_law_word : FnZ P w K mg base "_law_word" 2 S_law_word)
    (G_law_draw : FnZ P w K mg base "_law_draw" 1 S_law_draw)
    (G_law_coefficient : FnZ P w K mg base "_law_coefficient" 2 S_law_coefficient)
    (G_Frame_init : MkZ P w K mg base "Frame" Ac.c_Frame 1 S_Frame_init)
    (G_law_same : FnZ P w K mg base "_law_same" 11 S_law_same) (f : Addr) (cdv : Value) (A : Around) (outer : List Env) (s : Shared) (H : Hp) (E : XK) (hr : Room 11 (A.deeper (envOfC "_law_frame_holds" (defScope s_law_frame_holds) s.heap.objs.size f cdv))) :
    PSs (cxOf CX0 P w K mg base N_law_frame_holds "_law_frame_holds" (defScope s_law_frame_holds) f cdv A outer s H E).nox (defBody s_law_frame_holds) (t_law_frame_holds K Ac S_law_word S_law_draw S_law_coefficient S_Frame_init S_law_same) :=
    (pss_cons (ps_set (i := 1) sc_law_frame_holds.nd rfl (by first | exact Or.inl rfl | exact Or.inr rfl) (p_call G_law_word hr (pa_cons (pv 0) pa_nil)))
    (pss_cons (ps_set (i := 2) sc_law_frame_holds.nd rfl (by first | exact Or.inl rfl | exact Or.inr rfl) (p_add pe_int (p_call G_law_draw hr (pa_cons (pv 0) (pa_cons pe_int pa_nil)))))
    (pss_cons (ps_set (i := 3) sc_law_frame_holds.nd rfl (by first | exact Or.inl rfl | exact Or.inr rfl) (pe_callTy cz_tuple (by rfl) T.n_tuple Z.boot_tuple (pa_cons (pe_lc (own := [("_law_k", 4)]) rfl sc_law_frame_holds.nd (pi_range1 (by rfl) T.n_range (pa_cons (pv 2) pa_nil)) (blkOk_by (by kernel_rfl)) (fun _ _ _ _ _ => (pg_name (i := 4) sc_law_frame_holds.nd rfl (by first | exact Or.inl rfl | exact Or.inr rfl))) (fun _ _ _ _ _ => pts_nil) (fun _ _ _ _ _ => (p_add (p_call G_law_word hr (pa_cons (pv 0) pa_nil)) (pe_callTy cz_str (by rfl) T.n_str Z.boot_str' (pa_cons (pv 4) pa_nil))))) pa_nil)))
    (pss_cons (ps_set (i := 5) sc_law_frame_holds.nd rfl (by first | exact Or.inl rfl | exact Or.inr rfl) (pe_lst pa_nil))
    (pss_cons (ps_for PassesOwn.never rfl (pi_range1 (by rfl) T.n_range (pa_cons (p_add pe_int (p_call G_law_draw hr (pa_cons (pv 0) (pa_cons pe_int pa_nil)))) pa_nil)) (pg_name (i := 4) sc_law_frame_holds.nd rfl (by first | exact Or.inl rfl | exact Or.inr rfl)) (pss_one (ps_expr (pe_bm PySem.F.plainAttrs_list PySem.F.slot_list_append PySem.F.type_list_append mt_append (pv 5) (pa_cons (pe_callTy cz_tuple (by rfl) T.n_tuple Z.boot_tuple (pa_cons (pe_lc (own := [("_law_at", 6)]) rfl sc_law_frame_holds.nd (pi_range1 (by rfl) T.n_range (pa_cons (pv 2) pa_nil)) (blkOk_by (by kernel_rfl)) (fun _ _ _ _ _ => (pg_name (i := 6) sc_law_frame_holds.nd rfl (by first | exact Or.inl rfl | exact Or.inr rfl))) (fun _ _ _ _ _ => pts_nil) (fun _ _ _ _ _ => (p_call G_law_coefficient hr (pa_cons (pv 0) pa_nil)))) pa_nil)) pa_nil)))))
    (pss_cons (ps_set (i := 7) sc_law_frame_holds.nd rfl (by first | exact Or.inl rfl | exact Or.inr rfl) (p_make G_Frame_init hr (pa_cons (pv 1) (pa_cons (pv 3) (pa_cons (pe_callTy cz_tuple (by rfl) T.n_tuple Z.boot_tuple (pa_cons (pv 5) pa_nil)) pa_nil)))))
    (pss_cons (ps_set (i := 8) sc_law_frame_holds.nd rfl (by first | exact Or.inl rfl | exact Or.inr rfl) (p_make G_Frame_init hr (pa_cons pe_str (pa_cons (pe_tup (pa_cons pe_str pa_nil)) (pa_cons (pe_tup (pa_cons (pe_tup (pa_cons pe_int pa_nil)) pa_nil)) pa_nil)))))
    (pss_cons (ps_if (pt_not (q_truth (p_call G_law_same hr (pa_cons (pe_tup (pa_cons (p_fld (pv 7)) (pa_cons (p_fld (pv 7)) (pa_cons (p_fld (pv 7)) pa_nil)))) (pa_cons (pe_tup (pa_cons (pv 1) (pa_cons (pv 3) (pa_cons (pe_callTy cz_tuple (by rfl) T.n_tuple Z.boot_tuple (pa_cons (pv 5) pa_nil)) pa_nil)))) pa_nil))))) (pss_one (ps_ret pe_bl)) pss_nil)
    (pss_one (ps_ret (p_call G_law_same hr (pa_cons (pe_tup (pa_cons (p_fld (pv 8)) (pa_cons (p_fld (pv 8)) (pa_cons (p_fld (pv 8)) pa_nil)))) (pa_cons (pe_tup (pa_cons pe_str (pa_cons (pe_tup (pa_cons pe_str pa_nil)) (pa_cons (pe_tup (pa_cons (pe_tup (pa_cons pe_int pa_nil)) pa_nil)) pa_nil)))) pa_nil)))))))))))))
/-! _law_pairs -/
abbrev s_law_pairs : Stmt := topS 21
abbrev N_law_pairs : List Str := ["_law_purse_here", "_law_many", "_law_pairs_here", "_law_k", "_law_seat"]
theorem sc_law_pairs : FnScope N_law_pairs ["_law_purse_here", "_law_many"] (defScope s_law_pairs) := ⟨rfl, rfl, rfl, by decide +kernel, rfl, by decide +kernel, by decide +kernel⟩
def t_law_pairs (K : Fg) (Ac : Cs) (S_law_draw : ZSp) (S_law_rows : ZSp) : TS :=
    (tSeq (tAsg (tLst tNil) (gName 2))
    (tSeq (tFor (iRng1 (tCons (tCB (zcall K S_law_draw) (tCons (tVar 0) (tCons (tC (.int 3)) tNil))) tNil)) (gName 3) (tSeq (tAsg (tCB (zcall K S_law_draw) (tCons (tVar 0) (tCons (tC (.int 10)) tNil))) (gName 4))
    (tDrop (tBM K "list" rAppend (tVar 2) (tCons (tTup (tCons (tVar 4) (tCons (tCB (zcall K S_law_rows) (tCons (tVar 0) (tCons (tOp (rAddZ K) (tC (.int 1)) (tCB (zcall K S_law_draw) (tCons (tVar 0) (tCons (tC (.int 3)) tNil)))) (tCons (tVar 1) tNil)))) tNil))) tNil)))))
    (tRet (tCB (rTupZ K) (tCons (tVar 2) tNil)))))
theorem red_law_pairs {Ac : Cs} (T : Txt Ac K mg) (S_law_draw : ZSp) (S_law_rows : ZSp)
    (G_law_draw : FnZ P w K mg base "_law_draw" 1 S_law_draw)
    (G_law_rows : FnZ P w K mg base "_law_rows" 3 S_law_rows) (f : Addr) (cdv : Value) (A : Around) (outer : List Env) (s : Shared) (H : Hp) (E : XK) (hr : Room 3 (A.deeper (envOfC "_law_pairs" (defScope s_law_pairs) s.heap.objs.size f cdv))) :
    PSs (cxOf CX0 P w K mg base N_law_pairs "_law_pairs" (defScope s_law_pairs) f cdv A outer s H E).nox (defBody s_law_pairs) (t_law_pairs K Ac S_law_draw S_law_rows) :=
    (pss_cons (ps_set (i := 2) sc_law_pairs.nd rfl (by first | exact Or.inl rfl | exact Or.inr rfl) (pe_lst pa_nil))
    (pss_cons (ps_for PassesOwn.never rfl (pi_range1 (by rfl) T.n_range (pa_cons (p_call G_law_draw hr (pa_cons (pv 0) (pa_cons pe_int pa_nil))) pa_nil)) (pg_name (i := 3) sc_law_pairs.nd rfl (by first | exact Or.inl rfl | exact Or.inr rfl)) (pss_cons (ps_set (i := 4) sc_law_pairs.nd rfl (by first | exact Or.inl rfl | exact Or.inr rfl) (p_call G_law_draw hr (pa_cons (pv 0) (pa_cons pe_int pa_nil))))
    (pss_one (ps_expr (pe_bm PySem.F.plainAttrs_list PySem.F.slot_list_append PySem.F.type_list_append mt_append (pv 2) (pa_cons (pe_tup (pa_cons (pv 4) (pa_cons (p_call G_law_rows hr (pa_cons (pv 0) (pa_cons (p_add pe_int (p_call G_law_draw hr (pa_cons (pv 0) (pa_cons pe_int pa_nil)))) (pa_cons (pv 1) pa_nil)))) pa_nil))) pa_nil))))))
    (pss_one (ps_ret (pe_callTy cz_tuple (by rfl) T.n_tuple Z.boot_tuple (pa_cons (pv 2) pa_nil))))))
/-! _law_due -/
abbrev s_law_due : Stmt := topS 22
abbrev N_law_due : List Str := ["_law_aim", "_law_many", "_law_pairs_here", "_law_checks_here", "_law_rows_here", "_law_word_here", "_law_pair"]
theorem sc_law_due : FnScope N_law_due ["_law_aim", "_law_many", "_law_pairs_here", "_law_checks_here", "_law_rows_here", "_law_word_here"] (defScope s_law_due) := ⟨rfl, rfl, rfl, by decide +kernel, rfl, by decide +kernel, by decide +kernel⟩
def t_law_due (K : Fg) (Ac : Cs) : TS :=
    (tRet (tTup (tCons (tVar 0) (tCons (tVar 1) (tCons (tLc (iSeqZ K (tVar 2)) (gName 6) tYes (tTup (tCons (tOp (rIxZ K) (tVar 6) (tC (.int 0))) (tCons (tCB (rListZ K) (tCons (tOp (rIxZ K) (tVar 6) (tC (.int 1))) tNil)) tNil))) [6]) (tCons (tVar 3) (tCons (tVar 4) (tCons (tVar 5) tNil))))))))
theorem red_law_due {Ac : Cs} (T : Txt Ac K mg) (f : Addr) (cdv : Value) (A : Around) (outer : List Env) (s : Shared) (H : Hp) (E : XK) (hr : Room 0 (A.deeper (envOfC "_law_due" (defScope s_law_due) s.heap.objs.size f cdv))) :
    PSs (cxOf CX0 P w K mg base N_law_due "_law_due" (defScope s_law_due) f cdv A outer s H E).nox (defBody s_law_due) (t_law_due K Ac) :=
    (pss_one (ps_ret (pe_tup (pa_cons (pv 0) (pa_cons (pv 1) (pa_cons (pe_lc (own := [("_law_pair", 6)]) rfl sc_law_due.nd (pi_seqZ (pv 2)) (blkOk_by (by kernel_rfl)) (fun _ _ _ _ _ => (pg_name (i := 6) sc_law_due.nd rfl (by first | exact Or.inl rfl | exact Or.inr rfl))) (fun _ _ _ _ _ => pts_nil) (fun _ _ _ _ _ => (pe_tup (pa_cons (p_ix (pv 6) pe_int) (pa_cons (pe_callTy cz_list (by rfl) T.n_list Z.boot_list (pa_cons (p_ix (pv 6) pe_int) pa_nil)) pa_nil))))) (pa_cons (pv 3) (pa_cons (pv 4) (pa_cons (pv 5) pa_nil)))))))))
/-! _law_made -/
abbrev s_law_made : Stmt := topS 23
abbrev N_law_made : List Str := ["_law_purse_here", "_law_way", "_law_near_here", "_law_many", "_law_aim", "_law_pairs_here", "_law_checks_here", "_law_rows_here", "_law_word_here", "_law_edge"]
theorem sc_law_made : FnScope N_law_made ["_law_purse_here"] (defScope s_law_made) := ⟨rfl, rfl, rfl, by decide +kernel, rfl, by decide +kernel, by decide +kernel⟩
def t_law_made (K : Fg) (Ac : Cs) (S_law_draw : ZSp) (S_law_near : ZSp) (S_law_pairs : ZSp) (S_law_checks : ZSp) (S_law_rows : ZSp) (S_law_word : ZSp) (S_Edge_init : ZSp) (S_law_due : ZSp) : TS :=
    (tSeq (tAsg (tCB (zcall K S_law_draw) (tCons (tVar 0) (tCons (tC (.int 7)) tNil))) (gName 1))
    (tSeq (tAsg (tCB (zcall K S_law_near) (tCons (tVar 0) (tCons (tCB (zcall K S_law_draw) (tCons (tVar 0) (tCons (tC (.int 6)) tNil))) tNil))) (gName 2))
    (tSeq (tAsg (tCB (rLenZ K) (tCons (tVar 2) tNil)) (gName 3))
    (tSeq (tAsg (tCB (zcall K S_law_draw) (tCons (tVar 0) (tCons (tC (.int 10)) tNil))) (gName 4))
    (tSeq (tAsg (tCB (zcall K S_law_pairs) (tCons (tVar 0) (tCons (tVar 3) tNil))) (gName 5))
    (tSeq (tAsg (tCB (zcall K S_law_checks) (tCons (tVar 0) (tCons (tVar 2) tNil))) (gName 6))
    (tSeq (tAsg (tCB (zcall K S_law_rows) (tCons (tVar 0) (tCons (tCB (zcall K S_law_draw) (tCons (tVar 0) (tCons (tC (.int 4)) tNil))) (tCons (tVar 3) tNil)))) (gName 7))
    (tSeq (tAsg (tCB (zcall K S_law_word) (tCons (tVar 0) tNil)) (gName 8))
    (tSeq (tIfS (tTest (tOp (rEqZ K) (tVar 1) (tC (.int 0)))) (tRet (tTup (tCons (tMkK 2 ([] : List Str).length (rMk K Ac.c_Edge S_Edge_init) (fun vs zs => vs ++ ([Ac.d_Edge_init_sources] ++ ([Ac.d_Edge_init_guards] ++ ([Ac.d_Edge_init_effect] ++ ([(V.str "plain")] ++ []))))) (tCons (tVar 4) (tCons (tVar 3) tNil)) tNil) (tCons (tCB (zcall K S_law_due) (tCons (tVar 4) (tCons (tVar 3) (tCons (tTup tNil) (tCons (tTup tNil) (tCons (tTup tNil) (tCons (tC (.str "plain")) tNil))))))) (tCons (tVar 2) tNil))))) tNext)
    (tSeq (tIfS (tTest (tOp (rEqZ K) (tVar 1) (tC (.int 1)))) (tSeq (tAsg (tMkK 2 (["label", "effect", "guards", "sources"] : List Str).length (rMk K Ac.c_Edge S_Edge_init) (fun vs zs => vs ++ ((zs.drop 3).take 1 ++ ((zs.drop 2).take 1 ++ ((zs.drop 1).take 1 ++ ((zs.drop 0).take 1 ++ []))))) (tCons (tVar 4) (tCons (tVar 3) tNil)) (tCons (tVar 8) (tCons (tVar 7) (tCons (tVar 6) (tCons (tVar 5) tNil))))) (gName 9))
    (tRet (tTup (tCons (tVar 9) (tCons (tCB (zcall K S_law_due) (tCons (tVar 4) (tCons (tVar 3) (tCons (tVar 5) (tCons (tVar 6) (tCons (tVar 7) (tCons (tVar 8) tNil))))))) (tCons (tVar 2) tNil)))))) tNext)
    (tSeq (tIfS (tTest (tOp (rEqZ K) (tVar 1) (tC (.int 2)))) (tSeq (tAsg (tMkK 2 (["sources", "effect"] : List Str).length (rMk K Ac.c_Edge S_Edge_init) (fun vs zs => vs ++ ((zs.drop 0).take 1 ++ ([Ac.d_Edge_init_guards] ++ ((zs.drop 1).take 1 ++ ([(V.str "plain")] ++ []))))) (tCons (tVar 4) (tCons (tVar 3) tNil)) (tCons (tVar 5) (tCons (tVar 7) tNil))) (gName 9))
    (tRet (tTup (tCons (tVar 9) (tCons (tCB (zcall K S_law_due) (tCons (tVar 4) (tCons (tVar 3) (tCons (tVar 5) (tCons (tTup tNil) (tCons (tVar 7) (tCons (tC (.str "plain")) tNil))))))) (tCons (tVar 2) tNil)))))) tNext)
    (tSeq (tIfS (tTest (tOp (rEqZ K) (tVar 1) (tC (.int 3)))) (tRet (tTup (tCons (tMkK 2 (["guards"] : List Str).length (rMk K Ac.c_Edge S_Edge_init) (fun vs zs => vs ++ ([Ac.d_Edge_init_sources] ++ ((zs.drop 0).take 1 ++ ([Ac.d_Edge_init_effect] ++ ([(V.str "plain")] ++ []))))) (tCons (tVar 4) (tCons (tVar 3) tNil)) (tCons (tVar 6) tNil)) (tCons (tCB (zcall K S_law_due) (tCons (tVar 4) (tCons (tVar 3) (tCons (tTup tNil) (tCons (tVar 6) (tCons (tTup tNil) (tCons (tC (.str "plain")) tNil))))))) (tCons (tVar 2) tNil))))) tNext)
    (tSeq (tIfS (tTest (tOp (rEqZ K) (tVar 1) (tC (.int 4)))) (tSeq (tAsg (tMkK 2 (["label", "sources"] : List Str).length (rMk K Ac.c_Edge S_Edge_init) (fun vs zs => vs ++ ((zs.drop 1).take 1 ++ ([Ac.d_Edge_init_guards] ++ ([Ac.d_Edge_init_effect] ++ ((zs.drop 0).take 1 ++ []))))) (tCons (tVar 4) (tCons (tVar 3) tNil)) (tCons (tVar 8) (tCons (tVar 5) tNil))) (gName 9))
    (tRet (tTup (tCons (tVar 9) (tCons (tCB (zcall K S_law_due) (tCons (tVar 4) (tCons (tVar 3) (tCons (tVar 5) (tCons (tTup tNil) (tCons (tTup tNil) (tCons (tVar 8) tNil))))))) (tCons (tVar 2) tNil)))))) tNext)
    (tSeq (tIfS (tTest (tOp (rEqZ K) (tVar 1) (tC (.int 5)))) (tSeq (tAsg (tMkK 2 (["effect", "label"] : List Str).length (rMk K Ac.c_Edge S_Edge_init) (fun vs zs => vs ++ ([Ac.d_Edge_init_sources] ++ ([Ac.d_Edge_init_guards] ++ ((zs.drop 0).take 1 ++ ((zs.drop 1).take 1 ++ []))))) (tCons (tVar 4) (tCons (tVar 3) tNil)) (tCons (tVar 7) (tCons (tVar 8) tNil))) (gName 9))
    (tRet (tTup (tCons (tVar 9) (tCons (tCB (zcall K S_law_due) (tCons (tVar 4) (tCons (tVar 3) (tCons (tTup tNil) (tCons (tTup tNil) (tCons (tVar 7) (tCons (tVar 8) tNil))))))) (tCons (tVar 2) tNil)))))) tNext)
    (tSeq (tAsg (tMkK 2 (["sources", "guards", "effect", "label"] : List Str).length (rMk K Ac.c_Edge S_Edge_init) (fun vs zs => vs ++ ((zs.drop 0).take 1 ++ ((zs.drop 1).take 1 ++ ((zs.drop 2).take 1 ++ ((zs.drop 3).take 1 ++ []))))) (tCons (tVar 4) (tCons (tVar 3) tNil)) (tCons (tVar 5) (tCons (tVar 6) (tCons (tVar 7) (tCons (tVar 8) tNil))))) (gName 9))
    (tRet (tTup (tCons (tVar 9) (tCons (tCB (zcall K S_law_due) (tCons (tVar 4) (tCons (tVar 3) (tCons (tVar 5) (tCons (tVar 6) (tCons (tVar 7) (tCons (tVar 8) tNil))))))) (tCons (tVar 2) tNil))))))))))))))))))))
theorem red_law_made {Ac : Cs} (T : Txt Ac K mg) (S_law_draw : ZSp) (S_law_near : ZSp) (S_law_pairs : ZSp) (S_law_checks : ZSp) (S_law_rows : ZSp) (S_law_word : ZSp) (S_Edge_init : ZSp) (S_law_due : ZSp)
    (G_law_draw : FnZ P w K mg base "_law_draw" 1 S_law_draw)
    (G_law_near : FnZ P w K mg base "_law_near" 2 S_law_near)
    (G_law_pairs : FnZ P w K mg base "_law_pairs" 4 S_law_pairs)
    (G_law_checks : FnZ P w K mg base "_law_checks" 3 S_law_checks)
    (G_law_rows : FnZ P w K mg base "_law_rows" 3 S_law_rows)
    (G_law_word : FnZ P w K mg base "_law_word" 2 S_law_word)
    (G_Edge_init_2 : MkKZ P w K mg base "Edge" Ac.c_Edge 1 2 [] (fun vs zs => vs ++ ([Ac.d_Edge_init_sources] ++ ([Ac.d_Edge_init_guards] ++ ([Ac.d_Edge_init_effect] ++ ([(V.str "plain")] ++ []))))) S_Edge_init)
    (G_law_due : FnZ P w K mg base "_law_due" 1 S_law_due)
    (G_Edge_init_2_label_effect_guards_sources : MkKZ P w K mg base "Edge" Ac.c_Edge 1 2 ["label", "effect", "guards", "sources"] (fun vs zs => vs ++ ((zs.drop 3).take 1 ++ ((zs.drop 2).take 1 ++ ((zs.drop 1).take 1 ++ ((zs.drop 0).take 1 ++ []))))) S_Edge_init)
    (G_Edge_init_2_sources_effect : MkKZ P w K mg base "Edge" Ac.c_Edge 1 2 ["sources", "effect"] (fun vs zs => vs ++ ((zs.drop 0).take 1 ++ ([Ac.d_Edge_init_guards] ++ ((zs.drop 1).take 1 ++ ([(V.str "plain")] ++ []))))) S_Edge_init)
    (G_Edge_init_2_guards : MkKZ P w K mg base "Edge" Ac.c_Edge 1 2 ["guards"] (fun vs zs => vs ++ ([Ac.d_Edge_init_sources] ++ ((zs.drop 0).take 1 ++ ([Ac.d_Edge_init_effect] ++ ([(V.str "plain")] ++ []))))) S_Edge_init)
    (G_Edge_init_2_label_sources : MkKZ P w K mg base "Edge" Ac.c_Edge 1 2 ["label", "sources"] (fun vs zs => vs ++ ((zs.drop 1).take 1 ++ ([Ac.d_Edge_init_guards] ++ ([Ac.d_Edge_init_effect] ++ ((zs.drop 0).take 1 ++ []))))) S_Edge_init)
    (G_Edge_init_2_effect_label : MkKZ P w K mg base "Edge" Ac.c_Edge 1 2 ["effect", "label"] (fun vs zs => vs ++ ([Ac.d_Edge_init_sources] ++ ([Ac.d_Edge_init_guards] ++ ((zs.drop 0).take 1 ++ ((zs.drop 1).take 1 ++ []))))) S_Edge_init)
    (G_Edge_init_2_sources_guards_effect_label : MkKZ P w K mg base "Edge" Ac.c_Edge 1 2 ["sources", "guards", "effect", "label"] (fun vs zs => vs ++ ((zs.drop 0).take 1 ++ ((zs.drop 1).take 1 ++ ((zs.drop 2).take 1 ++ ((zs.drop 3).take 1 ++ []))))) S_Edge_init) (f : Addr) (cdv : Value) (A : Around) (outer : List Env) (s : Shared) (H : Hp) (E : XK) (hr : Room 4 (A.deeper (envOfC "_law_made" (defScope s_law_made) s.heap.objs.size f cdv))) :
    PSs (cxOf CX0 P w K mg base N_law_made "_law_made" (defScope s_law_made) f cdv A outer s H E).nox (defBody s_law_made) (t_law_made K Ac S_law_draw S_law_near S_law_pairs S_law_checks S_law_rows S_law_word S_Edge_init S_law_due) :=
    (pss_cons (ps_set (i := 1) sc_law_made.nd rfl (by first | exact Or.inl rfl | exact Or.inr rfl) (p_call G_law_draw hr (pa_cons (pv 0) (pa_cons pe_int pa_nil))))
    (pss_cons (ps_set (i := 2) sc_law_made.nd rfl (by first | exact Or.inl rfl | exact Or.inr rfl) (p_call G_law_near hr (pa_cons (pv 0) (pa_cons (p_call G_law_draw hr (pa_cons (pv 0) (pa_cons pe_int pa_nil))) pa_nil))))
    (pss_cons (ps_set (i := 3) sc_law_made.nd rfl (by first | exact Or.inl rfl | exact Or.inr rfl) (pe_callB cz_len (by rfl) T.n_len Z.boot_len (pa_cons (pv 2) pa_nil)))
    (pss_cons (ps_set (i := 4) sc_law_made.nd rfl (by first | exact Or.inl rfl | exact Or.inr rfl) (p_call G_law_draw hr (pa_cons (pv 0) (pa_cons pe_int pa_nil))))
    (pss_cons (ps_set (i := 5) sc_law_made.nd rfl (by first | exact Or.inl rfl | exact Or.inr rfl) (p_call G_law_pairs hr (pa_cons (pv 0) (pa_cons (pv 3) pa_nil))))
    (pss_cons (ps_set (i := 6) sc_law_made.nd rfl (by first | exact Or.inl rfl | exact Or.inr rfl) (p_call G_law_checks hr (pa_cons (pv 0) (pa_cons (pv 2) pa_nil))))
    (pss_cons (ps_set (i := 7) sc_law_made.nd rfl (by first | exact Or.inl rfl | exact Or.inr rfl) (p_call G_law_rows hr (pa_cons (pv 0) (pa_cons (p_call G_law_draw hr (pa_cons (pv 0) (pa_cons pe_int pa_nil))) (pa_cons (pv 3) pa_nil)))))
    (pss_cons (ps_set (i := 8) sc_law_made.nd rfl (by first | exact Or.inl rfl | exact Or.inr rfl) (p_call G_law_word hr (pa_cons (pv 0) pa_nil)))
    (pss_cons (ps_if (q_eq (Room.units hr) (pv 1) pe_int) (pss_one (ps_ret (pe_tup (pa_cons (p_makeK G_Edge_init_2 hr (pa_cons (pv 4) (pa_cons (pv 3) pa_nil)) pk_nil) (pa_cons (p_call G_law_due hr (pa_cons (pv 4) (pa_cons (pv 3) (pa_cons (pe_tup pa_nil) (pa_cons (pe_tup pa_nil) (pa_cons (pe_tup pa_nil) (pa_cons pe_str pa_nil))))))) (pa_cons (pv 2) pa_nil)))))) pss_nil)
    (pss_cons (ps_if (q_eq (Room.units hr) (pv 1) pe_int) (pss_cons (ps_set (i := 9) sc_law_made.nd rfl (by first | exact Or.inl rfl | exact Or.inr rfl) (p_makeK G_Edge_init_2_label_effect_guards_sources hr (pa_cons (pv 4) (pa_cons (pv 3) pa_nil)) (pk_cons (pv 8) (pk_cons (pv 7) (pk_cons (pv 6) (pk_cons (pv 5) pk_nil))))))
    (pss_one (ps_ret (pe_tup (pa_cons (pv 9) (pa_cons (p_call G_law_due hr (pa_cons (pv 4) (pa_cons (pv 3) (pa_cons (pv 5) (pa_cons (pv 6) (pa_cons (pv 7) (pa_cons (pv 8) pa_nil))))))) (pa_cons (pv 2) pa_nil))))))) pss_nil)
    (pss_cons (ps_if (q_eq (Room.units hr) (pv 1) pe_int) (pss_cons (ps_set (i := 9) sc_law_made.nd rfl (by first | exact Or.inl rfl | exact Or.inr rfl) (p_makeK G_Edge_init_2_sources_effect hr (pa_cons (pv 4) (pa_cons (pv 3) pa_nil)) (pk_cons (pv 5) (pk_cons (pv 7) pk_nil))))
    (pss_one (ps_ret (pe_tup (pa_cons (pv 9) (pa_cons (p_call G_law_due hr (pa_cons (pv 4) (pa_cons (pv 3) (pa_cons (pv 5) (pa_cons (pe_tup pa_nil) (pa_cons (pv 7) (pa_cons pe_str pa_nil))))))) (pa_cons (pv 2) pa_nil))))))) pss_nil)
    (pss_cons (ps_if (q_eq (Room.units hr) (pv 1) pe_int) (pss_one (ps_ret (pe_tup (pa_cons (p_makeK G_Edge_init_2_guards hr (pa_cons (pv 4) (pa_cons (pv 3) pa_nil)) (pk_cons (pv 6) pk_nil)) (pa_cons (p_call G_law_due hr (pa_cons (pv 4) (pa_cons (pv 3) (pa_cons (pe_tup pa_nil) (pa_cons (pv 6) (pa_cons (pe_tup pa_nil) (pa_cons pe_str pa_nil))))))) (pa_cons (pv 2) pa_nil)))))) pss_nil)
    (pss_cons (ps_if (q_eq (Room.units hr) (pv 1) pe_int) (pss_cons (ps_set (i := 9) sc_law_made.nd rfl (by first | exact Or.inl rfl | exact Or.inr rfl) (p_makeK G_Edge_init_2_label_sources hr (pa_cons (pv 4) (pa_cons (pv 3) pa_nil)) (pk_cons (pv 8) (pk_cons (pv 5) pk_nil))))
    (pss_one (ps_ret (pe_tup (pa_cons (pv 9) (pa_cons (p_call G_law_due hr (pa_cons (pv 4) (pa_cons (pv 3) (pa_cons (pv 5) (pa_cons (pe_tup pa_nil) (pa_cons (pe_tup pa_nil) (pa_cons (pv 8) pa_nil))))))) (pa_cons (pv 2) pa_nil))))))) pss_nil)
    (pss_cons (ps_if (q_eq (Room.units hr) (pv 1) pe_int) (pss_cons (ps_set (i := 9) sc_law_made.nd rfl (by first | exact Or.inl rfl | exact Or.inr rfl) (p_makeK G_Edge_init_2_effect_label hr (pa_cons (pv 4) (pa_cons (pv 3) pa_nil)) (pk_cons (pv 7) (pk_cons (pv 8) pk_nil))))
    (pss_one (ps_ret (pe_tup (pa_cons (pv 9) (pa_cons (p_call G_law_due hr (pa_cons (pv 4) (pa_cons (pv 3) (pa_cons (pe_tup pa_nil) (pa_cons (pe_tup pa_nil) (pa_cons (pv 7) (pa_cons (pv 8) pa_nil))))))) (pa_cons (pv 2) pa_nil))))))) pss_nil)
    (pss_cons (ps_set (i := 9) sc_law_made.nd rfl (by first | exact Or.inl rfl | exact Or.inr rfl) (p_makeK G_Edge_init_2_sources_guards_effect_label hr (pa_cons (pv 4) (pa_cons (pv 3) pa_nil)) (pk_cons (pv 5) (pk_cons (pv 6) (pk_cons (pv 7) (pk_cons (pv 8) pk_nil))))))
    (pss_one (ps_ret (pe_tup (pa_cons (pv 9) (pa_cons (p_call G_law_due hr (pa_cons (pv 4) (pa_cons (pv 3) (pa_cons (pv 5) (pa_cons (pv 6) (pa_cons (pv 7) (pa_cons (pv 8) pa_nil))))))) (pa_cons (pv 2) pa_nil)))))))))))))))))))))
/-! _law_made_plain -/
abbrev s_law_made_plain : Stmt := topS 24
abbrev N_law_made_plain : List Str := ["_law_purse_here", "_law_way", "_law_size", "_law_more", "_law_many", "_law_near_here", "_law_origin", "_law_aim", "_law_checks_here", "_law_rows_here", "_law_word_here", "_law_units_here", "_law_pairs_here", "_law_edge"]
theorem sc_law_made_plain : FnScope N_law_made_plain ["_law_purse_here"] (defScope s_law_made_plain) := ⟨rfl, rfl, rfl, by decide +kernel, rfl, by decide +kernel, by decide +kernel⟩
def t_law_made_plain (K : Fg) (Ac : Cs) (S_law_draw : ZSp) (S_law_near : ZSp) (S_law_checks : ZSp) (S_law_rows : ZSp) (S_law_word : ZSp) (S_law_units : ZSp) (S_Edge_plain : ZSp) (S_law_due : ZSp) : TS :=
    (tSeq (tAsg (tCB (zcall K S_law_draw) (tCons (tVar 0) (tCons (tC (.int 7)) tNil))) (gName 1))
    (tSeq (tAsg (tOp (rAddZ K) (tC (.int 1)) (tCB (zcall K S_law_draw) (tCons (tVar 0) (tCons (tC (.int 3)) tNil)))) (gName 2))
    (tSeq (tAsg (tCB (zcall K S_law_draw) (tCons (tVar 0) (tCons (tC (.int 3)) tNil))) (gName 3))
    (tSeq (tIfS (tTest (tOp (rInY K false) (tVar 1) (tTup (tCons (tC (.int 0)) (tCons (tC (.int 3)) (tCons (tC (.int 6)) tNil)))))) (tAsg (tC (.int 0)) (gName 3)) tNext)
    (tSeq (tAsg (tOp (rAddZ K) (tVar 2) (tVar 3)) (gName 4))
    (tSeq (tAsg (tCB (zcall K S_law_near) (tCons (tVar 0) (tCons (tVar 4) tNil))) (gName 5))
    (tSeq (tAsg (tCB (zcall K S_law_draw) (tCons (tVar 0) (tCons (tC (.int 10)) tNil))) (gName 6))
    (tSeq (tAsg (tCB (zcall K S_law_draw) (tCons (tVar 0) (tCons (tC (.int 10)) tNil))) (gName 7))
    (tSeq (tAsg (tCB (zcall K S_law_checks) (tCons (tVar 0) (tCons (tVar 5) tNil))) (gName 8))
    (tSeq (tAsg (tCB (zcall K S_law_rows) (tCons (tVar 0) (tCons (tOp (rAddZ K) (tC (.int 1)) (tCB (zcall K S_law_draw) (tCons (tVar 0) (tCons (tC (.int 3)) tNil)))) (tCons (tVar 4) tNil)))) (gName 9))
    (tSeq (tAsg (tCB (zcall K S_law_word) (tCons (tVar 0) tNil)) (gName 10))
    (tSeq (tAsg (tCB (zcall K S_law_units) (tCons (tVar 2) (tCons (tVar 4) tNil))) (gName 11))
    (tSeq (tAsg (tTup (tCons (tTup (tCons (tVar 6) (tCons (tVar 11) tNil))) tNil)) (gName 12))
    (tSeq (tIfS (tTest (tOp (rEqZ K) (tVar 1) (tC (.int 0)))) (tRet (tTup (tCons (tCmK Ac.c_Edge 3 ([] : List Str).length (zcall K S_Edge_plain) (fun vs zs => vs ++ ([(V.int 0)] ++ ([Ac.d_Edge_plain_guards] ++ ([V.non] ++ ([(V.str "plain")] ++ []))))) (tC (.ref Ac.c_Edge)) (tCons (tVar 6) (tCons (tVar 7) (tCons (tVar 2) tNil))) tNil) (tCons (tCB (zcall K S_law_due) (tCons (tVar 7) (tCons (tVar 4) (tCons (tVar 12) (tCons (tTup tNil) (tCons (tVar 11) (tCons (tC (.str "plain")) tNil))))))) (tCons (tVar 5) tNil))))) tNext)
    (tSeq (tIfS (tTest (tOp (rEqZ K) (tVar 1) (tC (.int 1)))) (tSeq (tAsg (tCmK Ac.c_Edge 3 (["fresh", "guards", "effect", "label"] : List Str).length (zcall K S_Edge_plain) (fun vs zs => vs ++ ((zs.drop 0).take 1 ++ ((zs.drop 1).take 1 ++ ((zs.drop 2).take 1 ++ ((zs.drop 3).take 1 ++ []))))) (tC (.ref Ac.c_Edge)) (tCons (tVar 6) (tCons (tVar 7) (tCons (tVar 2) tNil))) (tCons (tVar 3) (tCons (tVar 8) (tCons (tVar 9) (tCons (tVar 10) tNil))))) (gName 13))
    (tRet (tTup (tCons (tVar 13) (tCons (tCB (zcall K S_law_due) (tCons (tVar 7) (tCons (tVar 4) (tCons (tVar 12) (tCons (tVar 8) (tCons (tVar 9) (tCons (tVar 10) tNil))))))) (tCons (tVar 5) tNil)))))) tNext)
    (tSeq (tIfS (tTest (tOp (rEqZ K) (tVar 1) (tC (.int 2)))) (tSeq (tAsg (tCmK Ac.c_Edge 3 (["label", "effect", "guards", "fresh"] : List Str).length (zcall K S_Edge_plain) (fun vs zs => vs ++ ((zs.drop 3).take 1 ++ ((zs.drop 2).take 1 ++ ((zs.drop 1).take 1 ++ ((zs.drop 0).take 1 ++ []))))) (tC (.ref Ac.c_Edge)) (tCons (tVar 6) (tCons (tVar 7) (tCons (tVar 2) tNil))) (tCons (tVar 10) (tCons (tVar 9) (tCons (tVar 8) (tCons (tVar 3) tNil))))) (gName 13))
    (tRet (tTup (tCons (tVar 13) (tCons (tCB (zcall K S_law_due) (tCons (tVar 7) (tCons (tVar 4) (tCons (tVar 12) (tCons (tVar 8) (tCons (tVar 9) (tCons (tVar 10) tNil))))))) (tCons (tVar 5) tNil)))))) tNext)
    (tSeq (tIfS (tTest (tOp (rEqZ K) (tVar 1) (tC (.int 3)))) (tSeq (tAsg (tCmK Ac.c_Edge 3 (["guards"] : List Str).length (zcall K S_Edge_plain) (fun vs zs => vs ++ ([(V.int 0)] ++ ((zs.drop 0).take 1 ++ ([V.non] ++ ([(V.str "plain")] ++ []))))) (tC (.ref Ac.c_Edge)) (tCons (tVar 6) (tCons (tVar 7) (tCons (tVar 2) tNil))) (tCons (tVar 8) tNil)) (gName 13))
    (tRet (tTup (tCons (tVar 13) (tCons (tCB (zcall K S_law_due) (tCons (tVar 7) (tCons (tVar 4) (tCons (tVar 12) (tCons (tVar 8) (tCons (tVar 11) (tCons (tC (.str "plain")) tNil))))))) (tCons (tVar 5) tNil)))))) tNext)
    (tSeq (tIfS (tTest (tOp (rEqZ K) (tVar 1) (tC (.int 4)))) (tSeq (tAsg (tCmK Ac.c_Edge 3 (["effect", "fresh"] : List Str).length (zcall K S_Edge_plain) (fun vs zs => vs ++ ((zs.drop 1).take 1 ++ ([Ac.d_Edge_plain_guards] ++ ((zs.drop 0).take 1 ++ ([(V.str "plain")] ++ []))))) (tC (.ref Ac.c_Edge)) (tCons (tVar 6) (tCons (tVar 7) (tCons (tVar 2) tNil))) (tCons (tC .non) (tCons (tVar 3) tNil))) (gName 13))
    (tRet (tTup (tCons (tVar 13) (tCons (tCB (zcall K S_law_due) (tCons (tVar 7) (tCons (tVar 4) (tCons (tVar 12) (tCons (tTup tNil) (tCons (tVar 11) (tCons (tC (.str "plain")) tNil))))))) (tCons (tVar 5) tNil)))))) tNext)
    (tSeq (tIfS (tTest (tOp (rEqZ K) (tVar 1) (tC (.int 5)))) (tSeq (tAsg (tCmK Ac.c_Edge 3 (["fresh", "label"] : List Str).length (zcall K S_Edge_plain) (fun vs zs => vs ++ ((zs.drop 0).take 1 ++ ([Ac.d_Edge_plain_guards] ++ ([V.non] ++ ((zs.drop 1).take 1 ++ []))))) (tC (.ref Ac.c_Edge)) (tCons (tVar 6) (tCons (tVar 7) (tCons (tVar 2) tNil))) (tCons (tVar 3) (tCons (tVar 10) tNil))) (gName 13))
    (tRet (tTup (tCons (tVar 13) (tCons (tCB (zcall K S_law_due) (tCons (tVar 7) (tCons (tVar 4) (tCons (tVar 12) (tCons (tTup tNil) (tCons (tVar 11) (tCons (tVar 10) tNil))))))) (tCons (tVar 5) tNil)))))) tNext)
    (tRet (tTup (tCons (tCmK Ac.c_Edge 3 (["effect"] : List Str).length (zcall K S_Edge_plain) (fun vs zs => vs ++ ([(V.int 0)] ++ ([Ac.d_Edge_plain_guards] ++ ((zs.drop 0).take 1 ++ ([(V.str "plain")] ++ []))))) (tC (.ref Ac.c_Edge)) (tCons (tVar 6) (tCons (tVar 7) (tCons (tVar 2) tNil))) (tCons (tVar 9) tNil)) (tCons (tCB (zcall K S_law_due) (tCons (tVar 7) (tCons (tVar 4) (tCons (tVar 12) (tCons (tTup tNil) (tCons (tVar 9) (tCons (tC (.str "plain")) tNil))))))) (tCons (tVar 5) tNil))))))))))))))))))))))))
theorem red_law_made_plain {Ac : Cs} (T : Txt Ac K mg) (S_law_draw : ZSp) (S_law_near : ZSp) (S_law_checks : ZSp) (S_law_rows : ZSp) (S_law_word : ZSp) (S_law_units : ZSp) (S_Edge_plain : ZSp) (S_law_due : ZSp)
    (G_law_draw : FnZ P w K mg base "_law_draw" 1 S_law_draw)
    (G_law_near : FnZ P w K mg base "_law_near" 2 S_law_near)
    (G_law_checks : FnZ P w K mg base "_law_checks" 3 S_law_checks)
    (G_law_rows : FnZ P w K mg base "_law_rows" 3 S_law_rows)
    (G_law_word : FnZ P w K mg base "_law_word" 2 S_law_word)
    (G_law_units : FnZ P w K mg base "_law_units" 1 S_law_units)
    (G_Edge_plain_3 : CmKZ P w K mg base Ac.c_Edge "plain" 3 3 [] (fun vs zs => vs ++ ([(V.int 0)] ++ ([Ac.d_Edge_plain_guards] ++ ([V.non] ++ ([(V.str "plain")] ++ []))))) S_Edge_plain)
    (G_law_due : FnZ P w K mg base "_law_due" 1 S_law_due)
    (G_Edge_plain_3_fresh_guards_effect_label : CmKZ P w K mg base Ac.c_Edge "plain" 3 3 ["fresh", "guards", "effect", "label"] (fun vs zs => vs ++ ((zs.drop 0).take 1 ++ ((zs.drop 1).take 1 ++ ((zs.drop 2).take 1 ++ ((zs.drop 3).take 1 ++ []))))) S_Edge_plain)
    (G_Edge_plain_3_label_effect_guards_fresh : CmKZ P w K mg base Ac.c_Edge "plain" 3 3 ["label", "effect", "guards", "fresh"] (fun vs zs => vs ++ ((zs.drop 3).take 1 ++ ((zs.drop 2).take 1 ++ ((zs.drop 1).take 1 ++ ((zs.drop 0).take 1 ++ []))))) S_Edge_plain)
    (G_Edge_plain_3_guards : CmKZ P w K mg base Ac.c_Edge "plain" 3 3 ["guards"] (fun vs zs => vs ++ ([(V.int 0)] ++ ((zs.drop 0).take 1 ++ ([V.non] ++ ([(V.str "plain")] ++ []))))) S_Edge_plain)
    (G_Edge_plain_3_effect_fresh : CmKZ P w K mg base Ac.c_Edge "plain" 3 3 ["effect", "fresh"] (fun vs zs => vs ++ ((zs.drop 1).take 1 ++ ([Ac.d_Edge_plain_guards] ++ ((zs.drop 0).take 1 ++ ([(V.str "plain")] ++ []))))) S_Edge_plain)
    (G_Edge_plain_3_fresh_label : CmKZ P w K mg base Ac.c_Edge "plain" 3 3 ["fresh", "label"] (fun vs zs => vs ++ ((zs.drop 0).take 1 ++ ([Ac.d_Edge_plain_guards] ++ ([V.non] ++ ((zs.drop 1).take 1 ++ []))))) S_Edge_plain)
    (G_Edge_plain_3_effect : CmKZ P w K mg base Ac.c_Edge "plain" 3 3 ["effect"] (fun vs zs => vs ++ ([(V.int 0)] ++ ([Ac.d_Edge_plain_guards] ++ ((zs.drop 0).take 1 ++ ([(V.str "plain")] ++ []))))) S_Edge_plain) (f : Addr) (cdv : Value) (A : Around) (outer : List Env) (s : Shared) (H : Hp) (E : XK) (hr : Room 3 (A.deeper (envOfC "_law_made_plain" (defScope s_law_made_plain) s.heap.objs.size f cdv))) :
    PSs (cxOf CX0 P w K mg base N_law_made_plain "_law_made_plain" (defScope s_law_made_plain) f cdv A outer s H E).nox (defBody s_law_made_plain) (t_law_made_plain K Ac S_law_draw S_law_near S_law_checks S_law_rows S_law_word S_law_units S_Edge_plain S_law_due) :=
    (pss_cons (ps_set (i := 1) sc_law_made_plain.nd rfl (by first | exact Or.inl rfl | exact Or.inr rfl) (p_call G_law_draw hr (pa_cons (pv 0) (pa_cons pe_int pa_nil))))
    (pss_cons (ps_set (i := 2) sc_law_made_plain.nd rfl (by first | exact Or.inl rfl | exact Or.inr rfl) (p_add pe_int (p_call G_law_draw hr (pa_cons (pv 0) (pa_cons pe_int pa_nil)))))
    (pss_cons (ps_set (i := 3) sc_law_made_plain.nd rfl (by first | exact Or.inl rfl | exact Or.inr rfl) (p_call G_law_draw hr (pa_cons (pv 0) (pa_cons pe_int pa_nil))))
    (pss_cons (ps_if (q_inY (pv 1) (pe_tup (pa_cons pe_int (pa_cons pe_int (pa_cons pe_int pa_nil))))) (pss_one (ps_set (i := 3) sc_law_made_plain.nd rfl (by first | exact Or.inl rfl | exact Or.inr rfl) pe_int)) pss_nil)
    (pss_cons (ps_set (i := 4) sc_law_made_plain.nd rfl (by first | exact Or.inl rfl | exact Or.inr rfl) (p_add (pv 2) (pv 3)))
    (pss_cons (ps_set (i := 5) sc_law_made_plain.nd rfl (by first | exact Or.inl rfl | exact Or.inr rfl) (p_call G_law_near hr (pa_cons (pv 0) (pa_cons (pv 4) pa_nil))))
    (pss_cons (ps_set (i := 6) sc_law_made_plain.nd rfl (by first | exact Or.inl rfl | exact Or.inr rfl) (p_call G_law_draw hr (pa_cons (pv 0) (pa_cons pe_int pa_nil))))
    (pss_cons (ps_set (i := 7) sc_law_made_plain.nd rfl (by first | exact Or.inl rfl | exact Or.inr rfl) (p_call G_law_draw hr (pa_cons (pv 0) (pa_cons pe_int pa_nil))))
    (pss_cons (ps_set (i := 8) sc_law_made_plain.nd rfl (by first | exact Or.inl rfl | exact Or.inr rfl) (p_call G_law_checks hr (pa_cons (pv 0) (pa_cons (pv 5) pa_nil))))
    (pss_cons (ps_set (i := 9) sc_law_made_plain.nd rfl (by first | exact Or.inl rfl | exact Or.inr rfl) (p_call G_law_rows hr (pa_cons (pv 0) (pa_cons (p_add pe_int (p_call G_law_draw hr (pa_cons (pv 0) (pa_cons pe_int pa_nil)))) (pa_cons (pv 4) pa_nil)))))
    (pss_cons (ps_set (i := 10) sc_law_made_plain.nd rfl (by first | exact Or.inl rfl | exact Or.inr rfl) (p_call G_law_word hr (pa_cons (pv 0) pa_nil)))
    (pss_cons (ps_set (i := 11) sc_law_made_plain.nd rfl (by first | exact Or.inl rfl | exact Or.inr rfl) (p_call G_law_units hr (pa_cons (pv 2) (pa_cons (pv 4) pa_nil))))
    (pss_cons (ps_set (i := 12) sc_law_made_plain.nd rfl (by first | exact Or.inl rfl | exact Or.inr rfl) (pe_tup (pa_cons (pe_tup (pa_cons (pv 6) (pa_cons (pv 11) pa_nil))) pa_nil)))
    (pss_cons (ps_if (q_eq (Room.units hr) (pv 1) pe_int) (pss_one (ps_ret (pe_tup (pa_cons (p_cmK G_Edge_plain_3 hr (pe_glob (by rfl) T.g_Edge rfl) (pa_cons (pv 6) (pa_cons (pv 7) (pa_cons (pv 2) pa_nil))) pk_nil) (pa_cons (p_call G_law_due hr (pa_cons (pv 7) (pa_cons (pv 4) (pa_cons (pv 12) (pa_cons (pe_tup pa_nil) (pa_cons (pv 11) (pa_cons pe_str pa_nil))))))) (pa_cons (pv 5) pa_nil)))))) pss_nil)
    (pss_cons (ps_if (q_eq (Room.units hr) (pv 1) pe_int) (pss_cons (ps_set (i := 13) sc_law_made_plain.nd rfl (by first | exact Or.inl rfl | exact Or.inr rfl) (p_cmK G_Edge_plain_3_fresh_guards_effect_label hr (pe_glob (by rfl) T.g_Edge rfl) (pa_cons (pv 6) (pa_cons (pv 7) (pa_cons (pv 2) pa_nil))) (pk_cons (pv 3) (pk_cons (pv 8) (pk_cons (pv 9) (pk_cons (pv 10) pk_nil))))))
    (pss_one (ps_ret (pe_tup (pa_cons (pv 13) (pa_cons (p_call G_law_due hr (pa_cons (pv 7) (pa_cons (pv 4) (pa_cons (pv 12) (pa_cons (pv 8) (pa_cons (pv 9) (pa_cons (pv 10) pa_nil))))))) (pa_cons (pv 5) pa_nil))))))) pss_nil)
    (pss_cons (ps_if (q_eq (Room.units hr) (pv 1) pe_int) (pss_cons (ps_set (i := 13) sc_law_made_plain.nd rfl (by first | exact Or.inl rfl | exact Or.inr rfl) (p_cmK G_Edge_plain_3_label_effect_guards_fresh hr (pe_glob (by rfl) T.g_Edge rfl) (pa_cons (pv 6) (pa_cons (pv 7) (pa_cons (pv 2) pa_nil))) (pk_cons (pv 10) (pk_cons (pv 9) (pk_cons (pv 8) (pk_cons (pv 3) pk_nil))))))
    (pss_one (ps_ret (pe_tup (pa_cons (pv 13) (pa_cons (p_call G_law_due hr (pa_cons (pv 7) (pa_cons (pv 4) (pa_cons (pv 12) (pa_cons (pv 8) (pa_cons (pv 9) (pa_cons (pv 10) pa_nil))))))) (pa_cons (pv 5) pa_nil))))))) pss_nil)
    (pss_cons (ps_if (q_eq (Room.units hr) (pv 1) pe_int) (pss_cons (ps_set (i := 13) sc_law_made_plain.nd rfl (by first | exact Or.inl rfl | exact Or.inr rfl) (p_cmK G_Edge_plain_3_guards hr (pe_glob (by rfl) T.g_Edge rfl) (pa_cons (pv 6) (pa_cons (pv 7) (pa_cons (pv 2) pa_nil))) (pk_cons (pv 8) pk_nil)))
    (pss_one (ps_ret (pe_tup (pa_cons (pv 13) (pa_cons (p_call G_law_due hr (pa_cons (pv 7) (pa_cons (pv 4) (pa_cons (pv 12) (pa_cons (pv 8) (pa_cons (pv 11) (pa_cons pe_str pa_nil))))))) (pa_cons (pv 5) pa_nil))))))) pss_nil)
    (pss_cons (ps_if (q_eq (Room.units hr) (pv 1) pe_int) (pss_cons (ps_set (i := 13) sc_law_made_plain.nd rfl (by first | exact Or.inl rfl | exact Or.inr rfl) (p_cmK G_Edge_plain_3_effect_fresh hr (pe_glob (by rfl) T.g_Edge rfl) (pa_cons (pv 6) (pa_cons (pv 7) (pa_cons (pv 2) pa_nil))) (pk_cons pe_non (pk_cons (pv 3) pk_nil))))
    (pss_one (ps_ret (pe_tup (pa_cons (pv 13) (pa_cons (p_call G_law_due hr (pa_cons (pv 7) (pa_cons (pv 4) (pa_cons (pv 12) (pa_cons (pe_tup pa_nil) (pa_cons (pv 11) (pa_cons pe_str pa_nil))))))) (pa_cons (pv 5) pa_nil))))))) pss_nil)
    (pss_cons (ps_if (q_eq (Room.units hr) (pv 1) pe_int) (pss_cons (ps_set (i := 13) sc_law_made_plain.nd rfl (by first | exact Or.inl rfl | exact Or.inr rfl) (p_cmK G_Edge_plain_3_fresh_label hr (pe_glob (by rfl) T.g_Edge rfl) (pa_cons (pv 6) (pa_cons (pv 7) (pa_cons (pv 2) pa_nil))) (pk_cons (pv 3) (pk_cons (pv 10) pk_nil))))
    (pss_one (ps_ret (pe_tup (pa_cons (pv 13) (pa_cons (p_call G_law_due hr (pa_cons (pv 7) (pa_cons (pv 4) (pa_cons (pv 12) (pa_cons (pe_tup pa_nil) (pa_cons (pv 11) (pa_cons (pv 10) pa_nil))))))) (pa_cons (pv 5) pa_nil))))))) pss_nil)
    (pss_one (ps_ret (pe_tup (pa_cons (p_cmK G_Edge_plain_3_effect hr (pe_glob (by rfl) T.g_Edge rfl) (pa_cons (pv 6) (pa_cons (pv 7) (pa_cons (pv 2) pa_nil))) (pk_cons (pv 9) pk_nil)) (pa_cons (p_call G_law_due hr (pa_cons (pv 7) (pa_cons (pv 4) (pa_cons (pv 12) (pa_cons (pe_tup pa_nil) (pa_cons (pv 9) (pa_cons pe_str pa_nil))))))) (pa_cons (pv 5) pa_nil)))))))))))))))))))))))))
/-! _law_made_start -/
abbrev s_law_made_start : Stmt := topS 25
abbrev N_law_made_start : List Str := ["_law_purse_here", "_law_way", "_law_near_here", "_law_many", "_law_aim", "_law_checks_here", "_law_rows_here", "_law_edge"]
theorem sc_law_made_start : FnScope N_law_made_start ["_law_purse_here"] (defScope s_law_made_start) := ⟨rfl, rfl, rfl, by decide +kernel, rfl, by decide +kernel, by decide +kernel⟩
def t_law_made_start (K : Fg) (Ac : Cs) (S_law_draw : ZSp) (S_law_near : ZSp) (S_law_checks : ZSp) (S_law_rows : ZSp) (S_Edge_start : ZSp) (S_law_due : ZSp) : TS :=
    (tSeq (tAsg (tCB (zcall K S_law_draw) (tCons (tVar 0) (tCons (tC (.int 4)) tNil))) (gName 1))
    (tSeq (tAsg (tCB (zcall K S_law_near) (tCons (tVar 0) (tCons (tCB (zcall K S_law_draw) (tCons (tVar 0) (tCons (tC (.int 6)) tNil))) tNil))) (gName 2))
    (tSeq (tAsg (tCB (rLenZ K) (tCons (tVar 2) tNil)) (gName 3))
    (tSeq (tAsg (tCB (zcall K S_law_draw) (tCons (tVar 0) (tCons (tC (.int 10)) tNil))) (gName 4))
    (tSeq (tAsg (tCB (zcall K S_law_checks) (tCons (tVar 0) (tCons (tVar 2) tNil))) (gName 5))
    (tSeq (tAsg (tCB (zcall K S_law_rows) (tCons (tVar 0) (tCons (tCB (zcall K S_law_draw) (tCons (tVar 0) (tCons (tC (.int 4)) tNil))) (tCons (tVar 3) tNil)))) (gName 6))
    (tSeq (tIfS (tTest (tOp (rEqZ K) (tVar 1) (tC (.int 0)))) (tRet (tTup (tCons (tCmK Ac.c_Edge 2 ([] : List Str).length (zcall K S_Edge_start) (fun vs zs => vs ++ ([Ac.d_Edge_start_guards] ++ ([Ac.d_Edge_start_effect] ++ []))) (tC (.ref Ac.c_Edge)) (tCons (tVar 4) (tCons (tVar 3) tNil)) tNil) (tCons (tCB (zcall K S_law_due) (tCons (tVar 4) (tCons (tVar 3) (tCons (tTup tNil) (tCons (tTup tNil) (tCons (tTup tNil) (tCons (tC (.str "start")) tNil))))))) (tCons (tVar 2) tNil))))) tNext)
    (tSeq (tIfS (tTest (tOp (rEqZ K) (tVar 1) (tC (.int 1)))) (tSeq (tAsg (tCmK Ac.c_Edge 2 (["guards", "effect"] : List Str).length (zcall K S_Edge_start) (fun vs zs => vs ++ ((zs.drop 0).take 1 ++ ((zs.drop 1).take 1 ++ []))) (tC (.ref Ac.c_Edge)) (tCons (tVar 4) (tCons (tVar 3) tNil)) (tCons (tVar 5) (tCons (tVar 6) tNil))) (gName 7))
    (tRet (tTup (tCons (tVar 7) (tCons (tCB (zcall K S_law_due) (tCons (tVar 4) (tCons (tVar 3) (tCons (tTup tNil) (tCons (tVar 5) (tCons (tVar 6) (tCons (tC (.str "start")) tNil))))))) (tCons (tVar 2) tNil)))))) tNext)
    (tSeq (tIfS (tTest (tOp (rEqZ K) (tVar 1) (tC (.int 2)))) (tRet (tTup (tCons (tCmK Ac.c_Edge 2 (["effect"] : List Str).length (zcall K S_Edge_start) (fun vs zs => vs ++ ([Ac.d_Edge_start_guards] ++ ((zs.drop 0).take 1 ++ []))) (tC (.ref Ac.c_Edge)) (tCons (tVar 4) (tCons (tVar 3) tNil)) (tCons (tVar 6) tNil)) (tCons (tCB (zcall K S_law_due) (tCons (tVar 4) (tCons (tVar 3) (tCons (tTup tNil) (tCons (tTup tNil) (tCons (tVar 6) (tCons (tC (.str "start")) tNil))))))) (tCons (tVar 2) tNil))))) tNext)
    (tSeq (tAsg (tCmK Ac.c_Edge 2 (["effect", "guards"] : List Str).length (zcall K S_Edge_start) (fun vs zs => vs ++ ((zs.drop 1).take 1 ++ ((zs.drop 0).take 1 ++ []))) (tC (.ref Ac.c_Edge)) (tCons (tVar 4) (tCons (tVar 3) tNil)) (tCons (tVar 6) (tCons (tVar 5) tNil))) (gName 7))
    (tRet (tTup (tCons (tVar 7) (tCons (tCB (zcall K S_law_due) (tCons (tVar 4) (tCons (tVar 3) (tCons (tTup tNil) (tCons (tVar 5) (tCons (tVar 6) (tCons (tC (.str "start")) tNil))))))) (tCons (tVar 2) tNil)))))))))))))))
theorem red_law_made_start {Ac : Cs} (T : Txt Ac K mg) (S_law_draw : ZSp) (S_law_near : ZSp) (S_law_checks : ZSp) (S_law_rows : ZSp) (S_Edge_start : ZSp) (S_law_due : ZSp)
    (G_law_draw : FnZ P w K mg base "_law_draw" 1 S_law_draw)
    (G_law_near : FnZ P w K mg base "_law_near" 2 S_law_near)
    (G_law_checks : FnZ P w K mg base "_law_checks" 3 S_law_checks)
    (G_law_rows : FnZ P w K mg base "_law_rows" 3 S_law_rows)
    (G_Edge_start_2 : CmKZ P w K mg base Ac.c_Edge "start" 3 2 [] (fun vs zs => vs ++ ([Ac.d_Edge_start_guards] ++ ([Ac.d_Edge_start_effect] ++ []))) S_Edge_start)
    (G_law_due : FnZ P w K mg base "_law_due" 1 S_law_due)
    (G_Edge_start_2_guards_effect : CmKZ P w K mg base Ac.c_Edge "start" 3 2 ["guards", "effect"] (fun vs zs => vs ++ ((zs.drop 0).take 1 ++ ((zs.drop 1).take 1 ++ []))) S_Edge_start)
    (G_Edge_start_2_effect : CmKZ P w K mg base Ac.c_Edge "start" 3 2 ["effect"] (fun vs zs => vs ++ ([Ac.d_Edge_start_guards] ++ ((zs.drop 0).take 1 ++ []))) S_Edge_start)
    (G_Edge_start_2_effect_guards : CmKZ P w K mg base Ac.c_Edge "start" 3 2 ["effect", "guards"] (fun vs zs => vs ++ ((zs.drop 1).take 1 ++ ((zs.drop 0).take 1 ++ []))) S_Edge_start) (f : Addr) (cdv : Value) (A : Around) (outer : List Env) (s : Shared) (H : Hp) (E : XK) (hr : Room 3 (A.deeper (envOfC "_law_made_start" (defScope s_law_made_start) s.heap.objs.size f cdv))) :
    PSs (cxOf CX0 P w K mg base N_law_made_start "_law_made_start" (defScope s_law_made_start) f cdv A outer s H E).nox (defBody s_law_made_start) (t_law_made_start K Ac S_law_draw S_law_near S_law_checks S_law_rows S_Edge_start S_law_due) :=
    (pss_cons (ps_set (i := 1) sc_law_made_start.nd rfl (by first | exact Or.inl rfl | exact Or.inr rfl) (p_call G_law_draw hr (pa_cons (pv 0) (pa_cons pe_int pa_nil))))
    (pss_cons (ps_set (i := 2) sc_law_made_start.nd rfl (by first | exact Or.inl rfl | exact Or.inr rfl) (p_call G_law_near hr (pa_cons (pv 0) (pa_cons (p_call G_law_draw hr (pa_cons (pv 0) (pa_cons pe_int pa_nil))) pa_nil))))
    (pss_cons (ps_set (i := 3) sc_law_made_start.nd rfl (by first | exact Or.inl rfl | exact Or.inr rfl) (pe_callB cz_len (by rfl) T.n_len Z.boot_len (pa_cons (pv 2) pa_nil)))
    (pss_cons (ps_set (i := 4) sc_law_made_start.nd rfl (by first | exact Or.inl rfl | exact Or.inr rfl) (p_call G_law_draw hr (pa_cons (pv 0) (pa_cons pe_int pa_nil))))
    (pss_cons (ps_set (i := 5) sc_law_made_start.nd rfl (by first | exact Or.inl rfl | exact Or.inr rfl) (p_call G_law_checks hr (pa_cons (pv 0) (pa_cons (pv 2) pa_nil))))
    (pss_cons (ps_set (i := 6) sc_law_made_start.nd rfl (by first | exact Or.inl rfl | exact Or.inr rfl) (p_call G_law_rows hr (pa_cons (pv 0) (pa_cons (p_call G_law_draw hr (pa_cons (pv 0) (pa_cons pe_int pa_nil))) (pa_cons (pv 3) pa_nil)))))
    (pss_cons (ps_if (q_eq (Room.units hr) (pv 1) pe_int) (pss_one (ps_ret (pe_tup (pa_cons (p_cmK G_Edge_start_2 hr (pe_glob (by rfl) T.g_Edge rfl) (pa_cons (pv 4) (pa_cons (pv 3) pa_nil)) pk_nil) (pa_cons (p_call G_law_due hr (pa_cons (pv 4) (pa_cons (pv 3) (pa_cons (pe_tup pa_nil) (pa_cons (pe_tup pa_nil) (pa_cons (pe_tup pa_nil) (pa_cons pe_str pa_nil))))))) (pa_cons (pv 2) pa_nil)))))) pss_nil)
    (pss_cons (ps_if (q_eq (Room.units hr) (pv 1) pe_int) (pss_cons (ps_set (i := 7) sc_law_made_start.nd rfl (by first | exact Or.inl rfl | exact Or.inr rfl) (p_cmK G_Edge_start_2_guards_effect hr (pe_glob (by rfl) T.g_Edge rfl) (pa_cons (pv 4) (pa_cons (pv 3) pa_nil)) (pk_cons (pv 5) (pk_cons (pv 6) pk_nil))))
    (pss_one (ps_ret (pe_tup (pa_cons (pv 7) (pa_cons (p_call G_law_due hr (pa_cons (pv 4) (pa_cons (pv 3) (pa_cons (pe_tup pa_nil) (pa_cons (pv 5) (pa_cons (pv 6) (pa_cons pe_str pa_nil))))))) (pa_cons (pv 2) pa_nil))))))) pss_nil)
    (pss_cons (ps_if (q_eq (Room.units hr) (pv 1) pe_int) (pss_one (ps_ret (pe_tup (pa_cons (p_cmK G_Edge_start_2_effect hr (pe_glob (by rfl) T.g_Edge rfl) (pa_cons (pv 4) (pa_cons (pv 3) pa_nil)) (pk_cons (pv 6) pk_nil)) (pa_cons (p_call G_law_due hr (pa_cons (pv 4) (pa_cons (pv 3) (pa_cons (pe_tup pa_nil) (pa_cons (pe_tup pa_nil) (pa_cons (pv 6) (pa_cons pe_str pa_nil))))))) (pa_cons (pv 2) pa_nil)))))) pss_nil)
    (pss_cons (ps_set (i := 7) sc_law_made_start.nd rfl (by first | exact Or.inl rfl | exact Or.inr rfl) (p_cmK G_Edge_start_2_effect_guards hr (pe_glob (by rfl) T.g_Edge rfl) (pa_cons (pv 4) (pa_cons (pv 3) pa_nil)) (pk_cons (pv 6) (pk_cons (pv 5) pk_nil))))
    (pss_one (ps_ret (pe_tup (pa_cons (pv 7) (pa_cons (p_call G_law_due hr (pa_cons (pv 4) (pa_cons (pv 3) (pa_cons (pe_tup pa_nil) (pa_cons (pv 5) (pa_cons (pv 6) (pa_cons pe_str pa_nil))))))) (pa_cons (pv 2) pa_nil))))))))))))))))
/-! _law_sums_hold -/
abbrev s_law_sums_hold : Stmt := topS 26
abbrev N_law_sums_hold : List Str := ["_law_edge", "_law_due_here", "_law_values", "_law_held", "_law_row", "_law_told", "_law_k", "_law_wanted"]
theorem sc_law_sums_hold : FnScope N_law_sums_hold ["_law_edge", "_law_due_here", "_law_values"] (defScope s_law_sums_hold) := ⟨rfl, rfl, rfl, by decide +kernel, rfl, by decide +kernel, by decide +kernel⟩
def t_law_sums_hold (K : Fg) (Ac : Cs) (S_law_value : ZSp) (S_Edge_guards_hold : ZSp) (S_Edge_source_state : ZSp) (S_law_same : ZSp) (S_Edge_target_state : ZSp) : TS :=
    (tSeq (tAsg (tCB (rAllZ K) (tCons (tLc (iSeqZ K (tOp (rIxZ K) (tVar 1) (tC (.int 3)))) (gName 4) tYes (tOp rLeZ (tCB (zcall K S_law_value) (tCons (tVar 4) (tCons (tVar 2) tNil))) (tC (.int 0))) [4]) tNil)) (gName 3))
    (tSeq (tAsg (tMth Ac.c_Edge "guards_hold" (zcall K S_Edge_guards_hold) (tVar 0) (tCons (tVar 2) tNil)) (gName 5))
    (tSeq (tIfS (tAnd (tTruZ K (tVar 3)) (tTest (tOp rNotB (tVar 5) (tC (.bl true))))) (tRet (tC (.bl false))) tNext)
    (tSeq (tIfS (tAnd (tNot (tTruZ K (tVar 3))) (tTest (tOp rNotB (tVar 5) (tC (.bl false))))) (tRet (tC (.bl false))) tNext)
    (tSeq (tFor (iRng1 (tCons (tCB (rLenZ K) (tCons (tOp (rIxZ K) (tVar 1) (tC (.int 2))) tNil)) tNil)) (gName 6) (tSeq (tAsg (tCB (rTupZ K) (tCons (tLc (iSeqZ K (tOp (rIxZ K) (tOp (rIxZ K) (tOp (rIxZ K) (tVar 1) (tC (.int 2))) (tVar 6)) (tC (.int 1)))) (gName 4) tYes (tCB (zcall K S_law_value) (tCons (tVar 4) (tCons (tVar 2) tNil))) [4]) tNil)) (gName 7))
    (tIfS (tNot (tTruZ K (tCB (zcall K S_law_same) (tCons (tMth Ac.c_Edge "source_state" (zcall K S_Edge_source_state) (tVar 0) (tCons (tVar 6) (tCons (tVar 2) tNil))) (tCons (tVar 7) tNil))))) (tRet (tC (.bl false))) tNext)))
    (tSeq (tAsg (tCB (rTupZ K) (tCons (tLc (iSeqZ K (tOp (rIxZ K) (tVar 1) (tC (.int 4)))) (gName 4) tYes (tCB (zcall K S_law_value) (tCons (tVar 4) (tCons (tVar 2) tNil))) [4]) tNil)) (gName 7))
    (tRet (tCB (zcall K S_law_same) (tCons (tMth Ac.c_Edge "target_state" (zcall K S_Edge_target_state) (tVar 0) (tCons (tVar 2) tNil)) (tCons (tVar 7) tNil))))))))))
theorem red_law_sums_hold {Ac : Cs} (T : Txt Ac K mg) (S_law_value : ZSp) (S_Edge_guards_hold : ZSp) (S_Edge_source_state : ZSp) (S_law_same : ZSp) (S_Edge_target_state : ZSp)
    (G_law_value : FnZ P w K mg base "_law_value" 1 S_law_value)
    (G_Edge_guards_hold : MtZ P w K mg base Ac.c_Edge "guards_hold" 2 S_Edge_guards_hold)
    (G_Edge_source_state : MtZ P w K mg base Ac.c_Edge "source_state" 2 S_Edge_source_state)
    (G_law_same : FnZ P w K mg base "_law_same" 11 S_law_same)
    (G_Edge_target_state : MtZ P w K mg base Ac.c_Edge "target_state" 2 S_Edge_target_state) (f : Addr) (cdv : Value) (A : Around) (outer : List Env) (s : Shared) (H : Hp) (E : XK) (hr : Room 11 (A.deeper (envOfC "_law_sums_hold" (defScope s_law_sums_hold) s.heap.objs.size f cdv))) :
    PSs (cxOf CX0 P w K mg base N_law_sums_hold "_law_sums_hold" (defScope s_law_sums_hold) f cdv A outer s H E).nox (defBody s_law_sums_hold) (t_law_sums_hold K Ac S_law_value S_Edge_guards_hold S_Edge_source_state S_law_same S_Edge_target_state) :=
    (pss_cons (ps_set (i := 3) sc_law_sums_hold.nd rfl (by first | exact Or.inl rfl | exact Or.inr rfl) (pe_callB (cz_all rfl) (by rfl) T.n_all Z.boot_all (pa_cons (pe_lc (own := [("_law_row", 4)]) rfl sc_law_sums_hold.nd (pi_seqZ (p_ix (pv 1) pe_int)) (blkOk_by (by kernel_rfl)) (fun _ _ _ _ _ => (pg_name (i := 4) sc_law_sums_hold.nd rfl (by first | exact Or.inl rfl | exact Or.inr rfl))) (fun _ _ _ _ _ => pts_nil) (fun _ _ _ _ _ => (p_le (p_call G_law_value hr (pa_cons (pv 4) (pa_cons (pv 2) pa_nil))) pe_int))) pa_nil)))
    (pss_cons (ps_set (i := 5) sc_law_sums_hold.nd rfl (by first | exact Or.inl rfl | exact Or.inr rfl) (p_meth G_Edge_guards_hold hr (pv 0) (pa_cons (pv 2) pa_nil)))
    (pss_cons (ps_if (PW.pt (pw_and (q_truth (pv 3)) (pw_and1 (q_notB (pv 5) pe_bl)))) (pss_one (ps_ret pe_bl)) pss_nil)
    (pss_cons (ps_if (PW.pt (pw_and (pt_not (q_truth (pv 3))) (pw_and1 (q_notB (pv 5) pe_bl)))) (pss_one (ps_ret pe_bl)) pss_nil)
    (pss_cons (ps_for PassesOwn.never rfl (pi_range1 (by rfl) T.n_range (pa_cons (pe_callB cz_len (by rfl) T.n_len Z.boot_len (pa_cons (p_ix (pv 1) pe_int) pa_nil)) pa_nil)) (pg_name (i := 6) sc_law_sums_hold.nd rfl (by first | exact Or.inl rfl | exact Or.inr rfl)) (pss_cons (ps_set (i := 7) sc_law_sums_hold.nd rfl (by first | exact Or.inl rfl | exact Or.inr rfl) (pe_callTy cz_tuple (by rfl) T.n_tuple Z.boot_tuple (pa_cons (pe_lc (own := [("_law_row", 4)]) rfl sc_law_sums_hold.nd (pi_seqZ (p_ix (p_ix (p_ix (pv 1) pe_int) (pv 6)) pe_int)) (blkOk_by (by kernel_rfl)) (fun _ _ _ _ _ => (pg_name (i := 4) sc_law_sums_hold.nd rfl (by first | exact Or.inl rfl | exact Or.inr rfl))) (fun _ _ _ _ _ => pts_nil) (fun _ _ _ _ _ => (p_call G_law_value hr (pa_cons (pv 4) (pa_cons (pv 2) pa_nil))))) pa_nil)))
    (pss_one (ps_if (pt_not (q_truth (p_call G_law_same hr (pa_cons (p_meth G_Edge_source_state hr (pv 0) (pa_cons (pv 6) (pa_cons (pv 2) pa_nil))) (pa_cons (pv 7) pa_nil))))) (pss_one (ps_ret pe_bl)) pss_nil))))
    (pss_cons (ps_set (i := 7) sc_law_sums_hold.nd rfl (by first | exact Or.inl rfl | exact Or.inr rfl) (pe_callTy cz_tuple (by rfl) T.n_tuple Z.boot_tuple (pa_cons (pe_lc (own := [("_law_row", 4)]) rfl sc_law_sums_hold.nd (pi_seqZ (p_ix (pv 1) pe_int)) (blkOk_by (by kernel_rfl)) (fun _ _ _ _ _ => (pg_name (i := 4) sc_law_sums_hold.nd rfl (by first | exact Or.inl rfl | exact Or.inr rfl))) (fun _ _ _ _ _ => pts_nil) (fun _ _ _ _ _ => (p_call G_law_value hr (pa_cons (pv 4) (pa_cons (pv 2) pa_nil))))) pa_nil)))
    (pss_one (ps_ret (p_call G_law_same hr (pa_cons (p_meth G_Edge_target_state hr (pv 0) (pa_cons (pv 2) pa_nil)) (pa_cons (pv 7) pa_nil)))))))))))
/-! _law_copies_hold -/
abbrev s_law_copies_hold : Stmt := topS 27
abbrev N_law_copies_hold : List Str := ["_law_purse_here", "_law_edge", "_law_due_here", "_law_near_here", "_law_row", "_law_k", "_law_copied", "_law_wanted", "_law_again", "_law_last"]
theorem sc_law_copies_hold : FnScope N_law_copies_hold ["_law_purse_here", "_law_edge", "_law_due_here", "_law_near_here"] (defScope s_law_copies_hold) := ⟨rfl, rfl, rfl, by decide +kernel, rfl, by decide +kernel, by decide +kernel⟩
def t_law_copies_hold (K : Fg) (Ac : Cs) (S_law_draw : ZSp) (S_law_coefficient : ZSp) (S_law_constant : ZSp) (S_Edge_with_guard : ZSp) (S_Edge_closed : ZSp) (S_law_edge_seen : ZSp) (S_law_same : ZSp) (S_law_sums_hold : ZSp) (S_Edge_guards_hold : ZSp) : TS :=
    (tSeq (tIfS (tTest (tOp (rEqZ K) (tCB (zcall K S_law_draw) (tCons (tVar 0) (tCons (tC (.int 2)) tNil))) (tC (.int 0)))) (tSeq (tAsg (tCB (rTupZ K) (tCons (tOp (rAddZ K) (tLc (iRng1 (tCons (tOp (rIxZ K) (tVar 2) (tC (.int 1))) tNil)) (gName 5) tYes (tCB (zcall K S_law_coefficient) (tCons (tVar 0) tNil)) [5]) (tLst (tCons (tCB (zcall K S_law_constant) (tCons (tVar 0) tNil)) tNil))) tNil)) (gName 4))
    (tAsg (tMth Ac.c_Edge "with_guard" (zcall K S_Edge_with_guard) (tVar 1) (tCons (tVar 4) tNil)) (gName 6))) (tSeq (tAsg (tCB (rTupZ K) (tCons (tOp (rAddZ K) (tOp rMulZ (tLst (tCons (tC (.int 0)) tNil)) (tOp (rIxZ K) (tVar 2) (tC (.int 1)))) (tLst (tCons (tC (.int 1)) tNil))) tNil)) (gName 4))
    (tAsg (tMth Ac.c_Edge "closed" (zcall K S_Edge_closed) (tVar 1) tNil) (gName 6))))
    (tSeq (tAsg (tTup (tCons (tOp (rIxZ K) (tVar 2) (tC (.int 0))) (tCons (tOp (rIxZ K) (tVar 2) (tC (.int 1))) (tCons (tOp (rIxZ K) (tVar 2) (tC (.int 2))) (tCons (tOp (rAddZ K) (tOp (rIxZ K) (tVar 2) (tC (.int 3))) (tTup (tCons (tVar 4) tNil))) (tCons (tOp (rIxZ K) (tVar 2) (tC (.int 4))) (tCons (tOp (rIxZ K) (tVar 2) (tC (.int 5))) tNil))))))) (gName 7))
    (tSeq (tIfS (tOr (tNot (tTruZ K (tCB (zcall K S_law_same) (tCons (tCB (zcall K S_law_edge_seen) (tCons (tVar 6) tNil)) (tCons (tVar 7) tNil))))) (tNot (tTruZ K (tCB (zcall K S_law_sums_hold) (tCons (tVar 6) (tCons (tVar 7) (tCons (tVar 3) tNil))))))) (tRet (tC (.bl false))) tNext)
    (tSeq (tAsg (tMth Ac.c_Edge "closed" (zcall K S_Edge_closed) (tVar 6) tNil) (gName 8))
    (tSeq (tAsg (tTup (tCons (tOp (rIxZ K) (tVar 2) (tC (.int 0))) (tCons (tOp (rIxZ K) (tVar 2) (tC (.int 1))) (tCons (tOp (rIxZ K) (tVar 2) (tC (.int 2))) (tCons (tOp (rAddZ K) (tOp (rIxZ K) (tVar 2) (tC (.int 3))) (tTup (tCons (tVar 4) (tCons (tCB (rTupZ K) (tCons (tOp (rAddZ K) (tOp rMulZ (tLst (tCons (tC (.int 0)) tNil)) (tOp (rIxZ K) (tVar 2) (tC (.int 1)))) (tLst (tCons (tC (.int 1)) tNil))) tNil)) tNil)))) (tCons (tOp (rIxZ K) (tVar 2) (tC (.int 4))) (tCons (tOp (rIxZ K) (tVar 2) (tC (.int 5))) tNil))))))) (gName 9))
    (tSeq (tIfS (tOr (tNot (tTruZ K (tCB (zcall K S_law_same) (tCons (tCB (zcall K S_law_edge_seen) (tCons (tVar 8) tNil)) (tCons (tVar 9) tNil))))) (tTest (tOp rNotB (tMth Ac.c_Edge "guards_hold" (zcall K S_Edge_guards_hold) (tVar 8) (tCons (tVar 3) tNil)) (tC (.bl false))))) (tRet (tC (.bl false))) tNext)
    (tRet (tAndV (tCB (zcall K S_law_same) (tCons (tCB (zcall K S_law_edge_seen) (tCons (tVar 1) tNil)) (tCons (tVar 2) tNil))) (tCB (zcall K S_law_sums_hold) (tCons (tVar 1) (tCons (tVar 2) (tCons (tVar 3) tNil))))))))))))
theorem red_law_copies_hold {Ac : Cs} (T : Txt Ac K mg) (S_law_draw : ZSp) (S_law_coefficient : ZSp) (S_law_constant : ZSp) (S_Edge_with_guard : ZSp) (S_Edge_closed : ZSp) (S_law_edge_seen : ZSp) (S_law_same : ZSp) (S_law_sums_hold : ZSp) (S_Edge_guards_hold : ZSp)
    (G_law_draw : FnZ P w K mg base "_law_draw" 1 S_law_draw)
    (G_law_coefficient : FnZ P w K mg base "_law_coefficient" 2 S_law_coefficient)
    (G_law_constant : FnZ P w K mg base "_law_constant" 2 S_law_constant)
    (G_Edge_with_guard : MtZ P w K mg base Ac.c_Edge "with_guard" 3 S_Edge_with_guard)
    (G_Edge_closed : MtZ P w K mg base Ac.c_Edge "closed" 4 S_Edge_closed)
    (G_law_edge_seen : FnZ P w K mg base "_law_edge_seen" 1 S_law_edge_seen)
    (G_law_same : FnZ P w K mg base "_law_same" 11 S_law_same)
    (G_law_sums_hold : FnZ P w K mg base "_law_sums_hold" 12 S_law_sums_hold)
    (G_Edge_guards_hold : MtZ P w K mg base Ac.c_Edge "guards_hold" 2 S_Edge_guards_hold) (f : Addr) (cdv : Value) (A : Around) (outer : List Env) (s : Shared) (H : Hp) (E : XK) (hr : Room 12 (A.deeper (envOfC "_law_copies_hold" (defScope s_law_copies_hold) s.heap.objs.size f cdv))) :
    PSs (cxOf CX0 P w K mg base N_law_copies_hold "_law_copies_hold" (defScope s_law_copies_hold) f cdv A outer s H E).nox (defBody s_law_copies_hold) (t_law_copies_hold K Ac S_law_draw S_law_coefficient S_law_constant S_Edge_with_guard S_Edge_closed S_law_edge_seen S_law_same S_law_sums_hold S_Edge_guards_hold) :=
    (pss_cons (ps_if (q_eq (Room.units hr) (p_call G_law_draw hr (pa_cons (pv 0) (pa_cons pe_int pa_nil))) pe_int) (pss_cons (ps_set (i := 4) sc_law_copies_hold.nd rfl (by first | exact Or.inl rfl | exact Or.inr rfl) (pe_callTy cz_tuple (by rfl) T.n_tuple Z.boot_tuple (pa_cons (p_add (pe_lc (own := [("_law_k", 5)]) rfl sc_law_copies_hold.nd (pi_range1 (by rfl) T.n_range (pa_cons (p_ix (pv 2) pe_int) pa_nil)) (blkOk_by (by kernel_rfl)) (fun _ _ _ _ _ => (pg_name (i := 5) sc_law_copies_hold.nd rfl (by first | exact Or.inl rfl | exact Or.inr rfl))) (fun _ _ _ _ _ => pts_nil) (fun _ _ _ _ _ => (p_call G_law_coefficient hr (pa_cons (pv 0) pa_nil)))) (pe_lst (pa_cons (p_call G_law_constant hr (pa_cons (pv 0) pa_nil)) pa_nil))) pa_nil)))
    (pss_one (ps_set (i := 6) sc_law_copies_hold.nd rfl (by first | exact Or.inl rfl | exact Or.inr rfl) (p_meth G_Edge_with_guard hr (pv 1) (pa_cons (pv 4) pa_nil))))) (pss_cons (ps_set (i := 4) sc_law_copies_hold.nd rfl (by first | exact Or.inl rfl | exact Or.inr rfl) (pe_callTy cz_tuple (by rfl) T.n_tuple Z.boot_tuple (pa_cons (p_add (p_mul (pe_lst (pa_cons pe_int pa_nil)) (p_ix (pv 2) pe_int)) (pe_lst (pa_cons pe_int pa_nil))) pa_nil)))
    (pss_one (ps_set (i := 6) sc_law_copies_hold.nd rfl (by first | exact Or.inl rfl | exact Or.inr rfl) (p_meth0 G_Edge_closed hr (pv 1))))))
    (pss_cons (ps_set (i := 7) sc_law_copies_hold.nd rfl (by first | exact Or.inl rfl | exact Or.inr rfl) (pe_tup (pa_cons (p_ix (pv 2) pe_int) (pa_cons (p_ix (pv 2) pe_int) (pa_cons (p_ix (pv 2) pe_int) (pa_cons (p_add (p_ix (pv 2) pe_int) (pe_tup (pa_cons (pv 4) pa_nil))) (pa_cons (p_ix (pv 2) pe_int) (pa_cons (p_ix (pv 2) pe_int) pa_nil))))))))
    (pss_cons (ps_if (PW.pt (pw_or (pt_not (q_truth (p_call G_law_same hr (pa_cons (p_call G_law_edge_seen hr (pa_cons (pv 6) pa_nil)) (pa_cons (pv 7) pa_nil))))) (pw_or1 (pt_not (q_truth (p_call G_law_sums_hold hr (pa_cons (pv 6) (pa_cons (pv 7) (pa_cons (pv 3) pa_nil))))))))) (pss_one (ps_ret pe_bl)) pss_nil)
    (pss_cons (ps_set (i := 8) sc_law_copies_hold.nd rfl (by first | exact Or.inl rfl | exact Or.inr rfl) (p_meth0 G_Edge_closed hr (pv 6)))
    (pss_cons (ps_set (i := 9) sc_law_copies_hold.nd rfl (by first | exact Or.inl rfl | exact Or.inr rfl) (pe_tup (pa_cons (p_ix (pv 2) pe_int) (pa_cons (p_ix (pv 2) pe_int) (pa_cons (p_ix (pv 2) pe_int) (pa_cons (p_add (p_ix (pv 2) pe_int) (pe_tup (pa_cons (pv 4) (pa_cons (pe_callTy cz_tuple (by rfl) T.n_tuple Z.boot_tuple (pa_cons (p_add (p_mul (pe_lst (pa_cons pe_int pa_nil)) (p_ix (pv 2) pe_int)) (pe_lst (pa_cons pe_int pa_nil))) pa_nil)) pa_nil)))) (pa_cons (p_ix (pv 2) pe_int) (pa_cons (p_ix (pv 2) pe_int) pa_nil))))))))
    (pss_cons (ps_if (PW.pt (pw_or (pt_not (q_truth (p_call G_law_same hr (pa_cons (p_call G_law_edge_seen hr (pa_cons (pv 8) pa_nil)) (pa_cons (pv 9) pa_nil))))) (pw_or1 (q_notB (p_meth G_Edge_guards_hold hr (pv 8) (pa_cons (pv 3) pa_nil)) pe_bl)))) (pss_one (ps_ret pe_bl)) pss_nil)
    (pss_one (ps_ret (pe_and (p_call G_law_same hr (pa_cons (p_call G_law_edge_seen hr (pa_cons (pv 1) pa_nil)) (pa_cons (pv 2) pa_nil))) (pe_one (p_call G_law_sums_hold hr (pa_cons (pv 1) (pa_cons (pv 2) (pa_cons (pv 3) pa_nil))))))))))))))
/-! law -/
abbrev s_law : Stmt := topS 28
abbrev N_law : List Str := ["_law_script", "_law_purse_here", "_law_made_here", "_law_k", "_law_edge", "_law_due_here", "_law_near_here"]
theorem sc_law : FnScope N_law ["_law_script"] (defScope s_law) := ⟨rfl, rfl, rfl, by decide +kernel, rfl, by decide +kernel, by decide +kernel⟩
def t_law (K : Fg) (Ac : Cs) (S_law_purse : ZSp) (S_law_frame_holds : ZSp) (S_law_same : ZSp) (S_law_draw : ZSp) (S_law_made : ZSp) (S_law_made_plain : ZSp) (S_law_made_start : ZSp) (S_law_edge_seen : ZSp) (S_law_sums_hold : ZSp) (S_law_far : ZSp) (S_law_copies_hold : ZSp) : TS :=
    (tSeq (tAsg (tCB (zcall K S_law_purse) (tCons (tVar 0) tNil)) (gName 1))
    (tSeq (tIfS (tNot (tTruZ K (tCB (zcall K S_law_frame_holds) (tCons (tVar 1) tNil)))) (tRet (tC (.bl false))) tNext)
    (tSeq (tIfS (tNot (tTruZ K (tCB (zcall K S_law_same) (tCons (tTup (tCons (tC (V.int 5)) (tCons (tC (V.int 20)) tNil))) (tCons (tTup (tCons (tC (.int 5)) (tCons (tC (.int 20)) tNil))) tNil))))) (tRet (tC (.bl false))) tNext)
    (tSeq (tAsg (tLst tNil) (gName 2))
    (tSeq (tFor (iRng1 (tCons (tOp (rAddZ K) (tC (.int 1)) (tCB (zcall K S_law_draw) (tCons (tVar 1) (tCons (tC (.int 2)) tNil)))) tNil)) (gName 3) (tSeq (tDrop (tBM K "list" rAppend (tVar 2) (tCons (tCB (zcall K S_law_made) (tCons (tVar 1) tNil)) tNil)))
    (tSeq (tDrop (tBM K "list" rAppend (tVar 2) (tCons (tCB (zcall K S_law_made_plain) (tCons (tVar 1) tNil)) tNil)))
    (tDrop (tBM K "list" rAppend (tVar 2) (tCons (tCB (zcall K S_law_made_start) (tCons (tVar 1) tNil)) tNil))))))
    (tSeq (tFor (iSeqZ K (tVar 2)) (gTup K 3 (gCons (gName 4) (gCons (gName 5) (gCons (gName 6) gNil)))) (tSeq (tIfS (tOr (tNot (tTruZ K (tCB (zcall K S_law_same) (tCons (tCB (zcall K S_law_edge_seen) (tCons (tVar 4) tNil)) (tCons (tVar 5) tNil))))) (tNot (tTruZ K (tCB (rIsiZ K) (tCons (tUn (rFld K "sources") (tVar 4)) (tCons (tC (.ty "tuple")) tNil)))))) (tRet (tC (.bl false))) tNext)
    (tIfS (tNot (tTruZ K (tCB (zcall K S_law_sums_hold) (tCons (tVar 4) (tCons (tVar 5) (tCons (tVar 6) tNil)))))) (tRet (tC (.bl false))) tNext)))
    (tSeq (tFor (iSeqZ K (tVar 2)) (gTup K 3 (gCons (gName 4) (gCons (gName 5) (gCons (gName 6) gNil)))) (tSeq (tIfS (tNot (tTruZ K (tCB (zcall K S_law_sums_hold) (tCons (tVar 4) (tCons (tVar 5) (tCons (tCB (zcall K S_law_far) (tCons (tVar 1) (tCons (tOp (rIxZ K) (tVar 5) (tC (.int 1))) tNil))) tNil)))))) (tRet (tC (.bl false))) tNext)
    (tIfS (tNot (tTruZ K (tCB (zcall K S_law_copies_hold) (tCons (tVar 1) (tCons (tVar 4) (tCons (tVar 5) (tCons (tVar 6) tNil))))))) (tRet (tC (.bl false))) tNext)))
    (tSeq (tFor (iSeqZ K (tVar 2)) (gTup K 3 (gCons (gName 4) (gCons (gName 5) (gCons (gName 6) gNil)))) (tIfS (tOr (tNot (tTruZ K (tCB (zcall K S_law_sums_hold) (tCons (tVar 4) (tCons (tVar 5) (tCons (tVar 6) tNil)))))) (tNot (tTruZ K (tCB (zcall K S_law_same) (tCons (tCB (zcall K S_law_edge_seen) (tCons (tVar 4) tNil)) (tCons (tVar 5) tNil)))))) (tRet (tC (.bl false))) tNext))
    (tRet (tC (.bl true)))))))))))
theorem red_law {Ac : Cs} (T : Txt Ac K mg) (S_law_purse : ZSp) (S_law_frame_holds : ZSp) (S_law_same : ZSp) (S_law_draw : ZSp) (S_law_made : ZSp) (S_law_made_plain : ZSp) (S_law_made_start : ZSp) (S_law_edge_seen : ZSp) (S_law_sums_hold : ZSp) (S_law_far : ZSp) (S_law_copies_hold : ZSp)
    (G_law_purse : FnZ P w K mg base "_law_purse" 1 S_law_purse)
    (G_law_frame_holds : FnZ P w K mg base "_law_frame_holds" 12 S_law_frame_holds)
    (G_law_same : FnZ P w K mg base "_law_same" 11 S_law_same)
    (G_law_draw : FnZ P w K mg base "_law_draw" 1 S_law_draw)
    (G_law_made : FnZ P w K mg base "_law_made" 5 S_law_made)
    (G_law_made_plain : FnZ P w K mg base "_law_made_plain" 4 S_law_made_plain)
    (G_law_made_start : FnZ P w K mg base "_law_made_start" 4 S_law_made_start)
    (G_law_edge_seen : FnZ P w K mg base "_law_edge_seen" 1 S_law_edge_seen)
    (G_law_sums_hold : FnZ P w K mg base "_law_sums_hold" 12 S_law_sums_hold)
    (G_law_far : FnZ P w K mg base "_law_far" 2 S_law_far)
    (G_law_copies_hold : FnZ P w K mg base "_law_copies_hold" 13 S_law_copies_hold) (f : Addr) (cdv : Value) (A : Around) (outer : List Env) (s : Shared) (H : Hp) (E : XK) (hr : Room 13 (A.deeper (envOfC "law" (defScope s_law) s.heap.objs.size f cdv))) :
    PSs (cxOf CX0 P w K mg base N_law "law" (defScope s_law) f cdv A outer s H E).nox (defBody s_law) (t_law K Ac S_law_purse S_law_frame_holds S_law_same S_law_draw S_law_made S_law_made_plain S_law_made_start S_law_edge_seen S_law_sums_hold S_law_far S_law_copies_hold) :=
    (pss_cons (ps_set (i := 1) sc_law.nd rfl (by first | exact Or.inl rfl | exact Or.inr rfl) (p_call G_law_purse hr (pa_cons (pv 0) pa_nil)))
    (pss_cons (ps_if (pt_not (q_truth (p_call G_law_frame_holds hr (pa_cons (pv 1) pa_nil)))) (pss_one (ps_ret pe_bl)) pss_nil)
    (pss_cons (ps_if (pt_not (q_truth (p_call G_law_same hr (pa_cons (pe_tup (pa_cons (p_ccon T.cc_Edge_MOST_UNKNOWNS) (pa_cons (p_ccon T.cc_Edge_MOST_CONSTRAINTS) pa_nil))) (pa_cons (pe_tup (pa_cons pe_int (pa_cons pe_int pa_nil))) pa_nil))))) (pss_one (ps_ret pe_bl)) pss_nil)
    (pss_cons (ps_set (i := 2) sc_law.nd rfl (by first | exact Or.inl rfl | exact Or.inr rfl) (pe_lst pa_nil))
    (pss_cons (ps_for PassesOwn.never rfl (pi_range1 (by rfl) T.n_range (pa_cons (p_add pe_int (p_call G_law_draw hr (pa_cons (pv 1) (pa_cons pe_int pa_nil)))) pa_nil)) (pg_name (i := 3) sc_law.nd rfl (by first | exact Or.inl rfl | exact Or.inr rfl)) (pss_cons (ps_expr (pe_bm PySem.F.plainAttrs_list PySem.F.slot_list_append PySem.F.type_list_append mt_append (pv 2) (pa_cons (p_call G_law_made hr (pa_cons (pv 1) pa_nil)) pa_nil)))
    (pss_cons (ps_expr (pe_bm PySem.F.plainAttrs_list PySem.F.slot_list_append PySem.F.type_list_append mt_append (pv 2) (pa_cons (p_call G_law_made_plain hr (pa_cons (pv 1) pa_nil)) pa_nil)))
    (pss_one (ps_expr (pe_bm PySem.F.plainAttrs_list PySem.F.slot_list_append PySem.F.type_list_append mt_append (pv 2) (pa_cons (p_call G_law_made_start hr (pa_cons (pv 1) pa_nil)) pa_nil)))))))
    (pss_cons (ps_for PassesOwn.never rfl (pi_seqZ (pv 2)) (pg_tup rfl (pgs_cons (pg_name (i := 4) sc_law.nd rfl (by first | exact Or.inl rfl | exact Or.inr rfl)) (pgs_cons (pg_name (i := 5) sc_law.nd rfl (by first | exact Or.inl rfl | exact Or.inr rfl)) (pgs_cons (pg_name (i := 6) sc_law.nd rfl (by first | exact Or.inl rfl | exact Or.inr rfl)) pgs_nil)))) (pss_cons (ps_if (PW.pt (pw_or (pt_not (q_truth (p_call G_law_same hr (pa_cons (p_call G_law_edge_seen hr (pa_cons (pv 4) pa_nil)) (pa_cons (pv 5) pa_nil))))) (pw_or1 (pt_not (q_truth (pe_callB cz_isi (by rfl) T.n_isinstance Z.boot_isinstance (pa_cons (p_fld (pv 4)) (pa_cons (pe_bltn (by rfl) T.n_tuple Z.boot_tuple rfl) pa_nil)))))))) (pss_one (ps_ret pe_bl)) pss_nil)
    (pss_one (ps_if (pt_not (q_truth (p_call G_law_sums_hold hr (pa_cons (pv 4) (pa_cons (pv 5) (pa_cons (pv 6) pa_nil)))))) (pss_one (ps_ret pe_bl)) pss_nil))))
    (pss_cons (ps_for PassesOwn.never rfl (pi_seqZ (pv 2)) (pg_tup rfl (pgs_cons (pg_name (i := 4) sc_law.nd rfl (by first | exact Or.inl rfl | exact Or.inr rfl)) (pgs_cons (pg_name (i := 5) sc_law.nd rfl (by first | exact Or.inl rfl | exact Or.inr rfl)) (pgs_cons (pg_name (i := 6) sc_law.nd rfl (by first | exact Or.inl rfl | exact Or.inr rfl)) pgs_nil)))) (pss_cons (ps_if (pt_not (q_truth (p_call G_law_sums_hold hr (pa_cons (pv 4) (pa_cons (pv 5) (pa_cons (p_call G_law_far hr (pa_cons (pv 1) (pa_cons (p_ix (pv 5) pe_int) pa_nil))) pa_nil)))))) (pss_one (ps_ret pe_bl)) pss_nil)
    (pss_one (ps_if (pt_not (q_truth (p_call G_law_copies_hold hr (pa_cons (pv 1) (pa_cons (pv 4) (pa_cons (pv 5) (pa_cons (pv 6) pa_nil))))))) (pss_one (ps_ret pe_bl)) pss_nil))))
    (pss_cons (ps_for PassesOwn.never rfl (pi_seqZ (pv 2)) (pg_tup rfl (pgs_cons (pg_name (i := 4) sc_law.nd rfl (by first | exact Or.inl rfl | exact Or.inr rfl)) (pgs_cons (pg_name (i := 5) sc_law.nd rfl (by first | exact Or.inl rfl | exact Or.inr rfl)) (pgs_cons (pg_name (i := 6) sc_law.nd rfl (by first | exact Or.inl rfl | exact Or.inr rfl)) pgs_nil)))) (pss_one (ps_if (PW.pt (pw_or (pt_not (q_truth (p_call G_law_sums_hold hr (pa_cons (pv 4) (pa_cons (pv 5) (pa_cons (pv 6) pa_nil)))))) (pw_or1 (pt_not (q_truth (p_call G_law_same hr (pa_cons (p_call G_law_edge_seen hr (pa_cons (pv 4) pa_nil)) (pa_cons (pv 5) pa_nil)))))))) (pss_one (ps_ret pe_bl)) pss_nil)))
    (pss_one (ps_ret pe_bl))))))))))
end
end Qk12
set_option Elab.async false
set_option linter.all false
set_option maxRecDepth 100000
set_option maxHeartbeats 4000000
/-! Printed by mir.py: the mirrors. -/
namespace Qk12
open PySem Z L2
noncomputable section
def m_affine_value (Ac : Cs) (row : D) (integers : D) : Option (D) :=
((dIx row (D.int (-1))).bind fun value =>
((itZip row integers).bind fun ds =>
((foldO (S := D) (fun value_2 d =>
(bp (un2 d) fun coefficient number =>
((dMul coefficient number).bind fun z =>
((dAdd value_2 z).bind fun value_4 =>
some value_4)))) ds value).bind fun value_3 =>
some value_3)))
def m_unit_row (Ac : Cs) (unknown : D) (unknowns : D) : Option (D) :=
((dRepT (D.tup [(D.int 0)]) unknown).bind fun z =>
((dAdd z (D.tup [(D.int 1)])).bind fun z_1 =>
((dSub unknowns unknown).bind fun z_2 =>
((dRepT (D.tup [(D.int 0)]) z_2).bind fun z_3 =>
((dAdd z_1 z_3).bind fun r =>
some r)))))
def m_Frame_init (Ac : Cs) (self : List (Str × D)) (name : D) (variables : D) (forms : D) : Option (List (Str × D)) :=
((dPut self "name" name).bind fun self_1 =>
((dTuple variables).bind fun variables_1 =>
((dPut self_1 "variables" variables_1).bind fun self_2 =>
((dTuple forms).bind fun forms_1 =>
((dPut self_2 "forms" forms_1).bind fun self_3 =>
some self_3)))))
def m_Edge_init (Ac : Cs) (self : List (Str × D)) (target : D) (unknowns : D) (sources : D) (guards : D) (effect : D) (label : D) : Option (List (Str × D)) :=
((dPut self "target" target).bind fun self_1 =>
((dPut self_1 "unknowns" unknowns).bind fun self_2 =>
((dTuple sources).bind fun sources_1 =>
((dPut self_2 "sources" sources_1).bind fun self_3 =>
((dTuple guards).bind fun guards_1 =>
((dPut self_3 "guards" guards_1).bind fun self_4 =>
((dTuple effect).bind fun effect_1 =>
((dPut self_4 "effect" effect_1).bind fun self_5 =>
((dPut self_5 "label" label).bind fun self_6 =>
some self_6)))))))))
def m_Edge_plain (Ac : Cs) (source : D) (target : D) (size : D) (fresh : D) (guards : D) (effect : D) (label : D) : Option (D) :=
((dAdd size fresh).bind fun unknowns =>
((itRng1 size).bind fun ds =>
((lcO (fun d =>
((m_unit_row Ac d unknowns).bind fun z =>
some z)) ds).bind fun ys =>
((dTuple (D.lst ys)).bind fun rows =>
(((if (isNon effect) then
some rows
else
some effect) : Option (D)).bind fun effect_2 =>
((m_Edge_init Ac [] target unknowns (D.tup [(D.tup [source, rows])]) guards effect_2 label).bind fun fs =>
some (D.obj Ac.c_Edge fs)))))))
def m_Edge_start (Ac : Cs) (target : D) (fresh : D) (guards : D) (effect : D) : Option (D) :=
((m_Edge_init Ac [] target fresh (D.tup []) guards effect (D.str "start")).bind fun fs =>
some (D.obj Ac.c_Edge fs))
def m_Edge_with_guard (Ac : Cs) (self : D) (row : D) : Option (D) :=
((dFld [Ac.c_Edge] "target" self).bind fun target =>
((dFld [Ac.c_Edge] "unknowns" self).bind fun unknowns =>
((dFld [Ac.c_Edge] "sources" self).bind fun sources =>
((dFld [Ac.c_Edge] "guards" self).bind fun guards =>
((dAdd guards (D.tup [row])).bind fun z =>
((dFld [Ac.c_Edge] "effect" self).bind fun effect =>
((dFld [Ac.c_Edge] "label" self).bind fun label =>
((m_Edge_init Ac [] target unknowns sources z effect label).bind fun fs =>
some (D.obj Ac.c_Edge fs)))))))))
def m_Edge_closed (Ac : Cs) (self : D) : Option (D) :=
((dMth Ac.c_Edge "with_guard" self).bind fun u =>
((dFld [Ac.c_Edge] "unknowns" self).bind fun unknowns =>
((dRepT (D.tup [(D.int 0)]) unknowns).bind fun z =>
((dAdd z (D.tup [(D.int 1)])).bind fun z_1 =>
((m_Edge_with_guard Ac self z_1).bind fun r =>
some r)))))
def m_Edge_guards_hold (Ac : Cs) (self : D) (values : D) : Option (D) :=
((dFld [Ac.c_Edge] "guards" self).bind fun guards =>
((itStr guards).bind fun ds =>
(Fl.fin (forL (S := Unit) (R := D) (fun _ d =>
((m_affine_value Ac d values).bind fun z =>
((bGt z (D.int 0)).bind fun b =>
(if b then
some (.rt (D.bl false))
else
some (.nx ()))))) ds ()) fun _ =>
some (D.bl true))))
def m_Edge_source_state (Ac : Cs) (self : D) (position : D) (values : D) : Option (D) :=
((dFld [Ac.c_Edge] "sources" self).bind fun sources =>
((dIx sources position).bind fun z =>
((dIx z (D.int 1)).bind fun rows =>
((itStr rows).bind fun ds =>
((lcO (fun d =>
((m_affine_value Ac d values).bind fun z_1 =>
some z_1)) ds).bind fun ys =>
((dTuple (D.lst ys)).bind fun r =>
some r))))))
def m_Edge_target_state (Ac : Cs) (self : D) (values : D) : Option (D) :=
((dFld [Ac.c_Edge] "effect" self).bind fun effect =>
((itStr effect).bind fun ds =>
((lcO (fun d =>
((m_affine_value Ac d values).bind fun z =>
some z)) ds).bind fun ys =>
((dTuple (D.lst ys)).bind fun r =>
some r))))
def m_law_purse (Ac : Cs) (script : D) : Option (List D) :=
((dPart (D.int 63)).bind fun o =>
((dSlice script none o).bind fun z =>
((dLen z).bind fun z_1 =>
((dAdd (D.int 1) z_1).bind fun z_2 =>
((dPart (D.int 63)).bind fun o_1 =>
((dSlice script none o_1).bind fun z_3 =>
((itStr z_3).bind fun ds =>
((lcO (fun d =>
((dInt d).bind fun z_4 =>
((dAbs z_4).bind fun z_5 =>
some z_5))) ds).bind fun ys =>
((dExt [(D.int 0), z_2, (D.int 0)] (D.lst ys)).bind fun ds_1 =>
some ds_1)))))))))
def m_law_draw (Ac : Cs) (purse : List D) (size : D) : Option (D × List D) :=
((((dIx (D.lst purse) (D.int 0)).bind fun z =>
((bEq z (D.int 0)).bind fun b =>
((if b then ((dLen (D.lst purse)).bind fun z_1 =>
((bGt z_1 (D.int 3)).bind fun b_1 =>
some b_1)) else some false).bind fun b_2 =>
(if b_2 then
(bp (dPopAt purse (D.int 3)) fun cell purse_2 =>
((bGe cell (D.int 1000000000000000000)).bind fun b_3 =>
(if b_3 then
((dSet purse_2 (D.int 0) cell).bind fun purse_3 =>
some purse_3)
else
((dIx (D.lst purse_2) (D.int 1)).bind fun z_2 =>
((dMul z_2 (D.int 40014)).bind fun z_3 =>
((dMul cell (D.int 48271)).bind fun z_4 =>
((dAdd z_3 z_4).bind fun z_5 =>
((dAdd z_5 (D.int 7)).bind fun z_6 =>
((dInt z_6).bind fun z_7 =>
((dMod z_7 (D.int 2147483563)).bind fun z_8 =>
((dSet purse_2 (D.int 1) z_8).bind fun purse_4 =>
some purse_4)))))))))))
else
some purse)))) : Option (List D)).bind fun purse_5 =>
((dIx (D.lst purse_5) (D.int 2)).bind fun z_9 =>
((dAdd z_9 (D.int 1)).bind fun z_10 =>
((dSet purse_5 (D.int 2) z_10).bind fun purse_6 =>
((dIx (D.lst purse_6) (D.int 0)).bind fun z_11 =>
((bGt z_11 (D.int 0)).bind fun b_4 =>
(if b_4 then
((dIx (D.lst purse_6) (D.int 0)).bind fun z_12 =>
((dInt z_12).bind fun z_13 =>
((dMod z_13 size).bind fun digit =>
((dIx (D.lst purse_6) (D.int 0)).bind fun z_14 =>
((dDiv z_14 size).bind fun z_15 =>
((dSet purse_6 (D.int 0) z_15).bind fun purse_7 =>
some (digit, purse_7)))))))
else
((dIx (D.lst purse_6) (D.int 1)).bind fun z_16 =>
((dMul z_16 (D.int 48271)).bind fun z_17 =>
((dIx (D.lst purse_6) (D.int 2)).bind fun z_18 =>
((dMul z_18 (D.int 69621)).bind fun z_19 =>
((dAdd z_17 z_19).bind fun z_20 =>
((dInt z_20).bind fun z_21 =>
((dMod z_21 (D.int 2147483647)).bind fun mixed =>
((dMul mixed mixed).bind fun z_22 =>
((dIx (D.lst purse_6) (D.int 1)).bind fun z_23 =>
((dMul z_23 (D.int 16807)).bind fun z_24 =>
((dAdd z_22 z_24).bind fun z_25 =>
((dIx (D.lst purse_6) (D.int 2)).bind fun z_26 =>
((dMul z_26 (D.int 40692)).bind fun z_27 =>
((dAdd z_25 z_27).bind fun z_28 =>
((dInt z_28).bind fun z_29 =>
((dMod z_29 (D.int 2147483399)).bind fun mixed_1 =>
((dDiv mixed_1 (D.int 11)).bind fun z_30 =>
((dMod z_30 size).bind fun r =>
some (r, purse_6))))))))))))))))))))))))))
def m_law_coefficient (Ac : Cs) (purse : List D) : Option (D × List D) :=
(bp (m_law_draw Ac purse (D.int 6)) fun way purse_1 =>
((bEq way (D.int 0)).bind fun b =>
(if b then
(bp (m_law_draw Ac purse_1 (D.int 2001)) fun z purse_2 =>
((dSub z (D.int 1000)).bind fun r =>
some (r, purse_2)))
else
((bEq way (D.int 1)).bind fun b_1 =>
(if b_1 then
some ((D.int 0), purse_1)
else
(bp (m_law_draw Ac purse_1 (D.int 7)) fun z_1 purse_3 =>
((dSub z_1 (D.int 3)).bind fun r_1 =>
some (r_1, purse_3))))))))
def m_law_constant (Ac : Cs) (purse : List D) : Option (D × List D) :=
(bp (m_law_draw Ac purse (D.int 4)) fun z purse_1 =>
((bEq z (D.int 0)).bind fun b =>
(if b then
(bp (m_law_draw Ac purse_1 (D.int 2000001)) fun z_1 purse_2 =>
((dSub z_1 (D.int 1000000)).bind fun r =>
some (r, purse_2)))
else
(bp (m_law_draw Ac purse_1 (D.int 13)) fun z_2 purse_3 =>
((dSub z_2 (D.int 6)).bind fun r_1 =>
some (r_1, purse_3))))))
def m_law_rows (Ac : Cs) (purse : List D) (count : D) (many : D) : Option (D × List D) :=
((itRng1 count).bind fun ds_1 =>
((foldO (S := List D × List D) (fun (rows_1, purse_2) d =>
((itRng1 many).bind fun ds =>
(bp (lcS (S := List D) (fun purse_4 d_1 =>
(bp (m_law_coefficient Ac purse_4) fun z purse_6 =>
some (z, purse_6))) ds purse_2) fun row purse_7 =>
(bp (m_law_constant Ac purse_7) fun z_1 purse_8 =>
((dAdd (D.lst row) (D.lst [z_1])).bind fun z_2 =>
((dTuple z_2).bind fun z_3 =>
((dApp rows_1 z_3).bind fun rows_3 =>
some (rows_3, purse_8)))))))) ds_1 ([], purse)).bind fun (rows_2, purse_3) =>
((dTuple (D.lst rows_2)).bind fun r =>
some (r, purse_3))))
def m_law_near (Ac : Cs) (purse : List D) (many : D) : Option (D × List D) :=
((itRng1 many).bind fun ds =>
(bp (lcS (S := List D) (fun purse_1 d =>
(bp (m_law_draw Ac purse_1 (D.int 19)) fun z purse_3 =>
((dSub z (D.int 9)).bind fun z_1 =>
some (z_1, purse_3)))) ds purse) fun ys purse_4 =>
((dTuple (D.lst ys)).bind fun r =>
some (r, purse_4))))
def m_law_far (Ac : Cs) (purse : List D) (many : D) : Option (D × List D) :=
((itRng1 many).bind fun ds =>
((foldO (S := List D × List D) (fun (values_1, purse_2) d =>
(bp (m_law_draw Ac purse_2 (D.int 2000001)) fun z purse_4 =>
((dSub z (D.int 1000000)).bind fun great =>
((dMul great (D.int 1000000)).bind fun z_1 =>
(bp (m_law_draw Ac purse_4 (D.int 1000000)) fun z_2 purse_5 =>
((dAdd z_1 z_2).bind fun z_3 =>
((dApp values_1 z_3).bind fun values_3 =>
some (values_3, purse_5)))))))) ds ([], purse)).bind fun (values_2, purse_3) =>
((dTuple (D.lst values_2)).bind fun r =>
some (r, purse_3))))
def m_law_checks (Ac : Cs) (purse : List D) (near : D) : Option (D × List D) :=
(bp (m_law_draw Ac purse (D.int 5)) fun z_12 purse_13 =>
((itRng1 z_12).bind fun ds_2 =>
((foldO (S := List D × List D) (fun (checks_1, purse_2) d =>
((dLen near).bind fun z =>
((itRng1 z).bind fun ds =>
(bp (lcS (S := List D) (fun purse_4 d_1 =>
(bp (m_law_coefficient Ac purse_4) fun z_1 purse_6 =>
some (z_1, purse_6))) ds purse_2) fun row purse_7 =>
(bp (m_law_constant Ac purse_7) fun constant purse_8 =>
(((bp (m_law_draw Ac purse_8 (D.int 2)) fun z_2 purse_10 =>
((bEq z_2 (D.int 0)).bind fun b =>
(if b then
(bp (m_law_draw Ac purse_10 (D.int 3)) fun z_3 purse_11 =>
((dSub z_3 (D.int 1)).bind fun z_4 =>
((dLen near).bind fun z_5 =>
((itRng1 z_5).bind fun ds_1 =>
((lcO (fun d_2 =>
((dIx (D.lst row) d_2).bind fun z_6 =>
((dIx near d_2).bind fun z_7 =>
((dMul z_6 z_7).bind fun z_8 =>
some z_8)))) ds_1).bind fun ys =>
((dSum (D.lst ys)).bind fun z_9 =>
((dSub z_4 z_9).bind fun constant_2 =>
some (constant_2, purse_11))))))))
else
some (constant, purse_10)))) : Option (D × List D)).bind fun (constant_3, purse_12) =>
((dAdd (D.lst row) (D.lst [constant_3])).bind fun z_10 =>
((dTuple z_10).bind fun z_11 =>
((dApp checks_1 z_11).bind fun checks_3 =>
some (checks_3, purse_12)))))))))) ds_2 ([], purse_13)).bind fun (checks_2, purse_3) =>
((dTuple (D.lst checks_2)).bind fun r =>
some (r, purse_3)))))
def m_law_word (Ac : Cs) (purse : List D) : Option (D × List D) :=
(bp (m_law_draw Ac purse (D.int 4)) fun z_2 purse_5 =>
((dAdd (D.int 1) z_2).bind fun z_3 =>
((itRng1 z_3).bind fun ds =>
((foldO (S := D × List D) (fun (word_1, purse_2) d =>
(bp (m_law_draw Ac purse_2 (D.int 26)) fun z purse_4 =>
((dIx (D.str "abcdefghijklmnopqrstuvwxyz") z).bind fun z_1 =>
((dAdd word_1 z_1).bind fun word_3 =>
some (word_3, purse_4))))) ds ((D.str ""), purse_5)).bind fun (word_2, purse_3) =>
some (word_2, purse_3)))))
def m_law_value (Ac : Cs) (row : D) (values : D) : Option (D) :=
((dLen values).bind fun z =>
((itRng1 z).bind fun ds =>
((lcO (fun d =>
((dIx row d).bind fun z_1 =>
((dIx values d).bind fun z_2 =>
((dMul z_1 z_2).bind fun z_3 =>
some z_3)))) ds).bind fun ys =>
((dSum (D.lst ys)).bind fun z_4 =>
((dLen values).bind fun z_5 =>
((dIx row z_5).bind fun z_6 =>
((dAdd z_4 z_6).bind fun r =>
some r)))))))
def mS_law_same (Ac : Cs) (rec_ : D → D → Option (D)) (told : D) (due : D) : Option (D) :=
((bIsi due "tuple").bind fun b =>
((if b then some true else ((bIsi due "list").bind fun b_1 =>
some b_1)).bind fun b_2 =>
(if b_2 then
((bIsi due "tuple").bind fun b_3 =>
((if b_3 then ((bIsi told "tuple").bind fun b_4 =>
some (!b_4)) else some false).bind fun b_5 =>
(if b_5 then
some (D.bl false)
else
((bIsi due "list").bind fun b_6 =>
((if b_6 then ((bIsi told "list").bind fun b_7 =>
some (!b_7)) else some false).bind fun b_8 =>
(if b_8 then
some (D.bl false)
else
((dLen told).bind fun z =>
((dLen due).bind fun z_1 =>
((bNe z z_1).bind fun b_9 =>
(if b_9 then
some (D.bl false)
else
((dLen due).bind fun z_2 =>
((itRng1 z_2).bind fun ds =>
((lcO (fun d =>
((dIx told d).bind fun z_3 =>
((dIx due d).bind fun z_4 =>
((rec_ z_3 z_4).bind fun z_5 =>
some z_5)))) ds).bind fun ys =>
((dAll (D.lst ys)).bind fun r =>
some r))))))))))))))
else
((bIsi due "str").bind fun b_10 =>
(if b_10 then
((bIsi told "str").bind fun b_11 =>
((if b_11 then ((bEq told due).bind fun b_12 =>
some (D.bl b_12)) else some (D.bl false)).bind fun v =>
some v))
else
((bIsi told "int").bind fun b_13 =>
((if b_13 then ((bIsi told "bool").bind fun b_14 =>
((if (!b_14) then ((bEq told due).bind fun b_15 =>
some (D.bl b_15)) else some (D.bl false)).bind fun v_1 =>
some v_1)) else some (D.bl false)).bind fun v_2 =>
some v_2)))))))
def m_law_same (Ac : Cs) : Nat → D → D → Option (D)
  | 0, _, _ => none
  | n_ + 1, told, due => mS_law_same Ac (m_law_same Ac n_) told due
def m_law_edge_seen (Ac : Cs) (edge : D) : Option (D) :=
((dFld [Ac.c_Edge] "sources" edge).bind fun sources =>
((itStr sources).bind fun ds =>
((lcO (fun d =>
((dIx d (D.int 0)).bind fun z =>
((dIx d (D.int 1)).bind fun z_1 =>
((dList z_1).bind fun z_2 =>
some (D.tup [z, z_2]))))) ds).bind fun pairs =>
((dFld [Ac.c_Edge] "target" edge).bind fun target =>
((dFld [Ac.c_Edge] "unknowns" edge).bind fun unknowns =>
((dFld [Ac.c_Edge] "guards" edge).bind fun guards =>
((dFld [Ac.c_Edge] "effect" edge).bind fun effect =>
((dFld [Ac.c_Edge] "label" edge).bind fun label =>
some (D.tup [target, unknowns, (D.lst pairs), guards, effect, label])))))))))
def m_law_units (Ac : Cs) (size : D) (many : D) : Option (D) :=
((itRng1 size).bind fun ds =>
((lcO (fun d =>
((dAdd many (D.int 1)).bind fun z =>
((itRng1 z).bind fun ds_1 =>
((lcO (fun d_1 =>
((bEq d_1 d).bind fun b =>
((dInt (D.bl b)).bind fun z_1 =>
some z_1))) ds_1).bind fun ys_1 =>
((dTuple (D.lst ys_1)).bind fun z_2 =>
some z_2))))) ds).bind fun ys =>
((dTuple (D.lst ys)).bind fun r =>
some r)))
def m_law_frame_holds (Ac : Cs) (purse : List D) : Option (D × List D) :=
(bp (m_law_word Ac purse) fun word purse_1 =>
(bp (m_law_draw Ac purse_1 (D.int 4)) fun z purse_2 =>
((dAdd (D.int 1) z).bind fun many =>
((itRng1 many).bind fun ds =>
(bp (lcS (S := List D) (fun purse_3 d =>
(bp (m_law_word Ac purse_3) fun z_1 purse_5 =>
((dStr d).bind fun z_2 =>
((dAdd z_1 z_2).bind fun z_3 =>
some (z_3, purse_5))))) ds purse_2) fun ys purse_6 =>
((dTuple (D.lst ys)).bind fun names =>
(bp (m_law_draw Ac purse_6 (D.int 4)) fun z_9 purse_14 =>
((dAdd (D.int 1) z_9).bind fun z_10 =>
((itRng1 z_10).bind fun ds_2 =>
((foldO (S := List D × List D) (fun (shapes_1, purse_8) d_1 =>
((itRng1 many).bind fun ds_1 =>
(bp (lcS (S := List D) (fun purse_10 d_2 =>
(bp (m_law_coefficient Ac purse_10) fun z_4 purse_12 =>
some (z_4, purse_12))) ds_1 purse_8) fun ys_1 purse_13 =>
((dTuple (D.lst ys_1)).bind fun z_5 =>
((dApp shapes_1 z_5).bind fun shapes_3 =>
some (shapes_3, purse_13)))))) ds_2 ([], purse_14)).bind fun (shapes_2, purse_9) =>
((dTuple (D.lst shapes_2)).bind fun z_6 =>
((m_Frame_init Ac [] word names z_6).bind fun fs =>
((m_Frame_init Ac [] (D.str "other") (D.tup [(D.str "x")]) (D.tup [(D.tup [(D.int 1)])])).bind fun fs_1 =>
((dFld [Ac.c_Frame] "name" (D.obj Ac.c_Frame fs)).bind fun name =>
((dFld [Ac.c_Frame] "variables" (D.obj Ac.c_Frame fs)).bind fun variables =>
((dFld [Ac.c_Frame] "forms" (D.obj Ac.c_Frame fs)).bind fun forms =>
((dTuple (D.lst shapes_2)).bind fun z_7 =>
((m_law_same Ac 10 (D.tup [name, variables, forms]) (D.tup [word, names, z_7])).bind fun z_8 =>
((bTru z_8).bind fun b =>
(if (!b) then
some ((D.bl false), purse_9)
else
((dFld [Ac.c_Frame] "name" (D.obj Ac.c_Frame fs_1)).bind fun name_1 =>
((dFld [Ac.c_Frame] "variables" (D.obj Ac.c_Frame fs_1)).bind fun variables_1 =>
((dFld [Ac.c_Frame] "forms" (D.obj Ac.c_Frame fs_1)).bind fun forms_1 =>
((m_law_same Ac 10 (D.tup [name_1, variables_1, forms_1]) (D.tup [(D.str "other"), (D.tup [(D.str "x")]), (D.tup [(D.tup [(D.int 1)])])])).bind fun r =>
some (r, purse_9)))))))))))))))))))))))))
def m_law_pairs (Ac : Cs) (purse : List D) (many : D) : Option (D × List D) :=
(bp (m_law_draw Ac purse (D.int 3)) fun z_3 purse_7 =>
((itRng1 z_3).bind fun ds =>
((foldO (S := List D × List D) (fun (pairs_1, purse_2) d =>
(bp (m_law_draw Ac purse_2 (D.int 10)) fun seat purse_4 =>
(bp (m_law_draw Ac purse_4 (D.int 3)) fun z purse_5 =>
((dAdd (D.int 1) z).bind fun z_1 =>
(bp (m_law_rows Ac purse_5 z_1 many) fun z_2 purse_6 =>
((dApp pairs_1 (D.tup [seat, z_2])).bind fun pairs_3 =>
some (pairs_3, purse_6))))))) ds ([], purse_7)).bind fun (pairs_2, purse_3) =>
((dTuple (D.lst pairs_2)).bind fun r =>
some (r, purse_3)))))
def m_law_due (Ac : Cs) (aim : D) (many : D) (pairs : D) (checks : D) (rows : D) (word : D) : Option (D) :=
((itStr pairs).bind fun ds =>
((lcO (fun d =>
((dIx d (D.int 0)).bind fun z =>
((dIx d (D.int 1)).bind fun z_1 =>
((dList z_1).bind fun z_2 =>
some (D.tup [z, z_2]))))) ds).bind fun ys =>
some (D.tup [aim, many, (D.lst ys), checks, rows, word])))
def m_law_made (Ac : Cs) (purse : List D) : Option (D × List D) :=
(bp (m_law_draw Ac purse (D.int 7)) fun way purse_1 =>
(bp (m_law_draw Ac purse_1 (D.int 6)) fun z purse_2 =>
(bp (m_law_near Ac purse_2 z) fun near purse_3 =>
((dLen near).bind fun many =>
(bp (m_law_draw Ac purse_3 (D.int 10)) fun aim purse_4 =>
(bp (m_law_pairs Ac purse_4 many) fun pairs purse_5 =>
(bp (m_law_checks Ac purse_5 near) fun checks purse_6 =>
(bp (m_law_draw Ac purse_6 (D.int 4)) fun z_1 purse_7 =>
(bp (m_law_rows Ac purse_7 z_1 many) fun rows purse_8 =>
(bp (m_law_word Ac purse_8) fun word purse_9 =>
((bEq way (D.int 0)).bind fun b =>
(if b then
((m_Edge_init Ac [] aim many (D.tup []) (D.tup []) (D.tup []) (D.str "plain")).bind fun fs =>
((m_law_due Ac aim many (D.tup []) (D.tup []) (D.tup []) (D.str "plain")).bind fun z_2 =>
some ((D.tup [(D.obj Ac.c_Edge fs), z_2, near]), purse_9)))
else
((bEq way (D.int 1)).bind fun b_1 =>
(if b_1 then
((m_Edge_init Ac [] aim many pairs checks rows word).bind fun fs_1 =>
((m_law_due Ac aim many pairs checks rows word).bind fun z_3 =>
some ((D.tup [(D.obj Ac.c_Edge fs_1), z_3, near]), purse_9)))
else
((bEq way (D.int 2)).bind fun b_2 =>
(if b_2 then
((m_Edge_init Ac [] aim many pairs (D.tup []) rows (D.str "plain")).bind fun fs_2 =>
((m_law_due Ac aim many pairs (D.tup []) rows (D.str "plain")).bind fun z_4 =>
some ((D.tup [(D.obj Ac.c_Edge fs_2), z_4, near]), purse_9)))
else
((bEq way (D.int 3)).bind fun b_3 =>
(if b_3 then
((m_Edge_init Ac [] aim many (D.tup []) checks (D.tup []) (D.str "plain")).bind fun fs_3 =>
((m_law_due Ac aim many (D.tup []) checks (D.tup []) (D.str "plain")).bind fun z_5 =>
some ((D.tup [(D.obj Ac.c_Edge fs_3), z_5, near]), purse_9)))
else
((bEq way (D.int 4)).bind fun b_4 =>
(if b_4 then
((m_Edge_init Ac [] aim many pairs (D.tup []) (D.tup []) word).bind fun fs_4 =>
((m_law_due Ac aim many pairs (D.tup []) (D.tup []) word).bind fun z_6 =>
some ((D.tup [(D.obj Ac.c_Edge fs_4), z_6, near]), purse_9)))
else
((bEq way (D.int 5)).bind fun b_5 =>
(if b_5 then
((m_Edge_init Ac [] aim many (D.tup []) (D.tup []) rows word).bind fun fs_5 =>
((m_law_due Ac aim many (D.tup []) (D.tup []) rows word).bind fun z_7 =>
some ((D.tup [(D.obj Ac.c_Edge fs_5), z_7, near]), purse_9)))
else
((m_Edge_init Ac [] aim many pairs checks rows word).bind fun fs_6 =>
((m_law_due Ac aim many pairs checks rows word).bind fun z_8 =>
some ((D.tup [(D.obj Ac.c_Edge fs_6), z_8, near]), purse_9)))))))))))))))))))))))))
def m_law_made_plain (Ac : Cs) (purse : List D) : Option (D × List D) :=
(bp (m_law_draw Ac purse (D.int 7)) fun way purse_1 =>
(bp (m_law_draw Ac purse_1 (D.int 3)) fun z purse_2 =>
((dAdd (D.int 1) z).bind fun size =>
(bp (m_law_draw Ac purse_2 (D.int 3)) fun more purse_3 =>
((((bInY way (D.tup [(D.int 0), (D.int 3), (D.int 6)])).bind fun b =>
(if b then
some (D.int 0)
else
some more)) : Option (D)).bind fun more_2 =>
((dAdd size more_2).bind fun many =>
(bp (m_law_near Ac purse_3 many) fun near purse_4 =>
(bp (m_law_draw Ac purse_4 (D.int 10)) fun origin purse_5 =>
(bp (m_law_draw Ac purse_5 (D.int 10)) fun aim purse_6 =>
(bp (m_law_checks Ac purse_6 near) fun checks purse_7 =>
(bp (m_law_draw Ac purse_7 (D.int 3)) fun z_1 purse_8 =>
((dAdd (D.int 1) z_1).bind fun z_2 =>
(bp (m_law_rows Ac purse_8 z_2 many) fun rows purse_9 =>
(bp (m_law_word Ac purse_9) fun word purse_10 =>
((m_law_units Ac size many).bind fun units =>
((bEq way (D.int 0)).bind fun b_1 =>
(if b_1 then
((m_Edge_plain Ac origin aim size (D.int 0) (D.tup []) D.non (D.str "plain")).bind fun z_3 =>
((m_law_due Ac aim many (D.tup [(D.tup [origin, units])]) (D.tup []) units (D.str "plain")).bind fun z_4 =>
some ((D.tup [z_3, z_4, near]), purse_10)))
else
((bEq way (D.int 1)).bind fun b_2 =>
(if b_2 then
((m_Edge_plain Ac origin aim size more_2 checks rows word).bind fun edge =>
((m_law_due Ac aim many (D.tup [(D.tup [origin, units])]) checks rows word).bind fun z_5 =>
some ((D.tup [edge, z_5, near]), purse_10)))
else
((bEq way (D.int 2)).bind fun b_3 =>
(if b_3 then
((m_Edge_plain Ac origin aim size more_2 checks rows word).bind fun edge_1 =>
((m_law_due Ac aim many (D.tup [(D.tup [origin, units])]) checks rows word).bind fun z_6 =>
some ((D.tup [edge_1, z_6, near]), purse_10)))
else
((bEq way (D.int 3)).bind fun b_4 =>
(if b_4 then
((m_Edge_plain Ac origin aim size (D.int 0) checks D.non (D.str "plain")).bind fun edge_2 =>
((m_law_due Ac aim many (D.tup [(D.tup [origin, units])]) checks units (D.str "plain")).bind fun z_7 =>
some ((D.tup [edge_2, z_7, near]), purse_10)))
else
((bEq way (D.int 4)).bind fun b_5 =>
(if b_5 then
((m_Edge_plain Ac origin aim size more_2 (D.tup []) D.non (D.str "plain")).bind fun edge_3 =>
((m_law_due Ac aim many (D.tup [(D.tup [origin, units])]) (D.tup []) units (D.str "plain")).bind fun z_8 =>
some ((D.tup [edge_3, z_8, near]), purse_10)))
else
((bEq way (D.int 5)).bind fun b_6 =>
(if b_6 then
((m_Edge_plain Ac origin aim size more_2 (D.tup []) D.non word).bind fun edge_4 =>
((m_law_due Ac aim many (D.tup [(D.tup [origin, units])]) (D.tup []) units word).bind fun z_9 =>
some ((D.tup [edge_4, z_9, near]), purse_10)))
else
((m_Edge_plain Ac origin aim size (D.int 0) (D.tup []) rows (D.str "plain")).bind fun z_10 =>
((m_law_due Ac aim many (D.tup [(D.tup [origin, units])]) (D.tup []) rows (D.str "plain")).bind fun z_11 =>
some ((D.tup [z_10, z_11, near]), purse_10))))))))))))))))))))))))))))))
def m_law_made_start (Ac : Cs) (purse : List D) : Option (D × List D) :=
(bp (m_law_draw Ac purse (D.int 4)) fun way purse_1 =>
(bp (m_law_draw Ac purse_1 (D.int 6)) fun z purse_2 =>
(bp (m_law_near Ac purse_2 z) fun near purse_3 =>
((dLen near).bind fun many =>
(bp (m_law_draw Ac purse_3 (D.int 10)) fun aim purse_4 =>
(bp (m_law_checks Ac purse_4 near) fun checks purse_5 =>
(bp (m_law_draw Ac purse_5 (D.int 4)) fun z_1 purse_6 =>
(bp (m_law_rows Ac purse_6 z_1 many) fun rows purse_7 =>
((bEq way (D.int 0)).bind fun b =>
(if b then
((m_Edge_start Ac aim many (D.tup []) (D.tup [])).bind fun z_2 =>
((m_law_due Ac aim many (D.tup []) (D.tup []) (D.tup []) (D.str "start")).bind fun z_3 =>
some ((D.tup [z_2, z_3, near]), purse_7)))
else
((bEq way (D.int 1)).bind fun b_1 =>
(if b_1 then
((m_Edge_start Ac aim many checks rows).bind fun edge =>
((m_law_due Ac aim many (D.tup []) checks rows (D.str "start")).bind fun z_4 =>
some ((D.tup [edge, z_4, near]), purse_7)))
else
((bEq way (D.int 2)).bind fun b_2 =>
(if b_2 then
((m_Edge_start Ac aim many (D.tup []) rows).bind fun z_5 =>
((m_law_due Ac aim many (D.tup []) (D.tup []) rows (D.str "start")).bind fun z_6 =>
some ((D.tup [z_5, z_6, near]), purse_7)))
else
((m_Edge_start Ac aim many checks rows).bind fun edge_1 =>
((m_law_due Ac aim many (D.tup []) checks rows (D.str "start")).bind fun z_7 =>
some ((D.tup [edge_1, z_7, near]), purse_7)))))))))))))))))
def m_law_sums_hold (Ac : Cs) (edge : D) (due : D) (values : D) : Option (D) :=
((dIx due (D.int 3)).bind fun z =>
((itStr z).bind fun ds =>
((lcO (fun d =>
((m_law_value Ac d values).bind fun z_1 =>
((bLe z_1 (D.int 0)).bind fun b =>
some (D.bl b)))) ds).bind fun ys =>
((dAll (D.lst ys)).bind fun held =>
((dMth Ac.c_Edge "guards_hold" edge).bind fun u =>
((m_Edge_guards_hold Ac edge values).bind fun told =>
((bTru held).bind fun b_1 =>
((if b_1 then ((dBl told).bind fun b_2 =>
some (!(b_2 == true))) else some false).bind fun b_3 =>
(if b_3 then
some (D.bl false)
else
((bTru held).bind fun b_4 =>
((if (!b_4) then ((dBl told).bind fun b_5 =>
some (!(b_5 == false))) else some false).bind fun b_6 =>
(if b_6 then
some (D.bl false)
else
((dIx due (D.int 2)).bind fun z_11 =>
((dLen z_11).bind fun z_12 =>
((itRng1 z_12).bind fun ds_3 =>
(Fl.fin (forL (S := Unit) (R := D) (fun _ d_1 =>
((dIx due (D.int 2)).bind fun z_2 =>
((dIx z_2 d_1).bind fun z_3 =>
((dIx z_3 (D.int 1)).bind fun z_4 =>
((itStr z_4).bind fun ds_1 =>
((lcO (fun d_2 =>
((m_law_value Ac d_2 values).bind fun z_5 =>
some z_5)) ds_1).bind fun ys_1 =>
((dTuple (D.lst ys_1)).bind fun wanted =>
((dMth Ac.c_Edge "source_state" edge).bind fun u_1 =>
((m_Edge_source_state Ac edge d_1 values).bind fun z_6 =>
((m_law_same Ac 10 z_6 wanted).bind fun z_7 =>
((bTru z_7).bind fun b_7 =>
(if (!b_7) then
some (.rt (D.bl false))
else
some (.nx ()))))))))))))) ds_3 ()) fun _ =>
((dIx due (D.int 4)).bind fun z_8 =>
((itStr z_8).bind fun ds_2 =>
((lcO (fun d_3 =>
((m_law_value Ac d_3 values).bind fun z_9 =>
some z_9)) ds_2).bind fun ys_2 =>
((dTuple (D.lst ys_2)).bind fun wanted_1 =>
((dMth Ac.c_Edge "target_state" edge).bind fun u_2 =>
((m_Edge_target_state Ac edge values).bind fun z_10 =>
((m_law_same Ac 10 z_10 wanted_1).bind fun r =>
some r)))))))))))))))))))))))
def m_law_copies_hold (Ac : Cs) (purse : List D) (edge : D) (due : D) (near : D) : Option (D × List D) :=
(((bp (m_law_draw Ac purse (D.int 2)) fun z purse_2 =>
((bEq z (D.int 0)).bind fun b =>
(if b then
((dIx due (D.int 1)).bind fun z_1 =>
((itRng1 z_1).bind fun ds =>
(bp (lcS (S := List D) (fun purse_3 d =>
(bp (m_law_coefficient Ac purse_3) fun z_2 purse_5 =>
some (z_2, purse_5))) ds purse_2) fun ys purse_6 =>
(bp (m_law_constant Ac purse_6) fun z_3 purse_7 =>
((dAdd (D.lst ys) (D.lst [z_3])).bind fun z_4 =>
((dTuple z_4).bind fun row_1 =>
((dMth Ac.c_Edge "with_guard" edge).bind fun u =>
((m_Edge_with_guard Ac edge row_1).bind fun copied_1 =>
some (row_1, copied_1, purse_7)))))))))
else
((dIx due (D.int 1)).bind fun z_5 =>
((dMul (D.lst [(D.int 0)]) z_5).bind fun z_6 =>
((dAdd z_6 (D.lst [(D.int 1)])).bind fun z_7 =>
((dTuple z_7).bind fun row_2 =>
((dMth Ac.c_Edge "closed" edge).bind fun u_1 =>
((m_Edge_closed Ac edge).bind fun copied_2 =>
some (row_2, copied_2, purse_2)))))))))) : Option (D × D × List D)).bind fun (row_3, copied_3, purse_8) =>
((dIx due (D.int 0)).bind fun z_8 =>
((dIx due (D.int 1)).bind fun z_9 =>
((dIx due (D.int 2)).bind fun z_10 =>
((dIx due (D.int 3)).bind fun z_11 =>
((dAdd z_11 (D.tup [row_3])).bind fun z_12 =>
((dIx due (D.int 4)).bind fun z_13 =>
((dIx due (D.int 5)).bind fun z_14 =>
((m_law_edge_seen Ac copied_3).bind fun z_15 =>
((m_law_same Ac 10 z_15 (D.tup [z_8, z_9, z_10, z_12, z_13, z_14])).bind fun z_16 =>
((bTru z_16).bind fun b_1 =>
((if (!b_1) then some true else ((m_law_sums_hold Ac copied_3 (D.tup [z_8, z_9, z_10, z_12, z_13, z_14]) near).bind fun z_17 =>
((bTru z_17).bind fun b_2 =>
some (!b_2)))).bind fun b_3 =>
(if b_3 then
some ((D.bl false), purse_8)
else
((dMth Ac.c_Edge "closed" copied_3).bind fun u_2 =>
((m_Edge_closed Ac copied_3).bind fun again =>
((dIx due (D.int 0)).bind fun z_18 =>
((dIx due (D.int 1)).bind fun z_19 =>
((dIx due (D.int 2)).bind fun z_20 =>
((dIx due (D.int 3)).bind fun z_21 =>
((dIx due (D.int 1)).bind fun z_22 =>
((dMul (D.lst [(D.int 0)]) z_22).bind fun z_23 =>
((dAdd z_23 (D.lst [(D.int 1)])).bind fun z_24 =>
((dTuple z_24).bind fun z_25 =>
((dAdd z_21 (D.tup [row_3, z_25])).bind fun z_26 =>
((dIx due (D.int 4)).bind fun z_27 =>
((dIx due (D.int 5)).bind fun z_28 =>
((m_law_edge_seen Ac again).bind fun z_29 =>
((m_law_same Ac 10 z_29 (D.tup [z_18, z_19, z_20, z_26, z_27, z_28])).bind fun z_30 =>
((bTru z_30).bind fun b_4 =>
((if (!b_4) then some true else ((dMth Ac.c_Edge "guards_hold" again).bind fun u_3 =>
((m_Edge_guards_hold Ac again near).bind fun z_31 =>
((dBl z_31).bind fun b_5 =>
some (!(b_5 == false)))))).bind fun b_6 =>
(if b_6 then
some ((D.bl false), purse_8)
else
((m_law_edge_seen Ac edge).bind fun z_32 =>
((m_law_same Ac 10 z_32 due).bind fun z_33 =>
((dBl z_33).bind fun b_7 =>
((if b_7 then ((m_law_sums_hold Ac edge due near).bind fun z_34 =>
some z_34) else some (D.bl false)).bind fun v =>
some (v, purse_8))))))))))))))))))))))))))))))))))))
def m_law (Ac : Cs) (script : D) : Option (D) :=
((m_law_purse Ac script).bind fun purse =>
(bp (m_law_frame_holds Ac purse) fun z purse_1 =>
((bTru z).bind fun b =>
(if (!b) then
some (D.bl false)
else
((m_law_same Ac 10 (D.tup [(D.int 5), (D.int 20)]) (D.tup [(D.int 5), (D.int 20)])).bind fun z_1 =>
((bTru z_1).bind fun b_1 =>
(if (!b_1) then
some (D.bl false)
else
(bp (m_law_draw Ac purse_1 (D.int 2)) fun z_15 purse_13 =>
((dAdd (D.int 1) z_15).bind fun z_16 =>
((itRng1 z_16).bind fun ds_3 =>
((foldO (S := List D × List D) (fun (made_1, purse_3) d =>
(bp (m_law_made Ac purse_3) fun z_2 purse_5 =>
((dApp made_1 z_2).bind fun made_3 =>
(bp (m_law_made_plain Ac purse_5) fun z_3 purse_6 =>
((dApp made_3 z_3).bind fun made_4 =>
(bp (m_law_made_start Ac purse_6) fun z_4 purse_7 =>
((dApp made_4 z_4).bind fun made_5 =>
some (made_5, purse_7)))))))) ds_3 ([], purse_13)).bind fun (made_2, purse_4) =>
((itStr (D.lst made_2)).bind fun ds_2 =>
(Fl.fin (forL (S := Unit) (R := D) (fun _ d_1 =>
(bp (un3 d_1) fun edge (due, near) =>
((m_law_edge_seen Ac edge).bind fun z_5 =>
((m_law_same Ac 10 z_5 due).bind fun z_6 =>
((bTru z_6).bind fun b_2 =>
((if (!b_2) then some true else ((dFld [Ac.c_Edge] "sources" edge).bind fun sources =>
((bIsi sources "tuple").bind fun b_3 =>
some (!b_3)))).bind fun b_4 =>
(if b_4 then
some (.rt (D.bl false))
else
((m_law_sums_hold Ac edge due near).bind fun z_7 =>
((bTru z_7).bind fun b_5 =>
(if (!b_5) then
some (.rt (D.bl false))
else
some (.nx ()))))))))))) ds_2 ()) fun _ =>
((itStr (D.lst made_2)).bind fun ds_1 =>
(Fl.fin (forL (S := List D) (R := D) (fun purse_9 d_2 =>
(bp (un3 d_2) fun edge_1 (due_1, near_1) =>
((dIx due_1 (D.int 1)).bind fun z_8 =>
(bp (m_law_far Ac purse_9 z_8) fun z_9 purse_11 =>
((m_law_sums_hold Ac edge_1 due_1 z_9).bind fun z_10 =>
((bTru z_10).bind fun b_6 =>
(if (!b_6) then
some (.rt (D.bl false))
else
(bp (m_law_copies_hold Ac purse_11 edge_1 due_1 near_1) fun z_11 purse_12 =>
((bTru z_11).bind fun b_7 =>
(if (!b_7) then
some (.rt (D.bl false))
else
some (.nx purse_12))))))))))) ds_1 purse_4) fun purse_10 =>
((itStr (D.lst made_2)).bind fun ds =>
(Fl.fin (forL (S := Unit) (R := D) (fun _ d_3 =>
(bp (un3 d_3) fun edge_2 (due_2, near_2) =>
((m_law_sums_hold Ac edge_2 due_2 near_2).bind fun z_12 =>
((bTru z_12).bind fun b_8 =>
((if (!b_8) then some true else ((m_law_edge_seen Ac edge_2).bind fun z_13 =>
((m_law_same Ac 10 z_13 due_2).bind fun z_14 =>
((bTru z_14).bind fun b_9 =>
some (!b_9))))).bind fun b_10 =>
(if b_10 then
some (.rt (D.bl false))
else
some (.nx ()))))))) ds ()) fun _ =>
some (D.bl true))))))))))))))))))
end
end Qk12
set_option Elab.async false
set_option linter.all false
set_option maxRecDepth 100000
set_option maxHeartbeats 4000000
/-! Printed by mir.py: the walks. -/
namespace Qk12
open PySem PySem.Spec PyProof.Rows L2 StX Z
section
variable {K : Fg} {Ac : Cs} {mg : Str → Option Value} (T : Txt Ac K mg)
include T
/-! affine_value -/
def kd_affine_value : D → D × Mem := fun x => (x, [])
def S_affine_value (Ac : Cs) : ZSp := fun ds M kk_ => ∃ (row integers : D) (d : D), ds = [row, integers] ∧ m_affine_value Ac row integers = some d ∧ kk_ d M
theorem y_affine_value {row : D} {integers : D} {out : D} (h : m_affine_value Ac row integers = some out) {DD : ZEnds} (hit : HitD (kd_affine_value) DD out) : ZS { K := K } (t_affine_value K Ac) [some row, some integers, none, none, none] [] DD := by
  unfold m_affine_value at h
  unfold t_affine_value
  exact (zs_seq (zs_asg (z_op (zv0 (z_un (z_int (y_neg (x := .int 1) (z := .int (-1)) .eq rfl (ob h fun value h1 h => (y_ix .eq .eq h1 (zg2 (zs_seq (zs_for (zi_zip' (za_cons (zv0 (za_cons (zv1 (za_nil (ob h fun ds h6 h => ⟨_, _, _, rfl, h6, (y_forO (S := D) (fun value_1 => [some row, some integers, some value_1, none, none]) (fun value_1 => []) h .rfl (fun value_2 d _ h _ Jh2 => (obp h fun coefficient number h3 h => zg_un2 h3 (zg3 (zg4 (zs_one (zs_seq (zs_asg (z_op (zv2 (z_op (zv3 (zv4 (ob h fun z h4 h => (y_mul .eq .eq h4 (ob h fun value_4 h5 h => (y_add .eq .eq h5 (zg2 (zs_nil (y_nx h Jh2 (.keep (.keep (.keep (.drop (.drop .nil))))) rfl rfl))))))))))))))))))) (fun value_3 h => (zs_ret (zv2 (y_ret (kd := kd_affine_value) (x := value_3) [] h hit.rt rfl rfl)))) rfl)⟩)))))))))))))))))))
theorem z_affine_value {kk : D → Mem → Prop} {ds : List D} {M : Mem} (h : S_affine_value Ac ds M kk) : ZS { K := K } (t_affine_value K Ac) (startD N_affine_value ds) M { nx := fun _ M' => kk .non M', rt := kk } := by
  obtain ⟨_, _, _, rfl, hm, hk⟩ := h
  exact zs_def0 hk fun DD hit => y_affine_value T hm hit
/-! unit_row -/
def kd_unit_row : D → D × Mem := fun x => (x, [])
def S_unit_row (Ac : Cs) : ZSp := fun ds M kk_ => ∃ (unknown unknowns : D) (d : D), ds = [unknown, unknowns] ∧ m_unit_row Ac unknown unknowns = some d ∧ kk_ d M
theorem y_unit_row {unknown : D} {unknowns : D} {out : D} (h : m_unit_row Ac unknown unknowns = some out) {DD : ZEnds} (hit : HitD (kd_unit_row) DD out) : ZS { K := K } (t_unit_row K Ac) [some unknown, some unknowns] [] DD := by
  unfold m_unit_row at h
  unfold t_unit_row
  exact (zs_ret (z_op (z_op (z_op (z_tup (za_cons (z_int (za_nil ⟨Nat.le_of_ble_eq_true rfl, (zv0 (ob h fun z h1 h => (y_repT .eq h1 (z_tup (za_cons (z_int (za_nil ⟨Nat.le_of_ble_eq_true rfl, (ob h fun z_1 h2 h => (y_add .eq .eq h2 (z_op (z_tup (za_cons (z_int (za_nil ⟨Nat.le_of_ble_eq_true rfl, (z_op (zv1 (zv0 (ob h fun z_2 h3 h => (y_sub .eq .eq h3 (ob h fun z_3 h4 h => (y_repT .eq h4 (ob h fun r h5 h => (y_add .eq .eq h5 (y_ret (kd := kd_unit_row) (x := r) [] h hit.rt rfl rfl))))))))))⟩)))))))⟩)))))))⟩))))))))
theorem z_unit_row {kk : D → Mem → Prop} {ds : List D} {M : Mem} (h : S_unit_row Ac ds M kk) : ZS { K := K } (t_unit_row K Ac) (startD N_unit_row ds) M { nx := fun _ M' => kk .non M', rt := kk } := by
  obtain ⟨_, _, _, rfl, hm, hk⟩ := h
  exact zs_def0 hk fun DD hit => y_unit_row T hm hit
/-! __init__ -/
def kd_Frame_init (c_ : Addr) (a_self : Addr) : List (Str × D) → D × Mem := fun x => (.non, [(a_self, .ins c_ x)])
def S_Frame_init (Ac : Cs) : ZSp := fun ds M kk_ => ∃ (a_self : Addr) (name : D) (variables : D) (forms : D) (self : List (Str × D)) (i : Nat) (o' : List (Str × D)) (M' : Mem), ds = [.at a_self, name, variables, forms] ∧ M[i]? = some (a_self, .ins Ac.c_Frame self) ∧ m_Frame_init Ac self name variables forms = some o' ∧ M.set i (a_self, .ins Ac.c_Frame o') = M' ∧ kk_ .non M'
theorem y_Frame_init {self : List (Str × D)} {name : D} {variables : D} {forms : D} {a_self : Addr} {out : List (Str × D)} (h : m_Frame_init Ac self name variables forms = some out) {DD : ZEnds} (hit : HitD (kd_Frame_init Ac.c_Frame a_self) DD out) : ZS { K := K } (t_Frame_init K Ac) [some (.at a_self), some name, some variables, some forms] [(a_self, MO.ins Ac.c_Frame self)] DD := by
  unfold m_Frame_init at h
  unfold t_Frame_init
  exact (zs_seq (zs_fld T.f_name (zv1 (ob h fun self_1 h1 h => (zv0 ⟨_, 0, _, _, _, [(a_self, MO.ins Ac.c_Frame self_1)], rfl, rfl, (List.Mem.head _), h1, rfl, (zs_seq (zs_fld T.f_variables (z_cb (za_cons (zv2 (za_nil (ob h fun variables_1 h2 h => (y_tuple .eq h2 (ob h fun self_2 h3 h => (zv0 ⟨_, 0, _, _, _, [(a_self, MO.ins Ac.c_Frame self_2)], rfl, rfl, (List.Mem.head _), h3, rfl, (zs_one (zs_seq (zs_fld T.f_forms (z_cb (za_cons (zv3 (za_nil (ob h fun forms_1 h4 h => (y_tuple .eq h4 (ob h fun self_3 h5 h => (zv0 ⟨_, 0, _, _, _, [(a_self, MO.ins Ac.c_Frame self_3)], rfl, rfl, (List.Mem.head _), h5, rfl, (zs_nil (y_end (kd := kd_Frame_init Ac.c_Frame a_self) (x := self_3) [] h hit rfl rfl))⟩)))))))))))⟩))))))))))⟩)))))
theorem z_Frame_init {kk : D → Mem → Prop} {ds : List D} {M : Mem} (h : S_Frame_init Ac ds M kk) : ZS { K := K } (t_Frame_init K Ac) (startD N_Frame_init ds) M { nx := fun _ M' => kk .non M', rt := kk } := by
  obtain ⟨_, _, _, _, _, _, _, _, rfl, hi, hm, rfl, hk⟩ := h
  exact zs_defG (kd := kd_Frame_init Ac.c_Frame _) hi rfl hk fun DD hit => y_Frame_init T hm hit
/-! __init__ -/
def kd_Edge_init (c_ : Addr) (a_self : Addr) : List (Str × D) → D × Mem := fun x => (.non, [(a_self, .ins c_ x)])
def S_Edge_init (Ac : Cs) : ZSp := fun ds M kk_ => ∃ (a_self : Addr) (target : D) (unknowns : D) (sources : D) (guards : D) (effect : D) (label : D) (self : List (Str × D)) (i : Nat) (o' : List (Str × D)) (M' : Mem), ds = [.at a_self, target, unknowns, sources, guards, effect, label] ∧ M[i]? = some (a_self, .ins Ac.c_Edge self) ∧ m_Edge_init Ac self target unknowns sources guards effect label = some o' ∧ M.set i (a_self, .ins Ac.c_Edge o') = M' ∧ kk_ .non M'
theorem y_Edge_init {self : List (Str × D)} {target : D} {unknowns : D} {sources : D} {guards : D} {effect : D} {label : D} {a_self : Addr} {out : List (Str × D)} (h : m_Edge_init Ac self target unknowns sources guards effect label = some out) {DD : ZEnds} (hit : HitD (kd_Edge_init Ac.c_Edge a_self) DD out) : ZS { K := K } (t_Edge_init K Ac) [some (.at a_self), some target, some unknowns, some sources, some guards, some effect, some label] [(a_self, MO.ins Ac.c_Edge self)] DD := by
  unfold m_Edge_init at h
  unfold t_Edge_init
  exact (zs_seq (zs_fld T.f_target (zv1 (ob h fun self_1 h1 h => (zv0 ⟨_, 0, _, _, _, [(a_self, MO.ins Ac.c_Edge self_1)], rfl, rfl, (List.Mem.head _), h1, rfl, (zs_seq (zs_fld T.f_unknowns (zv2 (ob h fun self_2 h2 h => (zv0 ⟨_, 0, _, _, _, [(a_self, MO.ins Ac.c_Edge self_2)], rfl, rfl, (List.Mem.head _), h2, rfl, (zs_seq (zs_fld T.f_sources (z_cb (za_cons (zv3 (za_nil (ob h fun sources_1 h3 h => (y_tuple .eq h3 (ob h fun self_3 h4 h => (zv0 ⟨_, 0, _, _, _, [(a_self, MO.ins Ac.c_Edge self_3)], rfl, rfl, (List.Mem.head _), h4, rfl, (zs_seq (zs_fld T.f_guards (z_cb (za_cons (zv4 (za_nil (ob h fun guards_1 h5 h => (y_tuple .eq h5 (ob h fun self_4 h6 h => (zv0 ⟨_, 0, _, _, _, [(a_self, MO.ins Ac.c_Edge self_4)], rfl, rfl, (List.Mem.head _), h6, rfl, (zs_seq (zs_fld T.f_effect (z_cb (za_cons (zv5 (za_nil (ob h fun effect_1 h7 h => (y_tuple .eq h7 (ob h fun self_5 h8 h => (zv0 ⟨_, 0, _, _, _, [(a_self, MO.ins Ac.c_Edge self_5)], rfl, rfl, (List.Mem.head _), h8, rfl, (zs_one (zs_seq (zs_fld T.f_label (zv6 (ob h fun self_6 h9 h => (zv0 ⟨_, 0, _, _, _, [(a_self, MO.ins Ac.c_Edge self_6)], rfl, rfl, (List.Mem.head _), h9, rfl, (zs_nil (y_end (kd := kd_Edge_init Ac.c_Edge a_self) (x := self_6) [] h hit rfl rfl))⟩))))))⟩))))))))))⟩))))))))))⟩))))))))))⟩)))))⟩)))))
theorem z_Edge_init {kk : D → Mem → Prop} {ds : List D} {M : Mem} (h : S_Edge_init Ac ds M kk) : ZS { K := K } (t_Edge_init K Ac) (startD N_Edge_init ds) M { nx := fun _ M' => kk .non M', rt := kk } := by
  obtain ⟨_, _, _, _, _, _, _, _, _, _, _, rfl, hi, hm, rfl, hk⟩ := h
  exact zs_defG (kd := kd_Edge_init Ac.c_Edge _) hi rfl hk fun DD hit => y_Edge_init T hm hit
/-! plain -/
def kd_Edge_plain : D → D × Mem := fun x => (x, [])
def S_Edge_plain (Ac : Cs) : ZSp := fun ds M kk_ => ∃ (source target size fresh guards effect label : D) (d : D), ds = [(D.at Ac.c_Edge), source, target, size, fresh, guards, effect, label] ∧ m_Edge_plain Ac source target size fresh guards effect label = some d ∧ kk_ d M
theorem y_Edge_plain {source : D} {target : D} {size : D} {fresh : D} {guards : D} {effect : D} {label : D} {out : D} (h : m_Edge_plain Ac source target size fresh guards effect label = some out) {DD : ZEnds} (hit : HitD (kd_Edge_plain) DD out) : ZS { K := K } (t_Edge_plain K Ac (S_unit_row Ac) (S_Edge_init Ac)) [some (D.at Ac.c_Edge), some source, some target, some size, some fresh, some guards, some effect, some label, none, none, none, none] [] DD := by
  unfold m_Edge_plain at h
  unfold t_Edge_plain
  exact (zs_seq (zs_asg (z_op (zv3 (zv4 (ob h fun unknowns h1 h => (y_add .eq .eq h1 (zg8 (zs_seq (zs_asg (z_cb (za_cons (z_lc (own_name (by decide)) (zi_rng1' (za_cons (zv3 (za_nil (ob h fun ds h2 h => ⟨_, _, rfl, h2, (ob h fun ys h3 h => y_lcO h3 (fun d _ h _ hk => (zg10 (z_cb (za_cons (zv10 (za_cons (zv8 (za_nil (ob h fun z h4 h => zc_call (S := S_unit_row Ac) ⟨_, _, _, rfl, h4, (y_lf h hk)⟩))))))))) (za_nil (ob h fun rows h5 h => (y_tuple .eq h5 (zg9 (y_join (N := D) (fun effect_1 => [some (D.at Ac.c_Edge), some source, some target, some size, some fresh, some guards, some effect_1, some label, some unknowns, some rows, none, none]) (fun effect_1 => []) h (fun _ h _ Jh6 => (zs_if (zt_test (z_op (zv6 (z_non (y_isN .eq ⟨_, rfl, ⟨fun hb => (have h := ifT hb h; (zs_one (zs_seq (zs_asg (zv9 (zg6 (zs_nil (y_nx h Jh6 .rfl rfl rfl)))))))), fun hb => (have h := ifF hb h; (zs_nil (y_nx h Jh6 .rfl rfl rfl)))⟩⟩))))))) (fun effect_2 h => (zs_seq (zs_asg (z_tup (za_cons (z_tup (za_cons (zv1 (za_cons (zv9 (za_nil ⟨Nat.le_of_ble_eq_true rfl, (za_nil ⟨Nat.le_of_ble_eq_true rfl, (zg11 (zs_ret (z_makeL (i := 0) rfl (z_makeK (za_cons (zv2 (za_cons (zv8 (za_nil (za_cons (zv11 (za_cons (zv5 (za_cons (zv6 (za_cons (zv7 (za_nil ⟨rfl, rfl, [target, unknowns, (D.tup [(D.tup [source, rows])]), guards, effect_2, label], fun _ _ _ r1 r2 => r1.append (((r2.drop 0).take 1).append (((r2.drop 1).take 1).append (((r2.drop 2).take 1).append (((r2.drop 3).take 1).append .nil)))), (ob h fun fs h7 h => y_make (S := S_Edge_init Ac) (fun _ => ⟨_, _, _, _, _, _, _, [], 0, _, _, rfl, rfl, h7, rfl, rfl, rfl⟩) (y_ret (kd := kd_Edge_plain) (x := (D.obj Ac.c_Edge fs)) [] h hit.rt rfl rfl))⟩))))))))))))))))))⟩)⟩)))))))))))))))))⟩))))))))))))))))))
theorem z_Edge_plain {kk : D → Mem → Prop} {ds : List D} {M : Mem} (h : S_Edge_plain Ac ds M kk) : ZS { K := K } (t_Edge_plain K Ac (S_unit_row Ac) (S_Edge_init Ac)) (startD N_Edge_plain ds) M { nx := fun _ M' => kk .non M', rt := kk } := by
  obtain ⟨_, _, _, _, _, _, _, _, rfl, hm, hk⟩ := h
  exact zs_def0 hk fun DD hit => y_Edge_plain T hm hit
/-! start -/
def kd_Edge_start : D → D × Mem := fun x => (x, [])
def S_Edge_start (Ac : Cs) : ZSp := fun ds M kk_ => ∃ (target fresh guards effect : D) (d : D), ds = [(D.at Ac.c_Edge), target, fresh, guards, effect] ∧ m_Edge_start Ac target fresh guards effect = some d ∧ kk_ d M
theorem y_Edge_start {target : D} {fresh : D} {guards : D} {effect : D} {out : D} (h : m_Edge_start Ac target fresh guards effect = some out) {DD : ZEnds} (hit : HitD (kd_Edge_start) DD out) : ZS { K := K } (t_Edge_start K Ac (S_Edge_init Ac)) [some (D.at Ac.c_Edge), some target, some fresh, some guards, some effect] [] DD := by
  unfold m_Edge_start at h
  unfold t_Edge_start
  exact (zs_ret (z_makeL (i := 0) rfl (z_makeK (za_cons (zv1 (za_cons (zv2 (za_nil (za_cons (zv3 (za_cons (zv4 (za_cons (z_str (za_nil ⟨rfl, rfl, [target, fresh, (D.tup []), guards, effect, (D.str "start")], fun _ _ _ r1 r2 => r1.append ((Rps.one (T.d_Edge_init_sources _)).append (((r2.drop 0).take 1).append (((r2.drop 1).take 1).append (((r2.drop 2).take 1).append .nil)))), (ob h fun fs h1 h => y_make (S := S_Edge_init Ac) (fun _ => ⟨_, _, _, _, _, _, _, [], 0, _, _, rfl, rfl, h1, rfl, rfl, rfl⟩) (y_ret (kd := kd_Edge_start) (x := (D.obj Ac.c_Edge fs)) [] h hit.rt rfl rfl))⟩)))))))))))))))
theorem z_Edge_start {kk : D → Mem → Prop} {ds : List D} {M : Mem} (h : S_Edge_start Ac ds M kk) : ZS { K := K } (t_Edge_start K Ac (S_Edge_init Ac)) (startD N_Edge_start ds) M { nx := fun _ M' => kk .non M', rt := kk } := by
  obtain ⟨_, _, _, _, _, rfl, hm, hk⟩ := h
  exact zs_def0 hk fun DD hit => y_Edge_start T hm hit
/-! with_guard -/
def kd_Edge_with_guard : D → D × Mem := fun x => (x, [])
def S_Edge_with_guard (Ac : Cs) : ZSp := fun ds M kk_ => ∃ (self row : D) (d : D), ds = [self, row] ∧ m_Edge_with_guard Ac self row = some d ∧ kk_ d M
theorem y_Edge_with_guard {self : D} {row : D} {out : D} (h : m_Edge_with_guard Ac self row = some out) {DD : ZEnds} (hit : HitD (kd_Edge_with_guard) DD out) : ZS { K := K } (t_Edge_with_guard K Ac (S_Edge_init Ac)) [some self, some row] [] DD := by
  unfold m_Edge_with_guard at h
  unfold t_Edge_with_guard
  exact (zs_ret (z_makeK (za_cons (z_un (zv0 (ob h fun target h1 h => (y_fld .eq h1 T.f_target (za_cons (z_un (zv0 (ob h fun unknowns h2 h => (y_fld .eq h2 T.f_unknowns (za_nil (za_cons (z_un (zv0 (ob h fun sources h3 h => (y_fld .eq h3 T.f_sources (za_cons (z_op (z_un (zv0 (ob h fun guards h4 h => (y_fld .eq h4 T.f_guards (z_tup (za_cons (zv1 (za_nil ⟨Nat.le_of_ble_eq_true rfl, (ob h fun z h5 h => (y_add .eq .eq h5 (za_cons (z_un (zv0 (ob h fun effect h6 h => (y_fld .eq h6 T.f_effect (za_cons (z_un (zv0 (ob h fun label h7 h => (y_fld .eq h7 T.f_label (za_nil ⟨rfl, rfl, [target, unknowns, sources, z, effect, label], fun _ _ _ r1 r2 => r1.append (((r2.drop 0).take 1).append (((r2.drop 1).take 1).append (((r2.drop 2).take 1).append (((r2.drop 3).take 1).append .nil)))), (ob h fun fs h8 h => y_make (S := S_Edge_init Ac) (fun _ => ⟨_, _, _, _, _, _, _, [], 0, _, _, rfl, rfl, h8, rfl, rfl, rfl⟩) (y_ret (kd := kd_Edge_with_guard) (x := (D.obj Ac.c_Edge fs)) [] h hit.rt rfl rfl))⟩)))))))))))))⟩))))))))))))))))))))))))))))
theorem z_Edge_with_guard {kk : D → Mem → Prop} {ds : List D} {M : Mem} (h : S_Edge_with_guard Ac ds M kk) : ZS { K := K } (t_Edge_with_guard K Ac (S_Edge_init Ac)) (startD N_Edge_with_guard ds) M { nx := fun _ M' => kk .non M', rt := kk } := by
  obtain ⟨_, _, _, rfl, hm, hk⟩ := h
  exact zs_def0 hk fun DD hit => y_Edge_with_guard T hm hit
/-! closed -/
def kd_Edge_closed : D → D × Mem := fun x => (x, [])
def S_Edge_closed (Ac : Cs) : ZSp := fun ds M kk_ => ∃ (self : D) (d : D), ds = [self] ∧ m_Edge_closed Ac self = some d ∧ kk_ d M
theorem y_Edge_closed {self : D} {out : D} (h : m_Edge_closed Ac self = some out) {DD : ZEnds} (hit : HitD (kd_Edge_closed) DD out) : ZS { K := K } (t_Edge_closed K Ac (S_Edge_with_guard Ac)) [some self] [] DD := by
  unfold m_Edge_closed at h
  unfold t_Edge_closed
  exact (zs_ret (z_mth (zv0 (ob h fun u h1 h => ⟨⟨_, .eq, h1⟩, (za_cons (z_op (z_op (z_tup (za_cons (z_int (za_nil ⟨Nat.le_of_ble_eq_true rfl, (z_un (zv0 (ob h fun unknowns h2 h => (y_fld .eq h2 T.f_unknowns (ob h fun z h3 h => (y_repT .eq h3 (z_tup (za_cons (z_int (za_nil ⟨Nat.le_of_ble_eq_true rfl, (ob h fun z_1 h4 h => (y_add .eq .eq h4 (za_nil (ob h fun r h5 h => zc_call (S := S_Edge_with_guard Ac) ⟨_, _, _, rfl, h5, (y_ret (kd := kd_Edge_closed) (x := r) [] h hit.rt rfl rfl)⟩))))⟩))))))))))⟩)))))))⟩))))
theorem z_Edge_closed {kk : D → Mem → Prop} {ds : List D} {M : Mem} (h : S_Edge_closed Ac ds M kk) : ZS { K := K } (t_Edge_closed K Ac (S_Edge_with_guard Ac)) (startD N_Edge_closed ds) M { nx := fun _ M' => kk .non M', rt := kk } := by
  obtain ⟨_, _, rfl, hm, hk⟩ := h
  exact zs_def0 hk fun DD hit => y_Edge_closed T hm hit
/-! guards_hold -/
def kd_Edge_guards_hold : D → D × Mem := fun x => (x, [])
def S_Edge_guards_hold (Ac : Cs) : ZSp := fun ds M kk_ => ∃ (self values : D) (d : D), ds = [self, values] ∧ m_Edge_guards_hold Ac self values = some d ∧ kk_ d M
theorem y_Edge_guards_hold {self : D} {values : D} {out : D} (h : m_Edge_guards_hold Ac self values = some out) {DD : ZEnds} (hit : HitD (kd_Edge_guards_hold) DD out) : ZS { K := K } (t_Edge_guards_hold K Ac (S_affine_value Ac)) [some self, some values, none] [] DD := by
  unfold m_Edge_guards_hold at h
  unfold t_Edge_guards_hold
  exact (zs_seq (zs_for (zi_seqY (z_un (zv0 (ob h fun guards h4 h => (y_fld .eq h4 T.f_guards (ob h fun ds h5 h => ⟨_, h5, (y_forD (S := Unit) (kd := kd_Edge_guards_hold) (fun _ => [some self, some values, none]) (fun _ => []) h hit.rt .rfl (fun _ d _ h _ Jh1 => (zg2 (zs_if (zt_test (z_op (z_cb (za_cons (zv2 (za_cons (zv1 (za_nil (ob h fun z h2 h => zc_call (S := S_affine_value Ac) ⟨_, _, _, rfl, h2, (z_int (ob h fun b h3 h => (y_gt .eq .eq h3 ⟨_, rfl, ⟨fun hb => (have h := ifT hb h; (zs_ret (z_bl (y_rtF (r := (D.bl false)) [] h Jh1 rfl rfl rfl)))), fun hb => (have h := ifF hb h; (zs_nil (y_nxF (n := ()) h Jh1 (.keep (.keep (.drop .nil))) rfl rfl)))⟩⟩)))⟩)))))))))))) (fun _ h => (zs_ret (z_bl (y_ret (kd := kd_Edge_guards_hold) (x := (D.bl true)) [] h hit.rt rfl rfl)))) rfl)⟩))))))))
theorem z_Edge_guards_hold {kk : D → Mem → Prop} {ds : List D} {M : Mem} (h : S_Edge_guards_hold Ac ds M kk) : ZS { K := K } (t_Edge_guards_hold K Ac (S_affine_value Ac)) (startD N_Edge_guards_hold ds) M { nx := fun _ M' => kk .non M', rt := kk } := by
  obtain ⟨_, _, _, rfl, hm, hk⟩ := h
  exact zs_def0 hk fun DD hit => y_Edge_guards_hold T hm hit
/-! source_state -/
def kd_Edge_source_state : D → D × Mem := fun x => (x, [])
def S_Edge_source_state (Ac : Cs) : ZSp := fun ds M kk_ => ∃ (self position values : D) (d : D), ds = [self, position, values] ∧ m_Edge_source_state Ac self position values = some d ∧ kk_ d M
theorem y_Edge_source_state {self : D} {position : D} {values : D} {out : D} (h : m_Edge_source_state Ac self position values = some out) {DD : ZEnds} (hit : HitD (kd_Edge_source_state) DD out) : ZS { K := K } (t_Edge_source_state K Ac (S_affine_value Ac)) [some self, some position, some values, none, none] [] DD := by
  unfold m_Edge_source_state at h
  unfold t_Edge_source_state
  exact (zs_seq (zs_asg (z_op (z_op (z_un (zv0 (ob h fun sources h1 h => (y_fld .eq h1 T.f_sources (zv1 (ob h fun z h2 h => (y_ix .eq .eq h2 (z_int (ob h fun rows h3 h => (y_ix .eq .eq h3 (zg3 (zs_ret (z_cb (za_cons (z_lc (own_name (by decide)) (zi_seqY (zv3 (ob h fun ds h4 h => ⟨_, h4, (ob h fun ys h5 h => y_lcO h5 (fun d _ h _ hk => (zg4 (z_cb (za_cons (zv4 (za_cons (zv2 (za_nil (ob h fun z_1 h6 h => zc_call (S := S_affine_value Ac) ⟨_, _, _, rfl, h6, (y_lf h hk)⟩))))))))) (za_nil (ob h fun r h7 h => (y_tuple .eq h7 (y_ret (kd := kd_Edge_source_state) (x := r) [] h hit.rt rfl rfl)))))⟩))))))))))))))))))))))
theorem z_Edge_source_state {kk : D → Mem → Prop} {ds : List D} {M : Mem} (h : S_Edge_source_state Ac ds M kk) : ZS { K := K } (t_Edge_source_state K Ac (S_affine_value Ac)) (startD N_Edge_source_state ds) M { nx := fun _ M' => kk .non M', rt := kk } := by
  obtain ⟨_, _, _, _, rfl, hm, hk⟩ := h
  exact zs_def0 hk fun DD hit => y_Edge_source_state T hm hit
/-! target_state -/
def kd_Edge_target_state : D → D × Mem := fun x => (x, [])
def S_Edge_target_state (Ac : Cs) : ZSp := fun ds M kk_ => ∃ (self values : D) (d : D), ds = [self, values] ∧ m_Edge_target_state Ac self values = some d ∧ kk_ d M
theorem y_Edge_target_state {self : D} {values : D} {out : D} (h : m_Edge_target_state Ac self values = some out) {DD : ZEnds} (hit : HitD (kd_Edge_target_state) DD out) : ZS { K := K } (t_Edge_target_state K Ac (S_affine_value Ac)) [some self, some values, none] [] DD := by
  unfold m_Edge_target_state at h
  unfold t_Edge_target_state
  exact (zs_ret (z_cb (za_cons (z_lc (own_name (by decide)) (zi_seqY (z_un (zv0 (ob h fun effect h1 h => (y_fld .eq h1 T.f_effect (ob h fun ds h2 h => ⟨_, h2, (ob h fun ys h3 h => y_lcO h3 (fun d _ h _ hk => (zg2 (z_cb (za_cons (zv2 (za_cons (zv1 (za_nil (ob h fun z h4 h => zc_call (S := S_affine_value Ac) ⟨_, _, _, rfl, h4, (y_lf h hk)⟩))))))))) (za_nil (ob h fun r h5 h => (y_tuple .eq h5 (y_ret (kd := kd_Edge_target_state) (x := r) [] h hit.rt rfl rfl)))))⟩))))))))))
theorem z_Edge_target_state {kk : D → Mem → Prop} {ds : List D} {M : Mem} (h : S_Edge_target_state Ac ds M kk) : ZS { K := K } (t_Edge_target_state K Ac (S_affine_value Ac)) (startD N_Edge_target_state ds) M { nx := fun _ M' => kk .non M', rt := kk } := by
  obtain ⟨_, _, _, rfl, hm, hk⟩ := h
  exact zs_def0 hk fun DD hit => y_Edge_target_state T hm hit
/-! _law_purse -/
def kd_law_purse : List D → List D × Mem := fun x => (x, [])
def S_law_purse (Ac : Cs) : ZSp := fun ds M kk_ => ∃ (script : D) (d : List D), ds = [script] ∧ m_law_purse Ac script = some d ∧ ∀ p, kk_ (.at p) ((p, .lst d) :: M)
theorem y_law_purse {script : D} {out : List D} (h : m_law_purse Ac script = some out) {DD : ZEnds} (hit : HitO (kd_law_purse) DD out) : ZS { K := K } (t_law_purse K Ac) [some script, none] [] DD := by
  unfold m_law_purse at h
  unfold t_law_purse
  exact (zs_ret (z_addM (z_lst (za_cons (z_int (za_cons (z_op (z_int (z_cb (za_cons (z_sl (zv0 (zo_none (zo_some' (z_int (ob h fun o h1 h => ⟨_, h1, (ob h fun z h2 h => (y_slice .eq h2 (za_nil (ob h fun z_1 h3 h => (y_len .eq h3 (ob h fun z_2 h4 h => (y_add .eq .eq h4 (za_cons (z_int (za_nil ⟨Nat.le_of_ble_eq_true rfl, (z_lc (own_name (by decide)) (zi_seqY (z_sl (zv0 (zo_none (zo_some' (z_int (ob h fun o_1 h5 h => ⟨_, h5, (ob h fun z_3 h6 h => (y_slice .eq h6 (ob h fun ds h7 h => ⟨_, h7, (ob h fun ys h8 h => y_lcO h8 (fun d _ h _ hk => (zg1 (z_cb (za_cons (z_cb (za_cons (zv1 (za_nil (ob h fun z_4 h9 h => (y_int h9 (za_nil (ob h fun z_5 h10 h => (y_abs h10 (y_lf h hk)))))))))))))) (ob h fun ds_1 h11 h => ⟨_, _, _, .eq, .eq, h11, (fun p => y_retO (kd := kd_law_purse) (x := ds_1) [] [] h hit.rt rfl)⟩))⟩)))⟩))))))))⟩))))))))))⟩))))))))))))))))
theorem z_law_purse {kk : D → Mem → Prop} {ds : List D} {M : Mem} (h : S_law_purse Ac ds M kk) : ZS { K := K } (t_law_purse K Ac) (startD N_law_purse ds) M { nx := fun _ M' => kk .non M', rt := kk } := by
  obtain ⟨_, _, rfl, hm, hk⟩ := h
  exact zs_defO0 hk fun DD hit => y_law_purse T hm hit
/-! _law_draw -/
def kd_law_draw (a_purse : Addr) : D × List D → D × Mem := fun x => (x.1, [(a_purse, .lst x.2)])
def S_law_draw (Ac : Cs) : ZSp := fun ds M kk_ => ∃ (a_purse : Addr) (size : D) (purse : List D) (i : Nat) (d : D) (o' : List D) (M' : Mem), ds = [.at a_purse, size] ∧ M[i]? = some (a_purse, .lst purse) ∧ m_law_draw Ac purse size = some (d, o') ∧ M.set i (a_purse, .lst o') = M' ∧ kk_ d M'
theorem y_law_draw {purse : List D} {size : D} {a_purse : Addr} {out : D × List D} (h : m_law_draw Ac purse size = some out) {DD : ZEnds} (hit : HitD (kd_law_draw a_purse) DD out) : ZS { K := K } (t_law_draw K Ac) [some (.at a_purse), some size, none, none, none] [(a_purse, MO.lst purse)] DD := by
  unfold m_law_draw at h
  unfold t_law_draw
  exact (y_join (N := List D) (fun purse_1 => [some (.at a_purse), some size, none, none, none]) (fun purse_1 => [(a_purse, MO.lst purse_1)]) h (fun _ h _ Jh1 => (zs_if (zt_and' (zt_test (z_op (z_op (zv0 (z_int (ob h fun z h2 h => (y_ix (.at 0 rfl) .eq h2 (z_int (ob h fun b h3 h => (y_eq .eq .eq h3 ⟨_, rfl, (y_and h (fun _ h _ hk => (zt_test (z_op (z_cb (za_cons (zv0 (za_nil (ob h fun z_1 h4 h => (y_len (.at 0 rfl) h4 (z_int (ob h fun b_1 h5 h => (y_gt .eq .eq h5 ⟨_, rfl, (y_lfB h hk)⟩)))))))))))) (fun b_2 h => ⟨fun hb => (have h := ifT hb h; (zs_seq (zs_asg (z_bm (zv0 ⟨⟨_, .at 0 rfl⟩, (za_cons (z_int (za_nil (obp h fun cell purse_2 h6 h => y_popAt (i := 0) (M' := [(a_purse, MO.lst purse_2)]) rfl h6 rfl (zg2 (zs_if (zt_test (z_op (zv2 (z_op (z_int (z_int (y_pow (x := .int 10) (y := .int 18) (z := .int 1000000000000000000) .eq .eq (gd_of (by decide +kernel)) (ob h fun b_3 h7 h => (y_ge .eq .eq h7 ⟨_, rfl, ⟨fun hb => (have h := ifT hb h; (zs_one (zs_seq (zs_asg (zv2 (zg_setL' (zv0 (z_int (ob h fun purse_3 h8 h => ⟨_, 0, _, _, [(a_purse, MO.lst purse_3)], rfl, rfl, h8, rfl, (zs_nil (y_nx h Jh1 (.keep (.keep (.drop (.keep (.keep .nil))))) rfl rfl))⟩))))))))), fun hb => (have h := ifF hb h; (zs_one (zs_seq (zs_asg (z_op (z_cb (za_cons (z_op (z_op (z_op (z_op (zv0 (z_int (ob h fun z_2 h9 h => (y_ix (.at 0 rfl) .eq h9 (z_int (ob h fun z_3 h10 h => (y_mul .eq .eq h10 (z_op (zv2 (z_int (ob h fun z_4 h11 h => (y_mul .eq .eq h11 (ob h fun z_5 h12 h => (y_add .eq .eq h12 (z_int (ob h fun z_6 h13 h => (y_add .eq .eq h13 (za_nil (ob h fun z_7 h14 h => (y_int h14 (z_int (ob h fun z_8 h15 h => (y_mod .eq .eq h15 (zg_setL' (zv0 (z_int (ob h fun purse_4 h16 h => ⟨_, 0, _, _, [(a_purse, MO.lst purse_4)], rfl, rfl, h16, rfl, (zs_nil (y_nx h Jh1 (.keep (.keep (.drop (.keep (.keep .nil))))) rfl rfl))⟩))))))))))))))))))))))))))))))))))))))⟩⟩)))))))))))))))⟩))))), fun hb => (have h := ifF hb h; (zs_nil (y_nx h Jh1 .rfl rfl rfl)))⟩))⟩))))))))))))) (fun purse_5 h => (zs_seq (zs_asg (z_op (z_op (zv0 (z_int (ob h fun z_9 h17 h => (y_ix (.at 0 rfl) .eq h17 (z_int (ob h fun z_10 h18 h => (y_add .eq .eq h18 (zg_setL' (zv0 (z_int (ob h fun purse_6 h19 h => ⟨_, 0, _, _, [(a_purse, MO.lst purse_6)], rfl, rfl, h19, rfl, (zs_seq (zs_if (zt_test (z_op (z_op (zv0 (z_int (ob h fun z_11 h20 h => (y_ix (.at 0 rfl) .eq h20 (z_int (ob h fun b_4 h21 h => (y_gt .eq .eq h21 ⟨_, rfl, ⟨fun hb => (have h := ifT hb h; (zs_seq (zs_asg (z_op (z_cb (za_cons (z_op (zv0 (z_int (ob h fun z_12 h22 h => (y_ix (.at 0 rfl) .eq h22 (za_nil (ob h fun z_13 h23 h => (y_int h23 (zv1 (ob h fun digit h24 h => (y_mod .eq .eq h24 (zg3 (zs_seq (zs_asg (z_op (z_op (zv0 (z_int (ob h fun z_14 h25 h => (y_ix (.at 0 rfl) .eq h25 (zv1 (ob h fun z_15 h26 h => (y_div .eq .eq h26 (zg_setL' (zv0 (z_int (ob h fun purse_7 h27 h => ⟨_, 0, _, _, [(a_purse, MO.lst purse_7)], rfl, rfl, h27, rfl, (zs_ret (zv3 (y_ret (kd := kd_law_draw a_purse) (x := (digit, purse_7)) [] h hit.rt rfl rfl)))⟩))))))))))))))))))))))))))))))))), fun hb => (have h := ifF hb h; (zs_nil (zs_seq (zs_asg (z_op (z_cb (za_cons (z_op (z_op (z_op (zv0 (z_int (ob h fun z_16 h28 h => (y_ix (.at 0 rfl) .eq h28 (z_int (ob h fun z_17 h29 h => (y_mul .eq .eq h29 (z_op (z_op (zv0 (z_int (ob h fun z_18 h30 h => (y_ix (.at 0 rfl) .eq h30 (z_int (ob h fun z_19 h31 h => (y_mul .eq .eq h31 (ob h fun z_20 h32 h => (y_add .eq .eq h32 (za_nil (ob h fun z_21 h33 h => (y_int h33 (z_int (ob h fun mixed h34 h => (y_mod .eq .eq h34 (zg4 (zs_seq (zs_asg (z_op (z_cb (za_cons (z_op (z_op (z_op (zv4 (zv4 (ob h fun z_22 h35 h => (y_mul .eq .eq h35 (z_op (z_op (zv0 (z_int (ob h fun z_23 h36 h => (y_ix (.at 0 rfl) .eq h36 (z_int (ob h fun z_24 h37 h => (y_mul .eq .eq h37 (ob h fun z_25 h38 h => (y_add .eq .eq h38 (z_op (z_op (zv0 (z_int (ob h fun z_26 h39 h => (y_ix (.at 0 rfl) .eq h39 (z_int (ob h fun z_27 h40 h => (y_mul .eq .eq h40 (ob h fun z_28 h41 h => (y_add .eq .eq h41 (za_nil (ob h fun z_29 h42 h => (y_int h42 (z_int (ob h fun mixed_1 h43 h => (y_mod .eq .eq h43 (zg4 (zs_ret (z_op (z_op (zv4 (z_int (ob h fun z_30 h44 h => (y_div .eq .eq h44 (zv1 (ob h fun r h45 h => (y_mod .eq .eq h45 (y_ret (kd := kd_law_draw a_purse) (x := (r, purse_6)) [] h hit.rt rfl rfl)))))))))))))))))))))))))))))))))))))))))))))))))))))))))))))))))))))))))))))))))))))))⟩⟩))))))))))))⟩)))))))))))))))))
theorem z_law_draw {kk : D → Mem → Prop} {ds : List D} {M : Mem} (h : S_law_draw Ac ds M kk) : ZS { K := K } (t_law_draw K Ac) (startD N_law_draw ds) M { nx := fun _ M' => kk .non M', rt := kk } := by
  obtain ⟨_, _, _, _, _, _, _, rfl, hi, hm, rfl, hk⟩ := h
  exact zs_def1 hi (out := (_, _)) hk fun DD hit => y_law_draw T hm hit
/-! _law_coefficient -/
def kd_law_coefficient (a_purse : Addr) : D × List D → D × Mem := fun x => (x.1, [(a_purse, .lst x.2)])
def S_law_coefficient (Ac : Cs) : ZSp := fun ds M kk_ => ∃ (a_purse : Addr) (purse : List D) (i : Nat) (d : D) (o' : List D) (M' : Mem), ds = [.at a_purse] ∧ M[i]? = some (a_purse, .lst purse) ∧ m_law_coefficient Ac purse = some (d, o') ∧ M.set i (a_purse, .lst o') = M' ∧ kk_ d M'
theorem y_law_coefficient {purse : List D} {a_purse : Addr} {out : D × List D} (h : m_law_coefficient Ac purse = some out) {DD : ZEnds} (hit : HitD (kd_law_coefficient a_purse) DD out) : ZS { K := K } (t_law_coefficient K Ac (S_law_draw Ac)) [some (.at a_purse), none] [(a_purse, MO.lst purse)] DD := by
  unfold m_law_coefficient at h
  unfold t_law_coefficient
  exact (zs_seq (zs_asg (z_cb (za_cons (zv0 (za_cons (z_int (za_nil (obp h fun way purse_1 h1 h => zc_call (S := S_law_draw Ac) ⟨_, _, _, 0, _, _, [(a_purse, MO.lst purse_1)], rfl, rfl, h1, rfl, (zg1 (zs_seq (zs_if (zt_test (z_op (zv1 (z_int (ob h fun b h2 h => (y_eq .eq .eq h2 ⟨_, rfl, ⟨fun hb => (have h := ifT hb h; (zs_ret (z_op (z_cb (za_cons (zv0 (za_cons (z_int (za_nil (obp h fun z purse_2 h3 h => zc_call (S := S_law_draw Ac) ⟨_, _, _, 0, _, _, [(a_purse, MO.lst purse_2)], rfl, rfl, h3, rfl, (z_int (ob h fun r h4 h => (y_sub .eq .eq h4 (y_ret (kd := kd_law_coefficient a_purse) (x := (r, purse_2)) [] h hit.rt rfl rfl))))⟩)))))))))), fun hb => (have h := ifF hb h; (zs_nil (zs_seq (zs_if (zt_test (z_op (zv1 (z_int (ob h fun b_1 h5 h => (y_eq .eq .eq h5 ⟨_, rfl, ⟨fun hb => (have h := ifT hb h; (zs_ret (z_int (y_ret (kd := kd_law_coefficient a_purse) (x := ((D.int 0), purse_1)) [] h hit.rt rfl rfl)))), fun hb => (have h := ifF hb h; (zs_nil (zs_ret (z_op (z_cb (za_cons (zv0 (za_cons (z_int (za_nil (obp h fun z_1 purse_3 h6 h => zc_call (S := S_law_draw Ac) ⟨_, _, _, 0, _, _, [(a_purse, MO.lst purse_3)], rfl, rfl, h6, rfl, (z_int (ob h fun r_1 h7 h => (y_sub .eq .eq h7 (y_ret (kd := kd_law_coefficient a_purse) (x := (r_1, purse_3)) [] h hit.rt rfl rfl))))⟩)))))))))))⟩⟩))))))))))⟩⟩)))))))))⟩)))))))))
theorem z_law_coefficient {kk : D → Mem → Prop} {ds : List D} {M : Mem} (h : S_law_coefficient Ac ds M kk) : ZS { K := K } (t_law_coefficient K Ac (S_law_draw Ac)) (startD N_law_coefficient ds) M { nx := fun _ M' => kk .non M', rt := kk } := by
  obtain ⟨_, _, _, _, _, _, rfl, hi, hm, rfl, hk⟩ := h
  exact zs_def1 hi (out := (_, _)) hk fun DD hit => y_law_coefficient T hm hit
/-! _law_constant -/
def kd_law_constant (a_purse : Addr) : D × List D → D × Mem := fun x => (x.1, [(a_purse, .lst x.2)])
def S_law_constant (Ac : Cs) : ZSp := fun ds M kk_ => ∃ (a_purse : Addr) (purse : List D) (i : Nat) (d : D) (o' : List D) (M' : Mem), ds = [.at a_purse] ∧ M[i]? = some (a_purse, .lst purse) ∧ m_law_constant Ac purse = some (d, o') ∧ M.set i (a_purse, .lst o') = M' ∧ kk_ d M'
theorem y_law_constant {purse : List D} {a_purse : Addr} {out : D × List D} (h : m_law_constant Ac purse = some out) {DD : ZEnds} (hit : HitD (kd_law_constant a_purse) DD out) : ZS { K := K } (t_law_constant K Ac (S_law_draw Ac)) [some (.at a_purse)] [(a_purse, MO.lst purse)] DD := by
  unfold m_law_constant at h
  unfold t_law_constant
  exact (zs_seq (zs_if (zt_test (z_op (z_cb (za_cons (zv0 (za_cons (z_int (za_nil (obp h fun z purse_1 h1 h => zc_call (S := S_law_draw Ac) ⟨_, _, _, 0, _, _, [(a_purse, MO.lst purse_1)], rfl, rfl, h1, rfl, (z_int (ob h fun b h2 h => (y_eq .eq .eq h2 ⟨_, rfl, ⟨fun hb => (have h := ifT hb h; (zs_ret (z_op (z_cb (za_cons (zv0 (za_cons (z_int (za_nil (obp h fun z_1 purse_2 h3 h => zc_call (S := S_law_draw Ac) ⟨_, _, _, 0, _, _, [(a_purse, MO.lst purse_2)], rfl, rfl, h3, rfl, (z_int (ob h fun r h4 h => (y_sub .eq .eq h4 (y_ret (kd := kd_law_constant a_purse) (x := (r, purse_2)) [] h hit.rt rfl rfl))))⟩)))))))))), fun hb => (have h := ifF hb h; (zs_nil (zs_ret (z_op (z_cb (za_cons (zv0 (za_cons (z_int (za_nil (obp h fun z_2 purse_3 h5 h => zc_call (S := S_law_draw Ac) ⟨_, _, _, 0, _, _, [(a_purse, MO.lst purse_3)], rfl, rfl, h5, rfl, (z_int (ob h fun r_1 h6 h => (y_sub .eq .eq h6 (y_ret (kd := kd_law_constant a_purse) (x := (r_1, purse_3)) [] h hit.rt rfl rfl))))⟩)))))))))))⟩⟩)))⟩)))))))))))
theorem z_law_constant {kk : D → Mem → Prop} {ds : List D} {M : Mem} (h : S_law_constant Ac ds M kk) : ZS { K := K } (t_law_constant K Ac (S_law_draw Ac)) (startD N_law_constant ds) M { nx := fun _ M' => kk .non M', rt := kk } := by
  obtain ⟨_, _, _, _, _, _, rfl, hi, hm, rfl, hk⟩ := h
  exact zs_def1 hi (out := (_, _)) hk fun DD hit => y_law_constant T hm hit
/-! _law_rows -/
def kd_law_rows (a_purse : Addr) : D × List D → D × Mem := fun x => (x.1, [(a_purse, .lst x.2)])
def S_law_rows (Ac : Cs) : ZSp := fun ds M kk_ => ∃ (a_purse : Addr) (count : D) (many : D) (purse : List D) (i : Nat) (d : D) (o' : List D) (M' : Mem), ds = [.at a_purse, count, many] ∧ M[i]? = some (a_purse, .lst purse) ∧ m_law_rows Ac purse count many = some (d, o') ∧ M.set i (a_purse, .lst o') = M' ∧ kk_ d M'
theorem y_law_rows {purse : List D} {count : D} {many : D} {a_purse : Addr} {out : D × List D} (h : m_law_rows Ac purse count many = some out) {DD : ZEnds} (hit : HitD (kd_law_rows a_purse) DD out) : ZS { K := K } (t_law_rows K Ac (S_law_coefficient Ac) (S_law_constant Ac)) [some (.at a_purse), some count, some many, none, none, none, none] [(a_purse, MO.lst purse)] DD := by
  unfold m_law_rows at h
  unfold t_law_rows
  exact (zs_seq (zs_asg (z_lstM (za_nil ⟨Nat.le_of_ble_eq_true rfl, (fun p__law_rows => zg3 (zs_seq (zs_for (zi_rng1' (za_cons (zv1 (za_nil (ob h fun ds_1 h10 h => ⟨_, _, rfl, h10, (y_forO (S := List D × List D) (fun (rows, purse_1) => [some (.at a_purse), some count, some many, some (.at p__law_rows), none, none, none]) (fun (rows, purse_1) => [(p__law_rows, MO.lst rows), (a_purse, MO.lst purse_1)]) h .rfl (fun (rows_1, purse_2) d _ h _ Jh1 => (zg4 (zs_seq (zs_asg (z_lc (own_name (by decide)) (zi_rng1' (za_cons (zv2 (za_nil (ob h fun ds h2 h => ⟨_, _, rfl, h2, (obp h fun row purse_7 h3 h => y_lcS (S := List D) (fun purse_5 => [(p__law_rows, MO.lst rows_1), (a_purse, MO.lst purse_5)]) h3 (fun purse_4 d_1 _ _ h _ hk => (zg6 (z_cb (za_cons (zv0 (za_nil (obp h fun z purse_6 h4 h => zc_call (S := S_law_coefficient Ac) ⟨_, _, 1, _, _, [(p__law_rows, MO.lst rows_1), (a_purse, MO.lst purse_6)], rfl, rfl, h4, rfl, (y_lfXD (Ms := (fun purse_5 => [(p__law_rows, MO.lst rows_1), (a_purse, MO.lst purse_5)])) (s := purse_6) h hk rfl)⟩))))))) rfl (zg5 (zs_one (zs_seq (zs_drop (z_bm (zv3 ⟨⟨_, .at 0 rfl⟩, (za_cons (z_cb (za_cons (z_op (zv5 (z_lst (za_cons (z_cb (za_cons (zv0 (za_nil (obp h fun z_1 purse_8 h5 h => zc_call (S := S_law_constant Ac) ⟨_, _, 1, _, _, [(p__law_rows, MO.lst rows_1), (a_purse, MO.lst purse_8)], rfl, rfl, h5, rfl, (za_nil ⟨Nat.le_of_ble_eq_true rfl, (ob h fun z_2 h6 h => (y_add .eq .eq h6 (za_nil (ob h fun z_3 h7 h => (y_tuple .eq h7 (za_nil (ob h fun rows_3 h8 h => y_append (i := 0) (M' := [(p__law_rows, MO.lst rows_3), (a_purse, MO.lst purse_8)]) rfl h8 rfl (zs_nil (y_nx h Jh1 (.keep (.keep (.keep (.keep (.drop (.drop (.keep .nil))))))) rfl rfl)))))))))⟩)⟩))))))))))))⟩)))))))⟩)))))))))) (fun (rows_2, purse_3) h => (zs_ret (z_cb (za_cons (zv3 (za_nil (ob h fun r h9 h => (y_tuple (.at 0 rfl) h9 (y_ret (kd := kd_law_rows a_purse) (x := (r, purse_3)) [(p__law_rows, MO.lst rows_2)] h hit.rt rfl rfl))))))))) rfl)⟩))))))))⟩))))
theorem z_law_rows {kk : D → Mem → Prop} {ds : List D} {M : Mem} (h : S_law_rows Ac ds M kk) : ZS { K := K } (t_law_rows K Ac (S_law_coefficient Ac) (S_law_constant Ac)) (startD N_law_rows ds) M { nx := fun _ M' => kk .non M', rt := kk } := by
  obtain ⟨_, _, _, _, _, _, _, _, rfl, hi, hm, rfl, hk⟩ := h
  exact zs_def1 hi (out := (_, _)) hk fun DD hit => y_law_rows T hm hit
/-! _law_near -/
def kd_law_near (a_purse : Addr) : D × List D → D × Mem := fun x => (x.1, [(a_purse, .lst x.2)])
def S_law_near (Ac : Cs) : ZSp := fun ds M kk_ => ∃ (a_purse : Addr) (many : D) (purse : List D) (i : Nat) (d : D) (o' : List D) (M' : Mem), ds = [.at a_purse, many] ∧ M[i]? = some (a_purse, .lst purse) ∧ m_law_near Ac purse many = some (d, o') ∧ M.set i (a_purse, .lst o') = M' ∧ kk_ d M'
theorem y_law_near {purse : List D} {many : D} {a_purse : Addr} {out : D × List D} (h : m_law_near Ac purse many = some out) {DD : ZEnds} (hit : HitD (kd_law_near a_purse) DD out) : ZS { K := K } (t_law_near K Ac (S_law_draw Ac)) [some (.at a_purse), some many, none] [(a_purse, MO.lst purse)] DD := by
  unfold m_law_near at h
  unfold t_law_near
  exact (zs_ret (z_cb (za_cons (z_lc (own_name (by decide)) (zi_rng1' (za_cons (zv1 (za_nil (ob h fun ds h1 h => ⟨_, _, rfl, h1, (obp h fun ys purse_4 h2 h => y_lcS (S := List D) (fun purse_2 => [(a_purse, MO.lst purse_2)]) h2 (fun purse_1 d _ _ h _ hk => (zg2 (z_op (z_cb (za_cons (zv0 (za_cons (z_int (za_nil (obp h fun z purse_3 h3 h => zc_call (S := S_law_draw Ac) ⟨_, _, _, 0, _, _, [(a_purse, MO.lst purse_3)], rfl, rfl, h3, rfl, (z_int (ob h fun z_1 h4 h => (y_sub .eq .eq h4 (y_lfXD (Ms := (fun purse_2 => [(a_purse, MO.lst purse_2)])) (s := purse_3) h hk rfl))))⟩)))))))))) rfl (za_nil (ob h fun r h5 h => (y_tuple .eq h5 (y_ret (kd := kd_law_near a_purse) (x := (r, purse_4)) [] h hit.rt rfl rfl)))))⟩)))))))))
theorem z_law_near {kk : D → Mem → Prop} {ds : List D} {M : Mem} (h : S_law_near Ac ds M kk) : ZS { K := K } (t_law_near K Ac (S_law_draw Ac)) (startD N_law_near ds) M { nx := fun _ M' => kk .non M', rt := kk } := by
  obtain ⟨_, _, _, _, _, _, _, rfl, hi, hm, rfl, hk⟩ := h
  exact zs_def1 hi (out := (_, _)) hk fun DD hit => y_law_near T hm hit
/-! _law_far -/
def kd_law_far (a_purse : Addr) : D × List D → D × Mem := fun x => (x.1, [(a_purse, .lst x.2)])
def S_law_far (Ac : Cs) : ZSp := fun ds M kk_ => ∃ (a_purse : Addr) (many : D) (purse : List D) (i : Nat) (d : D) (o' : List D) (M' : Mem), ds = [.at a_purse, many] ∧ M[i]? = some (a_purse, .lst purse) ∧ m_law_far Ac purse many = some (d, o') ∧ M.set i (a_purse, .lst o') = M' ∧ kk_ d M'
theorem y_law_far {purse : List D} {many : D} {a_purse : Addr} {out : D × List D} (h : m_law_far Ac purse many = some out) {DD : ZEnds} (hit : HitD (kd_law_far a_purse) DD out) : ZS { K := K } (t_law_far K Ac (S_law_draw Ac)) [some (.at a_purse), some many, none, none, none] [(a_purse, MO.lst purse)] DD := by
  unfold m_law_far at h
  unfold t_law_far
  exact (zs_seq (zs_asg (z_lstM (za_nil ⟨Nat.le_of_ble_eq_true rfl, (fun p__law_values => zg2 (zs_seq (zs_for (zi_rng1' (za_cons (zv1 (za_nil (ob h fun ds h9 h => ⟨_, _, rfl, h9, (y_forO (S := List D × List D) (fun (values, purse_1) => [some (.at a_purse), some many, some (.at p__law_values), none, none]) (fun (values, purse_1) => [(p__law_values, MO.lst values), (a_purse, MO.lst purse_1)]) h .rfl (fun (values_1, purse_2) d _ h _ Jh1 => (zg3 (zs_seq (zs_asg (z_op (z_cb (za_cons (zv0 (za_cons (z_int (za_nil (obp h fun z purse_4 h2 h => zc_call (S := S_law_draw Ac) ⟨_, _, _, 1, _, _, [(p__law_values, MO.lst values_1), (a_purse, MO.lst purse_4)], rfl, rfl, h2, rfl, (z_int (ob h fun great h3 h => (y_sub .eq .eq h3 (zg4 (zs_one (zs_seq (zs_drop (z_bm (zv2 ⟨⟨_, .at 0 rfl⟩, (za_cons (z_op (z_op (zv4 (z_int (ob h fun z_1 h4 h => (y_mul .eq .eq h4 (z_cb (za_cons (zv0 (za_cons (z_int (za_nil (obp h fun z_2 purse_5 h5 h => zc_call (S := S_law_draw Ac) ⟨_, _, _, 1, _, _, [(p__law_values, MO.lst values_1), (a_purse, MO.lst purse_5)], rfl, rfl, h5, rfl, (ob h fun z_3 h6 h => (y_add .eq .eq h6 (za_nil (ob h fun values_3 h7 h => y_append (i := 0) (M' := [(p__law_values, MO.lst values_3), (a_purse, MO.lst purse_5)]) rfl h7 rfl (zs_nil (y_nx h Jh1 (.keep (.keep (.keep (.drop (.drop .nil))))) rfl rfl))))))⟩))))))))))))))⟩)))))))))⟩)))))))))))) (fun (values_2, purse_3) h => (zs_ret (z_cb (za_cons (zv2 (za_nil (ob h fun r h8 h => (y_tuple (.at 0 rfl) h8 (y_ret (kd := kd_law_far a_purse) (x := (r, purse_3)) [(p__law_values, MO.lst values_2)] h hit.rt rfl rfl))))))))) rfl)⟩))))))))⟩))))
theorem z_law_far {kk : D → Mem → Prop} {ds : List D} {M : Mem} (h : S_law_far Ac ds M kk) : ZS { K := K } (t_law_far K Ac (S_law_draw Ac)) (startD N_law_far ds) M { nx := fun _ M' => kk .non M', rt := kk } := by
  obtain ⟨_, _, _, _, _, _, _, rfl, hi, hm, rfl, hk⟩ := h
  exact zs_def1 hi (out := (_, _)) hk fun DD hit => y_law_far T hm hit
/-! _law_checks -/
def kd_law_checks (a_purse : Addr) : D × List D → D × Mem := fun x => (x.1, [(a_purse, .lst x.2)])
def S_law_checks (Ac : Cs) : ZSp := fun ds M kk_ => ∃ (a_purse : Addr) (near : D) (purse : List D) (i : Nat) (d : D) (o' : List D) (M' : Mem), ds = [.at a_purse, near] ∧ M[i]? = some (a_purse, .lst purse) ∧ m_law_checks Ac purse near = some (d, o') ∧ M.set i (a_purse, .lst o') = M' ∧ kk_ d M'
theorem y_law_checks {purse : List D} {near : D} {a_purse : Addr} {out : D × List D} (h : m_law_checks Ac purse near = some out) {DD : ZEnds} (hit : HitD (kd_law_checks a_purse) DD out) : ZS { K := K } (t_law_checks K Ac (S_law_draw Ac) (S_law_coefficient Ac) (S_law_constant Ac)) [some (.at a_purse), some near, none, none, none, none, none] [(a_purse, MO.lst purse)] DD := by
  unfold m_law_checks at h
  unfold t_law_checks
  exact (zs_seq (zs_asg (z_lstM (za_nil ⟨Nat.le_of_ble_eq_true rfl, (fun p__law_checks => zg2 (zs_seq (zs_for (zi_rng1' (za_cons (z_cb (za_cons (zv0 (za_cons (z_int (za_nil (obp h fun z_12 purse_13 h24 h => zc_call (S := S_law_draw Ac) ⟨_, _, _, 1, _, _, [(p__law_checks, MO.lst []), (a_purse, MO.lst purse_13)], rfl, rfl, h24, rfl, (za_nil (ob h fun ds_2 h25 h => ⟨_, _, rfl, h25, (y_forO (S := List D × List D) (fun (checks, purse_1) => [some (.at a_purse), some near, some (.at p__law_checks), none, none, none, none]) (fun (checks, purse_1) => [(p__law_checks, MO.lst checks), (a_purse, MO.lst purse_1)]) h .rfl (fun (checks_1, purse_2) d _ h _ Jh1 => (zg3 (zs_seq (zs_asg (z_lc (own_name (by decide)) (zi_rng1' (za_cons (z_cb (za_cons (zv1 (za_nil (ob h fun z h2 h => (y_len .eq h2 (za_nil (ob h fun ds h3 h => ⟨_, _, rfl, h3, (obp h fun row purse_7 h4 h => y_lcS (S := List D) (fun purse_5 => [(p__law_checks, MO.lst checks_1), (a_purse, MO.lst purse_5)]) h4 (fun purse_4 d_1 _ _ h _ hk => (zg5 (z_cb (za_cons (zv0 (za_nil (obp h fun z_1 purse_6 h5 h => zc_call (S := S_law_coefficient Ac) ⟨_, _, 1, _, _, [(p__law_checks, MO.lst checks_1), (a_purse, MO.lst purse_6)], rfl, rfl, h5, rfl, (y_lfXD (Ms := (fun purse_5 => [(p__law_checks, MO.lst checks_1), (a_purse, MO.lst purse_5)])) (s := purse_6) h hk rfl)⟩))))))) rfl (zg4 (zs_seq (zs_asg (z_cb (za_cons (zv0 (za_nil (obp h fun constant purse_8 h6 h => zc_call (S := S_law_constant Ac) ⟨_, _, 1, _, _, [(p__law_checks, MO.lst checks_1), (a_purse, MO.lst purse_8)], rfl, rfl, h6, rfl, (zg6 (y_join (N := D × List D) (fun (constant_1, purse_9) => [some (.at a_purse), some near, some (.at p__law_checks), some d, some (D.lst row), none, some constant_1]) (fun (constant_1, purse_9) => [(p__law_checks, MO.lst checks_1), (a_purse, MO.lst purse_9)]) h (fun _ h _ Jh7 => (zs_if (zt_test (z_op (z_cb (za_cons (zv0 (za_cons (z_int (za_nil (obp h fun z_2 purse_10 h8 h => zc_call (S := S_law_draw Ac) ⟨_, _, _, 1, _, _, [(p__law_checks, MO.lst checks_1), (a_purse, MO.lst purse_10)], rfl, rfl, h8, rfl, (z_int (ob h fun b h9 h => (y_eq .eq .eq h9 ⟨_, rfl, ⟨fun hb => (have h := ifT hb h; (zs_one (zs_seq (zs_asg (z_op (z_op (z_cb (za_cons (zv0 (za_cons (z_int (za_nil (obp h fun z_3 purse_11 h10 h => zc_call (S := S_law_draw Ac) ⟨_, _, _, 1, _, _, [(p__law_checks, MO.lst checks_1), (a_purse, MO.lst purse_11)], rfl, rfl, h10, rfl, (z_int (ob h fun z_4 h11 h => (y_sub .eq .eq h11 (z_cb (za_cons (z_lc (own_name (by decide)) (zi_rng1' (za_cons (z_cb (za_cons (zv1 (za_nil (ob h fun z_5 h12 h => (y_len .eq h12 (za_nil (ob h fun ds_1 h13 h => ⟨_, _, rfl, h13, (ob h fun ys h14 h => y_lcO h14 (fun d_2 _ h _ hk => (zg5 (z_op (z_op (zv4 (zv5 (ob h fun z_6 h15 h => (y_ix .eq .eq h15 (z_op (zv1 (zv5 (ob h fun z_7 h16 h => (y_ix .eq .eq h16 (ob h fun z_8 h17 h => (y_mul .eq .eq h17 (y_lf h hk)))))))))))))))) (za_nil (ob h fun z_9 h18 h => (y_sum .eq h18 (ob h fun constant_2 h19 h => (y_sub .eq .eq h19 (zg6 (zs_nil (y_nx h Jh7 .rfl rfl rfl)))))))))⟩))))))))))))))))⟩))))))))))))), fun hb => (have h := ifF hb h; (zs_nil (y_nx h Jh7 .rfl rfl rfl)))⟩⟩)))⟩))))))))))) (fun (constant_3, purse_12) h => (zs_one (zs_seq (zs_drop (z_bm (zv2 ⟨⟨_, .at 0 rfl⟩, (za_cons (z_cb (za_cons (z_op (zv4 (z_lst (za_cons (zv6 (za_nil ⟨Nat.le_of_ble_eq_true rfl, (ob h fun z_10 h20 h => (y_add .eq .eq h20 (za_nil (ob h fun z_11 h21 h => (y_tuple .eq h21 (za_nil (ob h fun checks_3 h22 h => y_append (i := 0) (M' := [(p__law_checks, MO.lst checks_3), (a_purse, MO.lst purse_12)]) rfl h22 rfl (zs_nil (y_nx h Jh1 (.keep (.keep (.keep (.drop (.drop (.keep (.drop .nil))))))) rfl rfl)))))))))⟩)))))))))⟩))))))))⟩)))))))))⟩))))))))))))))) (fun (checks_2, purse_3) h => (zs_ret (z_cb (za_cons (zv2 (za_nil (ob h fun r h23 h => (y_tuple (.at 0 rfl) h23 (y_ret (kd := kd_law_checks a_purse) (x := (r, purse_3)) [(p__law_checks, MO.lst checks_2)] h hit.rt rfl rfl))))))))) rfl)⟩))⟩))))))))))))⟩))))
theorem z_law_checks {kk : D → Mem → Prop} {ds : List D} {M : Mem} (h : S_law_checks Ac ds M kk) : ZS { K := K } (t_law_checks K Ac (S_law_draw Ac) (S_law_coefficient Ac) (S_law_constant Ac)) (startD N_law_checks ds) M { nx := fun _ M' => kk .non M', rt := kk } := by
  obtain ⟨_, _, _, _, _, _, _, rfl, hi, hm, rfl, hk⟩ := h
  exact zs_def1 hi (out := (_, _)) hk fun DD hit => y_law_checks T hm hit
/-! _law_word -/
def kd_law_word (a_purse : Addr) : D × List D → D × Mem := fun x => (x.1, [(a_purse, .lst x.2)])
def S_law_word (Ac : Cs) : ZSp := fun ds M kk_ => ∃ (a_purse : Addr) (purse : List D) (i : Nat) (d : D) (o' : List D) (M' : Mem), ds = [.at a_purse] ∧ M[i]? = some (a_purse, .lst purse) ∧ m_law_word Ac purse = some (d, o') ∧ M.set i (a_purse, .lst o') = M' ∧ kk_ d M'
theorem y_law_word {purse : List D} {a_purse : Addr} {out : D × List D} (h : m_law_word Ac purse = some out) {DD : ZEnds} (hit : HitD (kd_law_word a_purse) DD out) : ZS { K := K } (t_law_word K Ac (S_law_draw Ac)) [some (.at a_purse), none, none, none] [(a_purse, MO.lst purse)] DD := by
  unfold m_law_word at h
  unfold t_law_word
  exact (zs_seq (zs_asg (z_str (zg1 (zs_seq (zs_asg (z_str (zg2 (zs_seq (zs_for (zi_rng1' (za_cons (z_op (z_int (z_cb (za_cons (zv0 (za_cons (z_int (za_nil (obp h fun z_2 purse_5 h5 h => zc_call (S := S_law_draw Ac) ⟨_, _, _, 0, _, _, [(a_purse, MO.lst purse_5)], rfl, rfl, h5, rfl, (ob h fun z_3 h6 h => (y_add .eq .eq h6 (za_nil (ob h fun ds h7 h => ⟨_, _, rfl, h7, (y_forO (S := D × List D) (fun (word, purse_1) => [some (.at a_purse), some (D.str "abcdefghijklmnopqrstuvwxyz"), some word, none]) (fun (word, purse_1) => [(a_purse, MO.lst purse_1)]) h .rfl (fun (word_1, purse_2) d _ h _ Jh1 => (zg3 (zs_one (zs_seq (zs_asg (z_op (zv2 (z_op (zv1 (z_cb (za_cons (zv0 (za_cons (z_int (za_nil (obp h fun z purse_4 h2 h => zc_call (S := S_law_draw Ac) ⟨_, _, _, 0, _, _, [(a_purse, MO.lst purse_4)], rfl, rfl, h2, rfl, (ob h fun z_1 h3 h => (y_ix .eq .eq h3 (ob h fun word_3 h4 h => (y_add .eq .eq h4 (zg2 (zs_nil (y_nx h Jh1 (.keep (.keep (.keep (.drop .nil)))) rfl rfl)))))))⟩)))))))))))))))) (fun (word_2, purse_3) h => (zs_ret (zv2 (y_ret (kd := kd_law_word a_purse) (x := (word_2, purse_3)) [] h hit.rt rfl rfl)))) rfl)⟩))))⟩)))))))))))))))))))))
theorem z_law_word {kk : D → Mem → Prop} {ds : List D} {M : Mem} (h : S_law_word Ac ds M kk) : ZS { K := K } (t_law_word K Ac (S_law_draw Ac)) (startD N_law_word ds) M { nx := fun _ M' => kk .non M', rt := kk } := by
  obtain ⟨_, _, _, _, _, _, rfl, hi, hm, rfl, hk⟩ := h
  exact zs_def1 hi (out := (_, _)) hk fun DD hit => y_law_word T hm hit
/-! _law_value -/
def kd_law_value : D → D × Mem := fun x => (x, [])
def S_law_value (Ac : Cs) : ZSp := fun ds M kk_ => ∃ (row values : D) (d : D), ds = [row, values] ∧ m_law_value Ac row values = some d ∧ kk_ d M
theorem y_law_value {row : D} {values : D} {out : D} (h : m_law_value Ac row values = some out) {DD : ZEnds} (hit : HitD (kd_law_value) DD out) : ZS { K := K } (t_law_value K Ac) [some row, some values, none] [] DD := by
  unfold m_law_value at h
  unfold t_law_value
  exact (zs_ret (z_op (z_cb (za_cons (z_lc (own_name (by decide)) (zi_rng1' (za_cons (z_cb (za_cons (zv1 (za_nil (ob h fun z h1 h => (y_len .eq h1 (za_nil (ob h fun ds h2 h => ⟨_, _, rfl, h2, (ob h fun ys h3 h => y_lcO h3 (fun d _ h _ hk => (zg2 (z_op (z_op (zv0 (zv2 (ob h fun z_1 h4 h => (y_ix .eq .eq h4 (z_op (zv1 (zv2 (ob h fun z_2 h5 h => (y_ix .eq .eq h5 (ob h fun z_3 h6 h => (y_mul .eq .eq h6 (y_lf h hk)))))))))))))))) (za_nil (ob h fun z_4 h7 h => (y_sum .eq h7 (z_op (zv0 (z_cb (za_cons (zv1 (za_nil (ob h fun z_5 h8 h => (y_len .eq h8 (ob h fun z_6 h9 h => (y_ix .eq .eq h9 (ob h fun r h10 h => (y_add .eq .eq h10 (y_ret (kd := kd_law_value) (x := r) [] h hit.rt rfl rfl)))))))))))))))))⟩)))))))))))))))
theorem z_law_value {kk : D → Mem → Prop} {ds : List D} {M : Mem} (h : S_law_value Ac ds M kk) : ZS { K := K } (t_law_value K Ac) (startD N_law_value ds) M { nx := fun _ M' => kk .non M', rt := kk } := by
  obtain ⟨_, _, _, rfl, hm, hk⟩ := h
  exact zs_def0 hk fun DD hit => y_law_value T hm hit
/-! _law_same -/
def kd_law_same : D → D × Mem := fun x => (x, [])
def Sn_law_same (Ac : Cs) (n_ : Nat) : ZSp := fun ds M kk_ => ∃ (v_ told due : D) (d : D), ds = [v_, due] ∧ View M v_ told ∧ m_law_same Ac n_ told due = some d ∧ kk_ d M
abbrev S_law_same (Ac : Cs) : ZSp := Sn_law_same Ac 10
theorem y_law_same {n_ : Nat} {told : D} {due : D} {out : D} (h : mS_law_same Ac (m_law_same Ac n_) told due = some out) {DD : ZEnds} (hit : HitD (kd_law_same) DD out) : ZS { K := K } (t_law_same K Ac (Sn_law_same Ac n_)) [some told, some due, none] [] DD := by
  unfold mS_law_same at h
  unfold t_law_same
  exact (zs_seq (zs_if (zt_or' (zt_truth (z_cb (za_cons (zv1 (ob h fun b h1 h => (za_cons (z_ty (za_nil (y_isi .eq h1 ⟨_, .bl _, (y_or h (fun _ h _ hk => (zt_truth (z_cb (za_cons (zv1 (ob h fun b_1 h2 h => (za_cons (z_ty (za_nil (y_isi .eq h2 ⟨_, .bl _, (y_lfB h hk)⟩)))))))))) (fun b_2 h => ⟨fun hb => (have h := ifT hb h; (zs_seq (zs_if (zt_and' (zt_truth (z_cb (za_cons (zv1 (ob h fun b_3 h3 h => (za_cons (z_ty (za_nil (y_isi .eq h3 ⟨_, .bl _, (y_and h (fun _ h _ hk => (zt_not (zt_truth (z_cb (za_cons (zv0 (ob h fun b_4 h4 h => (za_cons (z_ty (za_nil (y_isi .eq h4 ⟨_, .bl _, (y_lfB h hk)⟩))))))))))) (fun b_5 h => ⟨fun hb => (have h := ifT hb h; (zs_ret (z_bl (y_ret (kd := kd_law_same) (x := (D.bl false)) [] h hit.rt rfl rfl)))), fun hb => (have h := ifF hb h; (zs_nil (zs_seq (zs_if (zt_and' (zt_truth (z_cb (za_cons (zv1 (ob h fun b_6 h5 h => (za_cons (z_ty (za_nil (y_isi .eq h5 ⟨_, .bl _, (y_and h (fun _ h _ hk => (zt_not (zt_truth (z_cb (za_cons (zv0 (ob h fun b_7 h6 h => (za_cons (z_ty (za_nil (y_isi .eq h6 ⟨_, .bl _, (y_lfB h hk)⟩))))))))))) (fun b_8 h => ⟨fun hb => (have h := ifT hb h; (zs_ret (z_bl (y_ret (kd := kd_law_same) (x := (D.bl false)) [] h hit.rt rfl rfl)))), fun hb => (have h := ifF hb h; (zs_nil (zs_seq (zs_if (zt_test (z_op (z_cb (za_cons (zv0 (za_nil (ob h fun z h7 h => (y_len .eq h7 (z_cb (za_cons (zv1 (za_nil (ob h fun z_1 h8 h => (y_len .eq h8 (ob h fun b_9 h9 h => (y_ne .eq .eq h9 ⟨_, rfl, ⟨fun hb => (have h := ifT hb h; (zs_ret (z_bl (y_ret (kd := kd_law_same) (x := (D.bl false)) [] h hit.rt rfl rfl)))), fun hb => (have h := ifF hb h; (zs_nil (zs_ret (z_cb (za_cons (z_lc (own_name (by decide)) (zi_rng1' (za_cons (z_cb (za_cons (zv1 (za_nil (ob h fun z_2 h10 h => (y_len .eq h10 (za_nil (ob h fun ds h11 h => ⟨_, _, rfl, h11, (ob h fun ys h12 h => y_lcO h12 (fun d _ h _ hk => (zg2 (z_cb (za_cons (z_op (zv0 (zv2 (ob h fun z_3 h13 h => (y_ix .eq .eq h13 (za_cons (z_op (zv1 (zv2 (ob h fun z_4 h14 h => (y_ix .eq .eq h14 (za_nil (ob h fun z_5 h15 h => zc_call (S := Sn_law_same Ac _) ⟨_, _, _, _, rfl, .eq, h15, (y_lf h hk)⟩))))))))))))))))) (za_nil (ob h fun r h16 h => (y_all .eq h16 (y_ret (kd := kd_law_same) (x := r) [] h hit.rt rfl rfl)))))⟩))))))))))))))))⟩⟩))))))))))))))))))))⟩))⟩))))))))))))))⟩))⟩))))))))))))), fun hb => (have h := ifF hb h; (zs_nil (zs_seq (zs_if (zt_truth (z_cb (za_cons (zv1 (ob h fun b_10 h17 h => (za_cons (z_ty (za_nil (y_isi .eq h17 ⟨_, .bl _, ⟨fun hb => (have h := ifT hb h; (zs_ret (z_andV' (z_cb (za_cons (zv0 (ob h fun b_11 h18 h => (za_cons (z_ty (za_nil (y_isi .eq h18 ⟨_, rfl, (y_andV h (fun _ h _ hk => (z_op (zv0 (zv1 (ob h fun b_12 h19 h => (y_eq .eq .eq h19 (y_lf h hk))))))) (fun v h => (y_ret (kd := kd_law_same) (x := v) [] h hit.rt rfl rfl)))⟩))))))))))), fun hb => (have h := ifF hb h; (zs_nil (zs_ret (z_andV' (z_cb (za_cons (zv0 (ob h fun b_13 h20 h => (za_cons (z_ty (za_nil (y_isi .eq h20 ⟨_, rfl, (y_andV h (fun _ h _ hk => (z_andV' (z_notV (z_cb (za_cons (zv0 (ob h fun b_14 h21 h => (za_cons (z_ty (za_nil (y_isi .eq h21 ⟨_, rfl, ⟨_, rfl, (y_andV h (fun _ h _ hk => (z_op (zv0 (zv1 (ob h fun b_15 h22 h => (y_eq .eq .eq h22 (y_lf h hk))))))) (fun v_1 h => (y_lf h hk)))⟩⟩))))))))))) (fun v_2 h => (y_ret (kd := kd_law_same) (x := v_2) [] h hit.rt rfl rfl)))⟩))))))))))))⟩⟩)))))))))))))⟩))⟩))))))))))))
def kd_law_same_at (a_view : Addr) (c_view : List D) : D → D × Mem := fun x => (x, [(a_view, .lst c_view)])
theorem y_law_same_at {n_ : Nat} {due : D} {a_view : Addr} {c_view : List D} {out : D} (h : mS_law_same Ac (m_law_same Ac n_) (D.lst c_view) due = some out) {DD : ZEnds} (hit : HitD (kd_law_same_at a_view c_view) DD out) : ZS { K := K } (t_law_same K Ac (Sn_law_same Ac n_)) [some (.at a_view), some due, none] [(a_view, MO.lst c_view)] DD := by
  unfold mS_law_same at h
  unfold t_law_same
  exact (zs_seq (zs_if (zt_or' (zt_truth (z_cb (za_cons (zv1 (ob h fun b h1 h => (za_cons (z_ty (za_nil (y_isi .eq h1 ⟨_, .bl _, (y_or h (fun _ h _ hk => (zt_truth (z_cb (za_cons (zv1 (ob h fun b_1 h2 h => (za_cons (z_ty (za_nil (y_isi .eq h2 ⟨_, .bl _, (y_lfB h hk)⟩)))))))))) (fun b_2 h => ⟨fun hb => (have h := ifT hb h; (zs_seq (zs_if (zt_and' (zt_truth (z_cb (za_cons (zv1 (ob h fun b_3 h3 h => (za_cons (z_ty (za_nil (y_isi .eq h3 ⟨_, .bl _, (y_and h (fun _ h _ hk => (zt_not (zt_truth (z_cb (za_cons (zv0 (ob h fun b_4 h4 h => (za_cons (z_ty (za_nil (y_isi (.at 0 rfl) h4 ⟨_, .bl _, (y_lfB h hk)⟩))))))))))) (fun b_5 h => ⟨fun hb => (have h := ifT hb h; (zs_ret (z_bl (y_ret (kd := kd_law_same_at a_view c_view) (x := (D.bl false)) [] h hit.rt rfl rfl)))), fun hb => (have h := ifF hb h; (zs_nil (zs_seq (zs_if (zt_and' (zt_truth (z_cb (za_cons (zv1 (ob h fun b_6 h5 h => (za_cons (z_ty (za_nil (y_isi .eq h5 ⟨_, .bl _, (y_and h (fun _ h _ hk => (zt_not (zt_truth (z_cb (za_cons (zv0 (ob h fun b_7 h6 h => (za_cons (z_ty (za_nil (y_isi (.at 0 rfl) h6 ⟨_, .bl _, (y_lfB h hk)⟩))))))))))) (fun b_8 h => ⟨fun hb => (have h := ifT hb h; (zs_ret (z_bl (y_ret (kd := kd_law_same_at a_view c_view) (x := (D.bl false)) [] h hit.rt rfl rfl)))), fun hb => (have h := ifF hb h; (zs_nil (zs_seq (zs_if (zt_test (z_op (z_cb (za_cons (zv0 (za_nil (ob h fun z h7 h => (y_len (.at 0 rfl) h7 (z_cb (za_cons (zv1 (za_nil (ob h fun z_1 h8 h => (y_len .eq h8 (ob h fun b_9 h9 h => (y_ne .eq .eq h9 ⟨_, rfl, ⟨fun hb => (have h := ifT hb h; (zs_ret (z_bl (y_ret (kd := kd_law_same_at a_view c_view) (x := (D.bl false)) [] h hit.rt rfl rfl)))), fun hb => (have h := ifF hb h; (zs_nil (zs_ret (z_cb (za_cons (z_lc (own_name (by decide)) (zi_rng1' (za_cons (z_cb (za_cons (zv1 (za_nil (ob h fun z_2 h10 h => (y_len .eq h10 (za_nil (ob h fun ds h11 h => ⟨_, _, rfl, h11, (ob h fun ys h12 h => y_lcO h12 (fun d _ h _ hk => (zg2 (z_cb (za_cons (z_op (zv0 (zv2 (ob h fun z_3 h13 h => (y_ix (.at 0 rfl) .eq h13 (za_cons (z_op (zv1 (zv2 (ob h fun z_4 h14 h => (y_ix .eq .eq h14 (za_nil (ob h fun z_5 h15 h => zc_call (S := Sn_law_same Ac _) ⟨_, _, _, _, rfl, .eq, h15, (y_lf h hk)⟩))))))))))))))))) (za_nil (ob h fun r h16 h => (y_all .eq h16 (y_ret (kd := kd_law_same_at a_view c_view) (x := r) [] h hit.rt rfl rfl)))))⟩))))))))))))))))⟩⟩))))))))))))))))))))⟩))⟩))))))))))))))⟩))⟩))))))))))))), fun hb => (have h := ifF hb h; (zs_nil (zs_seq (zs_if (zt_truth (z_cb (za_cons (zv1 (ob h fun b_10 h17 h => (za_cons (z_ty (za_nil (y_isi .eq h17 ⟨_, .bl _, ⟨fun hb => (have h := ifT hb h; (zs_ret (z_andV' (z_cb (za_cons (zv0 (ob h fun b_11 h18 h => (za_cons (z_ty (za_nil (y_isi (.at 0 rfl) h18 ⟨_, rfl, (y_andV h (fun _ h _ hk => (z_op (zv0 (zv1 (ob h fun b_12 h19 h => (y_eq (.at 0 rfl) .eq h19 (y_lf h hk))))))) (fun v h => (y_ret (kd := kd_law_same_at a_view c_view) (x := v) [] h hit.rt rfl rfl)))⟩))))))))))), fun hb => (have h := ifF hb h; (zs_nil (zs_ret (z_andV' (z_cb (za_cons (zv0 (ob h fun b_13 h20 h => (za_cons (z_ty (za_nil (y_isi (.at 0 rfl) h20 ⟨_, rfl, (y_andV h (fun _ h _ hk => (z_andV' (z_notV (z_cb (za_cons (zv0 (ob h fun b_14 h21 h => (za_cons (z_ty (za_nil (y_isi (.at 0 rfl) h21 ⟨_, rfl, ⟨_, rfl, (y_andV h (fun _ h _ hk => (z_op (zv0 (zv1 (ob h fun b_15 h22 h => (y_eq (.at 0 rfl) .eq h22 (y_lf h hk))))))) (fun v_1 h => (y_lf h hk)))⟩⟩))))))))))) (fun v_2 h => (y_ret (kd := kd_law_same_at a_view c_view) (x := v_2) [] h hit.rt rfl rfl)))⟩))))))))))))⟩⟩)))))))))))))⟩))⟩))))))))))))
theorem z_law_same {n_ : Nat} {kk : D → Mem → Prop} {ds : List D} {M : Mem} (h : Sn_law_same Ac (n_ + 1) ds M kk) : ZS { K := K } (t_law_same K Ac (Sn_law_same Ac n_)) (startD N_law_same ds) M { nx := fun _ M' => kk .non M', rt := kk } := by
  obtain ⟨_, _, _, _, rfl, hv, hm, hk⟩ := h
  cases hv with
  | eq => exact zs_def0 hk fun DD hit => y_law_same T hm hit
  | «at» i hi =>
    exact zs_defG (kd := kd_law_same_at _ _) hi rfl (by rw [set_id hi]; exact hk) fun DD hit => y_law_same_at T hm hit
/-! _law_edge_seen -/
def kd_law_edge_seen : D → D × Mem := fun x => (x, [])
def S_law_edge_seen (Ac : Cs) : ZSp := fun ds M kk_ => ∃ (edge : D) (d : D), ds = [edge] ∧ m_law_edge_seen Ac edge = some d ∧ kk_ d M
theorem y_law_edge_seen {edge : D} {out : D} (h : m_law_edge_seen Ac edge = some out) {DD : ZEnds} (hit : HitD (kd_law_edge_seen) DD out) : ZS { K := K } (t_law_edge_seen K Ac) [some edge, none, none] [] DD := by
  unfold m_law_edge_seen at h
  unfold t_law_edge_seen
  exact (zs_seq (zs_asg (z_lc (own_name (by decide)) (zi_seqY (z_un (zv0 (ob h fun sources h1 h => (y_fld .eq h1 T.f_sources (ob h fun ds h2 h => ⟨_, h2, (ob h fun pairs h3 h => y_lcO h3 (fun d _ h _ hk => (zg2 (z_tup (za_cons (z_op (zv2 (z_int (ob h fun z h4 h => (y_ix .eq .eq h4 (za_cons (z_cb (za_cons (z_op (zv2 (z_int (ob h fun z_1 h5 h => (y_ix .eq .eq h5 (za_nil (ob h fun z_2 h6 h => (y_list .eq h6 (za_nil ⟨Nat.le_of_ble_eq_true rfl, (y_lf h hk)⟩))))))))))))))))))))) (zg1 (zs_ret (z_tup (za_cons (z_un (zv0 (ob h fun target h7 h => (y_fld .eq h7 T.f_target (za_cons (z_un (zv0 (ob h fun unknowns h8 h => (y_fld .eq h8 T.f_unknowns (za_cons (zv1 (za_cons (z_un (zv0 (ob h fun guards h9 h => (y_fld .eq h9 T.f_guards (za_cons (z_un (zv0 (ob h fun effect h10 h => (y_fld .eq h10 T.f_effect (za_cons (z_un (zv0 (ob h fun label h11 h => (y_fld .eq h11 T.f_label (za_nil ⟨Nat.le_of_ble_eq_true rfl, (y_ret (kd := kd_law_edge_seen) (x := (D.tup [target, unknowns, (D.lst pairs), guards, effect, label])) [] h hit.rt rfl rfl)⟩))))))))))))))))))))))))))))))))⟩)))))))))
theorem z_law_edge_seen {kk : D → Mem → Prop} {ds : List D} {M : Mem} (h : S_law_edge_seen Ac ds M kk) : ZS { K := K } (t_law_edge_seen K Ac) (startD N_law_edge_seen ds) M { nx := fun _ M' => kk .non M', rt := kk } := by
  obtain ⟨_, _, rfl, hm, hk⟩ := h
  exact zs_def0 hk fun DD hit => y_law_edge_seen T hm hit
/-! _law_units -/
def kd_law_units : D → D × Mem := fun x => (x, [])
def S_law_units (Ac : Cs) : ZSp := fun ds M kk_ => ∃ (size many : D) (d : D), ds = [size, many] ∧ m_law_units Ac size many = some d ∧ kk_ d M
theorem y_law_units {size : D} {many : D} {out : D} (h : m_law_units Ac size many = some out) {DD : ZEnds} (hit : HitD (kd_law_units) DD out) : ZS { K := K } (t_law_units K Ac) [some size, some many, none, none] [] DD := by
  unfold m_law_units at h
  unfold t_law_units
  exact (zs_ret (z_cb (za_cons (z_lc (own_name (by decide)) (zi_rng1' (za_cons (zv0 (za_nil (ob h fun ds h1 h => ⟨_, _, rfl, h1, (ob h fun ys h2 h => y_lcO h2 (fun d _ h _ hk => (zg3 (z_cb (za_cons (z_lc (own_name (by decide)) (zi_rng1' (za_cons (z_op (zv1 (z_int (ob h fun z h3 h => (y_add .eq .eq h3 (za_nil (ob h fun ds_1 h4 h => ⟨_, _, rfl, h4, (ob h fun ys_1 h5 h => y_lcO h5 (fun d_1 _ h _ hk => (zg2 (z_cb (za_cons (z_op (zv2 (zv3 (ob h fun b h6 h => (y_eq .eq .eq h6 (za_nil (ob h fun z_1 h7 h => (y_int h7 (y_lf h hk))))))))))))) (za_nil (ob h fun z_2 h8 h => (y_tuple .eq h8 (y_lf h hk)))))⟩)))))))))))))) (za_nil (ob h fun r h9 h => (y_tuple .eq h9 (y_ret (kd := kd_law_units) (x := r) [] h hit.rt rfl rfl)))))⟩)))))))))
theorem z_law_units {kk : D → Mem → Prop} {ds : List D} {M : Mem} (h : S_law_units Ac ds M kk) : ZS { K := K } (t_law_units K Ac) (startD N_law_units ds) M { nx := fun _ M' => kk .non M', rt := kk } := by
  obtain ⟨_, _, _, rfl, hm, hk⟩ := h
  exact zs_def0 hk fun DD hit => y_law_units T hm hit
/-! _law_frame_holds -/
def kd_law_frame_holds (a_purse : Addr) : D × List D → D × Mem := fun x => (x.1, [(a_purse, .lst x.2)])
def S_law_frame_holds (Ac : Cs) : ZSp := fun ds M kk_ => ∃ (a_purse : Addr) (purse : List D) (i : Nat) (d : D) (o' : List D) (M' : Mem), ds = [.at a_purse] ∧ M[i]? = some (a_purse, .lst purse) ∧ m_law_frame_holds Ac purse = some (d, o') ∧ M.set i (a_purse, .lst o') = M' ∧ kk_ d M'
theorem y_law_frame_holds {purse : List D} {a_purse : Addr} {out : D × List D} (h : m_law_frame_holds Ac purse = some out) {DD : ZEnds} (hit : HitD (kd_law_frame_holds a_purse) DD out) : ZS { K := K } (t_law_frame_holds K Ac (S_law_word Ac) (S_law_draw Ac) (S_law_coefficient Ac) (S_Frame_init Ac) (S_law_same Ac)) [some (.at a_purse), none, none, none, none, none, none, none, none] [(a_purse, MO.lst purse)] DD := by
  unfold m_law_frame_holds at h
  unfold t_law_frame_holds
  exact (zs_seq (zs_asg (z_cb (za_cons (zv0 (za_nil (obp h fun word purse_1 h1 h => zc_call (S := S_law_word Ac) ⟨_, _, 0, _, _, [(a_purse, MO.lst purse_1)], rfl, rfl, h1, rfl, (zg1 (zs_seq (zs_asg (z_op (z_int (z_cb (za_cons (zv0 (za_cons (z_int (za_nil (obp h fun z purse_2 h2 h => zc_call (S := S_law_draw Ac) ⟨_, _, _, 0, _, _, [(a_purse, MO.lst purse_2)], rfl, rfl, h2, rfl, (ob h fun many h3 h => (y_add .eq .eq h3 (zg2 (zs_seq (zs_asg (z_cb (za_cons (z_lc (own_name (by decide)) (zi_rng1' (za_cons (zv2 (za_nil (ob h fun ds h4 h => ⟨_, _, rfl, h4, (obp h fun ys purse_6 h5 h => y_lcS (S := List D) (fun purse_4 => [(a_purse, MO.lst purse_4)]) h5 (fun purse_3 d _ _ h _ hk => (zg4 (z_op (z_cb (za_cons (zv0 (za_nil (obp h fun z_1 purse_5 h6 h => zc_call (S := S_law_word Ac) ⟨_, _, 0, _, _, [(a_purse, MO.lst purse_5)], rfl, rfl, h6, rfl, (z_cb (za_cons (zv4 (za_nil (ob h fun z_2 h7 h => (y_str h7 (ob h fun z_3 h8 h => (y_add .eq .eq h8 (y_lfXD (Ms := (fun purse_4 => [(a_purse, MO.lst purse_4)])) (s := purse_5) h hk rfl)))))))))⟩)))))))) rfl (za_nil (ob h fun names h9 h => (y_tuple .eq h9 (zg3 (zs_seq (zs_asg (z_lstM (za_nil ⟨Nat.le_of_ble_eq_true rfl, (fun p__law_shapes => zg5 (zs_seq (zs_for (zi_rng1' (za_cons (z_op (z_int (z_cb (za_cons (zv0 (za_cons (z_int (za_nil (obp h fun z_9 purse_14 h29 h => zc_call (S := S_law_draw Ac) ⟨_, _, _, 1, _, _, [(p__law_shapes, MO.lst []), (a_purse, MO.lst purse_14)], rfl, rfl, h29, rfl, (ob h fun z_10 h30 h => (y_add .eq .eq h30 (za_nil (ob h fun ds_2 h31 h => ⟨_, _, rfl, h31, (y_forO (S := List D × List D) (fun (shapes, purse_7) => [some (.at a_purse), some word, some many, some names, none, some (.at p__law_shapes), none, none, none]) (fun (shapes, purse_7) => [(p__law_shapes, MO.lst shapes), (a_purse, MO.lst purse_7)]) h .rfl (fun (shapes_1, purse_8) d_1 _ h _ Jh10 => (zg4 (zs_one (zs_seq (zs_drop (z_bm (zv5 ⟨⟨_, .at 0 rfl⟩, (za_cons (z_cb (za_cons (z_lc (own_name (by decide)) (zi_rng1' (za_cons (zv2 (za_nil (ob h fun ds_1 h11 h => ⟨_, _, rfl, h11, (obp h fun ys_1 purse_13 h12 h => y_lcS (S := List D) (fun purse_11 => [(p__law_shapes, MO.lst shapes_1), (a_purse, MO.lst purse_11)]) h12 (fun purse_10 d_2 _ _ h _ hk => (zg6 (z_cb (za_cons (zv0 (za_nil (obp h fun z_4 purse_12 h13 h => zc_call (S := S_law_coefficient Ac) ⟨_, _, 1, _, _, [(p__law_shapes, MO.lst shapes_1), (a_purse, MO.lst purse_12)], rfl, rfl, h13, rfl, (y_lfXD (Ms := (fun purse_11 => [(p__law_shapes, MO.lst shapes_1), (a_purse, MO.lst purse_11)])) (s := purse_12) h hk rfl)⟩))))))) rfl (za_nil (ob h fun z_5 h14 h => (y_tuple .eq h14 (za_nil (ob h fun shapes_3 h15 h => y_append (i := 0) (M' := [(p__law_shapes, MO.lst shapes_3), (a_purse, MO.lst purse_13)]) rfl h15 rfl (zs_nil (y_nx h Jh10 (.keep (.keep (.keep (.keep (.drop (.keep (.keep (.keep (.keep .nil))))))))) rfl rfl))))))))⟩)))))))))⟩))))))) (fun (shapes_2, purse_9) h => (zs_seq (zs_asg (z_cb (za_cons (zv1 (za_cons (zv3 (za_cons (z_cb (za_cons (zv5 (za_nil (ob h fun z_6 h16 h => (y_tuple (.at 0 rfl) h16 (za_nil (ob h fun fs h17 h => y_make (S := S_Frame_init Ac) (fun _ => ⟨_, _, _, _, [], 0, _, _, rfl, rfl, h17, rfl, rfl, rfl⟩) (zg7 (zs_seq (zs_asg (z_cb (za_cons (z_str (za_cons (z_tup (za_cons (z_str (za_nil ⟨Nat.le_of_ble_eq_true rfl, (za_cons (z_tup (za_cons (z_tup (za_cons (z_int (za_nil ⟨Nat.le_of_ble_eq_true rfl, (za_nil ⟨Nat.le_of_ble_eq_true rfl, (za_nil (ob h fun fs_1 h18 h => y_make (S := S_Frame_init Ac) (fun _ => ⟨_, _, _, _, [], 0, _, _, rfl, rfl, h18, rfl, rfl, rfl⟩) (zg8 (zs_seq (zs_if (zt_not (zt_truth (z_cb (za_cons (z_tup (za_cons (z_un (zv7 (ob h fun name h19 h => (y_fld .eq h19 T.f_name (za_cons (z_un (zv7 (ob h fun variables h20 h => (y_fld .eq h20 T.f_variables (za_cons (z_un (zv7 (ob h fun forms h21 h => (y_fld .eq h21 T.f_forms (za_nil ⟨Nat.le_of_ble_eq_true rfl, (za_cons (z_tup (za_cons (zv1 (za_cons (zv3 (za_cons (z_cb (za_cons (zv5 (za_nil (ob h fun z_7 h22 h => (y_tuple (.at 0 rfl) h22 (za_nil ⟨Nat.le_of_ble_eq_true rfl, (za_nil (ob h fun z_8 h23 h => zc_call (S := S_law_same Ac) ⟨_, _, _, _, rfl, .eq, h23, (ob h fun b h24 h => ⟨_, y_truD .eq h24, ⟨fun hb => (have h := ifT hb h; (zs_ret (z_bl (y_ret (kd := kd_law_frame_holds a_purse) (x := ((D.bl false), purse_9)) [(p__law_shapes, MO.lst shapes_2)] h hit.rt rfl rfl)))), fun hb => (have h := ifF hb h; (zs_nil (zs_ret (z_cb (za_cons (z_tup (za_cons (z_un (zv8 (ob h fun name_1 h25 h => (y_fld .eq h25 T.f_name (za_cons (z_un (zv8 (ob h fun variables_1 h26 h => (y_fld .eq h26 T.f_variables (za_cons (z_un (zv8 (ob h fun forms_1 h27 h => (y_fld .eq h27 T.f_forms (za_nil ⟨Nat.le_of_ble_eq_true rfl, (za_cons (z_tup (za_cons (z_str (za_cons (z_tup (za_cons (z_str (za_nil ⟨Nat.le_of_ble_eq_true rfl, (za_cons (z_tup (za_cons (z_tup (za_cons (z_int (za_nil ⟨Nat.le_of_ble_eq_true rfl, (za_nil ⟨Nat.le_of_ble_eq_true rfl, (za_nil ⟨Nat.le_of_ble_eq_true rfl, (za_nil (ob h fun r h28 h => zc_call (S := S_law_same Ac) ⟨_, _, _, _, rfl, .eq, h28, (y_ret (kd := kd_law_frame_holds a_purse) (x := (r, purse_9)) [(p__law_shapes, MO.lst shapes_2)] h hit.rt rfl rfl)⟩))⟩)⟩)⟩)))))))⟩)))))))))⟩))))))))))))))))))))))⟩⟩)⟩))⟩))))))))))))))⟩))))))))))))))))))))))))))⟩)⟩)))))))⟩)))))))))))))))))))))))))))) rfl)⟩))))⟩))))))))))))))⟩)))))))))⟩)))))))))))))⟩))))))))))))⟩)))))))
theorem z_law_frame_holds {kk : D → Mem → Prop} {ds : List D} {M : Mem} (h : S_law_frame_holds Ac ds M kk) : ZS { K := K } (t_law_frame_holds K Ac (S_law_word Ac) (S_law_draw Ac) (S_law_coefficient Ac) (S_Frame_init Ac) (S_law_same Ac)) (startD N_law_frame_holds ds) M { nx := fun _ M' => kk .non M', rt := kk } := by
  obtain ⟨_, _, _, _, _, _, rfl, hi, hm, rfl, hk⟩ := h
  exact zs_def1 hi (out := (_, _)) hk fun DD hit => y_law_frame_holds T hm hit
/-! _law_pairs -/
def kd_law_pairs (a_purse : Addr) : D × List D → D × Mem := fun x => (x.1, [(a_purse, .lst x.2)])
def S_law_pairs (Ac : Cs) : ZSp := fun ds M kk_ => ∃ (a_purse : Addr) (many : D) (purse : List D) (i : Nat) (d : D) (o' : List D) (M' : Mem), ds = [.at a_purse, many] ∧ M[i]? = some (a_purse, .lst purse) ∧ m_law_pairs Ac purse many = some (d, o') ∧ M.set i (a_purse, .lst o') = M' ∧ kk_ d M'
theorem y_law_pairs {purse : List D} {many : D} {a_purse : Addr} {out : D × List D} (h : m_law_pairs Ac purse many = some out) {DD : ZEnds} (hit : HitD (kd_law_pairs a_purse) DD out) : ZS { K := K } (t_law_pairs K Ac (S_law_draw Ac) (S_law_rows Ac)) [some (.at a_purse), some many, none, none, none] [(a_purse, MO.lst purse)] DD := by
  unfold m_law_pairs at h
  unfold t_law_pairs
  exact (zs_seq (zs_asg (z_lstM (za_nil ⟨Nat.le_of_ble_eq_true rfl, (fun p__law_pairs => zg2 (zs_seq (zs_for (zi_rng1' (za_cons (z_cb (za_cons (zv0 (za_cons (z_int (za_nil (obp h fun z_3 purse_7 h8 h => zc_call (S := S_law_draw Ac) ⟨_, _, _, 1, _, _, [(p__law_pairs, MO.lst []), (a_purse, MO.lst purse_7)], rfl, rfl, h8, rfl, (za_nil (ob h fun ds h9 h => ⟨_, _, rfl, h9, (y_forO (S := List D × List D) (fun (pairs, purse_1) => [some (.at a_purse), some many, some (.at p__law_pairs), none, none]) (fun (pairs, purse_1) => [(p__law_pairs, MO.lst pairs), (a_purse, MO.lst purse_1)]) h .rfl (fun (pairs_1, purse_2) d _ h _ Jh1 => (zg3 (zs_seq (zs_asg (z_cb (za_cons (zv0 (za_cons (z_int (za_nil (obp h fun seat purse_4 h2 h => zc_call (S := S_law_draw Ac) ⟨_, _, _, 1, _, _, [(p__law_pairs, MO.lst pairs_1), (a_purse, MO.lst purse_4)], rfl, rfl, h2, rfl, (zg4 (zs_one (zs_seq (zs_drop (z_bm (zv2 ⟨⟨_, .at 0 rfl⟩, (za_cons (z_tup (za_cons (zv4 (za_cons (z_cb (za_cons (zv0 (za_cons (z_op (z_int (z_cb (za_cons (zv0 (za_cons (z_int (za_nil (obp h fun z purse_5 h3 h => zc_call (S := S_law_draw Ac) ⟨_, _, _, 1, _, _, [(p__law_pairs, MO.lst pairs_1), (a_purse, MO.lst purse_5)], rfl, rfl, h3, rfl, (ob h fun z_1 h4 h => (y_add .eq .eq h4 (za_cons (zv1 (za_nil (obp h fun z_2 purse_6 h5 h => zc_call (S := S_law_rows Ac) ⟨_, _, _, _, 1, _, _, [(p__law_pairs, MO.lst pairs_1), (a_purse, MO.lst purse_6)], rfl, rfl, h5, rfl, (za_nil ⟨Nat.le_of_ble_eq_true rfl, (za_nil (ob h fun pairs_3 h6 h => y_append (i := 0) (M' := [(p__law_pairs, MO.lst pairs_3), (a_purse, MO.lst purse_6)]) rfl h6 rfl (zs_nil (y_nx h Jh1 (.keep (.keep (.keep (.drop (.drop .nil))))) rfl rfl))))⟩)⟩))))))⟩))))))))))))))))))⟩))))))⟩))))))))))) (fun (pairs_2, purse_3) h => (zs_ret (z_cb (za_cons (zv2 (za_nil (ob h fun r h7 h => (y_tuple (.at 0 rfl) h7 (y_ret (kd := kd_law_pairs a_purse) (x := (r, purse_3)) [(p__law_pairs, MO.lst pairs_2)] h hit.rt rfl rfl))))))))) rfl)⟩))⟩))))))))))))⟩))))
theorem z_law_pairs {kk : D → Mem → Prop} {ds : List D} {M : Mem} (h : S_law_pairs Ac ds M kk) : ZS { K := K } (t_law_pairs K Ac (S_law_draw Ac) (S_law_rows Ac)) (startD N_law_pairs ds) M { nx := fun _ M' => kk .non M', rt := kk } := by
  obtain ⟨_, _, _, _, _, _, _, rfl, hi, hm, rfl, hk⟩ := h
  exact zs_def1 hi (out := (_, _)) hk fun DD hit => y_law_pairs T hm hit
/-! _law_due -/
def kd_law_due : D → D × Mem := fun x => (x, [])
def S_law_due (Ac : Cs) : ZSp := fun ds M kk_ => ∃ (aim many pairs checks rows word : D) (d : D), ds = [aim, many, pairs, checks, rows, word] ∧ m_law_due Ac aim many pairs checks rows word = some d ∧ kk_ d M
theorem y_law_due {aim : D} {many : D} {pairs : D} {checks : D} {rows : D} {word : D} {out : D} (h : m_law_due Ac aim many pairs checks rows word = some out) {DD : ZEnds} (hit : HitD (kd_law_due) DD out) : ZS { K := K } (t_law_due K Ac) [some aim, some many, some pairs, some checks, some rows, some word, none] [] DD := by
  unfold m_law_due at h
  unfold t_law_due
  exact (zs_ret (z_tup (za_cons (zv0 (za_cons (zv1 (za_cons (z_lc (own_name (by decide)) (zi_seqY (zv2 (ob h fun ds h1 h => ⟨_, h1, (ob h fun ys h2 h => y_lcO h2 (fun d _ h _ hk => (zg6 (z_tup (za_cons (z_op (zv6 (z_int (ob h fun z h3 h => (y_ix .eq .eq h3 (za_cons (z_cb (za_cons (z_op (zv6 (z_int (ob h fun z_1 h4 h => (y_ix .eq .eq h4 (za_nil (ob h fun z_2 h5 h => (y_list .eq h5 (za_nil ⟨Nat.le_of_ble_eq_true rfl, (y_lf h hk)⟩))))))))))))))))))))) (za_cons (zv3 (za_cons (zv4 (za_cons (zv5 (za_nil ⟨Nat.le_of_ble_eq_true rfl, (y_ret (kd := kd_law_due) (x := (D.tup [aim, many, (D.lst ys), checks, rows, word])) [] h hit.rt rfl rfl)⟩))))))))⟩)))))))))))
theorem z_law_due {kk : D → Mem → Prop} {ds : List D} {M : Mem} (h : S_law_due Ac ds M kk) : ZS { K := K } (t_law_due K Ac) (startD N_law_due ds) M { nx := fun _ M' => kk .non M', rt := kk } := by
  obtain ⟨_, _, _, _, _, _, _, rfl, hm, hk⟩ := h
  exact zs_def0 hk fun DD hit => y_law_due T hm hit
/-! _law_made -/
def kd_law_made (a_purse : Addr) : D × List D → D × Mem := fun x => (x.1, [(a_purse, .lst x.2)])
def S_law_made (Ac : Cs) : ZSp := fun ds M kk_ => ∃ (a_purse : Addr) (purse : List D) (i : Nat) (d : D) (o' : List D) (M' : Mem), ds = [.at a_purse] ∧ M[i]? = some (a_purse, .lst purse) ∧ m_law_made Ac purse = some (d, o') ∧ M.set i (a_purse, .lst o') = M' ∧ kk_ d M'
theorem y_law_made {purse : List D} {a_purse : Addr} {out : D × List D} (h : m_law_made Ac purse = some out) {DD : ZEnds} (hit : HitD (kd_law_made a_purse) DD out) : ZS { K := K } (t_law_made K Ac (S_law_draw Ac) (S_law_near Ac) (S_law_pairs Ac) (S_law_checks Ac) (S_law_rows Ac) (S_law_word Ac) (S_Edge_init Ac) (S_law_due Ac)) [some (.at a_purse), none, none, none, none, none, none, none, none, none] [(a_purse, MO.lst purse)] DD := by
  unfold m_law_made at h
  unfold t_law_made
  exact (zs_seq (zs_asg (z_cb (za_cons (zv0 (za_cons (z_int (za_nil (obp h fun way purse_1 h1 h => zc_call (S := S_law_draw Ac) ⟨_, _, _, 0, _, _, [(a_purse, MO.lst purse_1)], rfl, rfl, h1, rfl, (zg1 (zs_seq (zs_asg (z_cb (za_cons (zv0 (za_cons (z_cb (za_cons (zv0 (za_cons (z_int (za_nil (obp h fun z purse_2 h2 h => zc_call (S := S_law_draw Ac) ⟨_, _, _, 0, _, _, [(a_purse, MO.lst purse_2)], rfl, rfl, h2, rfl, (za_nil (obp h fun near purse_3 h3 h => zc_call (S := S_law_near Ac) ⟨_, _, _, 0, _, _, [(a_purse, MO.lst purse_3)], rfl, rfl, h3, rfl, (zg2 (zs_seq (zs_asg (z_cb (za_cons (zv2 (za_nil (ob h fun many h4 h => (y_len .eq h4 (zg3 (zs_seq (zs_asg (z_cb (za_cons (zv0 (za_cons (z_int (za_nil (obp h fun aim purse_4 h5 h => zc_call (S := S_law_draw Ac) ⟨_, _, _, 0, _, _, [(a_purse, MO.lst purse_4)], rfl, rfl, h5, rfl, (zg4 (zs_seq (zs_asg (z_cb (za_cons (zv0 (za_cons (zv3 (za_nil (obp h fun pairs purse_5 h6 h => zc_call (S := S_law_pairs Ac) ⟨_, _, _, 0, _, _, [(a_purse, MO.lst purse_5)], rfl, rfl, h6, rfl, (zg5 (zs_seq (zs_asg (z_cb (za_cons (zv0 (za_cons (zv2 (za_nil (obp h fun checks purse_6 h7 h => zc_call (S := S_law_checks Ac) ⟨_, _, _, 0, _, _, [(a_purse, MO.lst purse_6)], rfl, rfl, h7, rfl, (zg6 (zs_seq (zs_asg (z_cb (za_cons (zv0 (za_cons (z_cb (za_cons (zv0 (za_cons (z_int (za_nil (obp h fun z_1 purse_7 h8 h => zc_call (S := S_law_draw Ac) ⟨_, _, _, 0, _, _, [(a_purse, MO.lst purse_7)], rfl, rfl, h8, rfl, (za_cons (zv3 (za_nil (obp h fun rows purse_8 h9 h => zc_call (S := S_law_rows Ac) ⟨_, _, _, _, 0, _, _, [(a_purse, MO.lst purse_8)], rfl, rfl, h9, rfl, (zg7 (zs_seq (zs_asg (z_cb (za_cons (zv0 (za_nil (obp h fun word purse_9 h10 h => zc_call (S := S_law_word Ac) ⟨_, _, 0, _, _, [(a_purse, MO.lst purse_9)], rfl, rfl, h10, rfl, (zg8 (zs_seq (zs_if (zt_test (z_op (zv1 (z_int (ob h fun b h11 h => (y_eq .eq .eq h11 ⟨_, rfl, ⟨fun hb => (have h := ifT hb h; (zs_ret (z_tup (za_cons (z_makeK (za_cons (zv4 (za_cons (zv3 (za_nil (za_nil ⟨rfl, rfl, [aim, many, (D.tup []), (D.tup []), (D.tup []), (D.str "plain")], fun _ _ _ r1 r2 => r1.append ((Rps.one (T.d_Edge_init_sources _)).append ((Rps.one (T.d_Edge_init_guards _)).append ((Rps.one (T.d_Edge_init_effect _)).append ((Rps.one (.str _)).append .nil)))), (ob h fun fs h12 h => y_make (S := S_Edge_init Ac) (fun _ => ⟨_, _, _, _, _, _, _, [], 0, _, _, rfl, rfl, h12, rfl, rfl, rfl⟩) (za_cons (z_cb (za_cons (zv4 (za_cons (zv3 (za_cons (z_tup (za_nil ⟨Nat.le_of_ble_eq_true rfl, (za_cons (z_tup (za_nil ⟨Nat.le_of_ble_eq_true rfl, (za_cons (z_tup (za_nil ⟨Nat.le_of_ble_eq_true rfl, (za_cons (z_str (za_nil (ob h fun z_2 h13 h => zc_call (S := S_law_due Ac) ⟨_, _, _, _, _, _, _, rfl, h13, (za_cons (zv2 (za_nil ⟨Nat.le_of_ble_eq_true rfl, (y_ret (kd := kd_law_made a_purse) (x := ((D.tup [(D.obj Ac.c_Edge fs), z_2, near]), purse_9)) [] h hit.rt rfl rfl)⟩)))⟩))))⟩)))⟩)))⟩))))))))))⟩))))))))))), fun hb => (have h := ifF hb h; (zs_nil (zs_seq (zs_if (zt_test (z_op (zv1 (z_int (ob h fun b_1 h14 h => (y_eq .eq .eq h14 ⟨_, rfl, ⟨fun hb => (have h := ifT hb h; (zs_seq (zs_asg (z_makeK (za_cons (zv4 (za_cons (zv3 (za_nil (za_cons (zv8 (za_cons (zv7 (za_cons (zv6 (za_cons (zv5 (za_nil ⟨rfl, rfl, [aim, many, pairs, checks, rows, word], fun _ _ _ r1 r2 => r1.append (((r2.drop 3).take 1).append (((r2.drop 2).take 1).append (((r2.drop 1).take 1).append (((r2.drop 0).take 1).append .nil)))), (ob h fun fs_1 h15 h => y_make (S := S_Edge_init Ac) (fun _ => ⟨_, _, _, _, _, _, _, [], 0, _, _, rfl, rfl, h15, rfl, rfl, rfl⟩) (zg9 (zs_ret (z_tup (za_cons (zv9 (za_cons (z_cb (za_cons (zv4 (za_cons (zv3 (za_cons (zv5 (za_cons (zv6 (za_cons (zv7 (za_cons (zv8 (za_nil (ob h fun z_3 h16 h => zc_call (S := S_law_due Ac) ⟨_, _, _, _, _, _, _, rfl, h16, (za_cons (zv2 (za_nil ⟨Nat.le_of_ble_eq_true rfl, (y_ret (kd := kd_law_made a_purse) (x := ((D.tup [(D.obj Ac.c_Edge fs_1), z_3, near]), purse_9)) [] h hit.rt rfl rfl)⟩)))⟩))))))))))))))))))))))⟩)))))))))))))))))), fun hb => (have h := ifF hb h; (zs_nil (zs_seq (zs_if (zt_test (z_op (zv1 (z_int (ob h fun b_2 h17 h => (y_eq .eq .eq h17 ⟨_, rfl, ⟨fun hb => (have h := ifT hb h; (zs_seq (zs_asg (z_makeK (za_cons (zv4 (za_cons (zv3 (za_nil (za_cons (zv5 (za_cons (zv7 (za_nil ⟨rfl, rfl, [aim, many, pairs, (D.tup []), rows, (D.str "plain")], fun _ _ _ r1 r2 => r1.append (((r2.drop 0).take 1).append ((Rps.one (T.d_Edge_init_guards _)).append (((r2.drop 1).take 1).append ((Rps.one (.str _)).append .nil)))), (ob h fun fs_2 h18 h => y_make (S := S_Edge_init Ac) (fun _ => ⟨_, _, _, _, _, _, _, [], 0, _, _, rfl, rfl, h18, rfl, rfl, rfl⟩) (zg9 (zs_ret (z_tup (za_cons (zv9 (za_cons (z_cb (za_cons (zv4 (za_cons (zv3 (za_cons (zv5 (za_cons (z_tup (za_nil ⟨Nat.le_of_ble_eq_true rfl, (za_cons (zv7 (za_cons (z_str (za_nil (ob h fun z_4 h19 h => zc_call (S := S_law_due Ac) ⟨_, _, _, _, _, _, _, rfl, h19, (za_cons (zv2 (za_nil ⟨Nat.le_of_ble_eq_true rfl, (y_ret (kd := kd_law_made a_purse) (x := ((D.tup [(D.obj Ac.c_Edge fs_2), z_4, near]), purse_9)) [] h hit.rt rfl rfl)⟩)))⟩))))))⟩)))))))))))))))))⟩)))))))))))))), fun hb => (have h := ifF hb h; (zs_nil (zs_seq (zs_if (zt_test (z_op (zv1 (z_int (ob h fun b_3 h20 h => (y_eq .eq .eq h20 ⟨_, rfl, ⟨fun hb => (have h := ifT hb h; (zs_ret (z_tup (za_cons (z_makeK (za_cons (zv4 (za_cons (zv3 (za_nil (za_cons (zv6 (za_nil ⟨rfl, rfl, [aim, many, (D.tup []), checks, (D.tup []), (D.str "plain")], fun _ _ _ r1 r2 => r1.append ((Rps.one (T.d_Edge_init_sources _)).append (((r2.drop 0).take 1).append ((Rps.one (T.d_Edge_init_effect _)).append ((Rps.one (.str _)).append .nil)))), (ob h fun fs_3 h21 h => y_make (S := S_Edge_init Ac) (fun _ => ⟨_, _, _, _, _, _, _, [], 0, _, _, rfl, rfl, h21, rfl, rfl, rfl⟩) (za_cons (z_cb (za_cons (zv4 (za_cons (zv3 (za_cons (z_tup (za_nil ⟨Nat.le_of_ble_eq_true rfl, (za_cons (zv6 (za_cons (z_tup (za_nil ⟨Nat.le_of_ble_eq_true rfl, (za_cons (z_str (za_nil (ob h fun z_5 h22 h => zc_call (S := S_law_due Ac) ⟨_, _, _, _, _, _, _, rfl, h22, (za_cons (zv2 (za_nil ⟨Nat.le_of_ble_eq_true rfl, (y_ret (kd := kd_law_made a_purse) (x := ((D.tup [(D.obj Ac.c_Edge fs_3), z_5, near]), purse_9)) [] h hit.rt rfl rfl)⟩)))⟩))))⟩)))))⟩))))))))))⟩))))))))))))), fun hb => (have h := ifF hb h; (zs_nil (zs_seq (zs_if (zt_test (z_op (zv1 (z_int (ob h fun b_4 h23 h => (y_eq .eq .eq h23 ⟨_, rfl, ⟨fun hb => (have h := ifT hb h; (zs_seq (zs_asg (z_makeK (za_cons (zv4 (za_cons (zv3 (za_nil (za_cons (zv8 (za_cons (zv5 (za_nil ⟨rfl, rfl, [aim, many, pairs, (D.tup []), (D.tup []), word], fun _ _ _ r1 r2 => r1.append (((r2.drop 1).take 1).append ((Rps.one (T.d_Edge_init_guards _)).append ((Rps.one (T.d_Edge_init_effect _)).append (((r2.drop 0).take 1).append .nil)))), (ob h fun fs_4 h24 h => y_make (S := S_Edge_init Ac) (fun _ => ⟨_, _, _, _, _, _, _, [], 0, _, _, rfl, rfl, h24, rfl, rfl, rfl⟩) (zg9 (zs_ret (z_tup (za_cons (zv9 (za_cons (z_cb (za_cons (zv4 (za_cons (zv3 (za_cons (zv5 (za_cons (z_tup (za_nil ⟨Nat.le_of_ble_eq_true rfl, (za_cons (z_tup (za_nil ⟨Nat.le_of_ble_eq_true rfl, (za_cons (zv8 (za_nil (ob h fun z_6 h25 h => zc_call (S := S_law_due Ac) ⟨_, _, _, _, _, _, _, rfl, h25, (za_cons (zv2 (za_nil ⟨Nat.le_of_ble_eq_true rfl, (y_ret (kd := kd_law_made a_purse) (x := ((D.tup [(D.obj Ac.c_Edge fs_4), z_6, near]), purse_9)) [] h hit.rt rfl rfl)⟩)))⟩))))⟩)))⟩)))))))))))))))))⟩)))))))))))))), fun hb => (have h := ifF hb h; (zs_nil (zs_seq (zs_if (zt_test (z_op (zv1 (z_int (ob h fun b_5 h26 h => (y_eq .eq .eq h26 ⟨_, rfl, ⟨fun hb => (have h := ifT hb h; (zs_seq (zs_asg (z_makeK (za_cons (zv4 (za_cons (zv3 (za_nil (za_cons (zv7 (za_cons (zv8 (za_nil ⟨rfl, rfl, [aim, many, (D.tup []), (D.tup []), rows, word], fun _ _ _ r1 r2 => r1.append ((Rps.one (T.d_Edge_init_sources _)).append ((Rps.one (T.d_Edge_init_guards _)).append (((r2.drop 0).take 1).append (((r2.drop 1).take 1).append .nil)))), (ob h fun fs_5 h27 h => y_make (S := S_Edge_init Ac) (fun _ => ⟨_, _, _, _, _, _, _, [], 0, _, _, rfl, rfl, h27, rfl, rfl, rfl⟩) (zg9 (zs_ret (z_tup (za_cons (zv9 (za_cons (z_cb (za_cons (zv4 (za_cons (zv3 (za_cons (z_tup (za_nil ⟨Nat.le_of_ble_eq_true rfl, (za_cons (z_tup (za_nil ⟨Nat.le_of_ble_eq_true rfl, (za_cons (zv7 (za_cons (zv8 (za_nil (ob h fun z_7 h28 h => zc_call (S := S_law_due Ac) ⟨_, _, _, _, _, _, _, rfl, h28, (za_cons (zv2 (za_nil ⟨Nat.le_of_ble_eq_true rfl, (y_ret (kd := kd_law_made a_purse) (x := ((D.tup [(D.obj Ac.c_Edge fs_5), z_7, near]), purse_9)) [] h hit.rt rfl rfl)⟩)))⟩))))))⟩)))⟩)))))))))))))))⟩)))))))))))))), fun hb => (have h := ifF hb h; (zs_nil (zs_seq (zs_asg (z_makeK (za_cons (zv4 (za_cons (zv3 (za_nil (za_cons (zv5 (za_cons (zv6 (za_cons (zv7 (za_cons (zv8 (za_nil ⟨rfl, rfl, [aim, many, pairs, checks, rows, word], fun _ _ _ r1 r2 => r1.append (((r2.drop 0).take 1).append (((r2.drop 1).take 1).append (((r2.drop 2).take 1).append (((r2.drop 3).take 1).append .nil)))), (ob h fun fs_6 h29 h => y_make (S := S_Edge_init Ac) (fun _ => ⟨_, _, _, _, _, _, _, [], 0, _, _, rfl, rfl, h29, rfl, rfl, rfl⟩) (zg9 (zs_ret (z_tup (za_cons (zv9 (za_cons (z_cb (za_cons (zv4 (za_cons (zv3 (za_cons (zv5 (za_cons (zv6 (za_cons (zv7 (za_cons (zv8 (za_nil (ob h fun z_8 h30 h => zc_call (S := S_law_due Ac) ⟨_, _, _, _, _, _, _, rfl, h30, (za_cons (zv2 (za_nil ⟨Nat.le_of_ble_eq_true rfl, (y_ret (kd := kd_law_made a_purse) (x := ((D.tup [(D.obj Ac.c_Edge fs_6), z_8, near]), purse_9)) [] h hit.rt rfl rfl)⟩)))⟩))))))))))))))))))))))⟩)))))))))))))))))))⟩⟩))))))))))⟩⟩))))))))))⟩⟩))))))))))⟩⟩))))))))))⟩⟩))))))))))⟩⟩)))))))))⟩))))))))⟩))))⟩))))))))))))))⟩))))))))))⟩))))))))))⟩)))))))))))))))))))⟩))⟩))))))))))))))⟩)))))))))
theorem z_law_made {kk : D → Mem → Prop} {ds : List D} {M : Mem} (h : S_law_made Ac ds M kk) : ZS { K := K } (t_law_made K Ac (S_law_draw Ac) (S_law_near Ac) (S_law_pairs Ac) (S_law_checks Ac) (S_law_rows Ac) (S_law_word Ac) (S_Edge_init Ac) (S_law_due Ac)) (startD N_law_made ds) M { nx := fun _ M' => kk .non M', rt := kk } := by
  obtain ⟨_, _, _, _, _, _, rfl, hi, hm, rfl, hk⟩ := h
  exact zs_def1 hi (out := (_, _)) hk fun DD hit => y_law_made T hm hit
/-! _law_made_plain -/
def kd_law_made_plain (a_purse : Addr) : D × List D → D × Mem := fun x => (x.1, [(a_purse, .lst x.2)])
def S_law_made_plain (Ac : Cs) : ZSp := fun ds M kk_ => ∃ (a_purse : Addr) (purse : List D) (i : Nat) (d : D) (o' : List D) (M' : Mem), ds = [.at a_purse] ∧ M[i]? = some (a_purse, .lst purse) ∧ m_law_made_plain Ac purse = some (d, o') ∧ M.set i (a_purse, .lst o') = M' ∧ kk_ d M'
theorem y_law_made_plain {purse : List D} {a_purse : Addr} {out : D × List D} (h : m_law_made_plain Ac purse = some out) {DD : ZEnds} (hit : HitD (kd_law_made_plain a_purse) DD out) : ZS { K := K } (t_law_made_plain K Ac (S_law_draw Ac) (S_law_near Ac) (S_law_checks Ac) (S_law_rows Ac) (S_law_word Ac) (S_law_units Ac) (S_Edge_plain Ac) (S_law_due Ac)) [some (.at a_purse), none, none, none, none, none, none, none, none, none, none, none, none, none] [(a_purse, MO.lst purse)] DD := by
  unfold m_law_made_plain at h
  unfold t_law_made_plain
  exact (zs_seq (zs_asg (z_cb (za_cons (zv0 (za_cons (z_int (za_nil (obp h fun way purse_1 h1 h => zc_call (S := S_law_draw Ac) ⟨_, _, _, 0, _, _, [(a_purse, MO.lst purse_1)], rfl, rfl, h1, rfl, (zg1 (zs_seq (zs_asg (z_op (z_int (z_cb (za_cons (zv0 (za_cons (z_int (za_nil (obp h fun z purse_2 h2 h => zc_call (S := S_law_draw Ac) ⟨_, _, _, 0, _, _, [(a_purse, MO.lst purse_2)], rfl, rfl, h2, rfl, (ob h fun size h3 h => (y_add .eq .eq h3 (zg2 (zs_seq (zs_asg (z_cb (za_cons (zv0 (za_cons (z_int (za_nil (obp h fun more purse_3 h4 h => zc_call (S := S_law_draw Ac) ⟨_, _, _, 0, _, _, [(a_purse, MO.lst purse_3)], rfl, rfl, h4, rfl, (zg3 (y_join (N := D) (fun more_1 => [some (.at a_purse), some way, some size, some more_1, none, none, none, none, none, none, none, none, none, none]) (fun more_1 => [(a_purse, MO.lst purse_3)]) h (fun _ h _ Jh5 => (zs_if (zt_test (z_op (zv1 (z_tup (za_cons (z_int (za_cons (z_int (za_cons (z_int (za_nil ⟨Nat.le_of_ble_eq_true rfl, (ob h fun b h6 h => (y_inY .eq .eq h6 ⟨_, rfl, ⟨fun hb => (have h := ifT hb h; (zs_one (zs_seq (zs_asg (z_int (zg3 (zs_nil (y_nx h Jh5 .rfl rfl rfl)))))))), fun hb => (have h := ifF hb h; (zs_nil (y_nx h Jh5 .rfl rfl rfl)))⟩⟩))⟩))))))))))))) (fun more_2 h => (zs_seq (zs_asg (z_op (zv2 (zv3 (ob h fun many h7 h => (y_add .eq .eq h7 (zg4 (zs_seq (zs_asg (z_cb (za_cons (zv0 (za_cons (zv4 (za_nil (obp h fun near purse_4 h8 h => zc_call (S := S_law_near Ac) ⟨_, _, _, 0, _, _, [(a_purse, MO.lst purse_4)], rfl, rfl, h8, rfl, (zg5 (zs_seq (zs_asg (z_cb (za_cons (zv0 (za_cons (z_int (za_nil (obp h fun origin purse_5 h9 h => zc_call (S := S_law_draw Ac) ⟨_, _, _, 0, _, _, [(a_purse, MO.lst purse_5)], rfl, rfl, h9, rfl, (zg6 (zs_seq (zs_asg (z_cb (za_cons (zv0 (za_cons (z_int (za_nil (obp h fun aim purse_6 h10 h => zc_call (S := S_law_draw Ac) ⟨_, _, _, 0, _, _, [(a_purse, MO.lst purse_6)], rfl, rfl, h10, rfl, (zg7 (zs_seq (zs_asg (z_cb (za_cons (zv0 (za_cons (zv5 (za_nil (obp h fun checks purse_7 h11 h => zc_call (S := S_law_checks Ac) ⟨_, _, _, 0, _, _, [(a_purse, MO.lst purse_7)], rfl, rfl, h11, rfl, (zg8 (zs_seq (zs_asg (z_cb (za_cons (zv0 (za_cons (z_op (z_int (z_cb (za_cons (zv0 (za_cons (z_int (za_nil (obp h fun z_1 purse_8 h12 h => zc_call (S := S_law_draw Ac) ⟨_, _, _, 0, _, _, [(a_purse, MO.lst purse_8)], rfl, rfl, h12, rfl, (ob h fun z_2 h13 h => (y_add .eq .eq h13 (za_cons (zv4 (za_nil (obp h fun rows purse_9 h14 h => zc_call (S := S_law_rows Ac) ⟨_, _, _, _, 0, _, _, [(a_purse, MO.lst purse_9)], rfl, rfl, h14, rfl, (zg9 (zs_seq (zs_asg (z_cb (za_cons (zv0 (za_nil (obp h fun word purse_10 h15 h => zc_call (S := S_law_word Ac) ⟨_, _, 0, _, _, [(a_purse, MO.lst purse_10)], rfl, rfl, h15, rfl, (zg10 (zs_seq (zs_asg (z_cb (za_cons (zv2 (za_cons (zv4 (za_nil (ob h fun units h16 h => zc_call (S := S_law_units Ac) ⟨_, _, _, rfl, h16, (zg11 (zs_seq (zs_asg (z_tup (za_cons (z_tup (za_cons (zv6 (za_cons (zv11 (za_nil ⟨Nat.le_of_ble_eq_true rfl, (za_nil ⟨Nat.le_of_ble_eq_true rfl, (zg12 (zs_seq (zs_if (zt_test (z_op (zv1 (z_int (ob h fun b_1 h17 h => (y_eq .eq .eq h17 ⟨_, rfl, ⟨fun hb => (have h := ifT hb h; (zs_ret (z_tup (za_cons (z_cmK (z_C ⟨rfl, (za_cons (zv6 (za_cons (zv7 (za_cons (zv2 (za_nil (za_nil ⟨rfl, rfl, [origin, aim, size, (D.int 0), (D.tup []), D.non, (D.str "plain")], fun _ _ _ r1 r2 => r1.append ((Rps.one (.int _)).append ((Rps.one (T.d_Edge_plain_guards _)).append ((Rps.one .non).append ((Rps.one (.str _)).append .nil)))), ob h fun z_3 h18 h => zc_call (S := S_Edge_plain Ac) ⟨_, _, _, _, _, _, _, _, rfl, h18, (za_cons (z_cb (za_cons (zv7 (za_cons (zv4 (za_cons (zv12 (za_cons (z_tup (za_nil ⟨Nat.le_of_ble_eq_true rfl, (za_cons (zv11 (za_cons (z_str (za_nil (ob h fun z_4 h19 h => zc_call (S := S_law_due Ac) ⟨_, _, _, _, _, _, _, rfl, h19, (za_cons (zv5 (za_nil ⟨Nat.le_of_ble_eq_true rfl, (y_ret (kd := kd_law_made_plain a_purse) (x := ((D.tup [z_3, z_4, near]), purse_10)) [] h hit.rt rfl rfl)⟩)))⟩))))))⟩)))))))))))⟩⟩))))))))⟩)))))), fun hb => (have h := ifF hb h; (zs_nil (zs_seq (zs_if (zt_test (z_op (zv1 (z_int (ob h fun b_2 h20 h => (y_eq .eq .eq h20 ⟨_, rfl, ⟨fun hb => (have h := ifT hb h; (zs_seq (zs_asg (z_cmK (z_C ⟨rfl, (za_cons (zv6 (za_cons (zv7 (za_cons (zv2 (za_nil (za_cons (zv3 (za_cons (zv8 (za_cons (zv9 (za_cons (zv10 (za_nil ⟨rfl, rfl, [origin, aim, size, more_2, checks, rows, word], fun _ _ _ r1 r2 => r1.append (((r2.drop 0).take 1).append (((r2.drop 1).take 1).append (((r2.drop 2).take 1).append (((r2.drop 3).take 1).append .nil)))), ob h fun edge h21 h => zc_call (S := S_Edge_plain Ac) ⟨_, _, _, _, _, _, _, _, rfl, h21, (zg13 (zs_ret (z_tup (za_cons (zv13 (za_cons (z_cb (za_cons (zv7 (za_cons (zv4 (za_cons (zv12 (za_cons (zv8 (za_cons (zv9 (za_cons (zv10 (za_nil (ob h fun z_5 h22 h => zc_call (S := S_law_due Ac) ⟨_, _, _, _, _, _, _, rfl, h22, (za_cons (zv5 (za_nil ⟨Nat.le_of_ble_eq_true rfl, (y_ret (kd := kd_law_made_plain a_purse) (x := ((D.tup [edge, z_5, near]), purse_10)) [] h hit.rt rfl rfl)⟩)))⟩)))))))))))))))))))))⟩⟩))))))))))))))))⟩))))), fun hb => (have h := ifF hb h; (zs_nil (zs_seq (zs_if (zt_test (z_op (zv1 (z_int (ob h fun b_3 h23 h => (y_eq .eq .eq h23 ⟨_, rfl, ⟨fun hb => (have h := ifT hb h; (zs_seq (zs_asg (z_cmK (z_C ⟨rfl, (za_cons (zv6 (za_cons (zv7 (za_cons (zv2 (za_nil (za_cons (zv10 (za_cons (zv9 (za_cons (zv8 (za_cons (zv3 (za_nil ⟨rfl, rfl, [origin, aim, size, more_2, checks, rows, word], fun _ _ _ r1 r2 => r1.append (((r2.drop 3).take 1).append (((r2.drop 2).take 1).append (((r2.drop 1).take 1).append (((r2.drop 0).take 1).append .nil)))), ob h fun edge_1 h24 h => zc_call (S := S_Edge_plain Ac) ⟨_, _, _, _, _, _, _, _, rfl, h24, (zg13 (zs_ret (z_tup (za_cons (zv13 (za_cons (z_cb (za_cons (zv7 (za_cons (zv4 (za_cons (zv12 (za_cons (zv8 (za_cons (zv9 (za_cons (zv10 (za_nil (ob h fun z_6 h25 h => zc_call (S := S_law_due Ac) ⟨_, _, _, _, _, _, _, rfl, h25, (za_cons (zv5 (za_nil ⟨Nat.le_of_ble_eq_true rfl, (y_ret (kd := kd_law_made_plain a_purse) (x := ((D.tup [edge_1, z_6, near]), purse_10)) [] h hit.rt rfl rfl)⟩)))⟩)))))))))))))))))))))⟩⟩))))))))))))))))⟩))))), fun hb => (have h := ifF hb h; (zs_nil (zs_seq (zs_if (zt_test (z_op (zv1 (z_int (ob h fun b_4 h26 h => (y_eq .eq .eq h26 ⟨_, rfl, ⟨fun hb => (have h := ifT hb h; (zs_seq (zs_asg (z_cmK (z_C ⟨rfl, (za_cons (zv6 (za_cons (zv7 (za_cons (zv2 (za_nil (za_cons (zv8 (za_nil ⟨rfl, rfl, [origin, aim, size, (D.int 0), checks, D.non, (D.str "plain")], fun _ _ _ r1 r2 => r1.append ((Rps.one (.int _)).append (((r2.drop 0).take 1).append ((Rps.one .non).append ((Rps.one (.str _)).append .nil)))), ob h fun edge_2 h27 h => zc_call (S := S_Edge_plain Ac) ⟨_, _, _, _, _, _, _, _, rfl, h27, (zg13 (zs_ret (z_tup (za_cons (zv13 (za_cons (z_cb (za_cons (zv7 (za_cons (zv4 (za_cons (zv12 (za_cons (zv8 (za_cons (zv11 (za_cons (z_str (za_nil (ob h fun z_7 h28 h => zc_call (S := S_law_due Ac) ⟨_, _, _, _, _, _, _, rfl, h28, (za_cons (zv5 (za_nil ⟨Nat.le_of_ble_eq_true rfl, (y_ret (kd := kd_law_made_plain a_purse) (x := ((D.tup [edge_2, z_7, near]), purse_10)) [] h hit.rt rfl rfl)⟩)))⟩)))))))))))))))))))))⟩⟩))))))))))⟩))))), fun hb => (have h := ifF hb h; (zs_nil (zs_seq (zs_if (zt_test (z_op (zv1 (z_int (ob h fun b_5 h29 h => (y_eq .eq .eq h29 ⟨_, rfl, ⟨fun hb => (have h := ifT hb h; (zs_seq (zs_asg (z_cmK (z_C ⟨rfl, (za_cons (zv6 (za_cons (zv7 (za_cons (zv2 (za_nil (za_cons (z_non (za_cons (zv3 (za_nil ⟨rfl, rfl, [origin, aim, size, more_2, (D.tup []), D.non, (D.str "plain")], fun _ _ _ r1 r2 => r1.append (((r2.drop 1).take 1).append ((Rps.one (T.d_Edge_plain_guards _)).append (((r2.drop 0).take 1).append ((Rps.one (.str _)).append .nil)))), ob h fun edge_3 h30 h => zc_call (S := S_Edge_plain Ac) ⟨_, _, _, _, _, _, _, _, rfl, h30, (zg13 (zs_ret (z_tup (za_cons (zv13 (za_cons (z_cb (za_cons (zv7 (za_cons (zv4 (za_cons (zv12 (za_cons (z_tup (za_nil ⟨Nat.le_of_ble_eq_true rfl, (za_cons (zv11 (za_cons (z_str (za_nil (ob h fun z_8 h31 h => zc_call (S := S_law_due Ac) ⟨_, _, _, _, _, _, _, rfl, h31, (za_cons (zv5 (za_nil ⟨Nat.le_of_ble_eq_true rfl, (y_ret (kd := kd_law_made_plain a_purse) (x := ((D.tup [edge_3, z_8, near]), purse_10)) [] h hit.rt rfl rfl)⟩)))⟩))))))⟩))))))))))))))))⟩⟩))))))))))))⟩))))), fun hb => (have h := ifF hb h; (zs_nil (zs_seq (zs_if (zt_test (z_op (zv1 (z_int (ob h fun b_6 h32 h => (y_eq .eq .eq h32 ⟨_, rfl, ⟨fun hb => (have h := ifT hb h; (zs_seq (zs_asg (z_cmK (z_C ⟨rfl, (za_cons (zv6 (za_cons (zv7 (za_cons (zv2 (za_nil (za_cons (zv3 (za_cons (zv10 (za_nil ⟨rfl, rfl, [origin, aim, size, more_2, (D.tup []), D.non, word], fun _ _ _ r1 r2 => r1.append (((r2.drop 0).take 1).append ((Rps.one (T.d_Edge_plain_guards _)).append ((Rps.one .non).append (((r2.drop 1).take 1).append .nil)))), ob h fun edge_4 h33 h => zc_call (S := S_Edge_plain Ac) ⟨_, _, _, _, _, _, _, _, rfl, h33, (zg13 (zs_ret (z_tup (za_cons (zv13 (za_cons (z_cb (za_cons (zv7 (za_cons (zv4 (za_cons (zv12 (za_cons (z_tup (za_nil ⟨Nat.le_of_ble_eq_true rfl, (za_cons (zv11 (za_cons (zv10 (za_nil (ob h fun z_9 h34 h => zc_call (S := S_law_due Ac) ⟨_, _, _, _, _, _, _, rfl, h34, (za_cons (zv5 (za_nil ⟨Nat.le_of_ble_eq_true rfl, (y_ret (kd := kd_law_made_plain a_purse) (x := ((D.tup [edge_4, z_9, near]), purse_10)) [] h hit.rt rfl rfl)⟩)))⟩))))))⟩))))))))))))))))⟩⟩))))))))))))⟩))))), fun hb => (have h := ifF hb h; (zs_nil (zs_ret (z_tup (za_cons (z_cmK (z_C ⟨rfl, (za_cons (zv6 (za_cons (zv7 (za_cons (zv2 (za_nil (za_cons (zv9 (za_nil ⟨rfl, rfl, [origin, aim, size, (D.int 0), (D.tup []), rows, (D.str "plain")], fun _ _ _ r1 r2 => r1.append ((Rps.one (.int _)).append ((Rps.one (T.d_Edge_plain_guards _)).append (((r2.drop 0).take 1).append ((Rps.one (.str _)).append .nil)))), ob h fun z_10 h35 h => zc_call (S := S_Edge_plain Ac) ⟨_, _, _, _, _, _, _, _, rfl, h35, (za_cons (z_cb (za_cons (zv7 (za_cons (zv4 (za_cons (zv12 (za_cons (z_tup (za_nil ⟨Nat.le_of_ble_eq_true rfl, (za_cons (zv9 (za_cons (z_str (za_nil (ob h fun z_11 h36 h => zc_call (S := S_law_due Ac) ⟨_, _, _, _, _, _, _, rfl, h36, (za_cons (zv5 (za_nil ⟨Nat.le_of_ble_eq_true rfl, (y_ret (kd := kd_law_made_plain a_purse) (x := ((D.tup [z_10, z_11, near]), purse_10)) [] h hit.rt rfl rfl)⟩)))⟩))))))⟩)))))))))))⟩⟩))))))))))⟩)))))))⟩⟩))))))))))⟩⟩))))))))))⟩⟩))))))))))⟩⟩))))))))))⟩⟩))))))))))⟩⟩)))))))))⟩)⟩)))))))))))⟩))))))))))⟩))))))))⟩))))))⟩))))))))))))))))⟩))))))))))⟩))))))))))⟩))))))))))⟩))))))))))))))))))))⟩))))))))))))⟩))))))))))))⟩)))))))))
theorem z_law_made_plain {kk : D → Mem → Prop} {ds : List D} {M : Mem} (h : S_law_made_plain Ac ds M kk) : ZS { K := K } (t_law_made_plain K Ac (S_law_draw Ac) (S_law_near Ac) (S_law_checks Ac) (S_law_rows Ac) (S_law_word Ac) (S_law_units Ac) (S_Edge_plain Ac) (S_law_due Ac)) (startD N_law_made_plain ds) M { nx := fun _ M' => kk .non M', rt := kk } := by
  obtain ⟨_, _, _, _, _, _, rfl, hi, hm, rfl, hk⟩ := h
  exact zs_def1 hi (out := (_, _)) hk fun DD hit => y_law_made_plain T hm hit
/-! _law_made_start -/
def kd_law_made_start (a_purse : Addr) : D × List D → D × Mem := fun x => (x.1, [(a_purse, .lst x.2)])
def S_law_made_start (Ac : Cs) : ZSp := fun ds M kk_ => ∃ (a_purse : Addr) (purse : List D) (i : Nat) (d : D) (o' : List D) (M' : Mem), ds = [.at a_purse] ∧ M[i]? = some (a_purse, .lst purse) ∧ m_law_made_start Ac purse = some (d, o') ∧ M.set i (a_purse, .lst o') = M' ∧ kk_ d M'
theorem y_law_made_start {purse : List D} {a_purse : Addr} {out : D × List D} (h : m_law_made_start Ac purse = some out) {DD : ZEnds} (hit : HitD (kd_law_made_start a_purse) DD out) : ZS { K := K } (t_law_made_start K Ac (S_law_draw Ac) (S_law_near Ac) (S_law_checks Ac) (S_law_rows Ac) (S_Edge_start Ac) (S_law_due Ac)) [some (.at a_purse), none, none, none, none, none, none, none] [(a_purse, MO.lst purse)] DD := by
  unfold m_law_made_start at h
  unfold t_law_made_start
  exact (zs_seq (zs_asg (z_cb (za_cons (zv0 (za_cons (z_int (za_nil (obp h fun way purse_1 h1 h => zc_call (S := S_law_draw Ac) ⟨_, _, _, 0, _, _, [(a_purse, MO.lst purse_1)], rfl, rfl, h1, rfl, (zg1 (zs_seq (zs_asg (z_cb (za_cons (zv0 (za_cons (z_cb (za_cons (zv0 (za_cons (z_int (za_nil (obp h fun z purse_2 h2 h => zc_call (S := S_law_draw Ac) ⟨_, _, _, 0, _, _, [(a_purse, MO.lst purse_2)], rfl, rfl, h2, rfl, (za_nil (obp h fun near purse_3 h3 h => zc_call (S := S_law_near Ac) ⟨_, _, _, 0, _, _, [(a_purse, MO.lst purse_3)], rfl, rfl, h3, rfl, (zg2 (zs_seq (zs_asg (z_cb (za_cons (zv2 (za_nil (ob h fun many h4 h => (y_len .eq h4 (zg3 (zs_seq (zs_asg (z_cb (za_cons (zv0 (za_cons (z_int (za_nil (obp h fun aim purse_4 h5 h => zc_call (S := S_law_draw Ac) ⟨_, _, _, 0, _, _, [(a_purse, MO.lst purse_4)], rfl, rfl, h5, rfl, (zg4 (zs_seq (zs_asg (z_cb (za_cons (zv0 (za_cons (zv2 (za_nil (obp h fun checks purse_5 h6 h => zc_call (S := S_law_checks Ac) ⟨_, _, _, 0, _, _, [(a_purse, MO.lst purse_5)], rfl, rfl, h6, rfl, (zg5 (zs_seq (zs_asg (z_cb (za_cons (zv0 (za_cons (z_cb (za_cons (zv0 (za_cons (z_int (za_nil (obp h fun z_1 purse_6 h7 h => zc_call (S := S_law_draw Ac) ⟨_, _, _, 0, _, _, [(a_purse, MO.lst purse_6)], rfl, rfl, h7, rfl, (za_cons (zv3 (za_nil (obp h fun rows purse_7 h8 h => zc_call (S := S_law_rows Ac) ⟨_, _, _, _, 0, _, _, [(a_purse, MO.lst purse_7)], rfl, rfl, h8, rfl, (zg6 (zs_seq (zs_if (zt_test (z_op (zv1 (z_int (ob h fun b h9 h => (y_eq .eq .eq h9 ⟨_, rfl, ⟨fun hb => (have h := ifT hb h; (zs_ret (z_tup (za_cons (z_cmK (z_C ⟨rfl, (za_cons (zv4 (za_cons (zv3 (za_nil (za_nil ⟨rfl, rfl, [aim, many, (D.tup []), (D.tup [])], fun _ _ _ r1 r2 => r1.append ((Rps.one (T.d_Edge_start_guards _)).append ((Rps.one (T.d_Edge_start_effect _)).append .nil)), ob h fun z_2 h10 h => zc_call (S := S_Edge_start Ac) ⟨_, _, _, _, _, rfl, h10, (za_cons (z_cb (za_cons (zv4 (za_cons (zv3 (za_cons (z_tup (za_nil ⟨Nat.le_of_ble_eq_true rfl, (za_cons (z_tup (za_nil ⟨Nat.le_of_ble_eq_true rfl, (za_cons (z_tup (za_nil ⟨Nat.le_of_ble_eq_true rfl, (za_cons (z_str (za_nil (ob h fun z_3 h11 h => zc_call (S := S_law_due Ac) ⟨_, _, _, _, _, _, _, rfl, h11, (za_cons (zv2 (za_nil ⟨Nat.le_of_ble_eq_true rfl, (y_ret (kd := kd_law_made_start a_purse) (x := ((D.tup [z_2, z_3, near]), purse_7)) [] h hit.rt rfl rfl)⟩)))⟩))))⟩)))⟩)))⟩)))))))))⟩⟩))))))⟩)))))), fun hb => (have h := ifF hb h; (zs_nil (zs_seq (zs_if (zt_test (z_op (zv1 (z_int (ob h fun b_1 h12 h => (y_eq .eq .eq h12 ⟨_, rfl, ⟨fun hb => (have h := ifT hb h; (zs_seq (zs_asg (z_cmK (z_C ⟨rfl, (za_cons (zv4 (za_cons (zv3 (za_nil (za_cons (zv5 (za_cons (zv6 (za_nil ⟨rfl, rfl, [aim, many, checks, rows], fun _ _ _ r1 r2 => r1.append (((r2.drop 0).take 1).append (((r2.drop 1).take 1).append .nil)), ob h fun edge h13 h => zc_call (S := S_Edge_start Ac) ⟨_, _, _, _, _, rfl, h13, (zg7 (zs_ret (z_tup (za_cons (zv7 (za_cons (z_cb (za_cons (zv4 (za_cons (zv3 (za_cons (z_tup (za_nil ⟨Nat.le_of_ble_eq_true rfl, (za_cons (zv5 (za_cons (zv6 (za_cons (z_str (za_nil (ob h fun z_4 h14 h => zc_call (S := S_law_due Ac) ⟨_, _, _, _, _, _, _, rfl, h14, (za_cons (zv2 (za_nil ⟨Nat.le_of_ble_eq_true rfl, (y_ret (kd := kd_law_made_start a_purse) (x := ((D.tup [edge, z_4, near]), purse_7)) [] h hit.rt rfl rfl)⟩)))⟩))))))))⟩))))))))))))))⟩⟩))))))))))⟩))))), fun hb => (have h := ifF hb h; (zs_nil (zs_seq (zs_if (zt_test (z_op (zv1 (z_int (ob h fun b_2 h15 h => (y_eq .eq .eq h15 ⟨_, rfl, ⟨fun hb => (have h := ifT hb h; (zs_ret (z_tup (za_cons (z_cmK (z_C ⟨rfl, (za_cons (zv4 (za_cons (zv3 (za_nil (za_cons (zv6 (za_nil ⟨rfl, rfl, [aim, many, (D.tup []), rows], fun _ _ _ r1 r2 => r1.append ((Rps.one (T.d_Edge_start_guards _)).append (((r2.drop 0).take 1).append .nil)), ob h fun z_5 h16 h => zc_call (S := S_Edge_start Ac) ⟨_, _, _, _, _, rfl, h16, (za_cons (z_cb (za_cons (zv4 (za_cons (zv3 (za_cons (z_tup (za_nil ⟨Nat.le_of_ble_eq_true rfl, (za_cons (z_tup (za_nil ⟨Nat.le_of_ble_eq_true rfl, (za_cons (zv6 (za_cons (z_str (za_nil (ob h fun z_6 h17 h => zc_call (S := S_law_due Ac) ⟨_, _, _, _, _, _, _, rfl, h17, (za_cons (zv2 (za_nil ⟨Nat.le_of_ble_eq_true rfl, (y_ret (kd := kd_law_made_start a_purse) (x := ((D.tup [z_5, z_6, near]), purse_7)) [] h hit.rt rfl rfl)⟩)))⟩))))))⟩)))⟩)))))))))⟩⟩))))))))⟩)))))), fun hb => (have h := ifF hb h; (zs_nil (zs_seq (zs_asg (z_cmK (z_C ⟨rfl, (za_cons (zv4 (za_cons (zv3 (za_nil (za_cons (zv6 (za_cons (zv5 (za_nil ⟨rfl, rfl, [aim, many, checks, rows], fun _ _ _ r1 r2 => r1.append (((r2.drop 1).take 1).append (((r2.drop 0).take 1).append .nil)), ob h fun edge_1 h18 h => zc_call (S := S_Edge_start Ac) ⟨_, _, _, _, _, rfl, h18, (zg7 (zs_ret (z_tup (za_cons (zv7 (za_cons (z_cb (za_cons (zv4 (za_cons (zv3 (za_cons (z_tup (za_nil ⟨Nat.le_of_ble_eq_true rfl, (za_cons (zv5 (za_cons (zv6 (za_cons (z_str (za_nil (ob h fun z_7 h19 h => zc_call (S := S_law_due Ac) ⟨_, _, _, _, _, _, _, rfl, h19, (za_cons (zv2 (za_nil ⟨Nat.le_of_ble_eq_true rfl, (y_ret (kd := kd_law_made_start a_purse) (x := ((D.tup [edge_1, z_7, near]), purse_7)) [] h hit.rt rfl rfl)⟩)))⟩))))))))⟩))))))))))))))⟩⟩))))))))))⟩))))))⟩⟩))))))))))⟩⟩))))))))))⟩⟩)))))))))⟩))))⟩))))))))))))))⟩))))))))))⟩)))))))))))))))))))⟩))⟩))))))))))))))⟩)))))))))
theorem z_law_made_start {kk : D → Mem → Prop} {ds : List D} {M : Mem} (h : S_law_made_start Ac ds M kk) : ZS { K := K } (t_law_made_start K Ac (S_law_draw Ac) (S_law_near Ac) (S_law_checks Ac) (S_law_rows Ac) (S_Edge_start Ac) (S_law_due Ac)) (startD N_law_made_start ds) M { nx := fun _ M' => kk .non M', rt := kk } := by
  obtain ⟨_, _, _, _, _, _, rfl, hi, hm, rfl, hk⟩ := h
  exact zs_def1 hi (out := (_, _)) hk fun DD hit => y_law_made_start T hm hit
/-! _law_sums_hold -/
def kd_law_sums_hold : D → D × Mem := fun x => (x, [])
def S_law_sums_hold (Ac : Cs) : ZSp := fun ds M kk_ => ∃ (edge due values : D) (d : D), ds = [edge, due, values] ∧ m_law_sums_hold Ac edge due values = some d ∧ kk_ d M
theorem y_law_sums_hold {edge : D} {due : D} {values : D} {out : D} (h : m_law_sums_hold Ac edge due values = some out) {DD : ZEnds} (hit : HitD (kd_law_sums_hold) DD out) : ZS { K := K } (t_law_sums_hold K Ac (S_law_value Ac) (S_Edge_guards_hold Ac) (S_Edge_source_state Ac) (S_law_same Ac) (S_Edge_target_state Ac)) [some edge, some due, some values, none, none, none, none, none] [] DD := by
  unfold m_law_sums_hold at h
  unfold t_law_sums_hold
  exact (zs_seq (zs_asg (z_cb (za_cons (z_lc (own_name (by decide)) (zi_seqY (z_op (zv1 (z_int (ob h fun z h1 h => (y_ix .eq .eq h1 (ob h fun ds h2 h => ⟨_, h2, (ob h fun ys h3 h => y_lcO h3 (fun d _ h _ hk => (zg4 (z_op (z_cb (za_cons (zv4 (za_cons (zv2 (za_nil (ob h fun z_1 h4 h => zc_call (S := S_law_value Ac) ⟨_, _, _, rfl, h4, (z_int (ob h fun b h5 h => (y_le .eq .eq h5 (y_lf h hk))))⟩)))))))))) (za_nil (ob h fun held h6 h => (y_all .eq h6 (zg3 (zs_seq (zs_asg (z_mth (zv0 (ob h fun u h7 h => ⟨⟨_, .eq, h7⟩, (za_cons (zv2 (za_nil (ob h fun told h8 h => zc_call (S := S_Edge_guards_hold Ac) ⟨_, _, _, rfl, h8, (zg5 (zs_seq (zs_if (zt_and' (zt_truth (zv3 (ob h fun b_1 h9 h => ⟨_, y_truD .eq h9, (y_and h (fun _ h _ hk => (zt_test (z_op (zv5 (z_bl (ob h fun b_2 h10 h => (y_notB (dBl_some h10) ⟨_, rfl, (y_lfB h hk)⟩))))))) (fun b_3 h => ⟨fun hb => (have h := ifT hb h; (zs_ret (z_bl (y_ret (kd := kd_law_sums_hold) (x := (D.bl false)) [] h hit.rt rfl rfl)))), fun hb => (have h := ifF hb h; (zs_nil (zs_seq (zs_if (zt_and' (zt_not (zt_truth (zv3 (ob h fun b_4 h11 h => ⟨_, y_truD .eq h11, (y_and h (fun _ h _ hk => (zt_test (z_op (zv5 (z_bl (ob h fun b_5 h12 h => (y_notB (dBl_some h12) ⟨_, rfl, (y_lfB h hk)⟩))))))) (fun b_6 h => ⟨fun hb => (have h := ifT hb h; (zs_ret (z_bl (y_ret (kd := kd_law_sums_hold) (x := (D.bl false)) [] h hit.rt rfl rfl)))), fun hb => (have h := ifF hb h; (zs_nil (zs_seq (zs_for (zi_rng1' (za_cons (z_cb (za_cons (z_op (zv1 (z_int (ob h fun z_11 h33 h => (y_ix .eq .eq h33 (za_nil (ob h fun z_12 h34 h => (y_len .eq h34 (za_nil (ob h fun ds_3 h35 h => ⟨_, _, rfl, h35, (y_forD (S := Unit) (kd := kd_law_sums_hold) (fun _ => [some edge, some due, some values, some held, none, some told, none, none]) (fun _ => []) h hit.rt .rfl (fun _ d_1 _ h _ Jh13 => (zg6 (zs_seq (zs_asg (z_cb (za_cons (z_lc (own_name (by decide)) (zi_seqY (z_op (z_op (z_op (zv1 (z_int (ob h fun z_2 h14 h => (y_ix .eq .eq h14 (zv6 (ob h fun z_3 h15 h => (y_ix .eq .eq h15 (z_int (ob h fun z_4 h16 h => (y_ix .eq .eq h16 (ob h fun ds_1 h17 h => ⟨_, h17, (ob h fun ys_1 h18 h => y_lcO h18 (fun d_2 _ h _ hk => (zg4 (z_cb (za_cons (zv4 (za_cons (zv2 (za_nil (ob h fun z_5 h19 h => zc_call (S := S_law_value Ac) ⟨_, _, _, rfl, h19, (y_lf h hk)⟩))))))))) (za_nil (ob h fun wanted h20 h => (y_tuple .eq h20 (zg7 (zs_if (zt_not (zt_truth (z_cb (za_cons (z_mth (zv0 (ob h fun u_1 h21 h => ⟨⟨_, .eq, h21⟩, (za_cons (zv6 (za_cons (zv2 (za_nil (ob h fun z_6 h22 h => zc_call (S := S_Edge_source_state Ac) ⟨_, _, _, _, rfl, h22, (za_cons (zv7 (za_nil (ob h fun z_7 h23 h => zc_call (S := S_law_same Ac) ⟨_, _, _, _, rfl, .eq, h23, (ob h fun b_7 h24 h => ⟨_, y_truD .eq h24, ⟨fun hb => (have h := ifT hb h; (zs_ret (z_bl (y_rtF (r := (D.bl false)) [] h Jh13 rfl rfl rfl)))), fun hb => (have h := ifF hb h; (zs_nil (y_nxF (n := ()) h Jh13 (.keep (.keep (.keep (.keep (.keep (.keep (.drop (.drop .nil)))))))) rfl rfl)))⟩⟩)⟩))))⟩))))))⟩)))))))))))))⟩)))))))))))))))))))))) (fun _ h => (zs_seq (zs_asg (z_cb (za_cons (z_lc (own_name (by decide)) (zi_seqY (z_op (zv1 (z_int (ob h fun z_8 h25 h => (y_ix .eq .eq h25 (ob h fun ds_2 h26 h => ⟨_, h26, (ob h fun ys_2 h27 h => y_lcO h27 (fun d_3 _ h _ hk => (zg4 (z_cb (za_cons (zv4 (za_cons (zv2 (za_nil (ob h fun z_9 h28 h => zc_call (S := S_law_value Ac) ⟨_, _, _, rfl, h28, (y_lf h hk)⟩))))))))) (za_nil (ob h fun wanted_1 h29 h => (y_tuple .eq h29 (zg7 (zs_ret (z_cb (za_cons (z_mth (zv0 (ob h fun u_2 h30 h => ⟨⟨_, .eq, h30⟩, (za_cons (zv2 (za_nil (ob h fun z_10 h31 h => zc_call (S := S_Edge_target_state Ac) ⟨_, _, _, rfl, h31, (za_cons (zv7 (za_nil (ob h fun r h32 h => zc_call (S := S_law_same Ac) ⟨_, _, _, _, rfl, .eq, h32, (y_ret (kd := kd_law_sums_hold) (x := r) [] h hit.rt rfl rfl)⟩))))⟩))))⟩)))))))))))⟩))))))))))))) rfl)⟩))))))))))))))))))⟩))⟩)))))))))⟩))⟩)))))))⟩))))⟩))))))))))⟩))))))))))))
theorem z_law_sums_hold {kk : D → Mem → Prop} {ds : List D} {M : Mem} (h : S_law_sums_hold Ac ds M kk) : ZS { K := K } (t_law_sums_hold K Ac (S_law_value Ac) (S_Edge_guards_hold Ac) (S_Edge_source_state Ac) (S_law_same Ac) (S_Edge_target_state Ac)) (startD N_law_sums_hold ds) M { nx := fun _ M' => kk .non M', rt := kk } := by
  obtain ⟨_, _, _, _, rfl, hm, hk⟩ := h
  exact zs_def0 hk fun DD hit => y_law_sums_hold T hm hit
/-! _law_copies_hold -/
def kd_law_copies_hold (a_purse : Addr) : D × List D → D × Mem := fun x => (x.1, [(a_purse, .lst x.2)])
def S_law_copies_hold (Ac : Cs) : ZSp := fun ds M kk_ => ∃ (a_purse : Addr) (edge : D) (due : D) (near : D) (purse : List D) (i : Nat) (d : D) (o' : List D) (M' : Mem), ds = [.at a_purse, edge, due, near] ∧ M[i]? = some (a_purse, .lst purse) ∧ m_law_copies_hold Ac purse edge due near = some (d, o') ∧ M.set i (a_purse, .lst o') = M' ∧ kk_ d M'
theorem y_law_copies_hold {purse : List D} {edge : D} {due : D} {near : D} {a_purse : Addr} {out : D × List D} (h : m_law_copies_hold Ac purse edge due near = some out) {DD : ZEnds} (hit : HitD (kd_law_copies_hold a_purse) DD out) : ZS { K := K } (t_law_copies_hold K Ac (S_law_draw Ac) (S_law_coefficient Ac) (S_law_constant Ac) (S_Edge_with_guard Ac) (S_Edge_closed Ac) (S_law_edge_seen Ac) (S_law_same Ac) (S_law_sums_hold Ac) (S_Edge_guards_hold Ac)) [some (.at a_purse), some edge, some due, some near, none, none, none, none, none, none] [(a_purse, MO.lst purse)] DD := by
  unfold m_law_copies_hold at h
  unfold t_law_copies_hold
  exact (y_join (N := D × D × List D) (fun (row, copied, purse_1) => [some (.at a_purse), some edge, some due, some near, some row, none, some copied, none, none, none]) (fun (row, copied, purse_1) => [(a_purse, MO.lst purse_1)]) h (fun _ h _ Jh1 => (zs_if (zt_test (z_op (z_cb (za_cons (zv0 (za_cons (z_int (za_nil (obp h fun z purse_2 h2 h => zc_call (S := S_law_draw Ac) ⟨_, _, _, 0, _, _, [(a_purse, MO.lst purse_2)], rfl, rfl, h2, rfl, (z_int (ob h fun b h3 h => (y_eq .eq .eq h3 ⟨_, rfl, ⟨fun hb => (have h := ifT hb h; (zs_seq (zs_asg (z_cb (za_cons (z_op (z_lc (own_name (by decide)) (zi_rng1' (za_cons (z_op (zv2 (z_int (ob h fun z_1 h4 h => (y_ix .eq .eq h4 (za_nil (ob h fun ds h5 h => ⟨_, _, rfl, h5, (obp h fun ys purse_6 h6 h => y_lcS (S := List D) (fun purse_4 => [(a_purse, MO.lst purse_4)]) h6 (fun purse_3 d _ _ h _ hk => (zg5 (z_cb (za_cons (zv0 (za_nil (obp h fun z_2 purse_5 h7 h => zc_call (S := S_law_coefficient Ac) ⟨_, _, 0, _, _, [(a_purse, MO.lst purse_5)], rfl, rfl, h7, rfl, (y_lfXD (Ms := (fun purse_4 => [(a_purse, MO.lst purse_4)])) (s := purse_5) h hk rfl)⟩))))))) rfl (z_lst (za_cons (z_cb (za_cons (zv0 (za_nil (obp h fun z_3 purse_7 h8 h => zc_call (S := S_law_constant Ac) ⟨_, _, 0, _, _, [(a_purse, MO.lst purse_7)], rfl, rfl, h8, rfl, (za_nil ⟨Nat.le_of_ble_eq_true rfl, (ob h fun z_4 h9 h => (y_add .eq .eq h9 (za_nil (ob h fun row_1 h10 h => (y_tuple .eq h10 (zg4 (zs_one (zs_seq (zs_asg (z_mth (zv1 (ob h fun u h11 h => ⟨⟨_, .eq, h11⟩, (za_cons (zv4 (za_nil (ob h fun copied_1 h12 h => zc_call (S := S_Edge_with_guard Ac) ⟨_, _, _, rfl, h12, (zg6 (zs_nil (y_nx h Jh1 .rfl rfl rfl)))⟩))))⟩))))))))))))⟩)⟩))))))))⟩)))))))))))))))), fun hb => (have h := ifF hb h; (zs_seq (zs_asg (z_cb (za_cons (z_op (z_op (z_lst (za_cons (z_int (za_nil ⟨Nat.le_of_ble_eq_true rfl, (z_op (zv2 (z_int (ob h fun z_5 h13 h => (y_ix .eq .eq h13 (ob h fun z_6 h14 h => (y_mul .eq .eq h14 (z_lst (za_cons (z_int (za_nil ⟨Nat.le_of_ble_eq_true rfl, (ob h fun z_7 h15 h => (y_add .eq .eq h15 (za_nil (ob h fun row_2 h16 h => (y_tuple .eq h16 (zg4 (zs_one (zs_seq (zs_asg (z_mth (zv1 (ob h fun u_1 h17 h => ⟨⟨_, .eq, h17⟩, (za_nil (ob h fun copied_2 h18 h => zc_call (S := S_Edge_closed Ac) ⟨_, _, rfl, h18, (zg6 (zs_nil (y_nx h Jh1 .rfl rfl rfl)))⟩))⟩))))))))))))⟩)))))))))))⟩)))))))))))⟩⟩)))⟩))))))))))) (fun (row_3, copied_3, purse_8) h => (zs_seq (zs_asg (z_tup (za_cons (z_op (zv2 (z_int (ob h fun z_8 h19 h => (y_ix .eq .eq h19 (za_cons (z_op (zv2 (z_int (ob h fun z_9 h20 h => (y_ix .eq .eq h20 (za_cons (z_op (zv2 (z_int (ob h fun z_10 h21 h => (y_ix .eq .eq h21 (za_cons (z_op (z_op (zv2 (z_int (ob h fun z_11 h22 h => (y_ix .eq .eq h22 (z_tup (za_cons (zv4 (za_nil ⟨Nat.le_of_ble_eq_true rfl, (ob h fun z_12 h23 h => (y_add .eq .eq h23 (za_cons (z_op (zv2 (z_int (ob h fun z_13 h24 h => (y_ix .eq .eq h24 (za_cons (z_op (zv2 (z_int (ob h fun z_14 h25 h => (y_ix .eq .eq h25 (za_nil ⟨Nat.le_of_ble_eq_true rfl, (zg7 (zs_seq (zs_if (zt_or' (zt_not (zt_truth (z_cb (za_cons (z_cb (za_cons (zv6 (za_nil (ob h fun z_15 h26 h => zc_call (S := S_law_edge_seen Ac) ⟨_, _, rfl, h26, (za_cons (zv7 (za_nil (ob h fun z_16 h27 h => zc_call (S := S_law_same Ac) ⟨_, _, _, _, rfl, .eq, h27, (ob h fun b_1 h28 h => ⟨_, y_truD .eq h28, (y_or h (fun _ h _ hk => (zt_not (zt_truth (z_cb (za_cons (zv6 (za_cons (zv7 (za_cons (zv3 (za_nil (ob h fun z_17 h29 h => zc_call (S := S_law_sums_hold Ac) ⟨_, _, _, _, rfl, h29, (ob h fun b_2 h30 h => ⟨_, y_truD .eq h30, (y_lfB h hk)⟩)⟩)))))))))))) (fun b_3 h => ⟨fun hb => (have h := ifT hb h; (zs_ret (z_bl (y_ret (kd := kd_law_copies_hold a_purse) (x := ((D.bl false), purse_8)) [] h hit.rt rfl rfl)))), fun hb => (have h := ifF hb h; (zs_nil (zs_seq (zs_asg (z_mth (zv6 (ob h fun u_2 h31 h => ⟨⟨_, .eq, h31⟩, (za_nil (ob h fun again h32 h => zc_call (S := S_Edge_closed Ac) ⟨_, _, rfl, h32, (zg8 (zs_seq (zs_asg (z_tup (za_cons (z_op (zv2 (z_int (ob h fun z_18 h33 h => (y_ix .eq .eq h33 (za_cons (z_op (zv2 (z_int (ob h fun z_19 h34 h => (y_ix .eq .eq h34 (za_cons (z_op (zv2 (z_int (ob h fun z_20 h35 h => (y_ix .eq .eq h35 (za_cons (z_op (z_op (zv2 (z_int (ob h fun z_21 h36 h => (y_ix .eq .eq h36 (z_tup (za_cons (zv4 (za_cons (z_cb (za_cons (z_op (z_op (z_lst (za_cons (z_int (za_nil ⟨Nat.le_of_ble_eq_true rfl, (z_op (zv2 (z_int (ob h fun z_22 h37 h => (y_ix .eq .eq h37 (ob h fun z_23 h38 h => (y_mul .eq .eq h38 (z_lst (za_cons (z_int (za_nil ⟨Nat.le_of_ble_eq_true rfl, (ob h fun z_24 h39 h => (y_add .eq .eq h39 (za_nil (ob h fun z_25 h40 h => (y_tuple .eq h40 (za_nil ⟨Nat.le_of_ble_eq_true rfl, (ob h fun z_26 h41 h => (y_add .eq .eq h41 (za_cons (z_op (zv2 (z_int (ob h fun z_27 h42 h => (y_ix .eq .eq h42 (za_cons (z_op (zv2 (z_int (ob h fun z_28 h43 h => (y_ix .eq .eq h43 (za_nil ⟨Nat.le_of_ble_eq_true rfl, (zg9 (zs_seq (zs_if (zt_or' (zt_not (zt_truth (z_cb (za_cons (z_cb (za_cons (zv8 (za_nil (ob h fun z_29 h44 h => zc_call (S := S_law_edge_seen Ac) ⟨_, _, rfl, h44, (za_cons (zv9 (za_nil (ob h fun z_30 h45 h => zc_call (S := S_law_same Ac) ⟨_, _, _, _, rfl, .eq, h45, (ob h fun b_4 h46 h => ⟨_, y_truD .eq h46, (y_or h (fun _ h _ hk => (zt_test (z_op (z_mth (zv8 (ob h fun u_3 h47 h => ⟨⟨_, .eq, h47⟩, (za_cons (zv3 (za_nil (ob h fun z_31 h48 h => zc_call (S := S_Edge_guards_hold Ac) ⟨_, _, _, rfl, h48, (z_bl (ob h fun b_5 h49 h => (y_notB (dBl_some h49) ⟨_, rfl, (y_lfB h hk)⟩)))⟩))))⟩)))))) (fun b_6 h => ⟨fun hb => (have h := ifT hb h; (zs_ret (z_bl (y_ret (kd := kd_law_copies_hold a_purse) (x := ((D.bl false), purse_8)) [] h hit.rt rfl rfl)))), fun hb => (have h := ifF hb h; (zs_nil (zs_ret (z_andV' (z_cb (za_cons (z_cb (za_cons (zv1 (za_nil (ob h fun z_32 h50 h => zc_call (S := S_law_edge_seen Ac) ⟨_, _, rfl, h50, (za_cons (zv2 (za_nil (ob h fun z_33 h51 h => zc_call (S := S_law_same Ac) ⟨_, _, _, _, rfl, .eq, h51, (ob h fun b_7 h52 h => ⟨_, dBl_some h52, (y_andV h (fun _ h _ hk => (z_cb (za_cons (zv1 (za_cons (zv2 (za_cons (zv3 (za_nil (ob h fun z_34 h53 h => zc_call (S := S_law_sums_hold Ac) ⟨_, _, _, _, rfl, h53, (y_lf h hk)⟩)))))))))) (fun v h => (y_ret (kd := kd_law_copies_hold a_purse) (x := (v, purse_8)) [] h hit.rt rfl rfl)))⟩)⟩))))⟩)))))))))))⟩))⟩)⟩))))⟩)))))))))))))⟩)))))))))))))))⟩))))))⟩)))))))))))⟩)))))))))))))))))))))))))))))))))))))))))⟩))⟩)))))))⟩))⟩)⟩))))⟩)))))))))))))⟩)))))))))))))))⟩))))))))))))))))))))))))))))))))))
theorem z_law_copies_hold {kk : D → Mem → Prop} {ds : List D} {M : Mem} (h : S_law_copies_hold Ac ds M kk) : ZS { K := K } (t_law_copies_hold K Ac (S_law_draw Ac) (S_law_coefficient Ac) (S_law_constant Ac) (S_Edge_with_guard Ac) (S_Edge_closed Ac) (S_law_edge_seen Ac) (S_law_same Ac) (S_law_sums_hold Ac) (S_Edge_guards_hold Ac)) (startD N_law_copies_hold ds) M { nx := fun _ M' => kk .non M', rt := kk } := by
  obtain ⟨_, _, _, _, _, _, _, _, _, rfl, hi, hm, rfl, hk⟩ := h
  exact zs_def1 hi (out := (_, _)) hk fun DD hit => y_law_copies_hold T hm hit
/-! law -/
def kd_law : D → D × Mem := fun x => (x, [])
def S_law (Ac : Cs) : ZSp := fun ds M kk_ => ∃ (script : D) (d : D), ds = [script] ∧ m_law Ac script = some d ∧ kk_ d M
theorem y_law {script : D} {out : D} (h : m_law Ac script = some out) {DD : ZEnds} (hit : HitD (kd_law) DD out) : ZS { K := K } (t_law K Ac (S_law_purse Ac) (S_law_frame_holds Ac) (S_law_same Ac) (S_law_draw Ac) (S_law_made Ac) (S_law_made_plain Ac) (S_law_made_start Ac) (S_law_edge_seen Ac) (S_law_sums_hold Ac) (S_law_far Ac) (S_law_copies_hold Ac)) [some script, none, none, none, none, none, none] [] DD := by
  unfold m_law at h
  unfold t_law
  exact (zs_seq (zs_asg (z_cb (za_cons (zv0 (za_nil (ob h fun purse h1 h => zc_call (S := S_law_purse Ac) ⟨_, _, rfl, h1, (fun p__law_purse => zg1 (zs_seq (zs_if (zt_not (zt_truth (z_cb (za_cons (zv1 (za_nil (obp h fun z purse_1 h2 h => zc_call (S := S_law_frame_holds Ac) ⟨_, _, 0, _, _, [(p__law_purse, MO.lst purse_1)], rfl, rfl, h2, rfl, (ob h fun b h3 h => ⟨_, y_truD .eq h3, ⟨fun hb => (have h := ifT hb h; (zs_ret (z_bl (y_ret (kd := kd_law) (x := (D.bl false)) [(p__law_purse, MO.lst purse_1)] h hit.rt rfl rfl)))), fun hb => (have h := ifF hb h; (zs_nil (zs_seq (zs_if (zt_not (zt_truth (z_cb (za_cons (z_tup (za_cons (z_int (za_cons (z_int (za_nil ⟨Nat.le_of_ble_eq_true rfl, (za_cons (z_tup (za_cons (z_int (za_cons (z_int (za_nil ⟨Nat.le_of_ble_eq_true rfl, (za_nil (ob h fun z_1 h4 h => zc_call (S := S_law_same Ac) ⟨_, _, _, _, rfl, .eq, h4, (ob h fun b_1 h5 h => ⟨_, y_truD .eq h5, ⟨fun hb => (have h := ifT hb h; (zs_ret (z_bl (y_ret (kd := kd_law) (x := (D.bl false)) [(p__law_purse, MO.lst purse_1)] h hit.rt rfl rfl)))), fun hb => (have h := ifF hb h; (zs_nil (zs_seq (zs_asg (z_lstM (za_nil ⟨Nat.le_of_ble_eq_true rfl, (fun p__law_made => zg2 (zs_seq (zs_for (zi_rng1' (za_cons (z_op (z_int (z_cb (za_cons (zv1 (za_cons (z_int (za_nil (obp h fun z_15 purse_13 h40 h => zc_call (S := S_law_draw Ac) ⟨_, _, _, 1, _, _, [(p__law_made, MO.lst []), (p__law_purse, MO.lst purse_13)], rfl, rfl, h40, rfl, (ob h fun z_16 h41 h => (y_add .eq .eq h41 (za_nil (ob h fun ds_3 h42 h => ⟨_, _, rfl, h42, (y_forO (S := List D × List D) (fun (made, purse_2) => [some script, some (.at p__law_purse), some (.at p__law_made), none, none, none, none]) (fun (made, purse_2) => [(p__law_made, MO.lst made), (p__law_purse, MO.lst purse_2)]) h .rfl (fun (made_1, purse_3) d _ h _ Jh6 => (zg3 (zs_seq (zs_drop (z_bm (zv2 ⟨⟨_, .at 0 rfl⟩, (za_cons (z_cb (za_cons (zv1 (za_nil (obp h fun z_2 purse_5 h7 h => zc_call (S := S_law_made Ac) ⟨_, _, 1, _, _, [(p__law_made, MO.lst made_1), (p__law_purse, MO.lst purse_5)], rfl, rfl, h7, rfl, (za_nil (ob h fun made_3 h8 h => y_append (i := 0) (M' := [(p__law_made, MO.lst made_3), (p__law_purse, MO.lst purse_5)]) rfl h8 rfl (zs_seq (zs_drop (z_bm (zv2 ⟨⟨_, .at 0 rfl⟩, (za_cons (z_cb (za_cons (zv1 (za_nil (obp h fun z_3 purse_6 h9 h => zc_call (S := S_law_made_plain Ac) ⟨_, _, 1, _, _, [(p__law_made, MO.lst made_3), (p__law_purse, MO.lst purse_6)], rfl, rfl, h9, rfl, (za_nil (ob h fun made_4 h10 h => y_append (i := 0) (M' := [(p__law_made, MO.lst made_4), (p__law_purse, MO.lst purse_6)]) rfl h10 rfl (zs_one (zs_seq (zs_drop (z_bm (zv2 ⟨⟨_, .at 0 rfl⟩, (za_cons (z_cb (za_cons (zv1 (za_nil (obp h fun z_4 purse_7 h11 h => zc_call (S := S_law_made_start Ac) ⟨_, _, 1, _, _, [(p__law_made, MO.lst made_4), (p__law_purse, MO.lst purse_7)], rfl, rfl, h11, rfl, (za_nil (ob h fun made_5 h12 h => y_append (i := 0) (M' := [(p__law_made, MO.lst made_5), (p__law_purse, MO.lst purse_7)]) rfl h12 rfl (zs_nil (y_nx h Jh6 (.keep (.keep (.keep (.drop (.keep (.keep (.keep .nil))))))) rfl rfl))))⟩))))))⟩)))))))⟩))))))⟩))))))⟩))))))⟩)))))) (fun (made_2, purse_4) h => (y_frz (i := 0) (j := 2) (Γ' := [some script, some (.at p__law_purse), some (D.lst made_2), none, none, none, none]) (M' := [(p__law_purse, MO.lst purse_4)]) rfl rfl rfl rfl (zs_seq (zs_for (zi_seqY (zv2 (ob h fun ds_2 h39 h => ⟨_, h39, (y_forD (S := Unit) (kd := kd_law) (fun _ => [some script, some (.at p__law_purse), some (D.lst made_2), none, none, none, none]) (fun _ => [(p__law_purse, MO.lst purse_4)]) h hit.rt .rfl (fun _ d_1 _ h _ Jh13 => (obp3 h fun edge due near h14 h => zg_un3 h14 (zg4 (zg5 (zg6 (zs_seq (zs_if (zt_or' (zt_not (zt_truth (z_cb (za_cons (z_cb (za_cons (zv4 (za_nil (ob h fun z_5 h15 h => zc_call (S := S_law_edge_seen Ac) ⟨_, _, rfl, h15, (za_cons (zv5 (za_nil (ob h fun z_6 h16 h => zc_call (S := S_law_same Ac) ⟨_, _, _, _, rfl, .eq, h16, (ob h fun b_2 h17 h => ⟨_, y_truD .eq h17, (y_or h (fun _ h _ hk => (zt_not (zt_truth (z_cb (za_cons (z_un (zv4 (ob h fun sources h18 h => (y_fld .eq h18 T.f_sources (ob h fun b_3 h19 h => (za_cons (z_ty (za_nil (y_isi .eq h19 ⟨_, .bl _, (y_lfB h hk)⟩)))))))))))))) (fun b_4 h => ⟨fun hb => (have h := ifT hb h; (zs_ret (z_bl (y_rtF (r := (D.bl false)) [(p__law_purse, MO.lst purse_4)] h Jh13 rfl rfl rfl)))), fun hb => (have h := ifF hb h; (zs_nil (zs_if (zt_not (zt_truth (z_cb (za_cons (zv4 (za_cons (zv5 (za_cons (zv6 (za_nil (ob h fun z_7 h20 h => zc_call (S := S_law_sums_hold Ac) ⟨_, _, _, _, rfl, h20, (ob h fun b_5 h21 h => ⟨_, y_truD .eq h21, ⟨fun hb => (have h := ifT hb h; (zs_ret (z_bl (y_rtF (r := (D.bl false)) [(p__law_purse, MO.lst purse_4)] h Jh13 rfl rfl rfl)))), fun hb => (have h := ifF hb h; (zs_nil (y_nxF (n := ()) h Jh13 (.keep (.keep (.keep (.keep (.drop (.drop (.drop .nil))))))) rfl rfl)))⟩⟩)⟩))))))))))))))⟩))⟩)⟩))))⟩))))))))))))))))) (fun _ h => (zs_seq (zs_for (zi_seqY (zv2 (ob h fun ds_1 h38 h => ⟨_, h38, (y_forD (S := List D) (kd := kd_law) (fun purse_8 => [some script, some (.at p__law_purse), some (D.lst made_2), none, none, none, none]) (fun purse_8 => [(p__law_purse, MO.lst purse_8)]) h hit.rt .rfl (fun purse_9 d_2 _ h _ Jh22 => (obp3 h fun edge_1 due_1 near_1 h23 h => zg_un3 h23 (zg4 (zg5 (zg6 (zs_seq (zs_if (zt_not (zt_truth (z_cb (za_cons (zv4 (za_cons (zv5 (za_cons (z_cb (za_cons (zv1 (za_cons (z_op (zv5 (z_int (ob h fun z_8 h24 h => (y_ix .eq .eq h24 (za_nil (obp h fun z_9 purse_11 h25 h => zc_call (S := S_law_far Ac) ⟨_, _, _, 0, _, _, [(p__law_purse, MO.lst purse_11)], rfl, rfl, h25, rfl, (za_nil (ob h fun z_10 h26 h => zc_call (S := S_law_sums_hold Ac) ⟨_, _, _, _, rfl, h26, (ob h fun b_6 h27 h => ⟨_, y_truD .eq h27, ⟨fun hb => (have h := ifT hb h; (zs_ret (z_bl (y_rtF (r := (D.bl false)) [(p__law_purse, MO.lst purse_11)] h Jh22 rfl rfl rfl)))), fun hb => (have h := ifF hb h; (zs_nil (zs_if (zt_not (zt_truth (z_cb (za_cons (zv1 (za_cons (zv4 (za_cons (zv5 (za_cons (zv6 (za_nil (obp h fun z_11 purse_12 h28 h => zc_call (S := S_law_copies_hold Ac) ⟨_, _, _, _, _, 0, _, _, [(p__law_purse, MO.lst purse_12)], rfl, rfl, h28, rfl, (ob h fun b_7 h29 h => ⟨_, y_truD .eq h29, ⟨fun hb => (have h := ifT hb h; (zs_ret (z_bl (y_rtF (r := (D.bl false)) [(p__law_purse, MO.lst purse_12)] h Jh22 rfl rfl rfl)))), fun hb => (have h := ifF hb h; (zs_nil (y_nxF (n := purse_12) h Jh22 (.keep (.keep (.keep (.keep (.drop (.drop (.drop .nil))))))) rfl rfl)))⟩⟩)⟩))))))))))))))))⟩⟩)⟩))⟩)))))))))))))))))))))))))) (fun purse_10 h => (zs_seq (zs_for (zi_seqY (zv2 (ob h fun ds h37 h => ⟨_, h37, (y_forD (S := Unit) (kd := kd_law) (fun _ => [some script, some (.at p__law_purse), some (D.lst made_2), none, none, none, none]) (fun _ => [(p__law_purse, MO.lst purse_10)]) h hit.rt .rfl (fun _ d_3 _ h _ Jh30 => (obp3 h fun edge_2 due_2 near_2 h31 h => zg_un3 h31 (zg4 (zg5 (zg6 (zs_if (zt_or' (zt_not (zt_truth (z_cb (za_cons (zv4 (za_cons (zv5 (za_cons (zv6 (za_nil (ob h fun z_12 h32 h => zc_call (S := S_law_sums_hold Ac) ⟨_, _, _, _, rfl, h32, (ob h fun b_8 h33 h => ⟨_, y_truD .eq h33, (y_or h (fun _ h _ hk => (zt_not (zt_truth (z_cb (za_cons (z_cb (za_cons (zv4 (za_nil (ob h fun z_13 h34 h => zc_call (S := S_law_edge_seen Ac) ⟨_, _, rfl, h34, (za_cons (zv5 (za_nil (ob h fun z_14 h35 h => zc_call (S := S_law_same Ac) ⟨_, _, _, _, rfl, .eq, h35, (ob h fun b_9 h36 h => ⟨_, y_truD .eq h36, (y_lfB h hk)⟩)⟩))))⟩)))))))))) (fun b_10 h => ⟨fun hb => (have h := ifT hb h; (zs_ret (z_bl (y_rtF (r := (D.bl false)) [(p__law_purse, MO.lst purse_10)] h Jh30 rfl rfl rfl)))), fun hb => (have h := ifF hb h; (zs_nil (y_nxF (n := ()) h Jh30 (.keep (.keep (.keep (.keep (.drop (.drop (.drop .nil))))))) rfl rfl)))⟩))⟩)⟩)))))))))))))))))) (fun _ h => (zs_ret (z_bl (y_ret (kd := kd_law) (x := (D.bl true)) [(p__law_purse, MO.lst purse_10)] h hit.rt rfl rfl)))) rfl)⟩)))))) rfl)⟩)))))) rfl)⟩))))))) rfl)⟩))))⟩))))))))))))))⟩))))))⟩⟩)⟩))⟩)))))))⟩))))))))))))))⟩⟩)⟩))))))))))⟩)))))))
theorem z_law {kk : D → Mem → Prop} {ds : List D} {M : Mem} (h : S_law Ac ds M kk) : ZS { K := K } (t_law K Ac (S_law_purse Ac) (S_law_frame_holds Ac) (S_law_same Ac) (S_law_draw Ac) (S_law_made Ac) (S_law_made_plain Ac) (S_law_made_start Ac) (S_law_edge_seen Ac) (S_law_sums_hold Ac) (S_law_far Ac) (S_law_copies_hold Ac)) (startD N_law ds) M { nx := fun _ M' => kk .non M', rt := kk } := by
  obtain ⟨_, _, rfl, hm, hk⟩ := h
  exact zs_def0 hk fun DD hit => y_law T hm hit
end
end Qk12
set_option Elab.async false
set_option linter.all false
set_option maxRecDepth 100000
set_option maxHeartbeats 4000000
/-! M12a: draws, rows, orders. -/
namespace Qk12
open PySem Z TL
variable {Ac : Cs}
/-- the purse -/
def IsP (p : List D) : Prop := ∃ (a b c : Int) (cells : List Int), p = .int a :: .int b :: .int c :: cells.map .int
theorem dPopAt3 {a b c d : D} {r : List D} (h : r.length < 1000) : dPopAt (a :: b :: c :: d :: r) (.int 3) = some (d, a :: b :: c :: r) := by
  have e : seqIndex? 3 (r.length + 1 + 1 + 1 + 1) = some 3 := by
    have := seqIndex_of (n := r.length + 1 + 1 + 1 + 1) (k := 3) (by decide) (by omega)
    exact this
  show (if -(2 ^ 63) ≤ (3 : Int) ∧ (3 : Int) < 2 ^ 63 then (seqIndex? 3 (a :: b :: c :: d :: r).length).bind fun n => ((a :: b :: c :: d :: r)[n]?).map fun x => (x, (a :: b :: c :: d :: r).eraseIdx n) else none) = _
  rw [if_pos (by decide)]
  show (seqIndex? 3 (r.length + 1 + 1 + 1 + 1)).bind _ = _
  rw [e]; rfl
def IsQ (p : List D) : Prop := ∃ (a b c : Int) (cells : List Int), p = .int a :: .int b :: .int c :: cells.map .int ∧ cells.length < 1000
theorem draw_ok {p : List D} (hp : IsQ p) {n : Int} (h0 : 0 < n) (h1 : n.natAbs < 2 ^ 200) : ∃ (v : Int) (p' : List D), m_law_draw Ac p (.int n) = some (.int v, p') ∧ 0 ≤ v ∧ v < n ∧ IsQ p' := by
  have fin : ∀ (a b c : Int) (cells : List Int), cells.length < 1000 → ∃ (v : Int) (p' : List D), ((dIx (D.lst (.int a :: .int b :: .int c :: cells.map .int)) (D.int 2)).bind fun z_9 =>
((dAdd z_9 (D.int 1)).bind fun z_10 =>
((dSet (.int a :: .int b :: .int c :: cells.map .int) (D.int 2) z_10).bind fun purse_6 =>
((dIx (D.lst purse_6) (D.int 0)).bind fun z_11 =>
((bGt z_11 (D.int 0)).bind fun b_4 =>
(if b_4 then
((dIx (D.lst purse_6) (D.int 0)).bind fun z_12 =>
((dInt z_12).bind fun z_13 =>
((dMod z_13 (.int n)).bind fun digit =>
((dIx (D.lst purse_6) (D.int 0)).bind fun z_14 =>
((dDiv z_14 (.int n)).bind fun z_15 =>
((dSet purse_6 (D.int 0) z_15).bind fun purse_7 =>
some (digit, purse_7)))))))
else
((dIx (D.lst purse_6) (D.int 1)).bind fun z_16 =>
((dMul z_16 (D.int 48271)).bind fun z_17 =>
((dIx (D.lst purse_6) (D.int 2)).bind fun z_18 =>
((dMul z_18 (D.int 69621)).bind fun z_19 =>
((dAdd z_17 z_19).bind fun z_20 =>
((dInt z_20).bind fun z_21 =>
((dMod z_21 (D.int 2147483647)).bind fun mixed =>
((dMul mixed mixed).bind fun z_22 =>
((dIx (D.lst purse_6) (D.int 1)).bind fun z_23 =>
((dMul z_23 (D.int 16807)).bind fun z_24 =>
((dAdd z_22 z_24).bind fun z_25 =>
((dIx (D.lst purse_6) (D.int 2)).bind fun z_26 =>
((dMul z_26 (D.int 40692)).bind fun z_27 =>
((dAdd z_25 z_27).bind fun z_28 =>
((dInt z_28).bind fun z_29 =>
((dMod z_29 (D.int 2147483399)).bind fun mixed_1 =>
((dDiv mixed_1 (D.int 11)).bind fun z_30 =>
((dMod z_30 (.int n)).bind fun r =>
some (r, purse_6))))))))))))))))))))))))) = some (.int v, p') ∧ 0 ≤ v ∧ v < n ∧ IsQ p' := fun a b c cells hl => by
    simp -implicitDefEqProofs only [dIx_l2, Option.bind_some, dAdd_ii, dSet_2, dIx_l0, bGt_ii]
    by_cases ha : 0 < a
    · rw [if_pos (decide_eq_true ha)]
      simp -implicitDefEqProofs only [Option.bind_some, dInt_i, dMod_ii h0, dDiv_n (i := a) (j := n) (by omega) h1 (by decide), dSet_0]
      exact ⟨_, _, rfl, Int.emod_nonneg _ (by omega), Int.emod_lt_of_pos _ h0, _, _, _, cells, rfl, hl⟩
    · rw [if_neg (by simpa using ha)]
      have hm : ∀ x : Int, (x % 2147483647).natAbs < 2 ^ 64 := fun x => by
        have h1 := Int.emod_nonneg x (show (2147483647 : Int) ≠ 0 by decide)
        have h2 := Int.emod_lt_of_pos x (show (0 : Int) < 2147483647 by decide)
        omega
      simp -implicitDefEqProofs only [dIx_l1, Option.bind_some, dIx_l2, dMul_r (i := b) (j := 48271) (by decide), dMul_r (i := c + 1) (j := 69621) (by decide), dAdd_ii, dInt_i, dMod_ii (show (0 : Int) < 2147483647 by decide), dMul_l (hm _),
        dMul_r (i := b) (j := 16807) (by decide), dMul_r (i := c + 1) (j := 40692) (by decide), dMod_ii (show (0 : Int) < 2147483399 by decide), dDiv_n (j := 11) (a := 4) (by decide) (by decide) (by decide), dMod_ii h0]
      exact ⟨_, _, rfl, Int.emod_nonneg _ (by omega), Int.emod_lt_of_pos _ h0, _, _, _, cells, rfl, hl⟩
  obtain ⟨a, b, c, cells, rfl, hl⟩ := hp
  unfold m_law_draw
  simp -implicitDefEqProofs only [dIx_l0, Option.bind_some, bEq_ii]
  by_cases ha : a = 0
  · rw [if_pos (decide_eq_true ha)]
    simp -implicitDefEqProofs only [dLen_l, Option.bind_some, bGt_ii]
    cases cells with
    | nil =>
      simp -implicitDefEqProofs only [List.map_nil, List.length_cons, List.length_nil]
      rw [if_neg (by decide)]
      exact fin a b c [] hl
    | cons cell cells =>
      have hl' : cells.length < 1000 := by rw [List.length_cons] at hl; omega
      have e3 : decide ((3 : Int) < ((D.int a :: D.int b :: D.int c :: List.map D.int (cell :: cells)).length : Nat)) = true := decide_eq_true (by simp -implicitDefEqProofs only [List.length_cons, List.map_cons]; omega)
      rw [e3]
      simp -implicitDefEqProofs only [if_true, Option.bind_some, List.map_cons]
      rw [dPopAt3 (by rw [List.length_map]; exact hl')]
      simp -implicitDefEqProofs only [bp_some, bGe_ii, Option.bind_some]
      by_cases hc : (1000000000000000000 : Int) ≤ cell
      · rw [if_pos (decide_eq_true hc)]
        simp -implicitDefEqProofs only [dSet_0, Option.bind_some]
        exact fin cell b c cells hl'
      · rw [if_neg (by simpa using hc)]
        simp -implicitDefEqProofs only [dIx_l1, Option.bind_some, dMul_r (i := b) (j := 40014) (by decide), dMul_r (i := cell) (j := 48271) (by decide), dAdd_ii, dInt_i, dMod_ii (show (0 : Int) < 2147483563 by decide), dSet_1]
        exact fin a _ c cells hl'
  · rw [if_neg (by simpa using ha)]
    simp -implicitDefEqProofs only [Option.bind_some, Bool.false_eq_true, if_false]
    exact fin a b c cells hl
theorem purse_ok {ns : List Int} : ∃ p, m_law_purse Ac (.scr (ns.map .int)) = some p ∧ IsQ p := by
  have hcut : ∃ ys : List Int, cutD (ns.map D.int) none (some 63) = ys.map D.int ∧ ys.length ≤ 63 := by
    unfold cutD
    rw [← List.map_drop, ← List.map_take]
    refine ⟨_, rfl, ?_⟩
    rw [List.length_take]
    have : HT.sIx (ns.map D.int).length (ns.map D.int).length (some ((63 : Nat) : Int)) ≤ 63 := by rw [HT.sIx_nat]; exact Nat.min_le_left _ _
    exact Nat.le_trans (Nat.min_le_left _ _) (Nat.le_trans (Nat.sub_le _ _) this)
  obtain ⟨ys, hy, hl⟩ := hcut
  have e1 : dSlice (.scr (ns.map D.int)) none (some 63) = some (.lst (ys.map D.int)) := by rw [← hy]; rfl
  unfold m_law_purse
  simp -implicitDefEqProofs only [dPart_i, Option.bind_some, e1, dLen_l, dAdd_ii, itStr_l]
  rw [lcO_map (g := D.int) (r := fun i : Int => D.int (i.natAbs : Int)) (size_ok (by omega)) fun i _ => by simp -implicitDefEqProofs only [dInt_i, dAbs_i, Option.bind_some]]
  simp -implicitDefEqProofs only [Option.bind_some]
  have e2 : ys.map (fun i : Int => D.int (i.natAbs : Int)) = (ys.map fun i : Int => (i.natAbs : Int)).map D.int := by rw [List.map_map]; rfl
  rw [e2]
  have e3 : ∀ x : List D, x.length ≤ 100 → ∀ a b c : D, dExt [a, b, c] (.lst x) = some (a :: b :: c :: x) := fun x hx a b c => by
    show (if [a, b, c].length + x.length ≤ sizeLine then some ([a, b, c] ++ x) else none) = _
    rw [if_pos (size_ok (by simp -implicitDefEqProofs only [List.length_cons, List.length_nil]; omega))]; rfl
  rw [e3 _ (by rw [List.length_map, List.length_map]; omega)]
  exact ⟨_, rfl, _, _, _, _, rfl, by rw [List.length_map]; omega⟩
end Qk12
set_option Elab.async false
set_option linter.all false
set_option maxRecDepth 100000
set_option maxHeartbeats 4000000
namespace Qk12
open PySem Z TL
local macro_rules | `(tactic| walk_at "e") => `(tactic| try simp -implicitDefEqProofs (disch := first | assumption | omega | decide | (simp only [List.length_map, List.length_cons, List.length_nil, List.length_append, rngD_length]; omega)) only [Option.bind_some, bp_some, fin_nx, fin_rt, pass_nx, pass_rt, out_nx, if_true, if_false, ↓reduceIte, decide_eq_true_eq, Bool.not_true, Bool.not_false, Bool.false_eq_true, Bool.true_eq_false, Bool.not_eq_true', decide_eq_false_iff_not, decide_true, decide_false, Int.reduceEq, Int.reduceLT, Int.reduceLE, Int.reduceNe, Int.reduceAdd, Int.reduceSub, Int.reduceMul, Int.reduceNeg, Nat.reduceAdd, Nat.reduceSub, Nat.reduceMul, Nat.reduceEqDiff, dAdd_ii, dSub_ii, dNeg_i, dAbs_i, dInt_i, dInt_b, dMax2_ii, dMin2_ii, dGcd_ii, bLt_ii, bLe_ii, bGt_ii, bGe_ii, bEq_ii, bEq_bb, bNe_ii, bNe_bb, bEq_ss, bNe_ss, bTru_b, bTru_i, bTru_non, bTru_l, bTru_t, bTru_s, dBl_b, dLen_t, dLen_l, dLen_s, dPart_i, un2_t, un3_t, items_t, items_l, itStr_t, itStr_l, itStr_s, dTuple_l, dTuple_t, dList_t, dList_l, dSum_l, isNon_i, isNon_non, isNon_t, isNon_l, isNon_s, isNon_o, isNon_b, isNon_sc, itRng1_m, ii_int, ii_bool, ii_tup, ii_bb, ii_str, ii_ll, ii_ti, ii_ts, ii_tl, ii_tb, ii_li, ii_ls, ii_lt, ii_lb, ii_it, ii_il, ii_is, ii_si, ii_st, ii_sl, ii_sb, ii_bi, ii_bt, ii_bl, ii_bs, ii_nt, ii_nl, ii_ns, ii_ni, ii_nb, dIx_l0, dIx_t0, dIx_l1, dIx_t1, dIx_l2, dIx_t2, dSet_0, dSet_1, dSet_2, itZip_t, itZip_l, itEnum_t, itEnum_l, dAugA_i, dAll_m, dAny_m, dFld_s, dAdd_tt, dAdd_ll, dAdd_ss, dApp_n, dExt_n, dExtZ_l, dExtZ_t, dIx_last_t, dIx_last_l, dMod_ii, dMul_r, dMul_l, List.length_map, rngD_length ])
local macro_rules | `(tactic| walk_at "h") => `(tactic| try simp -implicitDefEqProofs (disch := first | assumption | omega | decide | (simp only [List.length_map, List.length_cons, List.length_nil, List.length_append, rngD_length]; omega)) only [Option.bind_some, bp_some, fin_nx, fin_rt, pass_nx, pass_rt, out_nx, if_true, if_false, ↓reduceIte, decide_eq_true_eq, Bool.not_true, Bool.not_false, Bool.false_eq_true, Bool.true_eq_false, Bool.not_eq_true', decide_eq_false_iff_not, decide_true, decide_false, Int.reduceEq, Int.reduceLT, Int.reduceLE, Int.reduceNe, Int.reduceAdd, Int.reduceSub, Int.reduceMul, Int.reduceNeg, Nat.reduceAdd, Nat.reduceSub, Nat.reduceMul, Nat.reduceEqDiff, dAdd_ii, dSub_ii, dNeg_i, dAbs_i, dInt_i, dInt_b, dMax2_ii, dMin2_ii, dGcd_ii, bLt_ii, bLe_ii, bGt_ii, bGe_ii, bEq_ii, bEq_bb, bNe_ii, bNe_bb, bEq_ss, bNe_ss, bTru_b, bTru_i, bTru_non, bTru_l, bTru_t, bTru_s, dBl_b, dLen_t, dLen_l, dLen_s, dPart_i, un2_t, un3_t, items_t, items_l, itStr_t, itStr_l, itStr_s, dTuple_l, dTuple_t, dList_t, dList_l, dSum_l, isNon_i, isNon_non, isNon_t, isNon_l, isNon_s, isNon_o, isNon_b, isNon_sc, itRng1_m, ii_int, ii_bool, ii_tup, ii_bb, ii_str, ii_ll, ii_ti, ii_ts, ii_tl, ii_tb, ii_li, ii_ls, ii_lt, ii_lb, ii_it, ii_il, ii_is, ii_si, ii_st, ii_sl, ii_sb, ii_bi, ii_bt, ii_bl, ii_bs, ii_nt, ii_nl, ii_ns, ii_ni, ii_nb, dIx_l0, dIx_t0, dIx_l1, dIx_t1, dIx_l2, dIx_t2, dSet_0, dSet_1, dSet_2, itZip_t, itZip_l, itEnum_t, itEnum_l, dAugA_i, dAll_m, dAny_m, dFld_s, dAdd_tt, dAdd_ll, dAdd_ss, dApp_n, dExt_n, dExtZ_l, dExtZ_t, dIx_last_t, dIx_last_l, dMod_ii, dMul_r, dMul_l, List.length_map, rngD_length, *])
variable {Ac : Cs}
abbrev nD (n : Nat) : D := .int (n : Int)
theorem draw {p : List D} (hp : IsQ p) {m : Int} (n : Nat) (h0 : 0 < n := by decide) (h1 : n < 2 ^ 63 := by decide) (e : m = (n : Int) := by rfl) : Ret (m_law_draw Ac p (.int m)) fun r => ∃ v : Nat, r.1 = nD v ∧ v < n ∧ IsQ r.2 := by
  subst e
  obtain ⟨v, p', e, l, u, hp'⟩ := draw_ok (Ac := Ac) hp (n := (n : Int)) (by omega) (Nat.lt_trans (show ((n : Int)).natAbs < 2 ^ 63 by omega) (by decide))
  exact .of_eq e ⟨v.toNat, by show D.int v = D.int ((v.toNat : Nat) : Int); rw [Int.toNat_of_nonneg l], by omega, hp'⟩
theorem coefficient {p : List D} (hp : IsQ p) : Ret (m_law_coefficient Ac p) fun r => ∃ v : Int, r.1 = .int v ∧ v.natAbs ≤ 1000 ∧ IsQ r.2 := by
  unfold m_law_coefficient
  refine .pair (draw hp 6) ?_
  rintro _ p1 ⟨w, rfl, h1, hp1⟩
  walk_at "e"
  refine .ite (fun h0 => ?_) fun h0 => ?_
  · refine .pair (draw hp1 2001) ?_
    rintro _ p2 ⟨v, rfl, h2, hp2⟩
    walk_at "e"
    exact .mk ⟨_, rfl, by omega, hp2⟩
  · walk_at "e"
    refine .ite (fun h0 => .mk ⟨_, rfl, by decide, hp1⟩) fun h0 => ?_
    refine .pair (draw hp1 7) ?_
    rintro _ p2 ⟨v, rfl, h2, hp2⟩
    walk_at "e"
    exact .mk ⟨_, rfl, by omega, hp2⟩
theorem constant {p : List D} (hp : IsQ p) : Ret (m_law_constant Ac p) fun r => ∃ v : Int, r.1 = .int v ∧ v.natAbs ≤ 1000000 ∧ IsQ r.2 := by
  unfold m_law_constant
  refine .pair (draw hp 4) ?_
  rintro _ p1 ⟨w, rfl, h1, hp1⟩
  walk_at "e"
  refine .ite (fun h0 => ?_) fun h0 => ?_
  · refine .pair (draw hp1 2000001) ?_
    rintro _ p2 ⟨v, rfl, h2, hp2⟩
    walk_at "e"
    exact .mk ⟨_, rfl, by omega, hp2⟩
  · refine .pair (draw hp1 13) ?_
    rintro _ p2 ⟨v, rfl, h2, hp2⟩
    walk_at "e"
    exact .mk ⟨_, rfl, by omega, hp2⟩
abbrev rowD (is : List Int) : D := .tup (is.map .int)
/-- an affine row over m unknowns -/
def RowI (m : Nat) (is : List Int) : Prop := is.length = m + 1 ∧ ∀ i ∈ is.take m, i.natAbs ≤ 1000
/-- draws of ints -/
theorem intRow {β : Type} {Q : β → Prop} {f : List D → D → Option (D × List D)} {ds : List D} {p : List D} {k : List D → List D → Option β} (B : Nat) (hp : IsQ p) (hl : ds.length ≤ 100000) (hf : ∀ p d, IsQ p → d ∈ ds → Ret (f p d) fun r => ∃ v : Int, r.1 = .int v ∧ v.natAbs ≤ B ∧ IsQ r.2)
    (hk : ∀ (is : List Int) p, is.length = ds.length → (∀ i ∈ is, i.natAbs ≤ B) → IsQ p → Ret (k (is.map .int) p) Q) : Ret (bp (lcS f ds p) k) Q := by
  refine .lcS (fun _ => IsQ) (fun _ y => ∃ v : Int, y = .int v ∧ v.natAbs ≤ B) hl hp (fun i d s hd hs => (hf s d hs (List.mem_of_getElem? hd)).mono ?_) fun ys s h1 h2 hs => ?_
  · rintro ⟨a, b⟩ ⟨v, rfl, h, h'⟩
    exact ⟨⟨v, rfl, h⟩, h'⟩
  · obtain ⟨is, rfl, h3⟩ := rowOf' (g := D.int) (P := fun v => v.natAbs ≤ B) h2
    rw [List.length_map] at h1
    exact hk is s h1 h3 hs
theorem rng_mem {n : Nat} {d : D} (h : d ∈ rngD 0 n) : ∃ i, i < n ∧ d = nD i := mem_rngD h
theorem rng_nD (n : Nat) : rngD 0 n = (List.range n).map nD := by
  unfold rngD
  exact List.map_congr_left fun i _ => by rw [Int.zero_add]
/-- a loop that appends what it draws -/
theorem apps {α β : Type} {Q : β → Prop} {f : List D × List D → D → Option (List D × List D)} {ds : List D} {p : List D} {k : List D × List D → Option β} (g : α → D) (P : α → Prop) (hp : IsQ p) (hl : ds.length ≤ 1000)
    (hf : ∀ (as : List α) p d, IsQ p → as.length < 1000 → d ∈ ds → Ret (f (as.map g, p) d) fun r => ∃ a, r.1 = (as.map g) ++ [g a] ∧ P a ∧ IsQ r.2)
    (hk : ∀ (as : List α) p, as.length = ds.length → (∀ a ∈ as, P a) → IsQ p → Ret (k (as.map g, p)) Q) : Ret ((foldO f ds ([], p)).bind k) Q := by
  refine .fold (fun i s => ∃ (as : List α) (p : List D), s = (as.map g, p) ∧ as.length = i ∧ (∀ a ∈ as, P a) ∧ IsQ p) ⟨[], p, rfl, rfl, fun _ h => absurd h List.not_mem_nil, hp⟩ (fun i d s hd hI => ?_) fun s hI => ?_
  · obtain ⟨as, p, rfl, h1, h2, hp⟩ := hI
    have hi := (List.getElem?_eq_some_iff.mp hd).1
    refine (hf as p d hp (by omega) (List.mem_of_getElem? hd)).mono ?_
    rintro ⟨a, b⟩ ⟨x, rfl, hx, hb⟩
    exact ⟨as ++ [x], b, by rw [List.map_append]; rfl, by rw [List.length_append, h1]; rfl, fun y hy => (List.mem_append.mp hy).elim (h2 y) fun h => by rw [List.mem_singleton.mp h]; exact hx, hb⟩
  · obtain ⟨as, p, rfl, h1, h2, hp⟩ := hI
    exact hk as p h1 h2 hp
abbrev rowsT (rs : List (List Int)) : D := .tup (rs.map rowD)
theorem rowI_snoc {m : Nat} {is : List Int} {c : Int} (h1 : is.length = m) (h2 : ∀ i ∈ is, i.natAbs ≤ 1000) : RowI m (is ++ [c]) := ⟨by rw [List.length_append, h1]; rfl, fun i hi => by
  rw [← h1, List.take_left'  rfl] at hi
  exact h2 i hi⟩
theorem rows {p : List D} (hp : IsQ p) {n m : Nat} (hn : n ≤ 100) (hm : m ≤ 100) : Ret (m_law_rows Ac p (nD n) (nD m)) fun r => ∃ rs : List (List Int), r.1 = rowsT rs ∧ (rs.length = n ∧ ∀ r ∈ rs, RowI m r) ∧ IsQ r.2 := by
  unfold m_law_rows
  walk_at "e"
  refine apps rowD (RowI m) hp (by rw [rngD_length]; omega) (fun as p d hp ha _ => ?_) fun rs p h1 h2 hp => ?_
  · walk_at "e"
    refine intRow 1000 hp (by rw [rngD_length]; omega) (fun p d hp _ => ?_) fun is p h1 h2 hp => ?_
    · refine .pair (coefficient hp) ?_
      rintro _ p1 ⟨v, rfl, h1, hp1⟩
      exact .mk ⟨_, rfl, h1, hp1⟩
    · rw [rngD_length] at h1
      refine .pair (constant hp) ?_
      rintro _ p1 ⟨v, rfl, h3, hp1⟩
      walk_at "e"
      exact .mk ⟨is ++ [v], by show _ ++ [D.tup _] = _ ++ [D.tup _]; rw [List.map_append]; rfl, rowI_snoc h1 h2, hp1⟩
  · rw [rngD_length] at h1
    walk_at "e"
    exact .mk ⟨rs, rfl, ⟨h1, h2⟩, hp⟩
theorem near {p : List D} (hp : IsQ p) {m : Nat} (hm : m ≤ 100) : Ret (m_law_near Ac p (nD m)) fun r => ∃ vs : List Int, r.1 = rowD vs ∧ vs.length = m ∧ IsQ r.2 := by
  unfold m_law_near
  walk_at "e"
  refine intRow 9 hp (by rw [rngD_length]; omega) (fun p d hp _ => ?_) fun is p h1 h2 hp => ?_
  · refine .pair (draw hp 19) ?_
    rintro _ p1 ⟨v, rfl, h1, hp1⟩
    walk_at "e"
    exact .mk ⟨_, rfl, by omega, hp1⟩
  · rw [rngD_length] at h1
    walk_at "e"
    exact .mk ⟨is, rfl, h1, hp⟩
theorem far {p : List D} (hp : IsQ p) {m : Nat} (hm : m ≤ 100) : Ret (m_law_far Ac p (nD m)) fun r => ∃ vs : List Int, r.1 = rowD vs ∧ vs.length = m ∧ IsQ r.2 := by
  unfold m_law_far
  walk_at "e"
  refine apps D.int (fun _ => True) hp (by rw [rngD_length]; omega) (fun as p d hp ha _ => ?_) fun is p h1 h2 hp => ?_
  · refine .pair (draw hp 2000001) ?_
    rintro _ p1 ⟨v, rfl, h1, hp1⟩
    walk_at "e"
    refine .pair (draw hp1 1000000) ?_
    rintro _ p1 ⟨w, rfl, h1, hp1⟩
    walk_at "e"
    exact .mk ⟨_, rfl, trivial, hp1⟩
  · rw [rngD_length] at h1
    walk_at "e"
    exact .mk ⟨is, rfl, h1, hp⟩
end Qk12
set_option Elab.async false
set_option linter.all false
set_option maxRecDepth 100000
set_option maxHeartbeats 4000000
namespace Qk12
open PySem Z TL
local macro_rules | `(tactic| walk_at "e") => `(tactic| try simp -implicitDefEqProofs (disch := first | assumption | omega | decide | (simp only [List.length_map, List.length_cons, List.length_nil, List.length_append, rngD_length]; omega)) only [Option.bind_some, bp_some, fin_nx, fin_rt, pass_nx, pass_rt, out_nx, if_true, if_false, ↓reduceIte, decide_eq_true_eq, Bool.not_true, Bool.not_false, Bool.false_eq_true, Bool.true_eq_false, Bool.not_eq_true', decide_eq_false_iff_not, decide_true, decide_false, Int.reduceEq, Int.reduceLT, Int.reduceLE, Int.reduceNe, Int.reduceAdd, Int.reduceSub, Int.reduceMul, Int.reduceNeg, Nat.reduceAdd, Nat.reduceSub, Nat.reduceMul, Nat.reduceEqDiff, dAdd_ii, dSub_ii, dNeg_i, dAbs_i, dInt_i, dInt_b, dMax2_ii, dMin2_ii, dGcd_ii, bLt_ii, bLe_ii, bGt_ii, bGe_ii, bEq_ii, bEq_bb, bNe_ii, bNe_bb, bEq_ss, bNe_ss, bTru_b, bTru_i, bTru_non, bTru_l, bTru_t, bTru_s, dBl_b, dLen_t, dLen_l, dLen_s, dPart_i, un2_t, un3_t, items_t, items_l, itStr_t, itStr_l, itStr_s, dTuple_l, dTuple_t, dList_t, dList_l, dSum_l, isNon_i, isNon_non, isNon_t, isNon_l, isNon_s, isNon_o, isNon_b, isNon_sc, itRng1_m, ii_int, ii_bool, ii_tup, ii_bb, ii_str, ii_ll, ii_ti, ii_ts, ii_tl, ii_tb, ii_li, ii_ls, ii_lt, ii_lb, ii_it, ii_il, ii_is, ii_si, ii_st, ii_sl, ii_sb, ii_bi, ii_bt, ii_bl, ii_bs, ii_nt, ii_nl, ii_ns, ii_ni, ii_nb, dIx_l0, dIx_t0, dIx_l1, dIx_t1, dIx_l2, dIx_t2, dSet_0, dSet_1, dSet_2, itZip_t, itZip_l, itEnum_t, itEnum_l, dAugA_i, dAll_m, dAny_m, dFld_s, dAdd_tt, dAdd_ll, dAdd_ss, dApp_n, dExt_n, dExtZ_l, dExtZ_t, dIx_last_t, dIx_last_l, dMod_ii, dMul_r, dMul_l, List.length_map, rngD_length ])
local macro_rules | `(tactic| walk_at "h") => `(tactic| try simp -implicitDefEqProofs (disch := first | assumption | omega | decide | (simp only [List.length_map, List.length_cons, List.length_nil, List.length_append, rngD_length]; omega)) only [Option.bind_some, bp_some, fin_nx, fin_rt, pass_nx, pass_rt, out_nx, if_true, if_false, ↓reduceIte, decide_eq_true_eq, Bool.not_true, Bool.not_false, Bool.false_eq_true, Bool.true_eq_false, Bool.not_eq_true', decide_eq_false_iff_not, decide_true, decide_false, Int.reduceEq, Int.reduceLT, Int.reduceLE, Int.reduceNe, Int.reduceAdd, Int.reduceSub, Int.reduceMul, Int.reduceNeg, Nat.reduceAdd, Nat.reduceSub, Nat.reduceMul, Nat.reduceEqDiff, dAdd_ii, dSub_ii, dNeg_i, dAbs_i, dInt_i, dInt_b, dMax2_ii, dMin2_ii, dGcd_ii, bLt_ii, bLe_ii, bGt_ii, bGe_ii, bEq_ii, bEq_bb, bNe_ii, bNe_bb, bEq_ss, bNe_ss, bTru_b, bTru_i, bTru_non, bTru_l, bTru_t, bTru_s, dBl_b, dLen_t, dLen_l, dLen_s, dPart_i, un2_t, un3_t, items_t, items_l, itStr_t, itStr_l, itStr_s, dTuple_l, dTuple_t, dList_t, dList_l, dSum_l, isNon_i, isNon_non, isNon_t, isNon_l, isNon_s, isNon_o, isNon_b, isNon_sc, itRng1_m, ii_int, ii_bool, ii_tup, ii_bb, ii_str, ii_ll, ii_ti, ii_ts, ii_tl, ii_tb, ii_li, ii_ls, ii_lt, ii_lb, ii_it, ii_il, ii_is, ii_si, ii_st, ii_sl, ii_sb, ii_bi, ii_bt, ii_bl, ii_bs, ii_nt, ii_nl, ii_ns, ii_ni, ii_nb, dIx_l0, dIx_t0, dIx_l1, dIx_t1, dIx_l2, dIx_t2, dSet_0, dSet_1, dSet_2, itZip_t, itZip_l, itEnum_t, itEnum_l, dAugA_i, dAll_m, dAny_m, dFld_s, dAdd_tt, dAdd_ll, dAdd_ss, dApp_n, dExt_n, dExtZ_l, dExtZ_t, dIx_last_t, dIx_last_l, dMod_ii, dMul_r, dMul_l, List.length_map, rngD_length, *])
variable {Ac : Cs}
/-- the value of an affine row -/
def prods (row vs : List Int) : List Int := List.zipWith (· * ·) row vs
def aff (row vs : List Int) : Int := (prods row vs).sum + (row[vs.length]?).getD 0
theorem prods_len {m : Nat} {row vs : List Int} (h : RowI m row) (hv : vs.length = m) : (prods row vs).length = m := by
  unfold prods; rw [List.length_zipWith, h.1, hv]; omega
theorem prods_get {m : Nat} {row vs : List Int} (h : RowI m row) (hv : vs.length = m) {i : Nat} (hi : i < m) : ∃ a b, row[i]? = some a ∧ vs[i]? = some b ∧ (prods row vs)[i]? = some (a * b) ∧ a.natAbs ≤ 1000 := by
  have h1 : i < row.length := by rw [h.1]; omega
  have h2 : i < vs.length := by omega
  refine ⟨row[i], vs[i], List.getElem?_eq_getElem h1, List.getElem?_eq_getElem h2, ?_, h.2 _ ?_⟩
  · unfold prods
    rw [List.getElem?_zipWith, List.getElem?_eq_getElem h1, List.getElem?_eq_getElem h2]
  · refine List.mem_of_getElem? (i := i) ?_
    rw [List.getElem?_take_of_lt hi, List.getElem?_eq_getElem h1]
theorem small {a : Int} (h : a.natAbs ≤ 1000) : a.natAbs < 2 ^ 64 := Nat.lt_of_le_of_lt h (by decide)
theorem row_last {m : Nat} {row : List Int} (h : RowI m row) : ∃ cs c, row = cs ++ [c] ∧ cs.length = m ∧ row[m]? = some c := by
  have hne : row ≠ [] := fun e => by have := h.1; rw [e] at this; simp at this
  refine ⟨row.dropLast, row.getLast hne, (List.dropLast_concat_getLast hne).symm, by rw [List.length_dropLast, h.1]; rfl, ?_⟩
  rw [List.getLast_eq_getElem, List.getElem?_eq_getElem (by rw [h.1]; omega)]
  congr 2
  rw [h.1]; rfl
theorem affine_value_ok {m : Nat} {row vs : List Int} (h : RowI m row) (hv : vs.length = m) : m_affine_value Ac (rowD row) (rowD vs) = some (.int (aff row vs)) := by
  refine Ret.eq ?_
  unfold m_affine_value
  obtain ⟨cs, c, er, hc, hg⟩ := row_last h
  have e1 : dIx (rowD row) (.int (-1)) = some (.int c) := by
    unfold rowD
    rw [er, List.map_append]; exact dIx_last_t
  refine .step e1 ?_
  unfold rowD
  walk_at "e"
  refine .fold (fun i s => s = .int (c + ((prods row vs).take i).sum)) (by simp) (fun i d s hd hs => ?_) fun s hs => ?_
  · subst hs
    obtain ⟨a, b, ha, hb, rfl⟩ := zipD_get hd
    have hi : i < m := by
      have := (List.getElem?_eq_some_iff.mp hb).1
      rw [List.length_map] at this; omega
    obtain ⟨a', b', ha', hb', hp, hs⟩ := prods_get h hv hi
    rw [List.getElem?_map, ha'] at ha
    rw [List.getElem?_map, hb'] at hb
    cases ha; cases hb
    have hs' := small hs
    walk_at "e"
    refine .mk ?_
    rw [List.take_add_one, hp, List.sum_append]
    congr 1
    simp
    omega
  · subst hs
    refine .mk ?_
    rw [zipD_length, List.length_map, List.length_map, h.1, hv, List.take_of_length_le (by rw [prods_len h hv]; omega)]
    unfold aff
    rw [hv, hg, Option.getD_some, Int.add_comm]
theorem value_ok {m : Nat} {row vs : List Int} (h : RowI m row) (hv : vs.length = m) (hm : m ≤ 100) : m_law_value Ac (rowD row) (rowD vs) = some (.int (aff row vs)) := by
  refine Ret.eq ?_
  unfold m_law_value rowD
  have hv' : vs.length ≤ 1000000 := by omega
  walk_at "e"
  rw [rng_nD]
  refine .lcM (r := fun k => .int (((prods row vs)[k]?).getD 0)) (by rw [List.length_range]; omega) (fun k hk => ?_) ?_
  · obtain ⟨a, b, ha, hb, hp, hs⟩ := prods_get h hv (by rw [← hv]; exact List.mem_range.mp hk)
    rw [dIx_tm ha, Option.bind_some, dIx_tm hb, Option.bind_some, dMul_l (small hs), Option.bind_some, hp]; rfl
  · obtain ⟨cs, c, er, hc, hg⟩ := row_last h
    have e : (List.range vs.length).map (fun k => D.int (((prods row vs)[k]?).getD 0)) = (prods row vs).map .int := by
      refine List.ext_getElem? fun i => ?_
      rw [List.getElem?_map, List.getElem?_map]
      by_cases hi : i < vs.length
      · rw [List.getElem?_range hi]
        have : i < (prods row vs).length := by rw [prods_len h hv]; omega
        show some (D.int (((prods row vs)[i]?).getD 0)) = _
        rw [List.getElem?_eq_getElem this]; rfl
      · rw [List.getElem?_eq_none (by rw [List.length_range]; omega), List.getElem?_eq_none (by rw [prods_len h hv]; omega)]; rfl
    rw [e]
    refine .step dSum_l ?_
    walk_at "e"
    refine .step (dIx_tm (a := c) (by rw [hv]; exact hg)) ?_
    refine .mk ?_
    unfold aff
    rw [hv, hg]; rfl
theorem rowI_get {m : Nat} {row : List Int} (h : RowI m row) : row.length = m + 1 := h.1
/-- the checks -/
theorem checks {p : List D} (hp : IsQ p) {vs : List Int} {m : Nat} (hv : vs.length = m) (hm : m ≤ 100) : Ret (m_law_checks Ac p (rowD vs)) fun r => ∃ rs : List (List Int), r.1 = rowsT rs ∧ (rs.length ≤ 4 ∧ ∀ r ∈ rs, RowI m r) ∧ IsQ r.2 := by
  unfold m_law_checks
  refine .pair (draw hp 5) ?_
  rintro _ p1 ⟨w, rfl, h1, hp1⟩
  walk_at "e"
  refine apps rowD (RowI m) hp1 (by rw [rngD_length]; omega) (fun as p d hp ha _ => ?_) fun rs p h1 h2 hp => ?_
  · have hv' : vs.length ≤ 1000000 := by omega
    unfold rowD
    walk_at "e"
    refine intRow 1000 hp (by rw [rngD_length]; omega) (fun p d hp _ => ?_) fun is p h1 h2 hp => ?_
    · refine .pair (coefficient hp) ?_
      rintro _ p1 ⟨v, rfl, h1, hp1⟩
      exact .mk ⟨_, rfl, h1, hp1⟩
    · rw [rngD_length] at h1
      refine .pair (constant hp) ?_
      rintro _ p1 ⟨v, rfl, h3, hp1⟩
      refine .bind (P := fun s => ∃ c : Int, s.1 = .int c ∧ IsQ s.2) ?_ ?_
      · refine .pair (draw hp1 2) ?_
        rintro _ p2 ⟨u, rfl, h4, hp2⟩
        walk_at "e"
        refine .ite (fun hu => ?_) fun hu => .mk ⟨_, rfl, hp2⟩
        refine .pair (draw hp2 3) ?_
        rintro _ p3 ⟨x, rfl, h5, hp3⟩
        walk_at "e"
        rw [rng_nD]
        refine .lcM (r := fun k => .int (((prods (is ++ [0]) vs)[k]?).getD 0)) (by rw [List.length_range]; omega) (fun k hk => ?_) ?_
        · have hR : RowI m (is ++ [0]) := rowI_snoc (by omega) h2
          have hk' : k < m := by rw [← hv]; exact List.mem_range.mp hk
          obtain ⟨a, b, ha, hb, hp, hs⟩ := prods_get hR hv hk'
          rw [List.getElem?_append_left (by omega)] at ha
          rw [dIx_lm ha, Option.bind_some, dIx_tm hb, Option.bind_some, dMul_l (small hs), Option.bind_some, hp]; rfl
        · have e : ∀ l : List Nat, dSum (.lst (l.map fun k => D.int (((prods (is ++ [0]) vs)[k]?).getD 0))) = some (.int (l.map fun k => ((prods (is ++ [0]) vs)[k]?).getD 0).sum) := fun l => by
            have : l.map (fun k => D.int (((prods (is ++ [0]) vs)[k]?).getD 0)) = (l.map fun k => ((prods (is ++ [0]) vs)[k]?).getD 0).map .int := by rw [List.map_map]; rfl
            rw [this]; exact dSum_l
          refine .step (e _) ?_
          walk_at "e"
          exact .mk ⟨_, rfl, hp3⟩
      · rintro ⟨_, p2⟩ ⟨c, rfl, hp2⟩
        walk_at "e"
        exact .mk ⟨is ++ [c], by show _ ++ [D.tup _] = _ ++ [D.tup _]; rw [List.map_append]; rfl, rowI_snoc (by omega) h2, hp2⟩
  · rw [rngD_length] at h1
    walk_at "e"
    exact .mk ⟨rs, rfl, ⟨by omega, h2⟩, hp⟩
theorem letter {v : Nat} (h : v < 26) : ∃ c : Str, dIx (.str "abcdefghijklmnopqrstuvwxyz") (nD v) = some (.str c) ∧ c.length = 1 := by
  have : ∀ v : Fin 26, ∃ c : Str, dIx (.str "abcdefghijklmnopqrstuvwxyz") (nD v.val) = some (.str c) ∧ c.length = 1 := by
    intro v
    have hl : (Str.length "abcdefghijklmnopqrstuvwxyz") ≤ sizeLine := by decide +kernel
    have e : ((Str.ofString "abcdefghijklmnopqrstuvwxyz").cps.toList).length = 26 := by decide +kernel
    have hv : v.val < ((Str.ofString "abcdefghijklmnopqrstuvwxyz").cps.toList).length := by rw [e]; exact v.isLt
    refine ⟨⟨#[((Str.ofString "abcdefghijklmnopqrstuvwxyz").cps.toList)[v.val]]⟩, ?_, rfl⟩
    show (if Str.length "abcdefghijklmnopqrstuvwxyz" ≤ sizeLine then (L2.atI ((Str.ofString "abcdefghijklmnopqrstuvwxyz").cps.toList) ((v.val : Nat) : Int)).map fun n => D.str ⟨#[n]⟩ else none) = _
    rw [if_pos hl, L2.atI_nat (List.getElem?_eq_getElem hv)]; rfl
  exact this ⟨v, h⟩
theorem word {p : List D} (hp : IsQ p) : Ret (m_law_word Ac p) fun r => ∃ s : Str, r.1 = .str s ∧ s.length ≤ 4 ∧ IsQ r.2 := by
  unfold m_law_word
  refine .pair (draw hp 4) ?_
  rintro _ p1 ⟨w, rfl, h1, hp1⟩
  walk_at "e"
  have e : (1 : Int) + (w : Int) = ((w + 1 : Nat) : Int) := by omega
  rw [e]
  walk_at "e"
  refine .fold (fun i s => ∃ (x : Str) (p : List D), s = (.str x, p) ∧ x.length = i ∧ IsQ p) ⟨"", p1, rfl, rfl, hp1⟩ (fun i d s hd hs => ?_) fun s hs => ?_
  · obtain ⟨x, p, rfl, hx, hp⟩ := hs
    have hi := (List.getElem?_eq_some_iff.mp hd).1
    rw [rngD_length] at hi
    refine .pair (draw hp 26) ?_
    rintro _ p2 ⟨v, rfl, h2, hp2⟩
    obtain ⟨c, e1, hc⟩ := letter h2
    refine .step e1 ?_
    walk_at "e"
    exact .mk ⟨_, _, rfl, by show Array.size (x.cps ++ c.cps) = _; rw [Array.size_append]; show x.length + c.length = _; omega, hp2⟩
  · obtain ⟨x, p, rfl, hx, hp⟩ := hs
    rw [rngD_length] at hx
    exact .mk ⟨x, rfl, by omega, hp⟩
end Qk12
set_option Elab.async false
set_option linter.all false
set_option maxRecDepth 100000
set_option maxHeartbeats 4000000
namespace Qk12
open PySem Z TL
local macro_rules | `(tactic| walk_at "e") => `(tactic| try simp -implicitDefEqProofs (disch := first | assumption | omega | decide | (simp only [List.length_map, List.length_cons, List.length_nil, List.length_append, rngD_length]; omega)) only [Option.bind_some, bp_some, fin_nx, fin_rt, pass_nx, pass_rt, out_nx, if_true, if_false, ↓reduceIte, decide_eq_true_eq, Bool.not_true, Bool.not_false, Bool.false_eq_true, Bool.true_eq_false, Bool.not_eq_true', decide_eq_false_iff_not, decide_true, decide_false, Int.reduceEq, Int.reduceLT, Int.reduceLE, Int.reduceNe, Int.reduceAdd, Int.reduceSub, Int.reduceMul, Int.reduceNeg, Nat.reduceAdd, Nat.reduceSub, Nat.reduceMul, Nat.reduceEqDiff, dAdd_ii, dSub_ii, dNeg_i, dAbs_i, dInt_i, dInt_b, dMax2_ii, dMin2_ii, dGcd_ii, bLt_ii, bLe_ii, bGt_ii, bGe_ii, bEq_ii, bEq_bb, bNe_ii, bNe_bb, bEq_ss, bNe_ss, bTru_b, bTru_i, bTru_non, bTru_l, bTru_t, bTru_s, dBl_b, dLen_t, dLen_l, dLen_s, dPart_i, un2_t, un3_t, items_t, items_l, itStr_t, itStr_l, itStr_s, dTuple_l, dTuple_t, dList_t, dList_l, dSum_l, isNon_i, isNon_non, isNon_t, isNon_l, isNon_s, isNon_o, isNon_b, isNon_sc, itRng1_m, ii_int, ii_bool, ii_tup, ii_bb, ii_str, ii_ll, ii_ti, ii_ts, ii_tl, ii_tb, ii_li, ii_ls, ii_lt, ii_lb, ii_it, ii_il, ii_is, ii_si, ii_st, ii_sl, ii_sb, ii_bi, ii_bt, ii_bl, ii_bs, ii_nt, ii_nl, ii_ns, ii_ni, ii_nb, dIx_l0, dIx_t0, dIx_l1, dIx_t1, dIx_l2, dIx_t2, dSet_0, dSet_1, dSet_2, itZip_t, itZip_l, itEnum_t, itEnum_l, dAugA_i, dAll_m, dAny_m, dFld_s, dAdd_tt, dAdd_ll, dAdd_ss, dApp_n, dExt_n, dExtZ_l, dExtZ_t, dIx_last_t, dIx_last_l, dMod_ii, dMul_r, dMul_l, List.length_map, rngD_length ])
local macro_rules | `(tactic| walk_at "h") => `(tactic| try simp -implicitDefEqProofs (disch := first | assumption | omega | decide | (simp only [List.length_map, List.length_cons, List.length_nil, List.length_append, rngD_length]; omega)) only [Option.bind_some, bp_some, fin_nx, fin_rt, pass_nx, pass_rt, out_nx, if_true, if_false, ↓reduceIte, decide_eq_true_eq, Bool.not_true, Bool.not_false, Bool.false_eq_true, Bool.true_eq_false, Bool.not_eq_true', decide_eq_false_iff_not, decide_true, decide_false, Int.reduceEq, Int.reduceLT, Int.reduceLE, Int.reduceNe, Int.reduceAdd, Int.reduceSub, Int.reduceMul, Int.reduceNeg, Nat.reduceAdd, Nat.reduceSub, Nat.reduceMul, Nat.reduceEqDiff, dAdd_ii, dSub_ii, dNeg_i, dAbs_i, dInt_i, dInt_b, dMax2_ii, dMin2_ii, dGcd_ii, bLt_ii, bLe_ii, bGt_ii, bGe_ii, bEq_ii, bEq_bb, bNe_ii, bNe_bb, bEq_ss, bNe_ss, bTru_b, bTru_i, bTru_non, bTru_l, bTru_t, bTru_s, dBl_b, dLen_t, dLen_l, dLen_s, dPart_i, un2_t, un3_t, items_t, items_l, itStr_t, itStr_l, itStr_s, dTuple_l, dTuple_t, dList_t, dList_l, dSum_l, isNon_i, isNon_non, isNon_t, isNon_l, isNon_s, isNon_o, isNon_b, isNon_sc, itRng1_m, ii_int, ii_bool, ii_tup, ii_bb, ii_str, ii_ll, ii_ti, ii_ts, ii_tl, ii_tb, ii_li, ii_ls, ii_lt, ii_lb, ii_it, ii_il, ii_is, ii_si, ii_st, ii_sl, ii_sb, ii_bi, ii_bt, ii_bl, ii_bs, ii_nt, ii_nl, ii_ns, ii_ni, ii_nb, dIx_l0, dIx_t0, dIx_l1, dIx_t1, dIx_l2, dIx_t2, dSet_0, dSet_1, dSet_2, itZip_t, itZip_l, itEnum_t, itEnum_l, dAugA_i, dAll_m, dAny_m, dFld_s, dAdd_tt, dAdd_ll, dAdd_ss, dApp_n, dExt_n, dExtZ_l, dExtZ_t, dIx_last_t, dIx_last_l, dMod_ii, dMul_r, dMul_l, List.length_map, rngD_length, *])
variable {Ac : Cs}
/-! instances of Edge and Frame -/
theorem dPut_ok {fs : List (Str × D)} {f : Str} {d : D} (h : fs.length < 1000) : dPut fs f d = some (putD f d fs) := if_pos h
theorem putD_le {f : Str} {d : D} : ∀ {fs : List (Str × D)} {k : Nat}, fs.length ≤ k → (putD f d fs).length ≤ k + 1
  | [], k, _ => by show 1 ≤ k + 1; omega
  | (g, x) :: r, 0, h => by simp at h
  | (g, x) :: r, k + 1, h => by
    unfold putD
    split
    · exact Nat.le_succ_of_le h
    · have := putD_le (f := f) (d := d) (Nat.le_of_succ_le_succ h)
      exact Nat.succ_le_succ this
def edgeF (a b s g e l : D) : List (Str × D) := [("target", a), ("unknowns", b), ("sources", s), ("guards", g), ("effect", e), ("label", l)]
theorem edge_init_ok (a b s g e l : D) {ss gs es : List D} (hs : s = .tup ss) (hg : g = .tup gs) (he : e = .tup es) : m_Edge_init Ac [] a b s g e l = some (edgeF a b s g e l) := by
  subst hs hg he
  unfold m_Edge_init
  rw [dPut_ok (Nat.lt_of_le_of_lt (Nat.le_refl 0) (by decide)), Option.bind_some, dPut_ok (Nat.lt_of_le_of_lt (putD_le (Nat.le_refl 0)) (by decide)), Option.bind_some, dTuple_t, Option.bind_some, dPut_ok (Nat.lt_of_le_of_lt (putD_le (putD_le (Nat.le_refl 0))) (by decide)), Option.bind_some, dTuple_t, Option.bind_some, dPut_ok (Nat.lt_of_le_of_lt (putD_le (putD_le (putD_le (Nat.le_refl 0)))) (by decide)), Option.bind_some, dTuple_t, Option.bind_some, dPut_ok (Nat.lt_of_le_of_lt (putD_le (putD_le (putD_le (putD_le (Nat.le_refl 0))))) (by decide)), Option.bind_some, dPut_ok (Nat.lt_of_le_of_lt (putD_le (putD_le (putD_le (putD_le (putD_le (Nat.le_refl 0)))))) (by decide)), Option.bind_some]
  rfl
def frF (a v f : D) : List (Str × D) := [("name", a), ("variables", v), ("forms", f)]
theorem frame_init_ok (a v f : D) {vs fs : List D} (hv : v = .tup vs) (hf : f = .tup fs) : m_Frame_init Ac [] a v f = some (frF a v f) := by
  subst hv hf
  unfold m_Frame_init
  rw [dPut_ok (Nat.lt_of_le_of_lt (Nat.le_refl 0) (by decide)), Option.bind_some, dTuple_t, Option.bind_some, dPut_ok (Nat.lt_of_le_of_lt (putD_le (Nat.le_refl 0)) (by decide)), Option.bind_some, dTuple_t, Option.bind_some, dPut_ok (Nat.lt_of_le_of_lt (putD_le (putD_le (Nat.le_refl 0))) (by decide)), Option.bind_some]
  rfl
theorem dFld_1 {C : Addr} {f : Str} {fs : List (Str × D)} : dFld [C] f (.obj C fs) = fs.lookup f := if_pos (List.mem_singleton.mpr rfl)
theorem dMth_1 {C : Addr} {f : Str} {fs : List (Str × D)} (h : fs.lookup f = none) : dMth C f (.obj C fs) = some () := if_pos ⟨rfl, h⟩
theorem fr_n {C : Addr} {a v f : D} : dFld [C] "name" (.obj C (frF a v f)) = some a := dFld_1.trans rfl
theorem fr_v {C : Addr} {a v f : D} : dFld [C] "variables" (.obj C (frF a v f)) = some v := dFld_1.trans rfl
theorem fr_f {C : Addr} {a v f : D} : dFld [C] "forms" (.obj C (frF a v f)) = some f := dFld_1.trans rfl
theorem ed_t {C : Addr} {a b s g e l : D} : dFld [C] "target" (.obj C (edgeF a b s g e l)) = some a := dFld_1.trans rfl
theorem ed_u {C : Addr} {a b s g e l : D} : dFld [C] "unknowns" (.obj C (edgeF a b s g e l)) = some b := dFld_1.trans rfl
theorem ed_s {C : Addr} {a b s g e l : D} : dFld [C] "sources" (.obj C (edgeF a b s g e l)) = some s := dFld_1.trans rfl
theorem ed_g {C : Addr} {a b s g e l : D} : dFld [C] "guards" (.obj C (edgeF a b s g e l)) = some g := dFld_1.trans rfl
theorem ed_e {C : Addr} {a b s g e l : D} : dFld [C] "effect" (.obj C (edgeF a b s g e l)) = some e := dFld_1.trans rfl
theorem ed_l {C : Addr} {a b s g e l : D} : dFld [C] "label" (.obj C (edgeF a b s g e l)) = some l := dFld_1.trans rfl
theorem ed_mg {C : Addr} {a b s g e l : D} : dMth C "with_guard" (.obj C (edgeF a b s g e l)) = some () := dMth_1 rfl
theorem ed_mc {C : Addr} {a b s g e l : D} : dMth C "closed" (.obj C (edgeF a b s g e l)) = some () := dMth_1 rfl
theorem ed_mh {C : Addr} {a b s g e l : D} : dMth C "guards_hold" (.obj C (edgeF a b s g e l)) = some () := dMth_1 rfl
theorem ed_ms {C : Addr} {a b s g e l : D} : dMth C "source_state" (.obj C (edgeF a b s g e l)) = some () := dMth_1 rfl
theorem ed_mt {C : Addr} {a b s g e l : D} : dMth C "target_state" (.obj C (edgeF a b s g e l)) = some () := dMth_1 rfl
/-! _law_same of a datum and itself -/
def plainB : Nat → D → Bool
  | _, .int _ => true
  | _, .str _ => true
  | n + 1, .tup ds => decide (ds.length ≤ 100000) && ds.all (plainB n)
  | n + 1, .lst ds => decide (ds.length ≤ 100000) && ds.all (plainB n)
  | _, _ => false
theorem plain_int {n : Nat} {i : Int} : plainB n (.int i) = true := by cases n <;> rfl
theorem plain_str {n : Nat} {s : Str} : plainB n (.str s) = true := by cases n <;> rfl
theorem plain_tup {n : Nat} {ds : List D} (h : ds.length ≤ 100000) (ha : ∀ d ∈ ds, plainB n d = true) : plainB (n + 1) (.tup ds) = true := by
  show (decide (ds.length ≤ 100000) && ds.all (plainB n)) = true
  rw [decide_eq_true h, Bool.true_and, List.all_eq_true]; exact ha
theorem plain_lst {n : Nat} {ds : List D} (h : ds.length ≤ 100000) (ha : ∀ d ∈ ds, plainB n d = true) : plainB (n + 1) (.lst ds) = true := by
  show (decide (ds.length ≤ 100000) && ds.all (plainB n)) = true
  rw [decide_eq_true h, Bool.true_and, List.all_eq_true]; exact ha
theorem same_ok : ∀ (n : Nat) (d : D), plainB n d = true → m_law_same Ac (n + 1) d d = some (.bl true) := by
  intro n
  have row : ∀ (f : D → D → Option D) (mk : List D → D) (hmk : mk = D.tup ∨ mk = D.lst) (ds : List D) (hl : ds.length ≤ 100000) (h : ∀ d ∈ ds, f d d = some (.bl true)), Ret ((Z.lcO (fun d => ((dIx (mk ds) d).bind fun z_3 => ((dIx (mk ds) d).bind fun z_4 => ((f z_3 z_4).bind fun z_5 => some z_5)))) (rngD 0 ds.length)).bind fun ys => (dAll (.lst ys)).bind fun r => some r) fun x => x = .bl true := fun f mk hmk ds hl h => by
    unfold rngD
    refine .lcM (r := fun _ => .bl true) (by rw [List.length_range]; exact hl) (fun i hi => ?_) ?_
    · have hi := List.mem_range.mp hi
      have e : dIx (mk ds) (.int (0 + (i : Nat))) = some ds[i] := by
        rw [Int.zero_add]
        rcases hmk with rfl | rfl
        · exact dIx_t (List.getElem?_eq_getElem hi)
        · exact dIx_l (List.getElem?_eq_getElem hi)
      rw [e, Option.bind_some, Option.bind_some, h _ (List.getElem_mem hi)]; rfl
    · have e : (List.range ds.length).map (fun _ => D.bl true) = (List.replicate ds.length true).map .bl := by rw [List.map_const', List.length_range, List.map_replicate]
      rw [e]
      refine .step dAll_m (.mk ?_)
      congr 1
      rw [List.all_eq_true]
      intro x hx
      rw [List.eq_of_mem_replicate hx]; rfl
  induction n with
  | zero =>
    intro d h
    cases d with
    | int i =>
      have e : m_law_same Ac 1 (.int i) (.int i) = some (.bl (decide (i = i))) := rfl
      rw [e]; simp
    | str s =>
      have e : m_law_same Ac 1 (.str s) (.str s) = some (.bl (decide (s = s))) := rfl
      rw [e]; simp
    | _ => cases h
  | succ n ih =>
    intro d h
    cases d with
    | int i =>
      have e : m_law_same Ac (n + 1 + 1) (.int i) (.int i) = some (.bl (decide (i = i))) := rfl
      rw [e]; simp
    | str s =>
      have e : m_law_same Ac (n + 1 + 1) (.str s) (.str s) = some (.bl (decide (s = s))) := rfl
      rw [e]; simp
    | tup ds =>
      have h' : (decide (ds.length ≤ 100000) && ds.all (plainB n)) = true := h
      rw [Bool.and_eq_true, List.all_eq_true] at h'
      have hl : ds.length ≤ 100000 := of_decide_eq_true h'.1
      have hl2 : ds.length ≤ 1000000 := by omega
      refine Ret.eq ?_
      show Ret (mS_law_same Ac (m_law_same Ac (n + 1)) (.tup ds) (.tup ds)) _
      unfold mS_law_same
      walk_at "e"
      exact row (m_law_same Ac (n + 1)) D.tup (.inl rfl) ds hl fun d hd => ih d (h'.2 d hd)
    | lst ds =>
      have h' : (decide (ds.length ≤ 100000) && ds.all (plainB n)) = true := h
      rw [Bool.and_eq_true, List.all_eq_true] at h'
      have hl : ds.length ≤ 100000 := of_decide_eq_true h'.1
      have hl2 : ds.length ≤ 1000000 := by omega
      refine Ret.eq ?_
      show Ret (mS_law_same Ac (m_law_same Ac (n + 1)) (.lst ds) (.lst ds)) _
      unfold mS_law_same
      walk_at "e"
      exact row (m_law_same Ac (n + 1)) D.lst (.inr rfl) ds hl fun d hd => ih d (h'.2 d hd)
    | _ => cases h
theorem plain_mono {n m : Nat} (h : n ≤ m) : ∀ {d : D}, plainB n d = true → plainB m d = true := by
  induction n generalizing m with
  | zero =>
    intro d hd
    cases d with
    | int i => exact plain_int
    | str s => exact plain_str
    | _ => cases hd
  | succ n ih =>
    intro d hd
    cases m with
    | zero => omega
    | succ m =>
      cases d with
      | int i => exact plain_int
      | str s => exact plain_str
      | tup ds =>
        have h' : (decide (ds.length ≤ 100000) && ds.all (plainB n)) = true := hd
        rw [Bool.and_eq_true, List.all_eq_true] at h'
        exact plain_tup (of_decide_eq_true h'.1) fun d hd => ih (Nat.le_of_succ_le_succ h) (h'.2 d hd)
      | lst ds =>
        have h' : (decide (ds.length ≤ 100000) && ds.all (plainB n)) = true := hd
        rw [Bool.and_eq_true, List.all_eq_true] at h'
        exact plain_lst (of_decide_eq_true h'.1) fun d hd => ih (Nat.le_of_succ_le_succ h) (h'.2 d hd)
      | _ => cases hd
theorem same10 {d : D} (h : plainB 9 d = true) : m_law_same Ac 10 d d = some (.bl true) := same_ok 9 d h
end Qk12
set_option Elab.async false
set_option linter.all false
set_option maxRecDepth 100000
set_option maxHeartbeats 4000000
namespace Qk12
open PySem Z TL
local macro_rules | `(tactic| walk_at "e") => `(tactic| try simp -implicitDefEqProofs (disch := first | assumption | omega | decide | (simp only [List.length_map, List.length_cons, List.length_nil, List.length_append, rngD_length]; omega)) only [Option.bind_some, bp_some, fin_nx, fin_rt, pass_nx, pass_rt, out_nx, if_true, if_false, ↓reduceIte, decide_eq_true_eq, Bool.not_true, Bool.not_false, Bool.false_eq_true, Bool.true_eq_false, Bool.not_eq_true', decide_eq_false_iff_not, decide_true, decide_false, Int.reduceEq, Int.reduceLT, Int.reduceLE, Int.reduceNe, Int.reduceAdd, Int.reduceSub, Int.reduceMul, Int.reduceNeg, Nat.reduceAdd, Nat.reduceSub, Nat.reduceMul, Nat.reduceEqDiff, dAdd_ii, dSub_ii, dNeg_i, dAbs_i, dInt_i, dInt_b, dMax2_ii, dMin2_ii, dGcd_ii, bLt_ii, bLe_ii, bGt_ii, bGe_ii, bEq_ii, bEq_bb, bNe_ii, bNe_bb, bEq_ss, bNe_ss, bTru_b, bTru_i, bTru_non, bTru_l, bTru_t, bTru_s, dBl_b, dLen_t, dLen_l, dLen_s, dPart_i, un2_t, un3_t, items_t, items_l, itStr_t, itStr_l, itStr_s, dTuple_l, dTuple_t, dList_t, dList_l, dSum_l, isNon_i, isNon_non, isNon_t, isNon_l, isNon_s, isNon_o, isNon_b, isNon_sc, itRng1_m, ii_int, ii_bool, ii_tup, ii_bb, ii_str, ii_ll, ii_ti, ii_ts, ii_tl, ii_tb, ii_li, ii_ls, ii_lt, ii_lb, ii_it, ii_il, ii_is, ii_si, ii_st, ii_sl, ii_sb, ii_bi, ii_bt, ii_bl, ii_bs, ii_nt, ii_nl, ii_ns, ii_ni, ii_nb, dIx_l0, dIx_t0, dIx_l1, dIx_t1, dIx_l2, dIx_t2, dSet_0, dSet_1, dSet_2, itZip_t, itZip_l, itEnum_t, itEnum_l, dAugA_i, dAll_m, dAny_m, dAdd_tt, dAdd_ll, dAdd_ss, dApp_n, dExt_n, dExtZ_l, dExtZ_t, dIx_last_t, dIx_last_l, dMod_ii, dMul_r, dMul_l, List.length_map, rngD_length, ed_t, ed_u, ed_s, ed_g, ed_e, ed_l, ed_mg, ed_mc, ed_mh, ed_ms, ed_mt, fr_n, fr_v, fr_f ])
local macro_rules | `(tactic| walk_at "h") => `(tactic| try simp -implicitDefEqProofs (disch := first | assumption | omega | decide | (simp only [List.length_map, List.length_cons, List.length_nil, List.length_append, rngD_length]; omega)) only [Option.bind_some, bp_some, fin_nx, fin_rt, pass_nx, pass_rt, out_nx, if_true, if_false, ↓reduceIte, decide_eq_true_eq, Bool.not_true, Bool.not_false, Bool.false_eq_true, Bool.true_eq_false, Bool.not_eq_true', decide_eq_false_iff_not, decide_true, decide_false, Int.reduceEq, Int.reduceLT, Int.reduceLE, Int.reduceNe, Int.reduceAdd, Int.reduceSub, Int.reduceMul, Int.reduceNeg, Nat.reduceAdd, Nat.reduceSub, Nat.reduceMul, Nat.reduceEqDiff, dAdd_ii, dSub_ii, dNeg_i, dAbs_i, dInt_i, dInt_b, dMax2_ii, dMin2_ii, dGcd_ii, bLt_ii, bLe_ii, bGt_ii, bGe_ii, bEq_ii, bEq_bb, bNe_ii, bNe_bb, bEq_ss, bNe_ss, bTru_b, bTru_i, bTru_non, bTru_l, bTru_t, bTru_s, dBl_b, dLen_t, dLen_l, dLen_s, dPart_i, un2_t, un3_t, items_t, items_l, itStr_t, itStr_l, itStr_s, dTuple_l, dTuple_t, dList_t, dList_l, dSum_l, isNon_i, isNon_non, isNon_t, isNon_l, isNon_s, isNon_o, isNon_b, isNon_sc, itRng1_m, ii_int, ii_bool, ii_tup, ii_bb, ii_str, ii_ll, ii_ti, ii_ts, ii_tl, ii_tb, ii_li, ii_ls, ii_lt, ii_lb, ii_it, ii_il, ii_is, ii_si, ii_st, ii_sl, ii_sb, ii_bi, ii_bt, ii_bl, ii_bs, ii_nt, ii_nl, ii_ns, ii_ni, ii_nb, dIx_l0, dIx_t0, dIx_l1, dIx_t1, dIx_l2, dIx_t2, dSet_0, dSet_1, dSet_2, itZip_t, itZip_l, itEnum_t, itEnum_l, dAugA_i, dAll_m, dAny_m, dAdd_tt, dAdd_ll, dAdd_ss, dApp_n, dExt_n, dExtZ_l, dExtZ_t, dIx_last_t, dIx_last_l, dMod_ii, dMul_r, dMul_l, List.length_map, rngD_length, ed_t, ed_u, ed_s, ed_g, ed_e, ed_l, ed_mg, ed_mc, ed_mh, ed_ms, ed_mt, fr_n, fr_v, fr_f, *])
variable {Ac : Cs}
/-- an edge as the law knows it -/
structure Ed where
  aim : Nat
  many : Nat
  pairs : List (Nat × List (List Int))
  checks : List (List Int)
  rows : List (List Int)
  word : Str
abbrev pairD (q : Nat × List (List Int)) : D := .tup [nD q.1, rowsT q.2]
abbrev pairL (q : Nat × List (List Int)) : D := .tup [nD q.1, .lst (q.2.map rowD)]
def Ed.fs (E : Ed) : List (Str × D) := edgeF (nD E.aim) (nD E.many) (.tup (E.pairs.map pairD)) (rowsT E.checks) (rowsT E.rows) (.str E.word)
abbrev Ed.obj (Ac : Cs) (E : Ed) : D := .obj Ac.c_Edge E.fs
abbrev Ed.due (E : Ed) : D := .tup [nD E.aim, nD E.many, .lst (E.pairs.map pairL), rowsT E.checks, rowsT E.rows, .str E.word]
structure Ed.Ok (E : Ed) : Prop where
  many : E.many ≤ 20
  pl : E.pairs.length ≤ 100
  pr : ∀ q ∈ E.pairs, q.2.length ≤ 100 ∧ ∀ r ∈ q.2, RowI E.many r
  cl : E.checks.length ≤ 100
  cr : ∀ r ∈ E.checks, RowI E.many r
  rl : E.rows.length ≤ 100
  rr : ∀ r ∈ E.rows, RowI E.many r
theorem rowD_plain {n : Nat} {r : List Int} (h : r.length ≤ 100000) : plainB (n + 1) (rowD r) = true := plain_tup (by rw [List.length_map]; exact h) fun d hd => by
  obtain ⟨i, _, rfl⟩ := List.mem_map.mp hd
  exact plain_int
theorem rowsT_plain {n m : Nat} {rs : List (List Int)} (h : rs.length ≤ 1000) (hm : m ≤ 100) (hr : ∀ r ∈ rs, RowI m r) : plainB (n + 2) (rowsT rs) = true := plain_tup (by rw [List.length_map]; omega) fun d hd => by
  obtain ⟨r, hr', rfl⟩ := List.mem_map.mp hd
  exact rowD_plain (by rw [(hr r hr').1]; omega)
theorem due_plain {E : Ed} (h : E.Ok) : plainB 9 E.due = true := by
  refine plain_tup (by show 6 ≤ 100000; decide) fun d hd => ?_
  have hm := h.many
  simp only [List.mem_cons, List.not_mem_nil, or_false] at hd
  rcases hd with rfl | rfl | rfl | rfl | rfl | rfl
  · exact plain_int
  · exact plain_int
  · refine plain_lst (by rw [List.length_map]; have := h.pl; omega) fun d hd => ?_
    obtain ⟨q, hq, rfl⟩ := List.mem_map.mp hd
    refine plain_tup (by show 2 ≤ 100000; decide) fun d hd => ?_
    simp only [List.mem_cons, List.not_mem_nil, or_false] at hd
    rcases hd with rfl | rfl
    · exact plain_int
    · refine plain_lst (by rw [List.length_map]; have := (h.pr q hq).1; omega) fun d hd => ?_
      obtain ⟨r, hr, rfl⟩ := List.mem_map.mp hd
      exact rowD_plain (by rw [((h.pr q hq).2 r hr).1]; omega)
  · exact rowsT_plain (by have := h.cl; omega) (by omega) h.cr
  · exact rowsT_plain (by have := h.rl; omega) (by omega) h.rr
  · exact plain_str
theorem seen_ok {E : Ed} (h : E.Ok) : m_law_edge_seen Ac (E.obj Ac) = some E.due := by
  refine Ret.eq ?_
  have hp := h.pl
  unfold m_law_edge_seen Ed.obj Ed.fs
  walk_at "e"
  refine .lcM (r := pairL) (by omega) (fun q hq => ?_) ?_
  · walk_at "e"
  · walk_at "e"
    exact .mk rfl
theorem due_ok {E : Ed} (h : E.Ok) : m_law_due Ac (nD E.aim) (nD E.many) (.tup (E.pairs.map pairD)) (rowsT E.checks) (rowsT E.rows) (.str E.word) = some E.due := by
  refine Ret.eq ?_
  have hp := h.pl
  unfold m_law_due
  walk_at "e"
  refine .lcM (r := pairL) (by omega) (fun q hq => ?_) ?_
  · walk_at "e"
  · walk_at "e"
    exact .mk rfl
theorem init_ok (E : Ed) : m_Edge_init Ac [] (nD E.aim) (nD E.many) (.tup (E.pairs.map pairD)) (rowsT E.checks) (rowsT E.rows) (.str E.word) = some E.fs := edge_init_ok _ _ _ _ _ _ rfl rfl rfl
/-! sums -/
theorem lc_vals {m : Nat} {rs : List (List Int)} {vs : List Int} (hl : rs.length ≤ 1000) (h : ∀ r ∈ rs, RowI m r) (hv : vs.length = m) : lcO (fun d => ((m_affine_value Ac d (rowD vs)).bind fun z => some z)) (rs.map rowD) = some (rs.map fun r => D.int (aff r vs)) :=
  lcO_map (size_ok (by omega)) fun r hr => by rw [affine_value_ok (h r hr) hv]; rfl
theorem lc_vals2 {m : Nat} {rs : List (List Int)} {vs : List Int} (hl : rs.length ≤ 1000) (h : ∀ r ∈ rs, RowI m r) (hv : vs.length = m) (hm : m ≤ 100) : lcO (fun d => ((m_law_value Ac d (rowD vs)).bind fun z => some z)) (rs.map rowD) = some (rs.map fun r => D.int (aff r vs)) :=
  lcO_map (size_ok (by omega)) fun r hr => by rw [value_ok (h r hr) hv hm]; rfl
theorem plain_vals {n : Nat} {rs : List (List Int)} {vs : List Int} (hl : rs.length ≤ 1000) : plainB (n + 1) (.tup (rs.map fun r => D.int (aff r vs))) = true := plain_tup (by rw [List.length_map]; omega) fun d hd => by
  obtain ⟨r, _, rfl⟩ := List.mem_map.mp hd
  exact plain_int
def held (E : Ed) (vs : List Int) : Bool := E.checks.all fun r => decide (aff r vs ≤ 0)
theorem hold_ok {E : Ed} (h : E.Ok) {vs : List Int} (hv : vs.length = E.many) : m_Edge_guards_hold Ac (E.obj Ac) (rowD vs) = some (.bl (held E vs)) := by
  refine Ret.eq ?_
  unfold m_Edge_guards_hold Ed.obj Ed.fs
  walk_at "e"
  have key : ∀ (rs : List (List Int)), (∀ r ∈ rs, RowI E.many r) → Ret (Fl.fin (forL (S := Unit) (R := D) (fun _ d => ((m_affine_value Ac d (rowD vs)).bind fun z => ((bGt z (D.int 0)).bind fun b => (if b then some (.rt (D.bl false)) else some (.nx ()))))) (rs.map rowD) ()) fun _ => some (D.bl true)) fun x => x = .bl (rs.all fun r => decide (aff r vs ≤ 0)) := fun rs => by
    induction rs with
    | nil => exact fun _ => .mk rfl
    | cons r rs ih =>
      intro hr
      rw [List.map_cons]
      have e1 := affine_value_ok (Ac := Ac) (hr r List.mem_cons_self) hv
      have ih' := ih fun r h => hr r (List.mem_cons_of_mem _ h)
      rw [List.all_cons]
      unfold Fl.fin forL
      by_cases hc : 0 < aff r vs
      · rw [e1, Option.bind_some, bGt_ii, Option.bind_some, if_pos (decide_eq_true hc)]
        refine .mk ?_
        rw [decide_eq_false (by omega)]; rfl
      · rw [e1, Option.bind_some, bGt_ii, Option.bind_some, if_neg (by simpa using hc), decide_eq_true (p := aff r vs ≤ 0) (by omega), Bool.true_and]
        exact ih'
  exact key E.checks h.cr
theorem sums_ok {E : Ed} (h : E.Ok) {vs : List Int} (hv : vs.length = E.many) : m_law_sums_hold Ac (E.obj Ac) E.due (rowD vs) = some (.bl true) := by
  refine Ret.eq ?_
  have hm := h.many
  have hp := h.pl
  have hc := h.cl
  have hr := h.rl
  unfold m_law_sums_hold
  have e3 : dIx E.due (.int 3) = some (rowsT E.checks) := dIx_t (n := 3) rfl
  have e2 : dIx E.due (.int 2) = some (.lst (E.pairs.map pairL)) := dIx_t (n := 2) rfl
  have e4 : dIx E.due (.int 4) = some (rowsT E.rows) := dIx_t (n := 4) rfl
  have hh := hold_ok (Ac := Ac) h hv
  have hd : dMth Ac.c_Edge "guards_hold" (E.obj Ac) = some () := ed_mh
  rw [e3, e2, e4]
  walk_at "e"
  refine .lcM (r := fun r => D.bl (decide (aff r vs ≤ 0))) (by omega) (fun r hr' => ?_) ?_
  · rw [value_ok (h.cr r hr') hv (by omega)]; rfl
  · have e5 : (E.checks.map fun r => D.bl (decide (aff r vs ≤ 0))) = (E.checks.map fun r => decide (aff r vs ≤ 0)).map .bl := by rw [List.map_map]; rfl
    rw [e5]
    refine .step dAll_m ?_
    have e6 : ((E.checks.map fun r => decide (aff r vs ≤ 0)).all id) = held E vs := by rw [List.all_map]; rfl
    rw [e6]
    refine .step hd ?_
    refine .step hh ?_
    refine .step bTru_b ?_
    have e7 : ∀ (k : Bool → Option D) (Q : D → Prop), Ret (k false) Q → Ret ((if held E vs = true then ((dBl (D.bl (held E vs))).bind fun b_2 => some (!(b_2 == true))) else some false).bind k) Q := fun k Q hk => by
      cases held E vs <;> exact hk
    refine e7 _ _ ?_
    refine .neg (by decide) ?_
    refine .step bTru_b ?_
    have e8 : ∀ (k : Bool → Option D) (Q : D → Prop), Ret (k false) Q → Ret ((if held E vs = false then ((dBl (D.bl (held E vs))).bind fun b_2 => some (!(b_2 == false))) else some false).bind k) Q := fun k Q hk => by
      cases held E vs <;> exact hk
    refine e8 _ _ ?_
    refine .neg (by decide) ?_
    refine .finU (fun d hd => ?_) ?_
    · obtain ⟨i, hi, rfl⟩ := rng_mem hd
      have hi' : i < E.pairs.length := hi
      have hq := List.getElem_mem hi'
      have hl1 := (h.pr _ hq).1
      have eA : dIx (.lst (E.pairs.map pairL)) (nD i) = some (pairL E.pairs[i]) := dIx_lm (List.getElem?_eq_getElem hi')
      have eB : dIx (.tup (E.pairs.map pairD)) (nD i) = some (pairD E.pairs[i]) := dIx_tm (List.getElem?_eq_getElem hi')
      have eS : m_Edge_source_state Ac (E.obj Ac) (nD i) (rowD vs) = some (.tup (E.pairs[i].2.map fun r => D.int (aff r vs))) := by
        refine Ret.eq ?_
        unfold m_Edge_source_state Ed.obj Ed.fs
        walk_at "e"
        refine .step eB ?_
        walk_at "e"
        refine .step (lc_vals (by omega) (h.pr _ hq).2 hv) ?_
        walk_at "e"
        exact .mk rfl
      have hd2 : dMth Ac.c_Edge "source_state" (E.obj Ac) = some () := ed_ms
      rw [eA, Option.bind_some, dIx_t1, Option.bind_some, itStr_l, Option.bind_some, lc_vals2 (by omega) (h.pr _ hq).2 hv (by omega), Option.bind_some, hd2, Option.bind_some, eS, Option.bind_some, same10 (plain_vals (by omega)), Option.bind_some, bTru_b, Option.bind_some]
      rfl
    · have hd3 : dMth Ac.c_Edge "target_state" (E.obj Ac) = some () := ed_mt
      refine .step (lc_vals2 (by omega) h.rr hv (by omega)) ?_
      refine .step hd3 ?_
      have eT : m_Edge_target_state Ac (E.obj Ac) (rowD vs) = some (.tup (E.rows.map fun r => D.int (aff r vs))) := by
        refine Ret.eq ?_
        unfold m_Edge_target_state Ed.obj Ed.fs
        walk_at "e"
        refine .step (lc_vals (by omega) h.rr hv) ?_
        walk_at "e"
        exact .mk rfl
      refine .step eT ?_
      refine .step (same10 (plain_vals (by omega))) ?_
      exact .mk rfl
end Qk12
set_option Elab.async false
set_option linter.all false
set_option maxRecDepth 100000
set_option maxHeartbeats 4000000
namespace Qk12
open PySem Z TL
local macro_rules | `(tactic| walk_at "e") => `(tactic| try simp -implicitDefEqProofs (disch := first | assumption | omega | decide | (simp only [List.length_map, List.length_cons, List.length_nil, List.length_append, rngD_length]; omega)) only [Option.bind_some, bp_some, fin_nx, fin_rt, pass_nx, pass_rt, out_nx, if_true, if_false, ↓reduceIte, decide_eq_true_eq, Bool.not_true, Bool.not_false, Bool.false_eq_true, Bool.true_eq_false, Bool.not_eq_true', decide_eq_false_iff_not, decide_true, decide_false, Int.reduceEq, Int.reduceLT, Int.reduceLE, Int.reduceNe, Int.reduceAdd, Int.reduceSub, Int.reduceMul, Int.reduceNeg, Nat.reduceAdd, Nat.reduceSub, Nat.reduceMul, Nat.reduceEqDiff, dAdd_ii, dSub_ii, dNeg_i, dAbs_i, dInt_i, dInt_b, dMax2_ii, dMin2_ii, dGcd_ii, bLt_ii, bLe_ii, bGt_ii, bGe_ii, bEq_ii, bEq_bb, bNe_ii, bNe_bb, bEq_ss, bNe_ss, bTru_b, bTru_i, bTru_non, bTru_l, bTru_t, bTru_s, dBl_b, dLen_t, dLen_l, dLen_s, dPart_i, un2_t, un3_t, items_t, items_l, itStr_t, itStr_l, itStr_s, dTuple_l, dTuple_t, dList_t, dList_l, dSum_l, isNon_i, isNon_non, isNon_t, isNon_l, isNon_s, isNon_o, isNon_b, isNon_sc, itRng1_m, ii_int, ii_bool, ii_tup, ii_bb, ii_str, ii_ll, ii_ti, ii_ts, ii_tl, ii_tb, ii_li, ii_ls, ii_lt, ii_lb, ii_it, ii_il, ii_is, ii_si, ii_st, ii_sl, ii_sb, ii_bi, ii_bt, ii_bl, ii_bs, ii_nt, ii_nl, ii_ns, ii_ni, ii_nb, dIx_l0, dIx_t0, dIx_l1, dIx_t1, dIx_l2, dIx_t2, dSet_0, dSet_1, dSet_2, itZip_t, itZip_l, itEnum_t, itEnum_l, dAugA_i, dAll_m, dAny_m, dAdd_tt, dAdd_ll, dAdd_ss, dApp_n, dExt_n, dExtZ_l, dExtZ_t, dIx_last_t, dIx_last_l, dMod_ii, dMul_r, dMul_l, List.length_map, rngD_length, ed_t, ed_u, ed_s, ed_g, ed_e, ed_l, ed_mg, ed_mc, ed_mh, ed_ms, ed_mt, fr_n, fr_v, fr_f ])
local macro_rules | `(tactic| walk_at "h") => `(tactic| try simp -implicitDefEqProofs (disch := first | assumption | omega | decide | (simp only [List.length_map, List.length_cons, List.length_nil, List.length_append, rngD_length]; omega)) only [Option.bind_some, bp_some, fin_nx, fin_rt, pass_nx, pass_rt, out_nx, if_true, if_false, ↓reduceIte, decide_eq_true_eq, Bool.not_true, Bool.not_false, Bool.false_eq_true, Bool.true_eq_false, Bool.not_eq_true', decide_eq_false_iff_not, decide_true, decide_false, Int.reduceEq, Int.reduceLT, Int.reduceLE, Int.reduceNe, Int.reduceAdd, Int.reduceSub, Int.reduceMul, Int.reduceNeg, Nat.reduceAdd, Nat.reduceSub, Nat.reduceMul, Nat.reduceEqDiff, dAdd_ii, dSub_ii, dNeg_i, dAbs_i, dInt_i, dInt_b, dMax2_ii, dMin2_ii, dGcd_ii, bLt_ii, bLe_ii, bGt_ii, bGe_ii, bEq_ii, bEq_bb, bNe_ii, bNe_bb, bEq_ss, bNe_ss, bTru_b, bTru_i, bTru_non, bTru_l, bTru_t, bTru_s, dBl_b, dLen_t, dLen_l, dLen_s, dPart_i, un2_t, un3_t, items_t, items_l, itStr_t, itStr_l, itStr_s, dTuple_l, dTuple_t, dList_t, dList_l, dSum_l, isNon_i, isNon_non, isNon_t, isNon_l, isNon_s, isNon_o, isNon_b, isNon_sc, itRng1_m, ii_int, ii_bool, ii_tup, ii_bb, ii_str, ii_ll, ii_ti, ii_ts, ii_tl, ii_tb, ii_li, ii_ls, ii_lt, ii_lb, ii_it, ii_il, ii_is, ii_si, ii_st, ii_sl, ii_sb, ii_bi, ii_bt, ii_bl, ii_bs, ii_nt, ii_nl, ii_ns, ii_ni, ii_nb, dIx_l0, dIx_t0, dIx_l1, dIx_t1, dIx_l2, dIx_t2, dSet_0, dSet_1, dSet_2, itZip_t, itZip_l, itEnum_t, itEnum_l, dAugA_i, dAll_m, dAny_m, dAdd_tt, dAdd_ll, dAdd_ss, dApp_n, dExt_n, dExtZ_l, dExtZ_t, dIx_last_t, dIx_last_l, dMod_ii, dMul_r, dMul_l, List.length_map, rngD_length, ed_t, ed_u, ed_s, ed_g, ed_e, ed_l, ed_mg, ed_mc, ed_mh, ed_ms, ed_mt, fr_n, fr_v, fr_f, *])
variable {Ac : Cs}
/-- the k-th unit row over m unknowns -/
def unitL (m k : Nat) : List Int := (List.range (m + 1)).map fun i => if i = k then 1 else 0
theorem unitL_eq {m k : Nat} (h : k ≤ m) : unitL m k = List.replicate k 0 ++ [1] ++ List.replicate (m - k) 0 := by
  refine List.ext_getElem? fun i => ?_
  unfold unitL
  rw [List.getElem?_map, List.append_assoc, List.getElem?_append, List.length_replicate]
  by_cases h1 : i < k
  · rw [if_pos h1, List.getElem?_range (by omega), List.getElem?_replicate, if_pos h1]
    show some (if i = k then (1 : Int) else 0) = _
    rw [if_neg (by omega)]
  · rw [if_neg h1, List.getElem?_append, List.length_singleton]
    by_cases h2 : i = k
    · subst h2
      rw [List.getElem?_range (by omega), Nat.sub_self, if_pos (by decide)]
      show some (if i = i then (1 : Int) else 0) = _
      rw [if_pos rfl]; rfl
    · rw [if_neg (by omega), List.getElem?_replicate]
      by_cases h3 : i < m + 1
      · rw [if_pos (by omega), List.getElem?_range h3]
        show some (if i = k then (1 : Int) else 0) = _
        rw [if_neg h2]
      · rw [if_neg (by omega), List.getElem?_eq_none (by rw [List.length_range]; omega)]; rfl
theorem unitL_row {m k : Nat} : RowI m (unitL m k) := ⟨by unfold unitL; rw [List.length_map, List.length_range], fun i hi => by
  obtain ⟨j, _, rfl⟩ := List.mem_map.mp (List.mem_of_mem_take hi)
  split <;> decide⟩
theorem flat1 {α : Type} (n : Nat) (a : α) : (List.replicate n [a]).flatten = List.replicate n a := by
  induction n with
  | zero => rfl
  | succ n ih => rw [List.replicate_succ, List.flatten_cons, ih]; rfl
theorem repT {n : Nat} (hn : n ≤ 1000) (d : D) : dRepT (.tup [d]) (nD n) = some (.tup (List.replicate n d)) := by
  have h := dRepT_n (x := [d]) (n := n) (by simp) (by simp) hn
  rw [flat1] at h; exact h
theorem unit_row_ok {m k : Nat} (h : k ≤ m) (hm : m ≤ 100) : m_unit_row Ac (nD k) (nD m) = some (rowD (unitL m k)) := by
  refine Ret.eq ?_
  unfold m_unit_row
  refine .step (repT (by omega) _) ?_
  have e1 : (List.replicate k (D.int 0)).length + [D.int 1].length ≤ 100000 := by rw [List.length_replicate]; show k + 1 ≤ _; omega
  refine .step (dAdd_tt e1) ?_
  refine .step dSub_ii ?_
  have e2 : (m : Int) - (k : Int) = ((m - k : Nat) : Int) := by omega
  rw [e2]
  refine .step (repT (by omega) _) ?_
  refine .step (dAdd_tt (by simp only [List.length_append, List.length_replicate, List.length_singleton]; omega)) ?_
  refine .mk ?_
  unfold rowD
  rw [unitL_eq h, List.map_append, List.map_append, List.map_replicate, List.map_replicate]; rfl
def unitsL (s m : Nat) : List (List Int) := (List.range s).map (unitL m)
theorem units_ok {s m : Nat} (hm : m ≤ 100) (hs : s ≤ 100) : m_law_units Ac (nD s) (nD m) = some (rowsT (unitsL s m)) := by
  refine Ret.eq ?_
  unfold m_law_units
  refine .step (itRng1_m (by omega)) ?_
  rw [rng_nD]
  refine .lcM (r := fun k => rowD (unitL m k)) (by rw [List.length_range]; omega) (fun k hk => ?_) ?_
  · refine Ret.eq ?_
    refine .step dAdd_ii ?_
    have e : (m : Int) + 1 = ((m + 1 : Nat) : Int) := by omega
    rw [e]
    refine .step (itRng1_m (by omega)) ?_
    rw [rng_nD]
    refine .lcM (r := fun i => .int (if i = k then 1 else 0)) (by rw [List.length_range]; omega) (fun i hi => ?_) ?_
    · rw [bEq_ii, Option.bind_some, dInt_b, Option.bind_some]
      congr 2
      by_cases h : i = k
      · subst h; simp
      · rw [if_neg h, decide_eq_false (by omega)]; rfl
    · refine .step dTuple_l (.mk ?_)
      unfold rowD unitL
      rw [List.map_map]; rfl
  · refine .step dTuple_l (.mk ?_)
    unfold rowsT unitsL
    rw [List.map_map]; rfl
theorem unitsL_ok {s m : Nat} : ∀ r ∈ unitsL s m, RowI m r := fun r hr => by
  obtain ⟨k, _, rfl⟩ := List.mem_map.mp hr
  exact unitL_row
theorem unitsL_len {s m : Nat} : (unitsL s m).length = s := by unfold unitsL; rw [List.length_map, List.length_range]
/-- Edge.plain -/
theorem plain_ok {o a s f : Nat} {cs : List (List Int)} {w : Str} {e : D} {rs : List (List Int)} (hs : s ≤ 50) (hf : f ≤ 50) (he : (e = .non ∧ rs = unitsL s (s + f)) ∨ e = rowsT rs) :
    m_Edge_plain Ac (nD o) (nD a) (nD s) (nD f) (rowsT cs) e (.str w) = some (Ed.obj Ac ⟨a, s + f, [(o, unitsL s (s + f))], cs, rs, w⟩) := by
  refine Ret.eq ?_
  unfold m_Edge_plain
  refine .step dAdd_ii ?_
  refine .step (itRng1_m (by omega)) ?_
  rw [rng_nD]
  refine .lcM (r := fun k => rowD (unitL (s + f) k)) (by rw [List.length_range]; omega) (fun k hk => ?_) ?_
  · have := List.mem_range.mp hk
    have e : m_unit_row Ac (nD k) (.int ((s : Int) + (f : Int))) = some (rowD (unitL (s + f) k)) := unit_row_ok (by omega) (by omega)
    rw [e]; rfl
  · have e1 : (List.range s).map (fun k => rowD (unitL (s + f) k)) = (unitsL s (s + f)).map rowD := by unfold unitsL; rw [List.map_map]; rfl
    rw [e1]
    refine .step dTuple_l ?_
    refine .bind (P := fun x => x = rowsT rs) ?_ ?_
    · rcases he with ⟨rfl, rfl⟩ | rfl
      · exact .pos rfl (.mk rfl)
      · exact .neg (show ¬ (false = true) by decide) (.mk rfl)
    · rintro _ rfl
      refine .step (edge_init_ok _ _ _ _ _ _ rfl rfl rfl) ?_
      exact .mk rfl
theorem start_ok {a m : Nat} {cs rs : List (List Int)} : m_Edge_start Ac (nD a) (nD m) (rowsT cs) (rowsT rs) = some (Ed.obj Ac ⟨a, m, [], cs, rs, "start"⟩) := by
  refine Ret.eq ?_
  unfold m_Edge_start
  refine .step (edge_init_ok _ _ _ _ _ _ rfl rfl rfl) ?_
  exact .mk rfl
/-- what the law makes -/
def IsMade (Ac : Cs) (d : D) : Prop := ∃ (E : Ed) (vs : List Int), E.Ok ∧ E.checks.length ≤ 90 ∧ vs.length = E.many ∧ d = .tup [E.obj Ac, E.due, rowD vs]
theorem pairs {p : List D} (hp : IsQ p) {m : Nat} (hm : m ≤ 20) : Ret (m_law_pairs Ac p (nD m)) fun r => ∃ qs : List (Nat × List (List Int)), r.1 = .tup (qs.map pairD) ∧ (qs.length ≤ 100 ∧ ∀ q ∈ qs, q.2.length ≤ 100 ∧ ∀ r ∈ q.2, RowI m r) ∧ IsQ r.2 := by
  unfold m_law_pairs
  refine .pair (draw hp 3) ?_
  rintro _ p1 ⟨w, rfl, h1, hp1⟩
  refine .step (itRng1_m (by omega)) ?_
  refine apps pairD (fun q => q.2.length ≤ 100 ∧ ∀ r ∈ q.2, RowI m r) hp1 (by rw [rngD_length]; omega) (fun as p d hp ha _ => ?_) fun rs p h1 h2 hp => ?_
  · refine .pair (draw hp 10) ?_
    rintro _ p2 ⟨o, rfl, h2, hp2⟩
    refine .pair (draw hp2 3) ?_
    rintro _ p3 ⟨n, rfl, h3, hp3⟩
    refine .step dAdd_ii ?_
    have e : (1 : Int) + (n : Int) = ((n + 1 : Nat) : Int) := by omega
    rw [e]
    refine .pair (rows (m := m) (n := n + 1) hp3 (by omega) (by omega)) ?_
    rintro _ p4 ⟨rs, rfl, ⟨h4, h5⟩, hp4⟩
    refine .step (dApp_n (by rw [List.length_map]; omega)) ?_
    exact .mk ⟨(o, rs), rfl, ⟨by show rs.length ≤ 100; omega, h5⟩, hp4⟩
  · rw [rngD_length] at h1
    exact .mk ⟨rs, rfl, ⟨by omega, h2⟩, hp⟩
/-- one of the ways: an edge, what is due, the values -/
theorem way {E : Ed} {d : D} {vs : List Int} {p : List D} (h : E.Ok) (hv : vs.length = E.many) (hp : IsQ p) (hc : E.checks.length ≤ 90) : Ret (some ((D.tup [E.obj Ac, E.due, rowD vs]), p)) fun r => IsMade Ac r.1 ∧ IsQ r.2 := .mk ⟨⟨E, vs, h, hc, hv, rfl⟩, hp⟩
theorem nilOk {m : Nat} : ∀ r ∈ ([] : List (List Int)), RowI m r := fun _ h => absurd h List.not_mem_nil
theorem mk1 {E : Ed} {vs : List Int} {p : List D} (h : E.Ok) (hv : vs.length = E.many) (hp : IsQ p) (hc : E.checks.length ≤ 90 := by first | exact Nat.zero_le _ | omega | (simp; omega)) : Ret ((m_Edge_init Ac [] (nD E.aim) (nD E.many) (.tup (E.pairs.map pairD)) (rowsT E.checks) (rowsT E.rows) (.str E.word)).bind fun fs => ((m_law_due Ac (nD E.aim) (nD E.many) (.tup (E.pairs.map pairD)) (rowsT E.checks) (rowsT E.rows) (.str E.word)).bind fun z => some ((D.tup [(D.obj Ac.c_Edge fs), z, rowD vs]), p))) fun r => IsMade Ac r.1 ∧ IsQ r.2 := by
  refine .step (init_ok E) ?_
  refine .step (due_ok h) ?_
  exact way (d := .non) h hv hp hc
theorem mk2 {E : Ed} {vs : List Int} {p : List D} {m : Option D} (hm : m = some (E.obj Ac)) (h : E.Ok) (hv : vs.length = E.many) (hp : IsQ p) (hc : E.checks.length ≤ 90 := by first | exact Nat.zero_le _ | omega | (simp; omega)) : Ret (m.bind fun e => ((m_law_due Ac (nD E.aim) (nD E.many) (.tup (E.pairs.map pairD)) (rowsT E.checks) (rowsT E.rows) (.str E.word)).bind fun z => some ((D.tup [e, z, rowD vs]), p))) fun r => IsMade Ac r.1 ∧ IsQ r.2 := by
  refine .step hm ?_
  refine .step (due_ok h) ?_
  exact way (d := .non) h hv hp hc
theorem made {p : List D} (hp : IsQ p) : Ret (m_law_made Ac p) fun r => IsMade Ac r.1 ∧ IsQ r.2 := by
  unfold m_law_made
  refine .pair (draw hp 7) ?_
  rintro _ p1 ⟨way, rfl, h1, hp1⟩
  refine .pair (draw hp1 6) ?_
  rintro _ p2 ⟨m, rfl, h2, hp2⟩
  refine .pair (near (m := m) hp2 (by omega)) ?_
  rintro _ p3 ⟨vs, rfl, h3, hp3⟩
  refine .step dLen_t ?_
  rw [List.length_map, h3]
  refine .pair (draw hp3 10) ?_
  rintro _ p4 ⟨a, rfl, h4, hp4⟩
  refine .pair (pairs (m := m) hp4 (by omega)) ?_
  rintro _ p5 ⟨qs, rfl, ⟨h5, h6⟩, hp5⟩
  refine .pair (checks hp5 h3 (by omega)) ?_
  rintro _ p6 ⟨cs, rfl, ⟨h7, h8⟩, hp6⟩
  refine .pair (draw hp6 4) ?_
  rintro _ p7 ⟨n, rfl, h9, hp7⟩
  refine .pair (rows (n := n) (m := m) hp7 (by omega) (by omega)) ?_
  rintro _ p8 ⟨rs, rfl, ⟨h10, h11⟩, hp8⟩
  refine .pair (word hp8) ?_
  rintro _ p9 ⟨w, rfl, h12, hp9⟩
  have ok : ∀ (q c r : Bool) (w : Str), Ed.Ok ⟨a, m, if q then qs else [], if c then cs else [], if r then rs else [], w⟩ := fun q c r w => by
    refine ⟨by show m ≤ 20; omega, ?_, ?_, ?_, ?_, ?_, ?_⟩
    · cases q
      · exact Nat.zero_le _
      · exact h5
    · cases q
      · exact fun _ h => absurd h List.not_mem_nil
      · exact h6
    · cases c
      · exact Nat.zero_le _
      · show cs.length ≤ 100; omega
    · cases c
      · exact nilOk
      · exact h8
    · cases r
      · exact Nat.zero_le _
      · show rs.length ≤ 100; omega
    · cases r
      · exact nilOk
      · exact h11
  refine .step bEq_ii (.ite (fun _ => mk1 (ok false false false "plain") h3 hp9) fun _ => ?_)
  refine .step bEq_ii (.ite (fun _ => mk1 (ok true true true w) h3 hp9) fun _ => ?_)
  refine .step bEq_ii (.ite (fun _ => mk1 (ok true false true "plain") h3 hp9) fun _ => ?_)
  refine .step bEq_ii (.ite (fun _ => mk1 (ok false true false "plain") h3 hp9) fun _ => ?_)
  refine .step bEq_ii (.ite (fun _ => mk1 (ok true false false w) h3 hp9) fun _ => ?_)
  refine .step bEq_ii (.ite (fun _ => mk1 (ok false false true w) h3 hp9) fun _ => ?_)
  exact mk1 (ok true true true w) h3 hp9
theorem made_start {p : List D} (hp : IsQ p) : Ret (m_law_made_start Ac p) fun r => IsMade Ac r.1 ∧ IsQ r.2 := by
  unfold m_law_made_start
  refine .pair (draw hp 4) ?_
  rintro _ p1 ⟨way, rfl, h1, hp1⟩
  refine .pair (draw hp1 6) ?_
  rintro _ p2 ⟨m, rfl, h2, hp2⟩
  refine .pair (near (m := m) hp2 (by omega)) ?_
  rintro _ p3 ⟨vs, rfl, h3, hp3⟩
  refine .step dLen_t ?_
  rw [List.length_map, h3]
  refine .pair (draw hp3 10) ?_
  rintro _ p4 ⟨a, rfl, h4, hp4⟩
  refine .pair (checks hp4 h3 (by omega)) ?_
  rintro _ p6 ⟨cs, rfl, ⟨h7, h8⟩, hp6⟩
  refine .pair (draw hp6 4) ?_
  rintro _ p7 ⟨n, rfl, h9, hp7⟩
  refine .pair (rows (n := n) (m := m) hp7 (by omega) (by omega)) ?_
  rintro _ p9 ⟨rs, rfl, ⟨h10, h11⟩, hp9⟩
  have ok : ∀ (c r : Bool) (w : Str), Ed.Ok ⟨a, m, [], if c then cs else [], if r then rs else [], w⟩ := fun c r w => by
    refine ⟨by show m ≤ 20; omega, Nat.zero_le _, fun _ h => absurd h List.not_mem_nil, ?_, ?_, ?_, ?_⟩
    · cases c
      · exact Nat.zero_le _
      · show cs.length ≤ 100; omega
    · cases c
      · exact nilOk
      · exact h8
    · cases r
      · exact Nat.zero_le _
      · show rs.length ≤ 100; omega
    · cases r
      · exact nilOk
      · exact h11
  refine .step bEq_ii (.ite (fun _ => mk2 start_ok (ok false false "start") h3 hp9) fun _ => ?_)
  refine .step bEq_ii (.ite (fun _ => mk2 start_ok (ok true true "start") h3 hp9) fun _ => ?_)
  refine .step bEq_ii (.ite (fun _ => mk2 start_ok (ok false true "start") h3 hp9) fun _ => ?_)
  exact mk2 start_ok (ok true true "start") h3 hp9
end Qk12
set_option Elab.async false
set_option linter.all false
set_option maxRecDepth 100000
set_option maxHeartbeats 4000000
namespace Qk12
open PySem Z TL
local macro_rules | `(tactic| walk_at "e") => `(tactic| try simp -implicitDefEqProofs (disch := first | assumption | omega | decide | (simp only [List.length_map, List.length_cons, List.length_nil, List.length_append, rngD_length]; omega)) only [Option.bind_some, bp_some, fin_nx, fin_rt, pass_nx, pass_rt, out_nx, if_true, if_false, ↓reduceIte, decide_eq_true_eq, Bool.not_true, Bool.not_false, Bool.false_eq_true, Bool.true_eq_false, Bool.not_eq_true', decide_eq_false_iff_not, decide_true, decide_false, Int.reduceEq, Int.reduceLT, Int.reduceLE, Int.reduceNe, Int.reduceAdd, Int.reduceSub, Int.reduceMul, Int.reduceNeg, Nat.reduceAdd, Nat.reduceSub, Nat.reduceMul, Nat.reduceEqDiff, dAdd_ii, dSub_ii, dNeg_i, dAbs_i, dInt_i, dInt_b, dMax2_ii, dMin2_ii, dGcd_ii, bLt_ii, bLe_ii, bGt_ii, bGe_ii, bEq_ii, bEq_bb, bNe_ii, bNe_bb, bEq_ss, bNe_ss, bTru_b, bTru_i, bTru_non, bTru_l, bTru_t, bTru_s, dBl_b, dLen_t, dLen_l, dLen_s, dPart_i, un2_t, un3_t, items_t, items_l, itStr_t, itStr_l, itStr_s, dTuple_l, dTuple_t, dList_t, dList_l, dSum_l, isNon_i, isNon_non, isNon_t, isNon_l, isNon_s, isNon_o, isNon_b, isNon_sc, itRng1_m, ii_int, ii_bool, ii_tup, ii_bb, ii_str, ii_ll, ii_ti, ii_ts, ii_tl, ii_tb, ii_li, ii_ls, ii_lt, ii_lb, ii_it, ii_il, ii_is, ii_si, ii_st, ii_sl, ii_sb, ii_bi, ii_bt, ii_bl, ii_bs, ii_nt, ii_nl, ii_ns, ii_ni, ii_nb, dIx_l0, dIx_t0, dIx_l1, dIx_t1, dIx_l2, dIx_t2, dSet_0, dSet_1, dSet_2, itZip_t, itZip_l, itEnum_t, itEnum_l, dAugA_i, dAll_m, dAny_m, dAdd_tt, dAdd_ll, dAdd_ss, dApp_n, dExt_n, dExtZ_l, dExtZ_t, dIx_last_t, dIx_last_l, dMod_ii, dMul_r, dMul_l, List.length_map, rngD_length, ed_t, ed_u, ed_s, ed_g, ed_e, ed_l, ed_mg, ed_mc, ed_mh, ed_ms, ed_mt, fr_n, fr_v, fr_f ])
local macro_rules | `(tactic| walk_at "h") => `(tactic| try simp -implicitDefEqProofs (disch := first | assumption | omega | decide | (simp only [List.length_map, List.length_cons, List.length_nil, List.length_append, rngD_length]; omega)) only [Option.bind_some, bp_some, fin_nx, fin_rt, pass_nx, pass_rt, out_nx, if_true, if_false, ↓reduceIte, decide_eq_true_eq, Bool.not_true, Bool.not_false, Bool.false_eq_true, Bool.true_eq_false, Bool.not_eq_true', decide_eq_false_iff_not, decide_true, decide_false, Int.reduceEq, Int.reduceLT, Int.reduceLE, Int.reduceNe, Int.reduceAdd, Int.reduceSub, Int.reduceMul, Int.reduceNeg, Nat.reduceAdd, Nat.reduceSub, Nat.reduceMul, Nat.reduceEqDiff, dAdd_ii, dSub_ii, dNeg_i, dAbs_i, dInt_i, dInt_b, dMax2_ii, dMin2_ii, dGcd_ii, bLt_ii, bLe_ii, bGt_ii, bGe_ii, bEq_ii, bEq_bb, bNe_ii, bNe_bb, bEq_ss, bNe_ss, bTru_b, bTru_i, bTru_non, bTru_l, bTru_t, bTru_s, dBl_b, dLen_t, dLen_l, dLen_s, dPart_i, un2_t, un3_t, items_t, items_l, itStr_t, itStr_l, itStr_s, dTuple_l, dTuple_t, dList_t, dList_l, dSum_l, isNon_i, isNon_non, isNon_t, isNon_l, isNon_s, isNon_o, isNon_b, isNon_sc, itRng1_m, ii_int, ii_bool, ii_tup, ii_bb, ii_str, ii_ll, ii_ti, ii_ts, ii_tl, ii_tb, ii_li, ii_ls, ii_lt, ii_lb, ii_it, ii_il, ii_is, ii_si, ii_st, ii_sl, ii_sb, ii_bi, ii_bt, ii_bl, ii_bs, ii_nt, ii_nl, ii_ns, ii_ni, ii_nb, dIx_l0, dIx_t0, dIx_l1, dIx_t1, dIx_l2, dIx_t2, dSet_0, dSet_1, dSet_2, itZip_t, itZip_l, itEnum_t, itEnum_l, dAugA_i, dAll_m, dAny_m, dAdd_tt, dAdd_ll, dAdd_ss, dApp_n, dExt_n, dExtZ_l, dExtZ_t, dIx_last_t, dIx_last_l, dMod_ii, dMul_r, dMul_l, List.length_map, rngD_length, ed_t, ed_u, ed_s, ed_g, ed_e, ed_l, ed_mg, ed_mc, ed_mh, ed_ms, ed_mt, fr_n, fr_v, fr_f, *])
variable {Ac : Cs}
theorem bInY_3 {n a b c : Nat} : bInY (nD n) (.tup [nD a, nD b, nD c]) = some (decide (n = a ∨ n = b ∨ n = c)) := by
  show bIn (nD n) (.tup [nD a, nD b, nD c]) = _
  show some (decide ((n : Int) ∈ [(a : Int), (b : Int), (c : Int)])) = _
  congr 1
  refine decide_eq_decide.mpr ?_
  simp only [List.mem_cons, List.not_mem_nil, or_false]
  omega
theorem made_plain {p : List D} (hp : IsQ p) : Ret (m_law_made_plain Ac p) fun r => IsMade Ac r.1 ∧ IsQ r.2 := by
  unfold m_law_made_plain
  refine .pair (draw hp 7) ?_
  rintro _ p1 ⟨way, rfl, h1, hp1⟩
  refine .pair (draw hp1 3) ?_
  rintro _ p2 ⟨s0, rfl, h2, hp2⟩
  refine .step dAdd_ii ?_
  have es : (1 : Int) + (s0 : Int) = ((s0 + 1 : Nat) : Int) := by omega
  rw [es]
  have hs : s0 + 1 ≤ 3 := by omega
  generalize s0 + 1 = s at hs
  refine .pair (draw hp2 3) ?_
  rintro _ p3 ⟨f0, rfl, h3, hp3⟩
  refine .bind (P := fun x => ∃ f : Nat, x = nD f ∧ f ≤ 2 ∧ ((way = 0 ∨ way = 3 ∨ way = 6) → f = 0)) ?_ ?_
  · refine .step (bInY_3 (a := 0) (b := 3) (c := 6)) ?_
    refine .ite (fun h => .mk ⟨0, rfl, by decide, fun _ => rfl⟩) fun h => .mk ⟨f0, rfl, by omega, fun h' => absurd (decide_eq_true h') h⟩
  rintro _ ⟨f, rfl, hf, hw⟩
  refine .step dAdd_ii ?_
  have em : (s : Int) + (f : Int) = ((s + f : Nat) : Int) := by omega
  rw [em]
  refine .pair (near (m := s + f) hp3 (by omega)) ?_
  rintro _ p4 ⟨vs, rfl, h4, hp4⟩
  refine .pair (draw hp4 10) ?_
  rintro _ p5 ⟨o, rfl, h5, hp5⟩
  refine .pair (draw hp5 10) ?_
  rintro _ p6 ⟨a, rfl, h6, hp6⟩
  refine .pair (checks hp6 h4 (by omega)) ?_
  rintro _ p7 ⟨cs, rfl, ⟨h7, h8⟩, hp7⟩
  refine .pair (draw hp7 3) ?_
  rintro _ p8 ⟨n, rfl, h9, hp8⟩
  refine .step dAdd_ii ?_
  have en : (1 : Int) + (n : Int) = ((n + 1 : Nat) : Int) := by omega
  rw [en]
  refine .pair (rows (n := n + 1) (m := s + f) hp8 (by omega) (by omega)) ?_
  rintro _ p9 ⟨rs, rfl, ⟨h10, h11⟩, hp9⟩
  refine .pair (word hp9) ?_
  rintro _ p10 ⟨w, rfl, h12, hp10⟩
  refine .step (units_ok (s := s) (m := s + f) (by omega) (by omega)) ?_
  have U : ∀ q ∈ [(o, unitsL s (s + f))], q.2.length ≤ 100 ∧ ∀ r ∈ q.2, RowI (s + f) r := fun q hq => by
    rw [List.mem_singleton.mp hq]
    exact ⟨by show (unitsL s (s + f)).length ≤ 100; rw [unitsL_len]; omega, unitsL_ok⟩
  have ok1 : ∀ (w : Str), Ed.Ok ⟨a, s + f, [(o, unitsL s (s + f))], cs, rs, w⟩ := fun w => ⟨by show s + f ≤ 20; omega, by show 1 ≤ 100; decide, U, by show cs.length ≤ 100; omega, h8, by show rs.length ≤ 100; omega, h11⟩
  have ok2 : ∀ (w : Str), Ed.Ok ⟨a, s + f, [(o, unitsL s (s + f))], [], rs, w⟩ := fun w => ⟨by show s + f ≤ 20; omega, by show 1 ≤ 100; decide, U, by show 0 ≤ 100; decide, nilOk, by show rs.length ≤ 100; omega, h11⟩
  have ok3 : ∀ (w : Str), Ed.Ok ⟨a, s + f, [(o, unitsL s (s + f))], cs, unitsL s (s + f), w⟩ := fun w => ⟨by show s + f ≤ 20; omega, by show 1 ≤ 100; decide, U, by show cs.length ≤ 100; omega, h8, by show (unitsL s (s + f)).length ≤ 100; rw [unitsL_len]; omega, unitsL_ok⟩
  have ok4 : ∀ (w : Str), Ed.Ok ⟨a, s + f, [(o, unitsL s (s + f))], [], unitsL s (s + f), w⟩ := fun w => ⟨by show s + f ≤ 20; omega, by show 1 ≤ 100; decide, U, by show 0 ≤ 100; decide, nilOk, by show (unitsL s (s + f)).length ≤ 100; rw [unitsL_len]; omega, unitsL_ok⟩
  have e1 : ∀ w : Str, m_Edge_plain Ac (nD o) (nD a) (nD s) (nD f) (rowsT cs) (rowsT rs) (.str w) = some (Ed.obj Ac ⟨a, s + f, [(o, unitsL s (s + f))], cs, rs, w⟩) := fun w => plain_ok (by omega) (by omega) (.inr rfl)
  have e2 : ∀ w : Str, m_Edge_plain Ac (nD o) (nD a) (nD s) (nD f) (.tup []) (rowsT rs) (.str w) = some (Ed.obj Ac ⟨a, s + f, [(o, unitsL s (s + f))], [], rs, w⟩) := fun w => plain_ok (cs := []) (by omega) (by omega) (.inr rfl)
  have e3 : ∀ w : Str, m_Edge_plain Ac (nD o) (nD a) (nD s) (nD f) (rowsT cs) .non (.str w) = some (Ed.obj Ac ⟨a, s + f, [(o, unitsL s (s + f))], cs, unitsL s (s + f), w⟩) := fun w => plain_ok (by omega) (by omega) (.inl ⟨rfl, rfl⟩)
  have e4 : ∀ w : Str, m_Edge_plain Ac (nD o) (nD a) (nD s) (nD f) (.tup []) .non (.str w) = some (Ed.obj Ac ⟨a, s + f, [(o, unitsL s (s + f))], [], unitsL s (s + f), w⟩) := fun w => plain_ok (cs := []) (by omega) (by omega) (.inl ⟨rfl, rfl⟩)
  have f0 : f = 0 → m_Edge_plain Ac (nD o) (nD a) (nD s) (D.int 0) = m_Edge_plain Ac (nD o) (nD a) (nD s) (nD f) := fun e => by rw [e]; rfl
  refine .step bEq_ii (.ite (fun h => ?_) fun a0 => ?_)
  · have h' : ((way : Nat) : Int) = 0 := by simpa using h
    rw [f0 (hw (.inl (by omega)))]
    have k := mk2 (e4 "plain") (ok4 "plain") h4 hp10
    exact k
  have k1 := mk2 (e1 w) (ok1 w) h4 hp10
  refine .step bEq_ii (.ite (fun _ => k1) fun a1 => ?_)
  refine .step bEq_ii (.ite (fun _ => k1) fun a2 => ?_)
  refine .step bEq_ii (.ite (fun h => ?_) fun a3 => ?_)
  · have h' : ((way : Nat) : Int) = 3 := by simpa using h
    rw [f0 (hw (.inr (.inl (by omega))))]
    have k := mk2 (e3 "plain") (ok3 "plain") h4 hp10
    exact k
  have k4 := mk2 (e4 "plain") (ok4 "plain") h4 hp10
  have k5 := mk2 (e4 w) (ok4 w) h4 hp10
  refine .step bEq_ii (.ite (fun _ => k4) fun a4 => ?_)
  refine .step bEq_ii (.ite (fun _ => k5) fun a5 => ?_)
  have a0' : ((way : Nat) : Int) ≠ 0 := by simpa using a0
  have a1' : ((way : Nat) : Int) ≠ 1 := by simpa using a1
  have a2' : ((way : Nat) : Int) ≠ 2 := by simpa using a2
  have a3' : ((way : Nat) : Int) ≠ 3 := by simpa using a3
  have a4' : ((way : Nat) : Int) ≠ 4 := by simpa using a4
  have a5' : ((way : Nat) : Int) ≠ 5 := by simpa using a5
  rw [f0 (hw (.inr (.inr (by omega))))]
  have k := mk2 (e2 "plain") (ok2 "plain") h4 hp10
  exact k
theorem snoc {rs : List (List Int)} {m : Nat} {r : List Int} (h : ∀ r ∈ rs, RowI m r) (hr : RowI m r) : ∀ x ∈ rs ++ [r], RowI m x := fun x hx => (List.mem_append.mp hx).elim (h x) fun h => by rw [List.mem_singleton.mp h]; exact hr
/-- one more guard -/
def Ed.more (E : Ed) (r : List Int) : Ed := { E with checks := E.checks ++ [r] }
theorem more_ok {E : Ed} (h : E.Ok) (hl : E.checks.length ≤ 99) {r : List Int} (hr : RowI E.many r) : (E.more r).Ok :=
  ⟨h.many, h.pl, h.pr, by show (E.checks ++ [r]).length ≤ 100; rw [List.length_append]; show _ + 1 ≤ _; omega, snoc h.cr hr, h.rl, h.rr⟩
theorem guard_ok {E : Ed} {r : List Int} (h : E.Ok) : m_Edge_with_guard Ac (E.obj Ac) (rowD r) = some ((E.more r).obj Ac) := by
  refine Ret.eq ?_
  have hc := h.cl
  unfold m_Edge_with_guard Ed.obj Ed.fs
  walk_at "e"
  refine .step (edge_init_ok _ _ _ _ _ _ rfl rfl rfl) ?_
  refine .mk ?_
  show D.obj Ac.c_Edge (edgeF _ _ _ (.tup (E.checks.map rowD ++ [rowD r])) _ _) = D.obj Ac.c_Edge (edgeF _ _ _ (.tup ((E.checks ++ [r]).map rowD)) _ _)
  rw [List.map_append]; rfl
def shut (m : Nat) : List Int := List.replicate m 0 ++ [1]
theorem shut_row {m : Nat} : RowI m (shut m) := rowI_snoc (List.length_replicate ..) fun i hi => by rw [List.eq_of_mem_replicate hi]; decide
theorem closed_ok {E : Ed} (h : E.Ok) : m_Edge_closed Ac (E.obj Ac) = some ((E.more (shut E.many)).obj Ac) := by
  refine Ret.eq ?_
  have hm := h.many
  unfold m_Edge_closed
  have hd : dMth Ac.c_Edge "with_guard" (E.obj Ac) = some () := ed_mg
  have hu : dFld [Ac.c_Edge] "unknowns" (E.obj Ac) = some (nD E.many) := ed_u
  refine .step hd ?_
  refine .step hu ?_
  refine .step (repT (by omega) _) ?_
  refine .step (dAdd_tt (by rw [List.length_replicate]; show _ + 1 ≤ _; omega)) ?_
  have e : D.tup (List.replicate E.many (D.int 0) ++ [D.int 1]) = rowD (shut E.many) := by unfold rowD shut; rw [List.map_append, List.map_replicate]; rfl
  rw [e]
  refine .step (guard_ok h) ?_
  exact .mk rfl
theorem shut_aff {m : Nat} {vs : List Int} (hv : vs.length = m) : aff (shut m) vs = 1 := by
  unfold aff
  have e1 : prods (shut m) vs = List.replicate m 0 := by
    refine List.ext_getElem? fun i => ?_
    by_cases hi : i < m
    · obtain ⟨a, b, ha, hb, hp, _⟩ := prods_get (shut_row (m := m)) hv hi
      unfold shut at ha
      rw [List.getElem?_append_left (by rw [List.length_replicate]; exact hi), List.getElem?_replicate, if_pos hi] at ha
      cases ha
      rw [hp, List.getElem?_replicate, if_pos hi, Int.zero_mul]
    · rw [List.getElem?_eq_none (by rw [prods_len shut_row hv]; omega), List.getElem?_eq_none (by rw [List.length_replicate]; omega)]
  have e2 : (shut m)[vs.length]? = some 1 := by
    unfold shut
    rw [List.getElem?_append_right (by rw [List.length_replicate]; omega), List.length_replicate, hv, Nat.sub_self]; rfl
  have e3 : (List.replicate m (0 : Int)).sum = 0 := by
    induction m with
    | zero => rfl
    | succ m ih => simp
  rw [e1, e2, e3]; rfl
theorem held_shut {E : Ed} {vs : List Int} (hv : vs.length = E.many) : held (E.more (shut E.many)) vs = false := by
  unfold held Ed.more
  rw [List.all_append, List.all_cons, shut_aff hv]
  simp
theorem due_more {E : Ed} {r : List Int} : (E.more r).due = .tup [nD E.aim, nD E.many, .lst (E.pairs.map pairL), .tup (E.checks.map rowD ++ [rowD r]), rowsT E.rows, .str E.word] := by
  show D.tup [nD E.aim, nD E.many, .lst (E.pairs.map pairL), .tup ((E.checks ++ [r]).map rowD), rowsT E.rows, .str E.word] = _
  rw [List.map_append]; rfl
theorem copies {E : Ed} {vs : List Int} {p : List D} (hp : IsQ p) (h : E.Ok) (hl : E.checks.length ≤ 90) (hv : vs.length = E.many) : Ret (m_law_copies_hold Ac p (E.obj Ac) E.due (rowD vs)) fun r => r.1 = .bl true ∧ IsQ r.2 := by
  have hm := h.many
  have g0 : dIx E.due (.int 0) = some (nD E.aim) := dIx_t (n := 0) rfl
  have g1 : dIx E.due (.int 1) = some (nD E.many) := dIx_t (n := 1) rfl
  have g2 : dIx E.due (.int 2) = some (.lst (E.pairs.map pairL)) := dIx_t (n := 2) rfl
  have g3 : dIx E.due (.int 3) = some (rowsT E.checks) := dIx_t (n := 3) rfl
  have g4 : dIx E.due (.int 4) = some (rowsT E.rows) := dIx_t (n := 4) rfl
  have g5 : dIx E.due (.int 5) = some (.str E.word) := dIx_t (n := 5) rfl
  have zr : dMul (.lst [.int 0]) (nD E.many) = some (.lst (List.replicate E.many (.int 0))) := by
    have := dMul_li (x := [.int 0]) (n := E.many) (by show 1 * _ ≤ _; omega) (by omega)
    rwa [flat1] at this
  have zs : D.tup (List.replicate E.many (D.int 0) ++ [D.int 1]) = rowD (shut E.many) := by unfold rowD shut; rw [List.map_append, List.map_replicate]; rfl
  have za : dAdd (.lst (List.replicate E.many (.int 0))) (.lst [.int 1]) = some (.lst (List.replicate E.many (.int 0) ++ [.int 1])) := dAdd_ll (by rw [List.length_replicate]; show _ + 1 ≤ _; omega)
  unfold m_law_copies_hold
  refine .bind (P := fun s => ∃ r : List Int, s.1 = rowD r ∧ RowI E.many r ∧ s.2.1 = (E.more r).obj Ac ∧ IsQ s.2.2) ?_ ?_
  · refine .pair (draw hp 2) ?_
    rintro _ p1 ⟨w, rfl, h1, hp1⟩
    refine .step bEq_ii (.ite (fun _ => ?_) fun _ => ?_)
    · refine .step g1 ?_
      refine .step (itRng1_m (by omega)) ?_
      refine intRow 1000 hp1 (by rw [rngD_length]; omega) (fun p d hp _ => ?_) fun is p h1 h2 hp => ?_
      · refine .pair (coefficient hp) ?_
        rintro _ p1 ⟨v, rfl, h1, hp1⟩
        exact .mk ⟨_, rfl, h1, hp1⟩
      · rw [rngD_length] at h1
        refine .pair (constant hp) ?_
        rintro _ p1 ⟨v, rfl, h3, hp1⟩
        refine .step (dAdd_ll (by rw [List.length_map]; show _ + 1 ≤ _; omega)) ?_
        refine .step dTuple_l ?_
        have e : D.tup (is.map .int ++ [.int v]) = rowD (is ++ [v]) := by unfold rowD; rw [List.map_append]; rfl
        rw [e]
        refine .step (show dMth Ac.c_Edge "with_guard" (E.obj Ac) = some () from ed_mg) ?_
        refine .step (guard_ok h) ?_
        exact .mk ⟨_, rfl, rowI_snoc h1 h2, rfl, hp1⟩
    · refine .step g1 ?_
      refine .step zr ?_
      refine .step za ?_
      refine .step dTuple_l ?_
      rw [zs]
      refine .step (show dMth Ac.c_Edge "closed" (E.obj Ac) = some () from ed_mc) ?_
      refine .step (closed_ok h) ?_
      exact .mk ⟨_, rfl, shut_row, rfl, hp1⟩
  · rintro ⟨_, _, p1⟩ ⟨r, rfl, hr, rfl, hp1⟩
    have ok1 := more_ok h (by omega) hr
    have ok2 := more_ok (E := E.more r) ok1 (by show (E.checks ++ [r]).length ≤ 99; rw [List.length_append]; show _ + 1 ≤ _; omega) (r := shut E.many) (shut_row (m := E.many))
    have c3 : dAdd (rowsT E.checks) (.tup [rowD r]) = some (.tup (E.checks.map rowD ++ [rowD r])) := dAdd_tt (by rw [List.length_map]; show _ + 1 ≤ _; omega)
    have c4 : dAdd (rowsT E.checks) (.tup [rowD r, rowD (shut E.many)]) = some (.tup (E.checks.map rowD ++ [rowD r, rowD (shut E.many)])) := dAdd_tt (by rw [List.length_map]; show _ + 2 ≤ _; omega)
    refine .step g0 (.step g1 (.step g2 (.step g3 (.step c3 (.step g4 (.step g5 (.step (seen_ok ok1) ?_)))))))
    rw [← due_more]
    refine .step (same10 (due_plain ok1)) (.step bTru_b ?_)
    refine .step (show _ = some false from ?_) (.neg (by decide) ?_)
    · rw [if_neg (by decide), sums_ok ok1 (by exact hv), Option.bind_some, bTru_b]; rfl
    refine .step (show dMth Ac.c_Edge "closed" ((E.more r).obj Ac) = some () from ed_mc) ?_
    refine .step (show m_Edge_closed Ac ((E.more r).obj Ac) = some (((E.more r).more (shut E.many)).obj Ac) from closed_ok ok1) ?_
    refine .step g0 (.step g1 (.step g2 (.step g3 (.step g1 (.step zr (.step za (.step dTuple_l ?_)))))))
    rw [zs]
    refine .step c4 (.step g4 (.step g5 (.step (seen_ok ok2) ?_)))
    have e2 : D.tup [nD E.aim, nD E.many, .lst (E.pairs.map pairL), .tup (E.checks.map rowD ++ [rowD r, rowD (shut E.many)]), rowsT E.rows, .str E.word] = ((E.more r).more (shut E.many)).due := by
      show _ = D.tup [nD E.aim, nD E.many, .lst (E.pairs.map pairL), .tup (((E.checks ++ [r]) ++ [shut E.many]).map rowD), rowsT E.rows, .str E.word]
      rw [List.append_assoc, List.map_append]; rfl
    rw [e2]
    refine .step (same10 (due_plain ok2)) (.step bTru_b ?_)
    have e3 : m_Edge_guards_hold Ac (((E.more r).more (shut E.many)).obj Ac) (rowD vs) = some (.bl false) := by
      rw [hold_ok ok2 (by exact hv), show held ((E.more r).more (shut E.many)) vs = false from held_shut (E := E.more r) hv]
    refine .step (show _ = some false from ?_) (.neg (by decide) ?_)
    · rw [if_neg (by decide), show dMth Ac.c_Edge "guards_hold" (((E.more r).more (shut E.many)).obj Ac) = some () from ed_mh, Option.bind_some]
      show (m_Edge_guards_hold Ac (((E.more r).more (shut E.many)).obj Ac) (rowD vs)).bind _ = _
      rw [e3]; rfl
    refine .step (seen_ok h) (.step (same10 (due_plain h)) (.step dBl_b ?_))
    refine .step (show _ = some (D.bl true) from ?_) (.mk ⟨rfl, hp1⟩)
    rw [if_pos rfl, sums_ok h hv]; rfl
end Qk12
set_option Elab.async false
set_option linter.all false
set_option maxRecDepth 100000
set_option maxHeartbeats 4000000
namespace Qk12
open PySem Z TL
local macro_rules | `(tactic| walk_at "e") => `(tactic| try simp -implicitDefEqProofs (disch := first | assumption | omega | decide | (simp only [List.length_map, List.length_cons, List.length_nil, List.length_append, rngD_length]; omega)) only [Option.bind_some, bp_some, fin_nx, fin_rt, pass_nx, pass_rt, out_nx, if_true, if_false, ↓reduceIte, decide_eq_true_eq, Bool.not_true, Bool.not_false, Bool.false_eq_true, Bool.true_eq_false, Bool.not_eq_true', decide_eq_false_iff_not, decide_true, decide_false, Int.reduceEq, Int.reduceLT, Int.reduceLE, Int.reduceNe, Int.reduceAdd, Int.reduceSub, Int.reduceMul, Int.reduceNeg, Nat.reduceAdd, Nat.reduceSub, Nat.reduceMul, Nat.reduceEqDiff, dAdd_ii, dSub_ii, dNeg_i, dAbs_i, dInt_i, dInt_b, dMax2_ii, dMin2_ii, dGcd_ii, bLt_ii, bLe_ii, bGt_ii, bGe_ii, bEq_ii, bEq_bb, bNe_ii, bNe_bb, bEq_ss, bNe_ss, bTru_b, bTru_i, bTru_non, bTru_l, bTru_t, bTru_s, dBl_b, dLen_t, dLen_l, dLen_s, dPart_i, un2_t, un3_t, items_t, items_l, itStr_t, itStr_l, itStr_s, dTuple_l, dTuple_t, dList_t, dList_l, dSum_l, isNon_i, isNon_non, isNon_t, isNon_l, isNon_s, isNon_o, isNon_b, isNon_sc, itRng1_m, ii_int, ii_bool, ii_tup, ii_bb, ii_str, ii_ll, ii_ti, ii_ts, ii_tl, ii_tb, ii_li, ii_ls, ii_lt, ii_lb, ii_it, ii_il, ii_is, ii_si, ii_st, ii_sl, ii_sb, ii_bi, ii_bt, ii_bl, ii_bs, ii_nt, ii_nl, ii_ns, ii_ni, ii_nb, dIx_l0, dIx_t0, dIx_l1, dIx_t1, dIx_l2, dIx_t2, dSet_0, dSet_1, dSet_2, itZip_t, itZip_l, itEnum_t, itEnum_l, dAugA_i, dAll_m, dAny_m, dAdd_tt, dAdd_ll, dAdd_ss, dApp_n, dExt_n, dExtZ_l, dExtZ_t, dIx_last_t, dIx_last_l, dMod_ii, dMul_r, dMul_l, List.length_map, rngD_length, ed_t, ed_u, ed_s, ed_g, ed_e, ed_l, ed_mg, ed_mc, ed_mh, ed_ms, ed_mt, fr_n, fr_v, fr_f ])
local macro_rules | `(tactic| walk_at "h") => `(tactic| try simp -implicitDefEqProofs (disch := first | assumption | omega | decide | (simp only [List.length_map, List.length_cons, List.length_nil, List.length_append, rngD_length]; omega)) only [Option.bind_some, bp_some, fin_nx, fin_rt, pass_nx, pass_rt, out_nx, if_true, if_false, ↓reduceIte, decide_eq_true_eq, Bool.not_true, Bool.not_false, Bool.false_eq_true, Bool.true_eq_false, Bool.not_eq_true', decide_eq_false_iff_not, decide_true, decide_false, Int.reduceEq, Int.reduceLT, Int.reduceLE, Int.reduceNe, Int.reduceAdd, Int.reduceSub, Int.reduceMul, Int.reduceNeg, Nat.reduceAdd, Nat.reduceSub, Nat.reduceMul, Nat.reduceEqDiff, dAdd_ii, dSub_ii, dNeg_i, dAbs_i, dInt_i, dInt_b, dMax2_ii, dMin2_ii, dGcd_ii, bLt_ii, bLe_ii, bGt_ii, bGe_ii, bEq_ii, bEq_bb, bNe_ii, bNe_bb, bEq_ss, bNe_ss, bTru_b, bTru_i, bTru_non, bTru_l, bTru_t, bTru_s, dBl_b, dLen_t, dLen_l, dLen_s, dPart_i, un2_t, un3_t, items_t, items_l, itStr_t, itStr_l, itStr_s, dTuple_l, dTuple_t, dList_t, dList_l, dSum_l, isNon_i, isNon_non, isNon_t, isNon_l, isNon_s, isNon_o, isNon_b, isNon_sc, itRng1_m, ii_int, ii_bool, ii_tup, ii_bb, ii_str, ii_ll, ii_ti, ii_ts, ii_tl, ii_tb, ii_li, ii_ls, ii_lt, ii_lb, ii_it, ii_il, ii_is, ii_si, ii_st, ii_sl, ii_sb, ii_bi, ii_bt, ii_bl, ii_bs, ii_nt, ii_nl, ii_ns, ii_ni, ii_nb, dIx_l0, dIx_t0, dIx_l1, dIx_t1, dIx_l2, dIx_t2, dSet_0, dSet_1, dSet_2, itZip_t, itZip_l, itEnum_t, itEnum_l, dAugA_i, dAll_m, dAny_m, dAdd_tt, dAdd_ll, dAdd_ss, dApp_n, dExt_n, dExtZ_l, dExtZ_t, dIx_last_t, dIx_last_l, dMod_ii, dMul_r, dMul_l, List.length_map, rngD_length, ed_t, ed_u, ed_s, ed_g, ed_e, ed_l, ed_mg, ed_mc, ed_mh, ed_ms, ed_mt, fr_n, fr_v, fr_f, *])
variable {Ac : Cs}
theorem strOf {k : Nat} (h : k ≤ 1000) : ∃ s : Str, dStr (nD k) = some (.str s) ∧ s.length ≤ 100 := by
  have hb : ((k : Int)).natAbs < 2 ^ 10 := Nat.lt_of_le_of_lt (show ((k : Int)).natAbs ≤ 1000 by omega) (by decide)
  refine ⟨_, dStr_n (n := 10) hb (by decide), ?_⟩
  have e := tI_len (i := (k : Int)) (n := 10) (by decide) hb
  have : (Str.ofString (toString (k : Int))).length = (tI (k : Int)).length := by
    rw [← tl_int]; show Array.size _ = (Array.toList _).length; rw [Array.length_toList]
  rw [this]; omega
theorem strAdd {s t : Str} (hs : s.length ≤ 1000) (ht : t.length ≤ 1000) : ∃ u : Str, dAdd (.str s) (.str t) = some (.str u) := ⟨_, dAdd_ss (by omega)⟩
theorem frame_holds {p : List D} (hp : IsQ p) : Ret (m_law_frame_holds Ac p) fun r => r.1 = .bl true ∧ IsQ r.2 := by
  unfold m_law_frame_holds
  refine .pair (word hp) ?_
  rintro _ p1 ⟨w, rfl, hw, hp1⟩
  refine .pair (draw hp1 4) ?_
  rintro _ p2 ⟨m, rfl, hm, hp2⟩
  refine .step dAdd_ii ?_
  have em : (1 : Int) + (m : Int) = ((m + 1 : Nat) : Int) := by omega
  rw [em]
  refine .step (itRng1_m (by omega)) ?_
  refine .lcS (fun _ => IsQ) (fun _ d => ∃ s : Str, d = .str s) (by rw [rngD_length]; omega) hp2 (fun i d p hd hp => ?_) fun ys p3 hl hy hp3 => ?_
  · obtain ⟨k, hk, rfl⟩ := rng_mem (List.mem_of_getElem? hd)
    refine .pair (word hp) ?_
    rintro _ p3 ⟨x, rfl, hx, hp3⟩
    obtain ⟨s, e1, hs⟩ := strOf (k := k) (by omega)
    refine .step e1 ?_
    obtain ⟨u, e2⟩ := strAdd (s := x) (t := s) (by omega) (by omega)
    refine .step e2 ?_
    exact .mk ⟨⟨u, rfl⟩, hp3⟩
  · obtain ⟨ss, rfl, _⟩ := rowOf' (g := D.str) (P := fun _ => True) (fun i y h => by obtain ⟨s, e⟩ := hy i y h; exact ⟨s, e, trivial⟩)
    rw [List.length_map, rngD_length] at hl
    refine .step dTuple_l ?_
    refine .pair (draw hp3 4) ?_
    rintro _ p4 ⟨n, rfl, hn, hp4⟩
    refine .step dAdd_ii ?_
    have en : (1 : Int) + (n : Int) = ((n + 1 : Nat) : Int) := by omega
    rw [en]
    refine .step (itRng1_m (by omega)) ?_
    refine apps rowD (fun r => r.length = m + 1) hp4 (by rw [rngD_length]; omega) (fun as p d hp ha _ => ?_) fun rs p h1 h2 hp => ?_
    · refine .step (itRng1_m (by omega)) ?_
      refine intRow 1000 hp (by rw [rngD_length]; omega) (fun p d hp _ => ?_) fun is p h1 h2 hp => ?_
      · refine .pair (coefficient hp) ?_
        rintro _ p1 ⟨v, rfl, h1, hp1⟩
        exact .mk ⟨_, rfl, h1, hp1⟩
      · rw [rngD_length] at h1
        refine .step dTuple_l ?_
        refine .step (dApp_n (by rw [List.length_map]; omega)) ?_
        exact .mk ⟨is, rfl, h1, hp⟩
    · rw [rngD_length] at h1
      refine .step dTuple_l ?_
      refine .step (frame_init_ok _ _ _ rfl rfl) ?_
      refine .step (frame_init_ok _ _ _ rfl rfl) ?_
      refine .step fr_n (.step fr_v (.step fr_f (.step dTuple_l ?_)))
      have P1 : plainB 9 (.tup [.str w, .tup (ss.map .str), .tup (rs.map rowD)]) = true := by
        refine plain_tup (by show 3 ≤ 100000; decide) fun d hd => ?_
        simp only [List.mem_cons, List.not_mem_nil, or_false] at hd
        rcases hd with rfl | rfl | rfl
        · exact plain_str
        · refine plain_tup (by rw [List.length_map]; omega) fun d hd => ?_
          obtain ⟨s, _, rfl⟩ := List.mem_map.mp hd
          exact plain_str
        · refine plain_tup (by rw [List.length_map]; omega) fun d hd => ?_
          obtain ⟨r, hr, rfl⟩ := List.mem_map.mp hd
          exact rowD_plain (by rw [h2 r hr]; omega)
      refine .step (same10 P1) (.step bTru_b (.neg (by decide) ?_))
      refine .step fr_n (.step fr_v (.step fr_f ?_))
      refine .step (same10 (by decide +kernel)) ?_
      exact .mk ⟨rfl, hp⟩
theorem law_ok (ns : List Int) (hns : ns.length ≤ 63) : m_law Ac (.scr (ns.map .int)) = some (.bl true) := by
  refine Ret.eq ?_
  unfold m_law
  obtain ⟨p0, e0, hp0⟩ := purse_ok (Ac := Ac) (ns := ns)
  refine .step e0 ?_
  refine .pair (frame_holds hp0) ?_
  rintro _ p1 ⟨rfl, hp1⟩
  refine .step bTru_b (.neg (by decide) ?_)
  refine .step (same10 (by decide +kernel)) (.step bTru_b (.neg (by decide) ?_))
  refine .pair (draw hp1 2) ?_
  rintro _ p2 ⟨n, rfl, hn, hp2⟩
  refine .step dAdd_ii ?_
  have en : (1 : Int) + (n : Int) = ((n + 1 : Nat) : Int) := by omega
  rw [en]
  refine .step (itRng1_m (by omega)) ?_
  refine .fold (fun i s => (∀ d ∈ s.1, IsMade Ac d) ∧ s.1.length = 3 * i ∧ IsQ s.2) ⟨fun _ h => absurd h List.not_mem_nil, rfl, hp2⟩ (fun i d s hd hI => ?_) fun s hI => ?_
  · obtain ⟨ds, p⟩ := s
    obtain ⟨h1, h2, hp⟩ := hI
    have h2 : ds.length = 3 * i := h2
    have hi := (List.getElem?_eq_some_iff.mp hd).1
    rw [rngD_length] at hi
    refine .pair (made hp) ?_
    rintro a pa ⟨ha, hpa⟩
    refine .step (dApp_n (by omega)) ?_
    refine .pair (made_plain hpa) ?_
    rintro b pb ⟨hb, hpb⟩
    refine .step (dApp_n (by rw [List.length_append]; show ds.length + 1 < _; omega)) ?_
    refine .pair (made_start hpb) ?_
    rintro c pc ⟨hc, hpc⟩
    refine .step (dApp_n (by rw [List.length_append, List.length_append]; show ds.length + 1 + 1 < _; omega)) ?_
    refine .mk ⟨fun d hd => ?_, ?_, hpc⟩
    · simp only [List.mem_append, List.mem_singleton] at hd
      rcases hd with ((hd | rfl) | rfl) | rfl
      · exact h1 d hd
      · exact ha
      · exact hb
      · exact hc
    · show (ds ++ [a] ++ [b] ++ [c]).length = 3 * (i + 1)
      simp only [List.length_append, List.length_singleton]; omega
  · obtain ⟨ds, p⟩ := s
    obtain ⟨h1, h2, hp⟩ := hI
    refine .step itStr_l ?_
    refine .finU (fun d hd => ?_) ?_
    · obtain ⟨E, vs, h, hc, hv, rfl⟩ := h1 d hd
      refine Ret.eq (.stepP un3_t ?_)
      refine .step (seen_ok h) (.step (same10 (due_plain h)) (.step bTru_b ?_))
      refine .step (show _ = some false from ?_) (.neg (by decide) ?_)
      · rw [if_neg (by decide), show dFld [Ac.c_Edge] "sources" (E.obj Ac) = some (.tup (E.pairs.map pairD)) from ed_s, Option.bind_some, ii_tup]; rfl
      · exact .step (sums_ok h hv) (.step bTru_b (.neg (by decide) (.mk rfl)))
    refine .step itStr_l ?_
    refine .fin (fun _ => IsQ) hp (fun i d s hd hs => ?_) fun p hp => ?_
    · obtain ⟨E, vs, h, hc, hv, rfl⟩ := h1 d (List.mem_of_getElem? hd)
      have hm := h.many
      rw [un3_t, bp_some]
      refine .step (show dIx E.due (.int 1) = some (nD E.many) from dIx_t (n := 1) rfl) ?_
      refine .pair (far (m := E.many) hs (by omega)) ?_
      rintro _ p2 ⟨us, rfl, hu, hp2⟩
      refine .step (sums_ok h hu) (.step bTru_b (.neg (by decide) ?_))
      refine .pair (copies hp2 h hc hv) ?_
      rintro _ p3 ⟨rfl, hp3⟩
      exact .step bTru_b (.neg (by decide) (.mk (.inl ⟨_, rfl, hp3⟩)))
    refine .step itStr_l ?_
    refine .finU (fun d hd => ?_) (.mk rfl)
    obtain ⟨E, vs, h, hc, hv, rfl⟩ := h1 d hd
    refine Ret.eq (.stepP un3_t ?_)
    refine .step (sums_ok h hv) (.step bTru_b ?_)
    refine .step (show _ = some false from ?_) (.neg (by decide) (.mk rfl))
    rw [if_neg (by decide), seen_ok h, Option.bind_some, same10 (due_plain h)]; rfl
end Qk12
set_option Elab.async false
set_option linter.all false
set_option maxRecDepth 100000
set_option maxHeartbeats 4000000
/-! YHead2: methods and making, from what stands at the top. -/
namespace Z
open PySem PySem.Spec PyProof.Rows L2
section
variable {P : Program} {w : World} {K : Fg} {mg : Str → Option Value} {base : Heap} {x qual : Str} {params : Arguments} {body : List Stmt} {scope : Scope} {kws : List (Str × V)} {f : Addr} {fd : FuncData} {ps : List Str} {k : Nat} {S : ZSp} {C : Addr} {m : Str}
theorem mtz_of (cl : Cls K C) (hm : Meth K C m f) (G : FnOk P w K mg base CX0 k f fd ps (toSp K S)) (hb : Binds K fd ps []) : MtZ P w K mg base C m k S :=
  ⟨cl, f, fd, ps, toSp K S, [], [], hm, G, hb, .nil, fun vs H Q ⟨R, F, M, ds, kk, L, r, s, q⟩ => by rw [List.append_nil]; exact ⟨R, F, M, ds, kk, L, r, s, q⟩⟩
theorem mkz_of (hm : mg x = some (.ref C)) (M : Mk K C f) (G : FnOk P w K mg base CX0 k f fd ps (toSp K S)) (hb : Binds K fd ps []) : MkZ P w K mg base x C k S :=
  ⟨f, fd, ps, toSp K S, [], [], M, G, hm, hb, .nil, fun v vs H Q ⟨R, F, M, ds, kk, L, r, s, q⟩ => by rw [List.append_nil]; exact ⟨R, F, M, ds, kk, L, r, s, q⟩⟩
/-- .. with keywords: g' is how the layer puts the values -/
theorem mkkz_of {n : Nat} {ks : List Str} {g : List V → List V → List V} {gg : List Value → List Value → List Value} {gV : List V → List V → List V} (hm : mg x = some (.ref C)) (M : Mk K C f) (G : FnOk P w K mg base CX0 k f fd ps (toSp K S)) (hb : KBn K fd ps (n + 1) ks gg gV)
    (hg : ∀ v vs zs, vs.length = n → zs.length = ks.length → gV (v :: vs) zs = v :: g vs zs) : MkKZ P w K mg base x C k n ks g S :=
  ⟨f, fd, ps, toSp K S, gg, gV, M, G, hm, hb, fun v vs zs H Q h1 h2 ⟨R, F, M, ds, kk, L, r, s, q⟩ => by rw [hg v vs zs h1 h2]; exact ⟨R, F, M, ds, kk, L, r, s, q⟩⟩
end
/-! the default of a keyword-only parameter, where it is an object -/
def kwdAt (p : Str × Option Str) (x : Str) (K : Fg) : Addr := match K.lookup (He.fAd K p) with
  | some ⟨_, _, .func fd, _⟩ => (match fd.kwdefaults with
    | .ref T => (match PySem.W.nsIn K T x with
      | some (some (.ref a)) => a
      | _ => 0)
    | _ => 0)
  | _ => 0
/-- what stands at a is the datum d -/
def atB (K : Fg) (a : Addr) (d : D) : Bool := okD K d (.ref a)
theorem at_ok {K : Fg} {a : Addr} {d : D} (h : atB K a d = true) : ∀ F, Rp K F (.ref a) d := by
  obtain ⟨x, r, hr⟩ := okD_ok d _ h
  have e : x = .ref a := by
    cases x with
    | ref b =>
      have : Value.ref a = Value.ref b := r
      cases this; rfl
    | _ => first | (obtain ⟨_, h⟩ := r; cases h) | cases r
  rw [← e]; exact hr
end Z
set_option Elab.async false
set_option linter.all false
set_option maxRecDepth 100000
set_option maxHeartbeats 4000000
/-! YHead3: classmethods, from what stands at the top. -/
namespace Z
open PySem PySem.Spec PyProof.Rows L2
def kwdAtA (a : Fg → Addr) (x : Str) (K : Fg) : Addr := match K.lookup (a K) with
  | some ⟨_, _, .func fd, _⟩ => (match fd.kwdefaults with
    | .ref T => (match PySem.W.nsIn K T x with
      | some (some (.ref a)) => a
      | _ => 0)
    | _ => 0)
  | _ => 0
def cmB (K : Fg) (C : Addr) (m : Str) : Bool := PySem.W.readsIn K C (.type "type") && (He5.wrapB K C "classmethod" "classmethod.__get__" m && PySem.W.fnIn K (He5.wf K C "classmethod" m))
theorem cread_of' {K : Fg} {C : Addr} (h : PySem.W.readsIn K C (.type "type") = true) : ClX.CRead K C (.type "type") := by
  refine ⟨h, ?_⟩
  unfold PySem.W.readsIn at h
  obtain ⟨h, _⟩ := He.ba h
  obtain ⟨h, _⟩ := He.ba h
  obtain ⟨h, h3⟩ := He.ba h
  obtain ⟨_, h2⟩ := He.ba h
  unfold PySem.W.specialIn
  rw [beq_iff_eq.mp h2, Option.bind_some]
  exact beq_iff_eq.mp h3
section
variable {P : Program} {w : World} {K : Fg} {mg : Str → Option Value} {base : Heap} {f : Addr} {fd : FuncData} {ps : List Str} {k : Nat} {S : ZSp} {C : Addr} {m : Str}
theorem cmkz_of {n : Nat} {ks : List Str} {g : List V → List V → List V} {gg : List Value → List Value → List Value} {gV : List V → List V → List V} (hc : cmB K C m = true) (G : FnOk P w K mg base CX0 k (He5.wf K C "classmethod" m) fd ps (toSp K S)) (hb : KBn K fd ps (n + 1) ks gg gV)
    (hg : ∀ v vs zs, vs.length = n → zs.length = ks.length → gV (v :: vs) zs = v :: g vs zs) : CmKZ P w K mg base C m k n ks g S := by
  obtain ⟨h1, h2⟩ := He.ba hc
  obtain ⟨h2, h3⟩ := He.ba h2
  exact ⟨_, _, _, fd, ps, toSp K S, gg, gV, cread_of' h1, He5.cmet_of h2 h3, G, hb, fun v vs zs H Q e1 e2 ⟨R, F, M, ds, kk, L, r, s, q⟩ => by rw [hg v vs zs e1 e2]; exact ⟨R, F, M, ds, kk, L, r, s, q⟩⟩
end
end Z
set_option Elab.async false
set_option linter.all false
set_option maxRecDepth 100000
set_option maxHeartbeats 0
/-! Printed by head.py: the end. -/
namespace Qk12
open PySem PySem.Spec PyProof.Rows L2 StX Z
/-! ### a Hook that tells built-in functions among the globals, too -/
def bfOk (bs : List (Str × String)) (K : PySem.W.Frag) : Bool := bs.all fun b => He.eqO (PySem.W.nsIn K mainGlobals b.1) (some (some (.builtin b.2)))
def csOk (cs : List (Str × D)) (K : PySem.W.Frag) : Bool := cs.all fun b => constB K b.1 b.2
def obsX (fa : List He.Fa) (fn : List He5.DefA) (bs : List (Str × String)) (cs : List (Str × D)) (xs : List (PySem.W.Frag → Bool)) (K : PySem.W.Frag) : He.AlD × Bool := (He5.obsA fa fn K, (bfOk bs K && csOk cs K) && xs.all fun x => x K)
def obsXG (n : Nat) (fa : List He.Fa) (fn : List He5.DefA) (bs : List (Str × String)) (cs : List (Str × D)) (xs : List (PySem.W.Frag → Bool)) (g : Addr → Option Obj) : He.AlD × Bool := obsX fa fn bs cs xs (He.frG g (He.asD g n ++ [PySem.cStatics]))
def hookX (n : Nat) (fa : List He.Fa) (fn : List He5.DefA) (bs : List (Str × String)) (cs : List (Str × D)) (xs : List (PySem.W.Frag → Bool)) : PySem.W.Hook where
  α := He.AlD × Bool
  obs := fun s => obsXG n fa fn bs cs xs s.heap.get?
  val := fun _ => (He5.valA fn, true)
  says := fun _ h => ∃ K : PySem.W.Frag, K.In h ∧ He5.SaysA fa fn K ∧ ((bfOk bs K && csOk cs K) && xs.all fun x => x K) = true
  of := fun _ _ e => ⟨_, He.frG_in, congrArg (fun z : He.AlD × Bool => z.1) e, congrArg (fun z : He.AlD × Bool => z.2) e⟩
  keeps := fun _ _ _ ⟨K, hK, c⟩ k => ⟨K, PySem.W.Frag.In.keeps hK k, c⟩
theorem obsXG_eq {n : Nat} {fa : List He.Fa} {fn : List He5.DefA} {bs : List (Str × String)} {cs : List (Str × D)} {xs : List (PySem.W.Frag → Bool)} {g : Addr → Option Obj} {s : Shared} (h : ∀ a, g a = s.heap.get? a) : obsXG n fa fn bs cs xs g = (hookX n fa fn bs cs xs).obs s := by
  have e : g = s.heap.get? := funext h
  rw [e] <;> rfl
theorem cs_ok {K : PySem.W.Frag} {h : Heap} {mg : Str → Option Value} (X : K.In h) (G : h.Ns mainGlobals mg) {cs : List (Str × D)} (c : csOk cs K = true) (i : Nat) {b : Str × D} (hb : cs[i]? = some b) : ∃ v, Cst K mg b.1 v b.2 := const_ok X G (List.all_eq_true.mp c b (List.mem_of_getElem? hb))
theorem bf_ok {K : PySem.W.Frag} {h : Heap} {mg : Str → Option Value} (X : K.In h) (G : h.Ns mainGlobals mg) {bs : List (Str × String)} (c : bfOk bs K = true) (i : Nat) {b : Str × String} (hb : bs[i]? = some b) : mg b.1 = some (.builtin b.2) :=
  PySem.W.mg_of X G (He.eqO_ok (List.all_eq_true.mp c b (List.mem_of_getElem? hb)))
abbrev FnP (K : PySem.W.Frag) (x : Str) (st : Stmt) (f : Addr) (fd : FuncData) : Prop := FunD K x x (defArgs st) (defBody st) (defScope st) [] [] f fd
section
variable {P : Program} {w : World} {K : PySem.W.Frag} {mg : Str → Option Value} {base : Heap}
theorem fo_affine_value {Ac : Cs} (T : Txt Ac K mg) {f : Addr} {fd : FuncData} (F : FunD K "affine_value" "affine_value" (defArgs s_affine_value) (defBody s_affine_value) (defScope s_affine_value) [] [] f fd) : FnOk P w K mg base CX0 1 f fd ["row", "integers"] (toSp K (S_affine_value Ac)) :=
  fn_z F sc_affine_value (S_affine_value Ac) (fun ds M kk h => by unfold S_affine_value at h; first | (obtain ⟨_, rfl, _⟩ := h; rfl) | (obtain ⟨_, _, rfl, _⟩ := h; rfl) | (obtain ⟨_, _, _, rfl, _⟩ := h; rfl) | (obtain ⟨_, _, _, _, rfl, _⟩ := h; rfl) | (obtain ⟨_, _, _, _, _, rfl, _⟩ := h; rfl) | (obtain ⟨_, _, _, _, _, _, rfl, _⟩ := h; rfl) | (obtain ⟨_, _, _, _, _, _, _, rfl, _⟩ := h; rfl) | (obtain ⟨_, _, _, _, _, _, _, _, rfl, _⟩ := h; rfl) | (obtain ⟨_, _, _, _, _, _, _, _, _, rfl, _⟩ := h; rfl) | (obtain ⟨_, _, _, _, _, _, _, _, _, _, rfl, _⟩ := h; rfl) | (obtain ⟨_, _, _, _, _, _, _, _, _, _, _, rfl, _⟩ := h; rfl) | (obtain ⟨_, _, _, _, _, _, _, _, _, _, _, _, rfl, _⟩ := h; rfl) | (obtain ⟨_, _, _, _, _, _, _, _, _, _, _, _, _, rfl, _⟩ := h; rfl) | (obtain ⟨_, _, _, _, _, _, _, _, _, _, _, _, _, _, rfl, _⟩ := h; rfl) | (obtain ⟨_, _, _, _, _, _, _, _, _, _, _, _, _, _, _, rfl, _⟩ := h; rfl)) (t_affine_value K Ac) (fun cdv A outer s H E hr => red_affine_value T f cdv A outer s H E hr) (fun ds M kk h => z_affine_value T h)
theorem fn_affine_value {Ac : Cs} (T : Txt Ac K mg) {f : Addr} {fd : FuncData} (F : FunD K "affine_value" "affine_value" (defArgs s_affine_value) (defBody s_affine_value) (defScope s_affine_value) [] [] f fd) (hm : mg "affine_value" = some (.ref f)) : FnZ P w K mg base "affine_value" 1 (S_affine_value Ac) := fnz_of F (fo_affine_value T F) hm (F.bindsN fun _ _ _ _ _ _ us hl => match us, hl with | [_, _], _ => rfl)
theorem fo_unit_row {Ac : Cs} (T : Txt Ac K mg) {f : Addr} {fd : FuncData} (F : FunD K "unit_row" "unit_row" (defArgs s_unit_row) (defBody s_unit_row) (defScope s_unit_row) [] [] f fd) : FnOk P w K mg base CX0 1 f fd ["unknown", "unknowns"] (toSp K (S_unit_row Ac)) :=
  fn_z F sc_unit_row (S_unit_row Ac) (fun ds M kk h => by unfold S_unit_row at h; first | (obtain ⟨_, rfl, _⟩ := h; rfl) | (obtain ⟨_, _, rfl, _⟩ := h; rfl) | (obtain ⟨_, _, _, rfl, _⟩ := h; rfl) | (obtain ⟨_, _, _, _, rfl, _⟩ := h; rfl) | (obtain ⟨_, _, _, _, _, rfl, _⟩ := h; rfl) | (obtain ⟨_, _, _, _, _, _, rfl, _⟩ := h; rfl) | (obtain ⟨_, _, _, _, _, _, _, rfl, _⟩ := h; rfl) | (obtain ⟨_, _, _, _, _, _, _, _, rfl, _⟩ := h; rfl) | (obtain ⟨_, _, _, _, _, _, _, _, _, rfl, _⟩ := h; rfl) | (obtain ⟨_, _, _, _, _, _, _, _, _, _, rfl, _⟩ := h; rfl) | (obtain ⟨_, _, _, _, _, _, _, _, _, _, _, rfl, _⟩ := h; rfl) | (obtain ⟨_, _, _, _, _, _, _, _, _, _, _, _, rfl, _⟩ := h; rfl) | (obtain ⟨_, _, _, _, _, _, _, _, _, _, _, _, _, rfl, _⟩ := h; rfl) | (obtain ⟨_, _, _, _, _, _, _, _, _, _, _, _, _, _, rfl, _⟩ := h; rfl) | (obtain ⟨_, _, _, _, _, _, _, _, _, _, _, _, _, _, _, rfl, _⟩ := h; rfl)) (t_unit_row K Ac) (fun cdv A outer s H E hr => red_unit_row T f cdv A outer s H E hr) (fun ds M kk h => z_unit_row T h)
theorem fn_unit_row {Ac : Cs} (T : Txt Ac K mg) {f : Addr} {fd : FuncData} (F : FunD K "unit_row" "unit_row" (defArgs s_unit_row) (defBody s_unit_row) (defScope s_unit_row) [] [] f fd) (hm : mg "unit_row" = some (.ref f)) : FnZ P w K mg base "unit_row" 1 (S_unit_row Ac) := fnz_of F (fo_unit_row T F) hm (F.bindsN fun _ _ _ _ _ _ us hl => match us, hl with | [_, _], _ => rfl)
theorem fo_Frame_init {Ac : Cs} (T : Txt Ac K mg) {f : Addr} {fd : FuncData} (F : FunD K "__init__" "Frame.__init__" (defArgs s_Frame_init) (defBody s_Frame_init) (defScope s_Frame_init) [] [] f fd) : FnOk P w K mg base CX0 1 f fd ["self", "name", "variables", "forms"] (toSp K (S_Frame_init Ac)) :=
  fn_z F sc_Frame_init (S_Frame_init Ac) (fun ds M kk h => by unfold S_Frame_init at h; first | (obtain ⟨_, rfl, _⟩ := h; rfl) | (obtain ⟨_, _, rfl, _⟩ := h; rfl) | (obtain ⟨_, _, _, rfl, _⟩ := h; rfl) | (obtain ⟨_, _, _, _, rfl, _⟩ := h; rfl) | (obtain ⟨_, _, _, _, _, rfl, _⟩ := h; rfl) | (obtain ⟨_, _, _, _, _, _, rfl, _⟩ := h; rfl) | (obtain ⟨_, _, _, _, _, _, _, rfl, _⟩ := h; rfl) | (obtain ⟨_, _, _, _, _, _, _, _, rfl, _⟩ := h; rfl) | (obtain ⟨_, _, _, _, _, _, _, _, _, rfl, _⟩ := h; rfl) | (obtain ⟨_, _, _, _, _, _, _, _, _, _, rfl, _⟩ := h; rfl) | (obtain ⟨_, _, _, _, _, _, _, _, _, _, _, rfl, _⟩ := h; rfl) | (obtain ⟨_, _, _, _, _, _, _, _, _, _, _, _, rfl, _⟩ := h; rfl) | (obtain ⟨_, _, _, _, _, _, _, _, _, _, _, _, _, rfl, _⟩ := h; rfl) | (obtain ⟨_, _, _, _, _, _, _, _, _, _, _, _, _, _, rfl, _⟩ := h; rfl) | (obtain ⟨_, _, _, _, _, _, _, _, _, _, _, _, _, _, _, rfl, _⟩ := h; rfl)) (t_Frame_init K Ac) (fun cdv A outer s H E hr => red_Frame_init T f cdv A outer s H E hr) (fun ds M kk h => z_Frame_init T h)
theorem fn_Frame_init {Ac : Cs} (T : Txt Ac K mg) {f : Addr} {fd : FuncData} (F : FunD K "__init__" "Frame.__init__" (defArgs s_Frame_init) (defBody s_Frame_init) (defScope s_Frame_init) [] [] f fd) (hm : mg "Frame" = some (.ref Ac.c_Frame)) (M : Mk K Ac.c_Frame f) : MkZ P w K mg base "Frame" Ac.c_Frame 1 (S_Frame_init Ac) := mkz_of hm M (fo_Frame_init T F) (F.bindsN fun _ _ _ _ _ _ us hl => match us, hl with | [_, _, _, _], _ => rfl)
theorem fo_Edge_init {Ac : Cs} (T : Txt Ac K mg) {f : Addr} {fd : FuncData} (F : FunD K "__init__" "Edge.__init__" (defArgs s_Edge_init) (defBody s_Edge_init) (defScope s_Edge_init) [] [("sources", Ac.d_Edge_init_sources), ("guards", Ac.d_Edge_init_guards), ("effect", Ac.d_Edge_init_effect), ("label", (V.str "plain"))] f fd) : FnOk P w K mg base CX0 1 f fd ["self", "target", "unknowns", "sources", "guards", "effect", "label"] (toSp K (S_Edge_init Ac)) :=
  fn_z F sc_Edge_init (S_Edge_init Ac) (fun ds M kk h => by unfold S_Edge_init at h; first | (obtain ⟨_, rfl, _⟩ := h; rfl) | (obtain ⟨_, _, rfl, _⟩ := h; rfl) | (obtain ⟨_, _, _, rfl, _⟩ := h; rfl) | (obtain ⟨_, _, _, _, rfl, _⟩ := h; rfl) | (obtain ⟨_, _, _, _, _, rfl, _⟩ := h; rfl) | (obtain ⟨_, _, _, _, _, _, rfl, _⟩ := h; rfl) | (obtain ⟨_, _, _, _, _, _, _, rfl, _⟩ := h; rfl) | (obtain ⟨_, _, _, _, _, _, _, _, rfl, _⟩ := h; rfl) | (obtain ⟨_, _, _, _, _, _, _, _, _, rfl, _⟩ := h; rfl) | (obtain ⟨_, _, _, _, _, _, _, _, _, _, rfl, _⟩ := h; rfl) | (obtain ⟨_, _, _, _, _, _, _, _, _, _, _, rfl, _⟩ := h; rfl) | (obtain ⟨_, _, _, _, _, _, _, _, _, _, _, _, rfl, _⟩ := h; rfl) | (obtain ⟨_, _, _, _, _, _, _, _, _, _, _, _, _, rfl, _⟩ := h; rfl) | (obtain ⟨_, _, _, _, _, _, _, _, _, _, _, _, _, _, rfl, _⟩ := h; rfl) | (obtain ⟨_, _, _, _, _, _, _, _, _, _, _, _, _, _, _, rfl, _⟩ := h; rfl)) (t_Edge_init K Ac) (fun cdv A outer s H E hr => red_Edge_init T f cdv A outer s H E hr) (fun ds M kk h => z_Edge_init T h)
theorem fn_Edge_init_2_sources_guards_effect_label {Ac : Cs} (T : Txt Ac K mg) {f : Addr} {fd : FuncData} (F : FunD K "__init__" "Edge.__init__" (defArgs s_Edge_init) (defBody s_Edge_init) (defScope s_Edge_init) [] [("sources", Ac.d_Edge_init_sources), ("guards", Ac.d_Edge_init_guards), ("effect", Ac.d_Edge_init_effect), ("label", (V.str "plain"))] f fd) (hm : mg "Edge" = some (.ref Ac.c_Edge)) (M : Mk K Ac.c_Edge f) : MkKZ P w K mg base "Edge" Ac.c_Edge 1 2 ["sources", "guards", "effect", "label"] (fun vs zs => vs ++ ((zs.drop 0).take 1 ++ ((zs.drop 1).take 1 ++ ((zs.drop 2).take 1 ++ ((zs.drop 3).take 1 ++ []))))) (S_Edge_init Ac) := by
  obtain ⟨mv, kb⟩ := F.kbinds0 (ps := ["self", "target", "unknowns", "sources", "guards", "effect", "label"]) 3 ["sources", "guards", "effect", "label"] [] (fun us mv ws => us ++ ((ws.drop 0).take 1 ++ ((ws.drop 1).take 1 ++ ((ws.drop 2).take 1 ++ ((ws.drop 3).take 1 ++ []))))) (by simp) (by intro q hq; cases hq) (fun r1 r2 r3 => r1.append (((r3.drop 0).take 1).append (((r3.drop 1).take 1).append (((r3.drop 2).take 1).append (((r3.drop 3).take 1).append .nil)))))
    (fun D doc pm an cdv ct us mv ws h1 h2 h3 => match us, mv, ws, h1, h2, h3 with | [_, _, _], [], [_, _, _, _], _, _, _ => by first | rfl | kernel_rfl)
  exact mkkz_of hm M (fo_Edge_init T F) kb fun v vs zs h1 h2 => rfl
theorem fn_Edge_init_2_guards_effect_label {Ac : Cs} (T : Txt Ac K mg) {f : Addr} {fd : FuncData} (F : FunD K "__init__" "Edge.__init__" (defArgs s_Edge_init) (defBody s_Edge_init) (defScope s_Edge_init) [] [("sources", Ac.d_Edge_init_sources), ("guards", Ac.d_Edge_init_guards), ("effect", Ac.d_Edge_init_effect), ("label", (V.str "plain"))] f fd) (hm : mg "Edge" = some (.ref Ac.c_Edge)) (M : Mk K Ac.c_Edge f) : MkKZ P w K mg base "Edge" Ac.c_Edge 1 2 ["guards", "effect", "label"] (fun vs zs => vs ++ ([Ac.d_Edge_init_sources] ++ ((zs.drop 0).take 1 ++ ((zs.drop 1).take 1 ++ ((zs.drop 2).take 1 ++ []))))) (S_Edge_init Ac) := by
  obtain ⟨mv, kb⟩ := F.kbinds0 (ps := ["self", "target", "unknowns", "sources", "guards", "effect", "label"]) 3 ["guards", "effect", "label"] [("sources", Ac.d_Edge_init_sources)] (fun us mv ws => us ++ ((mv.drop 0).take 1 ++ ((ws.drop 0).take 1 ++ ((ws.drop 1).take 1 ++ ((ws.drop 2).take 1 ++ []))))) (by simp) (by intro q hq; simp only [List.mem_cons, List.not_mem_nil, or_false] at hq ⊢; subst hq; simp) (fun r1 r2 r3 => r1.append (((r2.drop 0).take 1).append (((r3.drop 0).take 1).append (((r3.drop 1).take 1).append (((r3.drop 2).take 1).append .nil)))))
    (fun D doc pm an cdv ct us mv ws h1 h2 h3 => match us, mv, ws, h1, h2, h3 with | [_, _, _], [_], [_, _, _], _, _, _ => ⟨_, _, _, _, _, _, rfl, rfl, by first | rfl | kernel_rfl⟩)
  exact mkkz_of hm M (fo_Edge_init T F) kb fun v vs zs h1 h2 => rfl
theorem fn_Edge_init_2 {Ac : Cs} (T : Txt Ac K mg) {f : Addr} {fd : FuncData} (F : FunD K "__init__" "Edge.__init__" (defArgs s_Edge_init) (defBody s_Edge_init) (defScope s_Edge_init) [] [("sources", Ac.d_Edge_init_sources), ("guards", Ac.d_Edge_init_guards), ("effect", Ac.d_Edge_init_effect), ("label", (V.str "plain"))] f fd) (hm : mg "Edge" = some (.ref Ac.c_Edge)) (M : Mk K Ac.c_Edge f) : MkKZ P w K mg base "Edge" Ac.c_Edge 1 2 [] (fun vs zs => vs ++ ([Ac.d_Edge_init_sources] ++ ([Ac.d_Edge_init_guards] ++ ([Ac.d_Edge_init_effect] ++ ([(V.str "plain")] ++ []))))) (S_Edge_init Ac) := by
  obtain ⟨mv, kb⟩ := F.kbinds0 (ps := ["self", "target", "unknowns", "sources", "guards", "effect", "label"]) 3 [] [("sources", Ac.d_Edge_init_sources), ("guards", Ac.d_Edge_init_guards), ("effect", Ac.d_Edge_init_effect), ("label", (V.str "plain"))] (fun us mv ws => us ++ ((mv.drop 0).take 1 ++ ((mv.drop 1).take 1 ++ ((mv.drop 2).take 1 ++ ((mv.drop 3).take 1 ++ []))))) (by simp) (by intro q hq; simp only [List.mem_cons, List.not_mem_nil, or_false] at hq ⊢; rcases hq with rfl | rfl | rfl | rfl <;> simp) (fun r1 r2 r3 => r1.append (((r2.drop 0).take 1).append (((r2.drop 1).take 1).append (((r2.drop 2).take 1).append (((r2.drop 3).take 1).append .nil)))))
    (fun D doc pm an cdv ct us mv ws h1 h2 h3 => match us, mv, ws, h1, h2, h3 with | [_, _, _], [_, _, _, _], [], _, _, _ => ⟨_, _, _, _, _, _, rfl, rfl, ⟨_, _, _, _, _, _, rfl, rfl, ⟨_, _, _, _, _, _, rfl, rfl, ⟨_, _, _, _, _, _, rfl, rfl, by first | rfl | kernel_rfl⟩⟩⟩⟩)
  exact mkkz_of hm M (fo_Edge_init T F) kb fun v vs zs h1 h2 => rfl
theorem fn_Edge_init_2_label_effect_guards_sources {Ac : Cs} (T : Txt Ac K mg) {f : Addr} {fd : FuncData} (F : FunD K "__init__" "Edge.__init__" (defArgs s_Edge_init) (defBody s_Edge_init) (defScope s_Edge_init) [] [("sources", Ac.d_Edge_init_sources), ("guards", Ac.d_Edge_init_guards), ("effect", Ac.d_Edge_init_effect), ("label", (V.str "plain"))] f fd) (hm : mg "Edge" = some (.ref Ac.c_Edge)) (M : Mk K Ac.c_Edge f) : MkKZ P w K mg base "Edge" Ac.c_Edge 1 2 ["label", "effect", "guards", "sources"] (fun vs zs => vs ++ ((zs.drop 3).take 1 ++ ((zs.drop 2).take 1 ++ ((zs.drop 1).take 1 ++ ((zs.drop 0).take 1 ++ []))))) (S_Edge_init Ac) := by
  obtain ⟨mv, kb⟩ := F.kbinds0 (ps := ["self", "target", "unknowns", "sources", "guards", "effect", "label"]) 3 ["label", "effect", "guards", "sources"] [] (fun us mv ws => us ++ ((ws.drop 3).take 1 ++ ((ws.drop 2).take 1 ++ ((ws.drop 1).take 1 ++ ((ws.drop 0).take 1 ++ []))))) (by simp) (by intro q hq; cases hq) (fun r1 r2 r3 => r1.append (((r3.drop 3).take 1).append (((r3.drop 2).take 1).append (((r3.drop 1).take 1).append (((r3.drop 0).take 1).append .nil)))))
    (fun D doc pm an cdv ct us mv ws h1 h2 h3 => match us, mv, ws, h1, h2, h3 with | [_, _, _], [], [_, _, _, _], _, _, _ => by first | rfl | kernel_rfl)
  exact mkkz_of hm M (fo_Edge_init T F) kb fun v vs zs h1 h2 => rfl
theorem fn_Edge_init_2_sources_effect {Ac : Cs} (T : Txt Ac K mg) {f : Addr} {fd : FuncData} (F : FunD K "__init__" "Edge.__init__" (defArgs s_Edge_init) (defBody s_Edge_init) (defScope s_Edge_init) [] [("sources", Ac.d_Edge_init_sources), ("guards", Ac.d_Edge_init_guards), ("effect", Ac.d_Edge_init_effect), ("label", (V.str "plain"))] f fd) (hm : mg "Edge" = some (.ref Ac.c_Edge)) (M : Mk K Ac.c_Edge f) : MkKZ P w K mg base "Edge" Ac.c_Edge 1 2 ["sources", "effect"] (fun vs zs => vs ++ ((zs.drop 0).take 1 ++ ([Ac.d_Edge_init_guards] ++ ((zs.drop 1).take 1 ++ ([(V.str "plain")] ++ []))))) (S_Edge_init Ac) := by
  obtain ⟨mv, kb⟩ := F.kbinds0 (ps := ["self", "target", "unknowns", "sources", "guards", "effect", "label"]) 3 ["sources", "effect"] [("guards", Ac.d_Edge_init_guards), ("label", (V.str "plain"))] (fun us mv ws => us ++ ((ws.drop 0).take 1 ++ ((mv.drop 0).take 1 ++ ((ws.drop 1).take 1 ++ ((mv.drop 1).take 1 ++ []))))) (by simp) (by intro q hq; simp only [List.mem_cons, List.not_mem_nil, or_false] at hq ⊢; rcases hq with rfl | rfl <;> simp) (fun r1 r2 r3 => r1.append (((r3.drop 0).take 1).append (((r2.drop 0).take 1).append (((r3.drop 1).take 1).append (((r2.drop 1).take 1).append .nil)))))
    (fun D doc pm an cdv ct us mv ws h1 h2 h3 => match us, mv, ws, h1, h2, h3 with | [_, _, _], [_, _], [_, _], _, _, _ => ⟨_, _, _, _, _, _, rfl, rfl, ⟨_, _, _, _, _, _, rfl, rfl, by first | rfl | kernel_rfl⟩⟩)
  exact mkkz_of hm M (fo_Edge_init T F) kb fun v vs zs h1 h2 => rfl
theorem fn_Edge_init_2_guards {Ac : Cs} (T : Txt Ac K mg) {f : Addr} {fd : FuncData} (F : FunD K "__init__" "Edge.__init__" (defArgs s_Edge_init) (defBody s_Edge_init) (defScope s_Edge_init) [] [("sources", Ac.d_Edge_init_sources), ("guards", Ac.d_Edge_init_guards), ("effect", Ac.d_Edge_init_effect), ("label", (V.str "plain"))] f fd) (hm : mg "Edge" = some (.ref Ac.c_Edge)) (M : Mk K Ac.c_Edge f) : MkKZ P w K mg base "Edge" Ac.c_Edge 1 2 ["guards"] (fun vs zs => vs ++ ([Ac.d_Edge_init_sources] ++ ((zs.drop 0).take 1 ++ ([Ac.d_Edge_init_effect] ++ ([(V.str "plain")] ++ []))))) (S_Edge_init Ac) := by
  obtain ⟨mv, kb⟩ := F.kbinds0 (ps := ["self", "target", "unknowns", "sources", "guards", "effect", "label"]) 3 ["guards"] [("sources", Ac.d_Edge_init_sources), ("effect", Ac.d_Edge_init_effect), ("label", (V.str "plain"))] (fun us mv ws => us ++ ((mv.drop 0).take 1 ++ ((ws.drop 0).take 1 ++ ((mv.drop 1).take 1 ++ ((mv.drop 2).take 1 ++ []))))) (by simp) (by intro q hq; simp only [List.mem_cons, List.not_mem_nil, or_false] at hq ⊢; rcases hq with rfl | rfl | rfl <;> simp) (fun r1 r2 r3 => r1.append (((r2.drop 0).take 1).append (((r3.drop 0).take 1).append (((r2.drop 1).take 1).append (((r2.drop 2).take 1).append .nil)))))
    (fun D doc pm an cdv ct us mv ws h1 h2 h3 => match us, mv, ws, h1, h2, h3 with | [_, _, _], [_, _, _], [_], _, _, _ => ⟨_, _, _, _, _, _, rfl, rfl, ⟨_, _, _, _, _, _, rfl, rfl, ⟨_, _, _, _, _, _, rfl, rfl, by first | rfl | kernel_rfl⟩⟩⟩)
  exact mkkz_of hm M (fo_Edge_init T F) kb fun v vs zs h1 h2 => rfl
theorem fn_Edge_init_2_label_sources {Ac : Cs} (T : Txt Ac K mg) {f : Addr} {fd : FuncData} (F : FunD K "__init__" "Edge.__init__" (defArgs s_Edge_init) (defBody s_Edge_init) (defScope s_Edge_init) [] [("sources", Ac.d_Edge_init_sources), ("guards", Ac.d_Edge_init_guards), ("effect", Ac.d_Edge_init_effect), ("label", (V.str "plain"))] f fd) (hm : mg "Edge" = some (.ref Ac.c_Edge)) (M : Mk K Ac.c_Edge f) : MkKZ P w K mg base "Edge" Ac.c_Edge 1 2 ["label", "sources"] (fun vs zs => vs ++ ((zs.drop 1).take 1 ++ ([Ac.d_Edge_init_guards] ++ ([Ac.d_Edge_init_effect] ++ ((zs.drop 0).take 1 ++ []))))) (S_Edge_init Ac) := by
  obtain ⟨mv, kb⟩ := F.kbinds0 (ps := ["self", "target", "unknowns", "sources", "guards", "effect", "label"]) 3 ["label", "sources"] [("guards", Ac.d_Edge_init_guards), ("effect", Ac.d_Edge_init_effect)] (fun us mv ws => us ++ ((ws.drop 1).take 1 ++ ((mv.drop 0).take 1 ++ ((mv.drop 1).take 1 ++ ((ws.drop 0).take 1 ++ []))))) (by simp) (by intro q hq; simp only [List.mem_cons, List.not_mem_nil, or_false] at hq ⊢; rcases hq with rfl | rfl <;> simp) (fun r1 r2 r3 => r1.append (((r3.drop 1).take 1).append (((r2.drop 0).take 1).append (((r2.drop 1).take 1).append (((r3.drop 0).take 1).append .nil)))))
    (fun D doc pm an cdv ct us mv ws h1 h2 h3 => match us, mv, ws, h1, h2, h3 with | [_, _, _], [_, _], [_, _], _, _, _ => ⟨_, _, _, _, _, _, rfl, rfl, ⟨_, _, _, _, _, _, rfl, rfl, by first | rfl | kernel_rfl⟩⟩)
  exact mkkz_of hm M (fo_Edge_init T F) kb fun v vs zs h1 h2 => rfl
theorem fn_Edge_init_2_effect_label {Ac : Cs} (T : Txt Ac K mg) {f : Addr} {fd : FuncData} (F : FunD K "__init__" "Edge.__init__" (defArgs s_Edge_init) (defBody s_Edge_init) (defScope s_Edge_init) [] [("sources", Ac.d_Edge_init_sources), ("guards", Ac.d_Edge_init_guards), ("effect", Ac.d_Edge_init_effect), ("label", (V.str "plain"))] f fd) (hm : mg "Edge" = some (.ref Ac.c_Edge)) (M : Mk K Ac.c_Edge f) : MkKZ P w K mg base "Edge" Ac.c_Edge 1 2 ["effect", "label"] (fun vs zs => vs ++ ([Ac.d_Edge_init_sources] ++ ([Ac.d_Edge_init_guards] ++ ((zs.drop 0).take 1 ++ ((zs.drop 1).take 1 ++ []))))) (S_Edge_init Ac) := by
  obtain ⟨mv, kb⟩ := F.kbinds0 (ps := ["self", "target", "unknowns", "sources", "guards", "effect", "label"]) 3 ["effect", "label"] [("sources", Ac.d_Edge_init_sources), ("guards", Ac.d_Edge_init_guards)] (fun us mv ws => us ++ ((mv.drop 0).take 1 ++ ((mv.drop 1).take 1 ++ ((ws.drop 0).take 1 ++ ((ws.drop 1).take 1 ++ []))))) (by simp) (by intro q hq; simp only [List.mem_cons, List.not_mem_nil, or_false] at hq ⊢; rcases hq with rfl | rfl <;> simp) (fun r1 r2 r3 => r1.append (((r2.drop 0).take 1).append (((r2.drop 1).take 1).append (((r3.drop 0).take 1).append (((r3.drop 1).take 1).append .nil)))))
    (fun D doc pm an cdv ct us mv ws h1 h2 h3 => match us, mv, ws, h1, h2, h3 with | [_, _, _], [_, _], [_, _], _, _, _ => ⟨_, _, _, _, _, _, rfl, rfl, ⟨_, _, _, _, _, _, rfl, rfl, by first | rfl | kernel_rfl⟩⟩)
  exact mkkz_of hm M (fo_Edge_init T F) kb fun v vs zs h1 h2 => rfl
theorem fo_law_purse {Ac : Cs} (T : Txt Ac K mg) {f : Addr} {fd : FuncData} (F : FunD K "_law_purse" "_law_purse" (defArgs s_law_purse) (defBody s_law_purse) (defScope s_law_purse) [] [] f fd) : FnOk P w K mg base CX0 1 f fd ["_law_script"] (toSp K (S_law_purse Ac)) :=
  fn_z F sc_law_purse (S_law_purse Ac) (fun ds M kk h => by unfold S_law_purse at h; first | (obtain ⟨_, rfl, _⟩ := h; rfl) | (obtain ⟨_, _, rfl, _⟩ := h; rfl) | (obtain ⟨_, _, _, rfl, _⟩ := h; rfl) | (obtain ⟨_, _, _, _, rfl, _⟩ := h; rfl) | (obtain ⟨_, _, _, _, _, rfl, _⟩ := h; rfl) | (obtain ⟨_, _, _, _, _, _, rfl, _⟩ := h; rfl) | (obtain ⟨_, _, _, _, _, _, _, rfl, _⟩ := h; rfl) | (obtain ⟨_, _, _, _, _, _, _, _, rfl, _⟩ := h; rfl) | (obtain ⟨_, _, _, _, _, _, _, _, _, rfl, _⟩ := h; rfl) | (obtain ⟨_, _, _, _, _, _, _, _, _, _, rfl, _⟩ := h; rfl) | (obtain ⟨_, _, _, _, _, _, _, _, _, _, _, rfl, _⟩ := h; rfl) | (obtain ⟨_, _, _, _, _, _, _, _, _, _, _, _, rfl, _⟩ := h; rfl) | (obtain ⟨_, _, _, _, _, _, _, _, _, _, _, _, _, rfl, _⟩ := h; rfl) | (obtain ⟨_, _, _, _, _, _, _, _, _, _, _, _, _, _, rfl, _⟩ := h; rfl) | (obtain ⟨_, _, _, _, _, _, _, _, _, _, _, _, _, _, _, rfl, _⟩ := h; rfl)) (t_law_purse K Ac) (fun cdv A outer s H E hr => red_law_purse T f cdv A outer s H E hr) (fun ds M kk h => z_law_purse T h)
theorem fn_law_purse {Ac : Cs} (T : Txt Ac K mg) {f : Addr} {fd : FuncData} (F : FunD K "_law_purse" "_law_purse" (defArgs s_law_purse) (defBody s_law_purse) (defScope s_law_purse) [] [] f fd) (hm : mg "_law_purse" = some (.ref f)) : FnZ P w K mg base "_law_purse" 1 (S_law_purse Ac) := fnz_of F (fo_law_purse T F) hm (F.bindsN fun _ _ _ _ _ _ us hl => match us, hl with | [_], _ => rfl)
theorem fo_law_draw {Ac : Cs} (T : Txt Ac K mg) {f : Addr} {fd : FuncData} (F : FunD K "_law_draw" "_law_draw" (defArgs s_law_draw) (defBody s_law_draw) (defScope s_law_draw) [] [] f fd) : FnOk P w K mg base CX0 1 f fd ["_law_purse_here", "_law_size"] (toSp K (S_law_draw Ac)) :=
  fn_z F sc_law_draw (S_law_draw Ac) (fun ds M kk h => by unfold S_law_draw at h; first | (obtain ⟨_, rfl, _⟩ := h; rfl) | (obtain ⟨_, _, rfl, _⟩ := h; rfl) | (obtain ⟨_, _, _, rfl, _⟩ := h; rfl) | (obtain ⟨_, _, _, _, rfl, _⟩ := h; rfl) | (obtain ⟨_, _, _, _, _, rfl, _⟩ := h; rfl) | (obtain ⟨_, _, _, _, _, _, rfl, _⟩ := h; rfl) | (obtain ⟨_, _, _, _, _, _, _, rfl, _⟩ := h; rfl) | (obtain ⟨_, _, _, _, _, _, _, _, rfl, _⟩ := h; rfl) | (obtain ⟨_, _, _, _, _, _, _, _, _, rfl, _⟩ := h; rfl) | (obtain ⟨_, _, _, _, _, _, _, _, _, _, rfl, _⟩ := h; rfl) | (obtain ⟨_, _, _, _, _, _, _, _, _, _, _, rfl, _⟩ := h; rfl) | (obtain ⟨_, _, _, _, _, _, _, _, _, _, _, _, rfl, _⟩ := h; rfl) | (obtain ⟨_, _, _, _, _, _, _, _, _, _, _, _, _, rfl, _⟩ := h; rfl) | (obtain ⟨_, _, _, _, _, _, _, _, _, _, _, _, _, _, rfl, _⟩ := h; rfl) | (obtain ⟨_, _, _, _, _, _, _, _, _, _, _, _, _, _, _, rfl, _⟩ := h; rfl)) (t_law_draw K Ac) (fun cdv A outer s H E hr => red_law_draw T f cdv A outer s H E hr) (fun ds M kk h => z_law_draw T h)
theorem fn_law_draw {Ac : Cs} (T : Txt Ac K mg) {f : Addr} {fd : FuncData} (F : FunD K "_law_draw" "_law_draw" (defArgs s_law_draw) (defBody s_law_draw) (defScope s_law_draw) [] [] f fd) (hm : mg "_law_draw" = some (.ref f)) : FnZ P w K mg base "_law_draw" 1 (S_law_draw Ac) := fnz_of F (fo_law_draw T F) hm (F.bindsN fun _ _ _ _ _ _ us hl => match us, hl with | [_, _], _ => rfl)
theorem fo_law_value {Ac : Cs} (T : Txt Ac K mg) {f : Addr} {fd : FuncData} (F : FunD K "_law_value" "_law_value" (defArgs s_law_value) (defBody s_law_value) (defScope s_law_value) [] [] f fd) : FnOk P w K mg base CX0 1 f fd ["_law_row", "_law_values"] (toSp K (S_law_value Ac)) :=
  fn_z F sc_law_value (S_law_value Ac) (fun ds M kk h => by unfold S_law_value at h; first | (obtain ⟨_, rfl, _⟩ := h; rfl) | (obtain ⟨_, _, rfl, _⟩ := h; rfl) | (obtain ⟨_, _, _, rfl, _⟩ := h; rfl) | (obtain ⟨_, _, _, _, rfl, _⟩ := h; rfl) | (obtain ⟨_, _, _, _, _, rfl, _⟩ := h; rfl) | (obtain ⟨_, _, _, _, _, _, rfl, _⟩ := h; rfl) | (obtain ⟨_, _, _, _, _, _, _, rfl, _⟩ := h; rfl) | (obtain ⟨_, _, _, _, _, _, _, _, rfl, _⟩ := h; rfl) | (obtain ⟨_, _, _, _, _, _, _, _, _, rfl, _⟩ := h; rfl) | (obtain ⟨_, _, _, _, _, _, _, _, _, _, rfl, _⟩ := h; rfl) | (obtain ⟨_, _, _, _, _, _, _, _, _, _, _, rfl, _⟩ := h; rfl) | (obtain ⟨_, _, _, _, _, _, _, _, _, _, _, _, rfl, _⟩ := h; rfl) | (obtain ⟨_, _, _, _, _, _, _, _, _, _, _, _, _, rfl, _⟩ := h; rfl) | (obtain ⟨_, _, _, _, _, _, _, _, _, _, _, _, _, _, rfl, _⟩ := h; rfl) | (obtain ⟨_, _, _, _, _, _, _, _, _, _, _, _, _, _, _, rfl, _⟩ := h; rfl)) (t_law_value K Ac) (fun cdv A outer s H E hr => red_law_value T f cdv A outer s H E hr) (fun ds M kk h => z_law_value T h)
theorem fn_law_value {Ac : Cs} (T : Txt Ac K mg) {f : Addr} {fd : FuncData} (F : FunD K "_law_value" "_law_value" (defArgs s_law_value) (defBody s_law_value) (defScope s_law_value) [] [] f fd) (hm : mg "_law_value" = some (.ref f)) : FnZ P w K mg base "_law_value" 1 (S_law_value Ac) := fnz_of F (fo_law_value T F) hm (F.bindsN fun _ _ _ _ _ _ us hl => match us, hl with | [_, _], _ => rfl)
theorem fo_law_edge_seen {Ac : Cs} (T : Txt Ac K mg) {f : Addr} {fd : FuncData} (F : FunD K "_law_edge_seen" "_law_edge_seen" (defArgs s_law_edge_seen) (defBody s_law_edge_seen) (defScope s_law_edge_seen) [] [] f fd) : FnOk P w K mg base CX0 1 f fd ["_law_edge"] (toSp K (S_law_edge_seen Ac)) :=
  fn_z F sc_law_edge_seen (S_law_edge_seen Ac) (fun ds M kk h => by unfold S_law_edge_seen at h; first | (obtain ⟨_, rfl, _⟩ := h; rfl) | (obtain ⟨_, _, rfl, _⟩ := h; rfl) | (obtain ⟨_, _, _, rfl, _⟩ := h; rfl) | (obtain ⟨_, _, _, _, rfl, _⟩ := h; rfl) | (obtain ⟨_, _, _, _, _, rfl, _⟩ := h; rfl) | (obtain ⟨_, _, _, _, _, _, rfl, _⟩ := h; rfl) | (obtain ⟨_, _, _, _, _, _, _, rfl, _⟩ := h; rfl) | (obtain ⟨_, _, _, _, _, _, _, _, rfl, _⟩ := h; rfl) | (obtain ⟨_, _, _, _, _, _, _, _, _, rfl, _⟩ := h; rfl) | (obtain ⟨_, _, _, _, _, _, _, _, _, _, rfl, _⟩ := h; rfl) | (obtain ⟨_, _, _, _, _, _, _, _, _, _, _, rfl, _⟩ := h; rfl) | (obtain ⟨_, _, _, _, _, _, _, _, _, _, _, _, rfl, _⟩ := h; rfl) | (obtain ⟨_, _, _, _, _, _, _, _, _, _, _, _, _, rfl, _⟩ := h; rfl) | (obtain ⟨_, _, _, _, _, _, _, _, _, _, _, _, _, _, rfl, _⟩ := h; rfl) | (obtain ⟨_, _, _, _, _, _, _, _, _, _, _, _, _, _, _, rfl, _⟩ := h; rfl)) (t_law_edge_seen K Ac) (fun cdv A outer s H E hr => red_law_edge_seen T f cdv A outer s H E hr) (fun ds M kk h => z_law_edge_seen T h)
theorem fn_law_edge_seen {Ac : Cs} (T : Txt Ac K mg) {f : Addr} {fd : FuncData} (F : FunD K "_law_edge_seen" "_law_edge_seen" (defArgs s_law_edge_seen) (defBody s_law_edge_seen) (defScope s_law_edge_seen) [] [] f fd) (hm : mg "_law_edge_seen" = some (.ref f)) : FnZ P w K mg base "_law_edge_seen" 1 (S_law_edge_seen Ac) := fnz_of F (fo_law_edge_seen T F) hm (F.bindsN fun _ _ _ _ _ _ us hl => match us, hl with | [_], _ => rfl)
theorem fo_law_units {Ac : Cs} (T : Txt Ac K mg) {f : Addr} {fd : FuncData} (F : FunD K "_law_units" "_law_units" (defArgs s_law_units) (defBody s_law_units) (defScope s_law_units) [] [] f fd) : FnOk P w K mg base CX0 1 f fd ["_law_size", "_law_many"] (toSp K (S_law_units Ac)) :=
  fn_z F sc_law_units (S_law_units Ac) (fun ds M kk h => by unfold S_law_units at h; first | (obtain ⟨_, rfl, _⟩ := h; rfl) | (obtain ⟨_, _, rfl, _⟩ := h; rfl) | (obtain ⟨_, _, _, rfl, _⟩ := h; rfl) | (obtain ⟨_, _, _, _, rfl, _⟩ := h; rfl) | (obtain ⟨_, _, _, _, _, rfl, _⟩ := h; rfl) | (obtain ⟨_, _, _, _, _, _, rfl, _⟩ := h; rfl) | (obtain ⟨_, _, _, _, _, _, _, rfl, _⟩ := h; rfl) | (obtain ⟨_, _, _, _, _, _, _, _, rfl, _⟩ := h; rfl) | (obtain ⟨_, _, _, _, _, _, _, _, _, rfl, _⟩ := h; rfl) | (obtain ⟨_, _, _, _, _, _, _, _, _, _, rfl, _⟩ := h; rfl) | (obtain ⟨_, _, _, _, _, _, _, _, _, _, _, rfl, _⟩ := h; rfl) | (obtain ⟨_, _, _, _, _, _, _, _, _, _, _, _, rfl, _⟩ := h; rfl) | (obtain ⟨_, _, _, _, _, _, _, _, _, _, _, _, _, rfl, _⟩ := h; rfl) | (obtain ⟨_, _, _, _, _, _, _, _, _, _, _, _, _, _, rfl, _⟩ := h; rfl) | (obtain ⟨_, _, _, _, _, _, _, _, _, _, _, _, _, _, _, rfl, _⟩ := h; rfl)) (t_law_units K Ac) (fun cdv A outer s H E hr => red_law_units T f cdv A outer s H E hr) (fun ds M kk h => z_law_units T h)
theorem fn_law_units {Ac : Cs} (T : Txt Ac K mg) {f : Addr} {fd : FuncData} (F : FunD K "_law_units" "_law_units" (defArgs s_law_units) (defBody s_law_units) (defScope s_law_units) [] [] f fd) (hm : mg "_law_units" = some (.ref f)) : FnZ P w K mg base "_law_units" 1 (S_law_units Ac) := fnz_of F (fo_law_units T F) hm (F.bindsN fun _ _ _ _ _ _ us hl => match us, hl with | [_, _], _ => rfl)
theorem fo_law_due {Ac : Cs} (T : Txt Ac K mg) {f : Addr} {fd : FuncData} (F : FunD K "_law_due" "_law_due" (defArgs s_law_due) (defBody s_law_due) (defScope s_law_due) [] [] f fd) : FnOk P w K mg base CX0 1 f fd ["_law_aim", "_law_many", "_law_pairs_here", "_law_checks_here", "_law_rows_here", "_law_word_here"] (toSp K (S_law_due Ac)) :=
  fn_z F sc_law_due (S_law_due Ac) (fun ds M kk h => by unfold S_law_due at h; first | (obtain ⟨_, rfl, _⟩ := h; rfl) | (obtain ⟨_, _, rfl, _⟩ := h; rfl) | (obtain ⟨_, _, _, rfl, _⟩ := h; rfl) | (obtain ⟨_, _, _, _, rfl, _⟩ := h; rfl) | (obtain ⟨_, _, _, _, _, rfl, _⟩ := h; rfl) | (obtain ⟨_, _, _, _, _, _, rfl, _⟩ := h; rfl) | (obtain ⟨_, _, _, _, _, _, _, rfl, _⟩ := h; rfl) | (obtain ⟨_, _, _, _, _, _, _, _, rfl, _⟩ := h; rfl) | (obtain ⟨_, _, _, _, _, _, _, _, _, rfl, _⟩ := h; rfl) | (obtain ⟨_, _, _, _, _, _, _, _, _, _, rfl, _⟩ := h; rfl) | (obtain ⟨_, _, _, _, _, _, _, _, _, _, _, rfl, _⟩ := h; rfl) | (obtain ⟨_, _, _, _, _, _, _, _, _, _, _, _, rfl, _⟩ := h; rfl) | (obtain ⟨_, _, _, _, _, _, _, _, _, _, _, _, _, rfl, _⟩ := h; rfl) | (obtain ⟨_, _, _, _, _, _, _, _, _, _, _, _, _, _, rfl, _⟩ := h; rfl) | (obtain ⟨_, _, _, _, _, _, _, _, _, _, _, _, _, _, _, rfl, _⟩ := h; rfl)) (t_law_due K Ac) (fun cdv A outer s H E hr => red_law_due T f cdv A outer s H E hr) (fun ds M kk h => z_law_due T h)
theorem fn_law_due {Ac : Cs} (T : Txt Ac K mg) {f : Addr} {fd : FuncData} (F : FunD K "_law_due" "_law_due" (defArgs s_law_due) (defBody s_law_due) (defScope s_law_due) [] [] f fd) (hm : mg "_law_due" = some (.ref f)) : FnZ P w K mg base "_law_due" 1 (S_law_due Ac) := fnz_of F (fo_law_due T F) hm (F.bindsN fun _ _ _ _ _ _ us hl => match us, hl with | [_, _, _, _, _, _], _ => rfl)
theorem fo_Edge_guards_hold {Ac : Cs} (T : Txt Ac K mg) (G_affine_value : FnZ P w K mg base "affine_value" 1 (S_affine_value Ac)) {f : Addr} {fd : FuncData} (F : FunD K "guards_hold" "Edge.guards_hold" (defArgs s_Edge_guards_hold) (defBody s_Edge_guards_hold) (defScope s_Edge_guards_hold) [] [] f fd) : FnOk P w K mg base CX0 2 f fd ["self", "values"] (toSp K (S_Edge_guards_hold Ac)) :=
  fn_z F sc_Edge_guards_hold (S_Edge_guards_hold Ac) (fun ds M kk h => by unfold S_Edge_guards_hold at h; first | (obtain ⟨_, rfl, _⟩ := h; rfl) | (obtain ⟨_, _, rfl, _⟩ := h; rfl) | (obtain ⟨_, _, _, rfl, _⟩ := h; rfl) | (obtain ⟨_, _, _, _, rfl, _⟩ := h; rfl) | (obtain ⟨_, _, _, _, _, rfl, _⟩ := h; rfl) | (obtain ⟨_, _, _, _, _, _, rfl, _⟩ := h; rfl) | (obtain ⟨_, _, _, _, _, _, _, rfl, _⟩ := h; rfl) | (obtain ⟨_, _, _, _, _, _, _, _, rfl, _⟩ := h; rfl) | (obtain ⟨_, _, _, _, _, _, _, _, _, rfl, _⟩ := h; rfl) | (obtain ⟨_, _, _, _, _, _, _, _, _, _, rfl, _⟩ := h; rfl) | (obtain ⟨_, _, _, _, _, _, _, _, _, _, _, rfl, _⟩ := h; rfl) | (obtain ⟨_, _, _, _, _, _, _, _, _, _, _, _, rfl, _⟩ := h; rfl) | (obtain ⟨_, _, _, _, _, _, _, _, _, _, _, _, _, rfl, _⟩ := h; rfl) | (obtain ⟨_, _, _, _, _, _, _, _, _, _, _, _, _, _, rfl, _⟩ := h; rfl) | (obtain ⟨_, _, _, _, _, _, _, _, _, _, _, _, _, _, _, rfl, _⟩ := h; rfl)) (t_Edge_guards_hold K Ac (S_affine_value Ac)) (fun cdv A outer s H E hr => red_Edge_guards_hold T (S_affine_value Ac) G_affine_value f cdv A outer s H E hr) (fun ds M kk h => z_Edge_guards_hold T h)
theorem fn_Edge_guards_hold {Ac : Cs} (T : Txt Ac K mg) (G_affine_value : FnZ P w K mg base "affine_value" 1 (S_affine_value Ac)) {f : Addr} {fd : FuncData} (F : FunD K "guards_hold" "Edge.guards_hold" (defArgs s_Edge_guards_hold) (defBody s_Edge_guards_hold) (defScope s_Edge_guards_hold) [] [] f fd) (cl : Cls K Ac.c_Edge) (hm : Meth K Ac.c_Edge "guards_hold" f) : MtZ P w K mg base Ac.c_Edge "guards_hold" 2 (S_Edge_guards_hold Ac) := mtz_of cl hm (fo_Edge_guards_hold T G_affine_value F) (F.bindsN fun _ _ _ _ _ _ us hl => match us, hl with | [_, _], _ => rfl)
theorem fo_Edge_source_state {Ac : Cs} (T : Txt Ac K mg) (G_affine_value : FnZ P w K mg base "affine_value" 1 (S_affine_value Ac)) {f : Addr} {fd : FuncData} (F : FunD K "source_state" "Edge.source_state" (defArgs s_Edge_source_state) (defBody s_Edge_source_state) (defScope s_Edge_source_state) [] [] f fd) : FnOk P w K mg base CX0 2 f fd ["self", "position", "values"] (toSp K (S_Edge_source_state Ac)) :=
  fn_z F sc_Edge_source_state (S_Edge_source_state Ac) (fun ds M kk h => by unfold S_Edge_source_state at h; first | (obtain ⟨_, rfl, _⟩ := h; rfl) | (obtain ⟨_, _, rfl, _⟩ := h; rfl) | (obtain ⟨_, _, _, rfl, _⟩ := h; rfl) | (obtain ⟨_, _, _, _, rfl, _⟩ := h; rfl) | (obtain ⟨_, _, _, _, _, rfl, _⟩ := h; rfl) | (obtain ⟨_, _, _, _, _, _, rfl, _⟩ := h; rfl) | (obtain ⟨_, _, _, _, _, _, _, rfl, _⟩ := h; rfl) | (obtain ⟨_, _, _, _, _, _, _, _, rfl, _⟩ := h; rfl) | (obtain ⟨_, _, _, _, _, _, _, _, _, rfl, _⟩ := h; rfl) | (obtain ⟨_, _, _, _, _, _, _, _, _, _, rfl, _⟩ := h; rfl) | (obtain ⟨_, _, _, _, _, _, _, _, _, _, _, rfl, _⟩ := h; rfl) | (obtain ⟨_, _, _, _, _, _, _, _, _, _, _, _, rfl, _⟩ := h; rfl) | (obtain ⟨_, _, _, _, _, _, _, _, _, _, _, _, _, rfl, _⟩ := h; rfl) | (obtain ⟨_, _, _, _, _, _, _, _, _, _, _, _, _, _, rfl, _⟩ := h; rfl) | (obtain ⟨_, _, _, _, _, _, _, _, _, _, _, _, _, _, _, rfl, _⟩ := h; rfl)) (t_Edge_source_state K Ac (S_affine_value Ac)) (fun cdv A outer s H E hr => red_Edge_source_state T (S_affine_value Ac) G_affine_value f cdv A outer s H E hr) (fun ds M kk h => z_Edge_source_state T h)
theorem fn_Edge_source_state {Ac : Cs} (T : Txt Ac K mg) (G_affine_value : FnZ P w K mg base "affine_value" 1 (S_affine_value Ac)) {f : Addr} {fd : FuncData} (F : FunD K "source_state" "Edge.source_state" (defArgs s_Edge_source_state) (defBody s_Edge_source_state) (defScope s_Edge_source_state) [] [] f fd) (cl : Cls K Ac.c_Edge) (hm : Meth K Ac.c_Edge "source_state" f) : MtZ P w K mg base Ac.c_Edge "source_state" 2 (S_Edge_source_state Ac) := mtz_of cl hm (fo_Edge_source_state T G_affine_value F) (F.bindsN fun _ _ _ _ _ _ us hl => match us, hl with | [_, _, _], _ => rfl)
theorem fo_Edge_target_state {Ac : Cs} (T : Txt Ac K mg) (G_affine_value : FnZ P w K mg base "affine_value" 1 (S_affine_value Ac)) {f : Addr} {fd : FuncData} (F : FunD K "target_state" "Edge.target_state" (defArgs s_Edge_target_state) (defBody s_Edge_target_state) (defScope s_Edge_target_state) [] [] f fd) : FnOk P w K mg base CX0 2 f fd ["self", "values"] (toSp K (S_Edge_target_state Ac)) :=
  fn_z F sc_Edge_target_state (S_Edge_target_state Ac) (fun ds M kk h => by unfold S_Edge_target_state at h; first | (obtain ⟨_, rfl, _⟩ := h; rfl) | (obtain ⟨_, _, rfl, _⟩ := h; rfl) | (obtain ⟨_, _, _, rfl, _⟩ := h; rfl) | (obtain ⟨_, _, _, _, rfl, _⟩ := h; rfl) | (obtain ⟨_, _, _, _, _, rfl, _⟩ := h; rfl) | (obtain ⟨_, _, _, _, _, _, rfl, _⟩ := h; rfl) | (obtain ⟨_, _, _, _, _, _, _, rfl, _⟩ := h; rfl) | (obtain ⟨_, _, _, _, _, _, _, _, rfl, _⟩ := h; rfl) | (obtain ⟨_, _, _, _, _, _, _, _, _, rfl, _⟩ := h; rfl) | (obtain ⟨_, _, _, _, _, _, _, _, _, _, rfl, _⟩ := h; rfl) | (obtain ⟨_, _, _, _, _, _, _, _, _, _, _, rfl, _⟩ := h; rfl) | (obtain ⟨_, _, _, _, _, _, _, _, _, _, _, _, rfl, _⟩ := h; rfl) | (obtain ⟨_, _, _, _, _, _, _, _, _, _, _, _, _, rfl, _⟩ := h; rfl) | (obtain ⟨_, _, _, _, _, _, _, _, _, _, _, _, _, _, rfl, _⟩ := h; rfl) | (obtain ⟨_, _, _, _, _, _, _, _, _, _, _, _, _, _, _, rfl, _⟩ := h; rfl)) (t_Edge_target_state K Ac (S_affine_value Ac)) (fun cdv A outer s H E hr => red_Edge_target_state T (S_affine_value Ac) G_affine_value f cdv A outer s H E hr) (fun ds M kk h => z_Edge_target_state T h)
theorem fn_Edge_target_state {Ac : Cs} (T : Txt Ac K mg) (G_affine_value : FnZ P w K mg base "affine_value" 1 (S_affine_value Ac)) {f : Addr} {fd : FuncData} (F : FunD K "target_state" "Edge.target_state" (defArgs s_Edge_target_state) (defBody s_Edge_target_state) (defScope s_Edge_target_state) [] [] f fd) (cl : Cls K Ac.c_Edge) (hm : Meth K Ac.c_Edge "target_state" f) : MtZ P w K mg base Ac.c_Edge "target_state" 2 (S_Edge_target_state Ac) := mtz_of cl hm (fo_Edge_target_state T G_affine_value F) (F.bindsN fun _ _ _ _ _ _ us hl => match us, hl with | [_, _], _ => rfl)
theorem fo_law_coefficient {Ac : Cs} (T : Txt Ac K mg) (G_law_draw : FnZ P w K mg base "_law_draw" 1 (S_law_draw Ac)) {f : Addr} {fd : FuncData} (F : FunD K "_law_coefficient" "_law_coefficient" (defArgs s_law_coefficient) (defBody s_law_coefficient) (defScope s_law_coefficient) [] [] f fd) : FnOk P w K mg base CX0 2 f fd ["_law_purse_here"] (toSp K (S_law_coefficient Ac)) :=
  fn_z F sc_law_coefficient (S_law_coefficient Ac) (fun ds M kk h => by unfold S_law_coefficient at h; first | (obtain ⟨_, rfl, _⟩ := h; rfl) | (obtain ⟨_, _, rfl, _⟩ := h; rfl) | (obtain ⟨_, _, _, rfl, _⟩ := h; rfl) | (obtain ⟨_, _, _, _, rfl, _⟩ := h; rfl) | (obtain ⟨_, _, _, _, _, rfl, _⟩ := h; rfl) | (obtain ⟨_, _, _, _, _, _, rfl, _⟩ := h; rfl) | (obtain ⟨_, _, _, _, _, _, _, rfl, _⟩ := h; rfl) | (obtain ⟨_, _, _, _, _, _, _, _, rfl, _⟩ := h; rfl) | (obtain ⟨_, _, _, _, _, _, _, _, _, rfl, _⟩ := h; rfl) | (obtain ⟨_, _, _, _, _, _, _, _, _, _, rfl, _⟩ := h; rfl) | (obtain ⟨_, _, _, _, _, _, _, _, _, _, _, rfl, _⟩ := h; rfl) | (obtain ⟨_, _, _, _, _, _, _, _, _, _, _, _, rfl, _⟩ := h; rfl) | (obtain ⟨_, _, _, _, _, _, _, _, _, _, _, _, _, rfl, _⟩ := h; rfl) | (obtain ⟨_, _, _, _, _, _, _, _, _, _, _, _, _, _, rfl, _⟩ := h; rfl) | (obtain ⟨_, _, _, _, _, _, _, _, _, _, _, _, _, _, _, rfl, _⟩ := h; rfl)) (t_law_coefficient K Ac (S_law_draw Ac)) (fun cdv A outer s H E hr => red_law_coefficient T (S_law_draw Ac) G_law_draw f cdv A outer s H E hr) (fun ds M kk h => z_law_coefficient T h)
theorem fn_law_coefficient {Ac : Cs} (T : Txt Ac K mg) (G_law_draw : FnZ P w K mg base "_law_draw" 1 (S_law_draw Ac)) {f : Addr} {fd : FuncData} (F : FunD K "_law_coefficient" "_law_coefficient" (defArgs s_law_coefficient) (defBody s_law_coefficient) (defScope s_law_coefficient) [] [] f fd) (hm : mg "_law_coefficient" = some (.ref f)) : FnZ P w K mg base "_law_coefficient" 2 (S_law_coefficient Ac) := fnz_of F (fo_law_coefficient T G_law_draw F) hm (F.bindsN fun _ _ _ _ _ _ us hl => match us, hl with | [_], _ => rfl)
theorem fo_law_constant {Ac : Cs} (T : Txt Ac K mg) (G_law_draw : FnZ P w K mg base "_law_draw" 1 (S_law_draw Ac)) {f : Addr} {fd : FuncData} (F : FunD K "_law_constant" "_law_constant" (defArgs s_law_constant) (defBody s_law_constant) (defScope s_law_constant) [] [] f fd) : FnOk P w K mg base CX0 2 f fd ["_law_purse_here"] (toSp K (S_law_constant Ac)) :=
  fn_z F sc_law_constant (S_law_constant Ac) (fun ds M kk h => by unfold S_law_constant at h; first | (obtain ⟨_, rfl, _⟩ := h; rfl) | (obtain ⟨_, _, rfl, _⟩ := h; rfl) | (obtain ⟨_, _, _, rfl, _⟩ := h; rfl) | (obtain ⟨_, _, _, _, rfl, _⟩ := h; rfl) | (obtain ⟨_, _, _, _, _, rfl, _⟩ := h; rfl) | (obtain ⟨_, _, _, _, _, _, rfl, _⟩ := h; rfl) | (obtain ⟨_, _, _, _, _, _, _, rfl, _⟩ := h; rfl) | (obtain ⟨_, _, _, _, _, _, _, _, rfl, _⟩ := h; rfl) | (obtain ⟨_, _, _, _, _, _, _, _, _, rfl, _⟩ := h; rfl) | (obtain ⟨_, _, _, _, _, _, _, _, _, _, rfl, _⟩ := h; rfl) | (obtain ⟨_, _, _, _, _, _, _, _, _, _, _, rfl, _⟩ := h; rfl) | (obtain ⟨_, _, _, _, _, _, _, _, _, _, _, _, rfl, _⟩ := h; rfl) | (obtain ⟨_, _, _, _, _, _, _, _, _, _, _, _, _, rfl, _⟩ := h; rfl) | (obtain ⟨_, _, _, _, _, _, _, _, _, _, _, _, _, _, rfl, _⟩ := h; rfl) | (obtain ⟨_, _, _, _, _, _, _, _, _, _, _, _, _, _, _, rfl, _⟩ := h; rfl)) (t_law_constant K Ac (S_law_draw Ac)) (fun cdv A outer s H E hr => red_law_constant T (S_law_draw Ac) G_law_draw f cdv A outer s H E hr) (fun ds M kk h => z_law_constant T h)
theorem fn_law_constant {Ac : Cs} (T : Txt Ac K mg) (G_law_draw : FnZ P w K mg base "_law_draw" 1 (S_law_draw Ac)) {f : Addr} {fd : FuncData} (F : FunD K "_law_constant" "_law_constant" (defArgs s_law_constant) (defBody s_law_constant) (defScope s_law_constant) [] [] f fd) (hm : mg "_law_constant" = some (.ref f)) : FnZ P w K mg base "_law_constant" 2 (S_law_constant Ac) := fnz_of F (fo_law_constant T G_law_draw F) hm (F.bindsN fun _ _ _ _ _ _ us hl => match us, hl with | [_], _ => rfl)
theorem fo_law_near {Ac : Cs} (T : Txt Ac K mg) (G_law_draw : FnZ P w K mg base "_law_draw" 1 (S_law_draw Ac)) {f : Addr} {fd : FuncData} (F : FunD K "_law_near" "_law_near" (defArgs s_law_near) (defBody s_law_near) (defScope s_law_near) [] [] f fd) : FnOk P w K mg base CX0 2 f fd ["_law_purse_here", "_law_many"] (toSp K (S_law_near Ac)) :=
  fn_z F sc_law_near (S_law_near Ac) (fun ds M kk h => by unfold S_law_near at h; first | (obtain ⟨_, rfl, _⟩ := h; rfl) | (obtain ⟨_, _, rfl, _⟩ := h; rfl) | (obtain ⟨_, _, _, rfl, _⟩ := h; rfl) | (obtain ⟨_, _, _, _, rfl, _⟩ := h; rfl) | (obtain ⟨_, _, _, _, _, rfl, _⟩ := h; rfl) | (obtain ⟨_, _, _, _, _, _, rfl, _⟩ := h; rfl) | (obtain ⟨_, _, _, _, _, _, _, rfl, _⟩ := h; rfl) | (obtain ⟨_, _, _, _, _, _, _, _, rfl, _⟩ := h; rfl) | (obtain ⟨_, _, _, _, _, _, _, _, _, rfl, _⟩ := h; rfl) | (obtain ⟨_, _, _, _, _, _, _, _, _, _, rfl, _⟩ := h; rfl) | (obtain ⟨_, _, _, _, _, _, _, _, _, _, _, rfl, _⟩ := h; rfl) | (obtain ⟨_, _, _, _, _, _, _, _, _, _, _, _, rfl, _⟩ := h; rfl) | (obtain ⟨_, _, _, _, _, _, _, _, _, _, _, _, _, rfl, _⟩ := h; rfl) | (obtain ⟨_, _, _, _, _, _, _, _, _, _, _, _, _, _, rfl, _⟩ := h; rfl) | (obtain ⟨_, _, _, _, _, _, _, _, _, _, _, _, _, _, _, rfl, _⟩ := h; rfl)) (t_law_near K Ac (S_law_draw Ac)) (fun cdv A outer s H E hr => red_law_near T (S_law_draw Ac) G_law_draw f cdv A outer s H E hr) (fun ds M kk h => z_law_near T h)
theorem fn_law_near {Ac : Cs} (T : Txt Ac K mg) (G_law_draw : FnZ P w K mg base "_law_draw" 1 (S_law_draw Ac)) {f : Addr} {fd : FuncData} (F : FunD K "_law_near" "_law_near" (defArgs s_law_near) (defBody s_law_near) (defScope s_law_near) [] [] f fd) (hm : mg "_law_near" = some (.ref f)) : FnZ P w K mg base "_law_near" 2 (S_law_near Ac) := fnz_of F (fo_law_near T G_law_draw F) hm (F.bindsN fun _ _ _ _ _ _ us hl => match us, hl with | [_, _], _ => rfl)
theorem fo_law_far {Ac : Cs} (T : Txt Ac K mg) (G_law_draw : FnZ P w K mg base "_law_draw" 1 (S_law_draw Ac)) {f : Addr} {fd : FuncData} (F : FunD K "_law_far" "_law_far" (defArgs s_law_far) (defBody s_law_far) (defScope s_law_far) [] [] f fd) : FnOk P w K mg base CX0 2 f fd ["_law_purse_here", "_law_many"] (toSp K (S_law_far Ac)) :=
  fn_z F sc_law_far (S_law_far Ac) (fun ds M kk h => by unfold S_law_far at h; first | (obtain ⟨_, rfl, _⟩ := h; rfl) | (obtain ⟨_, _, rfl, _⟩ := h; rfl) | (obtain ⟨_, _, _, rfl, _⟩ := h; rfl) | (obtain ⟨_, _, _, _, rfl, _⟩ := h; rfl) | (obtain ⟨_, _, _, _, _, rfl, _⟩ := h; rfl) | (obtain ⟨_, _, _, _, _, _, rfl, _⟩ := h; rfl) | (obtain ⟨_, _, _, _, _, _, _, rfl, _⟩ := h; rfl) | (obtain ⟨_, _, _, _, _, _, _, _, rfl, _⟩ := h; rfl) | (obtain ⟨_, _, _, _, _, _, _, _, _, rfl, _⟩ := h; rfl) | (obtain ⟨_, _, _, _, _, _, _, _, _, _, rfl, _⟩ := h; rfl) | (obtain ⟨_, _, _, _, _, _, _, _, _, _, _, rfl, _⟩ := h; rfl) | (obtain ⟨_, _, _, _, _, _, _, _, _, _, _, _, rfl, _⟩ := h; rfl) | (obtain ⟨_, _, _, _, _, _, _, _, _, _, _, _, _, rfl, _⟩ := h; rfl) | (obtain ⟨_, _, _, _, _, _, _, _, _, _, _, _, _, _, rfl, _⟩ := h; rfl) | (obtain ⟨_, _, _, _, _, _, _, _, _, _, _, _, _, _, _, rfl, _⟩ := h; rfl)) (t_law_far K Ac (S_law_draw Ac)) (fun cdv A outer s H E hr => red_law_far T (S_law_draw Ac) G_law_draw f cdv A outer s H E hr) (fun ds M kk h => z_law_far T h)
theorem fn_law_far {Ac : Cs} (T : Txt Ac K mg) (G_law_draw : FnZ P w K mg base "_law_draw" 1 (S_law_draw Ac)) {f : Addr} {fd : FuncData} (F : FunD K "_law_far" "_law_far" (defArgs s_law_far) (defBody s_law_far) (defScope s_law_far) [] [] f fd) (hm : mg "_law_far" = some (.ref f)) : FnZ P w K mg base "_law_far" 2 (S_law_far Ac) := fnz_of F (fo_law_far T G_law_draw F) hm (F.bindsN fun _ _ _ _ _ _ us hl => match us, hl with | [_, _], _ => rfl)
theorem fo_law_word {Ac : Cs} (T : Txt Ac K mg) (G_law_draw : FnZ P w K mg base "_law_draw" 1 (S_law_draw Ac)) {f : Addr} {fd : FuncData} (F : FunD K "_law_word" "_law_word" (defArgs s_law_word) (defBody s_law_word) (defScope s_law_word) [] [] f fd) : FnOk P w K mg base CX0 2 f fd ["_law_purse_here"] (toSp K (S_law_word Ac)) :=
  fn_z F sc_law_word (S_law_word Ac) (fun ds M kk h => by unfold S_law_word at h; first | (obtain ⟨_, rfl, _⟩ := h; rfl) | (obtain ⟨_, _, rfl, _⟩ := h; rfl) | (obtain ⟨_, _, _, rfl, _⟩ := h; rfl) | (obtain ⟨_, _, _, _, rfl, _⟩ := h; rfl) | (obtain ⟨_, _, _, _, _, rfl, _⟩ := h; rfl) | (obtain ⟨_, _, _, _, _, _, rfl, _⟩ := h; rfl) | (obtain ⟨_, _, _, _, _, _, _, rfl, _⟩ := h; rfl) | (obtain ⟨_, _, _, _, _, _, _, _, rfl, _⟩ := h; rfl) | (obtain ⟨_, _, _, _, _, _, _, _, _, rfl, _⟩ := h; rfl) | (obtain ⟨_, _, _, _, _, _, _, _, _, _, rfl, _⟩ := h; rfl) | (obtain ⟨_, _, _, _, _, _, _, _, _, _, _, rfl, _⟩ := h; rfl) | (obtain ⟨_, _, _, _, _, _, _, _, _, _, _, _, rfl, _⟩ := h; rfl) | (obtain ⟨_, _, _, _, _, _, _, _, _, _, _, _, _, rfl, _⟩ := h; rfl) | (obtain ⟨_, _, _, _, _, _, _, _, _, _, _, _, _, _, rfl, _⟩ := h; rfl) | (obtain ⟨_, _, _, _, _, _, _, _, _, _, _, _, _, _, _, rfl, _⟩ := h; rfl)) (t_law_word K Ac (S_law_draw Ac)) (fun cdv A outer s H E hr => red_law_word T (S_law_draw Ac) G_law_draw f cdv A outer s H E hr) (fun ds M kk h => z_law_word T h)
theorem fn_law_word {Ac : Cs} (T : Txt Ac K mg) (G_law_draw : FnZ P w K mg base "_law_draw" 1 (S_law_draw Ac)) {f : Addr} {fd : FuncData} (F : FunD K "_law_word" "_law_word" (defArgs s_law_word) (defBody s_law_word) (defScope s_law_word) [] [] f fd) (hm : mg "_law_word" = some (.ref f)) : FnZ P w K mg base "_law_word" 2 (S_law_word Ac) := fnz_of F (fo_law_word T G_law_draw F) hm (F.bindsN fun _ _ _ _ _ _ us hl => match us, hl with | [_], _ => rfl)
theorem fo_Edge_plain {Ac : Cs} (T : Txt Ac K mg) (G_unit_row : FnZ P w K mg base "unit_row" 1 (S_unit_row Ac)) (G_Edge_init_2_sources_guards_effect_label : MkKZ P w K mg base "Edge" Ac.c_Edge 1 2 ["sources", "guards", "effect", "label"] (fun vs zs => vs ++ ((zs.drop 0).take 1 ++ ((zs.drop 1).take 1 ++ ((zs.drop 2).take 1 ++ ((zs.drop 3).take 1 ++ []))))) (S_Edge_init Ac)) {f : Addr} {fd : FuncData} (F : FunD K "plain" "Edge.plain" (defArgs s_Edge_plain) (defBody s_Edge_plain) (defScope s_Edge_plain) [] [("fresh", (V.int 0)), ("guards", Ac.d_Edge_plain_guards), ("effect", V.non), ("label", (V.str "plain"))] f fd) : FnOk P w K mg base CX0 3 f fd ["cls", "source", "target", "size", "fresh", "guards", "effect", "label"] (toSp K (S_Edge_plain Ac)) :=
  fn_z F sc_Edge_plain (S_Edge_plain Ac) (fun ds M kk h => by unfold S_Edge_plain at h; first | (obtain ⟨_, rfl, _⟩ := h; rfl) | (obtain ⟨_, _, rfl, _⟩ := h; rfl) | (obtain ⟨_, _, _, rfl, _⟩ := h; rfl) | (obtain ⟨_, _, _, _, rfl, _⟩ := h; rfl) | (obtain ⟨_, _, _, _, _, rfl, _⟩ := h; rfl) | (obtain ⟨_, _, _, _, _, _, rfl, _⟩ := h; rfl) | (obtain ⟨_, _, _, _, _, _, _, rfl, _⟩ := h; rfl) | (obtain ⟨_, _, _, _, _, _, _, _, rfl, _⟩ := h; rfl) | (obtain ⟨_, _, _, _, _, _, _, _, _, rfl, _⟩ := h; rfl) | (obtain ⟨_, _, _, _, _, _, _, _, _, _, rfl, _⟩ := h; rfl) | (obtain ⟨_, _, _, _, _, _, _, _, _, _, _, rfl, _⟩ := h; rfl) | (obtain ⟨_, _, _, _, _, _, _, _, _, _, _, _, rfl, _⟩ := h; rfl) | (obtain ⟨_, _, _, _, _, _, _, _, _, _, _, _, _, rfl, _⟩ := h; rfl) | (obtain ⟨_, _, _, _, _, _, _, _, _, _, _, _, _, _, rfl, _⟩ := h; rfl) | (obtain ⟨_, _, _, _, _, _, _, _, _, _, _, _, _, _, _, rfl, _⟩ := h; rfl)) (t_Edge_plain K Ac (S_unit_row Ac) (S_Edge_init Ac)) (fun cdv A outer s H E hr => red_Edge_plain T (S_unit_row Ac) (S_Edge_init Ac) G_unit_row G_Edge_init_2_sources_guards_effect_label f cdv A outer s H E hr) (fun ds M kk h => z_Edge_plain T h)
theorem fn_Edge_plain_3 {Ac : Cs} (T : Txt Ac K mg) (G_unit_row : FnZ P w K mg base "unit_row" 1 (S_unit_row Ac)) (G_Edge_init_2_sources_guards_effect_label : MkKZ P w K mg base "Edge" Ac.c_Edge 1 2 ["sources", "guards", "effect", "label"] (fun vs zs => vs ++ ((zs.drop 0).take 1 ++ ((zs.drop 1).take 1 ++ ((zs.drop 2).take 1 ++ ((zs.drop 3).take 1 ++ []))))) (S_Edge_init Ac)) {fd : FuncData} (F : FunD K "plain" "Edge.plain" (defArgs s_Edge_plain) (defBody s_Edge_plain) (defScope s_Edge_plain) [] [("fresh", (V.int 0)), ("guards", Ac.d_Edge_plain_guards), ("effect", V.non), ("label", (V.str "plain"))] (He5.wf K Ac.c_Edge "classmethod" "plain") fd) (cb : cmB K Ac.c_Edge "plain" = true) : CmKZ P w K mg base Ac.c_Edge "plain" 3 3 [] (fun vs zs => vs ++ ([(V.int 0)] ++ ([Ac.d_Edge_plain_guards] ++ ([V.non] ++ ([(V.str "plain")] ++ []))))) (S_Edge_plain Ac) := by
  obtain ⟨mv, kb⟩ := F.kbinds0 (ps := ["cls", "source", "target", "size", "fresh", "guards", "effect", "label"]) 4 [] [("fresh", (V.int 0)), ("guards", Ac.d_Edge_plain_guards), ("effect", V.non), ("label", (V.str "plain"))] (fun us mv ws => us ++ ((mv.drop 0).take 1 ++ ((mv.drop 1).take 1 ++ ((mv.drop 2).take 1 ++ ((mv.drop 3).take 1 ++ []))))) (by simp) (by intro q hq; simp only [List.mem_cons, List.not_mem_nil, or_false] at hq ⊢; rcases hq with rfl | rfl | rfl | rfl <;> simp) (fun r1 r2 r3 => r1.append (((r2.drop 0).take 1).append (((r2.drop 1).take 1).append (((r2.drop 2).take 1).append (((r2.drop 3).take 1).append .nil)))))
    (fun D doc pm an cdv ct us mv ws h1 h2 h3 => match us, mv, ws, h1, h2, h3 with | [_, _, _, _], [_, _, _, _], [], _, _, _ => ⟨_, _, _, _, _, _, rfl, rfl, ⟨_, _, _, _, _, _, rfl, rfl, ⟨_, _, _, _, _, _, rfl, rfl, ⟨_, _, _, _, _, _, rfl, rfl, by first | rfl | kernel_rfl⟩⟩⟩⟩)
  exact cmkz_of cb (fo_Edge_plain T G_unit_row G_Edge_init_2_sources_guards_effect_label F) kb fun v vs zs h1 h2 => rfl
theorem fn_Edge_plain_3_fresh_guards_effect_label {Ac : Cs} (T : Txt Ac K mg) (G_unit_row : FnZ P w K mg base "unit_row" 1 (S_unit_row Ac)) (G_Edge_init_2_sources_guards_effect_label : MkKZ P w K mg base "Edge" Ac.c_Edge 1 2 ["sources", "guards", "effect", "label"] (fun vs zs => vs ++ ((zs.drop 0).take 1 ++ ((zs.drop 1).take 1 ++ ((zs.drop 2).take 1 ++ ((zs.drop 3).take 1 ++ []))))) (S_Edge_init Ac)) {fd : FuncData} (F : FunD K "plain" "Edge.plain" (defArgs s_Edge_plain) (defBody s_Edge_plain) (defScope s_Edge_plain) [] [("fresh", (V.int 0)), ("guards", Ac.d_Edge_plain_guards), ("effect", V.non), ("label", (V.str "plain"))] (He5.wf K Ac.c_Edge "classmethod" "plain") fd) (cb : cmB K Ac.c_Edge "plain" = true) : CmKZ P w K mg base Ac.c_Edge "plain" 3 3 ["fresh", "guards", "effect", "label"] (fun vs zs => vs ++ ((zs.drop 0).take 1 ++ ((zs.drop 1).take 1 ++ ((zs.drop 2).take 1 ++ ((zs.drop 3).take 1 ++ []))))) (S_Edge_plain Ac) := by
  obtain ⟨mv, kb⟩ := F.kbinds0 (ps := ["cls", "source", "target", "size", "fresh", "guards", "effect", "label"]) 4 ["fresh", "guards", "effect", "label"] [] (fun us mv ws => us ++ ((ws.drop 0).take 1 ++ ((ws.drop 1).take 1 ++ ((ws.drop 2).take 1 ++ ((ws.drop 3).take 1 ++ []))))) (by simp) (by intro q hq; cases hq) (fun r1 r2 r3 => r1.append (((r3.drop 0).take 1).append (((r3.drop 1).take 1).append (((r3.drop 2).take 1).append (((r3.drop 3).take 1).append .nil)))))
    (fun D doc pm an cdv ct us mv ws h1 h2 h3 => match us, mv, ws, h1, h2, h3 with | [_, _, _, _], [], [_, _, _, _], _, _, _ => by first | rfl | kernel_rfl)
  exact cmkz_of cb (fo_Edge_plain T G_unit_row G_Edge_init_2_sources_guards_effect_label F) kb fun v vs zs h1 h2 => rfl
theorem fn_Edge_plain_3_label_effect_guards_fresh {Ac : Cs} (T : Txt Ac K mg) (G_unit_row : FnZ P w K mg base "unit_row" 1 (S_unit_row Ac)) (G_Edge_init_2_sources_guards_effect_label : MkKZ P w K mg base "Edge" Ac.c_Edge 1 2 ["sources", "guards", "effect", "label"] (fun vs zs => vs ++ ((zs.drop 0).take 1 ++ ((zs.drop 1).take 1 ++ ((zs.drop 2).take 1 ++ ((zs.drop 3).take 1 ++ []))))) (S_Edge_init Ac)) {fd : FuncData} (F : FunD K "plain" "Edge.plain" (defArgs s_Edge_plain) (defBody s_Edge_plain) (defScope s_Edge_plain) [] [("fresh", (V.int 0)), ("guards", Ac.d_Edge_plain_guards), ("effect", V.non), ("label", (V.str "plain"))] (He5.wf K Ac.c_Edge "classmethod" "plain") fd) (cb : cmB K Ac.c_Edge "plain" = true) : CmKZ P w K mg base Ac.c_Edge "plain" 3 3 ["label", "effect", "guards", "fresh"] (fun vs zs => vs ++ ((zs.drop 3).take 1 ++ ((zs.drop 2).take 1 ++ ((zs.drop 1).take 1 ++ ((zs.drop 0).take 1 ++ []))))) (S_Edge_plain Ac) := by
  obtain ⟨mv, kb⟩ := F.kbinds0 (ps := ["cls", "source", "target", "size", "fresh", "guards", "effect", "label"]) 4 ["label", "effect", "guards", "fresh"] [] (fun us mv ws => us ++ ((ws.drop 3).take 1 ++ ((ws.drop 2).take 1 ++ ((ws.drop 1).take 1 ++ ((ws.drop 0).take 1 ++ []))))) (by simp) (by intro q hq; cases hq) (fun r1 r2 r3 => r1.append (((r3.drop 3).take 1).append (((r3.drop 2).take 1).append (((r3.drop 1).take 1).append (((r3.drop 0).take 1).append .nil)))))
    (fun D doc pm an cdv ct us mv ws h1 h2 h3 => match us, mv, ws, h1, h2, h3 with | [_, _, _, _], [], [_, _, _, _], _, _, _ => by first | rfl | kernel_rfl)
  exact cmkz_of cb (fo_Edge_plain T G_unit_row G_Edge_init_2_sources_guards_effect_label F) kb fun v vs zs h1 h2 => rfl
theorem fn_Edge_plain_3_guards {Ac : Cs} (T : Txt Ac K mg) (G_unit_row : FnZ P w K mg base "unit_row" 1 (S_unit_row Ac)) (G_Edge_init_2_sources_guards_effect_label : MkKZ P w K mg base "Edge" Ac.c_Edge 1 2 ["sources", "guards", "effect", "label"] (fun vs zs => vs ++ ((zs.drop 0).take 1 ++ ((zs.drop 1).take 1 ++ ((zs.drop 2).take 1 ++ ((zs.drop 3).take 1 ++ []))))) (S_Edge_init Ac)) {fd : FuncData} (F : FunD K "plain" "Edge.plain" (defArgs s_Edge_plain) (defBody s_Edge_plain) (defScope s_Edge_plain) [] [("fresh", (V.int 0)), ("guards", Ac.d_Edge_plain_guards), ("effect", V.non), ("label", (V.str "plain"))] (He5.wf K Ac.c_Edge "classmethod" "plain") fd) (cb : cmB K Ac.c_Edge "plain" = true) : CmKZ P w K mg base Ac.c_Edge "plain" 3 3 ["guards"] (fun vs zs => vs ++ ([(V.int 0)] ++ ((zs.drop 0).take 1 ++ ([V.non] ++ ([(V.str "plain")] ++ []))))) (S_Edge_plain Ac) := by
  obtain ⟨mv, kb⟩ := F.kbinds0 (ps := ["cls", "source", "target", "size", "fresh", "guards", "effect", "label"]) 4 ["guards"] [("fresh", (V.int 0)), ("effect", V.non), ("label", (V.str "plain"))] (fun us mv ws => us ++ ((mv.drop 0).take 1 ++ ((ws.drop 0).take 1 ++ ((mv.drop 1).take 1 ++ ((mv.drop 2).take 1 ++ []))))) (by simp) (by intro q hq; simp only [List.mem_cons, List.not_mem_nil, or_false] at hq ⊢; rcases hq with rfl | rfl | rfl <;> simp) (fun r1 r2 r3 => r1.append (((r2.drop 0).take 1).append (((r3.drop 0).take 1).append (((r2.drop 1).take 1).append (((r2.drop 2).take 1).append .nil)))))
    (fun D doc pm an cdv ct us mv ws h1 h2 h3 => match us, mv, ws, h1, h2, h3 with | [_, _, _, _], [_, _, _], [_], _, _, _ => ⟨_, _, _, _, _, _, rfl, rfl, ⟨_, _, _, _, _, _, rfl, rfl, ⟨_, _, _, _, _, _, rfl, rfl, by first | rfl | kernel_rfl⟩⟩⟩)
  exact cmkz_of cb (fo_Edge_plain T G_unit_row G_Edge_init_2_sources_guards_effect_label F) kb fun v vs zs h1 h2 => rfl
theorem fn_Edge_plain_3_effect_fresh {Ac : Cs} (T : Txt Ac K mg) (G_unit_row : FnZ P w K mg base "unit_row" 1 (S_unit_row Ac)) (G_Edge_init_2_sources_guards_effect_label : MkKZ P w K mg base "Edge" Ac.c_Edge 1 2 ["sources", "guards", "effect", "label"] (fun vs zs => vs ++ ((zs.drop 0).take 1 ++ ((zs.drop 1).take 1 ++ ((zs.drop 2).take 1 ++ ((zs.drop 3).take 1 ++ []))))) (S_Edge_init Ac)) {fd : FuncData} (F : FunD K "plain" "Edge.plain" (defArgs s_Edge_plain) (defBody s_Edge_plain) (defScope s_Edge_plain) [] [("fresh", (V.int 0)), ("guards", Ac.d_Edge_plain_guards), ("effect", V.non), ("label", (V.str "plain"))] (He5.wf K Ac.c_Edge "classmethod" "plain") fd) (cb : cmB K Ac.c_Edge "plain" = true) : CmKZ P w K mg base Ac.c_Edge "plain" 3 3 ["effect", "fresh"] (fun vs zs => vs ++ ((zs.drop 1).take 1 ++ ([Ac.d_Edge_plain_guards] ++ ((zs.drop 0).take 1 ++ ([(V.str "plain")] ++ []))))) (S_Edge_plain Ac) := by
  obtain ⟨mv, kb⟩ := F.kbinds0 (ps := ["cls", "source", "target", "size", "fresh", "guards", "effect", "label"]) 4 ["effect", "fresh"] [("guards", Ac.d_Edge_plain_guards), ("label", (V.str "plain"))] (fun us mv ws => us ++ ((ws.drop 1).take 1 ++ ((mv.drop 0).take 1 ++ ((ws.drop 0).take 1 ++ ((mv.drop 1).take 1 ++ []))))) (by simp) (by intro q hq; simp only [List.mem_cons, List.not_mem_nil, or_false] at hq ⊢; rcases hq with rfl | rfl <;> simp) (fun r1 r2 r3 => r1.append (((r3.drop 1).take 1).append (((r2.drop 0).take 1).append (((r3.drop 0).take 1).append (((r2.drop 1).take 1).append .nil)))))
    (fun D doc pm an cdv ct us mv ws h1 h2 h3 => match us, mv, ws, h1, h2, h3 with | [_, _, _, _], [_, _], [_, _], _, _, _ => ⟨_, _, _, _, _, _, rfl, rfl, ⟨_, _, _, _, _, _, rfl, rfl, by first | rfl | kernel_rfl⟩⟩)
  exact cmkz_of cb (fo_Edge_plain T G_unit_row G_Edge_init_2_sources_guards_effect_label F) kb fun v vs zs h1 h2 => rfl
theorem fn_Edge_plain_3_fresh_label {Ac : Cs} (T : Txt Ac K mg) (G_unit_row : FnZ P w K mg base "unit_row" 1 (S_unit_row Ac)) (G_Edge_init_2_sources_guards_effect_label : MkKZ P w K mg base "Edge" Ac.c_Edge 1 2 ["sources", "guards", "effect", "label"] (fun vs zs => vs ++ ((zs.drop 0).take 1 ++ ((zs.drop 1).take 1 ++ ((zs.drop 2).take 1 ++ ((zs.drop 3).take 1 ++ []))))) (S_Edge_init Ac)) {fd : FuncData} (F : FunD K "plain" "Edge.plain" (defArgs s_Edge_plain) (defBody s_Edge_plain) (defScope s_Edge_plain) [] [("fresh", (V.int 0)), ("guards", Ac.d_Edge_plain_guards), ("effect", V.non), ("label", (V.str "plain"))] (He5.wf K Ac.c_Edge "classmethod" "plain") fd) (cb : cmB K Ac.c_Edge "plain" = true) : CmKZ P w K mg base Ac.c_Edge "plain" 3 3 ["fresh", "label"] (fun vs zs => vs ++ ((zs.drop 0).take 1 ++ ([Ac.d_Edge_plain_guards] ++ ([V.non] ++ ((zs.drop 1).take 1 ++ []))))) (S_Edge_plain Ac) := by
  obtain ⟨mv, kb⟩ := F.kbinds0 (ps := ["cls", "source", "target", "size", "fresh", "guards", "effect", "label"]) 4 ["fresh", "label"] [("guards", Ac.d_Edge_plain_guards), ("effect", V.non)] (fun us mv ws => us ++ ((ws.drop 0).take 1 ++ ((mv.drop 0).take 1 ++ ((mv.drop 1).take 1 ++ ((ws.drop 1).take 1 ++ []))))) (by simp) (by intro q hq; simp only [List.mem_cons, List.not_mem_nil, or_false] at hq ⊢; rcases hq with rfl | rfl <;> simp) (fun r1 r2 r3 => r1.append (((r3.drop 0).take 1).append (((r2.drop 0).take 1).append (((r2.drop 1).take 1).append (((r3.drop 1).take 1).append .nil)))))
    (fun D doc pm an cdv ct us mv ws h1 h2 h3 => match us, mv, ws, h1, h2, h3 with | [_, _, _, _], [_, _], [_, _], _, _, _ => ⟨_, _, _, _, _, _, rfl, rfl, ⟨_, _, _, _, _, _, rfl, rfl, by first | rfl | kernel_rfl⟩⟩)
  exact cmkz_of cb (fo_Edge_plain T G_unit_row G_Edge_init_2_sources_guards_effect_label F) kb fun v vs zs h1 h2 => rfl
theorem fn_Edge_plain_3_effect {Ac : Cs} (T : Txt Ac K mg) (G_unit_row : FnZ P w K mg base "unit_row" 1 (S_unit_row Ac)) (G_Edge_init_2_sources_guards_effect_label : MkKZ P w K mg base "Edge" Ac.c_Edge 1 2 ["sources", "guards", "effect", "label"] (fun vs zs => vs ++ ((zs.drop 0).take 1 ++ ((zs.drop 1).take 1 ++ ((zs.drop 2).take 1 ++ ((zs.drop 3).take 1 ++ []))))) (S_Edge_init Ac)) {fd : FuncData} (F : FunD K "plain" "Edge.plain" (defArgs s_Edge_plain) (defBody s_Edge_plain) (defScope s_Edge_plain) [] [("fresh", (V.int 0)), ("guards", Ac.d_Edge_plain_guards), ("effect", V.non), ("label", (V.str "plain"))] (He5.wf K Ac.c_Edge "classmethod" "plain") fd) (cb : cmB K Ac.c_Edge "plain" = true) : CmKZ P w K mg base Ac.c_Edge "plain" 3 3 ["effect"] (fun vs zs => vs ++ ([(V.int 0)] ++ ([Ac.d_Edge_plain_guards] ++ ((zs.drop 0).take 1 ++ ([(V.str "plain")] ++ []))))) (S_Edge_plain Ac) := by
  obtain ⟨mv, kb⟩ := F.kbinds0 (ps := ["cls", "source", "target", "size", "fresh", "guards", "effect", "label"]) 4 ["effect"] [("fresh", (V.int 0)), ("guards", Ac.d_Edge_plain_guards), ("label", (V.str "plain"))] (fun us mv ws => us ++ ((mv.drop 0).take 1 ++ ((mv.drop 1).take 1 ++ ((ws.drop 0).take 1 ++ ((mv.drop 2).take 1 ++ []))))) (by simp) (by intro q hq; simp only [List.mem_cons, List.not_mem_nil, or_false] at hq ⊢; rcases hq with rfl | rfl | rfl <;> simp) (fun r1 r2 r3 => r1.append (((r2.drop 0).take 1).append (((r2.drop 1).take 1).append (((r3.drop 0).take 1).append (((r2.drop 2).take 1).append .nil)))))
    (fun D doc pm an cdv ct us mv ws h1 h2 h3 => match us, mv, ws, h1, h2, h3 with | [_, _, _, _], [_, _, _], [_], _, _, _ => ⟨_, _, _, _, _, _, rfl, rfl, ⟨_, _, _, _, _, _, rfl, rfl, ⟨_, _, _, _, _, _, rfl, rfl, by first | rfl | kernel_rfl⟩⟩⟩)
  exact cmkz_of cb (fo_Edge_plain T G_unit_row G_Edge_init_2_sources_guards_effect_label F) kb fun v vs zs h1 h2 => rfl
theorem fo_Edge_start {Ac : Cs} (T : Txt Ac K mg) (G_Edge_init_2_guards_effect_label : MkKZ P w K mg base "Edge" Ac.c_Edge 1 2 ["guards", "effect", "label"] (fun vs zs => vs ++ ([Ac.d_Edge_init_sources] ++ ((zs.drop 0).take 1 ++ ((zs.drop 1).take 1 ++ ((zs.drop 2).take 1 ++ []))))) (S_Edge_init Ac)) {f : Addr} {fd : FuncData} (F : FunD K "start" "Edge.start" (defArgs s_Edge_start) (defBody s_Edge_start) (defScope s_Edge_start) [] [("guards", Ac.d_Edge_start_guards), ("effect", Ac.d_Edge_start_effect)] f fd) : FnOk P w K mg base CX0 3 f fd ["cls", "target", "fresh", "guards", "effect"] (toSp K (S_Edge_start Ac)) :=
  fn_z F sc_Edge_start (S_Edge_start Ac) (fun ds M kk h => by unfold S_Edge_start at h; first | (obtain ⟨_, rfl, _⟩ := h; rfl) | (obtain ⟨_, _, rfl, _⟩ := h; rfl) | (obtain ⟨_, _, _, rfl, _⟩ := h; rfl) | (obtain ⟨_, _, _, _, rfl, _⟩ := h; rfl) | (obtain ⟨_, _, _, _, _, rfl, _⟩ := h; rfl) | (obtain ⟨_, _, _, _, _, _, rfl, _⟩ := h; rfl) | (obtain ⟨_, _, _, _, _, _, _, rfl, _⟩ := h; rfl) | (obtain ⟨_, _, _, _, _, _, _, _, rfl, _⟩ := h; rfl) | (obtain ⟨_, _, _, _, _, _, _, _, _, rfl, _⟩ := h; rfl) | (obtain ⟨_, _, _, _, _, _, _, _, _, _, rfl, _⟩ := h; rfl) | (obtain ⟨_, _, _, _, _, _, _, _, _, _, _, rfl, _⟩ := h; rfl) | (obtain ⟨_, _, _, _, _, _, _, _, _, _, _, _, rfl, _⟩ := h; rfl) | (obtain ⟨_, _, _, _, _, _, _, _, _, _, _, _, _, rfl, _⟩ := h; rfl) | (obtain ⟨_, _, _, _, _, _, _, _, _, _, _, _, _, _, rfl, _⟩ := h; rfl) | (obtain ⟨_, _, _, _, _, _, _, _, _, _, _, _, _, _, _, rfl, _⟩ := h; rfl)) (t_Edge_start K Ac (S_Edge_init Ac)) (fun cdv A outer s H E hr => red_Edge_start T (S_Edge_init Ac) G_Edge_init_2_guards_effect_label f cdv A outer s H E hr) (fun ds M kk h => z_Edge_start T h)
theorem fn_Edge_start_2 {Ac : Cs} (T : Txt Ac K mg) (G_Edge_init_2_guards_effect_label : MkKZ P w K mg base "Edge" Ac.c_Edge 1 2 ["guards", "effect", "label"] (fun vs zs => vs ++ ([Ac.d_Edge_init_sources] ++ ((zs.drop 0).take 1 ++ ((zs.drop 1).take 1 ++ ((zs.drop 2).take 1 ++ []))))) (S_Edge_init Ac)) {fd : FuncData} (F : FunD K "start" "Edge.start" (defArgs s_Edge_start) (defBody s_Edge_start) (defScope s_Edge_start) [] [("guards", Ac.d_Edge_start_guards), ("effect", Ac.d_Edge_start_effect)] (He5.wf K Ac.c_Edge "classmethod" "start") fd) (cb : cmB K Ac.c_Edge "start" = true) : CmKZ P w K mg base Ac.c_Edge "start" 3 2 [] (fun vs zs => vs ++ ([Ac.d_Edge_start_guards] ++ ([Ac.d_Edge_start_effect] ++ []))) (S_Edge_start Ac) := by
  obtain ⟨mv, kb⟩ := F.kbinds0 (ps := ["cls", "target", "fresh", "guards", "effect"]) 3 [] [("guards", Ac.d_Edge_start_guards), ("effect", Ac.d_Edge_start_effect)] (fun us mv ws => us ++ ((mv.drop 0).take 1 ++ ((mv.drop 1).take 1 ++ []))) (by simp) (by intro q hq; simp only [List.mem_cons, List.not_mem_nil, or_false] at hq ⊢; rcases hq with rfl | rfl <;> simp) (fun r1 r2 r3 => r1.append (((r2.drop 0).take 1).append (((r2.drop 1).take 1).append .nil)))
    (fun D doc pm an cdv ct us mv ws h1 h2 h3 => match us, mv, ws, h1, h2, h3 with | [_, _, _], [_, _], [], _, _, _ => ⟨_, _, _, _, _, _, rfl, rfl, ⟨_, _, _, _, _, _, rfl, rfl, by first | rfl | kernel_rfl⟩⟩)
  exact cmkz_of cb (fo_Edge_start T G_Edge_init_2_guards_effect_label F) kb fun v vs zs h1 h2 => rfl
theorem fn_Edge_start_2_guards_effect {Ac : Cs} (T : Txt Ac K mg) (G_Edge_init_2_guards_effect_label : MkKZ P w K mg base "Edge" Ac.c_Edge 1 2 ["guards", "effect", "label"] (fun vs zs => vs ++ ([Ac.d_Edge_init_sources] ++ ((zs.drop 0).take 1 ++ ((zs.drop 1).take 1 ++ ((zs.drop 2).take 1 ++ []))))) (S_Edge_init Ac)) {fd : FuncData} (F : FunD K "start" "Edge.start" (defArgs s_Edge_start) (defBody s_Edge_start) (defScope s_Edge_start) [] [("guards", Ac.d_Edge_start_guards), ("effect", Ac.d_Edge_start_effect)] (He5.wf K Ac.c_Edge "classmethod" "start") fd) (cb : cmB K Ac.c_Edge "start" = true) : CmKZ P w K mg base Ac.c_Edge "start" 3 2 ["guards", "effect"] (fun vs zs => vs ++ ((zs.drop 0).take 1 ++ ((zs.drop 1).take 1 ++ []))) (S_Edge_start Ac) := by
  obtain ⟨mv, kb⟩ := F.kbinds0 (ps := ["cls", "target", "fresh", "guards", "effect"]) 3 ["guards", "effect"] [] (fun us mv ws => us ++ ((ws.drop 0).take 1 ++ ((ws.drop 1).take 1 ++ []))) (by simp) (by intro q hq; cases hq) (fun r1 r2 r3 => r1.append (((r3.drop 0).take 1).append (((r3.drop 1).take 1).append .nil)))
    (fun D doc pm an cdv ct us mv ws h1 h2 h3 => match us, mv, ws, h1, h2, h3 with | [_, _, _], [], [_, _], _, _, _ => by first | rfl | kernel_rfl)
  exact cmkz_of cb (fo_Edge_start T G_Edge_init_2_guards_effect_label F) kb fun v vs zs h1 h2 => rfl
theorem fn_Edge_start_2_effect {Ac : Cs} (T : Txt Ac K mg) (G_Edge_init_2_guards_effect_label : MkKZ P w K mg base "Edge" Ac.c_Edge 1 2 ["guards", "effect", "label"] (fun vs zs => vs ++ ([Ac.d_Edge_init_sources] ++ ((zs.drop 0).take 1 ++ ((zs.drop 1).take 1 ++ ((zs.drop 2).take 1 ++ []))))) (S_Edge_init Ac)) {fd : FuncData} (F : FunD K "start" "Edge.start" (defArgs s_Edge_start) (defBody s_Edge_start) (defScope s_Edge_start) [] [("guards", Ac.d_Edge_start_guards), ("effect", Ac.d_Edge_start_effect)] (He5.wf K Ac.c_Edge "classmethod" "start") fd) (cb : cmB K Ac.c_Edge "start" = true) : CmKZ P w K mg base Ac.c_Edge "start" 3 2 ["effect"] (fun vs zs => vs ++ ([Ac.d_Edge_start_guards] ++ ((zs.drop 0).take 1 ++ []))) (S_Edge_start Ac) := by
  obtain ⟨mv, kb⟩ := F.kbinds0 (ps := ["cls", "target", "fresh", "guards", "effect"]) 3 ["effect"] [("guards", Ac.d_Edge_start_guards)] (fun us mv ws => us ++ ((mv.drop 0).take 1 ++ ((ws.drop 0).take 1 ++ []))) (by simp) (by intro q hq; simp only [List.mem_cons, List.not_mem_nil, or_false] at hq ⊢; subst hq; simp) (fun r1 r2 r3 => r1.append (((r2.drop 0).take 1).append (((r3.drop 0).take 1).append .nil)))
    (fun D doc pm an cdv ct us mv ws h1 h2 h3 => match us, mv, ws, h1, h2, h3 with | [_, _, _], [_], [_], _, _, _ => ⟨_, _, _, _, _, _, rfl, rfl, by first | rfl | kernel_rfl⟩)
  exact cmkz_of cb (fo_Edge_start T G_Edge_init_2_guards_effect_label F) kb fun v vs zs h1 h2 => rfl
theorem fn_Edge_start_2_effect_guards {Ac : Cs} (T : Txt Ac K mg) (G_Edge_init_2_guards_effect_label : MkKZ P w K mg base "Edge" Ac.c_Edge 1 2 ["guards", "effect", "label"] (fun vs zs => vs ++ ([Ac.d_Edge_init_sources] ++ ((zs.drop 0).take 1 ++ ((zs.drop 1).take 1 ++ ((zs.drop 2).take 1 ++ []))))) (S_Edge_init Ac)) {fd : FuncData} (F : FunD K "start" "Edge.start" (defArgs s_Edge_start) (defBody s_Edge_start) (defScope s_Edge_start) [] [("guards", Ac.d_Edge_start_guards), ("effect", Ac.d_Edge_start_effect)] (He5.wf K Ac.c_Edge "classmethod" "start") fd) (cb : cmB K Ac.c_Edge "start" = true) : CmKZ P w K mg base Ac.c_Edge "start" 3 2 ["effect", "guards"] (fun vs zs => vs ++ ((zs.drop 1).take 1 ++ ((zs.drop 0).take 1 ++ []))) (S_Edge_start Ac) := by
  obtain ⟨mv, kb⟩ := F.kbinds0 (ps := ["cls", "target", "fresh", "guards", "effect"]) 3 ["effect", "guards"] [] (fun us mv ws => us ++ ((ws.drop 1).take 1 ++ ((ws.drop 0).take 1 ++ []))) (by simp) (by intro q hq; cases hq) (fun r1 r2 r3 => r1.append (((r3.drop 1).take 1).append (((r3.drop 0).take 1).append .nil)))
    (fun D doc pm an cdv ct us mv ws h1 h2 h3 => match us, mv, ws, h1, h2, h3 with | [_, _, _], [], [_, _], _, _, _ => by first | rfl | kernel_rfl)
  exact cmkz_of cb (fo_Edge_start T G_Edge_init_2_guards_effect_label F) kb fun v vs zs h1 h2 => rfl
theorem fo_Edge_with_guard {Ac : Cs} (T : Txt Ac K mg) (G_Edge_init_2_sources_guards_effect_label : MkKZ P w K mg base "Edge" Ac.c_Edge 1 2 ["sources", "guards", "effect", "label"] (fun vs zs => vs ++ ((zs.drop 0).take 1 ++ ((zs.drop 1).take 1 ++ ((zs.drop 2).take 1 ++ ((zs.drop 3).take 1 ++ []))))) (S_Edge_init Ac)) {f : Addr} {fd : FuncData} (F : FunD K "with_guard" "Edge.with_guard" (defArgs s_Edge_with_guard) (defBody s_Edge_with_guard) (defScope s_Edge_with_guard) [] [] f fd) : FnOk P w K mg base CX0 3 f fd ["self", "row"] (toSp K (S_Edge_with_guard Ac)) :=
  fn_z F sc_Edge_with_guard (S_Edge_with_guard Ac) (fun ds M kk h => by unfold S_Edge_with_guard at h; first | (obtain ⟨_, rfl, _⟩ := h; rfl) | (obtain ⟨_, _, rfl, _⟩ := h; rfl) | (obtain ⟨_, _, _, rfl, _⟩ := h; rfl) | (obtain ⟨_, _, _, _, rfl, _⟩ := h; rfl) | (obtain ⟨_, _, _, _, _, rfl, _⟩ := h; rfl) | (obtain ⟨_, _, _, _, _, _, rfl, _⟩ := h; rfl) | (obtain ⟨_, _, _, _, _, _, _, rfl, _⟩ := h; rfl) | (obtain ⟨_, _, _, _, _, _, _, _, rfl, _⟩ := h; rfl) | (obtain ⟨_, _, _, _, _, _, _, _, _, rfl, _⟩ := h; rfl) | (obtain ⟨_, _, _, _, _, _, _, _, _, _, rfl, _⟩ := h; rfl) | (obtain ⟨_, _, _, _, _, _, _, _, _, _, _, rfl, _⟩ := h; rfl) | (obtain ⟨_, _, _, _, _, _, _, _, _, _, _, _, rfl, _⟩ := h; rfl) | (obtain ⟨_, _, _, _, _, _, _, _, _, _, _, _, _, rfl, _⟩ := h; rfl) | (obtain ⟨_, _, _, _, _, _, _, _, _, _, _, _, _, _, rfl, _⟩ := h; rfl) | (obtain ⟨_, _, _, _, _, _, _, _, _, _, _, _, _, _, _, rfl, _⟩ := h; rfl)) (t_Edge_with_guard K Ac (S_Edge_init Ac)) (fun cdv A outer s H E hr => red_Edge_with_guard T (S_Edge_init Ac) G_Edge_init_2_sources_guards_effect_label f cdv A outer s H E hr) (fun ds M kk h => z_Edge_with_guard T h)
theorem fn_Edge_with_guard {Ac : Cs} (T : Txt Ac K mg) (G_Edge_init_2_sources_guards_effect_label : MkKZ P w K mg base "Edge" Ac.c_Edge 1 2 ["sources", "guards", "effect", "label"] (fun vs zs => vs ++ ((zs.drop 0).take 1 ++ ((zs.drop 1).take 1 ++ ((zs.drop 2).take 1 ++ ((zs.drop 3).take 1 ++ []))))) (S_Edge_init Ac)) {f : Addr} {fd : FuncData} (F : FunD K "with_guard" "Edge.with_guard" (defArgs s_Edge_with_guard) (defBody s_Edge_with_guard) (defScope s_Edge_with_guard) [] [] f fd) (cl : Cls K Ac.c_Edge) (hm : Meth K Ac.c_Edge "with_guard" f) : MtZ P w K mg base Ac.c_Edge "with_guard" 3 (S_Edge_with_guard Ac) := mtz_of cl hm (fo_Edge_with_guard T G_Edge_init_2_sources_guards_effect_label F) (F.bindsN fun _ _ _ _ _ _ us hl => match us, hl with | [_, _], _ => rfl)
theorem fo_law_rows {Ac : Cs} (T : Txt Ac K mg) (G_law_coefficient : FnZ P w K mg base "_law_coefficient" 2 (S_law_coefficient Ac)) (G_law_constant : FnZ P w K mg base "_law_constant" 2 (S_law_constant Ac)) {f : Addr} {fd : FuncData} (F : FunD K "_law_rows" "_law_rows" (defArgs s_law_rows) (defBody s_law_rows) (defScope s_law_rows) [] [] f fd) : FnOk P w K mg base CX0 3 f fd ["_law_purse_here", "_law_count", "_law_many"] (toSp K (S_law_rows Ac)) :=
  fn_z F sc_law_rows (S_law_rows Ac) (fun ds M kk h => by unfold S_law_rows at h; first | (obtain ⟨_, rfl, _⟩ := h; rfl) | (obtain ⟨_, _, rfl, _⟩ := h; rfl) | (obtain ⟨_, _, _, rfl, _⟩ := h; rfl) | (obtain ⟨_, _, _, _, rfl, _⟩ := h; rfl) | (obtain ⟨_, _, _, _, _, rfl, _⟩ := h; rfl) | (obtain ⟨_, _, _, _, _, _, rfl, _⟩ := h; rfl) | (obtain ⟨_, _, _, _, _, _, _, rfl, _⟩ := h; rfl) | (obtain ⟨_, _, _, _, _, _, _, _, rfl, _⟩ := h; rfl) | (obtain ⟨_, _, _, _, _, _, _, _, _, rfl, _⟩ := h; rfl) | (obtain ⟨_, _, _, _, _, _, _, _, _, _, rfl, _⟩ := h; rfl) | (obtain ⟨_, _, _, _, _, _, _, _, _, _, _, rfl, _⟩ := h; rfl) | (obtain ⟨_, _, _, _, _, _, _, _, _, _, _, _, rfl, _⟩ := h; rfl) | (obtain ⟨_, _, _, _, _, _, _, _, _, _, _, _, _, rfl, _⟩ := h; rfl) | (obtain ⟨_, _, _, _, _, _, _, _, _, _, _, _, _, _, rfl, _⟩ := h; rfl) | (obtain ⟨_, _, _, _, _, _, _, _, _, _, _, _, _, _, _, rfl, _⟩ := h; rfl)) (t_law_rows K Ac (S_law_coefficient Ac) (S_law_constant Ac)) (fun cdv A outer s H E hr => red_law_rows T (S_law_coefficient Ac) (S_law_constant Ac) G_law_coefficient G_law_constant f cdv A outer s H E hr) (fun ds M kk h => z_law_rows T h)
theorem fn_law_rows {Ac : Cs} (T : Txt Ac K mg) (G_law_coefficient : FnZ P w K mg base "_law_coefficient" 2 (S_law_coefficient Ac)) (G_law_constant : FnZ P w K mg base "_law_constant" 2 (S_law_constant Ac)) {f : Addr} {fd : FuncData} (F : FunD K "_law_rows" "_law_rows" (defArgs s_law_rows) (defBody s_law_rows) (defScope s_law_rows) [] [] f fd) (hm : mg "_law_rows" = some (.ref f)) : FnZ P w K mg base "_law_rows" 3 (S_law_rows Ac) := fnz_of F (fo_law_rows T G_law_coefficient G_law_constant F) hm (F.bindsN fun _ _ _ _ _ _ us hl => match us, hl with | [_, _, _], _ => rfl)
theorem fo_law_checks {Ac : Cs} (T : Txt Ac K mg) (G_law_draw : FnZ P w K mg base "_law_draw" 1 (S_law_draw Ac)) (G_law_coefficient : FnZ P w K mg base "_law_coefficient" 2 (S_law_coefficient Ac)) (G_law_constant : FnZ P w K mg base "_law_constant" 2 (S_law_constant Ac)) {f : Addr} {fd : FuncData} (F : FunD K "_law_checks" "_law_checks" (defArgs s_law_checks) (defBody s_law_checks) (defScope s_law_checks) [] [] f fd) : FnOk P w K mg base CX0 3 f fd ["_law_purse_here", "_law_near_here"] (toSp K (S_law_checks Ac)) :=
  fn_z F sc_law_checks (S_law_checks Ac) (fun ds M kk h => by unfold S_law_checks at h; first | (obtain ⟨_, rfl, _⟩ := h; rfl) | (obtain ⟨_, _, rfl, _⟩ := h; rfl) | (obtain ⟨_, _, _, rfl, _⟩ := h; rfl) | (obtain ⟨_, _, _, _, rfl, _⟩ := h; rfl) | (obtain ⟨_, _, _, _, _, rfl, _⟩ := h; rfl) | (obtain ⟨_, _, _, _, _, _, rfl, _⟩ := h; rfl) | (obtain ⟨_, _, _, _, _, _, _, rfl, _⟩ := h; rfl) | (obtain ⟨_, _, _, _, _, _, _, _, rfl, _⟩ := h; rfl) | (obtain ⟨_, _, _, _, _, _, _, _, _, rfl, _⟩ := h; rfl) | (obtain ⟨_, _, _, _, _, _, _, _, _, _, rfl, _⟩ := h; rfl) | (obtain ⟨_, _, _, _, _, _, _, _, _, _, _, rfl, _⟩ := h; rfl) | (obtain ⟨_, _, _, _, _, _, _, _, _, _, _, _, rfl, _⟩ := h; rfl) | (obtain ⟨_, _, _, _, _, _, _, _, _, _, _, _, _, rfl, _⟩ := h; rfl) | (obtain ⟨_, _, _, _, _, _, _, _, _, _, _, _, _, _, rfl, _⟩ := h; rfl) | (obtain ⟨_, _, _, _, _, _, _, _, _, _, _, _, _, _, _, rfl, _⟩ := h; rfl)) (t_law_checks K Ac (S_law_draw Ac) (S_law_coefficient Ac) (S_law_constant Ac)) (fun cdv A outer s H E hr => red_law_checks T (S_law_draw Ac) (S_law_coefficient Ac) (S_law_constant Ac) G_law_draw G_law_coefficient G_law_constant f cdv A outer s H E hr) (fun ds M kk h => z_law_checks T h)
theorem fn_law_checks {Ac : Cs} (T : Txt Ac K mg) (G_law_draw : FnZ P w K mg base "_law_draw" 1 (S_law_draw Ac)) (G_law_coefficient : FnZ P w K mg base "_law_coefficient" 2 (S_law_coefficient Ac)) (G_law_constant : FnZ P w K mg base "_law_constant" 2 (S_law_constant Ac)) {f : Addr} {fd : FuncData} (F : FunD K "_law_checks" "_law_checks" (defArgs s_law_checks) (defBody s_law_checks) (defScope s_law_checks) [] [] f fd) (hm : mg "_law_checks" = some (.ref f)) : FnZ P w K mg base "_law_checks" 3 (S_law_checks Ac) := fnz_of F (fo_law_checks T G_law_draw G_law_coefficient G_law_constant F) hm (F.bindsN fun _ _ _ _ _ _ us hl => match us, hl with | [_, _], _ => rfl)
theorem fo_Edge_closed {Ac : Cs} (T : Txt Ac K mg) (G_Edge_with_guard : MtZ P w K mg base Ac.c_Edge "with_guard" 3 (S_Edge_with_guard Ac)) {f : Addr} {fd : FuncData} (F : FunD K "closed" "Edge.closed" (defArgs s_Edge_closed) (defBody s_Edge_closed) (defScope s_Edge_closed) [] [] f fd) : FnOk P w K mg base CX0 4 f fd ["self"] (toSp K (S_Edge_closed Ac)) :=
  fn_z F sc_Edge_closed (S_Edge_closed Ac) (fun ds M kk h => by unfold S_Edge_closed at h; first | (obtain ⟨_, rfl, _⟩ := h; rfl) | (obtain ⟨_, _, rfl, _⟩ := h; rfl) | (obtain ⟨_, _, _, rfl, _⟩ := h; rfl) | (obtain ⟨_, _, _, _, rfl, _⟩ := h; rfl) | (obtain ⟨_, _, _, _, _, rfl, _⟩ := h; rfl) | (obtain ⟨_, _, _, _, _, _, rfl, _⟩ := h; rfl) | (obtain ⟨_, _, _, _, _, _, _, rfl, _⟩ := h; rfl) | (obtain ⟨_, _, _, _, _, _, _, _, rfl, _⟩ := h; rfl) | (obtain ⟨_, _, _, _, _, _, _, _, _, rfl, _⟩ := h; rfl) | (obtain ⟨_, _, _, _, _, _, _, _, _, _, rfl, _⟩ := h; rfl) | (obtain ⟨_, _, _, _, _, _, _, _, _, _, _, rfl, _⟩ := h; rfl) | (obtain ⟨_, _, _, _, _, _, _, _, _, _, _, _, rfl, _⟩ := h; rfl) | (obtain ⟨_, _, _, _, _, _, _, _, _, _, _, _, _, rfl, _⟩ := h; rfl) | (obtain ⟨_, _, _, _, _, _, _, _, _, _, _, _, _, _, rfl, _⟩ := h; rfl) | (obtain ⟨_, _, _, _, _, _, _, _, _, _, _, _, _, _, _, rfl, _⟩ := h; rfl)) (t_Edge_closed K Ac (S_Edge_with_guard Ac)) (fun cdv A outer s H E hr => red_Edge_closed T (S_Edge_with_guard Ac) G_Edge_with_guard f cdv A outer s H E hr) (fun ds M kk h => z_Edge_closed T h)
theorem fn_Edge_closed {Ac : Cs} (T : Txt Ac K mg) (G_Edge_with_guard : MtZ P w K mg base Ac.c_Edge "with_guard" 3 (S_Edge_with_guard Ac)) {f : Addr} {fd : FuncData} (F : FunD K "closed" "Edge.closed" (defArgs s_Edge_closed) (defBody s_Edge_closed) (defScope s_Edge_closed) [] [] f fd) (cl : Cls K Ac.c_Edge) (hm : Meth K Ac.c_Edge "closed" f) : MtZ P w K mg base Ac.c_Edge "closed" 4 (S_Edge_closed Ac) := mtz_of cl hm (fo_Edge_closed T G_Edge_with_guard F) (F.bindsN fun _ _ _ _ _ _ us hl => match us, hl with | [_], _ => rfl)
theorem fo_law_pairs {Ac : Cs} (T : Txt Ac K mg) (G_law_draw : FnZ P w K mg base "_law_draw" 1 (S_law_draw Ac)) (G_law_rows : FnZ P w K mg base "_law_rows" 3 (S_law_rows Ac)) {f : Addr} {fd : FuncData} (F : FunD K "_law_pairs" "_law_pairs" (defArgs s_law_pairs) (defBody s_law_pairs) (defScope s_law_pairs) [] [] f fd) : FnOk P w K mg base CX0 4 f fd ["_law_purse_here", "_law_many"] (toSp K (S_law_pairs Ac)) :=
  fn_z F sc_law_pairs (S_law_pairs Ac) (fun ds M kk h => by unfold S_law_pairs at h; first | (obtain ⟨_, rfl, _⟩ := h; rfl) | (obtain ⟨_, _, rfl, _⟩ := h; rfl) | (obtain ⟨_, _, _, rfl, _⟩ := h; rfl) | (obtain ⟨_, _, _, _, rfl, _⟩ := h; rfl) | (obtain ⟨_, _, _, _, _, rfl, _⟩ := h; rfl) | (obtain ⟨_, _, _, _, _, _, rfl, _⟩ := h; rfl) | (obtain ⟨_, _, _, _, _, _, _, rfl, _⟩ := h; rfl) | (obtain ⟨_, _, _, _, _, _, _, _, rfl, _⟩ := h; rfl) | (obtain ⟨_, _, _, _, _, _, _, _, _, rfl, _⟩ := h; rfl) | (obtain ⟨_, _, _, _, _, _, _, _, _, _, rfl, _⟩ := h; rfl) | (obtain ⟨_, _, _, _, _, _, _, _, _, _, _, rfl, _⟩ := h; rfl) | (obtain ⟨_, _, _, _, _, _, _, _, _, _, _, _, rfl, _⟩ := h; rfl) | (obtain ⟨_, _, _, _, _, _, _, _, _, _, _, _, _, rfl, _⟩ := h; rfl) | (obtain ⟨_, _, _, _, _, _, _, _, _, _, _, _, _, _, rfl, _⟩ := h; rfl) | (obtain ⟨_, _, _, _, _, _, _, _, _, _, _, _, _, _, _, rfl, _⟩ := h; rfl)) (t_law_pairs K Ac (S_law_draw Ac) (S_law_rows Ac)) (fun cdv A outer s H E hr => red_law_pairs T (S_law_draw Ac) (S_law_rows Ac) G_law_draw G_law_rows f cdv A outer s H E hr) (fun ds M kk h => z_law_pairs T h)
theorem fn_law_pairs {Ac : Cs} (T : Txt Ac K mg) (G_law_draw : FnZ P w K mg base "_law_draw" 1 (S_law_draw Ac)) (G_law_rows : FnZ P w K mg base "_law_rows" 3 (S_law_rows Ac)) {f : Addr} {fd : FuncData} (F : FunD K "_law_pairs" "_law_pairs" (defArgs s_law_pairs) (defBody s_law_pairs) (defScope s_law_pairs) [] [] f fd) (hm : mg "_law_pairs" = some (.ref f)) : FnZ P w K mg base "_law_pairs" 4 (S_law_pairs Ac) := fnz_of F (fo_law_pairs T G_law_draw G_law_rows F) hm (F.bindsN fun _ _ _ _ _ _ us hl => match us, hl with | [_, _], _ => rfl)
theorem fo_law_made_plain {Ac : Cs} (T : Txt Ac K mg) (G_law_draw : FnZ P w K mg base "_law_draw" 1 (S_law_draw Ac)) (G_law_near : FnZ P w K mg base "_law_near" 2 (S_law_near Ac)) (G_law_checks : FnZ P w K mg base "_law_checks" 3 (S_law_checks Ac)) (G_law_rows : FnZ P w K mg base "_law_rows" 3 (S_law_rows Ac)) (G_law_word : FnZ P w K mg base "_law_word" 2 (S_law_word Ac)) (G_law_units : FnZ P w K mg base "_law_units" 1 (S_law_units Ac)) (G_Edge_plain_3 : CmKZ P w K mg base Ac.c_Edge "plain" 3 3 [] (fun vs zs => vs ++ ([(V.int 0)] ++ ([Ac.d_Edge_plain_guards] ++ ([V.non] ++ ([(V.str "plain")] ++ []))))) (S_Edge_plain Ac)) (G_law_due : FnZ P w K mg base "_law_due" 1 (S_law_due Ac)) (G_Edge_plain_3_fresh_guards_effect_label : CmKZ P w K mg base Ac.c_Edge "plain" 3 3 ["fresh", "guards", "effect", "label"] (fun vs zs => vs ++ ((zs.drop 0).take 1 ++ ((zs.drop 1).take 1 ++ ((zs.drop 2).take 1 ++ ((zs.drop 3).take 1 ++ []))))) (S_Edge_plain Ac)) (G_Edge_plain_3_label_effect_guards_fresh : CmKZ P w K mg base Ac.c_Edge "plain" 3 3 ["label", "effect", "guards", "fresh"] (fun vs zs => vs ++ ((zs.drop 3).take 1 ++ ((zs.drop 2).take 1 ++ ((zs.drop 1).take 1 ++ ((zs.drop 0).take 1 ++ []))))) (S_Edge_plain Ac)) (G_Edge_plain_3_guards : CmKZ P w K mg base Ac.c_Edge "plain" 3 3 ["guards"] (fun vs zs => vs ++ ([(V.int 0)] ++ ((zs.drop 0).take 1 ++ ([V.non] ++ ([(V.str "plain")] ++ []))))) (S_Edge_plain Ac)) (G_Edge_plain_3_effect_fresh : CmKZ P w K mg base Ac.c_Edge "plain" 3 3 ["effect", "fresh"] (fun vs zs => vs ++ ((zs.drop 1).take 1 ++ ([Ac.d_Edge_plain_guards] ++ ((zs.drop 0).take 1 ++ ([(V.str "plain")] ++ []))))) (S_Edge_plain Ac)) (G_Edge_plain_3_fresh_label : CmKZ P w K mg base Ac.c_Edge "plain" 3 3 ["fresh", "label"] (fun vs zs => vs ++ ((zs.drop 0).take 1 ++ ([Ac.d_Edge_plain_guards] ++ ([V.non] ++ ((zs.drop 1).take 1 ++ []))))) (S_Edge_plain Ac)) (G_Edge_plain_3_effect : CmKZ P w K mg base Ac.c_Edge "plain" 3 3 ["effect"] (fun vs zs => vs ++ ([(V.int 0)] ++ ([Ac.d_Edge_plain_guards] ++ ((zs.drop 0).take 1 ++ ([(V.str "plain")] ++ []))))) (S_Edge_plain Ac)) {f : Addr} {fd : FuncData} (F : FunD K "_law_made_plain" "_law_made_plain" (defArgs s_law_made_plain) (defBody s_law_made_plain) (defScope s_law_made_plain) [] [] f fd) : FnOk P w K mg base CX0 4 f fd ["_law_purse_here"] (toSp K (S_law_made_plain Ac)) :=
  fn_z F sc_law_made_plain (S_law_made_plain Ac) (fun ds M kk h => by unfold S_law_made_plain at h; first | (obtain ⟨_, rfl, _⟩ := h; rfl) | (obtain ⟨_, _, rfl, _⟩ := h; rfl) | (obtain ⟨_, _, _, rfl, _⟩ := h; rfl) | (obtain ⟨_, _, _, _, rfl, _⟩ := h; rfl) | (obtain ⟨_, _, _, _, _, rfl, _⟩ := h; rfl) | (obtain ⟨_, _, _, _, _, _, rfl, _⟩ := h; rfl) | (obtain ⟨_, _, _, _, _, _, _, rfl, _⟩ := h; rfl) | (obtain ⟨_, _, _, _, _, _, _, _, rfl, _⟩ := h; rfl) | (obtain ⟨_, _, _, _, _, _, _, _, _, rfl, _⟩ := h; rfl) | (obtain ⟨_, _, _, _, _, _, _, _, _, _, rfl, _⟩ := h; rfl) | (obtain ⟨_, _, _, _, _, _, _, _, _, _, _, rfl, _⟩ := h; rfl) | (obtain ⟨_, _, _, _, _, _, _, _, _, _, _, _, rfl, _⟩ := h; rfl) | (obtain ⟨_, _, _, _, _, _, _, _, _, _, _, _, _, rfl, _⟩ := h; rfl) | (obtain ⟨_, _, _, _, _, _, _, _, _, _, _, _, _, _, rfl, _⟩ := h; rfl) | (obtain ⟨_, _, _, _, _, _, _, _, _, _, _, _, _, _, _, rfl, _⟩ := h; rfl)) (t_law_made_plain K Ac (S_law_draw Ac) (S_law_near Ac) (S_law_checks Ac) (S_law_rows Ac) (S_law_word Ac) (S_law_units Ac) (S_Edge_plain Ac) (S_law_due Ac)) (fun cdv A outer s H E hr => red_law_made_plain T (S_law_draw Ac) (S_law_near Ac) (S_law_checks Ac) (S_law_rows Ac) (S_law_word Ac) (S_law_units Ac) (S_Edge_plain Ac) (S_law_due Ac) G_law_draw G_law_near G_law_checks G_law_rows G_law_word G_law_units G_Edge_plain_3 G_law_due G_Edge_plain_3_fresh_guards_effect_label G_Edge_plain_3_label_effect_guards_fresh G_Edge_plain_3_guards G_Edge_plain_3_effect_fresh G_Edge_plain_3_fresh_label G_Edge_plain_3_effect f cdv A outer s H E hr) (fun ds M kk h => z_law_made_plain T h)
theorem fn_law_made_plain {Ac : Cs} (T : Txt Ac K mg) (G_law_draw : FnZ P w K mg base "_law_draw" 1 (S_law_draw Ac)) (G_law_near : FnZ P w K mg base "_law_near" 2 (S_law_near Ac)) (G_law_checks : FnZ P w K mg base "_law_checks" 3 (S_law_checks Ac)) (G_law_rows : FnZ P w K mg base "_law_rows" 3 (S_law_rows Ac)) (G_law_word : FnZ P w K mg base "_law_word" 2 (S_law_word Ac)) (G_law_units : FnZ P w K mg base "_law_units" 1 (S_law_units Ac)) (G_Edge_plain_3 : CmKZ P w K mg base Ac.c_Edge "plain" 3 3 [] (fun vs zs => vs ++ ([(V.int 0)] ++ ([Ac.d_Edge_plain_guards] ++ ([V.non] ++ ([(V.str "plain")] ++ []))))) (S_Edge_plain Ac)) (G_law_due : FnZ P w K mg base "_law_due" 1 (S_law_due Ac)) (G_Edge_plain_3_fresh_guards_effect_label : CmKZ P w K mg base Ac.c_Edge "plain" 3 3 ["fresh", "guards", "effect", "label"] (fun vs zs => vs ++ ((zs.drop 0).take 1 ++ ((zs.drop 1).take 1 ++ ((zs.drop 2).take 1 ++ ((zs.drop 3).take 1 ++ []))))) (S_Edge_plain Ac)) (G_Edge_plain_3_label_effect_guards_fresh : CmKZ P w K mg base Ac.c_Edge "plain" 3 3 ["label", "effect", "guards", "fresh"] (fun vs zs => vs ++ ((zs.drop 3).take 1 ++ ((zs.drop 2).take 1 ++ ((zs.drop 1).take 1 ++ ((zs.drop 0).take 1 ++ []))))) (S_Edge_plain Ac)) (G_Edge_plain_3_guards : CmKZ P w K mg base Ac.c_Edge "plain" 3 3 ["guards"] (fun vs zs => vs ++ ([(V.int 0)] ++ ((zs.drop 0).take 1 ++ ([V.non] ++ ([(V.str "plain")] ++ []))))) (S_Edge_plain Ac)) (G_Edge_plain_3_effect_fresh : CmKZ P w K mg base Ac.c_Edge "plain" 3 3 ["effect", "fresh"] (fun vs zs => vs ++ ((zs.drop 1).take 1 ++ ([Ac.d_Edge_plain_guards] ++ ((zs.drop 0).take 1 ++ ([(V.str "plain")] ++ []))))) (S_Edge_plain Ac)) (G_Edge_plain_3_fresh_label : CmKZ P w K mg base Ac.c_Edge "plain" 3 3 ["fresh", "label"] (fun vs zs => vs ++ ((zs.drop 0).take 1 ++ ([Ac.d_Edge_plain_guards] ++ ([V.non] ++ ((zs.drop 1).take 1 ++ []))))) (S_Edge_plain Ac)) (G_Edge_plain_3_effect : CmKZ P w K mg base Ac.c_Edge "plain" 3 3 ["effect"] (fun vs zs => vs ++ ([(V.int 0)] ++ ([Ac.d_Edge_plain_guards] ++ ((zs.drop 0).take 1 ++ ([(V.str "plain")] ++ []))))) (S_Edge_plain Ac)) {f : Addr} {fd : FuncData} (F : FunD K "_law_made_plain" "_law_made_plain" (defArgs s_law_made_plain) (defBody s_law_made_plain) (defScope s_law_made_plain) [] [] f fd) (hm : mg "_law_made_plain" = some (.ref f)) : FnZ P w K mg base "_law_made_plain" 4 (S_law_made_plain Ac) := fnz_of F (fo_law_made_plain T G_law_draw G_law_near G_law_checks G_law_rows G_law_word G_law_units G_Edge_plain_3 G_law_due G_Edge_plain_3_fresh_guards_effect_label G_Edge_plain_3_label_effect_guards_fresh G_Edge_plain_3_guards G_Edge_plain_3_effect_fresh G_Edge_plain_3_fresh_label G_Edge_plain_3_effect F) hm (F.bindsN fun _ _ _ _ _ _ us hl => match us, hl with | [_], _ => rfl)
theorem fo_law_made_start {Ac : Cs} (T : Txt Ac K mg) (G_law_draw : FnZ P w K mg base "_law_draw" 1 (S_law_draw Ac)) (G_law_near : FnZ P w K mg base "_law_near" 2 (S_law_near Ac)) (G_law_checks : FnZ P w K mg base "_law_checks" 3 (S_law_checks Ac)) (G_law_rows : FnZ P w K mg base "_law_rows" 3 (S_law_rows Ac)) (G_Edge_start_2 : CmKZ P w K mg base Ac.c_Edge "start" 3 2 [] (fun vs zs => vs ++ ([Ac.d_Edge_start_guards] ++ ([Ac.d_Edge_start_effect] ++ []))) (S_Edge_start Ac)) (G_law_due : FnZ P w K mg base "_law_due" 1 (S_law_due Ac)) (G_Edge_start_2_guards_effect : CmKZ P w K mg base Ac.c_Edge "start" 3 2 ["guards", "effect"] (fun vs zs => vs ++ ((zs.drop 0).take 1 ++ ((zs.drop 1).take 1 ++ []))) (S_Edge_start Ac)) (G_Edge_start_2_effect : CmKZ P w K mg base Ac.c_Edge "start" 3 2 ["effect"] (fun vs zs => vs ++ ([Ac.d_Edge_start_guards] ++ ((zs.drop 0).take 1 ++ []))) (S_Edge_start Ac)) (G_Edge_start_2_effect_guards : CmKZ P w K mg base Ac.c_Edge "start" 3 2 ["effect", "guards"] (fun vs zs => vs ++ ((zs.drop 1).take 1 ++ ((zs.drop 0).take 1 ++ []))) (S_Edge_start Ac)) {f : Addr} {fd : FuncData} (F : FunD K "_law_made_start" "_law_made_start" (defArgs s_law_made_start) (defBody s_law_made_start) (defScope s_law_made_start) [] [] f fd) : FnOk P w K mg base CX0 4 f fd ["_law_purse_here"] (toSp K (S_law_made_start Ac)) :=
  fn_z F sc_law_made_start (S_law_made_start Ac) (fun ds M kk h => by unfold S_law_made_start at h; first | (obtain ⟨_, rfl, _⟩ := h; rfl) | (obtain ⟨_, _, rfl, _⟩ := h; rfl) | (obtain ⟨_, _, _, rfl, _⟩ := h; rfl) | (obtain ⟨_, _, _, _, rfl, _⟩ := h; rfl) | (obtain ⟨_, _, _, _, _, rfl, _⟩ := h; rfl) | (obtain ⟨_, _, _, _, _, _, rfl, _⟩ := h; rfl) | (obtain ⟨_, _, _, _, _, _, _, rfl, _⟩ := h; rfl) | (obtain ⟨_, _, _, _, _, _, _, _, rfl, _⟩ := h; rfl) | (obtain ⟨_, _, _, _, _, _, _, _, _, rfl, _⟩ := h; rfl) | (obtain ⟨_, _, _, _, _, _, _, _, _, _, rfl, _⟩ := h; rfl) | (obtain ⟨_, _, _, _, _, _, _, _, _, _, _, rfl, _⟩ := h; rfl) | (obtain ⟨_, _, _, _, _, _, _, _, _, _, _, _, rfl, _⟩ := h; rfl) | (obtain ⟨_, _, _, _, _, _, _, _, _, _, _, _, _, rfl, _⟩ := h; rfl) | (obtain ⟨_, _, _, _, _, _, _, _, _, _, _, _, _, _, rfl, _⟩ := h; rfl) | (obtain ⟨_, _, _, _, _, _, _, _, _, _, _, _, _, _, _, rfl, _⟩ := h; rfl)) (t_law_made_start K Ac (S_law_draw Ac) (S_law_near Ac) (S_law_checks Ac) (S_law_rows Ac) (S_Edge_start Ac) (S_law_due Ac)) (fun cdv A outer s H E hr => red_law_made_start T (S_law_draw Ac) (S_law_near Ac) (S_law_checks Ac) (S_law_rows Ac) (S_Edge_start Ac) (S_law_due Ac) G_law_draw G_law_near G_law_checks G_law_rows G_Edge_start_2 G_law_due G_Edge_start_2_guards_effect G_Edge_start_2_effect G_Edge_start_2_effect_guards f cdv A outer s H E hr) (fun ds M kk h => z_law_made_start T h)
theorem fn_law_made_start {Ac : Cs} (T : Txt Ac K mg) (G_law_draw : FnZ P w K mg base "_law_draw" 1 (S_law_draw Ac)) (G_law_near : FnZ P w K mg base "_law_near" 2 (S_law_near Ac)) (G_law_checks : FnZ P w K mg base "_law_checks" 3 (S_law_checks Ac)) (G_law_rows : FnZ P w K mg base "_law_rows" 3 (S_law_rows Ac)) (G_Edge_start_2 : CmKZ P w K mg base Ac.c_Edge "start" 3 2 [] (fun vs zs => vs ++ ([Ac.d_Edge_start_guards] ++ ([Ac.d_Edge_start_effect] ++ []))) (S_Edge_start Ac)) (G_law_due : FnZ P w K mg base "_law_due" 1 (S_law_due Ac)) (G_Edge_start_2_guards_effect : CmKZ P w K mg base Ac.c_Edge "start" 3 2 ["guards", "effect"] (fun vs zs => vs ++ ((zs.drop 0).take 1 ++ ((zs.drop 1).take 1 ++ []))) (S_Edge_start Ac)) (G_Edge_start_2_effect : CmKZ P w K mg base Ac.c_Edge "start" 3 2 ["effect"] (fun vs zs => vs ++ ([Ac.d_Edge_start_guards] ++ ((zs.drop 0).take 1 ++ []))) (S_Edge_start Ac)) (G_Edge_start_2_effect_guards : CmKZ P w K mg base Ac.c_Edge "start" 3 2 ["effect", "guards"] (fun vs zs => vs ++ ((zs.drop 1).take 1 ++ ((zs.drop 0).take 1 ++ []))) (S_Edge_start Ac)) {f : Addr} {fd : FuncData} (F : FunD K "_law_made_start" "_law_made_start" (defArgs s_law_made_start) (defBody s_law_made_start) (defScope s_law_made_start) [] [] f fd) (hm : mg "_law_made_start" = some (.ref f)) : FnZ P w K mg base "_law_made_start" 4 (S_law_made_start Ac) := fnz_of F (fo_law_made_start T G_law_draw G_law_near G_law_checks G_law_rows G_Edge_start_2 G_law_due G_Edge_start_2_guards_effect G_Edge_start_2_effect G_Edge_start_2_effect_guards F) hm (F.bindsN fun _ _ _ _ _ _ us hl => match us, hl with | [_], _ => rfl)
theorem fo_law_made {Ac : Cs} (T : Txt Ac K mg) (G_law_draw : FnZ P w K mg base "_law_draw" 1 (S_law_draw Ac)) (G_law_near : FnZ P w K mg base "_law_near" 2 (S_law_near Ac)) (G_law_pairs : FnZ P w K mg base "_law_pairs" 4 (S_law_pairs Ac)) (G_law_checks : FnZ P w K mg base "_law_checks" 3 (S_law_checks Ac)) (G_law_rows : FnZ P w K mg base "_law_rows" 3 (S_law_rows Ac)) (G_law_word : FnZ P w K mg base "_law_word" 2 (S_law_word Ac)) (G_Edge_init_2 : MkKZ P w K mg base "Edge" Ac.c_Edge 1 2 [] (fun vs zs => vs ++ ([Ac.d_Edge_init_sources] ++ ([Ac.d_Edge_init_guards] ++ ([Ac.d_Edge_init_effect] ++ ([(V.str "plain")] ++ []))))) (S_Edge_init Ac)) (G_law_due : FnZ P w K mg base "_law_due" 1 (S_law_due Ac)) (G_Edge_init_2_label_effect_guards_sources : MkKZ P w K mg base "Edge" Ac.c_Edge 1 2 ["label", "effect", "guards", "sources"] (fun vs zs => vs ++ ((zs.drop 3).take 1 ++ ((zs.drop 2).take 1 ++ ((zs.drop 1).take 1 ++ ((zs.drop 0).take 1 ++ []))))) (S_Edge_init Ac)) (G_Edge_init_2_sources_effect : MkKZ P w K mg base "Edge" Ac.c_Edge 1 2 ["sources", "effect"] (fun vs zs => vs ++ ((zs.drop 0).take 1 ++ ([Ac.d_Edge_init_guards] ++ ((zs.drop 1).take 1 ++ ([(V.str "plain")] ++ []))))) (S_Edge_init Ac)) (G_Edge_init_2_guards : MkKZ P w K mg base "Edge" Ac.c_Edge 1 2 ["guards"] (fun vs zs => vs ++ ([Ac.d_Edge_init_sources] ++ ((zs.drop 0).take 1 ++ ([Ac.d_Edge_init_effect] ++ ([(V.str "plain")] ++ []))))) (S_Edge_init Ac)) (G_Edge_init_2_label_sources : MkKZ P w K mg base "Edge" Ac.c_Edge 1 2 ["label", "sources"] (fun vs zs => vs ++ ((zs.drop 1).take 1 ++ ([Ac.d_Edge_init_guards] ++ ([Ac.d_Edge_init_effect] ++ ((zs.drop 0).take 1 ++ []))))) (S_Edge_init Ac)) (G_Edge_init_2_effect_label : MkKZ P w K mg base "Edge" Ac.c_Edge 1 2 ["effect", "label"] (fun vs zs => vs ++ ([Ac.d_Edge_init_sources] ++ ([Ac.d_Edge_init_guards] ++ ((zs.drop 0).take 1 ++ ((zs.drop 1).take 1 ++ []))))) (S_Edge_init Ac)) (G_Edge_init_2_sources_guards_effect_label : MkKZ P w K mg base "Edge" Ac.c_Edge 1 2 ["sources", "guards", "effect", "label"] (fun vs zs => vs ++ ((zs.drop 0).take 1 ++ ((zs.drop 1).take 1 ++ ((zs.drop 2).take 1 ++ ((zs.drop 3).take 1 ++ []))))) (S_Edge_init Ac)) {f : Addr} {fd : FuncData} (F : FunD K "_law_made" "_law_made" (defArgs s_law_made) (defBody s_law_made) (defScope s_law_made) [] [] f fd) : FnOk P w K mg base CX0 5 f fd ["_law_purse_here"] (toSp K (S_law_made Ac)) :=
  fn_z F sc_law_made (S_law_made Ac) (fun ds M kk h => by unfold S_law_made at h; first | (obtain ⟨_, rfl, _⟩ := h; rfl) | (obtain ⟨_, _, rfl, _⟩ := h; rfl) | (obtain ⟨_, _, _, rfl, _⟩ := h; rfl) | (obtain ⟨_, _, _, _, rfl, _⟩ := h; rfl) | (obtain ⟨_, _, _, _, _, rfl, _⟩ := h; rfl) | (obtain ⟨_, _, _, _, _, _, rfl, _⟩ := h; rfl) | (obtain ⟨_, _, _, _, _, _, _, rfl, _⟩ := h; rfl) | (obtain ⟨_, _, _, _, _, _, _, _, rfl, _⟩ := h; rfl) | (obtain ⟨_, _, _, _, _, _, _, _, _, rfl, _⟩ := h; rfl) | (obtain ⟨_, _, _, _, _, _, _, _, _, _, rfl, _⟩ := h; rfl) | (obtain ⟨_, _, _, _, _, _, _, _, _, _, _, rfl, _⟩ := h; rfl) | (obtain ⟨_, _, _, _, _, _, _, _, _, _, _, _, rfl, _⟩ := h; rfl) | (obtain ⟨_, _, _, _, _, _, _, _, _, _, _, _, _, rfl, _⟩ := h; rfl) | (obtain ⟨_, _, _, _, _, _, _, _, _, _, _, _, _, _, rfl, _⟩ := h; rfl) | (obtain ⟨_, _, _, _, _, _, _, _, _, _, _, _, _, _, _, rfl, _⟩ := h; rfl)) (t_law_made K Ac (S_law_draw Ac) (S_law_near Ac) (S_law_pairs Ac) (S_law_checks Ac) (S_law_rows Ac) (S_law_word Ac) (S_Edge_init Ac) (S_law_due Ac)) (fun cdv A outer s H E hr => red_law_made T (S_law_draw Ac) (S_law_near Ac) (S_law_pairs Ac) (S_law_checks Ac) (S_law_rows Ac) (S_law_word Ac) (S_Edge_init Ac) (S_law_due Ac) G_law_draw G_law_near G_law_pairs G_law_checks G_law_rows G_law_word G_Edge_init_2 G_law_due G_Edge_init_2_label_effect_guards_sources G_Edge_init_2_sources_effect G_Edge_init_2_guards G_Edge_init_2_label_sources G_Edge_init_2_effect_label G_Edge_init_2_sources_guards_effect_label f cdv A outer s H E hr) (fun ds M kk h => z_law_made T h)
theorem fn_law_made {Ac : Cs} (T : Txt Ac K mg) (G_law_draw : FnZ P w K mg base "_law_draw" 1 (S_law_draw Ac)) (G_law_near : FnZ P w K mg base "_law_near" 2 (S_law_near Ac)) (G_law_pairs : FnZ P w K mg base "_law_pairs" 4 (S_law_pairs Ac)) (G_law_checks : FnZ P w K mg base "_law_checks" 3 (S_law_checks Ac)) (G_law_rows : FnZ P w K mg base "_law_rows" 3 (S_law_rows Ac)) (G_law_word : FnZ P w K mg base "_law_word" 2 (S_law_word Ac)) (G_Edge_init_2 : MkKZ P w K mg base "Edge" Ac.c_Edge 1 2 [] (fun vs zs => vs ++ ([Ac.d_Edge_init_sources] ++ ([Ac.d_Edge_init_guards] ++ ([Ac.d_Edge_init_effect] ++ ([(V.str "plain")] ++ []))))) (S_Edge_init Ac)) (G_law_due : FnZ P w K mg base "_law_due" 1 (S_law_due Ac)) (G_Edge_init_2_label_effect_guards_sources : MkKZ P w K mg base "Edge" Ac.c_Edge 1 2 ["label", "effect", "guards", "sources"] (fun vs zs => vs ++ ((zs.drop 3).take 1 ++ ((zs.drop 2).take 1 ++ ((zs.drop 1).take 1 ++ ((zs.drop 0).take 1 ++ []))))) (S_Edge_init Ac)) (G_Edge_init_2_sources_effect : MkKZ P w K mg base "Edge" Ac.c_Edge 1 2 ["sources", "effect"] (fun vs zs => vs ++ ((zs.drop 0).take 1 ++ ([Ac.d_Edge_init_guards] ++ ((zs.drop 1).take 1 ++ ([(V.str "plain")] ++ []))))) (S_Edge_init Ac)) (G_Edge_init_2_guards : MkKZ P w K mg base "Edge" Ac.c_Edge 1 2 ["guards"] (fun vs zs => vs ++ ([Ac.d_Edge_init_sources] ++ ((zs.drop 0).take 1 ++ ([Ac.d_Edge_init_effect] ++ ([(V.str "plain")] ++ []))))) (S_Edge_init Ac)) (G_Edge_init_2_label_sources : MkKZ P w K mg base "Edge" Ac.c_Edge 1 2 ["label", "sources"] (fun vs zs => vs ++ ((zs.drop 1).take 1 ++ ([Ac.d_Edge_init_guards] ++ ([Ac.d_Edge_init_effect] ++ ((zs.drop 0).take 1 ++ []))))) (S_Edge_init Ac)) (G_Edge_init_2_effect_label : MkKZ P w K mg base "Edge" Ac.c_Edge 1 2 ["effect", "label"] (fun vs zs => vs ++ ([Ac.d_Edge_init_sources] ++ ([Ac.d_Edge_init_guards] ++ ((zs.drop 0).take 1 ++ ((zs.drop 1).take 1 ++ []))))) (S_Edge_init Ac)) (G_Edge_init_2_sources_guards_effect_label : MkKZ P w K mg base "Edge" Ac.c_Edge 1 2 ["sources", "guards", "effect", "label"] (fun vs zs => vs ++ ((zs.drop 0).take 1 ++ ((zs.drop 1).take 1 ++ ((zs.drop 2).take 1 ++ ((zs.drop 3).take 1 ++ []))))) (S_Edge_init Ac)) {f : Addr} {fd : FuncData} (F : FunD K "_law_made" "_law_made" (defArgs s_law_made) (defBody s_law_made) (defScope s_law_made) [] [] f fd) (hm : mg "_law_made" = some (.ref f)) : FnZ P w K mg base "_law_made" 5 (S_law_made Ac) := fnz_of F (fo_law_made T G_law_draw G_law_near G_law_pairs G_law_checks G_law_rows G_law_word G_Edge_init_2 G_law_due G_Edge_init_2_label_effect_guards_sources G_Edge_init_2_sources_effect G_Edge_init_2_guards G_Edge_init_2_label_sources G_Edge_init_2_effect_label G_Edge_init_2_sources_guards_effect_label F) hm (F.bindsN fun _ _ _ _ _ _ us hl => match us, hl with | [_], _ => rfl)
theorem Sn0_law_same {Ac : Cs} {ds : List D} {M : Mem} {kk : D → Mem → Prop} (h : Sn_law_same Ac 0 ds M kk) : False := by
  unfold Sn_law_same at h
  obtain ⟨_, _, _, _, _, _, hm, _⟩ := h
  cases hm
theorem fn_law_same {Ac : Cs} (T : Txt Ac K mg) {f : Addr} {fd : FuncData} (F : FunD K "_law_same" "_law_same" (defArgs s_law_same) (defBody s_law_same) (defScope s_law_same) [] [] f fd) (hm : mg "_law_same" = some (.ref f)) : ∀ n_ : Nat, FnZ P w K mg base "_law_same" (1 + n_) (Sn_law_same Ac n_)
  | 0 => (fnz_of F (fn_z (k := 0) F sc_law_same (Sn_law_same Ac 0) (fun ds M kk h => by unfold Sn_law_same at h; first | (obtain ⟨_, rfl, _⟩ := h; rfl) | (obtain ⟨_, _, rfl, _⟩ := h; rfl) | (obtain ⟨_, _, _, rfl, _⟩ := h; rfl) | (obtain ⟨_, _, _, _, rfl, _⟩ := h; rfl) | (obtain ⟨_, _, _, _, _, rfl, _⟩ := h; rfl) | (obtain ⟨_, _, _, _, _, _, rfl, _⟩ := h; rfl) | (obtain ⟨_, _, _, _, _, _, _, rfl, _⟩ := h; rfl) | (obtain ⟨_, _, _, _, _, _, _, _, rfl, _⟩ := h; rfl) | (obtain ⟨_, _, _, _, _, _, _, _, _, rfl, _⟩ := h; rfl) | (obtain ⟨_, _, _, _, _, _, _, _, _, _, rfl, _⟩ := h; rfl) | (obtain ⟨_, _, _, _, _, _, _, _, _, _, _, rfl, _⟩ := h; rfl) | (obtain ⟨_, _, _, _, _, _, _, _, _, _, _, _, rfl, _⟩ := h; rfl) | (obtain ⟨_, _, _, _, _, _, _, _, _, _, _, _, _, rfl, _⟩ := h; rfl) | (obtain ⟨_, _, _, _, _, _, _, _, _, _, _, _, _, _, rfl, _⟩ := h; rfl) | (obtain ⟨_, _, _, _, _, _, _, _, _, _, _, _, _, _, _, rfl, _⟩ := h; rfl)) tNever (fun cdv A outer s H E hr => pss_never) (fun ds M kk h => (Sn0_law_same h).elim)) hm (F.bindsN fun _ _ _ _ _ _ us hl => match us, hl with | [_, _], _ => rfl)).up (by omega)
  | n_ + 1 => (fnz_of F (fn_z (k := 1 + n_) F sc_law_same (Sn_law_same Ac (n_ + 1)) (fun ds M kk h => by unfold Sn_law_same at h; first | (obtain ⟨_, rfl, _⟩ := h; rfl) | (obtain ⟨_, _, rfl, _⟩ := h; rfl) | (obtain ⟨_, _, _, rfl, _⟩ := h; rfl) | (obtain ⟨_, _, _, _, rfl, _⟩ := h; rfl) | (obtain ⟨_, _, _, _, _, rfl, _⟩ := h; rfl) | (obtain ⟨_, _, _, _, _, _, rfl, _⟩ := h; rfl) | (obtain ⟨_, _, _, _, _, _, _, rfl, _⟩ := h; rfl) | (obtain ⟨_, _, _, _, _, _, _, _, rfl, _⟩ := h; rfl) | (obtain ⟨_, _, _, _, _, _, _, _, _, rfl, _⟩ := h; rfl) | (obtain ⟨_, _, _, _, _, _, _, _, _, _, rfl, _⟩ := h; rfl) | (obtain ⟨_, _, _, _, _, _, _, _, _, _, _, rfl, _⟩ := h; rfl) | (obtain ⟨_, _, _, _, _, _, _, _, _, _, _, _, rfl, _⟩ := h; rfl) | (obtain ⟨_, _, _, _, _, _, _, _, _, _, _, _, _, rfl, _⟩ := h; rfl) | (obtain ⟨_, _, _, _, _, _, _, _, _, _, _, _, _, _, rfl, _⟩ := h; rfl) | (obtain ⟨_, _, _, _, _, _, _, _, _, _, _, _, _, _, _, rfl, _⟩ := h; rfl)) (t_law_same K Ac (Sn_law_same Ac n_)) (fun cdv A outer s H E hr => red_law_same T n_ (Sn_law_same Ac n_) (fn_law_same T F hm n_) f cdv A outer s H E hr) (fun ds M kk h => z_law_same T h)) hm (F.bindsN fun _ _ _ _ _ _ us hl => match us, hl with | [_, _], _ => rfl)).up (by omega)
theorem fo_law_frame_holds {Ac : Cs} (T : Txt Ac K mg) (G_law_word : FnZ P w K mg base "_law_word" 2 (S_law_word Ac)) (G_law_draw : FnZ P w K mg base "_law_draw" 1 (S_law_draw Ac)) (G_law_coefficient : FnZ P w K mg base "_law_coefficient" 2 (S_law_coefficient Ac)) (G_Frame_init : MkZ P w K mg base "Frame" Ac.c_Frame 1 (S_Frame_init Ac)) (G_law_same : FnZ P w K mg base "_law_same" 11 (S_law_same Ac)) {f : Addr} {fd : FuncData} (F : FunD K "_law_frame_holds" "_law_frame_holds" (defArgs s_law_frame_holds) (defBody s_law_frame_holds) (defScope s_law_frame_holds) [] [] f fd) : FnOk P w K mg base CX0 12 f fd ["_law_purse_here"] (toSp K (S_law_frame_holds Ac)) :=
  fn_z F sc_law_frame_holds (S_law_frame_holds Ac) (fun ds M kk h => by unfold S_law_frame_holds at h; first | (obtain ⟨_, rfl, _⟩ := h; rfl) | (obtain ⟨_, _, rfl, _⟩ := h; rfl) | (obtain ⟨_, _, _, rfl, _⟩ := h; rfl) | (obtain ⟨_, _, _, _, rfl, _⟩ := h; rfl) | (obtain ⟨_, _, _, _, _, rfl, _⟩ := h; rfl) | (obtain ⟨_, _, _, _, _, _, rfl, _⟩ := h; rfl) | (obtain ⟨_, _, _, _, _, _, _, rfl, _⟩ := h; rfl) | (obtain ⟨_, _, _, _, _, _, _, _, rfl, _⟩ := h; rfl) | (obtain ⟨_, _, _, _, _, _, _, _, _, rfl, _⟩ := h; rfl) | (obtain ⟨_, _, _, _, _, _, _, _, _, _, rfl, _⟩ := h; rfl) | (obtain ⟨_, _, _, _, _, _, _, _, _, _, _, rfl, _⟩ := h; rfl) | (obtain ⟨_, _, _, _, _, _, _, _, _, _, _, _, rfl, _⟩ := h; rfl) | (obtain ⟨_, _, _, _, _, _, _, _, _, _, _, _, _, rfl, _⟩ := h; rfl) | (obtain ⟨_, _, _, _, _, _, _, _, _, _, _, _, _, _, rfl, _⟩ := h; rfl) | (obtain ⟨_, _, _, _, _, _, _, _, _, _, _, _, _, _, _, rfl, _⟩ := h; rfl)) (t_law_frame_holds K Ac (S_law_word Ac) (S_law_draw Ac) (S_law_coefficient Ac) (S_Frame_init Ac) (S_law_same Ac)) (fun cdv A outer s H E hr => red_law_frame_holds T (S_law_word Ac) (S_law_draw Ac) (S_law_coefficient Ac) (S_Frame_init Ac) (S_law_same Ac) G_law_word G_law_draw G_law_coefficient G_Frame_init G_law_same f cdv A outer s H E hr) (fun ds M kk h => z_law_frame_holds T h)
theorem fn_law_frame_holds {Ac : Cs} (T : Txt Ac K mg) (G_law_word : FnZ P w K mg base "_law_word" 2 (S_law_word Ac)) (G_law_draw : FnZ P w K mg base "_law_draw" 1 (S_law_draw Ac)) (G_law_coefficient : FnZ P w K mg base "_law_coefficient" 2 (S_law_coefficient Ac)) (G_Frame_init : MkZ P w K mg base "Frame" Ac.c_Frame 1 (S_Frame_init Ac)) (G_law_same : FnZ P w K mg base "_law_same" 11 (S_law_same Ac)) {f : Addr} {fd : FuncData} (F : FunD K "_law_frame_holds" "_law_frame_holds" (defArgs s_law_frame_holds) (defBody s_law_frame_holds) (defScope s_law_frame_holds) [] [] f fd) (hm : mg "_law_frame_holds" = some (.ref f)) : FnZ P w K mg base "_law_frame_holds" 12 (S_law_frame_holds Ac) := fnz_of F (fo_law_frame_holds T G_law_word G_law_draw G_law_coefficient G_Frame_init G_law_same F) hm (F.bindsN fun _ _ _ _ _ _ us hl => match us, hl with | [_], _ => rfl)
theorem fo_law_sums_hold {Ac : Cs} (T : Txt Ac K mg) (G_law_value : FnZ P w K mg base "_law_value" 1 (S_law_value Ac)) (G_Edge_guards_hold : MtZ P w K mg base Ac.c_Edge "guards_hold" 2 (S_Edge_guards_hold Ac)) (G_Edge_source_state : MtZ P w K mg base Ac.c_Edge "source_state" 2 (S_Edge_source_state Ac)) (G_law_same : FnZ P w K mg base "_law_same" 11 (S_law_same Ac)) (G_Edge_target_state : MtZ P w K mg base Ac.c_Edge "target_state" 2 (S_Edge_target_state Ac)) {f : Addr} {fd : FuncData} (F : FunD K "_law_sums_hold" "_law_sums_hold" (defArgs s_law_sums_hold) (defBody s_law_sums_hold) (defScope s_law_sums_hold) [] [] f fd) : FnOk P w K mg base CX0 12 f fd ["_law_edge", "_law_due_here", "_law_values"] (toSp K (S_law_sums_hold Ac)) :=
  fn_z F sc_law_sums_hold (S_law_sums_hold Ac) (fun ds M kk h => by unfold S_law_sums_hold at h; first | (obtain ⟨_, rfl, _⟩ := h; rfl) | (obtain ⟨_, _, rfl, _⟩ := h; rfl) | (obtain ⟨_, _, _, rfl, _⟩ := h; rfl) | (obtain ⟨_, _, _, _, rfl, _⟩ := h; rfl) | (obtain ⟨_, _, _, _, _, rfl, _⟩ := h; rfl) | (obtain ⟨_, _, _, _, _, _, rfl, _⟩ := h; rfl) | (obtain ⟨_, _, _, _, _, _, _, rfl, _⟩ := h; rfl) | (obtain ⟨_, _, _, _, _, _, _, _, rfl, _⟩ := h; rfl) | (obtain ⟨_, _, _, _, _, _, _, _, _, rfl, _⟩ := h; rfl) | (obtain ⟨_, _, _, _, _, _, _, _, _, _, rfl, _⟩ := h; rfl) | (obtain ⟨_, _, _, _, _, _, _, _, _, _, _, rfl, _⟩ := h; rfl) | (obtain ⟨_, _, _, _, _, _, _, _, _, _, _, _, rfl, _⟩ := h; rfl) | (obtain ⟨_, _, _, _, _, _, _, _, _, _, _, _, _, rfl, _⟩ := h; rfl) | (obtain ⟨_, _, _, _, _, _, _, _, _, _, _, _, _, _, rfl, _⟩ := h; rfl) | (obtain ⟨_, _, _, _, _, _, _, _, _, _, _, _, _, _, _, rfl, _⟩ := h; rfl)) (t_law_sums_hold K Ac (S_law_value Ac) (S_Edge_guards_hold Ac) (S_Edge_source_state Ac) (S_law_same Ac) (S_Edge_target_state Ac)) (fun cdv A outer s H E hr => red_law_sums_hold T (S_law_value Ac) (S_Edge_guards_hold Ac) (S_Edge_source_state Ac) (S_law_same Ac) (S_Edge_target_state Ac) G_law_value G_Edge_guards_hold G_Edge_source_state G_law_same G_Edge_target_state f cdv A outer s H E hr) (fun ds M kk h => z_law_sums_hold T h)
theorem fn_law_sums_hold {Ac : Cs} (T : Txt Ac K mg) (G_law_value : FnZ P w K mg base "_law_value" 1 (S_law_value Ac)) (G_Edge_guards_hold : MtZ P w K mg base Ac.c_Edge "guards_hold" 2 (S_Edge_guards_hold Ac)) (G_Edge_source_state : MtZ P w K mg base Ac.c_Edge "source_state" 2 (S_Edge_source_state Ac)) (G_law_same : FnZ P w K mg base "_law_same" 11 (S_law_same Ac)) (G_Edge_target_state : MtZ P w K mg base Ac.c_Edge "target_state" 2 (S_Edge_target_state Ac)) {f : Addr} {fd : FuncData} (F : FunD K "_law_sums_hold" "_law_sums_hold" (defArgs s_law_sums_hold) (defBody s_law_sums_hold) (defScope s_law_sums_hold) [] [] f fd) (hm : mg "_law_sums_hold" = some (.ref f)) : FnZ P w K mg base "_law_sums_hold" 12 (S_law_sums_hold Ac) := fnz_of F (fo_law_sums_hold T G_law_value G_Edge_guards_hold G_Edge_source_state G_law_same G_Edge_target_state F) hm (F.bindsN fun _ _ _ _ _ _ us hl => match us, hl with | [_, _, _], _ => rfl)
theorem fo_law_copies_hold {Ac : Cs} (T : Txt Ac K mg) (G_law_draw : FnZ P w K mg base "_law_draw" 1 (S_law_draw Ac)) (G_law_coefficient : FnZ P w K mg base "_law_coefficient" 2 (S_law_coefficient Ac)) (G_law_constant : FnZ P w K mg base "_law_constant" 2 (S_law_constant Ac)) (G_Edge_with_guard : MtZ P w K mg base Ac.c_Edge "with_guard" 3 (S_Edge_with_guard Ac)) (G_Edge_closed : MtZ P w K mg base Ac.c_Edge "closed" 4 (S_Edge_closed Ac)) (G_law_edge_seen : FnZ P w K mg base "_law_edge_seen" 1 (S_law_edge_seen Ac)) (G_law_same : FnZ P w K mg base "_law_same" 11 (S_law_same Ac)) (G_law_sums_hold : FnZ P w K mg base "_law_sums_hold" 12 (S_law_sums_hold Ac)) (G_Edge_guards_hold : MtZ P w K mg base Ac.c_Edge "guards_hold" 2 (S_Edge_guards_hold Ac)) {f : Addr} {fd : FuncData} (F : FunD K "_law_copies_hold" "_law_copies_hold" (defArgs s_law_copies_hold) (defBody s_law_copies_hold) (defScope s_law_copies_hold) [] [] f fd) : FnOk P w K mg base CX0 13 f fd ["_law_purse_here", "_law_edge", "_law_due_here", "_law_near_here"] (toSp K (S_law_copies_hold Ac)) :=
  fn_z F sc_law_copies_hold (S_law_copies_hold Ac) (fun ds M kk h => by unfold S_law_copies_hold at h; first | (obtain ⟨_, rfl, _⟩ := h; rfl) | (obtain ⟨_, _, rfl, _⟩ := h; rfl) | (obtain ⟨_, _, _, rfl, _⟩ := h; rfl) | (obtain ⟨_, _, _, _, rfl, _⟩ := h; rfl) | (obtain ⟨_, _, _, _, _, rfl, _⟩ := h; rfl) | (obtain ⟨_, _, _, _, _, _, rfl, _⟩ := h; rfl) | (obtain ⟨_, _, _, _, _, _, _, rfl, _⟩ := h; rfl) | (obtain ⟨_, _, _, _, _, _, _, _, rfl, _⟩ := h; rfl) | (obtain ⟨_, _, _, _, _, _, _, _, _, rfl, _⟩ := h; rfl) | (obtain ⟨_, _, _, _, _, _, _, _, _, _, rfl, _⟩ := h; rfl) | (obtain ⟨_, _, _, _, _, _, _, _, _, _, _, rfl, _⟩ := h; rfl) | (obtain ⟨_, _, _, _, _, _, _, _, _, _, _, _, rfl, _⟩ := h; rfl) | (obtain ⟨_, _, _, _, _, _, _, _, _, _, _, _, _, rfl, _⟩ := h; rfl) | (obtain ⟨_, _, _, _, _, _, _, _, _, _, _, _, _, _, rfl, _⟩ := h; rfl) | (obtain ⟨_, _, _, _, _, _, _, _, _, _, _, _, _, _, _, rfl, _⟩ := h; rfl)) (t_law_copies_hold K Ac (S_law_draw Ac) (S_law_coefficient Ac) (S_law_constant Ac) (S_Edge_with_guard Ac) (S_Edge_closed Ac) (S_law_edge_seen Ac) (S_law_same Ac) (S_law_sums_hold Ac) (S_Edge_guards_hold Ac)) (fun cdv A outer s H E hr => red_law_copies_hold T (S_law_draw Ac) (S_law_coefficient Ac) (S_law_constant Ac) (S_Edge_with_guard Ac) (S_Edge_closed Ac) (S_law_edge_seen Ac) (S_law_same Ac) (S_law_sums_hold Ac) (S_Edge_guards_hold Ac) G_law_draw G_law_coefficient G_law_constant G_Edge_with_guard G_Edge_closed G_law_edge_seen G_law_same G_law_sums_hold G_Edge_guards_hold f cdv A outer s H E hr) (fun ds M kk h => z_law_copies_hold T h)
theorem fn_law_copies_hold {Ac : Cs} (T : Txt Ac K mg) (G_law_draw : FnZ P w K mg base "_law_draw" 1 (S_law_draw Ac)) (G_law_coefficient : FnZ P w K mg base "_law_coefficient" 2 (S_law_coefficient Ac)) (G_law_constant : FnZ P w K mg base "_law_constant" 2 (S_law_constant Ac)) (G_Edge_with_guard : MtZ P w K mg base Ac.c_Edge "with_guard" 3 (S_Edge_with_guard Ac)) (G_Edge_closed : MtZ P w K mg base Ac.c_Edge "closed" 4 (S_Edge_closed Ac)) (G_law_edge_seen : FnZ P w K mg base "_law_edge_seen" 1 (S_law_edge_seen Ac)) (G_law_same : FnZ P w K mg base "_law_same" 11 (S_law_same Ac)) (G_law_sums_hold : FnZ P w K mg base "_law_sums_hold" 12 (S_law_sums_hold Ac)) (G_Edge_guards_hold : MtZ P w K mg base Ac.c_Edge "guards_hold" 2 (S_Edge_guards_hold Ac)) {f : Addr} {fd : FuncData} (F : FunD K "_law_copies_hold" "_law_copies_hold" (defArgs s_law_copies_hold) (defBody s_law_copies_hold) (defScope s_law_copies_hold) [] [] f fd) (hm : mg "_law_copies_hold" = some (.ref f)) : FnZ P w K mg base "_law_copies_hold" 13 (S_law_copies_hold Ac) := fnz_of F (fo_law_copies_hold T G_law_draw G_law_coefficient G_law_constant G_Edge_with_guard G_Edge_closed G_law_edge_seen G_law_same G_law_sums_hold G_Edge_guards_hold F) hm (F.bindsN fun _ _ _ _ _ _ us hl => match us, hl with | [_, _, _, _], _ => rfl)
theorem slaw_ok {Ac : Cs} {ds : List D} {M : Mem} {kk : D → Mem → Prop} (h : SLaw ds M kk) : S_law Ac ds M kk := by
  obtain ⟨ns, rfl, rfl, hl, hk⟩ := h
  exact ⟨_, _, rfl, law_ok ns hl, hk _⟩
theorem fo_law {Ac : Cs} (T : Txt Ac K mg) (G_law_purse : FnZ P w K mg base "_law_purse" 1 (S_law_purse Ac)) (G_law_frame_holds : FnZ P w K mg base "_law_frame_holds" 12 (S_law_frame_holds Ac)) (G_law_same : FnZ P w K mg base "_law_same" 11 (S_law_same Ac)) (G_law_draw : FnZ P w K mg base "_law_draw" 1 (S_law_draw Ac)) (G_law_made : FnZ P w K mg base "_law_made" 5 (S_law_made Ac)) (G_law_made_plain : FnZ P w K mg base "_law_made_plain" 4 (S_law_made_plain Ac)) (G_law_made_start : FnZ P w K mg base "_law_made_start" 4 (S_law_made_start Ac)) (G_law_edge_seen : FnZ P w K mg base "_law_edge_seen" 1 (S_law_edge_seen Ac)) (G_law_sums_hold : FnZ P w K mg base "_law_sums_hold" 12 (S_law_sums_hold Ac)) (G_law_far : FnZ P w K mg base "_law_far" 2 (S_law_far Ac)) (G_law_copies_hold : FnZ P w K mg base "_law_copies_hold" 13 (S_law_copies_hold Ac)) {f : Addr} {fd : FuncData} (F : FunD K "law" "law" (defArgs s_law) (defBody s_law) (defScope s_law) [] [] f fd) : FnOk P w K mg base CX0 14 f fd ["_law_script"] (toSp K SLaw) :=
  fn_z F sc_law SLaw (fun ds M kk h => by unfold SLaw at h; first | (obtain ⟨_, rfl, _⟩ := h; rfl) | (obtain ⟨_, _, rfl, _⟩ := h; rfl) | (obtain ⟨_, _, _, rfl, _⟩ := h; rfl) | (obtain ⟨_, _, _, _, rfl, _⟩ := h; rfl) | (obtain ⟨_, _, _, _, _, rfl, _⟩ := h; rfl) | (obtain ⟨_, _, _, _, _, _, rfl, _⟩ := h; rfl) | (obtain ⟨_, _, _, _, _, _, _, rfl, _⟩ := h; rfl) | (obtain ⟨_, _, _, _, _, _, _, _, rfl, _⟩ := h; rfl) | (obtain ⟨_, _, _, _, _, _, _, _, _, rfl, _⟩ := h; rfl) | (obtain ⟨_, _, _, _, _, _, _, _, _, _, rfl, _⟩ := h; rfl) | (obtain ⟨_, _, _, _, _, _, _, _, _, _, _, rfl, _⟩ := h; rfl) | (obtain ⟨_, _, _, _, _, _, _, _, _, _, _, _, rfl, _⟩ := h; rfl) | (obtain ⟨_, _, _, _, _, _, _, _, _, _, _, _, _, rfl, _⟩ := h; rfl) | (obtain ⟨_, _, _, _, _, _, _, _, _, _, _, _, _, _, rfl, _⟩ := h; rfl) | (obtain ⟨_, _, _, _, _, _, _, _, _, _, _, _, _, _, _, rfl, _⟩ := h; rfl)) (t_law K Ac (S_law_purse Ac) (S_law_frame_holds Ac) (S_law_same Ac) (S_law_draw Ac) (S_law_made Ac) (S_law_made_plain Ac) (S_law_made_start Ac) (S_law_edge_seen Ac) (S_law_sums_hold Ac) (S_law_far Ac) (S_law_copies_hold Ac)) (fun cdv A outer s H E hr => red_law T (S_law_purse Ac) (S_law_frame_holds Ac) (S_law_same Ac) (S_law_draw Ac) (S_law_made Ac) (S_law_made_plain Ac) (S_law_made_start Ac) (S_law_edge_seen Ac) (S_law_sums_hold Ac) (S_law_far Ac) (S_law_copies_hold Ac) G_law_purse G_law_frame_holds G_law_same G_law_draw G_law_made G_law_made_plain G_law_made_start G_law_edge_seen G_law_sums_hold G_law_far G_law_copies_hold f cdv A outer s H E hr) (fun ds M kk h => z_law T (slaw_ok h))
end
def d_affine_value : He5.DefA := ⟨(fun K => He.fAd K ("affine_value", none)), "affine_value", "affine_value", defArgs s_affine_value, defBody s_affine_value, defScope s_affine_value, [], []⟩
def d_unit_row : He5.DefA := ⟨(fun K => He.fAd K ("unit_row", none)), "unit_row", "unit_row", defArgs s_unit_row, defBody s_unit_row, defScope s_unit_row, [], []⟩
def d_Frame_init : He5.DefA := ⟨(fun K => He.fAd K ("Frame", some "__init__")), "__init__", "Frame.__init__", defArgs s_Frame_init, defBody s_Frame_init, defScope s_Frame_init, [], []⟩
def d_Edge_init : He5.DefA := ⟨(fun K => He.fAd K ("Edge", some "__init__")), "__init__", "Edge.__init__", defArgs s_Edge_init, defBody s_Edge_init, defScope s_Edge_init, [], [("sources", He.Dv.adr (kwdAtA (fun K => He.fAd K ("Edge", some "__init__")) "sources")), ("guards", He.Dv.adr (kwdAtA (fun K => He.fAd K ("Edge", some "__init__")) "guards")), ("effect", He.Dv.adr (kwdAtA (fun K => He.fAd K ("Edge", some "__init__")) "effect")), ("label", .str "plain")]⟩
def d_Edge_plain : He5.DefA := ⟨(fun K => He5.wf K (He.ga K "Edge") "classmethod" "plain"), "plain", "Edge.plain", defArgs s_Edge_plain, defBody s_Edge_plain, defScope s_Edge_plain, [], [("fresh", .int 0), ("guards", He.Dv.adr (kwdAtA (fun K => He5.wf K (He.ga K "Edge") "classmethod" "plain") "guards")), ("effect", .non), ("label", .str "plain")]⟩
def d_Edge_start : He5.DefA := ⟨(fun K => He5.wf K (He.ga K "Edge") "classmethod" "start"), "start", "Edge.start", defArgs s_Edge_start, defBody s_Edge_start, defScope s_Edge_start, [], [("guards", He.Dv.adr (kwdAtA (fun K => He5.wf K (He.ga K "Edge") "classmethod" "start") "guards")), ("effect", He.Dv.adr (kwdAtA (fun K => He5.wf K (He.ga K "Edge") "classmethod" "start") "effect"))]⟩
def d_Edge_with_guard : He5.DefA := ⟨(fun K => He.fAd K ("Edge", some "with_guard")), "with_guard", "Edge.with_guard", defArgs s_Edge_with_guard, defBody s_Edge_with_guard, defScope s_Edge_with_guard, [], []⟩
def d_Edge_closed : He5.DefA := ⟨(fun K => He.fAd K ("Edge", some "closed")), "closed", "Edge.closed", defArgs s_Edge_closed, defBody s_Edge_closed, defScope s_Edge_closed, [], []⟩
def d_Edge_guards_hold : He5.DefA := ⟨(fun K => He.fAd K ("Edge", some "guards_hold")), "guards_hold", "Edge.guards_hold", defArgs s_Edge_guards_hold, defBody s_Edge_guards_hold, defScope s_Edge_guards_hold, [], []⟩
def d_Edge_source_state : He5.DefA := ⟨(fun K => He.fAd K ("Edge", some "source_state")), "source_state", "Edge.source_state", defArgs s_Edge_source_state, defBody s_Edge_source_state, defScope s_Edge_source_state, [], []⟩
def d_Edge_target_state : He5.DefA := ⟨(fun K => He.fAd K ("Edge", some "target_state")), "target_state", "Edge.target_state", defArgs s_Edge_target_state, defBody s_Edge_target_state, defScope s_Edge_target_state, [], []⟩
def d_law_purse : He5.DefA := ⟨(fun K => He.fAd K ("_law_purse", none)), "_law_purse", "_law_purse", defArgs s_law_purse, defBody s_law_purse, defScope s_law_purse, [], []⟩
def d_law_draw : He5.DefA := ⟨(fun K => He.fAd K ("_law_draw", none)), "_law_draw", "_law_draw", defArgs s_law_draw, defBody s_law_draw, defScope s_law_draw, [], []⟩
def d_law_coefficient : He5.DefA := ⟨(fun K => He.fAd K ("_law_coefficient", none)), "_law_coefficient", "_law_coefficient", defArgs s_law_coefficient, defBody s_law_coefficient, defScope s_law_coefficient, [], []⟩
def d_law_constant : He5.DefA := ⟨(fun K => He.fAd K ("_law_constant", none)), "_law_constant", "_law_constant", defArgs s_law_constant, defBody s_law_constant, defScope s_law_constant, [], []⟩
def d_law_rows : He5.DefA := ⟨(fun K => He.fAd K ("_law_rows", none)), "_law_rows", "_law_rows", defArgs s_law_rows, defBody s_law_rows, defScope s_law_rows, [], []⟩
def d_law_near : He5.DefA := ⟨(fun K => He.fAd K ("_law_near", none)), "_law_near", "_law_near", defArgs s_law_near, defBody s_law_near, defScope s_law_near, [], []⟩
def d_law_far : He5.DefA := ⟨(fun K => He.fAd K ("_law_far", none)), "_law_far", "_law_far", defArgs s_law_far, defBody s_law_far, defScope s_law_far, [], []⟩
def d_law_checks : He5.DefA := ⟨(fun K => He.fAd K ("_law_checks", none)), "_law_checks", "_law_checks", defArgs s_law_checks, defBody s_law_checks, defScope s_law_checks, [], []⟩
def d_law_word : He5.DefA := ⟨(fun K => He.fAd K ("_law_word", none)), "_law_word", "_law_word", defArgs s_law_word, defBody s_law_word, defScope s_law_word, [], []⟩
def d_law_value : He5.DefA := ⟨(fun K => He.fAd K ("_law_value", none)), "_law_value", "_law_value", defArgs s_law_value, defBody s_law_value, defScope s_law_value, [], []⟩
def d_law_same : He5.DefA := ⟨(fun K => He.fAd K ("_law_same", none)), "_law_same", "_law_same", defArgs s_law_same, defBody s_law_same, defScope s_law_same, [], []⟩
def d_law_edge_seen : He5.DefA := ⟨(fun K => He.fAd K ("_law_edge_seen", none)), "_law_edge_seen", "_law_edge_seen", defArgs s_law_edge_seen, defBody s_law_edge_seen, defScope s_law_edge_seen, [], []⟩
def d_law_units : He5.DefA := ⟨(fun K => He.fAd K ("_law_units", none)), "_law_units", "_law_units", defArgs s_law_units, defBody s_law_units, defScope s_law_units, [], []⟩
def d_law_frame_holds : He5.DefA := ⟨(fun K => He.fAd K ("_law_frame_holds", none)), "_law_frame_holds", "_law_frame_holds", defArgs s_law_frame_holds, defBody s_law_frame_holds, defScope s_law_frame_holds, [], []⟩
def d_law_pairs : He5.DefA := ⟨(fun K => He.fAd K ("_law_pairs", none)), "_law_pairs", "_law_pairs", defArgs s_law_pairs, defBody s_law_pairs, defScope s_law_pairs, [], []⟩
def d_law_due : He5.DefA := ⟨(fun K => He.fAd K ("_law_due", none)), "_law_due", "_law_due", defArgs s_law_due, defBody s_law_due, defScope s_law_due, [], []⟩
def d_law_made : He5.DefA := ⟨(fun K => He.fAd K ("_law_made", none)), "_law_made", "_law_made", defArgs s_law_made, defBody s_law_made, defScope s_law_made, [], []⟩
def d_law_made_plain : He5.DefA := ⟨(fun K => He.fAd K ("_law_made_plain", none)), "_law_made_plain", "_law_made_plain", defArgs s_law_made_plain, defBody s_law_made_plain, defScope s_law_made_plain, [], []⟩
def d_law_made_start : He5.DefA := ⟨(fun K => He.fAd K ("_law_made_start", none)), "_law_made_start", "_law_made_start", defArgs s_law_made_start, defBody s_law_made_start, defScope s_law_made_start, [], []⟩
def d_law_sums_hold : He5.DefA := ⟨(fun K => He.fAd K ("_law_sums_hold", none)), "_law_sums_hold", "_law_sums_hold", defArgs s_law_sums_hold, defBody s_law_sums_hold, defScope s_law_sums_hold, [], []⟩
def d_law_copies_hold : He5.DefA := ⟨(fun K => He.fAd K ("_law_copies_hold", none)), "_law_copies_hold", "_law_copies_hold", defArgs s_law_copies_hold, defBody s_law_copies_hold, defScope s_law_copies_hold, [], []⟩
def d_law : He5.DefA := ⟨(fun K => He.fAd K ("law", none)), "law", "law", defArgs s_law, defBody s_law, defScope s_law, [], []⟩
def fn_ : List He5.DefA := [d_affine_value, d_unit_row, d_Frame_init, d_Edge_init, d_Edge_plain, d_Edge_start, d_Edge_with_guard, d_Edge_closed, d_Edge_guards_hold, d_Edge_source_state, d_Edge_target_state, d_law_purse, d_law_draw, d_law_coefficient, d_law_constant, d_law_rows, d_law_near, d_law_far, d_law_checks, d_law_word, d_law_value, d_law_same, d_law_edge_seen, d_law_units, d_law_frame_holds, d_law_pairs, d_law_due, d_law_made, d_law_made_plain, d_law_made_start, d_law_sums_hold, d_law_copies_hold, d_law]
def fa_ : List He.Fa := [.glo "affine_value", .glo "unit_row", .glo "_law_purse", .glo "_law_draw", .glo "_law_coefficient", .glo "_law_constant", .glo "_law_rows", .glo "_law_near", .glo "_law_far", .glo "_law_checks", .glo "_law_word", .glo "_law_value", .glo "_law_same", .glo "_law_edge_seen", .glo "_law_units", .glo "_law_frame_holds", .glo "_law_pairs", .glo "_law_due", .glo "_law_made", .glo "_law_made_plain", .glo "_law_made_start", .glo "_law_sums_hold", .glo "_law_copies_hold", .glo "law", .glo "Edge", .glo "Frame", .cls "Edge", .cls "Frame", .noat "Edge" "effect", .noat "Frame" "forms", .noat "Edge" "guards", .noat "Edge" "label", .noat "Frame" "name", .noat "Edge" "sources", .noat "Edge" "target", .noat "Edge" "unknowns", .noat "Frame" "variables", .meth "Edge" "with_guard", .meth "Edge" "guards_hold", .meth "Edge" "source_state", .meth "Edge" "target_state", .meth "Edge" "closed", .mkr "Edge", .mkr "Frame", .free "abs", .free "all", .free "bool", .free "int", .free "isinstance", .free "len", .free "list", .free "range", .free "str", .free "sum", .free "tuple", .free "zip"]
def cconB (K : PySem.W.Frag) (x f : Str) (v : V) : Bool := PySem.W.readsIn K (He.ga K x) (.type "type") && (He.eqO (PySem.W.specialIn K (.ref (He.ga K x)) "__getattribute__") (some (some (.builtin "type.__getattribute__"))) && (match PySem.W.findCls K (.ref (He.ga K x)) (.type "type") f with
  | some (.val u) => He.relB v u
  | _ => false))
theorem ccon_ok {K : PySem.W.Frag} {mg : Str → Option Value} {x f : Str} {v : V} (hm : mg x = some (.ref (He.ga K x))) (h : cconB K x f v = true) : CCon K mg x (He.ga K x) f v := by
  obtain ⟨h1, h⟩ := He.ba h
  obtain ⟨h2, h⟩ := He.ba h
  cases e : PySem.W.findCls K (.ref (He.ga K x)) (.type "type") f with
  | none => rw [e] at h; cases h
  | some r =>
    rw [e] at h
    cases r with
    | val u => exact ⟨hm, .type "type", u, ⟨h1, He.eqO_ok h2⟩, ⟨e, He.relB_ok h⟩⟩
    | _ => cases h
def xs_ : List (PySem.W.Frag → Bool) := [(fun K => atB K (kwdAtA (fun K => He.fAd K ("Edge", some "__init__")) "effect" K) (D.tup [])), (fun K => atB K (kwdAtA (fun K => He.fAd K ("Edge", some "__init__")) "guards" K) (D.tup [])), (fun K => atB K (kwdAtA (fun K => He.fAd K ("Edge", some "__init__")) "sources" K) (D.tup [])), (fun K => atB K (kwdAtA (fun K => He5.wf K (He.ga K "Edge") "classmethod" "plain") "guards" K) (D.tup [])), (fun K => atB K (kwdAtA (fun K => He5.wf K (He.ga K "Edge") "classmethod" "start") "effect" K) (D.tup [])), (fun K => atB K (kwdAtA (fun K => He5.wf K (He.ga K "Edge") "classmethod" "start") "guards" K) (D.tup [])), (fun K => cconB K "Edge" "MOST_CONSTRAINTS" (V.int 20)), (fun K => cconB K "Edge" "MOST_UNKNOWNS" (V.int 5)), (fun K => cmB K (He.ga K "Edge") "plain"), (fun K => cmB K (He.ga K "Edge") "start")]
def bs_ : List (Str × String) := []
def cs_ : List (Str × D) := []
abbrev R_ : PySem.W.OpenRow := PySem.W.OpenLaw.row PySem.Challenge.rw_leaprungs_k12_edges_and_their_sums
def names_ : List PySem.Str := (["affine_value", "unit_row", "Frame", "Edge", "_law_purse", "_law_draw", "_law_coefficient", "_law_constant", "_law_rows", "_law_near", "_law_far", "_law_checks", "_law_word", "_law_value", "_law_same", "_law_edge_seen"] : List PySem.Str) ++ (["_law_units", "_law_frame_holds", "_law_pairs", "_law_due", "_law_made", "_law_made_plain", "_law_made_start", "_law_sums_hold", "_law_copies_hold"] : List PySem.Str)
abbrev hk_ : PySem.W.Hook := hookX 8 fa_ fn_ bs_ cs_ xs_
def ob_ (s : PySem.W.SharedT) : He.AlD × Bool := obsXG 8 fa_ fn_ bs_ cs_ xs_ (HandSHeadRun.getT s)
theorem ob_eq_ (s : PySem.W.SharedT) : ob_ s = hk_.obs s.abs := obsXG_eq (HandSHeadRun.getT_eq s)
theorem run_ (w : World) : HandSHeadRun.RunEq R_ (PySem.W.view R_.prog [28]) hk_ ob_ 4000 names_ w := by
  intro os
  kernel_rfl
theorem facts_ {P : Program} {w : World} {K : PySem.W.Frag} {h : Heap} {mg : Str → Option Value} {f : Addr} (X : K.In h) (G : h.Ns mainGlobals mg) (hfa : mg ("law" : Str) = some (.ref f)) (c : He5.SaysA fa_ fn_ K) (cb : ((bfOk bs_ K && csOk cs_ K) && xs_.all fun x => x K) = true) :
    ∃ fd : FuncData, (∀ (s : Shared) (v : Value), BindsTo s fd ⟨[v], []⟩ [("_law_script", v)]) ∧ ∀ base : Heap, K.In base → base.Ns mainGlobals mg → FnOk P w K mg base CX0 14 f fd ["_law_script"] (toSp K SLaw) := by
  obtain ⟨fd_affine_value, F_affine_value⟩ := c.def_ 0 (d := d_affine_value) rfl
  have g_affine_value := He.glo_ok X G (c.fact 0 (f := .glo "affine_value") rfl)
  obtain ⟨fd_unit_row, F_unit_row⟩ := c.def_ 1 (d := d_unit_row) rfl
  have g_unit_row := He.glo_ok X G (c.fact 1 (f := .glo "unit_row") rfl)
  obtain ⟨fd_Frame_init, F_Frame_init⟩ := c.def_ 2 (d := d_Frame_init) rfl
  obtain ⟨fd_Edge_init, F_Edge_init⟩ := c.def_ 3 (d := d_Edge_init) rfl
  obtain ⟨fd_Edge_plain, F_Edge_plain⟩ := c.def_ 4 (d := d_Edge_plain) rfl
  obtain ⟨fd_Edge_start, F_Edge_start⟩ := c.def_ 5 (d := d_Edge_start) rfl
  obtain ⟨fd_Edge_with_guard, F_Edge_with_guard⟩ := c.def_ 6 (d := d_Edge_with_guard) rfl
  obtain ⟨fd_Edge_closed, F_Edge_closed⟩ := c.def_ 7 (d := d_Edge_closed) rfl
  obtain ⟨fd_Edge_guards_hold, F_Edge_guards_hold⟩ := c.def_ 8 (d := d_Edge_guards_hold) rfl
  obtain ⟨fd_Edge_source_state, F_Edge_source_state⟩ := c.def_ 9 (d := d_Edge_source_state) rfl
  obtain ⟨fd_Edge_target_state, F_Edge_target_state⟩ := c.def_ 10 (d := d_Edge_target_state) rfl
  obtain ⟨fd_law_purse, F_law_purse⟩ := c.def_ 11 (d := d_law_purse) rfl
  have g_law_purse := He.glo_ok X G (c.fact 2 (f := .glo "_law_purse") rfl)
  obtain ⟨fd_law_draw, F_law_draw⟩ := c.def_ 12 (d := d_law_draw) rfl
  have g_law_draw := He.glo_ok X G (c.fact 3 (f := .glo "_law_draw") rfl)
  obtain ⟨fd_law_coefficient, F_law_coefficient⟩ := c.def_ 13 (d := d_law_coefficient) rfl
  have g_law_coefficient := He.glo_ok X G (c.fact 4 (f := .glo "_law_coefficient") rfl)
  obtain ⟨fd_law_constant, F_law_constant⟩ := c.def_ 14 (d := d_law_constant) rfl
  have g_law_constant := He.glo_ok X G (c.fact 5 (f := .glo "_law_constant") rfl)
  obtain ⟨fd_law_rows, F_law_rows⟩ := c.def_ 15 (d := d_law_rows) rfl
  have g_law_rows := He.glo_ok X G (c.fact 6 (f := .glo "_law_rows") rfl)
  obtain ⟨fd_law_near, F_law_near⟩ := c.def_ 16 (d := d_law_near) rfl
  have g_law_near := He.glo_ok X G (c.fact 7 (f := .glo "_law_near") rfl)
  obtain ⟨fd_law_far, F_law_far⟩ := c.def_ 17 (d := d_law_far) rfl
  have g_law_far := He.glo_ok X G (c.fact 8 (f := .glo "_law_far") rfl)
  obtain ⟨fd_law_checks, F_law_checks⟩ := c.def_ 18 (d := d_law_checks) rfl
  have g_law_checks := He.glo_ok X G (c.fact 9 (f := .glo "_law_checks") rfl)
  obtain ⟨fd_law_word, F_law_word⟩ := c.def_ 19 (d := d_law_word) rfl
  have g_law_word := He.glo_ok X G (c.fact 10 (f := .glo "_law_word") rfl)
  obtain ⟨fd_law_value, F_law_value⟩ := c.def_ 20 (d := d_law_value) rfl
  have g_law_value := He.glo_ok X G (c.fact 11 (f := .glo "_law_value") rfl)
  obtain ⟨fd_law_same, F_law_same⟩ := c.def_ 21 (d := d_law_same) rfl
  have g_law_same := He.glo_ok X G (c.fact 12 (f := .glo "_law_same") rfl)
  obtain ⟨fd_law_edge_seen, F_law_edge_seen⟩ := c.def_ 22 (d := d_law_edge_seen) rfl
  have g_law_edge_seen := He.glo_ok X G (c.fact 13 (f := .glo "_law_edge_seen") rfl)
  obtain ⟨fd_law_units, F_law_units⟩ := c.def_ 23 (d := d_law_units) rfl
  have g_law_units := He.glo_ok X G (c.fact 14 (f := .glo "_law_units") rfl)
  obtain ⟨fd_law_frame_holds, F_law_frame_holds⟩ := c.def_ 24 (d := d_law_frame_holds) rfl
  have g_law_frame_holds := He.glo_ok X G (c.fact 15 (f := .glo "_law_frame_holds") rfl)
  obtain ⟨fd_law_pairs, F_law_pairs⟩ := c.def_ 25 (d := d_law_pairs) rfl
  have g_law_pairs := He.glo_ok X G (c.fact 16 (f := .glo "_law_pairs") rfl)
  obtain ⟨fd_law_due, F_law_due⟩ := c.def_ 26 (d := d_law_due) rfl
  have g_law_due := He.glo_ok X G (c.fact 17 (f := .glo "_law_due") rfl)
  obtain ⟨fd_law_made, F_law_made⟩ := c.def_ 27 (d := d_law_made) rfl
  have g_law_made := He.glo_ok X G (c.fact 18 (f := .glo "_law_made") rfl)
  obtain ⟨fd_law_made_plain, F_law_made_plain⟩ := c.def_ 28 (d := d_law_made_plain) rfl
  have g_law_made_plain := He.glo_ok X G (c.fact 19 (f := .glo "_law_made_plain") rfl)
  obtain ⟨fd_law_made_start, F_law_made_start⟩ := c.def_ 29 (d := d_law_made_start) rfl
  have g_law_made_start := He.glo_ok X G (c.fact 20 (f := .glo "_law_made_start") rfl)
  obtain ⟨fd_law_sums_hold, F_law_sums_hold⟩ := c.def_ 30 (d := d_law_sums_hold) rfl
  have g_law_sums_hold := He.glo_ok X G (c.fact 21 (f := .glo "_law_sums_hold") rfl)
  obtain ⟨fd_law_copies_hold, F_law_copies_hold⟩ := c.def_ 31 (d := d_law_copies_hold) rfl
  have g_law_copies_hold := He.glo_ok X G (c.fact 22 (f := .glo "_law_copies_hold") rfl)
  obtain ⟨fd_law, F_law⟩ := c.def_ 32 (d := d_law) rfl
  have g_law := He.glo_ok X G (c.fact 23 (f := .glo "law") rfl)
  obtain ⟨cb, cx⟩ := (Bool.and_eq_true _ _).mp cb
  obtain ⟨cb, cc⟩ := (Bool.and_eq_true _ _).mp cb
  have T : Txt ⟨He.ga K "Edge", He.ga K "Frame", .ref (kwdAtA (fun K => He.fAd K ("Edge", some "__init__")) "effect" K), .ref (kwdAtA (fun K => He.fAd K ("Edge", some "__init__")) "guards" K), .ref (kwdAtA (fun K => He.fAd K ("Edge", some "__init__")) "sources" K), .ref (kwdAtA (fun K => He5.wf K (He.ga K "Edge") "classmethod" "plain") "guards" K), .ref (kwdAtA (fun K => He5.wf K (He.ga K "Edge") "classmethod" "start") "effect" K), .ref (kwdAtA (fun K => He5.wf K (He.ga K "Edge") "classmethod" "start") "guards" K)⟩ K mg := ⟨He.free_ok X G (c.fact 44 (f := .free "abs") rfl),
    He.free_ok X G (c.fact 45 (f := .free "all") rfl),
    He.free_ok X G (c.fact 46 (f := .free "bool") rfl),
    He.free_ok X G (c.fact 47 (f := .free "int") rfl),
    He.free_ok X G (c.fact 48 (f := .free "isinstance") rfl),
    He.free_ok X G (c.fact 49 (f := .free "len") rfl),
    He.free_ok X G (c.fact 50 (f := .free "list") rfl),
    He.free_ok X G (c.fact 51 (f := .free "range") rfl),
    He.free_ok X G (c.fact 52 (f := .free "str") rfl),
    He.free_ok X G (c.fact 53 (f := .free "sum") rfl),
    He.free_ok X G (c.fact 54 (f := .free "tuple") rfl),
    He.free_ok X G (c.fact 55 (f := .free "zip") rfl),
    He.glo_ok X G (c.fact 24 (f := .glo "Edge") rfl),
    (by
      intro C hC
      simp only [List.mem_cons, List.not_mem_nil, or_false] at hC
      subst hC
      · exact ⟨He.cls_ok (c.fact 26 (f := .cls "Edge") rfl), He.noat_ok (c.fact 28 (f := .noat "Edge" "effect") rfl)⟩),
    (by
      intro C hC
      simp only [List.mem_cons, List.not_mem_nil, or_false] at hC
      subst hC
      · exact ⟨He.cls_ok (c.fact 27 (f := .cls "Frame") rfl), He.noat_ok (c.fact 29 (f := .noat "Frame" "forms") rfl)⟩),
    (by
      intro C hC
      simp only [List.mem_cons, List.not_mem_nil, or_false] at hC
      subst hC
      · exact ⟨He.cls_ok (c.fact 26 (f := .cls "Edge") rfl), He.noat_ok (c.fact 30 (f := .noat "Edge" "guards") rfl)⟩),
    (by
      intro C hC
      simp only [List.mem_cons, List.not_mem_nil, or_false] at hC
      subst hC
      · exact ⟨He.cls_ok (c.fact 26 (f := .cls "Edge") rfl), He.noat_ok (c.fact 31 (f := .noat "Edge" "label") rfl)⟩),
    (by
      intro C hC
      simp only [List.mem_cons, List.not_mem_nil, or_false] at hC
      subst hC
      · exact ⟨He.cls_ok (c.fact 27 (f := .cls "Frame") rfl), He.noat_ok (c.fact 32 (f := .noat "Frame" "name") rfl)⟩),
    (by
      intro C hC
      simp only [List.mem_cons, List.not_mem_nil, or_false] at hC
      subst hC
      · exact ⟨He.cls_ok (c.fact 26 (f := .cls "Edge") rfl), He.noat_ok (c.fact 33 (f := .noat "Edge" "sources") rfl)⟩),
    (by
      intro C hC
      simp only [List.mem_cons, List.not_mem_nil, or_false] at hC
      subst hC
      · exact ⟨He.cls_ok (c.fact 26 (f := .cls "Edge") rfl), He.noat_ok (c.fact 34 (f := .noat "Edge" "target") rfl)⟩),
    (by
      intro C hC
      simp only [List.mem_cons, List.not_mem_nil, or_false] at hC
      subst hC
      · exact ⟨He.cls_ok (c.fact 26 (f := .cls "Edge") rfl), He.noat_ok (c.fact 35 (f := .noat "Edge" "unknowns") rfl)⟩),
    (by
      intro C hC
      simp only [List.mem_cons, List.not_mem_nil, or_false] at hC
      subst hC
      · exact ⟨He.cls_ok (c.fact 27 (f := .cls "Frame") rfl), He.noat_ok (c.fact 36 (f := .noat "Frame" "variables") rfl)⟩),
    ccon_ok (He.glo_ok X G (c.fact 24 (f := .glo "Edge") rfl)) (List.all_eq_true.mp cx _ (List.mem_of_getElem? (i := 6) rfl)),
    ccon_ok (He.glo_ok X G (c.fact 24 (f := .glo "Edge") rfl)) (List.all_eq_true.mp cx _ (List.mem_of_getElem? (i := 7) rfl)),
    at_ok (List.all_eq_true.mp cx _ (List.mem_of_getElem? (i := 0) rfl)),
    at_ok (List.all_eq_true.mp cx _ (List.mem_of_getElem? (i := 1) rfl)),
    at_ok (List.all_eq_true.mp cx _ (List.mem_of_getElem? (i := 2) rfl)),
    at_ok (List.all_eq_true.mp cx _ (List.mem_of_getElem? (i := 3) rfl)),
    at_ok (List.all_eq_true.mp cx _ (List.mem_of_getElem? (i := 4) rfl)),
    at_ok (List.all_eq_true.mp cx _ (List.mem_of_getElem? (i := 5) rfl))⟩
  have e := hfa.symm.trans g_law
  cases e
  have b := FunD.bindsA (ps := ["_law_script"]) F_law fun _ _ _ _ _ _ us hl => match us, hl with | [_], _ => rfl
  refine ⟨fd_law, fun s v => b s [v] rfl, fun base _ _ => ?_⟩
  have G_affine_value := fn_affine_value (P := P) (w := w) (base := base) T F_affine_value g_affine_value
  have G_unit_row := fn_unit_row (P := P) (w := w) (base := base) T F_unit_row g_unit_row
  have G_Frame_init := fn_Frame_init (P := P) (w := w) (base := base) T F_Frame_init (He.glo_ok X G (c.fact 25 (f := .glo "Frame") rfl)) (He.mkr_ok (c.fact 43 (f := .mkr "Frame") rfl))
  have G_Edge_init_2_sources_guards_effect_label := fn_Edge_init_2_sources_guards_effect_label (P := P) (w := w) (base := base) T F_Edge_init (He.glo_ok X G (c.fact 24 (f := .glo "Edge") rfl)) (He.mkr_ok (c.fact 42 (f := .mkr "Edge") rfl))
  have G_Edge_init_2_guards_effect_label := fn_Edge_init_2_guards_effect_label (P := P) (w := w) (base := base) T F_Edge_init (He.glo_ok X G (c.fact 24 (f := .glo "Edge") rfl)) (He.mkr_ok (c.fact 42 (f := .mkr "Edge") rfl))
  have G_Edge_init_2 := fn_Edge_init_2 (P := P) (w := w) (base := base) T F_Edge_init (He.glo_ok X G (c.fact 24 (f := .glo "Edge") rfl)) (He.mkr_ok (c.fact 42 (f := .mkr "Edge") rfl))
  have G_Edge_init_2_label_effect_guards_sources := fn_Edge_init_2_label_effect_guards_sources (P := P) (w := w) (base := base) T F_Edge_init (He.glo_ok X G (c.fact 24 (f := .glo "Edge") rfl)) (He.mkr_ok (c.fact 42 (f := .mkr "Edge") rfl))
  have G_Edge_init_2_sources_effect := fn_Edge_init_2_sources_effect (P := P) (w := w) (base := base) T F_Edge_init (He.glo_ok X G (c.fact 24 (f := .glo "Edge") rfl)) (He.mkr_ok (c.fact 42 (f := .mkr "Edge") rfl))
  have G_Edge_init_2_guards := fn_Edge_init_2_guards (P := P) (w := w) (base := base) T F_Edge_init (He.glo_ok X G (c.fact 24 (f := .glo "Edge") rfl)) (He.mkr_ok (c.fact 42 (f := .mkr "Edge") rfl))
  have G_Edge_init_2_label_sources := fn_Edge_init_2_label_sources (P := P) (w := w) (base := base) T F_Edge_init (He.glo_ok X G (c.fact 24 (f := .glo "Edge") rfl)) (He.mkr_ok (c.fact 42 (f := .mkr "Edge") rfl))
  have G_Edge_init_2_effect_label := fn_Edge_init_2_effect_label (P := P) (w := w) (base := base) T F_Edge_init (He.glo_ok X G (c.fact 24 (f := .glo "Edge") rfl)) (He.mkr_ok (c.fact 42 (f := .mkr "Edge") rfl))
  have G_law_purse := fn_law_purse (P := P) (w := w) (base := base) T F_law_purse g_law_purse
  have G_law_draw := fn_law_draw (P := P) (w := w) (base := base) T F_law_draw g_law_draw
  have G_law_value := fn_law_value (P := P) (w := w) (base := base) T F_law_value g_law_value
  have G_law_edge_seen := fn_law_edge_seen (P := P) (w := w) (base := base) T F_law_edge_seen g_law_edge_seen
  have G_law_units := fn_law_units (P := P) (w := w) (base := base) T F_law_units g_law_units
  have G_law_due := fn_law_due (P := P) (w := w) (base := base) T F_law_due g_law_due
  have G_Edge_guards_hold := fn_Edge_guards_hold (P := P) (w := w) (base := base) T G_affine_value F_Edge_guards_hold (He.cls_ok (c.fact 26 (f := .cls "Edge") rfl)) (He.meth_ok (c.fact 38 (f := .meth "Edge" "guards_hold") rfl))
  have G_Edge_source_state := fn_Edge_source_state (P := P) (w := w) (base := base) T G_affine_value F_Edge_source_state (He.cls_ok (c.fact 26 (f := .cls "Edge") rfl)) (He.meth_ok (c.fact 39 (f := .meth "Edge" "source_state") rfl))
  have G_Edge_target_state := fn_Edge_target_state (P := P) (w := w) (base := base) T G_affine_value F_Edge_target_state (He.cls_ok (c.fact 26 (f := .cls "Edge") rfl)) (He.meth_ok (c.fact 40 (f := .meth "Edge" "target_state") rfl))
  have G_law_coefficient := fn_law_coefficient (P := P) (w := w) (base := base) T G_law_draw F_law_coefficient g_law_coefficient
  have G_law_constant := fn_law_constant (P := P) (w := w) (base := base) T G_law_draw F_law_constant g_law_constant
  have G_law_near := fn_law_near (P := P) (w := w) (base := base) T G_law_draw F_law_near g_law_near
  have G_law_far := fn_law_far (P := P) (w := w) (base := base) T G_law_draw F_law_far g_law_far
  have G_law_word := fn_law_word (P := P) (w := w) (base := base) T G_law_draw F_law_word g_law_word
  have G_Edge_plain_3 := fn_Edge_plain_3 (P := P) (w := w) (base := base) T G_unit_row G_Edge_init_2_sources_guards_effect_label F_Edge_plain (List.all_eq_true.mp cx _ (List.mem_of_getElem? (i := 8) rfl))
  have G_Edge_plain_3_fresh_guards_effect_label := fn_Edge_plain_3_fresh_guards_effect_label (P := P) (w := w) (base := base) T G_unit_row G_Edge_init_2_sources_guards_effect_label F_Edge_plain (List.all_eq_true.mp cx _ (List.mem_of_getElem? (i := 8) rfl))
  have G_Edge_plain_3_label_effect_guards_fresh := fn_Edge_plain_3_label_effect_guards_fresh (P := P) (w := w) (base := base) T G_unit_row G_Edge_init_2_sources_guards_effect_label F_Edge_plain (List.all_eq_true.mp cx _ (List.mem_of_getElem? (i := 8) rfl))
  have G_Edge_plain_3_guards := fn_Edge_plain_3_guards (P := P) (w := w) (base := base) T G_unit_row G_Edge_init_2_sources_guards_effect_label F_Edge_plain (List.all_eq_true.mp cx _ (List.mem_of_getElem? (i := 8) rfl))
  have G_Edge_plain_3_effect_fresh := fn_Edge_plain_3_effect_fresh (P := P) (w := w) (base := base) T G_unit_row G_Edge_init_2_sources_guards_effect_label F_Edge_plain (List.all_eq_true.mp cx _ (List.mem_of_getElem? (i := 8) rfl))
  have G_Edge_plain_3_fresh_label := fn_Edge_plain_3_fresh_label (P := P) (w := w) (base := base) T G_unit_row G_Edge_init_2_sources_guards_effect_label F_Edge_plain (List.all_eq_true.mp cx _ (List.mem_of_getElem? (i := 8) rfl))
  have G_Edge_plain_3_effect := fn_Edge_plain_3_effect (P := P) (w := w) (base := base) T G_unit_row G_Edge_init_2_sources_guards_effect_label F_Edge_plain (List.all_eq_true.mp cx _ (List.mem_of_getElem? (i := 8) rfl))
  have G_Edge_start_2 := fn_Edge_start_2 (P := P) (w := w) (base := base) T G_Edge_init_2_guards_effect_label F_Edge_start (List.all_eq_true.mp cx _ (List.mem_of_getElem? (i := 9) rfl))
  have G_Edge_start_2_guards_effect := fn_Edge_start_2_guards_effect (P := P) (w := w) (base := base) T G_Edge_init_2_guards_effect_label F_Edge_start (List.all_eq_true.mp cx _ (List.mem_of_getElem? (i := 9) rfl))
  have G_Edge_start_2_effect := fn_Edge_start_2_effect (P := P) (w := w) (base := base) T G_Edge_init_2_guards_effect_label F_Edge_start (List.all_eq_true.mp cx _ (List.mem_of_getElem? (i := 9) rfl))
  have G_Edge_start_2_effect_guards := fn_Edge_start_2_effect_guards (P := P) (w := w) (base := base) T G_Edge_init_2_guards_effect_label F_Edge_start (List.all_eq_true.mp cx _ (List.mem_of_getElem? (i := 9) rfl))
  have G_Edge_with_guard := fn_Edge_with_guard (P := P) (w := w) (base := base) T G_Edge_init_2_sources_guards_effect_label F_Edge_with_guard (He.cls_ok (c.fact 26 (f := .cls "Edge") rfl)) (He.meth_ok (c.fact 37 (f := .meth "Edge" "with_guard") rfl))
  have G_law_rows := fn_law_rows (P := P) (w := w) (base := base) T G_law_coefficient G_law_constant F_law_rows g_law_rows
  have G_law_checks := fn_law_checks (P := P) (w := w) (base := base) T G_law_draw G_law_coefficient G_law_constant F_law_checks g_law_checks
  have G_Edge_closed := fn_Edge_closed (P := P) (w := w) (base := base) T G_Edge_with_guard F_Edge_closed (He.cls_ok (c.fact 26 (f := .cls "Edge") rfl)) (He.meth_ok (c.fact 41 (f := .meth "Edge" "closed") rfl))
  have G_law_pairs := fn_law_pairs (P := P) (w := w) (base := base) T G_law_draw G_law_rows F_law_pairs g_law_pairs
  have G_law_made_plain := fn_law_made_plain (P := P) (w := w) (base := base) T G_law_draw G_law_near G_law_checks G_law_rows G_law_word G_law_units G_Edge_plain_3 G_law_due G_Edge_plain_3_fresh_guards_effect_label G_Edge_plain_3_label_effect_guards_fresh G_Edge_plain_3_guards G_Edge_plain_3_effect_fresh G_Edge_plain_3_fresh_label G_Edge_plain_3_effect F_law_made_plain g_law_made_plain
  have G_law_made_start := fn_law_made_start (P := P) (w := w) (base := base) T G_law_draw G_law_near G_law_checks G_law_rows G_Edge_start_2 G_law_due G_Edge_start_2_guards_effect G_Edge_start_2_effect G_Edge_start_2_effect_guards F_law_made_start g_law_made_start
  have G_law_made := fn_law_made (P := P) (w := w) (base := base) T G_law_draw G_law_near G_law_pairs G_law_checks G_law_rows G_law_word G_Edge_init_2 G_law_due G_Edge_init_2_label_effect_guards_sources G_Edge_init_2_sources_effect G_Edge_init_2_guards G_Edge_init_2_label_sources G_Edge_init_2_effect_label G_Edge_init_2_sources_guards_effect_label F_law_made g_law_made
  have G_law_same := fn_law_same (P := P) (w := w) (base := base) T F_law_same g_law_same 10
  have G_law_frame_holds := fn_law_frame_holds (P := P) (w := w) (base := base) T G_law_word G_law_draw G_law_coefficient G_Frame_init G_law_same F_law_frame_holds g_law_frame_holds
  have G_law_sums_hold := fn_law_sums_hold (P := P) (w := w) (base := base) T G_law_value G_Edge_guards_hold G_Edge_source_state G_law_same G_Edge_target_state F_law_sums_hold g_law_sums_hold
  have G_law_copies_hold := fn_law_copies_hold (P := P) (w := w) (base := base) T G_law_draw G_law_coefficient G_law_constant G_Edge_with_guard G_Edge_closed G_law_edge_seen G_law_same G_law_sums_hold G_Edge_guards_hold F_law_copies_hold g_law_copies_hold
  exact fo_law T G_law_purse G_law_frame_holds G_law_same G_law_draw G_law_made G_law_made_plain G_law_made_start G_law_edge_seen G_law_sums_hold G_law_far G_law_copies_hold F_law
end Qk12
open PySem PySem.W PySem.Calls PyProof.Rows
theorem PySem.Challenge.cw_leaprungs_k12_edges_and_their_sums_holds : PySem.Challenge.rw_leaprungs_k12_edges_and_their_sums.Holds := by
  w_on; o_law
  refine HandSHeadRun.head_any (r := OpenLaw.row PySem.Challenge.rw_leaprungs_k12_edges_and_their_sums) (q := view (OpenLaw.row PySem.Challenge.rw_leaprungs_k12_edges_and_their_sums).prog [28]) (H := Qk12.hk_) (ob := Qk12.ob_) (M := 4000) (loose := Qk12.names_) (d := HandSHeadRun.topDef (OpenLaw.row PySem.Challenge.rw_leaprungs_k12_edges_and_their_sums).prog 28) (kwd := []) Qk12.ob_eq_
    (by kernel_rfl) (fun s => by kernel_rfl) Qk12.run_ (by kernel_rfl) (by kernel_rfl) (by kernel_rfl) (by rfl) (by first | assumption | decide +kernel) (by decide +kernel) ⟨rfl, rfl, rfl, rfl, rfl, by decide +kernel⟩ ?hw ?hc
  case hw => w_witness2
  case hc =>
    refine L2.walk_ofE (l := PySem.Challenge.rw_leaprungs_k12_edges_and_their_sums) (n := 63) (k := 14) (x := "_law_script") (CX := L2.CX0) rfl (by decide) (by kernel_rfl) ⟨rfl, by decide, by decide⟩ ?F (fun _ _ _ _ z => z)
    intro w mg fa h Y G hmg0
    obtain ⟨K, KX, c, cb⟩ := Y
    have hmg : mg ("law" : PySem.Str) = some (.ref fa) := by
      have e : (HandSHeadRun.topDef (OpenLaw.row PySem.Challenge.rw_leaprungs_k12_edges_and_their_sums).prog 28).name = ("law" : PySem.Str) := by kernel_rfl
      rw [← e]
      exact hmg0
    obtain ⟨fd, hb, hF⟩ := Qk12.facts_ (P := (PySem.Challenge.rw_leaprungs_k12_edges_and_their_sums).prog) (w := w) KX G hmg c cb
    exact ⟨K, fd, Z.toSp K Z.SLaw, KX, hb, fun H a ns hl _ hS => Z.law_sp hl hS, hF⟩
