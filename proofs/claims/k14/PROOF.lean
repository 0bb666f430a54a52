import PyProof.Rows.All
import Wide.All
import OpenK.AllK
import Wide.FinOn
import KE.KStateDown
import HandS.ForMost
import HandS.Wide
import HandS.Gcd
import HandS.IsInst
import HandS.Defaults
import HandS.TupAny
import HandS.Zip
import KE.GoesEnum
import HandS.HeadEnd
import HandS.Conv
import HandS.More
import PyProof.ZipIter
import PyProof.CollectWalk
import KE.GoesMore
import KE.GoesZip
import KE.KDictZip
import KE.KStar
import KE.KDictList
import HandS.Star
import HandS.SortRule
import HandS.SortInts
import HandS.SortOrd
import HandS.FStr
import PyProof.Rows.StrFirst
import HandS.MakeKwOnly
import HandS.Small
import HandS.ClsMeth
import HandS.TupSets
import HandS.TupMul
import HandS.Strs
import HandS.HeadHook2
import HandS.Head0
import HandS.Head1
import HandS.Head2
import HandS.Head3
import HandS.HeadHook1
import PySem.Challenge.RW_leaprungs_k14_hanging_places
set_option Elab.async false
set_option linter.all false
set_option maxRecDepth 100000
set_option maxHeartbeats 4000000
/-! ZBase: a logic of plain data over the hand layer. A slot holds a datum (D), not an address; what was made and does not change any more is frozen in a hidden part of the heap (F),
what may still change stands in a list by its address (Mem). -/
namespace Z
open PySem PySem.Spec PyProof.Rows L2
abbrev Fg := PySem.W.Frag
/-! ### plain data -/
inductive D where
  | non | bl (b : Bool) | int (i : Int) | str (x : Str) | ty (n : String)
  /-- a tuple; a list that does not change any more; a list that is read alone (the script) -/
  | tup (ds : List D) | lst (ds : List D) | scr (ds : List D)
  /-- an instance that does not change any more -/
  | obj (C : Addr) (fs : List (Str × D))
  /-- what stands at a: a thing of Mem, a class, a def -/
  | at (a : Addr)
/-- the datum d lies at v -/
inductive Rp (K : Fg) (F : Hp) : V → D → Prop
  | non : Rp K F .non .non
  | bl (b : Bool) : Rp K F (.bl b) (.bl b)
  | int (i : Int) : Rp K F (.int i) (.int i)
  | str (x : Str) : Rp K F (.str x) (.str x)
  | ty (n : String) : Rp K F (.ty n) (.ty n)
  | tup {a : Addr} {vs : List V} {ds : List D} : SqT K F a vs → vs.length = ds.length → (∀ (i : Nat) (v : V) (d : D), vs[i]? = some v → ds[i]? = some d → Rp K F v d) → Rp K F (.ref a) (.tup ds)
  | lst {a : Addr} {vs : List V} {ds : List D} : F a = some (.lst vs) → vs.length = ds.length → (∀ (i : Nat) (v : V) (d : D), vs[i]? = some v → ds[i]? = some d → Rp K F v d) → Rp K F (.ref a) (.lst ds)
  | scr {a : Addr} {vs : List V} {ds : List D} : SqL K F a vs → vs.length = ds.length → (∀ (i : Nat) (v : V) (d : D), vs[i]? = some v → ds[i]? = some d → Rp K F v d) → Rp K F (.ref a) (.scr ds)
  | obj {a C dx : Addr} {vs : List (Str × V)} {fs : List (Str × D)} : F a = some (.ins C dx vs) → vs.length = fs.length → (∀ (i : Nat) (q : Str × V) (p : Str × D), vs[i]? = some q → fs[i]? = some p → q.1 = p.1) →
      (∀ (i : Nat) (q : Str × V) (p : Str × D), vs[i]? = some q → fs[i]? = some p → Rp K F q.2 p.2) → Rp K F (.ref a) (.obj C fs)
  | at (a : Addr) : Rp K F (.ref a) (.at a)
/-- a row of data -/
structure Rps (K : Fg) (F : Hp) (vs : List V) (ds : List D) : Prop where
  len : vs.length = ds.length
  at_ : ∀ (i : Nat) (v : V) (d : D), vs[i]? = some v → ds[i]? = some d → Rp K F v d
/-- a row of named data -/
structure Rpf (K : Fg) (F : Hp) (vs : List (Str × V)) (ds : List (Str × D)) : Prop where
  len : vs.length = ds.length
  nm : ∀ (i : Nat) (q : Str × V) (p : Str × D), vs[i]? = some q → ds[i]? = some p → q.1 = p.1
  at_ : ∀ (i : Nat) (q : Str × V) (p : Str × D), vs[i]? = some q → ds[i]? = some p → Rp K F q.2 p.2
def Ex (F F' : Hp) : Prop := ∀ a o, F a = some o → F' a = some o
theorem Ex.refl (F : Hp) : Ex F F := fun _ _ h => h
theorem Ex.trans {F F1 F2 : Hp} (a : Ex F F1) (b : Ex F1 F2) : Ex F F2 := fun x o h => b x o (a x o h)
section
variable {K : Fg} {F F' : Hp} {v : V} {d : D} {vs : List V} {ds : List D}
theorem ex_rd {a : Addr} {u : HO} (e : Ex F F') (h : Rd F a u) : Rd F' a u := by
  rcases h with h | ⟨o, h⟩
  · exact .inl (e a _ h)
  · exact .inr ⟨o, e a _ h⟩
theorem ex_l {a : Addr} {xs : List V} (e : Ex F F') (h : SqL K F a xs) : SqL K F' a xs := by
  rcases h with h | h
  · exact .inl (ex_rd e h)
  · exact .inr h
theorem ex_t {a : Addr} {xs : List V} (e : Ex F F') (h : SqT K F a xs) : SqT K F' a xs := by
  rcases h with h | h
  · exact .inl (ex_rd e h)
  · exact .inr h
theorem Rp.mono (e : Ex F F') (h : Rp K F v d) : Rp K F' v d := by
  induction h with
  | non => exact .non
  | bl b => exact .bl b
  | int i => exact .int i
  | str x => exact .str x
  | ty n => exact .ty n
  | tup hs hl _ ih => exact .tup (ex_t e hs) hl ih
  | lst hs hl _ ih => exact .lst (e _ _ hs) hl ih
  | scr hs hl _ ih => exact .scr (ex_l e hs) hl ih
  | obj hs hl hn _ ih => exact .obj (e _ _ hs) hl hn ih
  | «at» a => exact .at a
theorem Rps.mono (e : Ex F F') (h : Rps K F vs ds) : Rps K F' vs ds := ⟨h.len, fun i v d a b => (h.at_ i v d a b).mono e⟩
theorem Rpf.mono {vs : List (Str × V)} {ds : List (Str × D)} (e : Ex F F') (h : Rpf K F vs ds) : Rpf K F' vs ds := ⟨h.len, h.nm, fun i v d a b => (h.at_ i v d a b).mono e⟩
theorem Rps.nil : Rps K F [] [] := ⟨rfl, fun i v d h _ => by simp at h⟩
theorem Rps.cons (h : Rp K F v d) (t : Rps K F vs ds) : Rps K F (v :: vs) (d :: ds) := ⟨by rw [List.length_cons, List.length_cons, t.len], fun i x y a b => by
  cases i with
  | zero =>
    rw [List.getElem?_cons_zero] at a b
    cases a
    cases b
    exact h
  | succ i =>
    rw [List.getElem?_cons_succ] at a b
    exact t.at_ i x y a b⟩
theorem Rps.append {vs' : List V} {ds' : List D} (a : Rps K F vs ds) (b : Rps K F vs' ds') : Rps K F (vs ++ vs') (ds ++ ds') := ⟨by rw [List.length_append, List.length_append, a.len, b.len], fun i x y p q => by
  by_cases h : i < vs.length
  · rw [List.getElem?_append_left h] at p
    rw [List.getElem?_append_left (by rw [← a.len]; exact h)] at q
    exact a.at_ i x y p q
  · have h' : vs.length ≤ i := Nat.le_of_not_lt h
    rw [List.getElem?_append_right h'] at p
    rw [List.getElem?_append_right (by rw [← a.len]; exact h'), ← a.len] at q
    exact b.at_ _ x y p q⟩
theorem Rps.one (h : Rp K F v d) : Rps K F [v] [d] := .cons h .nil
theorem Rps.get (h : Rps K F vs ds) {i : Nat} {d : D} (e : ds[i]? = some d) : ∃ v, vs[i]? = some v ∧ Rp K F v d := by
  have hi : i < vs.length := by rw [h.len]; exact (List.getElem?_eq_some_iff.mp e).1
  exact ⟨vs[i], List.getElem?_eq_getElem hi, h.at_ i _ d (List.getElem?_eq_getElem hi) e⟩
theorem Rps.getV (h : Rps K F vs ds) {i : Nat} {v : V} (e : vs[i]? = some v) : ∃ d, ds[i]? = some d ∧ Rp K F v d := by
  have hi : i < ds.length := by rw [← h.len]; exact (List.getElem?_eq_some_iff.mp e).1
  exact ⟨ds[i], List.getElem?_eq_getElem hi, h.at_ i v _ e (List.getElem?_eq_getElem hi)⟩
theorem Rps.uncons (h : Rps K F vs (d :: ds)) : ∃ v vs', vs = v :: vs' ∧ Rp K F v d ∧ Rps K F vs' ds := by
  cases vs with
  | nil => exact absurd h.len (by simp)
  | cons v vs' =>
    refine ⟨v, vs', rfl, h.at_ 0 v d rfl rfl, ⟨by simpa using h.len, fun i x y a b => h.at_ (i + 1) x y (by simpa using a) (by simpa using b)⟩⟩
theorem Rps.unnil (h : Rps K F vs []) : vs = [] := List.eq_nil_of_length_eq_zero h.len
theorem Rps.take (h : Rps K F vs ds) (n : Nat) : Rps K F (vs.take n) (ds.take n) := ⟨by rw [List.length_take, List.length_take, h.len], fun i x y a b => by
  by_cases hi : i < n
  · rw [List.getElem?_take_of_lt hi] at a b
    exact h.at_ i x y a b
  · rw [List.getElem?_eq_none (by rw [List.length_take]; omega)] at a
    cases a⟩
theorem Rps.drop (h : Rps K F vs ds) (n : Nat) : Rps K F (vs.drop n) (ds.drop n) := ⟨by rw [List.length_drop, List.length_drop, h.len], fun i x y a b => by
  rw [List.getElem?_drop] at a b
  exact h.at_ _ x y a b⟩
theorem Rps.set (h : Rps K F vs ds) (i : Nat) (hv : Rp K F v d) : Rps K F (vs.set i v) (ds.set i d) := ⟨by rw [List.length_set, List.length_set, h.len], fun j x y a b => by
  by_cases hj : i = j
  · subst hj
    by_cases hl : i < vs.length
    · rw [List.getElem?_set_self hl] at a
      rw [List.getElem?_set_self (by rw [← h.len]; exact hl)] at b
      cases a
      cases b
      exact hv
    · rw [List.getElem?_eq_none (by rw [List.length_set]; omega)] at a
      cases a
  · rw [List.getElem?_set_ne hj] at a b
    exact h.at_ j x y a b⟩
theorem Rps.reverse (h : Rps K F vs ds) : Rps K F vs.reverse ds.reverse := ⟨by rw [List.length_reverse, List.length_reverse, h.len], fun i x y a b => by
  by_cases hi : i < vs.length
  · rw [List.getElem?_reverse hi] at a
    rw [List.getElem?_reverse (by rw [← h.len]; exact hi), ← h.len] at b
    exact h.at_ _ x y a b
  · rw [List.getElem?_eq_none (by rw [List.length_reverse]; omega)] at a
    cases a⟩
theorem Rps.dropLast (h : Rps K F vs ds) : Rps K F vs.dropLast ds.dropLast := by
  rw [List.dropLast_eq_take, List.dropLast_eq_take, h.len]
  exact h.take _
theorem Rps.eraseIdx (h : Rps K F vs ds) (n : Nat) : Rps K F (vs.eraseIdx n) (ds.eraseIdx n) := by
  rw [List.eraseIdx_eq_take_drop_succ, List.eraseIdx_eq_take_drop_succ]
  exact (h.take n).append (h.drop (n + 1))
theorem Rps.of_map {α : Type} {xs : List α} {f : α → V} {g : α → D} (h : ∀ x ∈ xs, Rp K F (f x) (g x)) : Rps K F (xs.map f) (xs.map g) := ⟨by rw [List.length_map, List.length_map], fun i v d a b => by
  rw [List.getElem?_map] at a b
  cases e : xs[i]? with
  | none =>
    rw [e] at a
    cases a
  | some x =>
    rw [e] at a b
    cases a
    cases b
    exact h x (List.mem_of_getElem? e)⟩
/-! inversions -/
theorem Rp.of_int {i : Int} (h : Rp K F v (.int i)) : v = .int i := by cases h; rfl
theorem Rp.of_bl {b : Bool} (h : Rp K F v (.bl b)) : v = .bl b := by cases h; rfl
theorem Rp.of_str {x : Str} (h : Rp K F v (.str x)) : v = .str x := by cases h; rfl
theorem Rp.of_ty {x : String} (h : Rp K F v (.ty x)) : v = .ty x := by cases h; rfl
theorem Rp.of_non (h : Rp K F v .non) : v = .non := by cases h; rfl
theorem Rp.of_at {a : Addr} (h : Rp K F v (.at a)) : v = .ref a := by cases h; rfl
theorem Rp.of_tup (h : Rp K F v (.tup ds)) : ∃ a vs, v = .ref a ∧ SqT K F a vs ∧ Rps K F vs ds := by
  cases h with
  | tup hs hl ha => exact ⟨_, _, rfl, hs, hl, ha⟩
theorem Rp.of_lst (h : Rp K F v (.lst ds)) : ∃ a vs, v = .ref a ∧ F a = some (.lst vs) ∧ Rps K F vs ds := by
  cases h with
  | lst hs hl ha => exact ⟨_, _, rfl, hs, hl, ha⟩
theorem Rp.of_scr (h : Rp K F v (.scr ds)) : ∃ a vs, v = .ref a ∧ SqL K F a vs ∧ Rps K F vs ds := by
  cases h with
  | scr hs hl ha => exact ⟨_, _, rfl, hs, hl, ha⟩
theorem Rp.of_obj {C : Addr} {fs : List (Str × D)} (h : Rp K F v (.obj C fs)) : ∃ a dx vs, v = .ref a ∧ F a = some (.ins C dx vs) ∧ Rpf K F vs fs := by
  cases h with
  | obj hs hl hn ha => exact ⟨_, _, _, rfl, hs, hl, hn, ha⟩
theorem Rp.mk_tup {a : Addr} (h : SqT K F a vs) (r : Rps K F vs ds) : Rp K F (.ref a) (.tup ds) := .tup h r.len r.at_
theorem Rp.mk_lst {a : Addr} (h : F a = some (.lst vs)) (r : Rps K F vs ds) : Rp K F (.ref a) (.lst ds) := .lst h r.len r.at_
theorem Rp.mk_scr {a : Addr} (h : SqL K F a vs) (r : Rps K F vs ds) : Rp K F (.ref a) (.scr ds) := .scr h r.len r.at_
end
/-! ### what may change -/
inductive MO where
  | lst (ds : List D) | ins (C : Addr) (fs : List (Str × D)) | dK (kvs : List (Key × D))
abbrev Mem := List (Addr × MO)
def MoOk (K : Fg) (F H : Hp) (a : Addr) : MO → Prop
  | .lst ds => ∃ vs, H a = some (.lst vs) ∧ Rps K F vs ds
  | .ins C fs => ∃ dx vs, H a = some (.ins C dx vs) ∧ Rpf K F vs fs
  | .dK kvs => ∃ ws : List (Key × V), H a = some (.dK ws) ∧ ws.map (·.1) = kvs.map (·.1) ∧ Rps K F (ws.map (·.2)) (kvs.map (·.2))
structure Lay (K : Fg) (F : Hp) (M : Mem) (H : Hp) : Prop where
  fr : ∀ a o, F a = some o → H a = some o
  nd : (M.map (·.1)).Nodup
  ap : ∀ p ∈ M, F p.1 = none
  mu : ∀ p ∈ M, MoOk K F H p.1 p.2
section
variable {K : Fg} {F F' H H' : Hp} {M : Mem} {a p : Addr} {mo mo' : MO} {o : HO}
theorem MoOk.mono (e : Ex F F') (h : H' a = H a) (x : MoOk K F H a mo) : MoOk K F' H' a mo := by
  cases mo with
  | lst ds =>
    obtain ⟨vs, q, r⟩ := x
    exact ⟨vs, h.trans q, r.mono e⟩
  | ins C fs =>
    obtain ⟨dx, vs, q, r⟩ := x
    exact ⟨dx, vs, h.trans q, r.mono e⟩
  | dK kvs =>
    obtain ⟨ws, q, e1, r⟩ := x
    exact ⟨ws, h.trans q, e1, r.mono e⟩
theorem MoOk.there (x : MoOk K F H a mo) : ∃ o, H a = some o := by
  cases mo with
  | lst ds =>
    obtain ⟨vs, q, r⟩ := x
    exact ⟨_, q⟩
  | ins C fs =>
    obtain ⟨dx, vs, q, r⟩ := x
    exact ⟨_, q⟩
  | dK kvs =>
    obtain ⟨ws, q, _⟩ := x
    exact ⟨_, q⟩
theorem Lay.free (L : Lay K F M H) (h : H p = none) : F p = none := by
  cases e : F p with
  | none => rfl
  | some o =>
    rw [L.fr p o e] at h
    cases h
theorem Lay.notin (L : Lay K F M H) (h : H p = none) : p ∉ M.map (·.1) := fun hm => by
  obtain ⟨q, hq, rfl⟩ := List.mem_map.mp hm
  obtain ⟨o, e⟩ := (L.mu q hq).there
  rw [e] at h
  cases h
theorem ex_upd (h : F p = none) : Ex F (upd F p o) := fun a u e => by
  rw [upd_ne (ne_of_none e h)]
  exact e
/-- the heap has grown, all else stands -/
theorem Lay.grow (L : Lay K F M H) (h : ∀ a o, H a = some o → H' a = some o) : Lay K F M H' where
  fr := fun a o e => h a o (L.fr a o e)
  nd := L.nd
  ap := L.ap
  mu := fun q hq => by
    obtain ⟨o, e⟩ := (L.mu q hq).there
    exact (L.mu q hq).mono (Ex.refl F) (by rw [e, h _ _ e])
/-- a new thing that will not change -/
theorem Lay.new (L : Lay K F M H) (h : H p = none) : Lay K (upd F p o) M (upd H p o) where
  fr := fun a u e => by
    by_cases ha : a = p
    · subst ha
      rw [upd_same] at e ⊢
      exact e
    · rw [upd_ne ha] at e ⊢
      exact L.fr a u e
  nd := L.nd
  ap := fun q hq => by
    obtain ⟨u, e⟩ := (L.mu q hq).there
    rw [upd_ne (ne_of_none e h)]
    exact L.ap q hq
  mu := fun q hq => by
    obtain ⟨u, e⟩ := (L.mu q hq).there
    exact (L.mu q hq).mono (ex_upd (L.free h)) (upd_ne (ne_of_none e h))
/-- a new thing that may change -/
theorem Lay.newM (L : Lay K F M H) (h : H p = none) (m : MoOk K F (upd H p o) p mo) : Lay K F ((p, mo) :: M) (upd H p o) where
  fr := fun a u e => by
    rw [upd_ne (fun z => by rw [z, L.free h] at e; cases e)]
    exact L.fr a u e
  nd := List.nodup_cons.mpr ⟨L.notin h, L.nd⟩
  ap := fun q hq => by
    rcases List.mem_cons.mp hq with rfl | hq
    · exact L.free h
    · exact L.ap q hq
  mu := fun q hq => by
    rcases List.mem_cons.mp hq with rfl | hq
    · exact m
    · obtain ⟨u, e⟩ := (L.mu q hq).there
      exact (L.mu q hq).mono (Ex.refl F) (upd_ne (ne_of_none e h))
theorem nodup_at {M : Mem} (hN : (M.map (·.1)).Nodup) {i j : Nat} {p q : Addr × MO} (a : M[i]? = some p) (b : M[j]? = some q) (e : p.1 = q.1) : i = j := by
  refine nd_ix hN (x := p.1) (by rw [List.getElem?_map, a]; rfl) ?_
  rw [List.getElem?_map, b, e]
  rfl
/-- a thing changes -/
theorem Lay.set (L : Lay K F M H) {i : Nat} (hi : M[i]? = some (p, mo)) (m : MoOk K F (upd H p o) p mo') : Lay K F (M.set i (p, mo')) (upd H p o) where
  fr := fun a u e => by
    rw [upd_ne (fun z => by rw [z, L.ap _ (List.mem_of_getElem? hi)] at e; cases e)]
    exact L.fr a u e
  nd := by
    have e : (M.set i (p, mo')).map (·.1) = M.map (·.1) := by
      rw [List.map_set]
      apply List.ext_getElem?
      intro j
      by_cases hj : i = j
      · subst hj
        have hl : i < (M.map (·.1)).length := by
          rw [List.length_map]
          exact (List.getElem?_eq_some_iff.mp hi).1
        rw [List.getElem?_set_self hl, List.getElem?_map, hi]
        rfl
      · rw [List.getElem?_set_ne hj]
    rw [e]
    exact L.nd
  ap := fun q hq => by
    rcases List.mem_or_eq_of_mem_set hq with hq | rfl
    · exact L.ap q hq
    · exact L.ap (p, mo) (List.mem_of_getElem? hi)
  mu := fun q hq => by
    obtain ⟨j, hj⟩ := List.mem_iff_getElem?.mp hq
    by_cases hij : i = j
    · subst hij
      rw [List.getElem?_set_self (List.getElem?_eq_some_iff.mp hi).1] at hj
      cases hj
      exact m
    · rw [List.getElem?_set_ne hij] at hj
      refine (L.mu q (List.mem_of_getElem? hj)).mono (Ex.refl F) (upd_ne fun z => hij ?_)
      exact nodup_at L.nd hi hj z.symm
/-- a thing is forgotten -/
theorem Lay.drop (L : Lay K F M H) (i : Nat) : Lay K F (M.eraseIdx i) H where
  fr := L.fr
  nd := by
    have h := L.nd.sublist ((List.eraseIdx_sublist M i).map (·.1))
    exact h
  ap := fun q hq => L.ap q (List.mem_of_mem_eraseIdx hq)
  mu := fun q hq => L.mu q (List.mem_of_mem_eraseIdx hq)
/-- a thing changes no more -/
theorem Lay.frz (L : Lay K F M H) {i : Nat} (hi : M[i]? = some (p, mo)) (hp : H p = some o) : Lay K (upd F p o) (M.eraseIdx i) H ∧ Ex F (upd F p o) := by
  have hF := L.ap _ (List.mem_of_getElem? hi)
  have ex : Ex F (upd F p o) := ex_upd hF
  refine ⟨⟨fun a u e => ?_, (L.drop i).nd, fun q hq => ?_, fun q hq => ((L.drop i).mu q hq).mono ex rfl⟩, ex⟩
  · by_cases ha : a = p
    · subst ha
      rw [upd_same] at e
      rw [← e]
      exact hp
    · rw [upd_ne ha] at e
      exact L.fr a u e
  · rw [upd_ne]
    · exact (L.drop i).ap q hq
    · intro z
      obtain ⟨j, hj⟩ := List.mem_iff_getElem?.mp hq
      rw [List.getElem?_eraseIdx] at hj
      split at hj
      · have := nodup_at L.nd hi hj z.symm
        omega
      · have := nodup_at L.nd hi hj z.symm
        omega
theorem Lay.at_ (L : Lay K F M H) {i : Nat} (hi : M[i]? = some (p, mo)) : MoOk K F H p mo := L.mu _ (List.mem_of_getElem? hi)
end
/-! ### slots -/
abbrev Gm := List (Option D)
structure Has (K : Fg) (F : Hp) (σ : L2.St) (Γ : Gm) : Prop where
  len : σ.length = Γ.length
  at_ : ∀ (i : Nat) (d : D), Γ[i]? = some (some d) → ∃ v, σ[i]? = some (some v) ∧ Rp K F v d
theorem Has.mono {K : Fg} {F F' : Hp} {σ : L2.St} {Γ : Gm} (e : Ex F F') (h : Has K F σ Γ) : Has K F' σ Γ := ⟨h.len, fun i d q => by
  obtain ⟨v, a, b⟩ := h.at_ i d q
  exact ⟨v, a, b.mono e⟩⟩
theorem Has.set {K : Fg} {F : Hp} {σ : L2.St} {Γ : Gm} {v : V} {d : D} (h : Has K F σ Γ) (i : Nat) (r : Rp K F v d) : Has K F (σ.set i (some v)) (Γ.set i (some d)) := ⟨by rw [List.length_set, List.length_set, h.len], fun j x q => by
  by_cases hj : i = j
  · subst hj
    by_cases hl : i < Γ.length
    · rw [List.getElem?_set_self hl] at q
      cases q
      exact ⟨v, List.getElem?_set_self (by rw [h.len]; exact hl), r⟩
    · rw [List.getElem?_eq_none (by rw [List.length_set]; omega)] at q
      cases q
  · rw [List.getElem?_set_ne hj] at q ⊢
    exact h.at_ j x q⟩
/-- a slot's datum told otherwise, or forgotten -/
theorem Has.weak {K : Fg} {F : Hp} {σ : L2.St} {Γ Γ' : Gm} (h : Has K F σ Γ) (hl : Γ'.length = Γ.length) (w : ∀ (i : Nat) (d : D), Γ'[i]? = some (some d) → ∃ d0, Γ[i]? = some (some d0) ∧ ∀ v, Rp K F v d0 → Rp K F v d) : Has K F σ Γ' := ⟨h.len.trans hl.symm, fun i d q => by
  obtain ⟨d0, a, b⟩ := w i d q
  obtain ⟨v, c, e⟩ := h.at_ i d0 a
  exact ⟨v, c, b v e⟩⟩
def zwipe (Γ : Gm) : List Nat → Gm
  | [] => Γ
  | v :: vs => (zwipe Γ vs).set v none
theorem Has.unset {K : Fg} {F : Hp} {σ : L2.St} {Γ : Gm} (h : Has K F σ Γ) (i : Nat) : Has K F (σ.set i none) (Γ.set i none) := ⟨by rw [List.length_set, List.length_set, h.len], fun j x q => by
  by_cases hj : i = j
  · subst hj
    by_cases hl : i < Γ.length
    · rw [List.getElem?_set_self hl] at q
      cases q
    · rw [List.getElem?_eq_none (by rw [List.length_set]; omega)] at q
      cases q
  · rw [List.getElem?_set_ne hj] at q ⊢
    exact h.at_ j x q⟩
theorem Has.wipe {K : Fg} {F : Hp} {σ : L2.St} {Γ : Gm} (h : Has K F σ Γ) : ∀ vs : List Nat, Has K F (L2.wipe σ vs) (zwipe Γ vs)
  | [] => h
  | v :: vs => (h.wipe vs).unset v
/-! ### judgements over readings -/
/-- the text's written part; what is wanted of an exception, in the layer's words and of data -/
structure Cz where
  K : Fg
  W : Value → Option Addr → L2.St → Hp → Prop := fun _ _ _ _ => False
  ke : Value → Option (List (Str × D)) → Gm → Mem → Prop := fun _ _ _ _ => False
/-- an exception's own fields lie at d -/
def XfOk (K : Fg) (F H : Hp) (d : Option Addr) : Option (List (Str × D)) → Prop
  | none => d = none
  | some fs => ∃ dd vs, d = some dd ∧ H dd = some (.xd vs) ∧ Rpf K F vs fs
variable {c : Cz}
def XOk (c : Cz) (R : Mem) (F : Hp) : Prop := ∀ (cls : Value) (d : Option Addr) (F' : Hp) (σ' : L2.St) (H' : Hp) (Γ' : Gm) (M' : Mem) (fs : Option (List (Str × D))), Ex F F' → Has c.K F' σ' Γ' → Lay c.K F' (M' ++ R) H' → XfOk c.K F' H' d fs → c.ke cls fs Γ' M' → c.W cls d σ' H'
def KOk {α β : Type} (rel : Hp → β → α → Prop) (K : Fg) (R : Mem) (F : Hp) (k : α → Mem → Prop) (Q : β → Hp → Prop) : Prop := ∀ (v : β) (F' H' : Hp) (M' : Mem) (d : α), Ex F F' → Lay K F' (M' ++ R) H' → rel F' v d → k d M' → Q v H'
abbrev EOk (K : Fg) := KOk (fun F v d => Rp K F v d) K
abbrev AOk (K : Fg) := KOk (fun F v d => Rps K F v d) K
abbrev TOk (K : Fg) := KOk (fun _ (b : Bool) b' => b = b') K
abbrev GOk (K : Fg) := KOk (fun F σ Γ => Has K F σ Γ) K
theorem KOk.mono {α β : Type} {rel : Hp → β → α → Prop} {K : Fg} {R : Mem} {F F' : Hp} {k : α → Mem → Prop} {Q : β → Hp → Prop} (e : Ex F F') (h : KOk rel K R F k Q) : KOk rel K R F' k Q := fun v F1 H1 M1 d e1 => h v F1 H1 M1 d (e.trans e1)
theorem XOk.mono {R : Mem} {F F' : Hp} (e : Ex F F') (h : XOk c R F) : XOk c R F' := fun cls d F1 σ' H' Γ' M' fs e1 => h cls d F1 σ' H' Γ' M' fs (e.trans e1)
def ZE (c : Cz) (t : TE) (Γ : Gm) (M : Mem) (k : D → Mem → Prop) : Prop :=
  ∀ (R : Mem) (F : Hp) (σ : L2.St) (H : Hp) (Q : VK), Has c.K F σ Γ → Lay c.K F (M ++ R) H → XOk c R F → EOk c.K R F k Q → t σ H Q
def ZA (c : Cz) (t : TA) (Γ : Gm) (M : Mem) (k : List D → Mem → Prop) : Prop :=
  ∀ (R : Mem) (F : Hp) (σ : L2.St) (H : Hp) (Q : List V → Hp → Prop), Has c.K F σ Γ → Lay c.K F (M ++ R) H → XOk c R F → AOk c.K R F k Q → t σ H Q
def ZT (c : Cz) (t : TT) (Γ : Gm) (M : Mem) (k : Bool → Mem → Prop) : Prop :=
  ∀ (R : Mem) (F : Hp) (σ : L2.St) (H : Hp) (Q : Bool → Hp → Prop), Has c.K F σ Γ → Lay c.K F (M ++ R) H → XOk c R F → TOk c.K R F k Q → t σ H Q
/-- a target takes d -/
def ZG (c : Cz) (g : TG) (d : D) (Γ : Gm) (M : Mem) (k : Gm → Mem → Prop) : Prop :=
  ∀ (R : Mem) (F : Hp) (σ : L2.St) (H : Hp) (v : V) (Q : L2.St → Hp → Prop), Has c.K F σ Γ → Lay c.K F (M ++ R) H → XOk c R F → Rp c.K F v d → GOk c.K R F k Q → g v σ H Q
def ZGs (c : Cz) (g : TGs) (ds : List D) (Γ : Gm) (M : Mem) (k : Gm → Mem → Prop) : Prop :=
  ∀ (R : Mem) (F : Hp) (σ : L2.St) (H : Hp) (vs : List V) (Q : L2.St → Hp → Prop), Has c.K F σ Γ → Lay c.K F (M ++ R) H → XOk c R F → Rps c.K F vs ds → GOk c.K R F k Q → g vs σ H Q
structure ZEnds where
  nx : Gm → Mem → Prop
  rt : D → Mem → Prop
  bk : Gm → Mem → Prop := fun _ _ => False
  ct : Gm → Mem → Prop := fun _ _ => False
structure DOk (K : Fg) (R : Mem) (F : Hp) (DD : ZEnds) (D : Ends) : Prop where
  nx : GOk K R F DD.nx D.nx
  rt : EOk K R F DD.rt D.rt
  bk : GOk K R F DD.bk D.bk
  ct : GOk K R F DD.ct D.ct
theorem DOk.mono {K : Fg} {R : Mem} {F F' : Hp} {DD : ZEnds} {D : Ends} (e : Ex F F') (h : DOk K R F DD D) : DOk K R F' DD D := ⟨h.nx.mono e, h.rt.mono e, h.bk.mono e, h.ct.mono e⟩
def ZS (c : Cz) (t : TS) (Γ : Gm) (M : Mem) (DD : ZEnds) : Prop :=
  ∀ (R : Mem) (F : Hp) (σ : L2.St) (H : Hp) (D : Ends), Has c.K F σ Γ → Lay c.K F (M ++ R) H → XOk c R F → DOk c.K R F DD D → t D σ H
/-- an iterator that walks ds -/
def Walks (K : Fg) (F : Hp) (J : It) (ds : List D) : Prop := ∀ (F1 : Hp) (M1 : Mem) (H1 : Hp), Ex F F1 → Lay K F1 M1 H1 →
  (∀ i, i < ds.length → J.go i H1) ∧ (∀ i, ds.length ≤ i → J.stop i H1) ∧ ∀ (i : Nat) (d : D) (x : V) (H2 : Hp), ds[i]? = some d → J.yld i H1 x H2 → ∃ F2, Ex F1 F2 ∧ Lay K F2 M1 H2 ∧ Rp K F2 x d
def ZI (c : Cz) (w : TI) (Γ : Gm) (M : Mem) (k : List D → Mem → Prop) : Prop :=
  ∀ (R : Mem) (F : Hp) (σ : L2.St) (H : Hp) (Q : It → Hp → Prop), Has c.K F σ Γ → Lay c.K F (M ++ R) H → XOk c R F → (∀ (J : It) (F' H' : Hp) (M' : Mem) (ds : List D), Ex F F' → Lay c.K F' (M' ++ R) H' → Walks c.K F' J ds → k ds M' → Q J H') → w σ H Q
/-! ### rules of every kind -/
section
variable {Γ : Gm} {M : Mem} {k : D → Mem → Prop} {ta tb : TE} {DD : ZEnds}
theorem z_var {i : Nat} {d : D} (h : Γ[i]? = some (some d)) (hk : k d M) : ZE c (tVar i) Γ M k := fun R F σ H Q hs L _ q => by
  obtain ⟨v, e, r⟩ := hs.at_ i d h
  exact ⟨v, e, q v F H M d (Ex.refl F) L r hk⟩
theorem z_glb {v : V} {d : D} (h : ∀ F, Rp c.K F v d) (hk : k d M) : ZE c (tC v) Γ M k := fun R F σ H Q hs L _ q => q v F H M d (Ex.refl F) L (h F) hk
theorem z_int {i : Int} (hk : k (.int i) M) : ZE c (tC (.int i)) Γ M k := z_glb (fun _ => .int i) hk
theorem z_bl {i : Bool} (hk : k (.bl i) M) : ZE c (tC (.bl i)) Γ M k := z_glb (fun _ => .bl i) hk
theorem z_non (hk : k .non M) : ZE c (tC .non) Γ M k := z_glb (fun _ => .non) hk
theorem z_str {x : Str} (hk : k (.str x) M) : ZE c (tC (.str x)) Γ M k := z_glb (fun _ => .str x) hk
theorem z_ty {x : String} (hk : k (.ty x) M) : ZE c (tC (.ty x)) Γ M k := z_glb (fun _ => .ty x) hk
theorem z_at {a : Addr} (hk : k (.at a) M) : ZE c (tC (.ref a)) Γ M k := z_glb (fun _ => .at a) hk
/-- weaken the end -/
theorem ZE.imp {k' : D → Mem → Prop} (h : ZE c ta Γ M k) (i : ∀ d M', k d M' → k' d M') : ZE c ta Γ M k' := fun R F σ H Q hs L X q => h R F σ H Q hs L X fun v F' H' M' d e L' r kk => q v F' H' M' d e L' r (i d M' kk)
theorem ZA.imp {ta : TA} {k k' : List D → Mem → Prop} (h : ZA c ta Γ M k) (i : ∀ d M', k d M' → k' d M') : ZA c ta Γ M k' := fun R F σ H Q hs L X q => h R F σ H Q hs L X fun v F' H' M' d e L' r kk => q v F' H' M' d e L' r (i d M' kk)
theorem ZT.imp {ta : TT} {k k' : Bool → Mem → Prop} (h : ZT c ta Γ M k) (i : ∀ d M', k d M' → k' d M') : ZT c ta Γ M k' := fun R F σ H Q hs L X q => h R F σ H Q hs L X fun v F' H' M' d e L' r kk => q v F' H' M' d e L' r (i d M' kk)
/-- two operands, then an operation on values -/
def ZR (c : Cz) (r : R2) (x y : D) (M : Mem) (k : D → Mem → Prop) : Prop := ∀ (R : Mem) (F H : Hp) (v w : V) (Q : VK), Lay c.K F (M ++ R) H → Rp c.K F v x → Rp c.K F w y → EOk c.K R F k Q → r v w H Q
theorem z_op {r : R2} (h : ZE c ta Γ M fun x M1 => ZE c tb Γ M1 fun y M2 => ZR c r x y M2 k) : ZE c (tOp r ta tb) Γ M k := fun R F σ H Q hs L X q =>
  h R F σ H _ hs L X fun v F1 H1 M1 x e1 L1 r1 h1 => h1 R F1 σ H1 _ (hs.mono e1) L1 (X.mono e1) fun w F2 H2 M2 y e2 L2 r2 h2 => h2 R F2 H2 v w Q L2 (r1.mono e2) r2 (q.mono (e1.trans e2))
def ZU (c : Cz) (r : V → Hp → VK → Prop) (x : D) (M : Mem) (k : D → Mem → Prop) : Prop := ∀ (R : Mem) (F H : Hp) (v : V) (Q : VK), Lay c.K F (M ++ R) H → Rp c.K F v x → EOk c.K R F k Q → r v H Q
theorem z_un {r : V → Hp → VK → Prop} (h : ZE c ta Γ M fun x M1 => ZU c r x M1 k) : ZE c (tUn r ta) Γ M k := fun R F σ H Q hs L X q =>
  h R F σ H _ hs L X fun v F1 H1 M1 x e1 L1 r1 h1 => h1 R F1 H1 v Q L1 r1 (q.mono e1)
/-- arguments -/
theorem za_nil {k : List D → Mem → Prop} (hk : k [] M) : ZA c tNil Γ M k := fun R F σ H Q hs L _ q => q [] F H M [] (Ex.refl F) L .nil hk
theorem za_cons {tr : TA} {k : List D → Mem → Prop} (h : ZE c ta Γ M fun x M1 => ZA c tr Γ M1 fun xs M2 => k (x :: xs) M2) : ZA c (tCons ta tr) Γ M k := fun R F σ H Q hs L X q =>
  h R F σ H _ hs L X fun v F1 H1 M1 x e1 L1 r1 h1 => h1 R F1 σ H1 _ (hs.mono e1) L1 (X.mono e1) fun ws F2 H2 M2 xs e2 L2 r2 h2 => q (v :: ws) F2 H2 M2 (x :: xs) (e1.trans e2) L2 (.cons (r1.mono e2) r2) h2
/-- a call on values (a built-in) -/
def ZC (c : Cz) (r : List V → Hp → VK → Prop) (ds : List D) (M : Mem) (k : D → Mem → Prop) : Prop := ∀ (R : Mem) (F H : Hp) (vs : List V) (Q : VK), Lay c.K F (M ++ R) H → Rps c.K F vs ds → EOk c.K R F k Q → r vs H Q
theorem z_cb {r : List V → Hp → VK → Prop} {ta : TA} (h : ZA c ta Γ M fun ds M1 => ZC c r ds M1 k) : ZE c (tCB r ta) Γ M k := fun R F σ H Q hs L X q =>
  h R F σ H _ hs L X fun vs F1 H1 M1 ds e1 L1 r1 h1 => h1 R F1 H1 vs Q L1 r1 (q.mono e1)
/-- displays -/
theorem z_tup {ta : TA} (h : ZA c ta Γ M fun ds M1 => ds.length ≤ sizeLine ∧ k (.tup ds) M1) : ZE c (tTup ta) Γ M k := fun R F σ H Q hs L X q =>
  h R F σ H _ hs L X fun vs F1 H1 M1 ds e1 L1 r1 ⟨hl, hk⟩ => ⟨by rw [r1.len]; exact hl, fun p hp => q (.ref p) (upd F1 p (.tup vs)) _ M1 (.tup ds) (e1.trans (ex_upd (L1.free hp))) (L1.new hp) (.mk_tup (SqT.of upd_same) (r1.mono (ex_upd (L1.free hp)))) hk⟩
theorem z_lst {ta : TA} (h : ZA c ta Γ M fun ds M1 => ds.length ≤ sizeLine ∧ k (.lst ds) M1) : ZE c (tLst ta) Γ M k := fun R F σ H Q hs L X q =>
  h R F σ H _ hs L X fun vs F1 H1 M1 ds e1 L1 r1 ⟨hl, hk⟩ => ⟨by rw [r1.len]; exact hl, fun p hp => q (.ref p) (upd F1 p (.lst vs)) _ M1 (.lst ds) (e1.trans (ex_upd (L1.free hp))) (L1.new hp) (.mk_lst upd_same (r1.mono (ex_upd (L1.free hp)))) hk⟩
/-- a list that may change -/
def mk (t : TE) : TE := t
theorem z_lstM {ta : TA} (h : ZA c ta Γ M fun ds M1 => ds.length ≤ sizeLine ∧ ∀ p, k (.at p) ((p, .lst ds) :: M1)) : ZE c (mk (tLst ta)) Γ M k := fun R F σ H Q hs L X q =>
  h R F σ H _ hs L X fun vs F1 H1 M1 ds e1 L1 r1 ⟨hl, hk⟩ => ⟨by rw [r1.len]; exact hl, fun p hp => q (.ref p) F1 _ ((p, .lst ds) :: M1) (.at p) e1 (L1.newM hp ⟨vs, upd_same, r1⟩) (.at p) (hk p)⟩
/-- a list that may change made of a frozen one is not to be had; a changing one is frozen where it is handed on -/
def FrzK (k : D → Mem → Prop) (d : D) (M : Mem) : Prop := match d, M with
  | .at a, (b, .lst ds) :: M1 => a = b ∧ k (.lst ds) M1
  | _, _ => False
def fz (t : TE) : TE := t
theorem z_fz (h : ZE c ta Γ M (FrzK k)) : ZE c (fz ta) Γ M k := fun R F σ H Q hs L X q =>
  h R F σ H Q hs L X fun v F1 H1 M1 d e1 L1 r1 h1 => by
    cases d with
    | «at» a =>
      cases M1 with
      | nil => exact h1.elim
      | cons q1 M2 =>
        obtain ⟨b, mo⟩ := q1
        cases mo with
        | lst ds =>
          obtain ⟨rfl, h1⟩ := h1
          obtain ⟨vs, hv, rv⟩ := L1.at_ (i := 0) rfl
          obtain ⟨L2, e2⟩ := L1.frz (i := 0) rfl hv
          rw [r1.of_at]
          exact q _ _ H1 M2 (.lst ds) (e1.trans e2) L2 (.mk_lst upd_same (rv.mono e2)) h1
        | ins C fs => exact h1.elim
        | dK kvs => exact h1.elim
    | _ => exact h1.elim
/-- tests -/
theorem zt_test {k : Bool → Mem → Prop} (h : ZE c ta Γ M fun d M1 => ∃ b, d = .bl b ∧ k b M1) : ZT c (tTest ta) Γ M k := fun R F σ H Q hs L X q =>
  h R F σ H _ hs L X fun v F1 H1 M1 d e1 L1 r1 ⟨b, e, h1⟩ => by
    subst e
    exact ⟨b, r1.of_bl, q b F1 H1 M1 b e1 L1 rfl h1⟩
theorem zt_B {k : Bool → Mem → Prop} (h : ZE c ta Γ M fun d M1 => ∃ b, d = .bl b ∧ k b M1) : ZT c (tB ta) Γ M k := zt_test h
theorem zt_and {t u : TT} {k : Bool → Mem → Prop} (h : ZT c t Γ M fun b M1 => (b = true → ZT c u Γ M1 k) ∧ (b = false → k false M1)) : ZT c (tAnd t u) Γ M k := fun R F σ H Q hs L X q =>
  h R F σ H _ hs L X fun b F1 H1 M1 b' e1 L1 r1 ⟨h1, h2⟩ => by
    subst r1
    cases b with
    | true => exact h1 rfl R F1 σ H1 Q (hs.mono e1) L1 (X.mono e1) (q.mono e1)
    | false => exact q false F1 H1 M1 false e1 L1 rfl (h2 rfl)
theorem zt_or {t u : TT} {k : Bool → Mem → Prop} (h : ZT c t Γ M fun b M1 => (b = true → k true M1) ∧ (b = false → ZT c u Γ M1 k)) : ZT c (tOr t u) Γ M k := fun R F σ H Q hs L X q =>
  h R F σ H _ hs L X fun b F1 H1 M1 b' e1 L1 r1 ⟨h1, h2⟩ => by
    subst r1
    cases b with
    | false => exact h2 rfl R F1 σ H1 Q (hs.mono e1) L1 (X.mono e1) (q.mono e1)
    | true => exact q true F1 H1 M1 true e1 L1 rfl (h1 rfl)
theorem zt_not {t : TT} {k : Bool → Mem → Prop} (h : ZT c t Γ M fun b M1 => k (!b) M1) : ZT c (tNot t) Γ M k := fun R F σ H Q hs L X q =>
  h R F σ H _ hs L X fun b F1 H1 M1 b' e1 L1 r1 h1 => q (!b) F1 H1 M1 (!b') e1 L1 (by rw [r1]) h1
theorem z_andV (h : ZE c ta Γ M fun d M1 => ∃ b, d = .bl b ∧ (b = true → ZE c tb Γ M1 k) ∧ (b = false → k (.bl false) M1)) : ZE c (tAndV ta tb) Γ M k := fun R F σ H Q hs L X q =>
  h R F σ H _ hs L X fun v F1 H1 M1 d e1 L1 r1 ⟨b, e, h1, h2⟩ => by
    subst e
    refine ⟨b, r1.of_bl, ?_⟩
    cases b with
    | true => exact h1 rfl R F1 σ H1 Q (hs.mono e1) L1 (X.mono e1) (q.mono e1)
    | false => exact q (.bl false) F1 H1 M1 (.bl false) e1 L1 (.bl _) (h2 rfl)
theorem z_orV (h : ZE c ta Γ M fun d M1 => ∃ b, d = .bl b ∧ (b = true → k (.bl true) M1) ∧ (b = false → ZE c tb Γ M1 k)) : ZE c (tOrV ta tb) Γ M k := fun R F σ H Q hs L X q =>
  h R F σ H _ hs L X fun v F1 H1 M1 d e1 L1 r1 ⟨b, e, h1, h2⟩ => by
    subst e
    refine ⟨b, r1.of_bl, ?_⟩
    cases b with
    | false => exact h2 rfl R F1 σ H1 Q (hs.mono e1) L1 (X.mono e1) (q.mono e1)
    | true => exact q (.bl true) F1 H1 M1 (.bl true) e1 L1 (.bl _) (h1 rfl)
theorem z_notV (h : ZE c ta Γ M fun d M1 => ∃ b, d = .bl b ∧ k (.bl (!b)) M1) : ZE c (tNotV ta) Γ M k := fun R F σ H Q hs L X q =>
  h R F σ H _ hs L X fun v F1 H1 M1 d e1 L1 r1 ⟨b, e, h1⟩ => by
    subst e
    exact ⟨b, r1.of_bl, q (.bl (!b)) F1 H1 M1 (.bl (!b)) e1 L1 (.bl _) h1⟩
theorem z_if {t : TT} (h : ZT c t Γ M fun b M1 => (b = true → ZE c ta Γ M1 k) ∧ (b = false → ZE c tb Γ M1 k)) : ZE c (tIf t ta tb) Γ M k := fun R F σ H Q hs L X q =>
  h R F σ H _ hs L X fun b F1 H1 M1 b' e1 L1 r1 ⟨h1, h2⟩ => by
    subst r1
    cases b with
    | true => exact h1 rfl R F1 σ H1 Q (hs.mono e1) L1 (X.mono e1) (q.mono e1)
    | false => exact h2 rfl R F1 σ H1 Q (hs.mono e1) L1 (X.mono e1) (q.mono e1)
/-- targets -/
theorem zg_name {i : Nat} {d : D} {k : Gm → Mem → Prop} (hk : k (Γ.set i (some d)) M) : ZG c (gName i) d Γ M k := fun R F σ H v Q hs L _ r q => q (σ.set i (some v)) F H M (Γ.set i (some d)) (Ex.refl F) L (hs.set i r) hk
theorem zgs_nil {k : Gm → Mem → Prop} (hk : k Γ M) : ZGs c gNil [] Γ M k := fun R F σ H vs Q hs L _ r q => ⟨r.unnil, q σ F H M Γ (Ex.refl F) L hs hk⟩
theorem zgs_cons {g : TG} {gs : TGs} {d : D} {ds : List D} {k : Gm → Mem → Prop} (h : ZG c g d Γ M fun Γ1 M1 => ZGs c gs ds Γ1 M1 k) : ZGs c (gCons g gs) (d :: ds) Γ M k := fun R F σ H vs Q hs L X r q => by
  obtain ⟨v, vs', rfl, r1, r2⟩ := r.uncons
  exact ⟨v, vs', rfl, h R F σ H v _ hs L X r1 fun σ' F1 H1 M1 Γ1 e1 L1 hs1 h1 => h1 R F1 σ' H1 vs' Q hs1 L1 (X.mono e1) (r2.mono e1) (q.mono e1)⟩
theorem zg_tup {gs : TGs} {n : Nat} {ds : List D} {k : Gm → Mem → Prop} (hn : ds.length = n) (h : ZGs c gs ds Γ M k) : ZG c (gTup c.K n gs) (.tup ds) Γ M k := fun R F σ H v Q hs L X r q => by
  obtain ⟨a, vs, rfl, s, rs⟩ := r.of_tup
  exact ⟨a, vs, rfl, ex_t L.fr s, by rw [rs.len]; exact hn, h R F σ H vs Q hs L X rs q⟩
/-- statements -/
theorem zs_nil (h : DD.nx Γ M) : ZS c tNext Γ M DD := fun R F σ H D hs L _ q => q.nx σ F H M Γ (Ex.refl F) L hs h
theorem zs_seq {t u : TS} (h : ZS c t Γ M { DD with nx := fun Γ' M' => ZS c u Γ' M' DD }) : ZS c (tSeq t u) Γ M DD := fun R F σ H D hs L X q =>
  h R F σ H { D with nx := u D } hs L X ⟨fun σ' F1 H1 M1 Γ1 e1 L1 hs1 h1 => h1 R F1 σ' H1 D hs1 L1 (X.mono e1) (q.mono e1), q.rt, q.bk, q.ct⟩
theorem zs_asg {g : TG} (h : ZE c ta Γ M fun d M1 => ZG c g d Γ M1 DD.nx) : ZS c (tAsg ta g) Γ M DD := fun R F σ H D hs L X q =>
  h R F σ H _ hs L X fun v F1 H1 M1 d e1 L1 r1 h1 => h1 R F1 σ H1 v _ (hs.mono e1) L1 (X.mono e1) r1 (q.nx.mono e1)
theorem zs_drop (h : ZE c ta Γ M fun _ M1 => DD.nx Γ M1) : ZS c (tDrop ta) Γ M DD := fun R F σ H D hs L X q =>
  h R F σ H _ hs L X fun v F1 H1 M1 d e1 L1 r1 h1 => q.nx σ F1 H1 M1 Γ e1 L1 (hs.mono e1) h1
theorem zs_ret (h : ZE c ta Γ M DD.rt) : ZS c (tRet ta) Γ M DD := fun R F σ H D hs L X q => h R F σ H _ hs L X q.rt
theorem zs_retN (h : DD.rt .non M) : ZS c tRetN Γ M DD := fun R F σ H D hs L X q => q.rt .non F H M .non (Ex.refl F) L .non h
theorem zs_break (h : DD.bk Γ M) : ZS c tBreak Γ M DD := fun R F σ H D hs L _ q => q.bk σ F H M Γ (Ex.refl F) L hs h
theorem zs_cont (h : DD.ct Γ M) : ZS c tCont Γ M DD := fun R F σ H D hs L _ q => q.ct σ F H M Γ (Ex.refl F) L hs h
theorem zs_if {t : TT} {u w : TS} (h : ZT c t Γ M fun b M1 => (b = true → ZS c u Γ M1 DD) ∧ (b = false → ZS c w Γ M1 DD)) : ZS c (tIfS t u w) Γ M DD := fun R F σ H D hs L X q =>
  h R F σ H _ hs L X fun b F1 H1 M1 b' e1 L1 r1 ⟨h1, h2⟩ => by
    subst r1
    cases b with
    | true => exact h1 rfl R F1 σ H1 D (hs.mono e1) L1 (X.mono e1) (q.mono e1)
    | false => exact h2 rfl R F1 σ H1 D (hs.mono e1) L1 (X.mono e1) (q.mono e1)
theorem ZS.imp {t : TS} {DD' : ZEnds} (h : ZS c t Γ M DD) (n : ∀ Γ' M', DD.nx Γ' M' → DD'.nx Γ' M') (r : ∀ d M', DD.rt d M' → DD'.rt d M') (b : ∀ Γ' M', DD.bk Γ' M' → DD'.bk Γ' M') (ct : ∀ Γ' M', DD.ct Γ' M' → DD'.ct Γ' M') : ZS c t Γ M DD' := fun R F σ H D hs L X q =>
  h R F σ H D hs L X ⟨fun v F' H' M' d e L' rr kk => q.nx v F' H' M' d e L' rr (n _ _ kk), fun v F' H' M' d e L' rr kk => q.rt v F' H' M' d e L' rr (r _ _ kk), fun v F' H' M' d e L' rr kk => q.bk v F' H' M' d e L' rr (b _ _ kk), fun v F' H' M' d e L' rr kk => q.ct v F' H' M' d e L' rr (ct _ _ kk)⟩
/-- a changing list of Mem changes no more: the slot j told as a frozen list -/
theorem zs_frz {t : TS} {i j : Nat} {a : Addr} {ds : List D} (hi : M[i]? = some (a, .lst ds)) (hj : Γ[j]? = some (some (.at a))) (h : ZS c t (Γ.set j (some (.lst ds))) (M.eraseIdx i) DD) : ZS c t Γ M DD := fun R F σ H D hs L X q => by
  have hl : i < M.length := (List.getElem?_eq_some_iff.mp hi).1
  have hi' : (M ++ R)[i]? = some (a, .lst ds) := by rw [List.getElem?_append_left hl]; exact hi
  obtain ⟨vs, hv, rv⟩ := L.at_ hi'
  obtain ⟨L2, e2⟩ := L.frz hi' hv
  rw [List.eraseIdx_append_of_lt_length hl] at L2
  refine h R _ σ H D ((hs.mono e2).weak (by rw [List.length_set]) fun n d hd => ?_) L2 (X.mono e2) (q.mono e2)
  by_cases hn : j = n
  · subst hn
    rw [List.getElem?_set_self (List.getElem?_eq_some_iff.mp hj).1] at hd
    cases hd
    refine ⟨_, hj, fun v hv => ?_⟩
    rw [hv.of_at]
    exact .mk_lst upd_same (rv.mono e2)
  · rw [List.getElem?_set_ne hn] at hd
    exact ⟨d, hd, fun _ h => h⟩
/-- a thing of Mem is forgotten -/
theorem zs_forget {t : TS} {i : Nat} (h : ZS c t Γ (M.eraseIdx i) DD) : ZS c t Γ M DD := fun R F σ H D hs L X q => by
  by_cases hl : i < M.length
  · have L2 := L.drop i
    rw [List.eraseIdx_append_of_lt_length hl] at L2
    exact h R F σ H D hs L2 X q
  · rw [List.eraseIdx_of_length_le (Nat.le_of_not_lt hl)] at h
    exact h R F σ H D hs L X q
/-- while: by a word and a measure -/
theorem zs_while {t : TT} {u : TS} (W : Nat → Gm → Mem → Prop) (m0 : Nat) (h0 : W m0 Γ M)
    (hs : ∀ m Γ1 M1, W m Γ1 M1 → ZT c t Γ1 M1 fun b M2 => (b = true → ZS c u Γ1 M2 { DD with nx := fun Γ' M' => ∃ m', m' < m ∧ W m' Γ' M', ct := fun Γ' M' => ∃ m', m' < m ∧ W m' Γ' M', bk := DD.nx }) ∧ (b = false → DD.nx Γ1 M2)) : ZS c (tWhile t u) Γ M DD := fun R F σ H D hσ L X q => by
  refine ⟨fun m σ' H' => ∃ F' Γ' M', Ex F F' ∧ Has c.K F' σ' Γ' ∧ Lay c.K F' (M' ++ R) H' ∧ W m Γ' M', ⟨m0, F, Γ, M, Ex.refl F, hσ, L, h0⟩, fun m σ' H' ⟨F1, Γ1, M1, e1, hs1, L1, w1⟩ => ?_⟩
  refine hs m Γ1 M1 w1 R F1 σ' H' _ hs1 L1 (X.mono e1) fun b F2 H2 M2 b' e2 L2 r2 ⟨h1, h2⟩ => ?_
  subst r2
  cases b with
  | true =>
    refine ⟨fun σ3 H3 => ∃ m', m' < m ∧ ∃ F' Γ' M', Ex F F' ∧ Has c.K F' σ3 Γ' ∧ Lay c.K F' (M' ++ R) H3 ∧ W m' Γ' M', fun σ3 H3 h => h, ?_⟩
    refine h1 rfl R F2 σ' H2 _ (hs1.mono e2) L2 (X.mono (e1.trans e2)) ⟨fun σ3 F3 H3 M3 Γ3 e3 L3 hs3 ⟨m', hm, w'⟩ => ⟨m', hm, F3, Γ3, M3, (e1.trans e2).trans e3, hs3, L3, w'⟩, q.rt.mono (e1.trans e2), q.nx.mono (e1.trans e2), fun σ3 F3 H3 M3 Γ3 e3 L3 hs3 ⟨m', hm, w'⟩ => ⟨m', hm, F3, Γ3, M3, (e1.trans e2).trans e3, hs3, L3, w'⟩⟩
  | false => exact q.nx σ' F2 H2 M2 Γ1 (e1.trans e2) L2 (hs1.mono e2) (h2 rfl)
/-- for: by a word of the turn -/
def ForK (c : Cz) (g : TG) (tb : TS) (Γ : Gm) (DD : ZEnds) (ds : List D) (M : Mem) : Prop := ∃ I : Nat → Gm → Mem → Prop, I 0 Γ M ∧
  (∀ i d Γ1 M1, ds[i]? = some d → I i Γ1 M1 → ZG c g d Γ1 M1 fun Γ2 M2 => ZS c tb Γ2 M2 { DD with nx := I (i + 1), ct := I (i + 1), bk := DD.nx }) ∧ ∀ Γ1 M1, I ds.length Γ1 M1 → DD.nx Γ1 M1
theorem zs_for {wi : TI} {g : TG} {tb : TS} (h : ZI c wi Γ M (ForK c g tb Γ DD)) : ZS c (tFor wi g tb) Γ M DD := fun R F σ H D hσ L X q => by
  refine h R F σ H _ hσ L X fun J F1 H1 M1 ds e1 L1 wk ⟨I, h0, hs, hd⟩ => ?_
  refine ⟨fun i m σ' H' => m = ds.length - i ∧ i ≤ ds.length ∧ ∃ F' Γ' M', Ex F1 F' ∧ Has c.K F' σ' Γ' ∧ Lay c.K F' (M' ++ R) H' ∧ I i Γ' M', ⟨ds.length, by simp, Nat.zero_le _, F1, Γ, M1, Ex.refl _, hσ.mono e1, L1, h0⟩, ?_⟩
  rintro i m σ' H' ⟨rfl, hi, F2, Γ2, M2, e2, hs2, L2, w2⟩
  obtain ⟨g1, g2, g3⟩ := wk F2 _ H' e2 L2
  by_cases hlt : i < ds.length
  · refine .inr ⟨g1 i hlt, fun σ3 H3 => ∃ F' Γ' M', Ex F1 F' ∧ Has c.K F' σ3 Γ' ∧ Lay c.K F' (M' ++ R) H3 ∧ I (i + 1) Γ' M', fun σ3 H3 z => ⟨ds.length - (i + 1), by omega, rfl, hlt, z⟩, fun x H3 y => ?_⟩
    obtain ⟨F3, e3, L3, r3⟩ := g3 i _ x H3 (List.getElem?_eq_getElem hlt) y
    have e13 : Ex F F3 := (e1.trans e2).trans e3
    refine hs i _ Γ2 M2 (List.getElem?_eq_getElem hlt) w2 R F3 σ' H3 x _ (hs2.mono e3) L3 (X.mono e13) r3 fun σ4 F4 H4 M4 Γ4 e4 L4 hs4 h4 => ?_
    exact h4 R F4 σ4 H4 _ hs4 L4 (X.mono (e13.trans e4)) ⟨fun σ5 F5 H5 M5 Γ5 e5 L5 hs5 w5 => ⟨F5, Γ5, M5, ((e2.trans e3).trans e4).trans e5, hs5, L5, w5⟩, q.rt.mono (e13.trans e4), q.nx.mono (e13.trans e4), fun σ5 F5 H5 M5 Γ5 e5 L5 hs5 w5 => ⟨F5, Γ5, M5, ((e2.trans e3).trans e4).trans e5, hs5, L5, w5⟩⟩
  · have e : i = ds.length := by omega
    subst e
    exact .inl ⟨g2 _ (Nat.le_refl _), q.nx σ' F2 H' M2 Γ2 (e1.trans e2) L2 hs2 (hd _ _ w2)⟩
/-- comprehensions -/
def Own (g : TG) (vs : List Nat) : Prop := ∀ (x : V) (σ : L2.St) (H : Hp) (Q : L2.St → Hp → Prop), g x σ H Q → g x σ H fun σ2 H2 => L2.wipe σ2 vs = L2.wipe σ vs ∧ Q σ2 H2
def Owns (g : TGs) (vs : List Nat) : Prop := ∀ (x : List V) (σ : L2.St) (H : Hp) (Q : L2.St → Hp → Prop), g x σ H Q → g x σ H fun σ2 H2 => L2.wipe σ2 vs = L2.wipe σ vs ∧ Q σ2 H2
theorem wipe_set_mem {σ : L2.St} {j : Nat} {x : Option V} : ∀ {vs : List Nat}, j ∈ vs → L2.wipe (σ.set j x) vs = L2.wipe σ vs
  | [], h => by simp at h
  | v :: vs, h => by
    unfold L2.wipe
    by_cases hv : j = v
    · subst hv
      have e : ∀ (ws : List Nat) (τ : L2.St), (L2.wipe (τ.set j x) ws).set j none = (L2.wipe τ ws).set j none := by
        intro ws
        induction ws with
        | nil =>
          intro τ
          exact List.set_set ..
        | cons w ws ih =>
          intro τ
          unfold L2.wipe
          by_cases hw : w = j
          · subst hw
            rw [ih τ]
          · rw [List.set_comm _ _ hw, ih τ, List.set_comm _ _ hw]
      exact e vs σ
    · rw [wipe_set_mem (vs := vs) ((List.mem_cons.mp h).resolve_left hv)]
theorem own_name {j : Nat} {vs : List Nat} (h : j ∈ vs) : Own (gName j) vs := fun x σ H Q q => ⟨wipe_set_mem h, q⟩
theorem owns_nil {vs : List Nat} : Owns gNil vs := fun x σ H Q ⟨e, q⟩ => ⟨e, rfl, q⟩
theorem owns_cons {g : TG} {gs : TGs} {vs : List Nat} (mono : ∀ (x : V) (σ : L2.St) (H : Hp) (Q Q' : L2.St → Hp → Prop), (∀ a b, Q a b → Q' a b) → g x σ H Q → g x σ H Q') (monos : ∀ (x : List V) (σ : L2.St) (H : Hp) (Q Q' : L2.St → Hp → Prop), (∀ a b, Q a b → Q' a b) → gs x σ H Q → gs x σ H Q') (h : Own g vs) (hs : Owns gs vs) : Owns (gCons g gs) vs := fun x σ H Q ⟨v, r, e, q⟩ => by
  refine ⟨v, r, e, mono _ _ _ _ _ (fun σ1 H1 ⟨e1, q1⟩ => ?_) (h v σ H _ q)⟩
  exact monos _ _ _ _ _ (fun σ2 H2 ⟨e2, q2⟩ => ⟨e2.trans e1, q2⟩) (hs r σ1 H1 Q q1)
theorem mono_name {j : Nat} (x : V) (σ : L2.St) (H : Hp) (Q Q' : L2.St → Hp → Prop) (i : ∀ a b, Q a b → Q' a b) (h : gName j x σ H Q) : gName j x σ H Q' := i _ _ h
theorem mono_nil (x : List V) (σ : L2.St) (H : Hp) (Q Q' : L2.St → Hp → Prop) (i : ∀ a b, Q a b → Q' a b) (h : gNil x σ H Q) : gNil x σ H Q' := ⟨h.1, i _ _ h.2⟩
theorem mono_cons {g : TG} {gs : TGs} (mono : ∀ (x : V) (σ : L2.St) (H : Hp) (Q Q' : L2.St → Hp → Prop), (∀ a b, Q a b → Q' a b) → g x σ H Q → g x σ H Q') (monos : ∀ (x : List V) (σ : L2.St) (H : Hp) (Q Q' : L2.St → Hp → Prop), (∀ a b, Q a b → Q' a b) → gs x σ H Q → gs x σ H Q')
    (x : List V) (σ : L2.St) (H : Hp) (Q Q' : L2.St → Hp → Prop) (i : ∀ a b, Q a b → Q' a b) (h : gCons g gs x σ H Q) : gCons g gs x σ H Q' := by
  obtain ⟨v, r, e, q⟩ := h
  exact ⟨v, r, e, mono _ _ _ _ _ (fun σ1 H1 q1 => monos _ _ _ _ _ i q1) q⟩
theorem mono_tup {K : Fg} {n : Nat} {gs : TGs} (monos : ∀ (x : List V) (σ : L2.St) (H : Hp) (Q Q' : L2.St → Hp → Prop), (∀ a b, Q a b → Q' a b) → gs x σ H Q → gs x σ H Q') (x : V) (σ : L2.St) (H : Hp) (Q Q' : L2.St → Hp → Prop) (i : ∀ a b, Q a b → Q' a b) (h : gTup K n gs x σ H Q) : gTup K n gs x σ H Q' := by
  obtain ⟨a, xs, e, s, hl, q⟩ := h
  exact ⟨a, xs, e, s, hl, monos _ _ _ _ _ i q⟩
theorem own_tup {K : Fg} {n : Nat} {gs : TGs} {vs : List Nat} (hs : Owns gs vs) : Own (gTup K n gs) vs := fun x σ H Q ⟨a, xs, e, s, hl, q⟩ => ⟨a, xs, e, s, hl, hs xs σ H Q q⟩
def LcK (c : Cz) (g : TG) (tt : TT) (te : TE) (vs : List Nat) (Γ : Gm) (k : List D → Mem → Prop) (ds : List D) (M : Mem) : Prop := ds.length ≤ sizeLine ∧ ∃ I : Nat → List D → Mem → Prop, I 0 [] M ∧
  (∀ i d acc M1, ds[i]? = some d → acc.length ≤ i → I i acc M1 → ZG c g d (zwipe Γ vs) M1 fun Γ2 M2 => ZT c tt Γ2 M2 fun b M3 => (b = true → ZE c te Γ2 M3 fun y M4 => I (i + 1) (acc ++ [y]) M4) ∧ (b = false → I (i + 1) acc M3)) ∧ ∀ acc M1, I ds.length acc M1 → k acc M1
/-- what a block's exceptions may be: none -/
abbrev Cz.blk (c : Cz) : Cz := ⟨c.K, fun _ _ _ _ => False, fun _ _ _ _ => False⟩
theorem xok_blk {R : Mem} {F : Hp} : XOk c.blk R F := fun _ _ _ _ _ _ _ _ _ _ _ _ h => h
theorem wipe_wipe {σ : L2.St} {vs : List Nat} : L2.wipe (L2.wipe σ vs) vs = L2.wipe σ vs := by
  have : ∀ (us : List Nat) (τ : L2.St), (∀ u ∈ us, ∀ z, τ[u]? = some z → z = none) → L2.wipe τ us = τ := by
    intro us
    induction us with
    | nil => intro τ _; rfl
    | cons u us ih =>
      intro τ ht
      unfold L2.wipe
      rw [ih τ fun v hv => ht v (List.mem_cons_of_mem _ hv)]
      apply List.ext_getElem?
      intro n
      by_cases hn : u = n
      · subst hn
        by_cases hl : u < τ.length
        · rw [List.getElem?_set_self hl]
          have := ht u List.mem_cons_self τ[u] (List.getElem?_eq_getElem hl)
          rw [List.getElem?_eq_getElem hl, this]
        · rw [List.getElem?_eq_none (by rw [List.length_set]; omega), List.getElem?_eq_none (by omega)]
      · rw [List.getElem?_set_ne hn]
  refine this vs _ fun u hu z hz => ?_
  cases z with
  | none => rfl
  | some y => exact absurd hu (L2.wipe_some hz).2
theorem lc_gen {wi : TI} {g : TG} {tt : TT} {te : TE} {vs : List Nat} {k : List D → Mem → Prop} {R : Mem} {F : Hp} {σ : L2.St} {H : Hp} {Q : VK} (ho : Own g vs) (h : ZI c wi Γ M (LcK c.blk g tt te vs Γ k)) (hσ : Has c.K F σ Γ) (L : Lay c.K F (M ++ R) H) (X : XOk c R F)
    (q : ∀ p ws F' H' M' ds, Ex F F' → Lay c.K F' (M' ++ (p, .lst ds) :: R) H' → H' p = some (.lst ws) → Rps c.K F' ws ds → k ds M' → Q (.ref p) H') : tLc wi g tt te vs σ H Q := by
  refine h R F σ H _ hσ L X fun J F1 H1 M1 ds e1 L1 wk ⟨hz, I, h0, hs, hd⟩ => ?_
  intro p hp
  refine ⟨fun i m H' => m = ds.length - i ∧ i ≤ ds.length ∧ ∃ F' M' acc, acc.length ≤ i ∧ Ex F1 F' ∧ Lay c.K F' (M' ++ (p, .lst acc) :: R) H' ∧ I i acc M', ⟨ds.length, by simp, Nat.zero_le _, F1, M1, [], Nat.le_refl _, Ex.refl _, ?_, h0⟩, ?_⟩
  · have L2 := L1.newM hp (o := .lst []) (mo := .lst []) ⟨[], upd_same, .nil⟩
    refine ⟨L2.fr, ?_, fun r hr => L2.ap r ?_, fun r hr => L2.mu r ?_⟩
    · have e : List.Perm (M1 ++ (p, MO.lst []) :: R) ((p, MO.lst []) :: (M1 ++ R)) := List.perm_middle
      exact ((e.map (·.1)).nodup_iff).mpr L2.nd
    · rcases List.mem_append.mp hr with hr | hr
      · exact List.mem_cons_of_mem _ (List.mem_append_left _ hr)
      · rcases List.mem_cons.mp hr with rfl | hr
        · exact List.mem_cons_self
        · exact List.mem_cons_of_mem _ (List.mem_append_right _ hr)
    · rcases List.mem_append.mp hr with hr | hr
      · exact List.mem_cons_of_mem _ (List.mem_append_left _ hr)
      · rcases List.mem_cons.mp hr with rfl | hr
        · exact List.mem_cons_self
        · exact List.mem_cons_of_mem _ (List.mem_append_right _ hr)
  · rintro i m H' ⟨rfl, hi, F2, M2, acc, hacc, e2, Lb, w2⟩
    obtain ⟨g1, g2, g3⟩ := wk F2 _ H' e2 Lb
    by_cases hlt : i < ds.length
    · refine .inr ⟨g1 i hlt, fun H3 => ∃ F' M' acc, acc.length ≤ i + 1 ∧ Ex F1 F' ∧ Lay c.K F' (M' ++ (p, .lst acc) :: R) H3 ∧ I (i + 1) acc M', fun H3 z => ⟨ds.length - (i + 1), by omega, rfl, hlt, z⟩, fun x H3 y => ?_⟩
      obtain ⟨F3, e3, L3, r3⟩ := g3 i _ x H3 (List.getElem?_eq_getElem hlt) y
      have e13 : Ex F F3 := (e1.trans e2).trans e3
      have z : g x (L2.wipe σ vs) H3 (fun σ2 H2 => tt σ2 H2 fun b H3 => if b = true then te σ2 H3 fun y H4 => ∃ acc, H4 p = some (.lst acc) ∧ acc.length < sizeLine ∧ ∃ F' M' acc', acc'.length ≤ i + 1 ∧ Ex F1 F' ∧ Lay c.K F' (M' ++ (p, .lst acc') :: R) (upd H4 p (.lst (acc ++ [y]))) ∧ I (i + 1) acc' M' else ∃ F' M' acc, acc.length ≤ i + 1 ∧ Ex F1 F' ∧ Lay c.K F' (M' ++ (p, .lst acc) :: R) H3 ∧ I (i + 1) acc M') := by
        refine hs i _ acc M2 (List.getElem?_eq_getElem hlt) hacc w2 ((p, .lst acc) :: R) F3 (L2.wipe σ vs) H3 x _ ((hσ.mono e13).wipe vs) L3 xok_blk r3 fun σ4 F4 H4 M4 Γ4 e4 L4 hs4 h4 => ?_
        refine h4 ((p, .lst acc) :: R) F4 σ4 H4 _ hs4 L4 xok_blk fun b F5 H5 M5 b' e5 L5 r5 ⟨h5, h6⟩ => ?_
        subst r5
        cases b with
        | true =>
          refine h5 rfl ((p, .lst acc) :: R) F5 σ4 H5 _ (hs4.mono e5) L5 xok_blk fun y F6 H6 M6 d6 e6 L6 r6 w6 => ?_
          have hat : (M6 ++ (p, MO.lst acc) :: R)[M6.length]? = some (p, .lst acc) := by
            rw [List.getElem?_append_right (Nat.le_refl _), Nat.sub_self]
            rfl
          obtain ⟨ws, hw, rw_⟩ := L6.at_ hat
          refine ⟨ws, hw, by rw [rw_.len]; omega, F6, M6, acc ++ [d6], by rw [List.length_append]; exact Nat.succ_le_succ hacc, (((e2.trans e3).trans e4).trans e5).trans e6, ?_, w6⟩
          have L7 := L6.set (o := .lst (ws ++ [y])) (mo' := .lst (acc ++ [d6])) hat ⟨_, upd_same, rw_.append (.one r6)⟩
          rw [List.set_append_right _ _ (Nat.le_refl _), Nat.sub_self] at L7
          exact L7
        | false => exact ⟨F5, M5, acc, Nat.le_succ_of_le hacc, ((e2.trans e3).trans e4).trans e5, L5, h6 rfl⟩
      have z2 := ho x _ H3 _ z
      rw [wipe_wipe] at z2
      exact z2
    · have e : i = ds.length := by omega
      subst e
      have hat : (M2 ++ (p, MO.lst acc) :: R)[M2.length]? = some (p, .lst acc) := by
        rw [List.getElem?_append_right (Nat.le_refl _), Nat.sub_self]
        rfl
      obtain ⟨ws, hw, rw_⟩ := Lb.at_ hat
      exact .inl ⟨g2 _ (Nat.le_refl _), q p ws F2 H' M2 acc (e1.trans e2) Lb hw rw_ (hd _ _ w2)⟩
end
end Z
set_option Elab.async false
set_option linter.all false
set_option maxRecDepth 100000
set_option maxHeartbeats 4000000
/-! ZRules: rules for operators, calls, sequences over ZBase. p_..: a rule of the hand layer with a reading of one name; z.., zr_.., zc_..: what such a reading asks of data. -/
namespace Z
open PySem PySem.Spec PyProof.Rows L2
variable {c : Cz}
/-! ### sequences -/
inductive Sf : D → List D → Prop
  | tup {ds} : Sf (.tup ds) ds
  | lst {ds} : Sf (.lst ds) ds
  | scr {ds} : Sf (.scr ds) ds
inductive Sq (M : Mem) : D → List D → Prop
  | tup {ds} : Sq M (.tup ds) ds
  | lst {ds} : Sq M (.lst ds) ds
  | scr {ds} : Sq M (.scr ds) ds
  | «at» {a : Addr} {ds} (i : Nat) (h : M[i]? = some (a, .lst ds)) : Sq M (.at a) ds
section
variable {K : Fg} {F H : Hp} {M R : Mem} {v : V} {d : D} {ds : List D}
theorem Lay.memAt {i : Nat} {a : Addr} {mo : MO} (L : Lay K F (M ++ R) H) (h : M[i]? = some (a, mo)) : MoOk K F H a mo := L.at_ (i := i) (by rw [List.getElem?_append_left (List.getElem?_eq_some_iff.mp h).1]; exact h)
theorem Lay.memSet {i : Nat} {a : Addr} {mo mo' : MO} {o : HO} (L : Lay K F (M ++ R) H) (h : M[i]? = some (a, mo)) (m : MoOk K F (upd H a o) a mo') : Lay K F (M.set i (a, mo') ++ R) (upd H a o) := by
  have hl : i < M.length := (List.getElem?_eq_some_iff.mp h).1
  have x := L.set (i := i) (by rw [List.getElem?_append_left hl]; exact h) m
  rw [List.set_append_left _ _ hl] at x
  exact x
theorem Sq.read (s : Sq M d ds) (L : Lay K F (M ++ R) H) (r : Rp K F v d) : ∃ a vs, v = .ref a ∧ (SqL K H a vs ∨ SqT K H a vs) ∧ Rps K F vs ds := by
  cases s with
  | tup =>
    obtain ⟨a, vs, e, h, q⟩ := r.of_tup
    exact ⟨a, vs, e, .inr (ex_t L.fr h), q⟩
  | lst =>
    obtain ⟨a, vs, e, h, q⟩ := r.of_lst
    exact ⟨a, vs, e, .inl (SqL.of (L.fr _ _ h)), q⟩
  | scr =>
    obtain ⟨a, vs, e, h, q⟩ := r.of_scr
    exact ⟨a, vs, e, .inl (ex_l L.fr h), q⟩
  | «at» i h =>
    obtain ⟨vs, e, q⟩ := L.memAt h
    exact ⟨_, vs, r.of_at, .inl (SqL.of e), q⟩
theorem Rps.atI {vs : List V} {i : Int} {e : D} (r : Rps K F vs ds) (h : L2.atI ds i = some e) : ∃ x, L2.atI vs i = some x ∧ Rp K F x e := by
  unfold L2.atI at h ⊢
  rw [r.len]
  cases q : L2.ixN ds.length i with
  | none =>
    rw [q] at h
    cases h
  | some j =>
    rw [q] at h
    exact r.get (show ds[j]? = some e from h)
end
/-- a list, however it stands -/
inductive Sl (M : Mem) : D → List D → Prop
  | lst {ds} : Sl M (.lst ds) ds
  | scr {ds} : Sl M (.scr ds) ds
  | «at» {a : Addr} {ds} (i : Nat) (h : M[i]? = some (a, .lst ds)) : Sl M (.at a) ds
theorem Sl.read {K : Fg} {F H : Hp} {M R : Mem} {v : V} {d : D} {ds : List D} (s : Sl M d ds) (L : Lay K F (M ++ R) H) (r : Rp K F v d) : ∃ a vs, v = .ref a ∧ SqL K H a vs ∧ Rps K F vs ds := by
  cases s with
  | lst =>
    obtain ⟨a, vs, e, h, q⟩ := r.of_lst
    exact ⟨a, vs, e, SqL.of (L.fr _ _ h), q⟩
  | scr =>
    obtain ⟨a, vs, e, h, q⟩ := r.of_scr
    exact ⟨a, vs, e, ex_l L.fr h, q⟩
  | «at» i h =>
    obtain ⟨vs, e, q⟩ := L.memAt h
    exact ⟨_, vs, r.of_at, SqL.of e, q⟩
/-! ### integers -/
def MulOk (i j : Int) : Prop := IntMulOk i j
theorem MulOk.of {i j : Int} (h : i.natAbs.log2 + j.natAbs.log2 < 1000000) : MulOk i j := CMulW.ok h
theorem bits_small {i : Int} (h : i.natAbs < 2 ^ 64) : Builtin.Int.intBits i ≤ 64 := by
  unfold Builtin.Int.intBits
  split
  · omega
  · rename_i h0
    have : i.natAbs.log2 < 64 := (Nat.log2_lt (by intro e; apply h0; simp [Int.natAbs_eq_zero.mp e])).mpr h
    omega
theorem MulOk.left {i j : Int} (h : i.natAbs < 2 ^ 64) : MulOk i j := IntMulOk.of_left (bits_small h)
theorem MulOk.right {i j : Int} (h : j.natAbs < 2 ^ 64) : MulOk i j := IntMulOk.of_right (bits_small h)
def DivOk (i j : Int) : Prop := j ≠ 0 ∧ Builtin.divisionGoesByPylong i j = false
section
variable {X : Cx}
theorem op_mulZ : OpR X (binaryOp .Mult) (rI MulOk fun i j => .int (i * j)) := opI fun _ _ _ _ _ _ _ hc q => mul_int q hc
theorem op_fdivZ : OpR X (binaryOp .FloorDiv) (rI DivOk fun i j => .int (i.fdiv j)) := opI fun _ _ _ _ _ _ _ hc q => floordiv_int hc.1 q (.inl hc.2)
end
def rAddS : R2 := fun x y H Q => ∃ i j, x = .str i ∧ y = .str j ∧ i.length + j.length ≤ sizeLine ∧ Q (.str (i ++ j)) H
def rAddZ (K : Fg) : R2 := fun x y H Q => rI0 (fun i j => .int (i + j)) x y H Q ∨ rCatA K x y H Q ∨ rCat x y H Q ∨ rAddS x y H Q
def rSubZ : R2 := rI0 fun i j => .int (i - j)
def rMulZ : R2 := fun x y H Q => rI MulOk (fun i j => .int (i * j)) x y H Q ∨ rRep x y H Q
def rModZ : R2 := rI (fun _ j => 0 < j) fun i j => .int (i % j)
def rDivZ : R2 := rI DivOk fun i j => .int (i.fdiv j)
def rPowZ : R2 := rI CPow fun i j => .int (i ^ j.toNat)
def rLtZ : R2 := rI0 fun i j => .bl (decide (i < j))
def rLeZ : R2 := rI0 fun i j => .bl (decide (i ≤ j))
def rGtZ : R2 := rI0 fun i j => .bl (decide (j < i))
def rGeZ : R2 := rI0 fun i j => .bl (decide (j ≤ i))
def rEqZ (K : Fg) : R2 := fun x y H Q => rEq x y H Q ∨ rEqD K x y H Q
def rNeZ (K : Fg) : R2 := fun x y H Q => rNe x y H Q ∨ rNeD K x y H Q
def rIsNZ : R2 := fun x y H Q => y = .non ∧ Q (.bl (decide (x = .non))) H
def rNotNZ : R2 := fun x y H Q => y = .non ∧ Q (.bl (!decide (x = .non))) H
def uNegZ : V → Hp → VK → Prop := rU fun i => .int (-i)
section
variable {X : Cx} {a b : Expr} {ta tb : TE} {pos : Pos}
theorem p_add (ha : PE X a ta) (hb : PE X b tb) : PE X (.BinOp a .Add b pos) (tOp (rAddZ X.K) ta tb) := pe_op (op_add.or (op_catA.or (op_cat.or op_add_str))) ha hb
theorem p_sub (ha : PE X a ta) (hb : PE X b tb) : PE X (.BinOp a .Sub b pos) (tOp rSubZ ta tb) := pe_op op_sub ha hb
theorem p_mul (ha : PE X a ta) (hb : PE X b tb) : PE X (.BinOp a .Mult b pos) (tOp rMulZ ta tb) := pe_op (op_mulZ.or op_rep) ha hb
theorem p_mod (ha : PE X a ta) (hb : PE X b tb) : PE X (.BinOp a .Mod b pos) (tOp rModZ ta tb) := pe_op op_mod ha hb
theorem p_fdiv (ha : PE X a ta) (hb : PE X b tb) : PE X (.BinOp a .FloorDiv b pos) (tOp rDivZ ta tb) := pe_op op_fdivZ ha hb
theorem p_pow (ha : PE X a ta) (hb : PE X b tb) : PE X (.BinOp a .Pow b pos) (tOp rPowZ ta tb) := pe_op op_pow ha hb
theorem p_neg (ha : PE X a ta) : PE X (.UnaryOp .USub a pos) (tUn uNegZ ta) := pe_un un_neg ha
theorem p_lt (ha : PE X a ta) (hb : PE X b tb) : PE X (.Compare a [.Lt] [b] pos) (tOp rLtZ ta tb) := pe_cmpR op_lt ha hb (nomark _)
theorem p_le (ha : PE X a ta) (hb : PE X b tb) : PE X (.Compare a [.LtE] [b] pos) (tOp rLeZ ta tb) := pe_cmpR op_le ha hb (nomark _)
theorem p_gt (ha : PE X a ta) (hb : PE X b tb) : PE X (.Compare a [.Gt] [b] pos) (tOp rGtZ ta tb) := pe_cmpR op_gt ha hb (nomark _)
theorem p_ge (ha : PE X a ta) (hb : PE X b tb) : PE X (.Compare a [.GtE] [b] pos) (tOp rGeZ ta tb) := pe_cmpR op_ge ha hb (nomark _)
theorem p_eq (hu : X.A.units + 64 < cLine) (ha : PE X a ta) (hb : PE X b tb) : PE X (.Compare a [.Eq] [b] pos) (tOp (rEqZ X.K) ta tb) := pe_cmpR (op_eq.or (op_eqD hu)) ha hb (nomark _)
theorem p_ne (hu : X.A.units + 64 < cLine) (ha : PE X a ta) (hb : PE X b tb) : PE X (.Compare a [.NotEq] [b] pos) (tOp (rNeZ X.K) ta tb) := pe_cmpR (op_ne.or (op_neD hu)) ha hb (nomark _)
theorem p_isN (ha : PE X a ta) (hb : PE X b tb) : PE X (.Compare a [.Is] [b] pos) (tOp rIsNZ ta tb) := pe_cmpR op_isN ha hb (nomark _)
theorem p_notN (ha : PE X a ta) (hb : PE X b tb) : PE X (.Compare a [.IsNot] [b] pos) (tOp rNotNZ ta tb) := pe_cmpR op_notN ha hb (nomark _)
/-- the same as tests -/
theorem q_lt (ha : PE X a ta) (hb : PE X b tb) : PT X (.Compare a [.Lt] [b] pos) (tTest (tOp rLtZ ta tb)) := pt_cmpR op_lt ha hb (nomark _)
theorem q_le (ha : PE X a ta) (hb : PE X b tb) : PT X (.Compare a [.LtE] [b] pos) (tTest (tOp rLeZ ta tb)) := pt_cmpR op_le ha hb (nomark _)
theorem q_gt (ha : PE X a ta) (hb : PE X b tb) : PT X (.Compare a [.Gt] [b] pos) (tTest (tOp rGtZ ta tb)) := pt_cmpR op_gt ha hb (nomark _)
theorem q_ge (ha : PE X a ta) (hb : PE X b tb) : PT X (.Compare a [.GtE] [b] pos) (tTest (tOp rGeZ ta tb)) := pt_cmpR op_ge ha hb (nomark _)
theorem q_eq (hu : X.A.units + 64 < cLine) (ha : PE X a ta) (hb : PE X b tb) : PT X (.Compare a [.Eq] [b] pos) (tTest (tOp (rEqZ X.K) ta tb)) := pt_cmpR (op_eq.or (op_eqD hu)) ha hb (nomark _)
theorem q_ne (hu : X.A.units + 64 < cLine) (ha : PE X a ta) (hb : PE X b tb) : PT X (.Compare a [.NotEq] [b] pos) (tTest (tOp (rNeZ X.K) ta tb)) := pt_cmpR (op_ne.or (op_neD hu)) ha hb (nomark _)
theorem q_isN (ha : PE X a ta) (hb : PE X b tb) : PT X (.Compare a [.Is] [b] pos) (tTest (tOp rIsNZ ta tb)) := pt_cmpR op_isN ha hb (nomark _)
theorem q_notN (ha : PE X a ta) (hb : PE X b tb) : PT X (.Compare a [.IsNot] [b] pos) (tTest (tOp rNotNZ ta tb)) := pt_cmpR op_notN ha hb (nomark _)
theorem p_mk {e : Expr} {t : TE} (h : PE X e t) : PE X e (mk t) := h
theorem p_fz {e : Expr} {t : TE} (h : PE X e t) : PE X e (fz t) := h
end
section
variable {M : Mem} {k : D → Mem → Prop} {i j : Int}
theorem zr_I0 {g : Int → Int → Int} (h : k (.int (g i j)) M) : ZR c (rI0 fun i j => .int (g i j)) (.int i) (.int j) M k := fun R F H v w Q L r1 r2 q => ⟨i, j, r1.of_int, r2.of_int, q _ F H M _ (Ex.refl F) L (.int _) h⟩
theorem zr_I {C : Int → Int → Prop} {g : Int → Int → Int} (hc : C i j) (h : k (.int (g i j)) M) : ZR c (rI C fun i j => .int (g i j)) (.int i) (.int j) M k := fun R F H v w Q L r1 r2 q => ⟨i, j, r1.of_int, r2.of_int, hc, q _ F H M _ (Ex.refl F) L (.int _) h⟩
theorem zr_B0 {g : Int → Int → Bool} (h : k (.bl (g i j)) M) : ZR c (rI0 fun i j => .bl (g i j)) (.int i) (.int j) M k := fun R F H v w Q L r1 r2 q => ⟨i, j, r1.of_int, r2.of_int, q _ F H M _ (Ex.refl F) L (.bl _) h⟩
theorem zr_addI (h : k (.int (i + j)) M) : ZR c (rAddZ c.K) (.int i) (.int j) M k := fun R F H v w Q L r1 r2 q => .inl (zr_I0 (c := c) (g := fun i j => i + j) h R F H v w Q L r1 r2 q)
theorem zr_sub (h : k (.int (i - j)) M) : ZR c rSubZ (.int i) (.int j) M k := zr_I0 (g := fun i j => i - j) h
theorem zr_mulI (hc : MulOk i j) (h : k (.int (i * j)) M) : ZR c rMulZ (.int i) (.int j) M k := fun R F H v w Q L r1 r2 q => .inl (zr_I (c := c) (C := MulOk) (g := fun i j => i * j) hc h R F H v w Q L r1 r2 q)
theorem zr_mod (hc : 0 < j) (h : k (.int (i % j)) M) : ZR c rModZ (.int i) (.int j) M k := zr_I (C := fun _ j => 0 < j) (g := fun i j => i % j) hc h
theorem zr_div (hc : DivOk i j) (h : k (.int (i.fdiv j)) M) : ZR c rDivZ (.int i) (.int j) M k := zr_I (C := DivOk) (g := fun i j => i.fdiv j) hc h
theorem zr_divP (h0 : 0 < j) (hc : Builtin.divisionGoesByPylong i j = false) (h : k (.int (i / j)) M) : ZR c rDivZ (.int i) (.int j) M k := zr_div ⟨by omega, hc⟩ (by rw [Int.fdiv_eq_ediv_of_nonneg i (by omega)]; exact h)
theorem zr_pow (hc : CPow i j) (h : k (.int (i ^ j.toNat)) M) : ZR c rPowZ (.int i) (.int j) M k := zr_I (C := CPow) (g := fun i j => i ^ j.toNat) hc h
theorem zr_lt (h : k (.bl (decide (i < j))) M) : ZR c rLtZ (.int i) (.int j) M k := zr_B0 (g := fun i j => decide (i < j)) h
theorem zr_le (h : k (.bl (decide (i ≤ j))) M) : ZR c rLeZ (.int i) (.int j) M k := zr_B0 (g := fun i j => decide (i ≤ j)) h
theorem zr_gt (h : k (.bl (decide (j < i))) M) : ZR c rGtZ (.int i) (.int j) M k := zr_B0 (g := fun i j => decide (j < i)) h
theorem zr_ge (h : k (.bl (decide (j ≤ i))) M) : ZR c rGeZ (.int i) (.int j) M k := zr_B0 (g := fun i j => decide (j ≤ i)) h
theorem zu_neg (h : k (.int (-i)) M) : ZU c uNegZ (.int i) M k := fun R F H v Q L r1 q => ⟨i, r1.of_int, q _ F H M _ (Ex.refl F) L (.int _) h⟩
/-- == of scalars -/
theorem zr_eqI (h : k (.bl (decide (i = j))) M) : ZR c (rEqZ c.K) (.int i) (.int j) M k := fun R F H v w Q L r1 r2 q => .inl (by
  rw [r1.of_int, r2.of_int]
  refine ⟨rfl, q _ F H M (.bl (decide (i = j))) (Ex.refl F) L ?_ h⟩
  rw [show decide (V.int i = V.int j) = decide (i = j) by simp]
  exact .bl _)
theorem zr_neI (h : k (.bl (!decide (i = j))) M) : ZR c (rNeZ c.K) (.int i) (.int j) M k := fun R F H v w Q L r1 r2 q => .inl (by
  rw [r1.of_int, r2.of_int]
  refine ⟨rfl, q _ F H M (.bl (!decide (i = j))) (Ex.refl F) L ?_ h⟩
  rw [show decide (V.int i = V.int j) = decide (i = j) by simp]
  exact .bl _)
theorem zr_eqB {i j : Bool} (h : k (.bl (decide (i = j))) M) : ZR c (rEqZ c.K) (.bl i) (.bl j) M k := fun R F H v w Q L r1 r2 q => .inl (by
  rw [r1.of_bl, r2.of_bl]
  refine ⟨rfl, q _ F H M (.bl (decide (i = j))) (Ex.refl F) L ?_ h⟩
  rw [show decide (V.bl i = V.bl j) = decide (i = j) by simp]
  exact .bl _)
theorem zr_neB {i j : Bool} (h : k (.bl (!decide (i = j))) M) : ZR c (rNeZ c.K) (.bl i) (.bl j) M k := fun R F H v w Q L r1 r2 q => .inl (by
  rw [r1.of_bl, r2.of_bl]
  refine ⟨rfl, q _ F H M (.bl (!decide (i = j))) (Ex.refl F) L ?_ h⟩
  rw [show decide (V.bl i = V.bl j) = decide (i = j) by simp]
  exact .bl _)
theorem zr_eqS {i j : Str} (h : k (.bl (decide (i = j))) M) : ZR c (rEqZ c.K) (.str i) (.str j) M k := fun R F H v w Q L r1 r2 q => .inl (by
  rw [r1.of_str, r2.of_str]
  refine ⟨rfl, q _ F H M (.bl (decide (i = j))) (Ex.refl F) L ?_ h⟩
  rw [show decide (V.str i = V.str j) = decide (i = j) by simp]
  exact .bl _)
theorem zr_neS {i j : Str} (h : k (.bl (!decide (i = j))) M) : ZR c (rNeZ c.K) (.str i) (.str j) M k := fun R F H v w Q L r1 r2 q => .inl (by
  rw [r1.of_str, r2.of_str]
  refine ⟨rfl, q _ F H M (.bl (!decide (i = j))) (Ex.refl F) L ?_ h⟩
  rw [show decide (V.str i = V.str j) = decide (i = j) by simp]
  exact .bl _)
def isNon : D → Bool
  | .non => true
  | _ => false
theorem non_iff {K : Fg} {F : Hp} {v : V} {d : D} (r : Rp K F v d) : decide (v = .non) = isNon d := by
  cases r <;> simp [isNon]
theorem zr_isN {d : D} (h : k (.bl (isNon d)) M) : ZR c rIsNZ d .non M k := fun R F H v w Q L r1 r2 q => ⟨r2.of_non, by
  rw [non_iff r1]
  exact q _ F H M _ (Ex.refl F) L (.bl _) h⟩
theorem zr_notN {d : D} (h : k (.bl (!isNon d)) M) : ZR c rNotNZ d .non M k := fun R F H v w Q L r1 r2 q => ⟨r2.of_non, by
  rw [non_iff r1]
  exact q _ F H M _ (Ex.refl F) L (.bl _) h⟩
/-- + of tuples, lists, texts -/
theorem zr_addT {xs ys : List D} (hl : xs.length + ys.length ≤ sizeLine) (h : k (.tup (xs ++ ys)) M) : ZR c (rAddZ c.K) (.tup xs) (.tup ys) M k := fun R F H v w Q L r1 r2 q => .inr (.inl (by
  obtain ⟨a, vs, rfl, s1, p1⟩ := r1.of_tup
  obtain ⟨b, ws, rfl, s2, p2⟩ := r2.of_tup
  refine ⟨a, b, vs, ws, rfl, rfl, ex_t L.fr s1, ex_t L.fr s2, by rw [p1.len, p2.len]; exact hl, fun e => ?_, fun e e2 => ?_, fun e e2 p hp => ?_⟩
  · have e' : xs = [] := List.eq_nil_of_length_eq_zero (by rw [← p1.len, e]; rfl)
    subst e'
    exact q _ F H M (.tup ys) (Ex.refl F) L (.mk_tup s2 p2) h
  · have e' : ys = [] := List.eq_nil_of_length_eq_zero (by rw [← p2.len, e2]; rfl)
    subst e'
    rw [List.append_nil] at h
    exact q _ F H M (.tup xs) (Ex.refl F) L (.mk_tup s1 p1) h
  · exact q _ _ _ M (.tup (xs ++ ys)) (ex_upd (L.free hp)) (L.new hp) (.mk_tup (SqT.of upd_same) ((p1.append p2).mono (ex_upd (L.free hp)))) h))
inductive St (M : Mem) : D → List D → Prop
  | lst {ds} : St M (.lst ds) ds
  | «at» {a : Addr} {ds} (i : Nat) (h : M[i]? = some (a, .lst ds)) : St M (.at a) ds
theorem St.read {K : Fg} {F H : Hp} {M R : Mem} {v : V} {d : D} {ds : List D} (s : St M d ds) (L : Lay K F (M ++ R) H) (r : Rp K F v d) : ∃ a vs, v = .ref a ∧ H a = some (.lst vs) ∧ Rps K F vs ds := by
  cases s with
  | lst =>
    obtain ⟨a, vs, e, h, q⟩ := r.of_lst
    exact ⟨a, vs, e, L.fr _ _ h, q⟩
  | «at» i h =>
    obtain ⟨vs, e, q⟩ := L.memAt h
    exact ⟨_, vs, r.of_at, e, q⟩
theorem zr_addL {x y : D} {xs ys : List D} (s1 : St M x xs) (s2 : St M y ys) (hl : xs.length + ys.length ≤ sizeLine) (h : k (.lst (xs ++ ys)) M) : ZR c (rAddZ c.K) x y M k := fun R F H v w Q L r1 r2 q => .inr (.inr (.inl (by
  obtain ⟨a, vs, rfl, e1, p1⟩ := s1.read L r1
  obtain ⟨b, ws, rfl, e2, p2⟩ := s2.read L r2
  exact ⟨a, b, vs, ws, rfl, rfl, e1, e2, by rw [p1.len, p2.len]; exact hl, fun p hp => q _ _ _ M (.lst (xs ++ ys)) (ex_upd (L.free hp)) (L.new hp) (.mk_lst upd_same ((p1.append p2).mono (ex_upd (L.free hp)))) h⟩)))
theorem zr_addS {x y : Str} (hl : x.length + y.length ≤ sizeLine) (h : k (.str (x ++ y)) M) : ZR c (rAddZ c.K) (.str x) (.str y) M k := fun R F H v w Q L r1 r2 q => .inr (.inr (.inr ⟨x, y, r1.of_str, r2.of_str, hl, q _ F H M _ (Ex.refl F) L (.str _) h⟩))
theorem Rps.rep {K : Fg} {F : Hp} {vs : List V} {ds : List D} (r : Rps K F vs ds) : ∀ n : Nat, Rps K F (List.replicate n vs).flatten (List.replicate n ds).flatten
  | 0 => .nil
  | n + 1 => by
    rw [List.replicate_succ, List.replicate_succ, List.flatten_cons, List.flatten_cons]
    exact r.append (r.rep n)
/-- list * int -/
theorem zr_repL {x : D} {xs : List D} {n : Int} (s1 : St M x xs) (h0 : -(2 ^ 63) ≤ n) (h1 : n < 2 ^ 63) (hl : xs.length * n.toNat ≤ sizeLine) (h : k (.lst (List.replicate n.toNat xs).flatten) M) : ZR c rMulZ x (.int n) M k := fun R F H v w Q L r1 r2 q => .inr (by
  obtain ⟨a, vs, rfl, e1, p1⟩ := s1.read L r1
  exact ⟨a, n, vs, rfl, r2.of_int, e1, h0, h1, by rw [p1.len]; exact hl, fun p hp => q _ _ _ M _ (ex_upd (L.free hp)) (L.new hp) (.mk_lst upd_same ((p1.rep n.toNat).mono (ex_upd (L.free hp)))) h⟩)
end
/-! ### subscripts, slices, membership -/
section
variable {X : Cx} {a b : Expr} {ta tb : TE} {pos p2 : Pos}
def rIxZ (K : Fg) : R2 := rIx K
theorem p_ix (ha : PE X a ta) (hb : PE X b tb) (hs : PlainIx b := by intro _ _; rfl) : PE X (.Subscript a b pos) (tOp (rIxZ X.K) ta tb) := pe_ix ix_seq ha hb hs
def rSlZ (K : Fg) : V → Option Int → Option Int → Hp → VK → Prop := fun x lo hi H Q => rSlL K x lo hi H Q ∨ rSlA K x lo hi H Q ∨ rSlS x lo hi H Q
theorem p_sl {lo hi : Option Expr} {tl th : TO} (he : PE X a ta) (hl : PO X lo tl) (hh : PO X hi th) : PE X (.Subscript a (.Slice lo hi none p2) pos) (tSl (rSlZ X.K) ta tl th) := pe_slice (sl_list.or (sl_tupA.or sl_str)) he hl hh
def rInZ (K : Fg) : R2 := rIn K false
def rNotInZ (K : Fg) : R2 := rIn K true
theorem p_in (ha : PE X a ta) (hb : PE X b tb) (hm : behindInMarks .In b = false := by rfl) : PE X (.Compare a [.In] [b] pos) (tOp (rInZ X.K) ta tb) := pe_cmpR op_in_seq ha hb hm
theorem p_notIn (ha : PE X a ta) (hb : PE X b tb) (hm : behindInMarks .NotIn b = false := by rfl) : PE X (.Compare a [.NotIn] [b] pos) (tOp (rNotInZ X.K) ta tb) := pe_cmpR op_notIn_seq ha hb hm
theorem q_in (ha : PE X a ta) (hb : PE X b tb) (hm : behindInMarks .In b = false := by rfl) : PT X (.Compare a [.In] [b] pos) (tTest (tOp (rInZ X.K) ta tb)) := pt_cmpR op_in_seq ha hb hm
theorem q_notIn (ha : PE X a ta) (hb : PE X b tb) (hm : behindInMarks .NotIn b = false := by rfl) : PT X (.Compare a [.NotIn] [b] pos) (tTest (tOp (rNotInZ X.K) ta tb)) := pt_cmpR op_notIn_seq ha hb hm
end
section
variable {M : Mem} {k : D → Mem → Prop} {Γ : Gm} {d : D} {ds : List D}
theorem zr_ix {i : Int} {e : D} (s : Sq M d ds) (hi : L2.atI ds i = some e) (h : k e M) : ZR c (rIxZ c.K) d (.int i) M k := fun R F H v w Q L r1 r2 q => by
  obtain ⟨a, vs, rfl, p, rr⟩ := s.read L r1
  obtain ⟨x, hx, rx⟩ := rr.atI hi
  have qq := q x F H M e (Ex.refl F) L rx h
  rcases p with p | p
  · exact .inl ⟨a, vs, i, x, rfl, r2.of_int, p, hx, qq⟩
  · exact .inr (.inl ⟨a, vs, i, x, rfl, r2.of_int, p, hx, qq⟩)
theorem zr_ixS {z : Str} {i : Int} {n : Nat} (hz : z.length ≤ sizeLine) (hi : L2.atI z.cps.toList i = some n) (h : k (.str ⟨#[n]⟩) M) : ZR c (rIxZ c.K) (.str z) (.int i) M k := fun R F H v w Q L r1 r2 q =>
  .inr (.inr ⟨z, i, n, r1.of_str, r2.of_int, hz, hi, q _ F H M _ (Ex.refl F) L (.str _) h⟩)
/-- the part of a slice -/
def ZO (c : Cz) (t : TO) (Γ : Gm) (M : Mem) (k : Option Int → Mem → Prop) : Prop :=
  ∀ (R : Mem) (F : Hp) (σ : L2.St) (H : Hp) (Q : Option Int → Hp → Prop), Has c.K F σ Γ → Lay c.K F (M ++ R) H → XOk c R F → KOk (fun _ (o : Option Int) o' => o = o') c.K R F k Q → t σ H Q
theorem zo_none {k : Option Int → Mem → Prop} (h : k none M) : ZO c tNoPart Γ M k := fun R F σ H Q hs L _ q => q none F H M none (Ex.refl F) L rfl h
theorem zo_some {te : TE} {k : Option Int → Mem → Prop} (h : ZE c te Γ M fun d M1 => ∃ i, d = .int i ∧ k (some i) M1) : ZO c (tPart te) Γ M k := fun R F σ H Q hs L X q =>
  h R F σ H _ hs L X fun v F1 H1 M1 d e1 L1 r1 ⟨i, e, h1⟩ => by
    subst e
    exact ⟨i, r1.of_int, q (some i) F1 H1 M1 (some i) e1 L1 rfl h1⟩
def ZSl (c : Cz) (r : V → Option Int → Option Int → Hp → VK → Prop) (d : D) (lo hi : Option Int) (M : Mem) (k : D → Mem → Prop) : Prop := ∀ (R : Mem) (F H : Hp) (v : V) (Q : VK), Lay c.K F (M ++ R) H → Rp c.K F v d → EOk c.K R F k Q → r v lo hi H Q
theorem z_sl {r : V → Option Int → Option Int → Hp → VK → Prop} {te : TE} {tl th : TO} (h : ZE c te Γ M fun d M1 => ZO c tl Γ M1 fun lo M2 => ZO c th Γ M2 fun hi M3 => ZSl c r d lo hi M3 k) : ZE c (tSl r te tl th) Γ M k := fun R F σ H Q hs L X q =>
  h R F σ H _ hs L X fun v F1 H1 M1 d e1 L1 r1 h1 => h1 R F1 σ H1 _ (hs.mono e1) L1 (X.mono e1) fun lo F2 H2 M2 lo' e2 L2 r2 h2 => h2 R F2 σ H2 _ ((hs.mono e1).mono e2) L2 (X.mono (e1.trans e2)) fun hi F3 H3 M3 hi' e3 L3 r3 h3 => by
    subst r2 r3
    exact h3 R F3 H3 v Q L3 (r1.mono (e2.trans e3)) (q.mono ((e1.trans e2).trans e3))
def cutD (xs : List D) (lo hi : Option Int) : List D := (xs.drop (HT.sIx xs.length 0 lo)).take (HT.sIx xs.length xs.length hi - HT.sIx xs.length 0 lo)
theorem Rps.cut {K : Fg} {F : Hp} {vs : List V} {ds : List D} (r : Rps K F vs ds) (lo hi : Option Int) : Rps K F (cutV vs lo hi) (cutD ds lo hi) := by
  unfold cutV cutD
  rw [r.len]
  exact (r.drop _).take _
/-- a slice of a list -/
theorem zl_list {lo hi : Option Int} (s : Sl M d ds) (h : k (.lst (cutD ds lo hi)) M) : ZSl c (rSlZ c.K) d lo hi M k := fun R F H v Q L r1 q => .inl (by
  obtain ⟨a, vs, rfl, p, rr⟩ := s.read L r1
  exact ⟨a, vs, rfl, p, fun p hp => q _ _ _ M _ (ex_upd (L.free hp)) (L.new hp) (.mk_lst upd_same ((rr.cut lo hi).mono (ex_upd (L.free hp)))) h⟩)
theorem zl_tup {lo hi : Option Int} (h : k (.tup (cutD ds lo hi)) M) : ZSl c (rSlZ c.K) (.tup ds) lo hi M k := fun R F H v Q L r1 q => .inr (.inl (by
  obtain ⟨a, vs, rfl, s1, rr⟩ := r1.of_tup
  refine ⟨a, vs, rfl, ex_t L.fr s1, fun ⟨e1, e2⟩ => ?_, fun _ p hp => q _ _ _ M _ (ex_upd (L.free hp)) (L.new hp) (.mk_tup (SqT.of upd_same) ((rr.cut lo hi).mono (ex_upd (L.free hp)))) h⟩
  have e : cutD ds lo hi = ds := by
    unfold cutD
    rw [← rr.len, e1, e2, List.drop_zero, Nat.sub_zero, rr.len, List.take_length]
  rw [e] at h
  exact q _ F H M _ (Ex.refl F) L (.mk_tup s1 rr) h))
theorem zl_str {z : Str} {lo hi : Option Int} (hz : z.length ≤ sizeLine) (h : k (.str (cutS z lo hi)) M) : ZSl c (rSlZ c.K) (.str z) lo hi M k := fun R F H v Q L r1 q => .inr (.inr ⟨z, r1.of_str, hz, q _ F H M _ (Ex.refl F) L (.str _) h⟩)
theorem Rps.ints {K : Fg} {F : Hp} : ∀ {ns : List Int} {vs : List V}, Rps K F vs (ns.map D.int) → vs = ns.map V.int
  | [], vs, r => r.unnil
  | n :: ns, vs, r => by
    obtain ⟨v, vs', rfl, r1, r2⟩ := r.uncons
    rw [r1.of_int, Rps.ints r2]
    rfl
theorem Rps.bls {K : Fg} {F : Hp} : ∀ {ns : List Bool} {vs : List V}, Rps K F vs (ns.map D.bl) → vs = ns.map V.bl
  | [], vs, r => r.unnil
  | n :: ns, vs, r => by
    obtain ⟨v, vs', rfl, r1, r2⟩ := r.uncons
    rw [r1.of_bl, Rps.bls r2]
    rfl
theorem Rps.strs {K : Fg} {F : Hp} : ∀ {ns : List Str} {vs : List V}, Rps K F vs (ns.map D.str) → vs = ns.map V.str
  | [], vs, r => r.unnil
  | n :: ns, vs, r => by
    obtain ⟨v, vs', rfl, r1, r2⟩ := r.uncons
    rw [r1.of_str, Rps.strs r2]
    rfl
theorem inV_ints (i : Int) : ∀ ns : List Int, inV (.int i) (ns.map V.int) = decide (i ∈ ns)
  | [] => rfl
  | n :: ns => by
    show (eqV (.int n) (.int i) || inV (.int i) (ns.map V.int)) = _
    rw [inV_ints i ns]
    have e : eqV (.int n) (.int i) = decide (i = n) := by
      show (n == i) = _
      by_cases h : n = i
      · subst h; simp
      · rw [beq_eq_false_iff_ne.mpr h, decide_eq_false (fun z => h z.symm)]
    rw [e, Bool.eq_iff_iff]
    simp
theorem all_flat_ints (ns : List Int) : (ns.map V.int).all flatV = true := by
  rw [List.all_map, List.all_eq_true]
  intro x _
  rfl
theorem zr_inI {i : Int} {ns : List Int} (s : Sq M d (ns.map D.int)) (h : k (.bl (decide (i ∈ ns))) M) : ZR c (rInZ c.K) (.int i) d M k := fun R F H v w Q L r1 r2 q => by
  obtain ⟨a, vs, rfl, p, rr⟩ := s.read L r2
  rw [rr.ints] at p
  refine ⟨a, _, rfl, p, by rw [r1.of_int]; rfl, all_flat_ints ns, ?_⟩
  rw [r1.of_int]
  show Q (.bl (inV (.int i) (ns.map V.int))) H
  rw [inV_ints]
  exact q _ F H M _ (Ex.refl F) L (.bl _) h
theorem zr_notInI {i : Int} {ns : List Int} (s : Sq M d (ns.map D.int)) (h : k (.bl (!decide (i ∈ ns))) M) : ZR c (rNotInZ c.K) (.int i) d M k := fun R F H v w Q L r1 r2 q => by
  obtain ⟨a, vs, rfl, p, rr⟩ := s.read L r2
  rw [rr.ints] at p
  refine ⟨a, _, rfl, p, by rw [r1.of_int]; rfl, all_flat_ints ns, ?_⟩
  rw [r1.of_int]
  show Q (.bl (!inV (.int i) (ns.map V.int))) H
  rw [inV_ints]
  exact q _ F H M _ (Ex.refl F) L (.bl _) h
end
/-! ### truth -/
/-- the truth of a datum -/
inductive TruD (M : Mem) : D → Bool → Prop
  | non : TruD M .non false
  | bl (b : Bool) : TruD M (.bl b) b
  | int (i : Int) : TruD M (.int i) (i != 0)
  | sq {d : D} {ds : List D} (s : Sq M d ds) : TruD M d (!ds.isEmpty)
theorem TruD.read {K : Fg} {F H : Hp} {M R : Mem} {v : V} {d : D} {b : Bool} (s : TruD M d b) (L : Lay K F (M ++ R) H) (r : Rp K F v d) : TruV K v H b := by
  cases s with
  | non => rw [r.of_non]; rfl
  | bl b => rw [r.of_bl]; rfl
  | int i => rw [r.of_int]; rfl
  | sq s =>
    obtain ⟨a, vs, rfl, p, rr⟩ := s.read L r
    have e : ∀ ds : List D, vs.length = ds.length → (!ds.isEmpty) = !vs.isEmpty := by
      intro ds h
      cases ds <;> cases vs <;> simp at h ⊢
    rw [e _ rr.len]
    rcases p with p | p
    · exact .inl ⟨vs, p, rfl⟩
    · exact .inr (.inl ⟨vs, p, rfl⟩)
def tTruZ (K : Fg) (t : TE) : TT := fun σ H Q => t σ H fun x H1 => ∃ k, TruV K x H1 k ∧ Q k H1
theorem q_truth {X : Cx} {a : Expr} {ta : TE} (ha : PE X a ta) (he : ∀ whole, isTrue a X.env whole = (do let v ← whole; standAt a.pos; holding [v] (truthy v)) := by intro _; rfl) : PT X a (tTruZ X.K ta) := pt_truth ha he
theorem zt_truth {ta : TE} {Γ : Gm} {M : Mem} {k : Bool → Mem → Prop} (h : ZE c ta Γ M fun d M1 => ∃ b, TruD M1 d b ∧ k b M1) : ZT c (tTruZ c.K ta) Γ M k := fun R F σ H Q hs L X q =>
  h R F σ H _ hs L X fun v F1 H1 M1 d e1 L1 r1 ⟨b, e, h1⟩ => ⟨b, e.read L1 r1, q b F1 H1 M1 b e1 L1 rfl h1⟩
/-! ### built-ins -/
def rLenZ (K : Fg) : List V → Hp → VK → Prop := fun xs H Q => ∃ x n, xs = [x] ∧ LenV K x H n ∧ Q (.int n) H
def rAbsZ : List V → Hp → VK → Prop := fun xs H Q => ∃ i, xs = [.int i] ∧ Q (.int (if i < 0 then -i else i)) H
def rMax2Z : List V → Hp → VK → Prop := fun xs H Q => ∃ i j, xs = [.int i, .int j] ∧ Q (.int (if j > i then j else i)) H
def rMin2Z : List V → Hp → VK → Prop := fun xs H Q => ∃ i j, xs = [.int i, .int j] ∧ Q (.int (if j < i then j else i)) H
def rIntZ : List V → Hp → VK → Prop := fun xs H Q => (∃ i, xs = [.int i] ∧ Q (.int i) H) ∨ ∃ k, xs = [.bl k] ∧ Q (.int (if k then 1 else 0)) H
def rListZ (K : Fg) : List V → Hp → VK → Prop := fun xs H Q => ∃ p ys, xs = [.ref p] ∧ (SqL K H p ys ∨ SqT K H p ys) ∧ ∀ l, H l = none → Q (.ref l) (upd H l (.lst ys))
def rTupZ (K : Fg) : List V → Hp → VK → Prop := fun xs H Q => ∃ p ys, xs = [.ref p] ∧ ((SqL K H p ys ∧ ∀ l, H l = none → Q (.ref l) (upd H l (.tup ys))) ∨ (SqT K H p ys ∧ Q (.ref p) H))
def rIsiZ (K : Fg) : List V → Hp → VK → Prop := rIsi K
def rGcdZ : List V → Hp → VK → Prop := rGcd
def rSumZ (K : Fg) : List V → Hp → VK → Prop := rSum K
def rAllZ (K : Fg) : List V → Hp → VK → Prop := rAll K
def rAnyZ (K : Fg) : List V → Hp → VK → Prop := rAny K
section
variable {X : Cx}
theorem cz_len : CallR X (.builtin "len") (rLenZ X.K) := call_len
theorem cz_abs : CallR X (.builtin "abs") rAbsZ := call_abs
theorem cz_max2 (hc : X.calm = true) : CallR X (.builtin "max") rMax2Z := call_max2 hc
theorem cz_min2 (hc : X.calm = true) : CallR X (.builtin "min") rMin2Z := call_min2 hc
theorem cz_int : CallR X (.type "int") rIntZ := call_int1
theorem cz_list : CallR X (.type "list") (rListZ X.K) := call_list_of
theorem cz_tuple : CallR X (.type "tuple") (rTupZ X.K) := call_tuple_of
theorem cz_isi : CallR X (.builtin "isinstance") (rIsiZ X.K) := call_isi
theorem cz_gcd : CallR X (.builtin "math.gcd") rGcdZ := cr_gcd
theorem cz_sum (hc : X.calm = true) : CallR X (.builtin "sum") (rSumZ X.K) := cr_sum hc
theorem cz_all (hc : X.calm = true) : CallR X (.builtin "all") (rAllZ X.K) := cr_all hc
theorem cz_any (hc : X.calm = true) : CallR X (.builtin "any") (rAnyZ X.K) := cr_any hc
end
theorem boot_isinstance : bootBuiltins "isinstance" = some (.builtin "isinstance") := by decide +kernel
theorem boot_abs : bootBuiltins "abs" = some (.builtin "abs") := by decide +kernel
theorem boot_max : bootBuiltins "max" = some (.builtin "max") := by decide +kernel
theorem boot_min : bootBuiltins "min" = some (.builtin "min") := by decide +kernel
theorem boot_sum : bootBuiltins "sum" = some (.builtin "sum") := by decide +kernel
theorem boot_all : bootBuiltins "all" = some (.builtin "all") := by decide +kernel
theorem boot_any : bootBuiltins "any" = some (.builtin "any") := by decide +kernel
theorem boot_int : bootBuiltins "int" = some (.type "int") := by decide +kernel
theorem boot_bool : bootBuiltins "bool" = some (.type "bool") := by decide +kernel
theorem boot_str : bootBuiltins "str" = some (.type "str") := by decide +kernel
theorem boot_list : bootBuiltins "list" = some (.type "list") := by decide +kernel
theorem boot_tuple : bootBuiltins "tuple" = some (.type "tuple") := by decide +kernel
theorem boot_sorted : bootBuiltins "sorted" = some (.builtin "sorted") := by decide +kernel
section
variable {M : Mem} {k : D → Mem → Prop} {d : D} {ds : List D} {i j : Int}
theorem Rps.one1 {K : Fg} {F : Hp} {vs : List V} {d : D} (r : Rps K F vs [d]) : ∃ v, vs = [v] ∧ Rp K F v d := by
  obtain ⟨v, vs', rfl, r1, r2⟩ := r.uncons
  exact ⟨v, by rw [r2.unnil], r1⟩
theorem Rps.two {K : Fg} {F : Hp} {vs : List V} {d e : D} (r : Rps K F vs [d, e]) : ∃ v w, vs = [v, w] ∧ Rp K F v d ∧ Rp K F w e := by
  obtain ⟨v, vs', rfl, r1, r2⟩ := r.uncons
  obtain ⟨w, rfl, r3⟩ := r2.one1
  exact ⟨v, w, rfl, r1, r3⟩
theorem zc_len (s : Sq M d ds) (h : k (.int ds.length) M) : ZC c (rLenZ c.K) [d] M k := fun R F H vs Q L r q => by
  obtain ⟨v, rfl, r1⟩ := r.one1
  obtain ⟨a, vs, rfl, p, rr⟩ := s.read L r1
  refine ⟨.ref a, ds.length, rfl, ?_, q _ F H M _ (Ex.refl F) L (.int _) h⟩
  rw [← rr.len]
  rcases p with p | p
  · exact .inl ⟨vs, p, rfl⟩
  · exact .inr ⟨vs, p, rfl⟩
theorem zc_lenS {z : Str} (hz : z.length ≤ sizeLine) (h : k (.int z.length) M) : ZC c (rLenZ c.K) [.str z] M k := fun R F H vs Q L r q => by
  obtain ⟨v, rfl, r1⟩ := r.one1
  rw [r1.of_str]
  exact ⟨.str z, z.length, rfl, ⟨hz, rfl⟩, q _ F H M _ (Ex.refl F) L (.int _) h⟩
theorem abs_eq (i : Int) : (if i < 0 then -i else i) = (i.natAbs : Int) := by
  split <;> omega
theorem zc_abs (h : k (.int (i.natAbs : Int)) M) : ZC c rAbsZ [.int i] M k := fun R F H vs Q L r q => by
  obtain ⟨v, rfl, r1⟩ := r.one1
  rw [r1.of_int]
  refine ⟨i, rfl, ?_⟩
  rw [abs_eq]
  exact q _ F H M _ (Ex.refl F) L (.int _) h
theorem zc_max2 (h : k (.int (max i j)) M) : ZC c rMax2Z [.int i, .int j] M k := fun R F H vs Q L r q => by
  obtain ⟨v, w, rfl, r1, r2⟩ := r.two
  rw [r1.of_int, r2.of_int]
  refine ⟨i, j, rfl, ?_⟩
  rw [show (if j > i then j else i) = max i j by split <;> omega]
  exact q _ F H M _ (Ex.refl F) L (.int _) h
theorem zc_min2 (h : k (.int (min i j)) M) : ZC c rMin2Z [.int i, .int j] M k := fun R F H vs Q L r q => by
  obtain ⟨v, w, rfl, r1, r2⟩ := r.two
  rw [r1.of_int, r2.of_int]
  refine ⟨i, j, rfl, ?_⟩
  rw [show (if j < i then j else i) = min i j by split <;> omega]
  exact q _ F H M _ (Ex.refl F) L (.int _) h
theorem zc_int (h : k (.int i) M) : ZC c rIntZ [.int i] M k := fun R F H vs Q L r q => by
  obtain ⟨v, rfl, r1⟩ := r.one1
  rw [r1.of_int]
  exact .inl ⟨i, rfl, q _ F H M _ (Ex.refl F) L (.int _) h⟩
theorem zc_intB {b : Bool} (h : k (.int (if b then 1 else 0)) M) : ZC c rIntZ [.bl b] M k := fun R F H vs Q L r q => by
  obtain ⟨v, rfl, r1⟩ := r.one1
  rw [r1.of_bl]
  exact .inr ⟨b, rfl, q _ F H M _ (Ex.refl F) L (.int _) h⟩
theorem zc_gcd (h : k (.int ((Nat.gcd i.natAbs j.natAbs : Nat) : Int)) M) : ZC c rGcdZ [.int i, .int j] M k := fun R F H vs Q L r q => by
  obtain ⟨v, w, rfl, r1, r2⟩ := r.two
  rw [r1.of_int, r2.of_int]
  exact ⟨i, j, rfl, q _ F H M _ (Ex.refl F) L (.int _) h⟩
theorem zc_sum {ns : List Int} (s : Sl M d (ns.map D.int)) (h : k (.int ns.sum) M) : ZC c (rSumZ c.K) [d] M k := fun R F H vs Q L r q => by
  obtain ⟨v, rfl, r1⟩ := r.one1
  obtain ⟨a, vs, rfl, p, rr⟩ := s.read L r1
  rw [rr.ints] at p
  exact ⟨a, ns, rfl, p, q _ F H M _ (Ex.refl F) L (.int _) h⟩
theorem zc_all {bs : List Bool} (s : Sl M d (bs.map D.bl)) (h : k (.bl (bs.all id)) M) : ZC c (rAllZ c.K) [d] M k := fun R F H vs Q L r q => by
  obtain ⟨v, rfl, r1⟩ := r.one1
  obtain ⟨a, vs, rfl, p, rr⟩ := s.read L r1
  rw [rr.bls] at p
  exact ⟨a, bs, rfl, p, q _ F H M _ (Ex.refl F) L (.bl _) h⟩
theorem zc_any {bs : List Bool} (s : Sl M d (bs.map D.bl)) (h : k (.bl (bs.any id)) M) : ZC c (rAnyZ c.K) [d] M k := fun R F H vs Q L r q => by
  obtain ⟨v, rfl, r1⟩ := r.one1
  obtain ⟨a, vs, rfl, p, rr⟩ := s.read L r1
  rw [rr.bls] at p
  exact ⟨a, bs, rfl, p, q _ F H M _ (Ex.refl F) L (.bl _) h⟩
theorem zc_list (s : Sq M d ds) (h : k (.lst ds) M) : ZC c (rListZ c.K) [d] M k := fun R F H vs Q L r q => by
  obtain ⟨v, rfl, r1⟩ := r.one1
  obtain ⟨a, vs, rfl, p, rr⟩ := s.read L r1
  exact ⟨a, vs, rfl, p, fun p hp => q _ _ _ M _ (ex_upd (L.free hp)) (L.new hp) (.mk_lst upd_same (rr.mono (ex_upd (L.free hp)))) h⟩
theorem zc_tuple (s : Sl M d ds) (h : k (.tup ds) M) : ZC c (rTupZ c.K) [d] M k := fun R F H vs Q L r q => by
  obtain ⟨v, rfl, r1⟩ := r.one1
  obtain ⟨a, vs, rfl, p, rr⟩ := s.read L r1
  exact ⟨a, vs, rfl, .inl ⟨p, fun p hp => q _ _ _ M _ (ex_upd (L.free hp)) (L.new hp) (.mk_tup (SqT.of upd_same) (rr.mono (ex_upd (L.free hp)))) h⟩⟩
theorem zc_tupleT (h : k (.tup ds) M) : ZC c (rTupZ c.K) [.tup ds] M k := fun R F H vs Q L r q => by
  obtain ⟨v, rfl, r1⟩ := r.one1
  obtain ⟨a, vs, rfl, p, rr⟩ := r1.of_tup
  exact ⟨a, vs, rfl, .inr ⟨ex_t L.fr p, q _ F H M _ (Ex.refl F) L (.mk_tup p rr) h⟩⟩
/-- a built-in call whose new list may change -/
theorem z_listM {ta : TA} {Γ : Gm} (h : ZA c ta Γ M fun ds M1 => ∃ d xs, ds = [d] ∧ Sq M1 d xs ∧ ∀ p, k (.at p) ((p, .lst xs) :: M1)) : ZE c (mk (tCB (rListZ c.K) ta)) Γ M k := fun R F σ H Q hs L X q =>
  h R F σ H _ hs L X fun vs F1 H1 M1 ds e1 L1 r1 ⟨d, xs, e, s, h1⟩ => by
    subst e
    obtain ⟨v, rfl, r2⟩ := r1.one1
    obtain ⟨a, vs, rfl, p, rr⟩ := s.read L1 r2
    exact ⟨a, vs, rfl, p, fun p hp => q _ F1 _ ((p, .lst xs) :: M1) (.at p) e1 (L1.newM hp ⟨vs, upd_same, rr⟩) (.at p) (h1 p)⟩
/-- isinstance of a built-in class -/
def tyD : D → Option String
  | .non => some "NoneType"
  | .bl _ => some "bool"
  | .int _ => some "int"
  | .str _ => some "str"
  | .tup _ => some "tuple"
  | .lst _ => some "list"
  | .scr _ => none
  | _ => none
theorem tyD_ok {K : Fg} {F H : Hp} {M : Mem} {v : V} {d : D} {T : String} (h : tyD d = some T) (L : Lay K F M H) (r : Rp K F v d) : TyX K H v (.type T) := by
  cases d with
  | non => cases h; rw [r.of_non]; exact .base .non
  | bl b => cases h; rw [r.of_bl]; exact .base (.bl b)
  | int b => cases h; rw [r.of_int]; exact .base (.int b)
  | str b => cases h; rw [r.of_str]; exact .base (.str b)
  | tup ds =>
    cases h
    obtain ⟨a, vs, rfl, p, _⟩ := r.of_tup
    rcases ex_t L.fr p with (p | ⟨o, p⟩) | ⟨o, its, n, p, hc, _⟩
    · exact .base (.tup p)
    · exact .fTuple p
    · exact .kTuple p hc
  | lst ds =>
    cases h
    obtain ⟨a, vs, rfl, p, _⟩ := r.of_lst
    exact .base (.lst (L.fr _ _ p))
  | _ => cases h
theorem zc_isi {T U : String} {b : Bool} (ht : tyD d = some T) (hk : kitB T U = some b) (h : k (.bl b) M) : ZC c (rIsiZ c.K) [d, .ty U] M k := fun R F H vs Q L r q => by
  obtain ⟨v, w, rfl, r1, r2⟩ := r.two
  rw [r2.of_ty]
  exact ⟨v, .ty U, .type T, .type U, b, rfl, .ty U, tyD_ok ht L r1, kit_ty hk, q _ F H M _ (Ex.refl F) L (.bl _) h⟩
theorem zc_isiAt {a : Addr} {i : Nat} (hi : M[i]? = some (a, .lst ds)) {U : String} {b : Bool} (hk : kitB "list" U = some b) (h : k (.bl b) M) : ZC c (rIsiZ c.K) [.at a, .ty U] M k := fun R F H vs Q L r q => by
  obtain ⟨v, w, rfl, r1, r2⟩ := r.two
  rw [r2.of_ty, r1.of_at]
  obtain ⟨vs, e, _⟩ := L.memAt hi
  exact ⟨_, .ty U, .type "list", .type U, b, rfl, .ty U, .base (.lst e), kit_ty hk, q _ F H M _ (Ex.refl F) L (.bl _) h⟩
theorem kit_ii : kitB "int" "int" = some true := by decide +kernel
theorem kit_ib : kitB "int" "bool" = some false := by decide +kernel
theorem kit_bi : kitB "bool" "int" = some true := by decide +kernel
theorem kit_bb : kitB "bool" "bool" = some true := by decide +kernel
theorem kit_tt : kitB "tuple" "tuple" = some true := by decide +kernel
theorem kit_ll : kitB "list" "list" = some true := by decide +kernel
theorem kit_ss : kitB "str" "str" = some true := by decide +kernel
theorem kit_nt : kitB "NoneType" "tuple" = some false := by decide +kernel
end
end Z
set_option Elab.async false
set_option linter.all false
set_option maxRecDepth 100000
set_option maxHeartbeats 4000000
/-! ZMore: methods of lists, stores, comprehensions, iterators, calls of defs, a def's body, a law's end. -/
namespace PySem
/-- enumerate(v) of whatever begins so -/
theorem meets_enumerate_newG {v : Value} {o : Obj} {H : Heap → Prop} (B : Begins v o H) :
    Meets (Builtin.«enumerate.__new__» ⟨[.type "enumerate", v], []⟩) (fun _ R s => H s.heap ∧
      R (.ok (.ret (.ref (s.heap.push o).objs.size))) { s with heap := (s.heap.push o).push { cls := .type "enumerate", data := .fields #[.none, .bool false, .ref s.heap.objs.size, rawInt 0, .none, .none] } }) :=
  .of_wp fun prog w A R s h => by
    obtain ⟨hp, g, d, tk, os⟩ := s; obtain ⟨h1, h⟩ := h
    have hsub := sub_enumerate
    have q1 : ∀ {A' : Around} {E : Value → Shared → Prop} {Q : Value → Shared → Prop}, Q (.ref hp.objs.size) ⟨hp.push o, g, d, tk, os⟩ → wpAny (model prog w) A' (pyIter v) Q E ⟨hp, g, d, tk, os⟩ :=
      fun q => B.iter prog w _ _ ⟨hp, g, d, tk, os⟩ _ h1 q
    wp_walk using q1
    refine wpAny_stack_any fun st => wpAny_pure ?_
    split
    · rename_i c _ _ _ _ _
      cases (c == Value.type "enumerate")
      · wp_walk using q1
        exact ⟨_, rfl, h⟩
      · wp_walk using q1
        exact ⟨_, rfl, h⟩
    · wp_walk using q1
      exact ⟨_, rfl, h⟩
section
variable {prog : Program} {w : World} {A : Around} {E : Value → Shared → Prop} {s : Shared}
theorem enum_beginsG {v : Value} {o : Obj} {H : Heap → Prop} {Q : Value → Shared → Prop} (B : Begins v o H) (h1 : H s.heap)
    (h : ∀ h', IsEnum h' (s.heap.objs.size + 1) s.heap.objs.size 0 .none → h'.get? s.heap.objs.size = some o → h'.objs.size = s.heap.objs.size + 2 →
      (∀ b o, s.heap.get? b = some o → h'.get? b = some o) → Q (.ref (s.heap.objs.size + 1)) { s with heap := h' }) :
    wpAny (model prog w) A (call (.type "enumerate") [v]) Q E s := by
  refine callType_new F.called_enumerate (by decide) (F.typeCall_enumerate_1 _) (F.newCall_enumerate_1 _) (fun obj => F.args_object_init_2 obj _) F.entry_enumerate_new
    (meets_enumerate_newG B) ⟨h1, ?_⟩
  have hz : (s.heap.push o).objs.size = s.heap.objs.size + 1 := Heap.size_push ..
  show _ ∧ _
  rw [hz]
  have he : IsEnum ((s.heap.push o).push { cls := .type "enumerate", data := .fields #[.none, .bool false, .ref s.heap.objs.size, rawInt 0, .none, .none] }) (s.heap.objs.size + 1) s.heap.objs.size 0 .none := by
    have := Heap.get?_push_size (s.heap.push o) (o := { cls := .type "enumerate", data := .fields #[.none, .bool false, .ref s.heap.objs.size, rawInt 0, .none, .none] }) rfl
    rw [hz] at this; exact this
  refine ⟨⟨_, he, rfl⟩, h _ he (Heap.get?_push_of_some _ (Heap.get?_push_size _ B.free)) (by rw [Heap.size_push, hz]) fun b o x => Heap.get?_push_of_some _ (Heap.get?_push_of_some _ x)⟩
end
end PySem
namespace Z
open PySem PySem.Spec PyProof.Rows L2
variable {c : Cz}
/-! ### enumerate of a tuple -/
def IteT (K : Fg) (a : Addr) (n : Nat) : It :=
  ⟨fun i H => ∃ (xs : List V) (x : V), SqT K H a xs ∧ xs[i]? = some x ∧ xs.length = n, fun i H v H' => ∃ T x, v = .ref T ∧ H T = none ∧ H' = upd H T (.tup [.int (i : Nat), x]) ∧ ∀ xs, SqT K H a xs → xs[i]? = some x, fun i H => ∃ xs : List V, SqT K H a xs ∧ xs.length = n ∧ n ≤ i⟩
theorem turn_enumT {P : Program} {w : World} {K : Fg} {elts : List Expr} {kk : Nat} {tpos : Pos} (a e it : Addr) (n : Nat) :
    Turn P w K (.Tuple elts kk tpos) (IteT K a n) [e, it] e (fun i h => (∃ old, IsEnum h e it ((i : Nat) : Int) old) ∧ h.IsTupleIter it a i ∧ e ≠ it ∧ i ≤ n ∧ a ≠ it ∧ a ≠ e) where
  mem := by simp
  obj := fun i h st b hb => by
    obtain ⟨⟨old, he⟩, ⟨o, ho, hc, hd⟩, _⟩ := st
    have e' : b = e ∨ b = it := by simpa using hb
    rcases e' with z | z
    · rw [z]; exact ⟨_, he, fun v q => nomatch q⟩
    · rw [z]; exact ⟨o, ho, fun v q => by rw [hd] at q; cases q⟩
  keep := fun i h h' st k => let ⟨⟨old, he⟩, hi, hne⟩ := st; ⟨⟨old, k e (by simp) _ he⟩, hi.at fun o q => k it (by simp) o q, hne⟩
  item := by
    intro X hP hw hK hc i pins s σ H E I hf st hg
    subst hP hw hK
    obtain ⟨⟨old, he⟩, hit, hne, hin, hai, hae⟩ := st
    obtain ⟨xs, x, hq, hx, hn⟩ := hg
    obtain ⟨its, rv, p, hz⟩ := I.tuple hq
    obtain ⟨u, hu, ru⟩ := rv.get hx
    have hel : e < s.heap.objs.size := Heap.lt_size he
    have hil : it < s.heap.objs.size := by obtain ⟨_, q, _⟩ := hit; exact Heap.lt_size q
    have hlen : its.toArray.size = n := by rw [List.size_toArray, ← rv.length, hn]
    have hlt : i < its.toArray.size := by
      rw [List.size_toArray, ← rv.length]
      exact (List.getElem?_eq_some_iff.mp hx).1
    refine wpAny_pyNext_enum_itemC (Draws.tuple (A := X.A.in1) (I.ok.hd hc) it a hai its.toArray) he ⟨hit, p⟩ hlt hne (by simp [hne, hae.symm]) fun u' h' tk hu' ho hst' hT hsz hk => ?_
    have eu : u' = u := by
      rw [List.getElem?_toArray] at hu'
      rw [hu] at hu'
      exact (Option.some.inj hu').symm
    subst eu
    refine ⟨_, rfl, wpAny_letOwnedTupleGo_enum (s := { s with heap := h', toks := tk + 1 }) ho fun h'' he' sb => ?_⟩
    have hT2 : h''.get? s.heap.objs.size = some { cls := .type "tuple", data := .seq #[.int i tk, u'] } := (sb.2 _ (Nat.ne_of_gt hel)).trans hT
    have new : ObjOk X.prog X.w (upd H s.heap.objs.size (.tup [.int (i : Nat), x])) h'' s.heap.objs.size (.tup [.int (i : Nat), x]) :=
      ⟨by show 2 ≤ sizeLine; decide, [.int i tk, u'], .cons ⟨_, rfl⟩ (.cons ru .nil), ⟨_, hT2, rfl, _, rfl⟩⟩
    have I1 : Inv X pins σ (upd H s.heap.objs.size (.tup [.int (i : Nat), x])) { s with heap := h'', toks := tk + 1 } :=
      I.turnedNew (ch := [e, it]) (fun b ob hb q => (sb.2 b (fun z => hb (by simp [z]))).trans (hk b ob (fun z => hb (by simp [z])) (fun z => hb (by simp [z])) q)) hf (Nat.le_refl _) new
    refine ⟨.ref s.heap.objs.size, _, I1, rfl, ⟨_, x, rfl, I.hok.fresh (Nat.le_refl _), rfl, fun ys hy => by rw [I.tuple_inj hy hq]; exact hx⟩, ⟨⟨u', ?_⟩, hst'.1.at fun o q => (sb.2 it (Ne.symm hne)).trans q, hne, by omega, hai, hae⟩, fun b hb => ?_⟩
    · have e1 : ((i + 1 : Nat) : Int) = (i : Int) + 1 := by omega
      rw [e1]; exact he'
    · have hb' : b < s.heap.objs.size := by
        have e' : b = e ∨ b = it := by simpa using hb
        rcases e' with z | z
        · rw [z]; exact hel
        · rw [z]; exact hil
      rw [upd_ne (Nat.ne_of_lt hb')]
      exact (hf b hb).1
  done := by
    intro X hP hw hK hc i pins s σ H E I hf st hg
    subst hP hw hK
    obtain ⟨⟨old, he⟩, hit, hne, hin, hai, hae⟩ := st
    obtain ⟨xs, hq, hn, hx⟩ := hg
    obtain ⟨its, rv, p, hz⟩ := I.tuple hq
    obtain ⟨f0, f1, f2, f3, f4, f5⟩ := hf it (by simp)
    have ei : i = its.toArray.size := by rw [List.size_toArray, ← rv.length]; omega
    refine wpAny_pyNext_enum_endD (Draws.tuple (A := X.A.in1) (I.ok.hd hc) it a hai its.toArray) he (by rw [← ei]; exact ⟨hit, p⟩) fun h' eb => ⟨rfl, I.turned (t' := s.toks) (fun b o hb q => eb b o hb q) f0 f1 f3 f4 f5⟩
  self := fun A i s Q E st h => let ⟨⟨_, he⟩, _⟩ := st; wpAny_pyIter_enum he h
/-- enumerate of a list or a tuple -/
def iEnumZ (K : Fg) (ta : TA) : TI := fun σ H R => ta σ H fun vs H1 => ∃ a xs, vs = [.ref a] ∧ ((SqL K H1 a xs ∧ R (Ite K a) H1) ∨ (SqT K H1 a xs ∧ R (IteT K a xs.length) H1))
theorem pi_enumZ {X : Cx} {e : Expr} {ta : TA} {p pos tpos : Pos} {elts : List Expr} {kk : Nat} (hg : Gl X "enumerate") (hm : X.mg "enumerate" = none) (ha : PA X [e] ta) (hs : starEach [e] X.env = [(false, eval e X.env)] := by rfl) :
    PI X (.Tuple elts kk tpos) (.Call (.Name "enumerate" p) [e] [] pos) (iEnumZ X.K ta) := by
  refine ⟨fun pins s σ H R I h => ?_⟩
  refine Call_ (ld_blt I hg hm boot_enumerate (PyProof.Rows.callWith_type1 (thn (ha.run pos pins s σ H _ I h) fun us s1 ⟨vs, H1, I1, r1, q1⟩ => ?_) hs rfl))
  obtain ⟨a, xs, ex, q⟩ := q1
  subst ex
  cases r1 with
  | cons r rr =>
    cases rr
    cases r
    have fin : ∀ (tn : Nat → Heap → Prop) (J : It) (h' : Heap), (∀ b o, s1.heap.get? b = some o → h'.get? b = some o) → Turn X.prog X.w X.K (.Tuple elts kk tpos) J [s1.heap.objs.size + 1, s1.heap.objs.size] (s1.heap.objs.size + 1) tn → tn 0 h' → R J H1 → PIE X pins σ (.Tuple elts kk tpos) R (.ref (s1.heap.objs.size + 1)) { s1 with heap := h' } := fun tn J h' hk tt t0 q => by
      have I2 : Inv X pins σ H1 { s1 with heap := h' } := I1.kept (t' := s1.toks) hk
      refine ⟨s1.heap.objs.size + 1, [s1.heap.objs.size + 1, s1.heap.objs.size], tn, J, H1, rfl, I2, tt, t0, fun b hb => ?_, q⟩
      have e' : b = s1.heap.objs.size + 1 ∨ b = s1.heap.objs.size := by simpa using hb
      have hle : s1.heap.objs.size ≤ b := by
        rcases e' with z | z
        · rw [z]; exact Nat.le_add_right _ _
        · rw [z]; exact Nat.le_refl _
      exact I1.fpOk hle (I1.hok.fresh hle)
    rcases q with ⟨hq, q⟩ | ⟨hq, q⟩
    · obtain ⟨its, rv, p', hz⟩ := I1.list hq
      exact call_enumerate_list p'.isList fun h' he hit hsz hk => wpAny_pyIter_enum he (fin _ _ h' hk (turn_enum a (s1.heap.objs.size + 1) s1.heap.objs.size) ⟨⟨.none, he⟩, hit, Nat.succ_ne_self _⟩ q)
    · obtain ⟨its, rv, p', hz⟩ := I1.tuple hq
      have hal : a < s1.heap.objs.size := p'.lt
      refine enum_beginsG (begins_tuple a its.toArray) p' fun h' he hit hsz hk => wpAny_pyIter_enum he (fin _ _ h' hk (turn_enumT a (s1.heap.objs.size + 1) s1.heap.objs.size xs.length) ⟨⟨.none, he⟩, ⟨_, hit, rfl, rfl⟩, Nat.succ_ne_self _, Nat.zero_le _, Nat.ne_of_lt hal, Nat.ne_of_lt (Nat.lt_succ_of_lt hal)⟩ q)
/-! ### a list, a tuple, a text walked -/
def iSeqZ (K : Fg) (tl : TE) : TI := fun σ H R => tl σ H fun x H1 => (∃ a, x = .ref a ∧ (∃ xs, SqL K H1 a xs) ∧ R (Itl K a) H1) ∨ (∃ a, x = .ref a ∧ (∃ xs, SqT K H1 a xs) ∧ R (Itt K a) H1) ∨ ∃ x', x = .str x' ∧ R (Its x') H1
theorem pi_seqZ {X : Cx} {tg l : Expr} {tl : TE} (hl : PE X l tl) : PI X tg l (iSeqZ X.K tl) := by
  refine ⟨fun pins s σ H R I h => ?_⟩
  refine thn (hl.run pins s σ H _ I h) fun v s1 ⟨x, H1, I1, r1, q1⟩ => ?_
  rcases q1 with ⟨a, e, ⟨xs, hq⟩, q⟩ | ⟨a, e, ⟨xs, hq⟩, q⟩ | ⟨x', ex, q⟩
  · subst e
    cases r1
    obtain ⟨its, rv, p, hz⟩ := I1.list hq
    refine wpAny_pyIter_list p.isList ?_
    refine ⟨s1.heap.objs.size, [s1.heap.objs.size], _, _, H1, rfl, I1.kept (t' := s1.toks) fun b o e => Heap.get?_push_of_some _ e, turn_list a _, ⟨_, Heap.get?_push_size _ rfl, rfl, rfl⟩, fun b hb => ?_, q⟩
    have e : b = s1.heap.objs.size := by simpa using hb
    subst e
    exact I1.fpOk (Nat.le_refl _) (I1.hok.fresh (Nat.le_refl _))
  · subst e
    cases r1
    obtain ⟨its, rv, p, hz⟩ := I1.tuple hq
    refine wpAny_pyIter_tuple (show s1.heap.IsTuple a its.toArray from p) ?_
    refine ⟨s1.heap.objs.size, [s1.heap.objs.size], _, _, H1, rfl, I1.kept (t' := s1.toks) fun b o e => Heap.get?_push_of_some _ e, turn_tuple a _, ⟨_, Heap.get?_push_size _ rfl, rfl, rfl⟩, fun b hb => ?_, q⟩
    have e : b = s1.heap.objs.size := by simpa using hb
    subst e
    exact I1.fpOk (Nat.le_refl _) (I1.hok.fresh (Nat.le_refl _))
  · subst ex
    obtain ⟨t, rfl⟩ := r1
    cases ha : x'.cps.all (· < 128)
    · exact wpAny_pyIter_wide ha (pi_one (tk := s1.toks) I1 _ (turn_str _ x' t "str_iterator" (.inr rfl)) ⟨_, Heap.get?_push_size _ rfl, rfl, rfl⟩ q)
    · exact wpAny_pyIter_ascii ha (pi_one (tk := s1.toks) I1 _ (turn_str _ x' t "str_ascii_iterator" (.inl rfl)) ⟨_, Heap.get?_push_size _ rfl, rfl, rfl⟩ q)
section
variable {Γ : Gm} {M : Mem} {kk : List D → Mem → Prop}
theorem walks_l {K : Fg} {F : Hp} {a : Addr} {vs : List V} {ds : List D} (h : SqL K F a vs) (r : Rps K F vs ds) (inj : ∀ F1 M1 H1, Ex F F1 → Lay K F1 M1 H1 → ∀ xs, SqL K H1 a xs → xs = vs) : Walks K F (Itl K a) ds := fun F1 M1 H1 e L => by
  have hs : SqL K H1 a vs := ex_l L.fr (ex_l e h)
  refine ⟨fun i hi => ⟨vs, vs[i]'(by rw [r.len]; exact hi), hs, List.getElem?_eq_getElem _⟩, fun i hi => ⟨vs, hs, by rw [r.len]; exact hi⟩, fun i d x H2 hd hy => ?_⟩
  obtain ⟨rfl, hy⟩ := hy
  obtain ⟨v, hv, rv⟩ := r.get hd
  have ev : x = v := Option.some.inj ((hy vs hs).symm.trans hv)
  subst ev
  exact ⟨F1, Ex.refl _, L, rv.mono e⟩
/-- what stands at an address is one thing alone, whatever heap it is read in (no injectivity is needed: a turn's datum is told by the row that we know) -/
theorem walks_list {K : Fg} {F : Hp} {a : Addr} {vs : List V} {ds : List D} (h : SqL K F a vs) (r : Rps K F vs ds) : Walks K F (Itl K a) ds := fun F1 M1 H1 e L => by
  have hs : SqL K H1 a vs := ex_l L.fr (ex_l e h)
  refine ⟨fun i hi => ⟨vs, vs[i]'(by rw [r.len]; exact hi), hs, List.getElem?_eq_getElem _⟩, fun i hi => ⟨vs, hs, by rw [r.len]; exact hi⟩, fun i d x H2 hd hy => ?_⟩
  obtain ⟨rfl, hy⟩ := hy
  obtain ⟨v, hv, rv⟩ := r.get hd
  have ev : x = v := Option.some.inj ((hy vs hs).symm.trans hv)
  subst ev
  exact ⟨F1, Ex.refl _, L, rv.mono e⟩
theorem walks_tup {K : Fg} {F : Hp} {a : Addr} {vs : List V} {ds : List D} (h : SqT K F a vs) (r : Rps K F vs ds) : Walks K F (Itt K a) ds := fun F1 M1 H1 e L => by
  have hs : SqT K H1 a vs := ex_t L.fr (ex_t e h)
  refine ⟨fun i hi => ⟨vs, vs[i]'(by rw [r.len]; exact hi), hs, List.getElem?_eq_getElem _⟩, fun i hi => ⟨vs, hs, by rw [r.len]; exact hi⟩, fun i d x H2 hd hy => ?_⟩
  obtain ⟨rfl, hy⟩ := hy
  obtain ⟨v, hv, rv⟩ := r.get hd
  have ev : x = v := Option.some.inj ((hy vs hs).symm.trans hv)
  subst ev
  exact ⟨F1, Ex.refl _, L, rv.mono e⟩
/-- the signs of a text -/
def signsD (x : Str) : List D := x.cps.toList.map fun n => D.str ⟨#[n]⟩
theorem walks_str {K : Fg} {F : Hp} {x : Str} : Walks K F (Its x) (signsD x) := fun F1 M1 H1 e L => by
  have hl : (signsD x).length = x.cps.size := by unfold signsD; rw [List.length_map, Array.length_toList]
  refine ⟨fun i hi => by rw [hl] at hi; exact hi, fun i hi => by rw [hl] at hi; exact hi, fun i d v H2 hd hy => ?_⟩
  obtain ⟨rfl, n, hn, rfl⟩ := hy
  refine ⟨F1, Ex.refl _, L, ?_⟩
  unfold signsD at hd
  rw [List.getElem?_map, Array.getElem?_toList, hn] at hd
  cases hd
  exact .str _
theorem zi_seq {tl : TE} (h : ZE c tl Γ M fun d M1 => ∃ ds, Sf d ds ∧ kk ds M1) : ZI c (iSeqZ c.K tl) Γ M kk := fun R F σ H Q hs L X q =>
  h R F σ H _ hs L X fun v F1 H1 M1 d e1 L1 r1 ⟨ds, s, h1⟩ => by
    cases s with
    | tup =>
      obtain ⟨a, vs, rfl, p, rr⟩ := r1.of_tup
      exact .inr (.inl ⟨a, rfl, ⟨vs, ex_t L1.fr p⟩, q _ F1 H1 M1 ds e1 L1 (walks_tup p rr) h1⟩)
    | lst =>
      obtain ⟨a, vs, rfl, p, rr⟩ := r1.of_lst
      exact .inl ⟨a, rfl, ⟨vs, SqL.of (L1.fr _ _ p)⟩, q _ F1 H1 M1 ds e1 L1 (walks_list (SqL.of p) rr) h1⟩
    | scr =>
      obtain ⟨a, vs, rfl, p, rr⟩ := r1.of_scr
      exact .inl ⟨a, rfl, ⟨vs, ex_l L1.fr p⟩, q _ F1 H1 M1 ds e1 L1 (walks_list p rr) h1⟩
theorem zi_str {tl : TE} (h : ZE c tl Γ M fun d M1 => ∃ x, d = .str x ∧ kk (signsD x) M1) : ZI c (iSeqZ c.K tl) Γ M kk := fun R F σ H Q hs L X q =>
  h R F σ H _ hs L X fun v F1 H1 M1 d e1 L1 r1 ⟨x, e, h1⟩ => by
    subst e
    exact .inr (.inr ⟨x, r1.of_str, q _ F1 H1 M1 _ e1 L1 walks_str h1⟩)
/-- range -/
def rngD (lo : Int) (n : Nat) : List D := (List.range n).map fun i => D.int (lo + (i : Nat))
theorem rngD_length (lo : Int) (n : Nat) : (rngD lo n).length = n := by unfold rngD; rw [List.length_map, List.length_range]
theorem rngD_get {lo : Int} {n i : Nat} {d : D} (h : (rngD lo n)[i]? = some d) : i < n ∧ d = .int (lo + (i : Nat)) := by
  unfold rngD at h
  rw [List.getElem?_map] at h
  by_cases hi : i < n
  · rw [List.getElem?_range hi] at h
    cases h
    exact ⟨hi, rfl⟩
  · rw [List.getElem?_eq_none (by rw [List.length_range]; omega)] at h
    cases h
theorem walks_rng {K : Fg} {F : Hp} {lo : Int} {n : Nat} : Walks K F (Itr lo n) (rngD lo n) := fun F1 M1 H1 e L => by
  refine ⟨fun i hi => by rw [rngD_length] at hi; exact hi, fun i hi => by rw [rngD_length] at hi; exact hi, fun i d v H2 hd hy => ?_⟩
  obtain ⟨rfl, rfl⟩ := hy
  rw [(rngD_get hd).2]
  exact ⟨F1, Ex.refl _, L, .int _⟩
theorem zi_rng1 {ta : TA} (h : ZA c ta Γ M fun ds M1 => ∃ j, ds = [.int j] ∧ -(2 ^ 62) ≤ j ∧ j < 2 ^ 62 ∧ kk (rngD 0 j.toNat) M1) : ZI c (iRng1 ta) Γ M kk := fun R F σ H Q hs L X q =>
  h R F σ H _ hs L X fun vs F1 H1 M1 ds e1 L1 r1 ⟨j, e, b1, b2, h1⟩ => by
    subst e
    obtain ⟨v, rfl, r2⟩ := r1.one1
    rw [r2.of_int]
    exact ⟨j, rfl, b1, b2, q _ F1 H1 M1 _ e1 L1 walks_rng h1⟩
theorem zi_rng2 {ta : TA} (h : ZA c ta Γ M fun ds M1 => ∃ i j, ds = [.int i, .int j] ∧ (-(2 ^ 62) ≤ i ∧ i < 2 ^ 62 ∧ -(2 ^ 62) ≤ j ∧ j < 2 ^ 62) ∧ kk (rngD i (j - i).toNat) M1) : ZI c (iRng2 ta) Γ M kk := fun R F σ H Q hs L X q =>
  h R F σ H _ hs L X fun vs F1 H1 M1 ds e1 L1 r1 ⟨i, j, e, b, h1⟩ => by
    subst e
    obtain ⟨v, w, rfl, r2, r3⟩ := r1.two
    rw [r2.of_int, r3.of_int]
    exact ⟨i, j, rfl, b, q _ F1 H1 M1 _ e1 L1 walks_rng h1⟩
/-- enumerate -/
def enumD (ds : List D) : List D := ds.mapIdx fun i d => D.tup [.int (i : Nat), d]
theorem enumD_length (ds : List D) : (enumD ds).length = ds.length := by unfold enumD; rw [List.length_mapIdx]
theorem enumD_get {ds : List D} {i : Nat} {d : D} (h : (enumD ds)[i]? = some d) : ∃ e, ds[i]? = some e ∧ d = .tup [.int (i : Nat), e] := by
  unfold enumD at h
  rw [List.getElem?_mapIdx] at h
  cases q : ds[i]? with
  | none => rw [q] at h; cases h
  | some e =>
    rw [q] at h
    exact ⟨e, rfl, (Option.some.inj h).symm⟩
theorem pair_new {K : Fg} {F1 H1 : Hp} {M1 : Mem} {T : Addr} {x y : V} {a b : D} (L : Lay K F1 M1 H1) (nT : H1 T = none) (r1 : Rp K F1 x a) (r2 : Rp K F1 y b) : ∃ F2, Ex F1 F2 ∧ Lay K F2 M1 (upd H1 T (.tup [x, y])) ∧ Rp K F2 (.ref T) (.tup [a, b]) :=
  ⟨_, ex_upd (L.free nT), L.new nT, .mk_tup (SqT.of upd_same) (.cons (r1.mono (ex_upd (L.free nT))) (.one (r2.mono (ex_upd (L.free nT)))))⟩
theorem walks_enumL {K : Fg} {F : Hp} {a : Addr} {vs : List V} {ds : List D} (h : SqL K F a vs) (r : Rps K F vs ds) : Walks K F (Ite K a) (enumD ds) := fun F1 M1 H1 e L => by
  have hs : SqL K H1 a vs := ex_l L.fr (ex_l e h)
  refine ⟨fun i hi => ⟨vs, vs[i]'(by rw [r.len, ← enumD_length]; exact hi), hs, List.getElem?_eq_getElem _⟩, fun i hi => ⟨vs, hs, by rw [r.len, ← enumD_length]; exact hi⟩, fun i d x H2 hd hy => ?_⟩
  obtain ⟨T, x', rfl, nT, rfl, hy⟩ := hy
  obtain ⟨d', hd', rfl⟩ := enumD_get hd
  obtain ⟨v, hv, rv⟩ := r.get hd'
  have ev : x' = v := Option.some.inj ((hy vs hs).symm.trans hv)
  subst ev
  exact pair_new L nT (.int _) (rv.mono e)
theorem walks_enumT {K : Fg} {F : Hp} {a : Addr} {vs : List V} {ds : List D} (h : SqT K F a vs) (r : Rps K F vs ds) : Walks K F (IteT K a vs.length) (enumD ds) := fun F1 M1 H1 e L => by
  have hs : SqT K H1 a vs := ex_t L.fr (ex_t e h)
  refine ⟨fun i hi => ⟨vs, vs[i]'(by rw [r.len, ← enumD_length]; exact hi), hs, List.getElem?_eq_getElem _, rfl⟩, fun i hi => ⟨vs, hs, rfl, by rw [r.len, ← enumD_length]; exact hi⟩, fun i d x H2 hd hy => ?_⟩
  obtain ⟨T, x', rfl, nT, rfl, hy⟩ := hy
  obtain ⟨d', hd', rfl⟩ := enumD_get hd
  obtain ⟨v, hv, rv⟩ := r.get hd'
  have ev : x' = v := Option.some.inj ((hy vs hs).symm.trans hv)
  subst ev
  exact pair_new L nT (.int _) (rv.mono e)
theorem zi_enum {ta : TA} (h : ZA c ta Γ M fun ds M1 => ∃ d xs, ds = [d] ∧ Sf d xs ∧ kk (enumD xs) M1) : ZI c (iEnumZ c.K ta) Γ M kk := fun R F σ H Q hs L X q =>
  h R F σ H _ hs L X fun ws F1 H1 M1 ds e1 L1 r1 ⟨d, xs, e, s, h1⟩ => by
    subst e
    obtain ⟨v, rfl, r2⟩ := r1.one1
    cases s with
    | tup =>
      obtain ⟨a, vs, rfl, p, rr⟩ := r2.of_tup
      exact ⟨a, vs, rfl, .inr ⟨ex_t L1.fr p, q _ F1 H1 M1 _ e1 L1 (walks_enumT p rr) h1⟩⟩
    | lst =>
      obtain ⟨a, vs, rfl, p, rr⟩ := r2.of_lst
      exact ⟨a, vs, rfl, .inl ⟨SqL.of (L1.fr _ _ p), q _ F1 H1 M1 _ e1 L1 (walks_enumL (SqL.of p) rr) h1⟩⟩
    | scr =>
      obtain ⟨a, vs, rfl, p, rr⟩ := r2.of_scr
      exact ⟨a, vs, rfl, .inl ⟨ex_l L1.fr p, q _ F1 H1 M1 _ e1 L1 (walks_enumL p rr) h1⟩⟩
/-- zip of two lists, two tuples -/
def zipD (ds es : List D) : List D := List.zipWith (fun d e => D.tup [d, e]) ds es
theorem zipD_length (ds es : List D) : (zipD ds es).length = min ds.length es.length := by unfold zipD; rw [List.length_zipWith]
theorem zipD_get {ds es : List D} {i : Nat} {d : D} (h : (zipD ds es)[i]? = some d) : ∃ a b, ds[i]? = some a ∧ es[i]? = some b ∧ d = .tup [a, b] := by
  unfold zipD at h
  rw [List.getElem?_zipWith] at h
  cases q : ds[i]? with
  | none => rw [q] at h; cases h
  | some a =>
    cases q2 : es[i]? with
    | none => rw [q, q2] at h; cases h
    | some b =>
      rw [q, q2] at h
      exact ⟨a, b, rfl, rfl, (Option.some.inj h).symm⟩
theorem walks_zipL {K : Fg} {F : Hp} {a b : Addr} {vs ws : List V} {ds es : List D} (h : SqL K F a vs) (r : Rps K F vs ds) (h2 : SqL K F b ws) (r2 : Rps K F ws es) : Walks K F (Itz K a b) (zipD ds es) := fun F1 M1 H1 e L => by
  have hs : SqL K H1 a vs := ex_l L.fr (ex_l e h)
  have hs2 : SqL K H1 b ws := ex_l L.fr (ex_l e h2)
  have l1 := r.len
  have l2 := r2.len
  refine ⟨fun i hi => ?_, fun i hi => ⟨vs, ws, hs, hs2, ?_⟩, fun i d x H2 hd hy => ?_⟩
  · rw [zipD_length] at hi
    exact ⟨vs, ws, vs[i]'(by omega), ws[i]'(by omega), hs, hs2, List.getElem?_eq_getElem _, List.getElem?_eq_getElem _⟩
  · rw [zipD_length] at hi
    omega
  · obtain ⟨T, x', y', rfl, nT, rfl, hy, hy2⟩ := hy
    obtain ⟨a', b', ha, hb, rfl⟩ := zipD_get hd
    obtain ⟨v, hv, rv⟩ := r.get ha
    obtain ⟨w, hw, rw_⟩ := r2.get hb
    have ev : x' = v := Option.some.inj ((hy vs hs).symm.trans hv)
    have ew : y' = w := Option.some.inj ((hy2 ws hs2).symm.trans hw)
    subst ev ew
    exact pair_new L nT (rv.mono e) (rw_.mono e)
theorem walks_zipT {K : Fg} {F : Hp} {a b : Addr} {vs ws : List V} {ds es : List D} (h : SqT K F a vs) (r : Rps K F vs ds) (h2 : SqT K F b ws) (r2 : Rps K F ws es) : Walks K F (RZ.ItzT K a b) (zipD ds es) := fun F1 M1 H1 e L => by
  have hs : SqT K H1 a vs := ex_t L.fr (ex_t e h)
  have hs2 : SqT K H1 b ws := ex_t L.fr (ex_t e h2)
  have l1 := r.len
  have l2 := r2.len
  refine ⟨fun i hi => ?_, fun i hi => ⟨vs, ws, hs, hs2, ?_⟩, fun i d x H2 hd hy => ?_⟩
  · rw [zipD_length] at hi
    exact ⟨vs, ws, vs[i]'(by omega), ws[i]'(by omega), hs, hs2, List.getElem?_eq_getElem _, List.getElem?_eq_getElem _⟩
  · rw [zipD_length] at hi
    omega
  · obtain ⟨T, x', y', rfl, nT, rfl, hy, hy2⟩ := hy
    obtain ⟨a', b', ha, hb, rfl⟩ := zipD_get hd
    obtain ⟨v, hv, rv⟩ := r.get ha
    obtain ⟨w, hw, rw_⟩ := r2.get hb
    have ev : x' = v := Option.some.inj ((hy vs hs).symm.trans hv)
    have ew : y' = w := Option.some.inj ((hy2 ws hs2).symm.trans hw)
    subst ev ew
    exact pair_new L nT (rv.mono e) (rw_.mono e)
def iZipZ (K : Fg) (ta : TA) : TI := RZ.iZipA K ta
theorem zi_zipT {ta : TA} (h : ZA c ta Γ M fun ds M1 => ∃ xs ys, ds = [.tup xs, .tup ys] ∧ kk (zipD xs ys) M1) : ZI c (iZipZ c.K ta) Γ M kk := fun R F σ H Q hs L X q =>
  h R F σ H _ hs L X fun ws F1 H1 M1 ds e1 L1 r1 ⟨xs, ys, e, h1⟩ => by
    subst e
    obtain ⟨v, w, rfl, r2, r3⟩ := r1.two
    obtain ⟨a, vs, rfl, p, rr⟩ := r2.of_tup
    obtain ⟨b, ws, rfl, p2, rr2⟩ := r3.of_tup
    exact ⟨a, b, vs, ws, rfl, .inr ⟨ex_t L1.fr p, ex_t L1.fr p2, q _ F1 H1 M1 _ e1 L1 (walks_zipT p rr p2 rr2) h1⟩⟩
theorem zi_zipL {ta : TA} (h : ZA c ta Γ M fun ds M1 => ∃ xs ys, ds = [.lst xs, .lst ys] ∧ kk (zipD xs ys) M1) : ZI c (iZipZ c.K ta) Γ M kk := fun R F σ H Q hs L X q =>
  h R F σ H _ hs L X fun ws F1 H1 M1 ds e1 L1 r1 ⟨xs, ys, e, h1⟩ => by
    subst e
    obtain ⟨v, w, rfl, r2, r3⟩ := r1.two
    obtain ⟨a, vs, rfl, p, rr⟩ := r2.of_lst
    obtain ⟨b, ws, rfl, p2, rr2⟩ := r3.of_lst
    exact ⟨a, b, vs, ws, rfl, .inl ⟨SqL.of (L1.fr _ _ p), SqL.of (L1.fr _ _ p2), q _ F1 H1 M1 _ e1 L1 (walks_zipL (SqL.of p) rr (SqL.of p2) rr2) h1⟩⟩
theorem pi_zipZ {X : Cx} {e e2 : Expr} {ta : TA} {p pos tpos : Pos} {elts : List Expr} {kk : Nat} (hg : Gl X "zip") (hm : X.mg "zip" = none) (ha : PA X [e, e2] ta)
    (hs : starEach [e, e2] X.env = (false, eval e X.env) :: starEach [e2] X.env := by rfl) (hpl : (backTo pos (starEach [e2] X.env)).any (·.1) = false := by rfl) :
    PI X (.Tuple elts kk tpos) (.Call (.Name "zip" p) [e, e2] [] pos) (iZipZ X.K ta) := RZ.pi_zipA hg hm ha hs hpl
end
/-! ### comprehensions -/
section
variable {Γ : Gm} {M : Mem} {k : D → Mem → Prop}
theorem z_lc {wi : TI} {g : TG} {tt : TT} {te : TE} {vs : List Nat} (ho : Own g vs) (h : ZI c wi Γ M (LcK c.blk g tt te vs Γ fun ds M1 => k (.lst ds) M1)) : ZE c (tLc wi g tt te vs) Γ M k := fun R F σ H Q hs L X q => by
  refine lc_gen ho h hs L X fun p ws F1 H1 M1 ds e1 L1 hp rr hk => ?_
  have hat : (M1 ++ (p, MO.lst ds) :: R)[M1.length]? = some (p, .lst ds) := by
    rw [List.getElem?_append_right (Nat.le_refl _), Nat.sub_self]
    rfl
  obtain ⟨L2, e2⟩ := L1.frz hat hp
  rw [List.eraseIdx_append_of_length_le (Nat.le_refl _), Nat.sub_self] at L2
  exact q _ _ H1 M1 (.lst ds) (e1.trans e2) L2 (.mk_lst upd_same (rr.mono e2)) hk
theorem Lay.perm {K : Fg} {F H : Hp} {M M' : Mem} (L : Lay K F M H) (p : M.Perm M') : Lay K F M' H := ⟨L.fr, ((p.map (·.1)).nodup_iff).mp L.nd, fun q hq => L.ap q (p.mem_iff.mpr hq), fun q hq => L.mu q (p.mem_iff.mpr hq)⟩
theorem z_lcM {wi : TI} {g : TG} {tt : TT} {te : TE} {vs : List Nat} (ho : Own g vs) (h : ZI c wi Γ M (LcK c.blk g tt te vs Γ fun ds M1 => ∀ p, k (.at p) ((p, .lst ds) :: M1))) : ZE c (mk (tLc wi g tt te vs)) Γ M k := fun R F σ H Q hs L X q => by
  refine lc_gen ho h hs L X fun p ws F1 H1 M1 ds e1 L1 hp rr hk => ?_
  exact q _ F1 H1 ((p, .lst ds) :: M1) (.at p) e1 (L1.perm List.perm_middle) (.at p) (hk p)
theorem zt_yes {k : Bool → Mem → Prop} (h : k true M) : ZT c tYes Γ M k := fun R F σ H Q hs L _ q => q true F H M true (Ex.refl F) L rfl h
/-- a comprehension that leaves Mem, element by element -/
theorem LcK.map {g : TG} {te : TE} {vs : List Nat} {ds : List D} (f : D → D) (hl : ds.length ≤ sizeLine) {kk : List D → Mem → Prop} (h : ∀ (i : Nat) (d : D), ds[i]? = some d → ZG c g d (zwipe Γ vs) M fun Γ2 M2 => ZE c te Γ2 M2 fun y M4 => y = f d ∧ M4 = M) (hk : kk (ds.map f) M) : LcK c g tYes te vs Γ kk ds M := by
  refine ⟨hl, fun i acc M1 => M1 = M ∧ acc = (ds.take i).map f, ⟨rfl, by simp⟩, fun i d acc M1 hd _ ⟨e1, e2⟩ => ?_, fun acc M1 ⟨e1, e2⟩ => ?_⟩
  · subst e1 e2
    refine fun R F σ H v Q hs L X r q => h i d hd R F σ H v Q hs L X r fun σ' F' H' M' Γ' e L' hs' h' => q σ' F' H' M' Γ' e L' hs' ?_
    refine zt_yes ⟨fun _ => h'.imp fun y M4 ⟨ey, em⟩ => ⟨em, ?_⟩, fun z => nomatch z⟩
    rw [ey, List.take_add_one, hd, List.map_append]
    rfl
  · subst e1 e2
    rw [List.take_length]
    exact hk
end
theorem Lay.lstSet {K : Fg} {F H : Hp} {M R : Mem} {i : Nat} {a : Addr} {ds es : List D} {ys : List V} (L : Lay K F (M ++ R) H) (hi : M[i]? = some (a, .lst ds)) (r : Rps K F ys es) : Lay K F (M.set i (a, .lst es) ++ R) (upd H a (.lst ys)) := L.memSet (mo' := .lst es) hi ⟨ys, upd_same, r⟩
/-! ### methods of a list that changes -/
section
variable {Γ : Gm} {M : Mem} {k : D → Mem → Prop} {to : TE} {ta : TA}
def ZM (c : Cz) (r : V → List V → Hp → VK → Prop) (d : D) (xs : List D) (M : Mem) (k : D → Mem → Prop) : Prop := ∀ (R : Mem) (F H : Hp) (v : V) (vs : List V) (Q : VK), Lay c.K F (M ++ R) H → Rp c.K F v d → Rps c.K F vs xs → EOk c.K R F k Q → r v vs H Q
theorem tyV_of {K : Fg} {H : Hp} {a : Addr} {vs : List V} (h : H a = some (.lst vs)) : tyV K "list" (.ref a) H := .inl ⟨rfl, vs, .inl (.inl h)⟩
theorem z_bm {r : V → List V → Hp → VK → Prop} (h : ZE c to Γ M fun d M1 => (∃ ds, St M1 d ds) ∧ ZA c ta Γ M1 fun xs M2 => ZM c r d xs M2 k) : ZE c (tBM c.K "list" r to ta) Γ M k := fun R F σ H Q hs L X q =>
  h R F σ H _ hs L X fun v F1 H1 M1 d e1 L1 r1 ⟨⟨ds, s⟩, h1⟩ => by
    obtain ⟨a, vs, rfl, p, rr⟩ := s.read L1 r1
    exact ⟨tyV_of p, h1 R F1 σ H1 _ (hs.mono e1) L1 (X.mono e1) fun ws F2 H2 M2 xs e2 L2 r2 h2 => h2 R F2 H2 _ ws Q L2 (r1.mono e2) r2 (q.mono (e1.trans e2))⟩
theorem z_bm0 {r : V → List V → Hp → VK → Prop} (h : ZE c to Γ M fun d M1 => (∃ ds, St M1 d ds) ∧ ZM c r d [] M1 k) : ZE c (tBM0 c.K "list" r to) Γ M k := fun R F σ H Q hs L X q =>
  h R F σ H _ hs L X fun v F1 H1 M1 d e1 L1 r1 ⟨⟨ds, s⟩, h1⟩ => by
    obtain ⟨a, vs, rfl, p, rr⟩ := s.read L1 r1
    exact ⟨tyV_of p, h1 R F1 H1 _ [] Q L1 r1 .nil (q.mono e1)⟩
variable {i : Nat} {a : Addr} {ds : List D} {d : D}
theorem zm_append (hi : M[i]? = some (a, .lst ds)) (hl : ds.length < sizeLine) (h : k .non (M.set i (a, .lst (ds ++ [d])))) : ZM c rAppend (.at a) [d] M k := fun R F H v vs Q L r rs q => by
  obtain ⟨w, rfl, r2⟩ := rs.one1
  obtain ⟨xs, e, rr⟩ := L.memAt hi
  rw [r.of_at]
  exact ⟨a, xs, w, rfl, rfl, e, by rw [rr.len]; exact hl, q .non F _ _ .non (Ex.refl F) (L.lstSet (ys := (xs ++ [w])) hi (rr.append (.one r2))) .non h⟩
theorem zm_pop {e : D} (hi : M[i]? = some (a, .lst ds)) (hl : ds[ds.length - 1]? = some e) (h : k e (M.set i (a, .lst ds.dropLast))) : ZM c rPop (.at a) [] M k := fun R F H v vs Q L r rs q => by
  obtain ⟨xs, ex, rr⟩ := L.memAt hi
  obtain ⟨x, hx, rx⟩ := rr.get hl
  rw [r.of_at, rs.unnil]
  exact ⟨a, xs, x, rfl, rfl, ex, by rw [rr.len]; exact hx, q x F _ _ e (Ex.refl F) (L.lstSet (ys := xs.dropLast) hi (rr.dropLast)) rx h⟩
theorem zm_popAt {e : D} {z : Int} {n : Nat} (hi : M[i]? = some (a, .lst ds)) (h1 : -(2 ^ 63) ≤ z) (h2 : z < 2 ^ 63) (hn : seqIndex? z ds.length = some n) (hl : ds[n]? = some e) (h : k e (M.set i (a, .lst (ds.eraseIdx n)))) : ZM c rPopAt (.at a) [.int z] M k := fun R F H v vs Q L r rs q => by
  obtain ⟨w, rfl, r2⟩ := rs.one1
  obtain ⟨xs, ex, rr⟩ := L.memAt hi
  obtain ⟨x, hx, rx⟩ := rr.get hl
  rw [r.of_at, r2.of_int]
  exact ⟨a, xs, z, n, x, rfl, rfl, ex, h1, h2, by rw [rr.len]; exact hn, hx, q x F _ _ e (Ex.refl F) (L.lstSet (ys := (xs.eraseIdx n)) hi (rr.eraseIdx n)) rx h⟩
theorem zm_reverse (hi : M[i]? = some (a, .lst ds)) (h : k .non (M.set i (a, .lst ds.reverse))) : ZM c rReverse (.at a) [] M k := fun R F H v vs Q L r rs q => by
  obtain ⟨xs, ex, rr⟩ := L.memAt hi
  rw [r.of_at, rs.unnil]
  exact ⟨a, xs, rfl, rfl, ex, q .non F _ _ .non (Ex.refl F) (L.lstSet (ys := xs.reverse) hi (rr.reverse)) .non h⟩
theorem zm_extend {x : D} {es : List D} (hi : M[i]? = some (a, .lst ds)) (s : St M x es) (hl : ds.length + es.length ≤ sizeLine) (h : k .non (M.set i (a, .lst (ds ++ es)))) : ZM c rExtend (.at a) [x] M k := fun R F H v vs Q L r rs q => by
  obtain ⟨w, rfl, r2⟩ := rs.one1
  obtain ⟨xs, ex, rr⟩ := L.memAt hi
  obtain ⟨b, ys, rfl, ey, ry⟩ := s.read L r2
  rw [r.of_at]
  exact ⟨a, b, xs, ys, rfl, rfl, ex, ey, by rw [rr.len, ry.len]; exact hl, q .non F _ _ .non (Ex.refl F) (L.lstSet (ys := (xs ++ ys)) hi (rr.append ry)) .non h⟩
def rInsZ : V → List V → Hp → VK → Prop := fun x vs H Q => ∃ (l : Addr) (xs : List V) (i : Int) (y : V), x = .ref l ∧ vs = [.int i, y] ∧ H l = some (.lst xs) ∧ xs.length < sizeLine ∧ 0 ≤ i ∧ i < 2 ^ 63 ∧
    Q .non (upd H l (.lst (xs.take i.toNat ++ [y] ++ xs.drop i.toNat)))
theorem mt_insZ {X : Cx} : MtR X "list.insert" rInsZ := mt_insert
theorem zm_insert {z : Int} (hi : M[i]? = some (a, .lst ds)) (hl : ds.length < sizeLine) (h0 : 0 ≤ z) (h1 : z < 2 ^ 63) (h : k .non (M.set i (a, .lst (ds.take z.toNat ++ [d] ++ ds.drop z.toNat)))) : ZM c rInsZ (.at a) [.int z, d] M k := fun R F H v vs Q L r rs q => by
  obtain ⟨w, w2, rfl, r2, r3⟩ := rs.two
  obtain ⟨xs, e, rr⟩ := L.memAt hi
  rw [r.of_at, r2.of_int]
  exact ⟨a, xs, z, w2, rfl, rfl, e, by rw [rr.len]; exact hl, h0, h1, q .non F _ _ .non (Ex.refl F) (L.lstSet (ys := (xs.take z.toNat ++ [w2] ++ xs.drop z.toNat)) hi (((rr.take _).append (.one r3)).append (rr.drop _))) .non h⟩
/-- xs[i] = e -/
theorem zg_setL {ti : TE} {kg : Gm → Mem → Prop} (h : ZE c to Γ M fun o M1 => ZE c ti Γ M1 fun x M2 => ∃ a n ds z j, o = .at a ∧ x = .int z ∧ M2[n]? = some (a, .lst ds) ∧ ixN ds.length z = some j ∧ kg Γ (M2.set n (a, .lst (ds.set j d)))) : ZG c (gSub to ti rSetL) d Γ M kg := fun R F σ H v Q hs L X r q =>
  h R F σ H _ hs L X fun o F1 H1 M1 od e1 L1 r1 h1 => h1 R F1 σ H1 _ (hs.mono e1) L1 (X.mono e1) fun x F2 H2 M2 xd e2 L2 r2 ⟨a, n, ds, z, j, eo, ex, hn, hj, hk⟩ => by
    subst eo ex
    obtain ⟨xs, e, rr⟩ := L2.memAt hn
    rw [r1.of_at, r2.of_int]
    exact ⟨a, xs, z, j, rfl, rfl, e, by rw [rr.len]; exact hj, q σ F2 _ _ Γ (e1.trans e2) (L2.lstSet (ys := xs.set j v) hn (rr.set j (r.mono (e1.trans e2)))) ((hs.mono e1).mono e2) hk⟩
/-- x += e (ints) -/
theorem zs_aug {te : TE} {f : Int → Int → Int} {n : Nat} {x : Int} {DD : ZEnds} (hx : Γ[n]? = some (some (.int x))) (h : ZE c te Γ M fun d M1 => ∃ y, d = .int y ∧ DD.nx (Γ.set n (some (.int (f x y)))) M1) : ZS c (tAug n te (ipI f)) Γ M DD := fun R F σ H D hs L X q => by
  obtain ⟨v, e, r⟩ := hs.at_ n _ hx
  rw [r.of_int] at e
  refine ⟨_, e, h R F σ H _ hs L X fun w F1 H1 M1 d e1 L1 r1 ⟨y, ed, hk⟩ => ?_⟩
  subst ed
  exact ⟨x, y, rfl, r1.of_int, q.nx _ F1 H1 M1 _ e1 L1 ((hs.mono e1).set n (.int _)) hk⟩
/-- list(range(..)) -/
theorem rgV_rps {K : Fg} {F : Hp} (a b : Int) : Rps K F (rgV a b) (rngD a (b - a).toNat) := by
  unfold rgV rngD
  exact Rps.of_map fun x _ => .int _
theorem z_listRg1 {te : TE} (h : ZE c te Γ M fun d M1 => ∃ n, d = .int n ∧ RgOk 0 n ∧ k (.lst (rngD 0 n.toNat)) M1) : ZE c (tLstRg (tRg1 te)) Γ M k := fun R F σ H Q hs L X q =>
  h R F σ H _ hs L X fun v F1 H1 M1 d e1 L1 r1 ⟨n, ed, ok, hk⟩ => by
    subst ed
    refine ⟨n, r1.of_int, ok, fun p hp => q _ _ _ M1 _ (e1.trans (ex_upd (L1.free hp))) (L1.new hp) (.mk_lst upd_same ((rgV_rps 0 n).mono (Ex.refl _))) ?_⟩
    rw [Int.sub_zero]
    exact hk
theorem z_listRg1M {te : TE} (h : ZE c te Γ M fun d M1 => ∃ n, d = .int n ∧ RgOk 0 n ∧ ∀ p, k (.at p) ((p, .lst (rngD 0 n.toNat)) :: M1)) : ZE c (mk (tLstRg (tRg1 te))) Γ M k := fun R F σ H Q hs L X q =>
  h R F σ H _ hs L X fun v F1 H1 M1 d e1 L1 r1 ⟨n, ed, ok, hk⟩ => by
    subst ed
    refine ⟨n, r1.of_int, ok, fun p hp => q _ F1 _ ((p, .lst (rngD 0 n.toNat)) :: M1) (.at p) e1 (L1.newM hp ⟨_, upd_same, ?_⟩) (.at p) (hk p)⟩
    have x := rgV_rps (K := c.K) (F := F1) 0 n
    rw [Int.sub_zero] at x
    exact x
/-- list * int, the new list may change -/
theorem z_repLM {ta tb : TE} (h : ZE c ta Γ M fun x M1 => ZE c tb Γ M1 fun y M2 => ∃ xs n, St M2 x xs ∧ y = .int n ∧ -(2 ^ 63) ≤ n ∧ n < 2 ^ 63 ∧ xs.length * n.toNat ≤ sizeLine ∧ ∀ p, k (.at p) ((p, .lst (List.replicate n.toNat xs).flatten) :: M2)) : ZE c (mk (tOp rMulZ ta tb)) Γ M k := fun R F σ H Q hs L X q =>
  h R F σ H _ hs L X fun v F1 H1 M1 x e1 L1 r1 h1 => h1 R F1 σ H1 _ (hs.mono e1) L1 (X.mono e1) fun w F2 H2 M2 y e2 L2 r2 ⟨xs, n, s, ey, b1, b2, b3, hk⟩ => by
    subst ey
    obtain ⟨a, vs, rfl, e, rr⟩ := s.read L2 (r1.mono e2)
    exact .inr ⟨a, n, vs, rfl, r2.of_int, e, b1, b2, by rw [rr.len]; exact b3, fun p hp => q _ F2 _ ((p, .lst (List.replicate n.toNat xs).flatten) :: M2) (.at p) (e1.trans e2) (L2.newM hp ⟨_, upd_same, rr.rep n.toNat⟩) (.at p) (hk p)⟩
end
/-! ### calls of defs -/
abbrev ZSp := List D → Mem → (D → Mem → Prop) → Prop
/-- a promise over data, as the layer takes it -/
def toSp (K : Fg) (S : ZSp) : Sp := fun vs H Q _ => ∃ (R : Mem) (F : Hp) (M : Mem) (ds : List D) (k : D → Mem → Prop), Lay K F (M ++ R) H ∧ Rps K F vs ds ∧ S ds M k ∧ EOk K R F k Q
/-- a call of a def by values -/
def zcall (K : Fg) (S : ZSp) : List V → Hp → VK → Prop := fun vs H Q => toSp K S vs H Q fun _ _ _ => False
/-- the def x of the module keeps the promise S for these arguments -/
structure FnZ (P : Program) (w : World) (K : Fg) (mg : Str → Option Value) (base : Heap) (x : Str) (k : Nat) (S : ZSp) : Prop where
  ex : ∃ (f : Addr) (fd : FuncData) (ps : List Str) (sp : Sp) (ds : List Value) (dvs : List V), FnOk P w K mg base CX0 k f fd ps sp ∧ mg x = some (.ref f) ∧ PySem.W.keepIn K (.ref f) = true ∧ Binds K fd ps ds ∧ Vals dvs ds ∧
    ∀ vs H Q, zcall K S vs H Q → sp (vs ++ dvs) H Q E0
section
variable {X : Cx} {k : Nat} {S : ZSp} {x : Str} {e : Expr} {es : List Expr} {t : TA} {p pos : Pos}
theorem p_call {j : Nat} (G : FnZ X.prog X.w X.K X.mg X.base x k S) (hr : Room j X.A) (ha : PA X (e :: es) t) (hj : k ≤ j := by decide) (hg : Gl X x := by rfl) (hdb : (x == ("__debug__" : Str)) = false := by decide)
    (he : starEach (e :: es) X.env = (false, eval e X.env) :: starEach es X.env := by rfl) (hpl : (backTo pos (starEach es X.env)).any (·.1) = false := by rfl) : PE X (.Call (.Name x p) (e :: es) [] pos) (tCB (zcall X.K S) t) := by
  obtain ⟨f, fd, ps, sp, ds, dvs, F, hm, hk, hb, hd, hs⟩ := G.ex
  refine ⟨fun pins s σ H Q I h => ?_⟩
  refine wpAny_Call_Name_kw (ld_glob I hg hm ?_ hdb)
  refine PySem.W.callWith_K (h₀ := X.base) I.ok.mod.kin hk (thn (ha.run pos pins s σ H _ I h) fun us s1 ⟨vs, H1, I1, r, q⟩ => ⟨I1.kIn, ?_⟩) he hpl
  exact run_fn F (hr.mono hj) hb hd pass0 I1 r (hs vs H1 Q q)
theorem p_call0 {j : Nat} (G : FnZ X.prog X.w X.K X.mg X.base x k S) (hr : Room j X.A) (hj : k ≤ j := by decide) (hg : Gl X x := by rfl) (hdb : (x == ("__debug__" : Str)) = false := by decide) : PE X (.Call (.Name x p) [] [] pos) (tCB (zcall X.K S) tNil) := by
  obtain ⟨f, fd, ps, sp, ds, dvs, F, hm, hk, hb, hd, hs⟩ := G.ex
  have h := pe_call0 F (hr.mono hj) hg hm hk hb hd pass0 hdb (p := p) (pos := pos)
  exact ⟨fun pins s σ H Q I q => h.run pins s σ H Q I (hs [] H Q q)⟩
end
theorem zc_call {S : ZSp} {ds : List D} {M : Mem} {k : D → Mem → Prop} (h : S ds M k) : ZC c (zcall c.K S) ds M k := fun R F H vs Q L r q => ⟨R, F, M, ds, k, L, r, h, q⟩
/-! ### a def's body -/
def startD (N : List Str) (ds : List D) : Gm := ds.map some ++ List.replicate (N.length - ds.length) none
theorem has_start {K : Fg} {F : Hp} {N : List Str} {vs : List V} {ds : List D} (r : Rps K F vs ds) : Has K F (L2.start N vs) (startD N ds) := ⟨by
  unfold L2.start startD
  rw [List.length_append, List.length_append, List.length_map, List.length_map, List.length_replicate, List.length_replicate, r.len], fun i d h => by
  unfold startD at h
  unfold L2.start
  by_cases hi : i < ds.length
  · rw [List.getElem?_append_left (by rw [List.length_map]; exact hi), List.getElem?_map] at h
    obtain ⟨d', hd', e⟩ := Option.map_eq_some_iff.mp h
    cases e
    obtain ⟨v, hv, rv⟩ := r.get hd'
    refine ⟨v, ?_, rv⟩
    rw [List.getElem?_append_left (by rw [List.length_map, r.len]; exact hi), List.getElem?_map, hv]
    rfl
  · rw [List.getElem?_append_right (by rw [List.length_map]; omega), List.getElem?_replicate] at h
    split at h
    · cases h
    · cases h⟩
section
variable {P : Program} {w : World} {K : Fg} {mg : Str → Option Value} {base : Heap} {x qual : Str} {params : Arguments} {body : List Stmt} {scope : Scope} {dvs : List V} {kws : List (Str × V)} {f : Addr} {fd : FuncData} {N ps : List Str} {k : Nat}
/-- THE RULE for a def that lets no exception out: t its reading, then what the reading asks of data -/
theorem fn_z (F : FunD K x qual params body scope dvs kws f fd) (Sc : FnScope N ps scope) (S : ZSp) (len : ∀ ds M kk, S ds M kk → ds.length = ps.length) (t : TS)
    (ht : ∀ (cdv : Value) (A : Around) (outer : List Env) (s : Shared) (H : Hp) (E : XK), Room k (A.deeper (envOfC qual scope s.heap.objs.size f cdv)) → PSs (cxOf CX0 P w K mg base N qual scope f cdv A outer s H E).nox body t)
    (hz : ∀ ds M kk, S ds M kk → ZS { K := K } t (startD N ds) M { nx := fun _ M' => kk .non M', rt := kk }) : FnOk P w K mg base CX0 (k + 1) f fd ps (toSp K S) := by
  refine F.ok Sc (fun vs H Q E ⟨R, F, M, ds, kk, L, r, s, q⟩ => by rw [r.len]; exact len ds M kk s) fun cdv A outer s H vs Q E hr ⟨R, F, M, ds, kk, L, r, sp, q⟩ => ⟨t, (ht cdv A outer s H E hr).nox, ?_⟩
  refine hz ds M kk sp R F _ H _ (has_start r) L (fun _ _ _ _ _ _ _ _ _ _ _ _ h => h) ⟨fun σ' F' H' M' Γ' e L' hs' h' => q .non F' H' M' .non e L' .non h', fun v F' H' M' d e L' r' h' => q v F' H' M' d e L' r' h', fun σ' F' H' M' Γ' e L' hs' h' => h'.elim, fun σ' F' H' M' Γ' e L' hs' h' => h'.elim⟩
/-- a def without defaults is called -/
theorem fnz_of {S : ZSp} (F : FunD K x qual params body scope [] kws f fd) (G : FnOk P w K mg base CX0 k f fd ps (toSp K S)) (hm : mg x = some (.ref f)) (hb : Binds K fd ps []) : FnZ P w K mg base x k S :=
  ⟨f, fd, ps, toSp K S, [], [], G, hm, F.kp, hb, .nil, fun vs H Q ⟨R, F, M, ds, kk, L, r, s, q⟩ => by rw [List.append_nil]; exact ⟨R, F, M, ds, kk, L, r, s, q⟩⟩
/-- a weaker promise -/
theorem FnZ.imp {S S' : ZSp} (G : FnZ P w K mg base x k S) (h : ∀ ds M kk, S' ds M kk → S ds M kk) : FnZ P w K mg base x k S' := by
  obtain ⟨f, fd, ps, sp, ds, dvs, F, hm, hk, hb, hd, hs⟩ := G.ex
  exact ⟨f, fd, ps, sp, ds, dvs, F, hm, hk, hb, hd, fun vs H Q ⟨R, F, M, ds, kk, L, r, s, q⟩ => hs vs H Q ⟨R, F, M, ds, kk, L, r, h ds M kk s, q⟩⟩
theorem FnZ.up {S : ZSp} {j : Nat} (G : FnZ P w K mg base x k S) (h : k ≤ j) : FnZ P w K mg base x j S := by
  obtain ⟨f, fd, ps, sp, ds, dvs, F, hm, hk, hb, hd, hs⟩ := G.ex
  exact ⟨f, fd, ps, sp, ds, dvs, F.mono h, hm, hk, hb, hd, hs⟩
end
/-! ### a law's end -/
def SLaw : ZSp := fun ds M k => ∃ ns : List Int, ds = [.scr (ns.map D.int)] ∧ M = [] ∧ ns.length ≤ 63 ∧ ∀ M', k (.bl true) M'
theorem law_sp {K : Fg} {H : Hp} {a : Addr} {ns : List Int} (hl : ns.length ≤ 63) (hS : SqL K H a (ns.map V.int)) : toSp K SLaw [.ref a] H (fun v _ => v = .bl true) fun _ _ _ => False :=
  ⟨[], H, [], [.scr (ns.map D.int)], fun d _ => d = .bl true, ⟨fun _ _ h => h, List.nodup_nil, fun _ h => by simp at h, fun _ h => by simp at h⟩, .one (.mk_scr hS (Rps.of_map fun x _ => .int x)), ⟨ns, rfl, rfl, hl, fun _ => rfl⟩, fun v F' H' M' d e L r h => by
    subst h
    exact r.of_bl⟩
end Z
set_option maxRecDepth 100000
set_option Elab.async false
namespace PySem.Z
open PySem Sem

theorem zz_typeCall (vs : List Value) : checkTypeCall "zip" ⟨vs, []⟩ = pure () := by kernel_rfl
theorem zz_newCall (vs : List Value) : checkBuiltinCall "zip.__new__" ⟨.type "zip" :: vs, []⟩ = pure () := by cases vs <;> kernel_rfl
theorem zz_argsInit (obj : Value) (vs : List Value) : argsOk "object.__init__" ⟨obj :: vs, []⟩ := by
  unfold argsOk; rw [signature?_of (id := "object.__init__") (n := ['_', '_', 't', 'i', 'n', 'i', '_', '_']) (o := ['t', 'c', 'e', 'j', 'b', 'o']) (by kernel_rfl) F.owner_object]; kernel_rfl

theorem forIn_any {M : Model} {A : Around} {E : Value → Shared → Prop} {α β : Type} {f : α → β → Sem (ForInStep β)} {Q : β → Shared → Prop} (I : List α → β → Shared → Prop)
    (hs : ∀ a r b s, I (a :: r) b s → wpAny M A (f a b) (fun st s' => ∃ b', st = .yield b' ∧ I r b' s') E s) (hd : ∀ b s, I [] b s → Q b s) :
    ∀ (l : List α) (b : β) (s : Shared), I l b s → wpAny M A (forIn l b f) Q E s
  | [], b, s, h => by rw [List.forIn_nil]; exact wpAny_pure (hd b s h)
  | a :: r, b, s, h => by
    rw [List.forIn_cons]
    refine wpAny_bind (wpAny_mono (hs a r b s h) (fun st s' h' => ?_) fun _ _ x => x)
    obtain ⟨b', rfl, h'⟩ := h'
    exact forIn_any I hs hd r b' s' h'

theorem nn {a b : Nat} (h : a ≠ b) : @Ne Addr a b := h
structure Rw where
  at_ : Nat
  lst : Bool
  vals : Array Value
def RowAt (h : Heap) (r : Rw) : Prop := match r.lst with | true => h.IsList r.at_ r.vals | false => h.IsTuple r.at_ r.vals
def ItAt (h : Heap) (it : Addr) (r : Rw) (i : Nat) : Prop := match r.lst with | true => h.IsListIter it r.at_ i | false => h.IsTupleIter it r.at_ i
theorem RowAt.keep {h h' : Heap} {r : Rw} (x : RowAt h r) (k : ∀ o, h.get? r.at_ = some o → h'.get? r.at_ = some o) : RowAt h' r := by
  obtain ⟨a, l, v⟩ := r; cases l <;> exact Exists.elim x fun o y => ⟨o, k o y.1, y.2⟩
theorem ItAt.keep {h h' : Heap} {r : Rw} {it i} (x : ItAt h it r i) (k : ∀ o, h.get? it = some o → h'.get? it = some o) : ItAt h' it r i := by
  obtain ⟨a, l, v⟩ := r; cases l <;> exact Exists.elim x fun o y => ⟨o, k o y.1, y.2⟩

section
variable {prog : Program} {w : World} {A : Around} {E : Value → Shared → Prop} {s : Shared}
theorem zz_item {it : Addr} {i : Nat} {r : Rw} {x : Value} {Q : Value → Shared → Prop} (hit : ItAt s.heap it r i) (hr : RowAt s.heap r) (hx : r.vals[i]? = some x)
    (hQ : ∀ h', ItAt h' it r (i + 1) → Heap.SameBut it s.heap h' → Q x { s with heap := h' }) : wpAny (model prog w) A (Builtin.SmallTypes.nextOf (.ref it)) Q E s := by
  obtain ⟨a, l, v⟩ := r; cases l
  · exact wpAny_nextOf_tuple_item hit hr hx hQ
  · exact wpAny_nextOf_list_item hit hr hx hQ
theorem zz_end {it : Addr} {i : Nat} {r : Rw} {Q : Value → Shared → Prop} (hh : A.handled = none) (hit : ItAt s.heap it r i) (hr : RowAt s.heap r) (hx : r.vals[i]? = none)
    (hE : ∀ h' e, Heap.ExtBut it s.heap h' → (∃ o, h'.get? e = some o ∧ o.cls = .type "StopIteration") → E (.ref e) { s with heap := h' }) : wpAny (model prog w) A (Builtin.SmallTypes.nextOf (.ref it)) Q E s := by
  obtain ⟨a, l, v⟩ := r; cases l
  · exact wpAny_nextOf_tuple_end hh hit hr hx hE
  · exact wpAny_nextOf_list_end hh hit hr hx hE

def refsF : Nat → Nat → List Value
  | _, 0 => []
  | b, n + 1 => .ref b :: refsF (b + 1) n
theorem refsF_length : ∀ n b, (refsF b n).length = n
  | 0, _ => rfl
  | n + 1, b => by rw [refsF, List.length_cons, refsF_length n]
theorem refsF_snoc : ∀ n b, refsF b n ++ [.ref (b + n)] = refsF b (n + 1)
  | 0, b => rfl
  | n + 1, b => by
    show Value.ref b :: (refsF (b + 1) n ++ [.ref (b + (n + 1))]) = .ref b :: refsF (b + 1) (n + 1)
    rw [← refsF_snoc n (b + 1), show b + (n + 1) = b + 1 + n by omega]

theorem upd_tup {T : Addr} {arr : Array Value} {x : Value} {k : Nat} {Q : Unit → Shared → Prop} (hT : s.heap.get? T = some { cls := .type "tuple", data := .seq arr }) (hsz : arr.size ≤ sizeLine)
    (h : ∀ h', h'.get? T = some { cls := .type "tuple", data := .seq (arr.setIfInBounds k x) } → Heap.SameBut T s.heap h' → Q () { s with heap := h' }) :
    wpAny (model prog w) A (updateSeq T (·.setIfInBounds k x)) Q E s := by
  refine wpAny_updateSeq hT rfl (h _ ?_ (Heap.SameBut.update ..)) hsz (by simp; omega)
  rw [Heap.get?_update_self _ hT rfl]
  simp [Obj.mapSeq]

/-- the first next of a zip -/
theorem zn_item0 {b n : Nat} {rs : List Rw} {arr : Array Value} {Q : Value → Shared → Prop} (hn : rs.length = n) (hnz : 0 < n) (hlin : n ≤ sizeLine)
    (hrow : ∀ j r, rs[j]? = some r → r.at_ < b ∧ RowAt s.heap r ∧ ItAt s.heap (b + j) r 0 ∧ ∃ x, r.vals[0]? = some x)
    (hz : IsZip s.heap (b + n + 2) (b + n) (b + n + 1) .none) (hTI : s.heap.get? (b + n) = some { cls := .type "tuple", data := .seq (refsF b n).toArray })
    (hTO : s.heap.get? (b + n + 1) = some { cls := .type "tuple", data := .seq arr }) (harr : arr.size = n)
    (hQ : ∀ h' col tk, col.size = n → (∀ (j : Nat) (r : Rw), rs[j]? = some r → col[j]? = r.vals[0]?) → IsZip h' (b + n + 2) (b + n) (b + n + 1) (rawInt s.heap.objs.size) →
      (∀ (j : Nat) (r : Rw), rs[j]? = some r → ItAt h' (b + j) r 1) → h'.get? (b + n) = some { cls := .type "tuple", data := .seq (refsF b n).toArray } →
      h'.get? s.heap.objs.size = some { cls := .type "tuple", data := .seq col } → h'.objs.size = s.heap.objs.size + 1 →
      (∀ c o, (c < b ∨ b + n + 2 < c) → s.heap.get? c = some o → h'.get? c = some o) → Q (.ref s.heap.objs.size) { s with heap := h', toks := tk }) :
    wpAny (model prog w) A (Builtin.«zip.__next__» ⟨[.ref (b + n + 2)], []⟩) (fun fin s' => ∃ v, fin = .done (.ret v) ∧ Q v s') E s := by
  obtain ⟨hp, g, d, tk0, os⟩ := s
  show wpAny _ _ (field (.ref (b + n + 2)) 2 >>= _) _ _ _
  refine wpAny_bind (wpAny_field hz rfl (x := .bool false) rfl ?_)
  show wpAny _ _ (field (.ref (b + n + 2)) 3 >>= _) _ _ _
  refine wpAny_bind (wpAny_field hz rfl (x := .ref (b + n)) rfl ?_)
  refine wpAny_bind (wpAny_seqItems hTI rfl ?_)
  obtain ⟨m, rfl⟩ : ∃ m, n = m + 1 := ⟨n - 1, by omega⟩
  show wpAny _ _ (Builtin.SmallTypes.ownedTupleIsFree (.ref (b + (m + 1) + 2)) >>= _) _ _ _
  refine wpAny_bind ?_
  unfold Builtin.SmallTypes.ownedTupleIsFree
  refine wpAny_bind (wpAny_field hz rfl (x := .none) rfl (wpAny_pure ?_))
  simp only [if_true]
  refine wpAny_bind (wpAny_rule ?_)
  refine wpAny_bind (wpAny_field hz rfl (x := .ref (b + (m + 1) + 1)) rfl ?_)
  refine wpAny_bind (wpAny_setField_rec hz (by simp) fun g0 hz0 hs0 => ?_)
  replace hz0 : IsZip g0 (b + (m + 1) + 2) (b + (m + 1)) (b + (m + 1) + 1) .ellipsis := hz0
  replace hs0 : Heap.SameBut (b + (m + 1) + 2) hp g0 := hs0
  refine wpAny_bind (forIn_any (fun l bb s' => bb = ⟨none, ⟨⟩⟩ ∧ ∃ k m' arr' tk h', l = (refsF (b + k) m').zipIdx k ∧ k + m' = m + 1 ∧ s' = ⟨h', g, d, tk, os⟩ ∧
      IsZip h' (b + (m + 1) + 2) (b + (m + 1)) (b + (m + 1) + 1) .ellipsis ∧ h'.get? (b + (m + 1)) = some { cls := .type "tuple", data := .seq (refsF b (m + 1)).toArray } ∧
      h'.get? (b + (m + 1) + 1) = some { cls := .type "tuple", data := .seq arr' } ∧ arr'.size = m + 1 ∧ (∀ (j : Nat) (r : Rw), j < k → rs[j]? = some r → arr'[j]? = r.vals[0]?) ∧
      (∀ (j : Nat) (r : Rw), rs[j]? = some r → ItAt h' (b + j) r (if j < k then 1 else 0)) ∧ h'.objs.size = hp.objs.size ∧
      (∀ c o, (c < b ∨ b + (m + 1) + 2 < c) → hp.get? c = some o → h'.get? c = some o)) ?_ ?_ _ _ _ ?_)
  · rintro ⟨v, k⟩ r bb s' ⟨rfl, k0, m', arr', tk, h', hl, hkm, rfl, hz', hTI', hTO', ha', hcol, hit, hsz, hkp⟩
    cases m' with
    | zero => cases hl
    | succ m' =>
    obtain ⟨⟨rfl, rfl⟩, rfl⟩ := (by simpa [refsF, List.zipIdx_cons] using hl : (v = Value.ref (b + k0) ∧ k = k0) ∧ r = (refsF (b + k0 + 1) m').zipIdx (k0 + 1))
    obtain ⟨r, hr⟩ : ∃ r, rs[k]? = some r := ⟨rs[k]'(by omega), List.getElem?_eq_getElem (by omega)⟩
    obtain ⟨h1, h2, _, x, hx⟩ := hrow k r hr
    have hI := hit k r hr
    rw [if_neg (Nat.lt_irrefl k)] at hI
    refine wpAny_bind (wpAny_onRaise ?_)
    show wpAny _ _ (Builtin.SmallTypes.nextOf (.ref (b + k)) >>= _) _ _ _
    refine wpAny_bind (zz_item (s := ⟨h', g, d, tk, os⟩) hI (h2.keep fun o e => hkp _ o (.inl h1) e) hx fun p hit1 hs1 => wpAny_pure ?_)
    replace hs1 : Heap.SameBut (b + k) h' p := hs1
    have hU : p.get? (b + (m + 1) + 1) = some { cls := .type "tuple", data := .seq arr' } := hs1.extBut _ _ (nn (by omega)) hTO'
    refine wpAny_bind (wpAny_seqItems (s := ⟨p, g, d, tk, os⟩) hU rfl ?_)
    refine wpAny_bind (upd_tup (s := ⟨p, g, d, tk, os⟩) hU (by omega) fun q hq hs2 => ?_)
    replace hs2 : Heap.SameBut (b + (m + 1) + 1) p q := hs2
    refine wpAny_bind (wpAny_letGo (wpAny_pure ⟨_, rfl, rfl, k + 1, m', _, tk, q, by rw [show b + (k + 1) = b + k + 1 by omega], by omega, rfl, hs2.extBut _ _ (nn (by omega)) (hs1.extBut _ _ (nn (by omega)) hz'),
      hs2.extBut _ _ (nn (by omega)) (hs1.extBut _ _ (nn (by omega)) hTI'), hq, by simp [ha'], ?_, ?_, by rw [hs2.1, hs1.1, hsz], ?_⟩))
    · intro j r' hj hr'
      by_cases e : j = k
      · subst e; rw [hr] at hr'; cases hr'; rw [hx, Array.getElem?_setIfInBounds_self_of_lt (by omega)]
      · rw [Array.getElem?_setIfInBounds_ne (Ne.symm e)]; exact hcol j r' (by omega) hr'
    · intro j r' hr'
      by_cases e : j = k
      · subst e; rw [hr] at hr'; cases hr'; rw [if_pos (Nat.lt_succ_self _)]; exact hit1.keep fun o e => hs2.extBut _ _ (nn (by omega)) e
      · have := hit j r' hr'
        have hjn : j < m + 1 := by rw [← hn]; exact (List.getElem?_eq_some_iff.mp hr').1
        rw [show (if j < k + 1 then 1 else 0) = (if j < k then 1 else 0) by split <;> split <;> omega]
        exact this.keep fun o e => hs2.extBut _ _ (nn (by omega)) (hs1.extBut _ _ (nn (by omega)) e)
    · intro c o hc e
      exact hs2.extBut _ _ (nn (by omega)) (hs1.extBut _ _ (nn (by omega)) (hkp c o hc e))
  · rintro bb s' ⟨rfl, k, m', arr', tk, h', hl, hkm, rfl, hz', hTI', hTO', ha', hcol, hit, hsz, hkp⟩
    cases m' with
    | succ m' => cases hl
    | zero =>
    obtain rfl : k = m + 1 := by omega
    refine wpAny_bind (wpAny_seqItems (s := ⟨h', g, d, tk, os⟩) hTO' rfl ?_)
    refine wpAny_bind (wpAny_newTuple ?_ (by simp; omega))
    have hlt : b + (m + 1) + 2 < h'.objs.size := Heap.lt_size hz'
    refine wpAny_bind ?_
    show wpAny _ _ (Builtin.SmallTypes.ownedTupleHandOut (.ref (b + (m + 1) + 2)) (.ref h'.objs.size)) _ _ ⟨h'.push { cls := .type "tuple", data := .seq arr'.toList.toArray }, g, d, tk, os⟩
    unfold Builtin.SmallTypes.ownedTupleHandOut
    have hz6 : IsZip (h'.push { cls := .type "tuple", data := .seq arr'.toList.toArray }) (b + (m + 1) + 2) (b + (m + 1)) (b + (m + 1) + 1) .ellipsis := Heap.get?_push_of_some _ hz'
    refine wpAny_bind (wpAny_setField_rec hz6 (by simp) fun h7 hz7 hs7 => ?_)
    replace hz7 : IsZip h7 (b + (m + 1) + 2) (b + (m + 1)) (b + (m + 1) + 1) (rawInt h'.objs.size) := hz7
    refine wpAny_setField_rec hz7 (by simp) fun h8 hz8 hs8 => ?_
    replace hz8 : IsZip h8 (b + (m + 1) + 2) (b + (m + 1)) (b + (m + 1) + 1) (rawInt h'.objs.size) := hz8
    replace hs7 : Heap.SameBut (b + (m + 1) + 2) (h'.push { cls := .type "tuple", data := .seq arr'.toList.toArray }) h7 := hs7
    replace hs8 : Heap.SameBut (b + (m + 1) + 2) h7 h8 := hs8
    have up : ∀ c o, c ≠ b + (m + 1) + 2 → h'.get? c = some o → h8.get? c = some o := fun c o c1 e => hs8.extBut _ _ c1 (hs7.extBut _ _ c1 (Heap.get?_push_of_some _ e))
    have hT8 : h8.get? h'.objs.size = some { cls := .type "tuple", data := .seq arr' } := by
      have := hs8.extBut _ _ (Nat.ne_of_gt hlt) (hs7.extBut _ _ (Nat.ne_of_gt hlt) (Heap.get?_push_size h' (o := { cls := .type "tuple", data := .seq arr'.toList.toArray }) rfl))
      rw [this]
    have h88 : h8.objs.size = h'.objs.size + 1 := by rw [hs8.1, hs7.1, Heap.size_push]
    refine wpAny_pure ⟨_, rfl, ?_⟩
    rw [hsz] at hz8 hT8 h88
    show Q (.ref h'.objs.size) ⟨h8, g, d, tk, os⟩
    rw [hsz]
    refine hQ h8 arr' tk ha' (fun j r hr => hcol j r (by rw [← hn]; exact (List.getElem?_eq_some_iff.mp hr).1) hr) hz8 (fun j r hr => ?_) (up _ _ (nn (by omega)) hTI') hT8 h88 fun c o hc e => up c o (nn (by omega)) (hkp c o hc e)
    have hjn : j < m + 1 := by rw [← hn]; exact (List.getElem?_eq_some_iff.mp hr).1
    have := hit j r hr
    rw [if_pos hjn] at this
    exact this.keep fun o e => up _ o (nn (by omega)) e
  · have i1 : b + (m + 1) ≠ b + (m + 1) + 2 := by omega
    have i2 : b + (m + 1) + 1 ≠ b + (m + 1) + 2 := by omega
    have i3 : ∀ c, (c < b ∨ b + (m + 1) + 2 < c) → c ≠ b + (m + 1) + 2 := by omega
    refine ⟨rfl, 0, m + 1, arr, tk0, g0, rfl, by omega, rfl, hz0, hs0.extBut _ _ i1 hTI, hs0.extBut _ _ i2 hTO, harr, fun j r hj => absurd hj (Nat.not_lt_zero j), fun j r hr => ?_, hs0.1, fun c o hc e => hs0.extBut _ _ (i3 c hc) e⟩
    have hjn : j < m + 1 := by rw [← hn]; exact (List.getElem?_eq_some_iff.mp hr).1
    rw [if_neg (Nat.not_lt_zero j)]
    exact (hrow j r hr).2.2.1.keep fun o e => hs0.extBut _ _ (nn (by omega)) e

/-- the later nexts: the tuple handed out before is still held -/
theorem zn_itemH {b n i T : Nat} {f : Bool} {oT : Obj} {rs : List Rw} {Q : Value → Shared → Prop} (hn : rs.length = n) (hnz : 0 < n) (hlin : n ≤ sizeLine)
    (hrow : ∀ j r, rs[j]? = some r → r.at_ < b ∧ RowAt s.heap r ∧ ItAt s.heap (b + j) r i ∧ ∃ x, r.vals[i]? = some x)
    (hz : IsZipHeld s.heap (b + n + 2) (b + n) (b + n + 1) T f) (hT : s.heap.get? T = some oT) (hTI : s.heap.get? (b + n) = some { cls := .type "tuple", data := .seq (refsF b n).toArray })
    (hQ : ∀ h' col, col.size = n → (∀ (j : Nat) (r : Rw), rs[j]? = some r → col[j]? = r.vals[i]?) → IsZipHeld h' (b + n + 2) (b + n) (b + n + 1) T true →
      (∀ (j : Nat) (r : Rw), rs[j]? = some r → ItAt h' (b + j) r (i + 1)) → h'.get? (b + n) = some { cls := .type "tuple", data := .seq (refsF b n).toArray } →
      h'.get? s.heap.objs.size = some { cls := .type "tuple", data := .seq col } → h'.objs.size = s.heap.objs.size + 1 →
      (∀ c o, (c < b ∨ b + n + 2 < c) → s.heap.get? c = some o → h'.get? c = some o) → Q (.ref s.heap.objs.size) { s with heap := h' }) :
    wpAny (model prog w) A (Builtin.«zip.__next__» ⟨[.ref (b + n + 2)], []⟩) (fun fin s' => ∃ v, fin = .done (.ret v) ∧ Q v s') E s := by
  obtain ⟨hp, g, d, tk, os⟩ := s
  show wpAny _ _ (field (.ref (b + n + 2)) 2 >>= _) _ _ _
  refine wpAny_bind (wpAny_field hz rfl (x := .bool false) rfl ?_)
  show wpAny _ _ (field (.ref (b + n + 2)) 3 >>= _) _ _ _
  refine wpAny_bind (wpAny_field hz rfl (x := .ref (b + n)) rfl ?_)
  refine wpAny_bind (wpAny_seqItems hTI rfl ?_)
  obtain ⟨m, rfl⟩ : ∃ m, n = m + 1 := ⟨n - 1, by omega⟩
  show wpAny _ _ (Builtin.SmallTypes.ownedTupleIsFree (.ref (b + (m + 1) + 2)) >>= _) _ _ _
  refine wpAny_bind (wpAny_tupleHeld_zip hz hT fun g0 hz0 hs0 => ?_)
  simp only [Bool.false_eq_true, if_false]
  replace hs0 : Heap.SameBut (b + (m + 1) + 2) hp g0 := hs0
  rw [← Array.forIn_toList]
  refine wpAny_bind (forIn_any (fun l bb s' => ∃ acc : Array Value, bb = ⟨none, acc⟩ ∧ ∃ k m' h', l = refsF (b + k) m' ∧ k + m' = m + 1 ∧ s' = ⟨h', g, d, tk, os⟩ ∧
      IsZipHeld h' (b + (m + 1) + 2) (b + (m + 1)) (b + (m + 1) + 1) T true ∧ h'.get? (b + (m + 1)) = some { cls := .type "tuple", data := .seq (refsF b (m + 1)).toArray } ∧
      acc.size = k ∧ (∀ (j : Nat) (r : Rw), j < k → rs[j]? = some r → acc[j]? = r.vals[i]?) ∧
      (∀ (j : Nat) (r : Rw), rs[j]? = some r → ItAt h' (b + j) r (if j < k then i + 1 else i)) ∧ h'.objs.size = hp.objs.size ∧
      (∀ c o, (c < b ∨ b + (m + 1) + 2 < c) → hp.get? c = some o → h'.get? c = some o)) ?_ ?_ _ _ _ ?_)
  · rintro v r bb s' ⟨acc, rfl, k0, m', h', hl, hkm, rfl, hz', hTI', ha', hcol, hit, hsz, hkp⟩
    cases m' with
    | zero => cases hl
    | succ m' =>
    obtain ⟨rfl, rfl⟩ := (by simpa [refsF] using hl : v = Value.ref (b + k0) ∧ r = refsF (b + k0 + 1) m')
    obtain ⟨r, hr⟩ : ∃ r, rs[k0]? = some r := ⟨rs[k0]'(by omega), List.getElem?_eq_getElem (by omega)⟩
    obtain ⟨h1, h2, _, x, hx⟩ := hrow k0 r hr
    have hI := hit k0 r hr
    rw [if_neg (Nat.lt_irrefl k0)] at hI
    refine wpAny_bind (wpAny_holding ?_)
    show wpAny _ _ (Builtin.SmallTypes.nextOf (.ref (b + k0)) >>= _) _ _ _
    refine wpAny_bind (zz_item (s := ⟨h', g, d, tk, os⟩) hI (h2.keep fun o e => hkp _ o (.inl h1) e) hx fun p hit1 hs1 => wpAny_pure ?_)
    replace hs1 : Heap.SameBut (b + k0) h' p := hs1
    refine wpAny_pure ⟨_, rfl, _, rfl, k0 + 1, m', p, by rw [show b + (k0 + 1) = b + k0 + 1 by omega], by omega, rfl, hs1.extBut _ _ (nn (by omega)) hz',
      hs1.extBut _ _ (nn (by omega)) hTI', by simp [ha'], ?_, ?_, by rw [hs1.1, hsz], ?_⟩
    · intro j r' hj hr'
      by_cases e : j = k0
      · subst e; rw [hr] at hr'; cases hr'; rw [hx, Array.getElem?_push, if_pos ha'.symm]
      · rw [Array.getElem?_push, if_neg (show ¬ j = acc.size by omega)]; exact hcol j r' (by omega) hr'
    · intro j r' hr'
      by_cases e : j = k0
      · subst e; rw [hr] at hr'; cases hr'; rw [if_pos (Nat.lt_succ_self _)]; exact hit1
      · have := hit j r' hr'
        have hjn : j < m + 1 := by rw [← hn]; exact (List.getElem?_eq_some_iff.mp hr').1
        rw [show (if j < k0 + 1 then i + 1 else i) = (if j < k0 then i + 1 else i) by split <;> split <;> omega]
        exact this.keep fun o e => hs1.extBut _ _ (nn (by omega)) e
    · intro c o hc e
      exact hs1.extBut _ _ (nn (by omega)) (hkp c o hc e)
  · rintro bb s' ⟨acc, rfl, k, m', h', hl, hkm, rfl, hz', hTI', ha', hcol, hit, hsz, hkp⟩
    cases m' with
    | succ m' => cases hl
    | zero =>
    obtain rfl : k = m + 1 := by omega
    show wpAny _ _ (newTuple acc.toList >>= _) _ _ _
    refine wpAny_bind (wpAny_newTuple ?_ (by simp; omega))
    have hlt : b + (m + 1) + 2 < h'.objs.size := Heap.lt_size hz'
    refine wpAny_pure ⟨_, rfl, ?_⟩
    show Q (.ref h'.objs.size) ⟨h'.push { cls := .type "tuple", data := .seq acc.toList.toArray }, g, d, tk, os⟩
    have hp4 := Heap.get?_push_size h' (o := { cls := .type "tuple", data := .seq acc.toList.toArray }) rfl
    have hz4 : (h'.push { cls := .type "tuple", data := .seq acc.toList.toArray }).objs.size = h'.objs.size + 1 := Heap.size_push ..
    rw [hsz] at hp4 hz4 ⊢
    refine hQ _ acc ha' (fun j r hr => hcol j r (by rw [← hn]; exact (List.getElem?_eq_some_iff.mp hr).1) hr) (Heap.get?_push_of_some _ hz') (fun j r hr => ?_) (Heap.get?_push_of_some _ hTI') hp4 hz4
      fun c o hc e => Heap.get?_push_of_some _ (hkp c o hc e)
    have hjn : j < m + 1 := by rw [← hn]; exact (List.getElem?_eq_some_iff.mp hr).1
    have := hit j r hr
    rw [if_pos hjn] at this
    exact this.keep fun o e => Heap.get?_push_of_some _ e
  · have i1 : b + (m + 1) ≠ b + (m + 1) + 2 := by omega
    have i3 : ∀ c, (c < b ∨ b + (m + 1) + 2 < c) → c ≠ b + (m + 1) + 2 := by omega
    refine ⟨#[], rfl, 0, m + 1, g0, rfl, by omega, rfl, hz0, hs0.extBut _ _ i1 hTI, rfl, fun j r hj => absurd hj (Nat.not_lt_zero j), fun j r hr => ?_, hs0.1, fun c o hc e => hs0.extBut _ _ (i3 c hc) e⟩
    have hjn : j < m + 1 := by rw [← hn]; exact (List.getElem?_eq_some_iff.mp hr).1
    rw [if_neg (Nat.not_lt_zero j)]
    exact (hrow j r hr).2.2.1.keep fun o e => hs0.extBut _ _ (nn (by omega)) e

/-- the end, first next -/
theorem zn_end0 {b n : Nat} {r0 : Rw} {Q : Fin → Shared → Prop} (hh : A.handled = none) (hnz : 0 < n)
    (hr1 : r0.at_ < b) (hr2 : RowAt s.heap r0) (hr3 : ItAt s.heap b r0 0) (hend : r0.vals[0]? = none)
    (hz : IsZip s.heap (b + n + 2) (b + n) (b + n + 1) .none) (hTI : s.heap.get? (b + n) = some { cls := .type "tuple", data := .seq (refsF b n).toArray })
    (hE : ∀ h' e, (∀ c o, (c < b ∨ b + n + 2 < c) → s.heap.get? c = some o → h'.get? c = some o) → (∃ o, h'.get? e = some o ∧ o.cls = .type "StopIteration") → E (.ref e) { s with heap := h' }) :
    wpAny (model prog w) A (Builtin.«zip.__next__» ⟨[.ref (b + n + 2)], []⟩) Q E s := by
  obtain ⟨hp, g, d, tk0, os⟩ := s
  show wpAny _ _ (field (.ref (b + n + 2)) 2 >>= _) _ _ _
  refine wpAny_bind (wpAny_field hz rfl (x := .bool false) rfl ?_)
  show wpAny _ _ (field (.ref (b + n + 2)) 3 >>= _) _ _ _
  refine wpAny_bind (wpAny_field hz rfl (x := .ref (b + n)) rfl ?_)
  refine wpAny_bind (wpAny_seqItems hTI rfl ?_)
  obtain ⟨m, rfl⟩ : ∃ m, n = m + 1 := ⟨n - 1, by omega⟩
  show wpAny _ _ (Builtin.SmallTypes.ownedTupleIsFree (.ref (b + (m + 1) + 2)) >>= _) _ _ _
  refine wpAny_bind ?_
  unfold Builtin.SmallTypes.ownedTupleIsFree
  refine wpAny_bind (wpAny_field hz rfl (x := .none) rfl (wpAny_pure ?_))
  simp only [if_true]
  refine wpAny_bind (wpAny_rule ?_)
  refine wpAny_bind (wpAny_field hz rfl (x := .ref (b + (m + 1) + 1)) rfl ?_)
  refine wpAny_bind (wpAny_setField_rec hz (by simp) fun g0 hz0 hs0 => ?_)
  replace hz0 : IsZip g0 (b + (m + 1) + 2) (b + (m + 1)) (b + (m + 1) + 1) .ellipsis := hz0
  replace hs0 : Heap.SameBut (b + (m + 1) + 2) hp g0 := hs0
  refine wpAny_bind ?_
  simp only [refsF, List.zipIdx_cons, List.forIn_cons]
  refine wpAny_bind (wpAny_bind (wpAny_onRaise ?_))
  show wpAny _ _ (Builtin.SmallTypes.nextOf (.ref b) >>= _) _ _ ⟨g0, g, d, tk0, os⟩
  refine wpAny_bind (zz_end (s := ⟨g0, g, d, tk0, os⟩) hh (hr3.keep fun o e => hs0.extBut _ _ (nn (by omega)) e) (hr2.keep fun o e => hs0.extBut _ _ (nn (by omega)) e) hend fun q e hq he => ?_)
  replace hq : Heap.ExtBut b g0 q := hq
  obtain ⟨oe, hoe, hce⟩ := he
  replace hoe : q.get? e = some oe := hoe
  have hzq : IsZip q (b + (m + 1) + 2) (b + (m + 1)) (b + (m + 1) + 1) .ellipsis := hq _ _ (nn (by omega)) hz0
  have hez : e ≠ b + (m + 1) + 2 := fun x => by subst x; rw [hzq] at hoe; cases hoe; simp at hce
  refine wpAny_setField_rec (s := ⟨q, g, d, tk0, os⟩) hzq (by simp) fun q' _ hq' => ?_
  replace hq' : Heap.SameBut (b + (m + 1) + 2) q q' := hq'
  exact hE q' e (fun c o hc x => hq'.extBut _ _ (nn (by omega)) (hq _ _ (nn (by omega)) (hs0.extBut _ _ (nn (by omega)) x))) ⟨oe, hq'.extBut _ _ hez hoe, hce⟩

theorem zn_endH {b n i T : Nat} {f : Bool} {oT : Obj} {r0 : Rw} {Q : Fin → Shared → Prop} (hh : A.handled = none) (hnz : 0 < n)
    (hr1 : r0.at_ < b) (hr2 : RowAt s.heap r0) (hr3 : ItAt s.heap b r0 i) (hend : r0.vals[i]? = none)
    (hz : IsZipHeld s.heap (b + n + 2) (b + n) (b + n + 1) T f) (hT : s.heap.get? T = some oT) (hTI : s.heap.get? (b + n) = some { cls := .type "tuple", data := .seq (refsF b n).toArray })
    (hE : ∀ h' e, (∀ c o, (c < b ∨ b + n + 2 < c) → s.heap.get? c = some o → h'.get? c = some o) → (∃ o, h'.get? e = some o ∧ o.cls = .type "StopIteration") → E (.ref e) { s with heap := h' }) :
    wpAny (model prog w) A (Builtin.«zip.__next__» ⟨[.ref (b + n + 2)], []⟩) Q E s := by
  obtain ⟨hp, g, d, tk0, os⟩ := s
  show wpAny _ _ (field (.ref (b + n + 2)) 2 >>= _) _ _ _
  refine wpAny_bind (wpAny_field hz rfl (x := .bool false) rfl ?_)
  show wpAny _ _ (field (.ref (b + n + 2)) 3 >>= _) _ _ _
  refine wpAny_bind (wpAny_field hz rfl (x := .ref (b + n)) rfl ?_)
  refine wpAny_bind (wpAny_seqItems hTI rfl ?_)
  obtain ⟨m, rfl⟩ : ∃ m, n = m + 1 := ⟨n - 1, by omega⟩
  show wpAny _ _ (Builtin.SmallTypes.ownedTupleIsFree (.ref (b + (m + 1) + 2)) >>= _) _ _ _
  refine wpAny_bind (wpAny_tupleHeld_zip hz hT fun g0 hz0 hs0 => ?_)
  simp only [Bool.false_eq_true, if_false]
  replace hs0 : Heap.SameBut (b + (m + 1) + 2) hp g0 := hs0
  rw [← Array.forIn_toList]
  refine wpAny_bind ?_
  simp only [refsF, List.forIn_cons]
  refine wpAny_bind (wpAny_bind (wpAny_holding ?_))
  show wpAny _ _ (Builtin.SmallTypes.nextOf (.ref b) >>= _) _ _ ⟨g0, g, d, tk0, os⟩
  refine wpAny_bind (zz_end (s := ⟨g0, g, d, tk0, os⟩) hh (hr3.keep fun o e => hs0.extBut _ _ (nn (by omega)) e) (hr2.keep fun o e => hs0.extBut _ _ (nn (by omega)) e) hend fun q e hq he => ?_)
  replace hq : Heap.ExtBut b g0 q := hq
  exact hE q e (fun c o hc x => (hq _ _ (nn (by omega)) (hs0.extBut _ _ (nn (by omega)) x))) he
/-- zip of nothing ends at once -/
theorem zn_endE {b : Nat} {f0 : Value} {Q : Fin → Shared → Prop} (hh : A.handled = none)
    (hz : IsZip s.heap (b + 2) b (b + 1) f0) (hTI : s.heap.get? b = some { cls := .type "tuple", data := .seq #[] })
    (hE : ∀ h' e, (∀ c o, s.heap.get? c = some o → h'.get? c = some o) → (∃ o, h'.get? e = some o ∧ o.cls = .type "StopIteration") → E (.ref e) { s with heap := h' }) :
    wpAny (model prog w) A (Builtin.«zip.__next__» ⟨[.ref (b + 2)], []⟩) Q E s := by
  obtain ⟨hp, g, d, tk0, os⟩ := s
  show wpAny _ _ (field (.ref (b + 2)) 2 >>= _) _ _ _
  refine wpAny_bind (wpAny_field hz rfl (x := .bool false) rfl ?_)
  show wpAny _ _ (field (.ref (b + 2)) 3 >>= _) _ _ _
  refine wpAny_bind (wpAny_field hz rfl (x := .ref b) rfl ?_)
  refine wpAny_bind (wpAny_seqItems hTI rfl ?_)
  show wpAny _ _ (rule "zip.__next__.no-iterables" >>= _) _ _ _
  refine wpAny_bind (wpAny_rule ?_)
  refine wpAny_bind ?_
  show wpAny _ _ (newExc (.type "StopIteration") [] >>= _) _ _ _
  refine wpAny_bind ?_
  simp only [newExc, newTuple]
  refine wpAny_bind (wpAny_newObj_type ?_ (by size_fits))
  refine wpAny_bind (m := firstArgMember _ _) (wpAny_of_eq (a := Value.none) (by first | rfl | (simp only [firstArgMember]; rfl)) ?_)
  refine wpAny_newObj_type ?_ (by size_fits)
  simp only [raiseNew]
  refine wpAny_bind (wpAny_handled ?_)
  first | rw [show A.in1.handled = none from hh] | rw [hh]
  refine wpAny_bind (wpAny_pure (wpAny_throw ?_))
  exact hE _ _ (fun c o e => Heap.get?_push_of_some _ (Heap.get?_push_of_some _ e)) ⟨_, Heap.get?_push_size _ rfl, rfl⟩
end
end PySem.Z
set_option maxRecDepth 100000
set_option Elab.async false
namespace PySem.Z
open PySem

theorem newClass_zip (vs : List Value) : Builtin.SmallTypes.newClass "zip" ⟨.type "zip" :: vs, []⟩ = pure (.type "zip", vs) := by
  unfold Builtin.SmallTypes.newClass
  simp only [isType, sub_zip, pure_bind, Bool.not_true, Bool.false_eq_true, if_false]

/-- what zip.__new__ leaves -/
structure ZBeg (b : Nat) (rs : List Rw) (h0 h : Heap) : Prop where
  old : ∀ c o, h0.get? c = some o → h.get? c = some o
  it : ∀ (j : Nat) (r : Rw), rs[j]? = some r → ItAt h (b + j) r 0
  TI : h.get? (b + rs.length) = some { cls := .type "tuple", data := .seq (refsF b rs.length).toArray }
  TO : ∃ arr : Array Value, arr.size = rs.length ∧ h.get? (b + rs.length + 1) = some { cls := .type "tuple", data := .seq arr }
  z : IsZip h (b + rs.length + 2) (b + rs.length) (b + rs.length + 1) .none
  size : h.objs.size = b + rs.length + 3

section
variable {prog : Program} {w : World} {A : Around} {E : Value → Shared → Prop} {s : Shared}
theorem zz_iter {r : Rw} {Q : Value → Shared → Prop} (hr : RowAt s.heap r)
    (hQ : ∀ h', ItAt h' s.heap.objs.size r 0 → h'.objs.size = s.heap.objs.size + 1 → (∀ c o, s.heap.get? c = some o → h'.get? c = some o) → Q (.ref s.heap.objs.size) { s with heap := h' }) :
    wpAny (model prog w) A (pyIter (.ref r.at_)) Q E s := by
  obtain ⟨a, l, v⟩ := r; cases l
  · exact wpAny_pyIter_tuple hr (hQ _ ⟨_, Heap.get?_push_size _ rfl, rfl, rfl⟩ (Heap.size_push ..) fun c o e => Heap.get?_push_of_some _ e)
  · exact wpAny_pyIter_list hr (hQ _ ⟨_, Heap.get?_push_size _ rfl, rfl, rfl⟩ (Heap.size_push ..) fun c o e => Heap.get?_push_of_some _ e)
end

theorem zz_new (rs : List Rw) (hlin : rs.length ≤ sizeLine) :
    Meets (Builtin.«zip.__new__» ⟨.type "zip" :: rs.map (fun r => Value.ref r.at_), []⟩) (fun _ R s => (∀ (j : Nat) (r : Rw), rs[j]? = some r → RowAt s.heap r) ∧
      ∀ h', ZBeg s.heap.objs.size rs s.heap h' → R (.ok (.ret (.ref (s.heap.objs.size + rs.length + 2)))) { s with heap := h' }) :=
  .of_wp fun prog w A R s h => by
    obtain ⟨hp, g, d, tk, os⟩ := s; obtain ⟨hr, h⟩ := h
    unfold Builtin.«zip.__new__»
    refine wpAny_bind (wpAny_of_eq (newClass_zip _) ?_)
    try dsimp only
    refine wpAny_bind ?_
    unfold Builtin.SmallTypes.iterAll
    refine wpAny_bind (forIn_any (fun l (bb : Array Value) s' => ∃ k h', l = (rs.drop k).map (fun r => Value.ref r.at_) ∧ k ≤ rs.length ∧ bb = (refsF hp.objs.size k).toArray ∧ s' = ⟨h', g, d, tk, os⟩ ∧
      (∀ (j : Nat) (r : Rw), j < k → rs[j]? = some r → ItAt h' (hp.objs.size + j) r 0) ∧ h'.objs.size = hp.objs.size + k ∧ (∀ c o, hp.get? c = some o → h'.get? c = some o)) ?_ ?_ _ _ _ ?_)
    · rintro v r bb s' ⟨k, h', hl, hk, rfl, rfl, hit, hsz, hkp⟩
      have hlt : k < rs.length := by
        rcases Nat.lt_or_ge k rs.length with h | h
        · exact h
        · rw [List.drop_eq_nil_of_le h] at hl; cases hl
      rw [List.drop_eq_getElem_cons hlt, List.map_cons] at hl
      injection hl with e1 e2
      subst e1 e2
      have hrk : rs[k]? = some rs[k] := List.getElem?_eq_getElem hlt
      refine wpAny_bind (wpAny_holding (zz_iter (s := ⟨h', g, d, tk, os⟩) (r := rs[k]) ?_ fun p hi hsp hkp' => wpAny_pure ⟨_, rfl, k + 1, p, rfl, hlt, ?_, rfl, ?_, ?_, fun c o e => hkp' _ _ (hkp c o e)⟩))
      · exact (hr k _ hrk).keep fun o e => hkp _ o e
      · show (refsF hp.objs.size k).toArray.push (.ref h'.objs.size) = _
        rw [hsz, List.push_toArray, refsF_snoc]
      · intro j r hj hr'
        by_cases e : j = k
        · subst e; rw [hrk] at hr'; cases hr'; rw [← hsz]; exact hi
        · exact (hit j r (by omega) hr').keep fun o e => hkp' _ o e
      · rw [hsp]; show h'.objs.size + 1 = _; rw [hsz]; omega
    · rintro bb s' ⟨k, h', hl, hk, rfl, rfl, hit, hsz, hkp⟩
      have hk' : k = rs.length := by
        rcases Nat.lt_or_ge k rs.length with h | h
        · rw [List.drop_eq_getElem_cons h] at hl; cases hl
        · omega
      subst hk'
      refine wpAny_pure ?_
      have e0 : ((refsF hp.objs.size rs.length).toArray).toList = refsF hp.objs.size rs.length := rfl
      rw [e0]
      refine wpAny_bind (wpAny_newTuple ?_ (by rw [refsF_length]; exact hlin))
      refine wpAny_bind (wpAny_newTuple ?_ (by rw [List.length_map, refsF_length]; exact hlin))
      refine wpAny_bind ?_
      unfold Builtin.SmallTypes.newRecord
      refine wpAny_newObj_type (hd := show (5:Nat) ≤ sizeLine + 2 from Nat.le_of_ble_eq_true rfl) (wpAny_pure ⟨_, rfl, ?_⟩)
      have z1 : (h'.push { cls := .type "tuple", data := .seq (refsF hp.objs.size rs.length).toArray }).objs.size = hp.objs.size + rs.length + 1 := by rw [Heap.size_push, hsz]
      have z2 : ((h'.push { cls := .type "tuple", data := .seq (refsF hp.objs.size rs.length).toArray }).push { cls := .type "tuple", data := .seq ((refsF hp.objs.size rs.length).map fun _ => Value.none).toArray }).objs.size = hp.objs.size + rs.length + 2 := by rw [Heap.size_push, z1]
      show R (.ok (.ret (.ref ((h'.push _).push _).objs.size))) _
      rw [z2]
      refine h _ ⟨fun c o e => Heap.get?_push_of_some _ (Heap.get?_push_of_some _ (Heap.get?_push_of_some _ (hkp c o e))), fun j r hr' => ?_, ?_, ⟨((refsF hp.objs.size rs.length).map fun _ => Value.none).toArray, by simp [refsF_length], ?_⟩, ?_, ?_⟩
      · exact (hit j r (List.getElem?_eq_some_iff.mp hr').1 hr').keep fun o e => Heap.get?_push_of_some _ (Heap.get?_push_of_some _ (Heap.get?_push_of_some _ e))
      · have := Heap.get?_push_size h' (o := { cls := .type "tuple", data := .seq (refsF hp.objs.size rs.length).toArray }) rfl
        rw [hsz] at this
        exact Heap.get?_push_of_some _ (Heap.get?_push_of_some _ this)
      · have := Heap.get?_push_size (h'.push { cls := .type "tuple", data := .seq (refsF hp.objs.size rs.length).toArray }) (o := { cls := .type "tuple", data := .seq ((refsF hp.objs.size rs.length).map fun _ => Value.none).toArray }) rfl
        rw [z1] at this
        exact Heap.get?_push_of_some _ this
      · have := Heap.get?_push_size ((h'.push { cls := .type "tuple", data := .seq (refsF hp.objs.size rs.length).toArray }).push { cls := .type "tuple", data := .seq ((refsF hp.objs.size rs.length).map fun _ => Value.none).toArray }) (o := { cls := .type "zip", data := .fields ([.none, .bool false] ++ [.bool false, .ref h'.objs.size, .ref (h'.push { cls := .type "tuple", data := .seq (refsF hp.objs.size rs.length).toArray }).objs.size] : List Value).toArray }) rfl
        rw [z2, z1, hsz] at this
        rw [z1, hsz]
        exact this
      · rw [Heap.size_push, z2]
    · exact ⟨0, hp, rfl, Nat.zero_le _, rfl, rfl, fun j r hj => absurd hj (Nat.not_lt_zero j), rfl, fun c o e => e⟩

section
variable {prog : Program} {w : World} {A : Around} {E : Value → Shared → Prop} {s : Shared}
theorem zz_call {rs : List Rw} {Q : Value → Shared → Prop} (hlin : rs.length ≤ sizeLine) (hr : ∀ (j : Nat) (r : Rw), rs[j]? = some r → RowAt s.heap r)
    (h : ∀ h', ZBeg s.heap.objs.size rs s.heap h' → Q (.ref (s.heap.objs.size + rs.length + 2)) { s with heap := h' }) :
    wpAny (model prog w) A (call (.type "zip") (rs.map (fun r => Value.ref r.at_))) Q E s :=
  callType_new F.called_zip (by decide) (zz_typeCall _) (zz_newCall _) (fun obj => zz_argsInit obj _) F.entry_zip_new (zz_new rs hlin)
    ⟨hr, fun h' B => ⟨⟨_, B.z, rfl⟩, h h' B⟩⟩
end
end PySem.Z
set_option maxRecDepth 100000
set_option Elab.async false
namespace PySem.Z
open PySem

theorem zip_no_len : typeLookup (.type "zip") "__len__" = pure none := by rw [typeLookup_type, builtinLookup_eq_fast]; kernel_rfl
theorem zip_no_hint : typeLookup (.type "zip") "__length_hint__" = pure none := by rw [typeLookup_type, builtinLookup_eq_fast]; kernel_rfl

/-- the walk of list(zip(..)), i columns drawn -/
structure ZSt (b n : Nat) (rs : List Rw) (i : Nat) (h : Heap) : Prop where
  row : ∀ (j : Nat) (r : Rw), rs[j]? = some r → r.at_ < b ∧ RowAt h r ∧ ItAt h (b + j) r i
  z : (i = 0 ∧ IsZip h (b + n + 2) (b + n) (b + n + 1) .none) ∨ (0 < i ∧ ∃ T f o, IsZipHeld h (b + n + 2) (b + n) (b + n + 1) T f ∧ b + n + 2 < T ∧ h.get? T = some o)
  TI : h.get? (b + n) = some { cls := .type "tuple", data := .seq (refsF b n).toArray }
  TO : i = 0 → ∃ arr : Array Value, arr.size = n ∧ h.get? (b + n + 1) = some { cls := .type "tuple", data := .seq arr }
  size : h.objs.size = b + n + 4 + i

/-- the columns drawn so far, and the list of them -/
structure ZCols (S b1 n i : Nat) (rs : List Rw) (h : Heap) : Prop where
  lst : ∃ (acc : Array Value) (c : Nat), h.get? S = some { cls := .type "list", dict := none, data := .seq acc c, slots := #[] } ∧ acc.size = i ∧ ∀ j, j < i → acc[j]? = some (.ref (b1 + j))
  col : ∀ c, c < i → ∃ col : Array Value, h.get? (b1 + c) = some { cls := .type "tuple", data := .seq col } ∧ col.size = n ∧ ∀ (j : Nat) (r : Rw), rs[j]? = some r → col[j]? = r.vals[c]?

section
variable {prog : Program} {w : World} {A : Around} {E : Value → Shared → Prop} {s : Shared}

theorem zx_item {b n i : Nat} {rs : List Rw} {Q : Option Value → Shared → Prop} (hn : rs.length = n) (hnz : 0 < n) (hlin : n ≤ sizeLine) (st : ZSt b n rs i s.heap) (hx : ∀ (j : Nat) (r : Rw), rs[j]? = some r → ∃ x, r.vals[i]? = some x)
    (hQ : ∀ h' col tk, ZSt b n rs (i + 1) h' → h'.get? (b + n + 4 + i) = some { cls := .type "tuple", data := .seq col } → col.size = n → (∀ (j : Nat) (r : Rw), rs[j]? = some r → col[j]? = r.vals[i]?) →
      (∀ c o, (c < b ∨ b + n + 2 < c) → s.heap.get? c = some o → h'.get? c = some o) → Q (some (.ref (b + n + 4 + i))) { s with heap := h', toks := tk }) :
    wpAny (model prog w) A (pyNext (.ref (b + n + 2))) Q E s := by
  have hT : s.TypeIs (.ref (b + n + 2)) "zip" := by
    rcases st.z with ⟨_, z⟩ | ⟨_, _, _, _, z, _, _⟩ <;> exact ⟨_, z, rfl⟩
  have hrow : ∀ j r, rs[j]? = some r → r.at_ < b ∧ RowAt s.heap r ∧ ItAt s.heap (b + j) r i ∧ ∃ x, r.vals[i]? = some x := fun j r e => ⟨(st.row j r e).1, (st.row j r e).2.1, (st.row j r e).2.2, hx j r e⟩
  unfold pyNext
  refine wpAny_bind (wpAny_attempt (wpAny_callSpecial?_slot (name := Str.ofString "__next__") hT F.slot_zip_next
    (wpAny_call_entry F.slot_zip_next hT F.entry_zip_next ?_ (F.args_zip_next_1 _))))
  rcases st.z with ⟨rfl, z⟩ | ⟨_, T, f, o, z, hTb, hTo⟩
  · obtain ⟨arr, ha, hTO⟩ := st.TO rfl
    refine zn_item0 hn hnz hlin hrow z st.TI hTO ha fun h' col tk hc1 hc2 hz' hit' hTI' hnew hsz hk => wpAny_pure ?_
    rw [st.size] at hnew hsz hz' ⊢
    exact hQ h' col tk ⟨fun j r e => ⟨(st.row j r e).1, (st.row j r e).2.1.keep fun o e' => hk _ o (.inl (st.row j r e).1) e', hit' j r e⟩, .inr ⟨Nat.succ_pos _, _, _, _, hz', by omega, hnew⟩, hTI', fun e => absurd e (Nat.succ_ne_zero _), hsz⟩ hnew hc1 hc2 hk
  · refine zn_itemH hn hnz hlin hrow z hTo st.TI fun h' col hc1 hc2 hz' hit' hTI' hnew hsz hk => wpAny_pure ?_
    rw [st.size] at hnew hsz ⊢
    exact hQ h' col s.toks ⟨fun j r e => ⟨(st.row j r e).1, (st.row j r e).2.1.keep fun o e' => hk _ o (.inl (st.row j r e).1) e', hit' j r e⟩, .inr ⟨Nat.succ_pos _, _, _, _, hz', hTb, hk _ _ (.inr hTb) hTo⟩, hTI', fun e => absurd e (Nat.succ_ne_zero _), hsz⟩ hnew hc1 hc2 hk

theorem zx_end {b n i : Nat} {rs : List Rw} {Q : Option Value → Shared → Prop} (hh : A.handled = none) (hn : rs.length = n) (hni : n = 0 → i = 0) (st : ZSt b n rs i s.heap) (hx : ∀ (j : Nat) (r : Rw), rs[j]? = some r → r.vals[i]? = none)
    (hQ : ∀ h', (∀ c o, (c < b ∨ b + n + 2 < c) → s.heap.get? c = some o → h'.get? c = some o) → Q none { s with heap := h' }) :
    wpAny (model prog w) A (pyNext (.ref (b + n + 2))) Q E s := by
  have hT : s.TypeIs (.ref (b + n + 2)) "zip" := by
    rcases st.z with ⟨_, z⟩ | ⟨_, _, _, _, z, _, _⟩ <;> exact ⟨_, z, rfl⟩
  unfold pyNext
  refine wpAny_bind (wpAny_attempt (wpAny_callSpecial?_slot (name := Str.ofString "__next__") hT F.slot_zip_next
    (wpAny_call_entry F.slot_zip_next hT F.entry_zip_next ?_ (F.args_zip_next_1 _))))
  have tail : ∀ h' e, (∀ c o, (c < b ∨ b + n + 2 < c) → s.heap.get? c = some o → h'.get? c = some o) → (∃ o, h'.get? e = some o ∧ o.cls = .type "StopIteration") → wpAny (model prog w) A (do
      if ← isInstance (.ref e) (.type "StopIteration") then pure none else throw (.ref e)) Q E { s with heap := h' } := fun h' e hk he => by
    obtain ⟨o, ho, hc⟩ := he
    refine wpAny_bind (wpAny_isInstance (T := "StopIteration") (b := true) ⟨o, ho, hc⟩ isSubtype_stop ?_)
    exact wpAny_pure (hQ _ hk)
  rcases Nat.eq_zero_or_pos n with rfl | hnz
  · have hTI : s.heap.get? b = some { cls := .type "tuple", data := .seq #[] } := st.TI
    rcases st.z with ⟨_, z⟩ | ⟨h0, _⟩
    · exact zn_endE hh z hTI fun h' e hk he => tail h' e (fun c o _ => hk c o) he
    · exact absurd (hni rfl) (Nat.ne_of_gt h0)
  · obtain ⟨r0, hr0⟩ : ∃ r, rs[0]? = some r := ⟨rs[0]'(by omega), List.getElem?_eq_getElem (by omega)⟩
    have R := st.row 0 r0 hr0
    rcases st.z with ⟨rfl, z⟩ | ⟨_, T, f, o, z, hTb, hTo⟩
    · exact zn_end0 hh hnz R.1 R.2.1 R.2.2 (hx 0 r0 hr0) z st.TI tail
    · exact zn_endH hh hnz R.1 R.2.1 R.2.2 (hx 0 r0 hr0) z hTo st.TI tail

theorem ZSt.keep {b n i : Nat} {rs : List Rw} {h h' : Heap} (st : ZSt b n rs i h) (hn : rs.length = n) (hsz : h'.objs.size = h.objs.size) (hk : ∀ c o, c ≠ b + n + 3 → h.get? c = some o → h'.get? c = some o)
    (hTS : ∃ o, h'.get? (b + n + 3) = some o) : ZSt b n rs i h' := by
  refine ⟨fun j r e => ?_, ?_, hk _ _ (nn (by omega)) st.TI, fun e => ?_, by rw [hsz]; exact st.size⟩
  · have := st.row j r e
    have hj : j < n := by rw [← hn]; exact (List.getElem?_eq_some_iff.mp e).1
    have h1 := this.1
    exact ⟨this.1, this.2.1.keep fun o e' => hk _ o (nn (by omega)) e', this.2.2.keep fun o e' => hk _ o (nn (by omega)) e'⟩
  · rcases st.z with ⟨e, z⟩ | ⟨e, T, f, o, z, hTb, hTo⟩
    · exact .inl ⟨e, hk _ _ (nn (by omega)) z⟩
    · refine .inr ⟨e, T, f, ?_⟩
      by_cases hT : T = b + n + 3
      · obtain ⟨o', ho'⟩ := hTS
        exact ⟨o', hk _ _ (nn (by omega)) z, hTb, hT ▸ ho'⟩
      · exact ⟨o, hk _ _ (nn (by omega)) z, hTb, hk _ _ hT hTo⟩
  · obtain ⟨arr, h1, h2⟩ := st.TO e
    exact ⟨arr, h1, hk _ _ (nn (by omega)) h2⟩

theorem zx_loop {R : Result → Shared → Prop} {b n m : Nat} {rs : List Rw} (hh : A.handled = none) (hn : rs.length = n) (hlin : n ≤ sizeLine) (hm : m ≤ sizeLine) (hnm : n = 0 → m = 0)
    (hv : ∀ (j : Nat) (r : Rw), rs[j]? = some r → r.vals.size = m) (res : Value) :
    ∀ (k i : Nat) (s : Shared), m - i = k → i ≤ m → ZSt b n rs i s.heap → ZCols (b + n + 3) (b + n + 4) n i rs s.heap →
    (∀ h' tk, ZCols (b + n + 3) (b + n + 4) n m rs h' → (∀ c o, c < b → s.heap.get? c = some o → h'.get? c = some o) → R (.ok (.ret res)) { s with heap := h', toks := tk }) →
    codeAny (model prog w) A (.builtin "list.extend.loop" ⟨[.ref (b + n + 3), .ref (b + n + 2), res], []⟩) R s := by
  intro k
  induction k with
  | zero =>
    intro i s hk hi st C hR
    obtain rfl : i = m := by omega
    refine codeAny_builtin F.entry_extend_loop ?_
    rw [Around.under_plainId F.plain_extend_loop _]
    show wpAny _ A.in1 (pyNext (.ref (b + n + 2)) >>= _) _ _ s
    refine wpAny_bind (zx_end hh hn hnm st (fun j r e => by rw [Array.getElem?_eq_none]; rw [hv j r e]; exact Nat.le_refl _) fun h' hk => ?_)
    refine wpAny_pure (hR h' s.toks ⟨?_, fun c hc => ?_⟩ fun c o hc e => hk c o (.inl hc) e)
    · obtain ⟨acc, c, h1, h2⟩ := C.lst
      exact ⟨acc, c, hk _ _ (.inr (by omega)) h1, h2⟩
    · obtain ⟨col, h1, h2⟩ := C.col c hc
      exact ⟨col, hk _ _ (.inr (by omega)) h1, h2⟩
  | succ k ih =>
    intro i s hk hi st C hR
    have hlt : i < m := by omega
    have hnz : 0 < n := by rcases Nat.eq_zero_or_pos n with e | e; have := hnm e; omega; exact e
    refine codeAny_builtin F.entry_extend_loop ?_
    rw [Around.under_plainId F.plain_extend_loop _]
    show wpAny _ A.in1 (pyNext (.ref (b + n + 2)) >>= _) _ _ s
    refine wpAny_bind (zx_item hn hnz hlin st (fun j r e => ⟨_, Array.getElem?_eq_getElem (by rw [hv j r e]; exact hlt)⟩) fun h' col tk st' hcol hc1 hc2 hkp => ?_)
    obtain ⟨acc, c, hS, ha, hacc⟩ := C.lst
    have hS' := hkp _ _ (.inr (by omega)) hS
    show wpAny _ A.in1 (updateSeq (b + n + 3) (·.push (.ref (b + n + 4 + i))) >>= _) _ _ ⟨h', s.gens, s.drawn, tk, s.os⟩
    refine wpAny_bind ?_
    have oth : ∀ c o, c ≠ b + n + 3 → h'.get? c = some o → (h'.update (b + n + 3) (Obj.mapSeq (·.push (.ref (b + n + 4 + i))))).get? c = some o := fun c o hc e =>
      (Heap.get?_update_other _ _ (Ne.symm hc)).trans e
    have hsz : (h'.update (b + n + 3) (Obj.mapSeq (·.push (.ref (b + n + 4 + i))))).objs.size = h'.objs.size := (Heap.SameBut.update ..).1
    have hSS := Heap.get?_update_self (Obj.mapSeq (·.push (Value.ref (b + n + 4 + i)))) hS' rfl
    refine wpAny_updateSeq (s := ⟨h', s.gens, s.drawn, tk, s.os⟩) hS' rfl (wpAny_pure ⟨plainId_quiet F.plain_extend_loop _, ih (i + 1) _ (by omega) hlt (st'.keep hn hsz oth ⟨_, hSS⟩) ⟨?_, ?_⟩ fun h'' tk' C' hk' => hR h'' tk' C' fun c o hc e => hk' c o hc (oth _ _ (nn (by omega)) (hkp _ _ (.inl hc) e))⟩)
      (by rw [ha]; omega) (by show (acc.push _).size ≤ sizeLine + 1; rw [Array.size_push, ha]; omega)
    · refine ⟨_, _, hSS, by show (acc.push _).size = _; rw [Array.size_push, ha], fun j hj => ?_⟩
      show (acc.push _)[j]? = _
      rw [Array.getElem?_push]
      by_cases e : j = i
      · subst e; rw [if_pos ha.symm]
      · rw [if_neg (by rw [ha]; exact e)]; exact hacc j (by omega)
    · intro c hc
      by_cases e : c = i
      · subst e; exact ⟨col, oth _ _ (nn (by omega)) hcol, hc1, hc2⟩
      · obtain ⟨col', h1, h2⟩ := C.col c (by omega)
        exact ⟨col', oth _ _ (nn (by omega)) (hkp _ _ (.inr (by omega)) h1), h2⟩

theorem zx_call {b n m : Nat} {rs : List Rw} {h0 : Heap} {Q : Value → Shared → Prop} (hh : A.handled = none) (hn : rs.length = n) (hlin : n ≤ sizeLine) (hm : m ≤ sizeLine) (hnm : n = 0 → m = 0)
    (hv : ∀ (j : Nat) (r : Rw), rs[j]? = some r → r.vals.size = m) (hr : ∀ (j : Nat) (r : Rw), rs[j]? = some r → r.at_ < b ∧ RowAt s.heap r) (B : ZBeg b rs h0 s.heap)
    (hQ : ∀ h' tk, ZCols (b + n + 3) (b + n + 4) n m rs h' → (∀ c o, c < b → s.heap.get? c = some o → h'.get? c = some o) → Q (.ref (b + n + 3)) { s with heap := h', toks := tk }) :
    wpAny (model prog w) A (call (.type "list") [.ref (b + n + 2)]) Q E s := by
  subst hn
  have hsz := B.size
  refine callType_codes (Q₁ := fun obj s₁ => obj = .ref s.heap.objs.size ∧ s₁ = { s with heap := s.heap.push { cls := .type "list", data := .seq #[] } }) PySem.F.called_list (PySem.F.typeCall_list_1 _) PySem.F.entry_list_init
    (code_list_new _ ⟨rfl, rfl⟩) fun obj s₁ h₁ => ?_
  obtain ⟨rfl, rfl⟩ := h₁
  rw [hsz]
  have hS : (s.heap.push { cls := .type "list", data := .seq #[] }).get? (b + rs.length + 3) = some { cls := .type "list", data := .seq #[] } := by
    rw [← hsz]; exact Heap.get?_push_size _ rfl
  refine ⟨⟨_, hS, rfl⟩, PySem.F.args_list_init_2 _ _, ?_⟩
  obtain ⟨arr, ha1, ha2⟩ := B.TO
  have st0 : ZSt b rs.length rs 0 (s.heap.push { cls := .type "list", data := .seq #[] }) :=
    ⟨fun j r e => ⟨(hr j r e).1, (hr j r e).2.keep fun o e' => Heap.get?_push_of_some _ e', (B.it j r e).keep fun o e' => Heap.get?_push_of_some _ e'⟩, .inl ⟨rfl, Heap.get?_push_of_some _ B.z⟩,
      Heap.get?_push_of_some _ B.TI, fun _ => ⟨arr, ha1, Heap.get?_push_of_some _ ha2⟩, by rw [Heap.size_push, hsz]⟩
  -- the list's cell may be written, nothing else
  have key : ∀ (h : Heap) (c₁ tk : Nat), h.objs.size = b + rs.length + 4 → (∀ c o, c ≠ b + rs.length + 3 → (s.heap.push { cls := .type "list", data := .seq #[] }).get? c = some o → h.get? c = some o) →
      h.get? (b + rs.length + 3) = some { cls := .type "list", data := .seq #[] c₁ } →
      codeAny (model prog w) A.in1 (.builtin "list.extend.loop" ⟨[.ref (b + rs.length + 3), .ref (b + rs.length + 2), .none], []⟩) (wants (fun r s₂ => r = .none ∧ Q (.ref (b + rs.length + 3)) s₂) E) { s with heap := h, toks := tk } := by
    intro h c₁ tk h1 h2 h3
    refine zx_loop (A := A.in1) hh rfl hlin hm hnm hv .none m 0 _ rfl (Nat.zero_le _) (st0.keep rfl (by rw [h1, Heap.size_push, hsz]) h2 ⟨_, h3⟩) ⟨⟨#[], c₁, h3, rfl, fun j hj => absurd hj (Nat.not_lt_zero j)⟩, fun c hc => absurd hc (Nat.not_lt_zero c)⟩ fun h' tk' C hk => ?_
    exact ⟨rfl, hQ h' tk' C fun c o hc e => hk c o hc (h2 c o (nn (by omega)) (Heap.get?_push_of_some _ e))⟩
  show wpAny _ _ (do let old ← Builtin.List.listItems (.ref (b + rs.length + 3)); Builtin.List.listUpdate (.ref (b + rs.length + 3)) (fun _ => #[]); letGo old.toList.reverse; Builtin.List.listExtendWith (.ref (b + rs.length + 3)) (.ref (b + rs.length + 2)) .none) _ _ _
  refine wpAny_bind ?_
  unfold Builtin.List.listItems
  refine wpAny_bind (wpAny_seqItems hS rfl (wpAny_pure ?_))
  show wpAny _ _ (updateSeq (b + rs.length + 3) (fun _ => #[]) >>= fun _ => letGo (#[] : Array Value).toList.reverse >>= fun _ => Builtin.List.listExtendWith (.ref (b + rs.length + 3)) (.ref (b + rs.length + 2)) .none) _ _ _
  refine wpAny_bind (wpAny_updateSeq hS rfl ?_)
  have hS₂ := Heap.get?_update_self (Obj.mapSeq (fun _ => (#[] : Array Value))) hS rfl
  have oth : ∀ c o, c ≠ b + rs.length + 3 → (s.heap.push { cls := .type "list", data := .seq #[] }).get? c = some o → ((s.heap.push { cls := .type "list", data := .seq #[] }).update (b + rs.length + 3) (Obj.mapSeq (fun _ => (#[] : Array Value)))).get? c = some o :=
    fun c o hc e => (Heap.get?_update_other _ _ (Ne.symm hc)).trans e
  have sz2 : ((s.heap.push { cls := .type "list", data := .seq #[] }).update (b + rs.length + 3) (Obj.mapSeq (fun _ => (#[] : Array Value)))).objs.size = b + rs.length + 4 := by
    rw [(Heap.SameBut.update ..).1, Heap.size_push, hsz]
  refine wpAny_bind (wpAny_letGo ?_)
  have hz2 := oth _ _ (nn (by omega)) (Heap.get?_push_of_some _ B.z)
  have hT : Shared.TypeIs ⟨(s.heap.push { cls := .type "list", data := .seq #[] }).update (b + rs.length + 3) (Obj.mapSeq (fun _ => (#[] : Array Value))), s.gens, s.drawn, s.toks, s.os⟩ (.ref (b + rs.length + 2)) "zip" := ⟨_, hz2, rfl⟩
  unfold Builtin.List.listExtendWith
  refine wpAny_bind (wpAny_typeOf hT ?_)
  have h1 : Builtin.List.listSameRef (.ref (b + rs.length + 3)) (.ref (b + rs.length + 2)) = false := by simp [Builtin.List.listSameRef]
  have h2 : (Value.type "zip" == Value.type "list") = false := by decide
  have h3 : (Value.type "zip" == Value.type "tuple") = false := by decide
  simp only [h1, h2, h3, Bool.or_false, Bool.false_eq_true, if_false]
  refine wpAny_bind (wpAny_pyIter_zip hz2 ?_)
  refine wpAny_bind (wpAny_holding ?_)
  unfold Builtin.List.listLengthHint
  refine wpAny_bind (wpAny_specialOf hT zip_no_len ?_)
  show wpAny _ _ (specialOf (Value.ref (b + rs.length + 2)) (Str.ofString "__length_hint__") >>= _) _ _ _
  refine wpAny_bind (wpAny_specialOf hT zip_no_hint ?_)
  refine wpAny_pure ?_
  show wpAny _ _ (rule "list.extend.makes-room" >>= fun _ => Builtin.List.listTouch (.ref (b + rs.length + 3)) >>= fun _ =>
    again (.builtin "list.extend.loop" ⟨[.ref (b + rs.length + 3), .ref (b + rs.length + 2), .none], []⟩)) _ _ _
  refine wpAny_bind (wpAny_rule ?_)
  refine wpAny_bind ?_
  show wpAny _ _ (updateSeq (b + rs.length + 3) (·.push .none) >>= fun _ => updateSeq (b + rs.length + 3) (·.pop)) _ _ _
  refine wpAny_bind (wpAny_updateSeq hS₂ rfl ?_)
  have hS₃ := Heap.get?_update_self (Obj.mapSeq (·.push Value.none)) hS₂ rfl
  refine wpAny_updateSeq hS₃ rfl ?_
  have hS₄ := Heap.get?_update_self (Obj.mapSeq (·.pop)) hS₃ rfl
  refine wpAny_pure ⟨plainId_quiet F.plain_extend_loop _, key _ _ s.toks ?_ (fun c o hc e => ?_) hS₄⟩
  · rw [(Heap.SameBut.update ..).1, (Heap.SameBut.update ..).1, sz2]
  · exact (Heap.get?_update_other _ _ (Ne.symm hc)).trans ((Heap.get?_update_other _ _ (Ne.symm hc)).trans (oth c o hc e))
end
end PySem.Z
set_option Elab.async false
set_option linter.all false
set_option maxRecDepth 100000
set_option maxHeartbeats 4000000
namespace Z
open PySem PySem.Spec PyProof.Rows L2 StX

theorem inv_many {X : Cx} {pins : List (Addr × Obj)} {σ : L2.St} {H H' : Hp} {s : Shared} {h' : Heap} {t' : Nat} (I : Inv X pins σ H s) (k : ∀ b u, s.heap.get? b = some u → h'.get? b = some u)
    (low : ∀ a, a < s.heap.objs.size → H' a = H a) (new : ∀ a o, s.heap.objs.size ≤ a → H' a = some o → ObjOk X.prog X.w H' h' a o) : Inv X pins σ H' { s with heap := h', toks := t' } := by
  have ext : ∀ a o, H a = some o → H' a = some o := fun a o e => by rw [low a (I.hok.lt e)]; exact e
  refine I.un ⟨fun b u q _ _ _ => k b u q, fun b u q _ _ _ => ⟨u.slots, k b u q⟩, fun b u q n _ => by rw [low b (Heap.lt_size q)]; exact n, fun b u q _ => ⟨u, k b u q⟩, fun b xs q => ext _ _ q, fun b o u q => ext _ _ q, fun b ps q => ⟨#[], by rw [ext _ _ q]; simp⟩⟩ ?_
  intro a o e
  rcases Nat.lt_or_ge a s.heap.objs.size with h | h
  · rw [low a h] at e
    exact (I.hok a o e).stay (fun b u _ q => k b u q) (fun b q => ext _ _ q) fun b xs q => ext _ _ q
  · exact new a o h e

def layC : Hp → Addr → List (List V) → Hp
  | H, _, [] => H
  | H, b, c :: cs => layC (upd H b (.tup c)) (b + 1) cs
theorem layC_low : ∀ (cs : List (List V)) (H : Hp) (b a : Nat), a < b → layC H b cs a = H a
  | [], _, _, _, _ => rfl
  | c :: cs, H, b, a, h => by rw [layC, layC_low cs _ (b + 1) a (Nat.lt_succ_of_lt h), upd_ne (Nat.ne_of_lt h)]
theorem layC_new : ∀ (cs : List (List V)) (H : Hp) (b a : Nat) (o : HO), b ≤ a → (∀ x, b ≤ x → H x = none) → layC H b cs a = some o → ∃ i c, a = b + i ∧ cs[i]? = some c ∧ o = .tup c
  | [], H, b, a, o, h, hn, e => by rw [layC, hn a h] at e; cases e
  | c :: cs, H, b, a, o, h, hn, e => by
    by_cases hab : a = b
    · subst hab
      rw [layC, layC_low cs _ (a + 1) a (Nat.lt_succ_self _), upd_same] at e
      cases e; exact ⟨0, c, rfl, rfl, rfl⟩
    · skip
      rw [layC] at e
      obtain ⟨i, c', e1, e2, e3⟩ := layC_new cs _ (b + 1) a o (by omega) (fun x hx => by rw [upd_ne (show x ≠ b by omega)]; exact hn x (by omega)) e
      exact ⟨i + 1, c', by omega, by simpa using e2, e3⟩
def refsV (b n : Nat) : List V := (List.range n).map fun c => V.ref (b + c)

/-- *rows: lists or tuples -/
inductive RowsV (K : Fg) (H : Hp) : List V → List (List V) → Prop
  | nil : RowsV K H [] []
  | cons {p : Addr} {r : List V} {xs rows} : (SqL K H p r ∨ SqT K H p r) → RowsV K H xs rows → RowsV K H (.ref p :: xs) (r :: rows)
def colsV (rows : List (List V)) (n : Nat) : List (List V) := (List.range n).map fun c => rows.map fun r => (r[c]?).getD .non

/-- list(zip(..)) over lists and tuples of one length -/
def tZipL (K : Fg) (ta : TA) : TE := fun σ H Q => ta σ H fun xs H1 => ∃ (rows : List (List V)) (n : Nat), RowsV K H1 xs rows ∧ (∀ r ∈ rows, r.length = n) ∧ (rows = [] → n = 0) ∧ rows.length ≤ sizeLine ∧ n ≤ sizeLine ∧
  ∀ b p : Nat, p < b → H1 p = none → (∀ x, b ≤ x → H1 x = none) → Q (.ref p) (upd (layC H1 b (colsV rows n)) p (.lst (refsV b n)))


theorem vals_ix : ∀ {xs : List V} {us : List Value}, xs.length = us.length → (∀ (i : Nat) x, xs[i]? = some x → ∃ u, us[i]? = some u ∧ RelV x u) → Vals xs us
  | [], [], _, _ => .nil
  | x :: xs, u :: us, hl, h => by
    obtain ⟨u', e, r⟩ := h 0 x rfl
    cases e
    exact .cons r (vals_ix (Nat.succ.inj hl) fun i y e => h (i + 1) y e)
  | [], _ :: _, hl, _ => by cases hl
  | _ :: _, [], hl, _ => by cases hl

theorem rows_rw {X : Cx} {pins : List (Addr × Obj)} {σ : L2.St} {H : Hp} {s : Shared} (I : Inv X pins σ H s) : ∀ {xs : List V} {rows : List (List V)} {us : List Value}, RowsV X.K H xs rows → Vals xs us →
    ∃ rs : List PySem.Z.Rw, us = rs.map (fun r => Value.ref r.at_) ∧ rs.length = rows.length ∧ ∀ (j : Nat) (r : PySem.Z.Rw), rs[j]? = some r → PySem.Z.RowAt s.heap r ∧ ∃ row, rows[j]? = some row ∧ Vals row r.vals.toList
  | _, _, _, .nil, .nil => ⟨[], rfl, rfl, fun j r e => by simp at e⟩
  | _, _, _, .cons (p := p) (r := r) (xs := xs) (rows := rows) h t, .cons (b := u) (l₂ := us) rx rxs => by
    obtain ⟨rs, e1, e2, e3⟩ := rows_rw I t rxs
    obtain rfl : u = Value.ref p := rx
    obtain ⟨l, its, h1, h2⟩ : ∃ (l : Bool) (its : List Value), Vals r its ∧ PySem.Z.RowAt s.heap ⟨p, l, its.toArray⟩ := by
      rcases h with h | h
      · obtain ⟨its, r', pl, _⟩ := I.list h
        exact ⟨true, its, r', pl.isList⟩
      · obtain ⟨its, r', pl, _⟩ := I.tuple h
        exact ⟨false, its, r', pl⟩
    refine ⟨⟨p, l, its.toArray⟩ :: rs, by rw [e1]; rfl, by rw [List.length_cons, List.length_cons, e2], fun j r' e => ?_⟩
    cases j with
    | zero => cases e; exact ⟨h2, r, rfl, by simpa using h1⟩
    | succ j => exact e3 j r' e

theorem refs_vals {us : Array Value} {b n : Nat} (hs : us.size = n) (h : ∀ j, j < n → us[j]? = some (.ref (b + j))) : Vals (refsV b n) us.toList := by
  refine vals_ix (by simp [refsV, hs]) fun i x e => ?_
  have hi : i < n := by have := (List.getElem?_eq_some_iff.mp e).1; simpa [refsV] using this
  refine ⟨.ref (b + i), by rw [Array.getElem?_toList]; exact h i hi, ?_⟩
  simp [refsV, hi] at e
  subst e; rfl

theorem keep_type {T : String} {M : Model} {h : Heap} : ∃ k, (k = Keeper.frame ∨ k = Keeper.machine ∨ k = Keeper.boundFrame) ∧ PySem.W.Looks M h (keeperOf (.type T)) k := ⟨.machine, .inr (.inl rfl), .of_pure rfl⟩

section
variable {X : Cx} {pins : List (Addr × Obj)} {σ : L2.St} {H : Hp} {s : Shared}
theorem run_zip {xs : List V} {us : List Value} {Q : VK} (hc : X.calm = true) (I : Inv X pins σ H s) (rv : Vals xs us)
    (h : ∃ (rows : List (List V)) (n : Nat), RowsV X.K H xs rows ∧ (∀ r ∈ rows, r.length = n) ∧ (rows = [] → n = 0) ∧ rows.length ≤ sizeLine ∧ n ≤ sizeLine ∧
      ∀ b p : Nat, p < b → H p = none → (∀ x, b ≤ x → H x = none) → Q (.ref p) (upd (layC H b (colsV rows n)) p (.lst (refsV b n)))) :
    wpAny (model X.prog X.w) X.A (call (.type "zip") us) (fun z s₁ => wpAny (model X.prog X.w) X.A (call (.type "list") [z]) (EP X pins σ Q) X.xe s₁) X.xe s := by
  obtain ⟨rows, m, hR, hm, hz, hl1, hl2, q⟩ := h
  obtain ⟨rs, rfl, hlen, hrs⟩ := rows_rw I hR rv
  have hd := I.ok.hd hc
  refine PySem.Z.zz_call (by rw [hlen]; exact hl1) (fun j r e => (hrs j r e).1) fun h1 B => ?_
  have hv : ∀ (j : Nat) (r : PySem.Z.Rw), rs[j]? = some r → r.vals.size = m := fun j r e => by
    obtain ⟨_, row, e1, e2⟩ := hrs j r e
    have h1 : row.length = r.vals.toList.length := e2.length
    have h2 : r.vals.toList.length = r.vals.size := Array.length_toList
    rw [← h2, ← h1]; exact hm row (List.mem_of_getElem? e1)
  have hat : ∀ (j : Nat) (r : PySem.Z.Rw), rs[j]? = some r → r.at_ < s.heap.objs.size := fun j r e => by
    have := (hrs j r e).1
    obtain ⟨a, l, v⟩ := r
    cases l <;> (obtain ⟨o, ho, _⟩ := this; exact Heap.lt_size ho)
  refine PySem.Z.zx_call (s := { s with heap := h1 }) (b := s.heap.objs.size) hd rfl (by rw [hlen]; exact hl1) hl2 (fun e => hz (by rw [hlen] at e; exact List.eq_nil_of_length_eq_zero e)) hv (fun j r e => ⟨hat j r e, (hrs j r e).1.keep fun o e' => B.old _ o e'⟩) B fun h' tk C hk => ?_
  have kp : ∀ c o, s.heap.get? c = some o → h'.get? c = some o := fun c o e => hk c o (Heap.lt_size e) (B.old c o e)
  have fresh : ∀ x, s.heap.objs.size ≤ x → H x = none := fun x hx => I.hok.fresh hx
  have hq := q (s.heap.objs.size + rs.length + 4) (s.heap.objs.size + rs.length + 3) (by omega) (fresh _ (by omega)) (fun x hx => fresh x (by omega))
  refine ⟨.ref (s.heap.objs.size + rs.length + 3), _, inv_many (s := s) (t' := tk) I kp (fun a ha => ?_) (fun a o ha e => ?_), rfl, hq⟩
  · rw [upd_ne (show a ≠ s.heap.objs.size + rs.length + 3 by omega), layC_low _ _ _ _ (by omega)]
  · by_cases hp : a = s.heap.objs.size + rs.length + 3
    · subst hp
      rw [upd_same] at e; cases e
      obtain ⟨acc, c, h2, h3, h4⟩ := C.lst
      exact ⟨by simp [refsV]; exact hl2, acc.toList, c, refs_vals h3 h4, by rw [Array.toArray_toList]; exact h2⟩
    · rw [upd_ne hp] at e
      have hlo : s.heap.objs.size + rs.length + 4 ≤ a := by
        rcases Nat.lt_or_ge a (s.heap.objs.size + rs.length + 4) with h | h
        · rw [layC_low _ _ _ _ h, fresh a ha] at e; cases e
        · exact h
      obtain ⟨i, col, rfl, hi, rfl⟩ := layC_new _ _ _ _ _ hlo (fun x hx => fresh x (by omega)) e
      have him : i < m := by have := (List.getElem?_eq_some_iff.mp hi).1; simpa [colsV] using this
      obtain ⟨cl, h2, h3, h4⟩ := C.col i him
      have hcol : col = rows.map fun r => (r[i]?).getD .non := by
        have : (colsV rows m)[i]? = some (rows.map fun r => (r[i]?).getD .non) := by simp [colsV, him]
        rw [this] at hi; cases hi; rfl
      subst hcol
      refine ⟨by rw [List.length_map]; exact hl1, cl.toList, vals_ix (by rw [List.length_map]; exact hlen.symm.trans (h3.symm.trans Array.length_toList.symm)) fun j x e => ?_, ⟨_, h2, rfl, _, by rw [Array.toArray_toList]⟩⟩
      have hj : j < rs.length := by have := (List.getElem?_eq_some_iff.mp e).1; simp at this; omega
      obtain ⟨_, row, e1, e2⟩ := hrs j rs[j] (List.getElem?_eq_getElem hj)
      have hrow : row.length = m := hm row (List.mem_of_getElem? e1)
      obtain ⟨y, hy⟩ : ∃ y, row[i]? = some y := ⟨row[i]'(by omega), List.getElem?_eq_getElem (by omega)⟩
      obtain ⟨u, hu, ru⟩ := e2.get hy
      rw [List.getElem?_map, e1] at e
      simp [hy] at e
      subst e
      refine ⟨u, ?_, ru⟩
      rw [Array.getElem?_toList, h4 j rs[j] (List.getElem?_eq_getElem hj)]
      rw [Array.getElem?_toList] at hu
      exact hu

theorem evalArgs_many {M : Model} {A : Around} {E : Value → Shared → Prop} {s : Shared} {f : Value} {x y : Bool × Sem Value} {rest : List (Bool × Sem Value)} {Q : Args → Shared → Prop}
    (h : wpAny M A (spliced (x :: y :: rest)) (fun vs s' => Q ⟨vs, []⟩ s') E s) : wpAny M A (evalArgs f true (x :: y :: rest) []) Q E s := by
  unfold evalArgs
  obtain ⟨b, x⟩ := x
  cases b <;>
  · show wpAny M A (spliced _ >>= _) Q E s
    refine wpAny_bind (wpAny_mono h (fun vs s' h' => ?_) fun _ _ x => x)
    refine wpAny_holding ?_
    exact wpAny_pure h'

theorem p_zipS {e : Expr} {te : TE} {l z : Str} {p1 p2 p3 pos1 pos2 : Pos} (hc : X.calm = true) (hg1 : Gl X l) (hm1 : X.mg l = none) (hv1 : bootBuiltins l = some (.type "list")) (hg2 : Gl X z) (hm2 : X.mg z = none) (hv2 : bootBuiltins z = some (.type "zip"))
    (he : PE X e te) (hn1 : l ≠ "__name__" := by decide) (hdb1 : (l == ("__debug__" : Str)) = false := by decide) (hn2 : z ≠ "__name__" := by decide) (hdb2 : (z == ("__debug__" : Str)) = false := by decide)
    (hst : starEach [.Starred e p3] X.env = [(true, eval e X.env)] := by rfl) :
    PE X (.Call (.Name l p1) [.Call (.Name z p2) [.Starred e p3] [] pos2] [] pos1) (tZipL X.K (tStar X.K te tNil)) := by
  refine ⟨fun pins s σ H Q I h => ?_⟩
  refine wpAny_Call_Name_kw (ld_blt I hg1 hm1 hv1 ?_ hn1 hdb1)
  refine PyProof.Rows.callWith_type1 ?_
  refine Calls.spliced_cons (thn (Q := fun v s₁ => wpAny (model X.prog X.w) X.A (call (.type "list") [v]) (EP X pins σ Q) X.xe s₁) ?_ fun v s1 h1 => Calls.spliced_nil h1)
  refine wpAny_Call_Name_kw (ld_blt I hg2 hm2 hv2 ?_ hn2 hdb2)
  rw [hst]
  refine PySem.W.ks_call (P := fun _ => True) rfl (fun _ _ => keep_type) (PySem.W.ks_lone ?_)
  refine thn (he.run pins s σ H _ I h) fun v s1 ⟨y, H1, I1, ry, a, xs, ey, hx, q⟩ => ?_
  subst ey
  obtain rfl : v = Value.ref a := ry
  refine star_any I1 (hx.elim .inl .inr) fun us s2 I2 rv => ⟨trivial, ?_⟩
  refine run_zip hc I2 rv ?_
  simpa [tNil] using q
theorem p_zipS1 {e e2 : Expr} {es : List Expr} {ta : TA} {l z : Str} {p1 p2 p3 pos1 pos2 : Pos} (hc : X.calm = true) (hg1 : Gl X l) (hm1 : X.mg l = none) (hv1 : bootBuiltins l = some (.type "list")) (hg2 : Gl X z) (hm2 : X.mg z = none) (hv2 : bootBuiltins z = some (.type "zip"))
    (he : PA X (.Starred e p3 :: e2 :: es) ta) (hn1 : l ≠ "__name__" := by decide) (hdb1 : (l == ("__debug__" : Str)) = false := by decide) (hn2 : z ≠ "__name__" := by decide) (hdb2 : (z == ("__debug__" : Str)) = false := by decide)
    (hst : ∃ x y r, backTo pos2 (starEach (.Starred e p3 :: e2 :: es) X.env) = (true, x) :: y :: r := by exact ⟨_, _, _, rfl⟩) :
    PE X (.Call (.Name l p1) [.Call (.Name z p2) (.Starred e p3 :: e2 :: es) [] pos2] [] pos1) (tZipL X.K ta) := by
  refine ⟨fun pins s σ H Q I h => ?_⟩
  refine wpAny_Call_Name_kw (ld_blt I hg1 hm1 hv1 ?_ hn1 hdb1)
  refine PyProof.Rows.callWith_type1 ?_
  refine Calls.spliced_cons (thn (Q := fun v s₁ => wpAny (model X.prog X.w) X.A (call (.type "list") [v]) (EP X pins σ Q) X.xe s₁) ?_ fun v s1 h1 => Calls.spliced_nil h1)
  refine wpAny_Call_Name_kw (ld_blt I hg2 hm2 hv2 ?_ hn2 hdb2)
  have hr := he.run pos2 pins s σ H _ I h
  obtain ⟨x, y, r, hst⟩ := hst
  rw [hst] at hr ⊢
  refine PySem.W.ks_call (P := fun _ => True) rfl (fun _ _ => keep_type) (evalArgs_many ?_)
  refine thn hr fun us s2 ⟨vs, H2, I2, rv, q⟩ => ⟨trivial, ?_⟩
  exact run_zip hc I2 rv q
end

/-! ### on data -/
inductive Sqs (M : Mem) : List D → List (List D) → Prop
  | nil : Sqs M [] []
  | cons {d : D} {r : List D} {ds rows} : Sq M d r → Sqs M ds rows → Sqs M (d :: ds) (r :: rows)
theorem Sqs.tups {M : Mem} : ∀ (rows : List (List D)), Sqs M (rows.map D.tup) rows
  | [] => .nil
  | _ :: rows => .cons .tup (Sqs.tups rows)
theorem Sqs.append {M : Mem} {ds es : List D} {rows rows' : List (List D)} (h : Sqs M ds rows) (h' : Sqs M es rows') : Sqs M (ds ++ es) (rows ++ rows') := by
  induction h with
  | nil => exact h'
  | cons a _ ih => exact .cons a ih
def colsD (rows : List (List D)) (n : Nat) : List (List D) := (List.range n).map fun c => rows.map fun r => (r[c]?).getD .non

variable {c : Cz} {Γ : Gm} {M : Mem}
theorem za_star {te : TE} {t : TA} {k : List D → Mem → Prop} (h : ZE c te Γ M fun d M1 => ∃ ds, Sq M1 d ds ∧ ZA c t Γ M1 fun es M2 => k (ds ++ es) M2) : ZA c (tStar c.K te t) Γ M k := fun R F σ H Q hs L X q =>
  h R F σ H _ hs L X fun v F1 H1 M1 d e1 L1 r1 ⟨ds, s, h1⟩ => by
    obtain ⟨a, vs, rfl, p, rr⟩ := s.read L1 r1
    exact ⟨a, vs, rfl, p.elim .inr .inl, h1 R F1 σ H1 _ (hs.mono e1) L1 (X.mono e1) fun ws F2 H2 M2 es e2 L2 r2 kk => q _ F2 H2 M2 _ (e1.trans e2) L2 ((rr.mono e2).append r2) kk⟩

theorem Sqs.read {K : Fg} {F H : Hp} {R : Mem} {ds : List D} {rows : List (List D)} (s : Sqs M ds rows) (L : Lay K F (M ++ R) H) : ∀ {vs : List V}, Rps K F vs ds → ∃ rv : List (List V), RowsV K H vs rv ∧ rv.length = rows.length ∧ ∀ (i : Nat) (r : List D), rows[i]? = some r → ∃ rv', rv[i]? = some rv' ∧ Rps K F rv' r := by
  induction s with
  | nil => intro vs r; rw [r.unnil]; exact ⟨[], .nil, rfl, fun i r e => by simp at e⟩
  | cons a _ ih =>
    intro vs r
    obtain ⟨v, vs', rfl, rv, rvs⟩ := r.uncons
    obtain ⟨l, h1, h2, h3⟩ := ih rvs
    obtain ⟨p, ws, rfl, hp, rr⟩ := a.read L rv
    refine ⟨ws :: l, .cons hp h1, by rw [List.length_cons, List.length_cons, h2], fun i r e => ?_⟩
    cases i with
    | zero => cases e; exact ⟨ws, rfl, rr⟩
    | succ i => exact h3 i r e

theorem lay_cols {K : Fg} : ∀ (cs : List (List V)) (dcs : List (List D)) (F H : Hp) (M : Mem) (b : Nat), cs.length = dcs.length → Lay K F M H → (∀ x, b ≤ x → H x = none) →
    (∀ (i : Nat) (x : List V) (y : List D), cs[i]? = some x → dcs[i]? = some y → Rps K F x y) →
    ∃ F', Ex F F' ∧ Lay K F' M (layC H b cs) ∧ ∀ (i : Nat) (y : List D), dcs[i]? = some y → Rp K F' (.ref (b + i)) (.tup y)
  | [], [], F, H, M, b, _, L, _, _ => ⟨F, Ex.refl F, L, fun i y e => by simp at e⟩
  | x :: cs, y :: dcs, F, H, M, b, hl, L, hn, hr => by
    have hb := hn b (Nat.le_refl b)
    have L1 : Lay K (upd F b (.tup x)) M (upd H b (.tup x)) := L.new hb
    have E1 : Ex F (upd F b (.tup x)) := ex_upd (L.free hb)
    obtain ⟨F', e, L', h'⟩ := lay_cols cs dcs _ _ M (b + 1) (Nat.succ.inj hl) L1 (fun z hz => by rw [upd_ne (show z ≠ b by omega)]; exact hn z (by omega)) (fun i a d h1 h2 => (hr (i + 1) a d h1 h2).mono E1)
    refine ⟨F', E1.trans e, L', fun i d hd => ?_⟩
    cases i with
    | zero =>
      obtain rfl : y = d := by simpa using hd
      exact (Rp.mk_tup (SqT.of upd_same) ((hr 0 x y rfl rfl).mono E1) : Rp K _ (.ref b) (.tup y)).mono e
    | succ i =>
      have := h' i d hd
      rw [show b + (i + 1) = b + 1 + i by omega]; exact this
  | [], _ :: _, _, _, _, _, hl, _, _, _ => by cases hl
  | _ :: _, [], _, _, _, _, hl, _, _, _ => by cases hl

theorem z_zipL {ta : TA} {k : D → Mem → Prop} (h : ZA c ta Γ M fun ds M1 => ∃ rows n, Sqs M1 ds rows ∧ (∀ r ∈ rows, r.length = n) ∧ (rows = [] → n = 0) ∧ rows.length ≤ sizeLine ∧ n ≤ sizeLine ∧ k (.lst ((colsD rows n).map D.tup)) M1) :
    ZE c (tZipL c.K ta) Γ M k := fun R F σ H Q hs L X q =>
  h R F σ H _ hs L X fun vs F1 H1 M1 ds e1 L1 r1 ⟨rows, n, hS, hn, hz, hl1, hl2, kk⟩ => by
    obtain ⟨rv, h1, h2, h3⟩ := hS.read L1 r1
    have hlen : ∀ r ∈ rv, r.length = n := fun r hr => by
      obtain ⟨i, hi⟩ := List.mem_iff_getElem?.mp hr
      obtain ⟨r', hr'⟩ : ∃ r', rows[i]? = some r' := by
        have := (List.getElem?_eq_some_iff.mp hi).1
        exact ⟨rows[i]'(by omega), List.getElem?_eq_getElem (by omega)⟩
      obtain ⟨y, e, rr⟩ := h3 i r' hr'
      rw [hi] at e; cases e
      rw [rr.len]; exact hn r' (List.mem_of_getElem? hr')
    refine ⟨rv, n, h1, hlen, fun e => hz (by subst e; exact List.eq_nil_of_length_eq_zero h2.symm), by rw [h2]; exact hl1, hl2, fun b p hpb hp hfr => ?_⟩
    obtain ⟨F2, e2, L2, h4⟩ := lay_cols (K := c.K) (colsV rv n) (colsD rows n) F1 H1 (M1 ++ R) b (by simp [colsV, colsD]) L1 hfr (fun i x y hx hy => by
      have hi : i < n := by have := (List.getElem?_eq_some_iff.mp hx).1; simpa [colsV] using this
      have ex : (colsV rv n)[i]? = some (rv.map fun r => (r[i]?).getD .non) := by simp [colsV, hi]
      have ey : (colsD rows n)[i]? = some (rows.map fun r => (r[i]?).getD .non) := by simp [colsD, hi]
      rw [ex] at hx; cases hx
      rw [ey] at hy; cases hy
      refine ⟨by rw [List.length_map, List.length_map, h2], fun j v d hv hd => ?_⟩
      rw [List.getElem?_map] at hv hd
      obtain ⟨r, hr, rfl⟩ := Option.map_eq_some_iff.mp hd
      obtain ⟨r', hr', rr⟩ := h3 j r hr
      rw [hr'] at hv
      cases hv
      have hri : i < r.length := by rw [hn r (List.mem_of_getElem? hr)]; exact hi
      have hri' : i < r'.length := by rw [rr.len]; exact hri
      show Rp c.K F1 ((r'[i]?).getD .non) ((r[i]?).getD .non)
      rw [List.getElem?_eq_getElem hri, List.getElem?_eq_getElem hri']
      exact rr.at_ i _ _ (List.getElem?_eq_getElem hri') (List.getElem?_eq_getElem hri))
    have hp' : layC H1 b (colsV rv n) p = none := by rw [layC_low _ _ _ _ hpb]; exact hp
    refine q (.ref p) _ _ M1 _ ((e1.trans e2).trans (ex_upd (L2.free hp'))) (L2.new hp') (.mk_lst upd_same ((?_ : Rps c.K F2 (refsV b n) ((colsD rows n).map D.tup)).mono (ex_upd (L2.free hp')))) kk
    refine ⟨by simp [refsV, colsD], fun i v d hv hd => ?_⟩
    have hi : i < n := by have := (List.getElem?_eq_some_iff.mp hv).1; simpa [refsV] using this
    rw [List.getElem?_map] at hd
    obtain ⟨y, hy, rfl⟩ := Option.map_eq_some_iff.mp hd
    have ev : (refsV b n)[i]? = some (.ref (b + i)) := by simp [refsV, hi]
    rw [ev] at hv; cases hv
    exact h4 i y hy
end Z
set_option Elab.async false
set_option linter.all false
set_option maxRecDepth 100000
set_option maxHeartbeats 4000000
/-! ZLin: further rules: lcm, a chain of two comparisons, x, y = a, b. -/
namespace Z
open PySem PySem.Spec PyProof.Rows L2
theorem boot_zip : bootBuiltins "zip" = some (.type "zip") := by decide +kernel
theorem boot_set : bootBuiltins "set" = some (.type "set") := by decide +kernel
section
variable {X : Cx}
def rLcmZ : List V → Hp → VK → Prop := fun vs H Q => ∃ a b : Int, vs = [.int a, .int b] ∧ a.natAbs.log2 < 13400 ∧ b.natAbs.log2 < 13400 ∧ (Nat.lcm a.natAbs b.natAbs).log2 < bitsLine ∧ Q (.int ((Nat.lcm a.natAbs b.natAbs : Nat) : Int)) H
theorem log2_max {a b n : Nat} (ha : a.log2 < n) (hb : b.log2 < n) : (max a b).log2 < n := by
  rcases Nat.le_total a b with h | h
  · rw [Nat.max_eq_right h]; exact hb
  · rw [Nat.max_eq_left h]; exact ha
theorem cz_lcm : CallR X (.builtin "math.lcm") rLcmZ := by
  intro pins s σ H vs us Q I r h
  obtain ⟨a, b, rfl, ha, hb, hl, q⟩ := h
  obtain ⟨t, u, rfl⟩ := Vals.int2 r
  have e : (Nat.lcm 1 a.natAbs).lcm b.natAbs = Nat.lcm a.natAbs b.natAbs := by rw [Nat.lcm_comm 1, Nat.lcm_one_right]
  have h1 : (max 1 a.natAbs).log2 < 13400 := log2_max (by decide) ha
  have h2 : (max a.natAbs b.natAbs).log2 < 13400 := log2_max ha hb
  refine call_function_meets PySem.W.MGF.kind_lcm PySem.W.MGF.plain_lcm PySem.W.MGF.entry_lcm (PySem.W.MGF.args_lcm _ _) (PySem.W.mg_run_lcm a t b u (by omega) (by omega) (by rw [e]; exact hl)).meets ?_
  rw [e]
  exact ⟨.int _, H, I.tok _, ⟨_, rfl⟩, q⟩
end
variable {c : Cz} {Γ : Gm} {M : Mem} {k : D → Mem → Prop} {ta tb tc : TE} {DD : ZEnds}
theorem zc_lcm {i j : Int} (h1 : i.natAbs.log2 < 13400) (h2 : j.natAbs.log2 < 13400) (h3 : (Nat.lcm i.natAbs j.natAbs).log2 < bitsLine) (h : k (.int ((Nat.lcm i.natAbs j.natAbs : Nat) : Int)) M) : ZC c rLcmZ [.int i, .int j] M k := fun R F H vs Q L r q => by
  obtain ⟨v, w, rfl, r1, r2⟩ := r.two
  rw [r1.of_int, r2.of_int]
  exact ⟨i, j, rfl, h1, h2, h3, q _ F H M _ (Ex.refl F) L (.int _) h⟩
theorem z_chain {r r' : R2} (h : ZE c ta Γ M fun x M1 => ZE c tb Γ M1 fun y M2 => ZR c r x y M2 fun z M3 => ∃ b, z = .bl b ∧ (b = true → ZE c tc Γ M3 fun u M4 => ZR c r' y u M4 k) ∧ (b = false → k (.bl false) M3)) : ZE c (tChain r r' ta tb tc) Γ M k := fun R F σ H Q hs L X q =>
  h R F σ H _ hs L X fun v F1 H1 M1 x e1 L1 r1 h1 => h1 R F1 σ H1 _ (hs.mono e1) L1 (X.mono e1) fun w F2 H2 M2 y e2 L2 r2 h2 => h2 R F2 H2 v w _ L2 (r1.mono e2) r2 fun z F3 H3 M3 d e3 L3 r3 ⟨b, hb, h3, h4⟩ => by
    subst hb
    refine ⟨b, r3.of_bl, ?_⟩
    have E := (e1.trans e2).trans e3
    cases b with
    | true => exact h3 rfl R F3 σ H3 _ (hs.mono E) L3 (X.mono E) fun u F4 H4 M4 du e4 L4 r4 h5 => h5 R F4 H4 w u Q L4 ((r2.mono e3).mono e4) r4 (q.mono (E.trans e4))
    | false => exact q (.bl false) F3 H3 M3 (.bl false) E L3 (.bl false) (h4 rfl)
theorem zs_par {i j : Nat} {ta : TA} (h : ZA c ta Γ M fun ds M1 => ∃ x y, ds = [x, y] ∧ DD.nx ((Γ.set i (some x)).set j (some y)) M1) : ZS c (tPar i j ta) Γ M DD := fun R F σ H D hs L X q =>
  h R F σ H _ hs L X fun vs F1 H1 M1 ds e1 L1 r1 ⟨x, y, e, h1⟩ => by
    subst e
    obtain ⟨v, w, rfl, r1, r2⟩ := r1.two
    exact ⟨v, w, rfl, q.nx _ F1 H1 M1 _ e1 L1 (((hs.mono e1).set i r1).set j r2) h1⟩
end Z
namespace Z
open PySem PySem.Spec PyProof.Rows L2
theorem boot_len : bootBuiltins "len" = some (.builtin "len") := by decide +kernel
end Z
namespace Z
open PySem PySem.Spec PyProof.Rows L2
variable {c : Cz} {Γ : Gm} {M : Mem} {k : D → Mem → Prop} {ta : TE}
/-- a value handed on: a changing list of Mem changes no more, any other value as it is -/
theorem z_fz2 (h : ZE c ta Γ M fun d M1 => (∃ a i ds, d = .at a ∧ M1[i]? = some (a, .lst ds) ∧ k (.lst ds) (M1.eraseIdx i)) ∨ k d M1) : ZE c (fz ta) Γ M k := fun R F σ H Q hs L X q =>
  h R F σ H Q hs L X fun v F1 H1 M1 d e1 L1 r1 h1 => by
    rcases h1 with ⟨a, i, ds, rfl, hi, hk⟩ | hk
    · have hl : i < M1.length := (List.getElem?_eq_some_iff.mp hi).1
      have hi' : (M1 ++ R)[i]? = some (a, .lst ds) := by rw [List.getElem?_append_left hl]; exact hi
      obtain ⟨vs, hv, rv⟩ := L1.at_ hi'
      obtain ⟨L2, e2⟩ := L1.frz hi' hv
      rw [List.eraseIdx_append_of_lt_length hl] at L2
      rw [r1.of_at]
      exact q (.ref a) _ H1 _ (.lst ds) (e1.trans e2) L2 (.mk_lst upd_same (rv.mono e2)) hk
    · exact q v F1 H1 M1 d e1 L1 r1 hk
end Z
set_option Elab.async false
set_option linter.all false
set_option maxRecDepth 100000
set_option maxHeartbeats 4000000
/-! ZDeep: == and != of data at any depth. -/
namespace Z
open PySem PySem.Spec PyProof.Rows L2
mutual
inductive Pd (M : Mem) : D → PyData → Prop
  | non : Pd M .non .none
  | bl (b : Bool) : Pd M (.bl b) (.bool b)
  | int (i : Int) : Pd M (.int i) (.int i)
  | str (x : Str) : Pd M (.str x) (.str x)
  | tup {ds : List D} {es : List PyData} : PdAll M ds es → Pd M (.tup ds) (.tuple es)
  | lst {ds : List D} {es : List PyData} : PdAll M ds es → Pd M (.lst ds) (.list es)
  | scr {ds : List D} {es : List PyData} : PdAll M ds es → Pd M (.scr ds) (.list es)
  | «at» {a : Addr} {i : Nat} {ds : List D} {es : List PyData} : M[i]? = some (a, .lst ds) → PdAll M ds es → Pd M (.at a) (.list es)
inductive PdAll (M : Mem) : List D → List PyData → Prop
  | nil : PdAll M [] []
  | cons {d : D} {ds : List D} {e : PyData} {es : List PyData} : Pd M d e → PdAll M ds es → PdAll M (d :: ds) (e :: es)
end
section
variable {K : Fg} {F H : Hp} {M R : Mem}
mutual
theorem Pd.dp (L : Lay K F (M ++ R) H) : ∀ (e : PyData) (d : D) (v : V), Pd M d e → Rp K F v d → L2.Dp K H v e
  | .none, _, _, h, r => by cases h; rw [r.of_non]; exact .non
  | .bool b, _, _, h, r => by cases h; rw [r.of_bl]; exact .bl _
  | .int i, _, _, h, r => by cases h; rw [r.of_int]; exact .int _
  | .str x, _, _, h, r => by cases h; rw [r.of_str]; exact .str _
  | .tuple es, _, _, h, r => by
    cases h with
    | tup h =>
      obtain ⟨a, vs, rfl, q, rr⟩ := r.of_tup
      exact .tup (ex_t L.fr q) (Pd.dpAll L es _ _ h rr)
  | .list es, _, _, h, r => by
    cases h with
    | lst h =>
      obtain ⟨a, vs, rfl, q, rr⟩ := r.of_lst
      exact .lst (.inl (.inl (L.fr _ _ q))) (Pd.dpAll L es _ _ h rr)
    | scr h =>
      obtain ⟨a, vs, rfl, q, rr⟩ := r.of_scr
      exact .lst (ex_l L.fr q) (Pd.dpAll L es _ _ h rr)
    | «at» hi h =>
      rw [r.of_at]
      have hl := (List.getElem?_eq_some_iff.mp hi).1
      obtain ⟨vs, q, rr⟩ := L.at_ (by rw [List.getElem?_append_left hl]; exact hi)
      exact .lst (.inl (.inl q)) (Pd.dpAll L es _ _ h rr)
  | .dict es, _, _, h, r => by cases h
theorem Pd.dpAll (L : Lay K F (M ++ R) H) : ∀ (es : List PyData) (ds : List D) (vs : List V), PdAll M ds es → Rps K F vs ds → L2.DpAll K H vs es
  | [], _, _, h, r => by cases h; rw [r.unnil]; exact .nil
  | e :: es, _, _, h, r => by
    cases h with
    | cons h1 h2 =>
      obtain ⟨v, vs', rfl, r1, r2⟩ := r.uncons
      exact .cons (Pd.dp L e _ _ h1 r1) (Pd.dpAll L es _ _ h2 r2)
end
end
variable {c : Cz} {M : Mem} {k : D → Mem → Prop} {x y : D} {d e : PyData}
theorem zr_eqD (h1 : Pd M x d) (h2 : Pd M y e) (s1 : SeqAt.shaped d = true) (s2 : SeqAt.shaped e = true) (h : k (.bl (PyData.eqv d e)) M) : ZR c (rEqZ c.K) x y M k := fun R F H v w Q L r1 r2 q =>
  .inr ⟨d, e, Pd.dp L d x v h1 r1, Pd.dp L e y w h2 r2, s1, s2, q _ F H M _ (Ex.refl F) L (.bl _) h⟩
theorem zr_neD (h1 : Pd M x d) (h2 : Pd M y e) (s1 : SeqAt.shaped d = true) (s2 : SeqAt.shaped e = true) (h : k (.bl (!PyData.eqv d e)) M) : ZR c (rNeZ c.K) x y M k := fun R F H v w Q L r1 r2 q =>
  .inr ⟨d, e, Pd.dp L d x v h1 r1, Pd.dp L e y w h2 r2, s1, s2, q _ F H M _ (Ex.refl F) L (.bl _) h⟩
/-- rows of ints as data -/
theorem PdAll.ints {M : Mem} : ∀ (r : List Int), PdAll M (r.map D.int) (r.map PyData.int)
  | [] => .nil
  | x :: r => .cons (.int x) (PdAll.ints r)
theorem PdAll.map {α : Type} {M : Mem} {f : α → D} {g : α → PyData} (h : ∀ x, Pd M (f x) (g x)) : ∀ (r : List α), PdAll M (r.map f) (r.map g)
  | [] => .nil
  | x :: r => .cons (h x) (PdAll.map h r)
theorem canLay_map {α : Type} {g : α → PyData} (h : ∀ x, (g x).canLay0 = true) : ∀ r : List α, PyData.canLayAll0 (r.map g) = true
  | [] => rfl
  | x :: r => by rw [List.map_cons]; show (_ && _) = true; rw [h x, canLay_map h r]; rfl
theorem depth_map {α : Type} {g : α → PyData} {n : Nat} (h : ∀ x, (g x).depth ≤ n) : ∀ r : List α, PyData.depthAll (r.map g) ≤ n
  | [] => Nat.zero_le _
  | x :: r => by rw [List.map_cons]; exact Nat.max_le.mpr ⟨h x, depth_map h r⟩
end Z
set_option Elab.async false
set_option linter.all false
set_option maxRecDepth 100000
set_option maxHeartbeats 4000000
/-! ZSort: sorted() of ints, and of (int, thing) pairs whose ints are all unlike. -/
namespace Z
open PySem PySem.Spec PyProof.Rows L2 SrtO
section
variable {prog : Program} {w : World} {A : Around} {E : Value → Shared → Prop} {s : Shared}
/-- a tuple of an int and a reference -/
def IsIR (h : Heap) (v : Value) (x : Int) (r : Addr) : Prop := ∃ a o t n, v = .ref a ∧ h.get? a = some o ∧ o.cls = .type "tuple" ∧ o.data = .seq #[.int x t, .ref r] n
theorem IsIR.keeps {h h' : Heap} {v : Value} {x : Int} {r : Addr} (p : IsIR h v x r) (k : ∀ b o, h.get? b = some o → o.cls = .type "tuple" → h'.get? b = some o) : IsIR h' v x r := by
  obtain ⟨a, o, t, n, e, ho, hc, hd⟩ := p
  exact ⟨a, o, t, n, e, k _ _ ho hc, hc, hd⟩
theorem ir_cmp {vs : List Value} {k : Value → Int} {rf : Value → Addr} (hp : ∀ v ∈ vs, IsIR s.heap v (k v) (rf v)) (hk : ∀ v ∈ vs, ∀ u ∈ vs, k v = k u → rf v = rf u) : Cmp prog w A s (tuples' true) (fun p => p.1 ∈ vs) (lt2 fun v u => decide (k v < k u)) := by
  intro p q hm hm'
  have h1 := hp _ hm
  have h2 := hp _ hm'
  have h3 := hk _ hm _ hm'
  show wpAny (model prog w) A (keyLt' (tuples' true) p.1 q.1) (fun r s' => s' = s ∧ r = decide (k p.1 < k q.1)) (fun _ _ => False) s
  generalize k p.1 = x at h1 h3 ⊢
  generalize rf p.1 = y at h1 h3 ⊢
  generalize k q.1 = x' at h2 h3 ⊢
  generalize rf q.1 = y' at h2 h3 ⊢
  obtain ⟨a, o, t, n, e, ho, hc, hd⟩ := h1
  obtain ⟨a', o', t', n', e', ho', hc', hd'⟩ := h2
  rw [e, e']
  refine PySem.W.kat_lt ho hd ho' hd' ?_
  show PySem.W.KatLex prog w A true (decide (2 < 2)) _ [(.int x t, .int x' t'), (.ref y, .ref y')] 0 s
  refine PySem.W.kat_cons (SeqAt.EqAt.int_int x t x' t' prog w _ _ ?_)
  refine PySem.W.kat_go (fun e1 => ?_) (fun e1 => ?_)
  · have ex : x = x' := by simpa using e1
    have ey : y = y' := h3 ex
    subst ex ey
    refine PySem.W.kat_yes (PySem.W.kat_cons (SeqAt.EqAt.same _ prog w _ _ ?_))
    refine PySem.W.kat_go (fun e2 => ?_) (fun e2 => absurd e2 (by decide))
    exact PySem.W.kat_yes (PySem.W.kat_nil ⟨rfl, (decide_eq_false (Int.lt_irrefl _)).symm⟩)
  · exact PySem.W.kat_no (oneLt_int ⟨rfl, rfl⟩)
theorem ir_firsts {h : Heap} : ∀ {vs : List Value}, (∀ v ∈ vs, ∃ x r, IsIR h v x r) → ∃ fs : List Value, PySem.W.KatTups h vs fs ∧ fs.length = vs.length ∧ ∀ f ∈ fs, ∃ x t, f = Value.int x t
  | [], _ => ⟨[], PySem.W.KatTups.nil, rfl, fun _ hm => by simp at hm⟩
  | v :: vs, hp => by
    obtain ⟨fs, h1, h2, h3⟩ := ir_firsts (vs := vs) fun v' hm => hp v' (List.mem_cons_of_mem _ hm)
    obtain ⟨x, r, a, o, t, n, e, ho, hc, hd⟩ := hp v (List.mem_cons_self ..)
    subst e
    refine ⟨.int x t :: fs, PySem.W.KatTups.cons ho hc hd rfl h1, by rw [List.length_cons, List.length_cons, h2], fun f hm => ?_⟩
    rcases List.mem_cons.mp hm with rfl | hm
    · exact ⟨x, t, rfl⟩
    · exact h3 f hm
theorem ir_sortable {a : Addr} {vs : List Value} {k : Value → Int} {rf : Value → Addr} (h0 : 0 < vs.length) (hp : ∀ v ∈ vs, IsIR s.heap v (k v) (rf v)) (hk : ∀ v ∈ vs, ∀ u ∈ vs, k v = k u → rf v = rf u) (ha : ∀ o, s.heap.get? a = some o → o.cls ≠ .type "tuple") : SortableO prog w A s a vs fun v u => decide (k v < k u) := by
  intro h' keep
  have hp' : ∀ v ∈ vs, IsIR h' v (k v) (rf v) := fun v hm => (hp v hm).keeps fun b o e c => keep b o (fun z => by subst z; exact ha o e c) e
  obtain ⟨fs, h1, h2, h3⟩ := ir_firsts fun v hm => ⟨_, _, hp' v hm⟩
  refine ⟨tuples' true, fun Q E hq => ?_, ir_cmp hp' hk⟩
  refine PySem.W.kat_kind (T := .type "int") h1 (by omega) (fun f hm => ?_) (by rfl) ?_
  · obtain ⟨x, t, rfl⟩ := h3 f hm
    exact PySem.W.Looks.now
  · have e : (Value.type "int" != Value.type "tuple") = true := by first | decide +kernel | rfl | decide
    rw [e]
    exact hq
theorem swo_key (k : Value → Int) : Swo fun v u => decide (k v < k u) := by
  refine ⟨fun x y h => ?_, fun x y z h1 h2 => ?_⟩
  · have := of_decide_eq_true h
    exact decide_eq_false (by omega)
  · have a := of_decide_eq_false h1
    have b := of_decide_eq_false h2
    exact decide_eq_false (by omega)
theorem sorted_ir {l : Addr} {vs : List Value} {k : Value → Int} {rf : Value → Addr} {Q : Value → Shared → Prop} (hl : s.heap.IsList l vs.toArray) (hz : vs.length ≤ sizeLine) (hp : ∀ v ∈ vs, IsIR s.heap v (k v) (rf v)) (hk : ∀ v ∈ vs, ∀ u ∈ vs, k v = k u → rf v = rf u)
    (h : ∀ (h' : Heap) (d : Addr) (out : List Value), Srtd (fun v u => decide (k v < k u)) out → out.Perm vs → (∀ b o, s.heap.get? b = some o → h'.get? b = some o) → s.heap.objs.size ≤ d → (∃ n, h'.get? d = some (seqObj "list" out.toArray n)) → Q (.ref d) { s with heap := h' }) :
    wpAny (model prog w) A (call (.builtin "sorted") [.ref l]) Q E s := by
  refine sorted_ord (swo_key k) hl hz (fun h2 h₁ a ha kk => ?_) fun out hs hb => ?_
  · refine ir_sortable (s := { s with heap := h₁ }) (by omega) (fun v hm => (hp v hm).keeps fun b o e _ => (kk b o e).2) hk fun o e => ?_
    have e' : some o = some (seqObj "list" vs.toArray 0) := e.symm.trans ha
    cases e'
    intro c
    exact absurd (Value.type.inj c) (by decide)
  · exact h _ _ out hs hb.perm (fun b o e => sortedAll_old e) (Nat.le_succ _) (sortedAll_at s.heap vs out.toArray)
end

/-! ### over the layer, on data -/
abbrev IR := Addr × Int × Addr
def irV (p : IR) : V := .ref p.1
def rSortF (K : Fg) : List V → Hp → VK → Prop := fun vs H Q => ∃ (a : Addr) (ps : List IR), vs = [.ref a] ∧ SqL K H a (ps.map irV) ∧ (∀ p ∈ ps, SqT K H p.1 [.int p.2.1, .ref p.2.2]) ∧ (ps.map (·.2.1)).Nodup ∧
  ∀ (ps' : List IR) (p : Addr), ps'.Perm ps → ps'.Pairwise (fun x y => x.2.1 ≤ y.2.1) → H p = none → Q (.ref p) (upd H p (.lst (ps'.map irV)))
theorem nodup_key {ps : List IR} (h : (ps.map (·.2.1)).Nodup) : ∀ p ∈ ps, ∀ q ∈ ps, p.2.1 = q.2.1 → p = q := by
  induction ps with
  | nil => intro p hp; cases hp
  | cons x ps ih =>
    rw [List.map_cons, List.nodup_cons] at h
    intro p hp q hq e
    rcases List.mem_cons.mp hp with e1 | hp1
    · rcases List.mem_cons.mp hq with e2 | hq1
      · rw [e1, e2]
      · rw [e1] at e
        exact absurd (List.mem_map.mpr ⟨q, hq1, e.symm⟩) h.1
    · rcases List.mem_cons.mp hq with e2 | hq1
      · rw [e2] at e
        exact absurd (List.mem_map.mpr ⟨p, hp1, e⟩) h.1
      · exact ih h.2 p hp1 q hq1 e
theorem cr_sortF {X : Cx} : CallR X (.builtin "sorted") (rSortF X.K) := by
  intro pins s σ H vs us Q I r h
  obtain ⟨a, ps, rfl, hs, hx, hnd, q⟩ := h
  obtain ⟨its, rv, hl, hz⟩ := I.list hs
  obtain ⟨u, rfl, ru⟩ := vals1 r
  obtain rfl : u = Value.ref a := ru
  have hits : its = ps.map fun p => Value.ref p.1 := by
    have key : ∀ (ps : List IR) (its : List Value), Vals (ps.map irV) its → its = ps.map fun p => Value.ref p.1 := by
      intro ps
      induction ps with
      | nil => intro its h; cases h; rfl
      | cons p ps ih =>
        intro its h
        cases h with
        | cons h1 h2 => rw [List.map_cons, ← ih _ h2]; exact congrArg (· :: _) h1
    exact key ps its rv
  let g : Value → IR := fun v => match v with
    | .ref t => (ps.find? fun p => decide (p.1 = t)).getD (0, 0, 0)
    | _ => (0, 0, 0)
  have huniq : ∀ p ∈ ps, ∀ p' ∈ ps, p'.1 = p.1 → p' = p := fun p hp p' hp' e => by
    have h1 := hx p hp
    have h2 := hx p' hp'
    rw [e] at h2
    have := I.tuple_inj h1 h2
    simp at this
    exact nodup_key hnd p' hp' p hp this.1.symm
  have hg : ∀ p ∈ ps, g (.ref p.1) = p := fun p hp => by
    show (ps.find? fun q => decide (q.1 = p.1)).getD (0, 0, 0) = p
    cases e : ps.find? fun q => decide (q.1 = p.1) with
    | none => have := List.find?_eq_none.mp e p hp; simp at this
    | some p' =>
      have h1 := List.mem_of_find?_eq_some e
      have h2 := List.find?_some e
      exact huniq p hp p' h1 (of_decide_eq_true h2)
  refine sorted_ir (k := fun v => (g v).2.1) (rf := fun v => (g v).2.2) hl.isList (by rw [← rv.length]; exact hz) (fun v hv => ?_) (fun v hv u hu e => ?_) fun h' d out hsrt hperm kp hd hn => ?_
  · rw [hits] at hv
    obtain ⟨p, hp, rfl⟩ := List.mem_map.mp hv
    rw [hg p hp]
    obtain ⟨its2, r2, ⟨o, ho, hc, n, hd⟩, _⟩ := I.tuple (hx p hp)
    obtain ⟨u1, u2, rfl, ri, rj⟩ := vals2 r2
    obtain ⟨t1, rfl⟩ := ri
    obtain rfl : u2 = Value.ref p.2.2 := rj
    exact ⟨p.1, o, t1, n, rfl, ho, hc, hd⟩
  · rw [hits] at hv hu
    obtain ⟨p, hp, rfl⟩ := List.mem_map.mp hv
    obtain ⟨p', hp', rfl⟩ := List.mem_map.mp hu
    rw [hg p hp, hg p' hp'] at e ⊢
    rw [nodup_key hnd p hp p' hp' e]
  · obtain ⟨n, hn⟩ := hn
    have hback : ∀ v ∈ out, Value.ref (g v).1 = v ∧ g v ∈ ps := fun v hv => by
      have hv := hperm.mem_iff.mp hv
      rw [hits] at hv
      obtain ⟨p, hp, rfl⟩ := List.mem_map.mp hv
      rw [hg p hp]; exact ⟨rfl, hp⟩
    have hp2 : (out.map g).Perm ps := by
      have := hperm.map g
      rw [hits, List.map_map] at this
      have e : ps.map (g ∘ fun p => Value.ref p.1) = ps := by
        have e2 : ps.map (g ∘ fun p => Value.ref p.1) = ps.map id := List.map_congr_left fun p hp => hg p hp
        rw [e2, List.map_id]
      rwa [e] at this
    have hvals : Vals ((out.map g).map irV) out := by
      rw [List.map_map]
      have key : ∀ l : List Value, (∀ v ∈ l, Value.ref (g v).1 = v) → Vals (l.map (irV ∘ g)) l := by
        intro l
        induction l with
        | nil => intro _; exact .nil
        | cons v l ih => intro h; exact .cons (h v List.mem_cons_self).symm (ih fun u hu => h u (List.mem_cons_of_mem _ hu))
      exact key out fun v hv => (hback v hv).1
    have hsl : ((out.map g).map irV).length ≤ sizeLine := by
      rw [List.length_map, hp2.length_eq]
      rw [List.length_map] at hz; exact hz
    refine ⟨.ref d, upd H d (.lst ((out.map g).map irV)), I.laid (t' := s.toks) kp hd ⟨hsl, out, n, hvals, hn⟩, rfl, q _ d hp2 ?_ (I.hok.fresh hd)⟩
    refine List.pairwise_map.mpr (hsrt.imp fun h => ?_)
    have := of_decide_eq_false h
    omega
def rSortZ (K : Fg) : List V → Hp → VK → Prop := fun vs H Q => rSortedI K vs H Q ∨ rSortF K vs H Q
theorem cz_sorted {X : Cx} : CallR X (.builtin "sorted") (rSortZ X.K) := cr_sortedI.or cr_sortF
variable {c : Cz} {M : Mem} {k : D → Mem → Prop} {d : D}
theorem zc_sortI {ns : List Int} (s : Sl M d (ns.map D.int)) (h : ∀ ns' : List Int, ns'.Perm ns → ns'.Pairwise (· ≤ ·) → k (.lst (ns'.map D.int)) M) : ZC c (rSortZ c.K) [d] M k := fun R F H vs Q L r q => by
  obtain ⟨v, rfl, r1⟩ := r.one1
  obtain ⟨a, vs, rfl, p, rr⟩ := s.read L r1
  rw [rr.ints] at p
  refine .inl ⟨a, ns, rfl, p, fun ns' l h1 h2 hl => q _ _ _ M _ (ex_upd (L.free hl)) (L.new hl) (.mk_lst upd_same (Rps.of_map fun x _ => .int x)) (h ns' h1 h2)⟩
abbrev irD (p : Int × List D) : D := .tup [.int p.1, .tup p.2]
theorem zc_sortF {ps : List (Int × List D)} (s : Sl M d (ps.map irD)) (hnd : (ps.map (·.1)).Nodup) (h : ∀ ps' : List (Int × List D), ps'.Perm ps → ps'.Pairwise (fun x y => x.1 ≤ y.1) → k (.lst (ps'.map irD)) M) : ZC c (rSortZ c.K) [d] M k := fun R F H vs Q L r q => by
  obtain ⟨v, rfl, r1⟩ := r.one1
  obtain ⟨a, vs, rfl, p, rr⟩ := s.read L r1
  -- each item's two refs
  have hits : ∀ (ps : List (Int × List D)) (vs : List V), Rps c.K F vs (ps.map irD) → ∃ qs : List (IR × List D), vs = qs.map (fun q => irV q.1) ∧ ps = qs.map (fun q => (q.1.2.1, q.2)) ∧ ∀ q ∈ qs, SqT c.K H q.1.1 [.int q.1.2.1, .ref q.1.2.2] ∧ Rp c.K F (irV q.1) (irD (q.1.2.1, q.2)) := by
    intro ps
    induction ps with
    | nil => intro vs r; rw [r.unnil]; exact ⟨[], rfl, rfl, fun q h => by cases h⟩
    | cons p ps ih =>
      intro vs r
      obtain ⟨v, vs', rfl, r1, r2⟩ := r.uncons
      obtain ⟨qs, e1, e2, e3⟩ := ih vs' r2
      obtain ⟨t, ws, rfl, ht, rw_⟩ := r1.of_tup
      obtain ⟨v1, v2, rfl, s1, s2⟩ := rw_.two
      have hv1 := s1.of_int
      obtain ⟨t2, ws2, rfl, _, _⟩ := s2.of_tup
      subst hv1
      refine ⟨((t, p.1, t2), p.2) :: qs, by rw [e1]; rfl, by rw [List.map_cons, ← e2], fun q hq => ?_⟩
      rcases List.mem_cons.mp hq with rfl | hq
      · exact ⟨ex_t L.fr ht, r1⟩
      · exact e3 q hq
  obtain ⟨qs, rfl, rfl, h3⟩ := hits ps vs rr
  refine .inr ⟨a, qs.map (·.1), rfl, by rw [List.map_map]; exact p, fun x hx => ?_, ?_, fun ps' l h1 h2 hl => ?_⟩
  · obtain ⟨z, hz, rfl⟩ := List.mem_map.mp hx
    exact (h3 z hz).1
  · rw [List.map_map] at hnd ⊢; exact hnd
  · -- the order carried to the data
    have hnd2 : (qs.map fun q => q.1.2.1).Nodup := by rw [List.map_map] at hnd; exact hnd
    let g : IR → List D := fun p => ((qs.find? fun q => decide (q.1.2.1 = p.2.1)).map (·.2)).getD []
    have hg : ∀ z ∈ qs, g z.1 = z.2 := fun z hz => by
      have key : ∀ (qs : List (IR × List D)), (qs.map fun q => q.1.2.1).Nodup → ∀ z ∈ qs, (qs.find? fun q => decide (q.1.2.1 = z.1.2.1)) = some z := by
        intro qs
        induction qs with
        | nil => intro _ z hz; cases hz
        | cons y qs ih =>
          intro hn z hz
          rw [List.map_cons, List.nodup_cons] at hn
          rw [List.find?_cons]
          rcases List.mem_cons.mp hz with rfl | hz
          · simp
          · have hne : ¬ y.1.2.1 = z.1.2.1 := fun e => hn.1 (List.mem_map.mpr ⟨z, hz, e.symm⟩)
            rw [decide_eq_false hne]; exact ih hn.2 z hz
      show ((qs.find? fun q => decide (q.1.2.1 = z.1.2.1)).map (·.2)).getD [] = z.2
      rw [key qs hnd2 z hz]; rfl
    have hm : ∀ x ∈ ps', ∃ z ∈ qs, z.1 = x := fun x hx => by
      obtain ⟨z, hz, e⟩ := List.mem_map.mp (h1.mem_iff.mp hx)
      exact ⟨z, hz, e⟩
    have hperm : (ps'.map fun x => (x.2.1, g x)).Perm (qs.map fun q => (q.1.2.1, q.2)) := by
      have := h1.map fun x : IR => (x.2.1, g x)
      rw [List.map_map] at this
      have e : qs.map ((fun x : IR => (x.2.1, g x)) ∘ (·.1)) = qs.map fun q => (q.1.2.1, q.2) := List.map_congr_left fun z hz => by
        show (z.1.2.1, g z.1) = _
        rw [hg z hz]
      rwa [e] at this
    have hk := h (ps'.map fun x => (x.2.1, g x)) hperm (List.pairwise_map.mpr (h2.imp fun h => h))
    refine q _ _ _ M _ (ex_upd (L.free hl)) (L.new hl) (.mk_lst upd_same ((?_ : Rps c.K F (ps'.map irV) _).mono (ex_upd (L.free hl)))) hk
    rw [List.map_map]
    refine Rps.of_map fun x hx => ?_
    obtain ⟨z, hz, rfl⟩ := hm x hx
    show Rp c.K F (irV z.1) (irD (z.1.2.1, g z.1))
    rw [hg z hz]; exact (h3 z hz).2
section
variable {P : Program} {w : World} {K : Fg} {mg : Str → Option Value} {base : Heap} {x qual : Str} {params : Arguments} {body : List Stmt} {scope : Scope} {dvs : List V} {kws : List (Str × V)} {f : Addr} {fd : FuncData} {ps : List Str} {k : Nat}
/-- a def with defaults is called with all its arguments -/
theorem fnz_dfl {S : ZSp} (F : FunD K x qual params body scope dvs kws f fd) (G : FnOk P w K mg base CX0 k f fd ps (toSp K S)) (hm : mg x = some (.ref f)) (hb : ∃ ds, Vals [] ds ∧ Binds K fd ps ds) : FnZ P w K mg base x k S := by
  obtain ⟨ds, hd, hb⟩ := hb
  exact ⟨f, fd, ps, toSp K S, ds, [], G, hm, F.kp, hb, hd, fun vs H Q ⟨R, F, M, ds, kk, L, r, s, q⟩ => by rw [List.append_nil]; exact ⟨R, F, M, ds, kk, L, r, s, q⟩⟩
end
end Z
set_option Elab.async false
set_option linter.all false
set_option maxRecDepth 100000
set_option maxHeartbeats 4000000
/-! YOps: what operators and built-ins do to plain data; none where the layer has no rule. -/
namespace Z
open PySem PySem.Spec PyProof.Rows L2
/-- two results at once -/
def bp {α β γ : Type} (m : Option (α × β)) (f : α → β → Option γ) : Option γ := m.bind fun p => f p.1 p.2
@[simp] theorem bp_some {α β γ : Type} (a : α) (b : β) (f : α → β → Option γ) : bp (some (a, b)) f = f a b := rfl
@[simp] theorem bp_none {α β γ : Type} (f : α → β → Option γ) : bp none f = none := rfl
def mulB (i j : Int) : Bool := decide (i.natAbs < 2 ^ 64) || decide (j.natAbs < 2 ^ 64) || decide (i.natAbs.log2 + j.natAbs.log2 < 1000000)
theorem mulB_ok {i j : Int} (h : mulB i j = true) : MulOk i j := by
  unfold mulB at h
  rw [Bool.or_eq_true, Bool.or_eq_true] at h
  rcases h with (h | h) | h
  · exact .left (of_decide_eq_true h)
  · exact .right (of_decide_eq_true h)
  · exact .of (of_decide_eq_true h)
def divB (j : Int) : Bool := decide (j ≠ 0) && decide (j.natAbs.log2 < 9000)
theorem divB_ok {i j : Int} (h : divB j = true) : DivOk i j := by
  unfold divB at h
  rw [Bool.and_eq_true] at h
  exact ⟨of_decide_eq_true h.1, PyProof.noPylong_of_log2 (of_decide_eq_true h.2)⟩
def powB (i j : Int) : Bool := decide (0 ≤ j) && decide (j ≤ 1000000) && decide (i.natAbs < 2 ^ 64)
theorem powB_ok {i j : Int} (h : powB i j = true) : CPow i j := by
  unfold powB at h
  rw [Bool.and_eq_true, Bool.and_eq_true] at h
  exact ⟨of_decide_eq_true h.1.1, of_decide_eq_true h.1.2, of_decide_eq_true h.2⟩
def gd (b : Bool) (d : D) : Option D := if b then some d else none
theorem gd_some {b : Bool} {d e : D} (h : gd b d = some e) : b = true ∧ d = e := by
  unfold gd at h
  cases b with
  | true => exact ⟨rfl, Option.some.inj h⟩
  | false => cases h
@[simp] theorem gd_true (d : D) : gd true d = some d := rfl
theorem gd_of {b : Bool} {d : D} (h : b = true) : gd b d = some d := by rw [h]; rfl
def dAdd : D → D → Option D
  | .int i, .int j => some (.int (i + j))
  | .tup x, .tup y => gd (decide (x.length + y.length ≤ sizeLine)) (.tup (x ++ y))
  | .lst x, .lst y => gd (decide (x.length + y.length ≤ sizeLine)) (.lst (x ++ y))
  | .str x, .str y => gd (decide (x.length + y.length ≤ sizeLine)) (.str (x ++ y))
  | _, _ => none
def dSub : D → D → Option D
  | .int i, .int j => some (.int (i - j))
  | _, _ => none
def repB (n : Nat) (j : Int) : Bool := decide (-(2 ^ 63) ≤ j) && decide (j < 2 ^ 63) && decide (n * j.toNat ≤ sizeLine)
def dMul : D → D → Option D
  | .int i, .int j => gd (mulB i j) (.int (i * j))
  | .lst x, .int j => gd (repB x.length j) (.lst (List.replicate j.toNat x).flatten)
  | _, _ => none
def dMod : D → D → Option D
  | .int i, .int j => gd (decide (0 < j)) (.int (i % j))
  | _, _ => none
def dDiv : D → D → Option D
  | .int i, .int j => gd (divB j) (.int (i.fdiv j))
  | _, _ => none
def dPow : D → D → Option D
  | .int i, .int j => gd (powB i j) (.int (i ^ j.toNat))
  | _, _ => none
def dNeg : D → Option D
  | .int i => some (.int (-i))
  | _ => none
def bLt : D → D → Option Bool
  | .int i, .int j => some (decide (i < j))
  | _, _ => none
def bLe : D → D → Option Bool
  | .int i, .int j => some (decide (i ≤ j))
  | _, _ => none
def bGt : D → D → Option Bool
  | .int i, .int j => some (decide (j < i))
  | _, _ => none
def bGe : D → D → Option Bool
  | .int i, .int j => some (decide (j ≤ i))
  | _, _ => none
mutual
def toPy : D → Option PyData
  | .non => some .none
  | .bl b => some (.bool b)
  | .int i => some (.int i)
  | .str x => some (.str x)
  | .tup ds => (toPys ds).map .tuple
  | .lst ds => (toPys ds).map .list
  | .scr ds => (toPys ds).map .list
  | _ => none
def toPys : List D → Option (List PyData)
  | [] => some []
  | d :: ds => match toPy d, toPys ds with
    | some x, some y => some (x :: y)
    | _, _ => none
end
mutual
theorem toPy_pd {M : Mem} : ∀ (d : D) (p : PyData), toPy d = some p → Pd M d p
  | .non, p, h => by cases h; exact .non
  | .bl b, p, h => by cases h; exact .bl b
  | .int i, p, h => by cases h; exact .int i
  | .str x, p, h => by cases h; exact .str x
  | .tup ds, p, h => by
    unfold toPy at h
    obtain ⟨q, hq, rfl⟩ := Option.map_eq_some_iff.mp h
    exact .tup (toPys_pd ds q hq)
  | .lst ds, p, h => by
    unfold toPy at h
    obtain ⟨q, hq, rfl⟩ := Option.map_eq_some_iff.mp h
    exact .lst (toPys_pd ds q hq)
  | .scr ds, p, h => by
    unfold toPy at h
    obtain ⟨q, hq, rfl⟩ := Option.map_eq_some_iff.mp h
    exact .scr (toPys_pd ds q hq)
  | .ty _, p, h => by cases h
  | .obj _ _, p, h => by cases h
  | .at _, p, h => by cases h
theorem toPys_pd {M : Mem} : ∀ (ds : List D) (ps : List PyData), toPys ds = some ps → PdAll M ds ps
  | [], ps, h => by cases h; exact .nil
  | d :: ds, ps, h => by
    unfold toPys at h
    cases h1 : toPy d with
    | none => rw [h1] at h; cases h
    | some x =>
      rw [h1] at h
      cases h2 : toPys ds with
      | none => rw [h2] at h; cases h
      | some y =>
        rw [h2] at h
        cases h
        exact .cons (toPy_pd d x h1) (toPys_pd ds y h2)
end
def shp (p : PyData) : Bool := SeqAt.shaped p
def bEqP (x y : D) : Option Bool := (toPy x).bind fun p => (toPy y).bind fun q => if shp p && shp q then some (PyData.eqv p q) else none
def bEq : D → D → Option Bool
  | .int i, .int j => some (decide (i = j))
  | .bl i, .bl j => some (decide (i = j))
  | .str i, .str j => some (decide (i = j))
  | .tup x, .tup y => bEqP (.tup x) (.tup y)
  | .lst x, .lst y => bEqP (.lst x) (.lst y)
  | x, y => bEqP x y
def bNe (x y : D) : Option Bool := (bEq x y).map (!·)
def asInts : List D → Option (List Int)
  | [] => some []
  | .int i :: ds => (asInts ds).map (i :: ·)
  | _ => none
theorem asInts_eq : ∀ {ds : List D} {ns : List Int}, asInts ds = some ns → ds = ns.map D.int
  | [], ns, h => by cases h; rfl
  | .int i :: ds, ns, h => by
    unfold asInts at h
    obtain ⟨q, hq, rfl⟩ := Option.map_eq_some_iff.mp h
    rw [asInts_eq hq]; rfl
  | .non :: _, _, h | .bl _ :: _, _, h | .str _ :: _, _, h | .ty _ :: _, _, h | .tup _ :: _, _, h | .lst _ :: _, _, h | .scr _ :: _, _, h | .obj _ _ :: _, _, h | .at _ :: _, _, h => by cases h
@[simp] theorem asInts_map : ∀ ns : List Int, asInts (ns.map D.int) = some ns
  | [] => rfl
  | n :: ns => by rw [List.map_cons]; unfold asInts; rw [asInts_map ns]; rfl
def asBls : List D → Option (List Bool)
  | [] => some []
  | .bl i :: ds => (asBls ds).map (i :: ·)
  | _ => none
theorem asBls_eq : ∀ {ds : List D} {ns : List Bool}, asBls ds = some ns → ds = ns.map D.bl
  | [], ns, h => by cases h; rfl
  | .bl i :: ds, ns, h => by
    unfold asBls at h
    obtain ⟨q, hq, rfl⟩ := Option.map_eq_some_iff.mp h
    rw [asBls_eq hq]; rfl
  | .non :: _, _, h | .int _ :: _, _, h | .str _ :: _, _, h | .ty _ :: _, _, h | .tup _ :: _, _, h | .lst _ :: _, _, h | .scr _ :: _, _, h | .obj _ _ :: _, _, h | .at _ :: _, _, h => by cases h
@[simp] theorem asBls_map : ∀ ns : List Bool, asBls (ns.map D.bl) = some ns
  | [] => rfl
  | n :: ns => by rw [List.map_cons]; unfold asBls; rw [asBls_map ns]; rfl
/-- the items of a list or a tuple -/
def items : D → Option (List D)
  | .tup x => some x
  | .lst x => some x
  | .scr x => some x
  | _ => none
def bIn (x : D) (y : D) : Option Bool := match x with
  | .int i => (items y).bind fun ds => (asInts ds).bind fun ns => some (decide (i ∈ ns))
  | _ => none
def bTru : D → Option Bool
  | .non => some false
  | .bl b => some b
  | .int i => some (i != 0)
  | .tup x => some (!x.isEmpty)
  | .lst x => some (!x.isEmpty)
  | .scr x => some (!x.isEmpty)
  | _ => none
def dBl : D → Option Bool
  | .bl b => some b
  | _ => none
def dLen : D → Option D
  | .tup x => some (.int (x.length : Nat))
  | .lst x => some (.int (x.length : Nat))
  | .scr x => some (.int (x.length : Nat))
  | .str z => gd (decide (z.length ≤ sizeLine)) (.int (z.length : Nat))
  | _ => none
def dIx : D → D → Option D
  | .tup x, .int i => L2.atI x i
  | .lst x, .int i => L2.atI x i
  | .scr x, .int i => L2.atI x i
  | .str z, .int i => if z.length ≤ sizeLine then (L2.atI z.cps.toList i).map fun n => .str ⟨#[n]⟩ else none
  | _, _ => none
/-- a part of a slice -/
def dPart : D → Option (Option Int)
  | .int i => some (some i)
  | _ => none
def dSlice : D → Option Int → Option Int → Option D
  | .tup x, lo, hi => some (.tup (cutD x lo hi))
  | .lst x, lo, hi => some (.lst (cutD x lo hi))
  | .scr x, lo, hi => some (.lst (cutD x lo hi))
  | .str z, lo, hi => gd (decide (z.length ≤ sizeLine)) (.str (cutS z lo hi))
  | _, _, _ => none
def dAbs : D → Option D
  | .int i => some (.int (i.natAbs : Int))
  | _ => none
def dMax2 : D → D → Option D
  | .int i, .int j => some (.int (max i j))
  | _, _ => none
def dMin2 : D → D → Option D
  | .int i, .int j => some (.int (min i j))
  | _, _ => none
def dGcd : D → D → Option D
  | .int i, .int j => some (.int ((Nat.gcd i.natAbs j.natAbs : Nat) : Int))
  | _, _ => none
def lcmB (i j : Int) : Bool := decide (i.natAbs.log2 < 13400) && decide (j.natAbs.log2 < 13400) && decide ((Nat.lcm i.natAbs j.natAbs).log2 < bitsLine)
def dLcm : D → D → Option D
  | .int i, .int j => gd (lcmB i j) (.int ((Nat.lcm i.natAbs j.natAbs : Nat) : Int))
  | _, _ => none
def dInt : D → Option D
  | .int i => some (.int i)
  | .bl b => some (.int (if b then 1 else 0))
  | _ => none
def itemsL : D → Option (List D)
  | .lst x => some x
  | .scr x => some x
  | _ => none
def dSum (d : D) : Option D := (itemsL d).bind fun ds => (asInts ds).bind fun ns => some (.int ns.sum)
def dAll (d : D) : Option D := (itemsL d).bind fun ds => (asBls ds).bind fun ns => some (.bl (ns.all id))
def dAny (d : D) : Option D := (itemsL d).bind fun ds => (asBls ds).bind fun ns => some (.bl (ns.any id))
def dList (d : D) : Option D := (items d).bind fun ds => some (.lst ds)
def dTuple (d : D) : Option D := (items d).bind fun ds => some (.tup ds)
/-- isinstance of built-in classes -/
def isiT (t u : String) : Option Bool := if u = "int" then (if t = "int" ∨ t = "bool" then some true else some false) else if u = "bool" ∨ u = "str" ∨ u = "tuple" ∨ u = "list" then some (t == u) else none
def bIsi (d : D) (u : String) : Option Bool := (tyD d).bind fun t => isiT t u
theorem kit_tab : ∀ t ∈ ["NoneType", "bool", "int", "str", "tuple", "list"], ∀ u ∈ ["int", "bool", "str", "tuple", "list"], kitB t u = isiT t u := by decide +kernel
theorem tyD_mem {d : D} {t : String} (h : tyD d = some t) : t ∈ ["NoneType", "bool", "int", "str", "tuple", "list"] := by
  cases d <;> cases h <;> simp
theorem isi_ok {t u : String} {b : Bool} (ht : t ∈ ["NoneType", "bool", "int", "str", "tuple", "list"]) (h : isiT t u = some b) : kitB t u = some b := by
  have hu : u ∈ ["int", "bool", "str", "tuple", "list"] := by
    unfold isiT at h
    by_cases h1 : u = "int"
    · simp [h1]
    rw [if_neg h1] at h
    by_cases h2 : u = "bool" ∨ u = "str" ∨ u = "tuple" ∨ u = "list"
    · simp only [List.mem_cons]
      rcases h2 with h | h | h | h
      · exact .inr (.inl h)
      · exact .inr (.inr (.inl h))
      · exact .inr (.inr (.inr (.inl h)))
      · exact .inr (.inr (.inr (.inr (.inl h))))
    · rw [if_neg h2] at h; cases h
  rw [kit_tab t ht u hu]; exact h
/-- unpacking -/
def un2 : D → Option (D × D)
  | .tup [a, b] => some (a, b)
  | _ => none
def un3 : D → Option (D × D × D)
  | .tup [a, b, c] => some (a, b, c)
  | _ => none
theorem un2_some {d a b : D} (h : un2 d = some (a, b)) : d = .tup [a, b] := by
  unfold un2 at h
  split at h
  · cases h; rfl
  · cases h
theorem un3_some {d a b c : D} (h : un3 d = some (a, b, c)) : d = .tup [a, b, c] := by
  unfold un3 at h
  split at h
  · cases h; rfl
  · cases h
/-! loops -/
inductive Fl (N S R : Type) where
  | nx (n : N) | ct (s : S) | bk (s : S) | rt (r : R)
section
variable {N S R α : Type}
/-- the rest behind a part that may also leave -/
def Fl.seq {N' : Type} (m : Option (Fl N S R)) (f : N → Option (Fl N' S R)) : Option (Fl N' S R) := m.bind fun
  | .nx n => f n
  | .ct s => some (.ct s)
  | .bk s => some (.bk s)
  | .rt r => some (.rt r)
/-- the rest of a def behind such a part -/
def Fl.fin (m : Option (Fl N S α)) (f : N → Option α) : Option α := m.bind fun
  | .nx n => f n
  | .rt r => some r
  | _ => none
def foldO (f : S → D → Option S) : List D → S → Option S
  | [], s => some s
  | d :: ds, s => (f s d).bind fun s' => foldO f ds s'
def forL (f : S → D → Option (Fl S S R)) : List D → S → Option (Fl S S R)
  | [], s => some (.nx s)
  | d :: ds, s => (f s d).bind fun
    | .nx s' => forL f ds s'
    | .ct s' => forL f ds s'
    | .bk s' => some (.nx s')
    | .rt r => some (.rt r)
def whlN (f : S → Option (Fl S S R)) : Nat → S → Option (Fl S S R)
  | 0, _ => none
  | n + 1, s => (f s).bind fun
    | .nx s' => whlN f n s'
    | .ct s' => whlN f n s'
    | .bk s' => some (.nx s')
    | .rt r => some (.rt r)
open Classical in
noncomputable def whl (f : S → Option (Fl S S R)) (s : S) : Option (Fl S S R) := if h : ∃ n r, whlN f n s = some r then some h.choose_spec.choose else none
theorem whlN_mono {f : S → Option (Fl S S R)} : ∀ {n m : Nat} {s : S} {r : Fl S S R}, n ≤ m → whlN f n s = some r → whlN f m s = some r
  | 0, _, _, _, _, h => by cases h
  | n + 1, 0, _, _, h, _ => by omega
  | n + 1, m + 1, s, r, hm, h => by
    unfold whlN at h ⊢
    cases e : f s with
    | none => rw [e] at h; cases h
    | some x =>
      rw [e] at h
      cases x with
      | nx s' => exact whlN_mono (Nat.le_of_succ_le_succ hm) h
      | ct s' => exact whlN_mono (Nat.le_of_succ_le_succ hm) h
      | bk s' => exact h
      | rt r' => exact h
theorem whl_of {f : S → Option (Fl S S R)} {n : Nat} {s : S} {r : Fl S S R} (h : whlN f n s = some r) : whl f s = some r := by
  have hx : ∃ n r, whlN f n s = some r := ⟨n, r, h⟩
  unfold whl
  rw [dif_pos hx]
  have h2 := hx.choose_spec.choose_spec
  have h3 := whlN_mono (Nat.le_max_left n hx.choose) h
  have h4 := whlN_mono (Nat.le_max_right n hx.choose) h2
  rw [h3] at h4
  exact h4.symm
theorem whl_ex {f : S → Option (Fl S S R)} {s : S} {r : Fl S S R} (h : whl f s = some r) : ∃ n, whlN f n s = some r := by
  unfold whl at h
  split at h
  · rename_i hx
    cases h
    exact ⟨_, hx.choose_spec.choose_spec⟩
  · cases h
theorem whl_nx {f : S → Option (Fl S S R)} {s s' : S} {r : Fl S S R} (h : f s = some (.nx s')) (h2 : whl f s' = some r) : whl f s = some r := by
  obtain ⟨n, hn⟩ := whl_ex h2
  exact whl_of (n := n + 1) (by unfold whlN; rw [h]; exact hn)
theorem whl_bk {f : S → Option (Fl S S R)} {s s' : S} (h : f s = some (.bk s')) : whl f s = some (.nx s') := whl_of (n := 1) (by unfold whlN; rw [h]; rfl)
theorem whl_rt {f : S → Option (Fl S S R)} {s : S} {r : R} (h : f s = some (.rt r)) : whl f s = some (.rt r) := whl_of (n := 1) (by unfold whlN; rw [h]; rfl)
/-- comprehensions -/
def mapO (f : D → Option D) : List D → Option (List D)
  | [] => some []
  | d :: ds => (f d).bind fun y => (mapO f ds).bind fun ys => some (y :: ys)
def mapS (f : S → D → Option (D × S)) : List D → S → Option (List D × S)
  | [], s => some ([], s)
  | d :: ds, s => bp (f s d) fun y s => bp (mapS f ds s) fun ys s => some (y :: ys, s)
def filO (f : D → Option (Option D)) : List D → Option (List D)
  | [] => some []
  | d :: ds => (f d).bind fun y => (filO f ds).bind fun ys => some (y.toList ++ ys)
/-- iterators -/
def itSeq : D → Option (List D) := items
def rngB (i : Int) : Bool := decide (-(2 ^ 62) ≤ i) && decide (i < 2 ^ 62)
def itRng1 : D → Option (List D)
  | .int j => if rngB j then some (rngD 0 j.toNat) else none
  | _ => none
def itRng2 : D → D → Option (List D)
  | .int i, .int j => if rngB i && rngB j then some (rngD i (j - i).toNat) else none
  | _, _ => none
def itEnum (d : D) : Option (List D) := (items d).bind fun ds => some (enumD ds)
def itZip : D → D → Option (List D)
  | .tup x, .tup y => some (zipD x y)
  | .lst x, .lst y => some (zipD x y)
  | _, _ => none
def szB (ds : List D) : Option (List D) := if ds.length ≤ sizeLine then some ds else none
end
end Z
set_option Elab.async false
set_option linter.all false
set_option maxRecDepth 100000
set_option maxHeartbeats 4000000
/-! Printed by mkslots.py. -/
namespace Z
open PySem PySem.Spec PyProof.Rows L2
section
variable {c : Cz} {M : Mem} {k : D → Mem → Prop} {kg : Gm → Mem → Prop} {d : D} {r : Gm}
theorem zv0 (h : k d M) : ZE c (tVar 0) (some d :: r) M k := z_var rfl h
theorem zg0 {a : Option D} (h : kg (some d :: r) M) : ZG c (gName 0) d (a :: r) M kg := zg_name h
theorem zv1 {a0 : Option D} (h : k d M) : ZE c (tVar 1) (a0 :: some d :: r) M k := z_var rfl h
theorem zg1 {a0 : Option D} {a : Option D} (h : kg (a0 :: some d :: r) M) : ZG c (gName 1) d (a0 :: a :: r) M kg := zg_name h
theorem zv2 {a0 a1 : Option D} (h : k d M) : ZE c (tVar 2) (a0 :: a1 :: some d :: r) M k := z_var rfl h
theorem zg2 {a0 a1 : Option D} {a : Option D} (h : kg (a0 :: a1 :: some d :: r) M) : ZG c (gName 2) d (a0 :: a1 :: a :: r) M kg := zg_name h
theorem zv3 {a0 a1 a2 : Option D} (h : k d M) : ZE c (tVar 3) (a0 :: a1 :: a2 :: some d :: r) M k := z_var rfl h
theorem zg3 {a0 a1 a2 : Option D} {a : Option D} (h : kg (a0 :: a1 :: a2 :: some d :: r) M) : ZG c (gName 3) d (a0 :: a1 :: a2 :: a :: r) M kg := zg_name h
theorem zv4 {a0 a1 a2 a3 : Option D} (h : k d M) : ZE c (tVar 4) (a0 :: a1 :: a2 :: a3 :: some d :: r) M k := z_var rfl h
theorem zg4 {a0 a1 a2 a3 : Option D} {a : Option D} (h : kg (a0 :: a1 :: a2 :: a3 :: some d :: r) M) : ZG c (gName 4) d (a0 :: a1 :: a2 :: a3 :: a :: r) M kg := zg_name h
theorem zv5 {a0 a1 a2 a3 a4 : Option D} (h : k d M) : ZE c (tVar 5) (a0 :: a1 :: a2 :: a3 :: a4 :: some d :: r) M k := z_var rfl h
theorem zg5 {a0 a1 a2 a3 a4 : Option D} {a : Option D} (h : kg (a0 :: a1 :: a2 :: a3 :: a4 :: some d :: r) M) : ZG c (gName 5) d (a0 :: a1 :: a2 :: a3 :: a4 :: a :: r) M kg := zg_name h
theorem zv6 {a0 a1 a2 a3 a4 a5 : Option D} (h : k d M) : ZE c (tVar 6) (a0 :: a1 :: a2 :: a3 :: a4 :: a5 :: some d :: r) M k := z_var rfl h
theorem zg6 {a0 a1 a2 a3 a4 a5 : Option D} {a : Option D} (h : kg (a0 :: a1 :: a2 :: a3 :: a4 :: a5 :: some d :: r) M) : ZG c (gName 6) d (a0 :: a1 :: a2 :: a3 :: a4 :: a5 :: a :: r) M kg := zg_name h
theorem zv7 {a0 a1 a2 a3 a4 a5 a6 : Option D} (h : k d M) : ZE c (tVar 7) (a0 :: a1 :: a2 :: a3 :: a4 :: a5 :: a6 :: some d :: r) M k := z_var rfl h
theorem zg7 {a0 a1 a2 a3 a4 a5 a6 : Option D} {a : Option D} (h : kg (a0 :: a1 :: a2 :: a3 :: a4 :: a5 :: a6 :: some d :: r) M) : ZG c (gName 7) d (a0 :: a1 :: a2 :: a3 :: a4 :: a5 :: a6 :: a :: r) M kg := zg_name h
theorem zv8 {a0 a1 a2 a3 a4 a5 a6 a7 : Option D} (h : k d M) : ZE c (tVar 8) (a0 :: a1 :: a2 :: a3 :: a4 :: a5 :: a6 :: a7 :: some d :: r) M k := z_var rfl h
theorem zg8 {a0 a1 a2 a3 a4 a5 a6 a7 : Option D} {a : Option D} (h : kg (a0 :: a1 :: a2 :: a3 :: a4 :: a5 :: a6 :: a7 :: some d :: r) M) : ZG c (gName 8) d (a0 :: a1 :: a2 :: a3 :: a4 :: a5 :: a6 :: a7 :: a :: r) M kg := zg_name h
theorem zv9 {a0 a1 a2 a3 a4 a5 a6 a7 a8 : Option D} (h : k d M) : ZE c (tVar 9) (a0 :: a1 :: a2 :: a3 :: a4 :: a5 :: a6 :: a7 :: a8 :: some d :: r) M k := z_var rfl h
theorem zg9 {a0 a1 a2 a3 a4 a5 a6 a7 a8 : Option D} {a : Option D} (h : kg (a0 :: a1 :: a2 :: a3 :: a4 :: a5 :: a6 :: a7 :: a8 :: some d :: r) M) : ZG c (gName 9) d (a0 :: a1 :: a2 :: a3 :: a4 :: a5 :: a6 :: a7 :: a8 :: a :: r) M kg := zg_name h
theorem zv10 {a0 a1 a2 a3 a4 a5 a6 a7 a8 a9 : Option D} (h : k d M) : ZE c (tVar 10) (a0 :: a1 :: a2 :: a3 :: a4 :: a5 :: a6 :: a7 :: a8 :: a9 :: some d :: r) M k := z_var rfl h
theorem zg10 {a0 a1 a2 a3 a4 a5 a6 a7 a8 a9 : Option D} {a : Option D} (h : kg (a0 :: a1 :: a2 :: a3 :: a4 :: a5 :: a6 :: a7 :: a8 :: a9 :: some d :: r) M) : ZG c (gName 10) d (a0 :: a1 :: a2 :: a3 :: a4 :: a5 :: a6 :: a7 :: a8 :: a9 :: a :: r) M kg := zg_name h
theorem zv11 {a0 a1 a2 a3 a4 a5 a6 a7 a8 a9 a10 : Option D} (h : k d M) : ZE c (tVar 11) (a0 :: a1 :: a2 :: a3 :: a4 :: a5 :: a6 :: a7 :: a8 :: a9 :: a10 :: some d :: r) M k := z_var rfl h
theorem zg11 {a0 a1 a2 a3 a4 a5 a6 a7 a8 a9 a10 : Option D} {a : Option D} (h : kg (a0 :: a1 :: a2 :: a3 :: a4 :: a5 :: a6 :: a7 :: a8 :: a9 :: a10 :: some d :: r) M) : ZG c (gName 11) d (a0 :: a1 :: a2 :: a3 :: a4 :: a5 :: a6 :: a7 :: a8 :: a9 :: a10 :: a :: r) M kg := zg_name h
theorem zv12 {a0 a1 a2 a3 a4 a5 a6 a7 a8 a9 a10 a11 : Option D} (h : k d M) : ZE c (tVar 12) (a0 :: a1 :: a2 :: a3 :: a4 :: a5 :: a6 :: a7 :: a8 :: a9 :: a10 :: a11 :: some d :: r) M k := z_var rfl h
theorem zg12 {a0 a1 a2 a3 a4 a5 a6 a7 a8 a9 a10 a11 : Option D} {a : Option D} (h : kg (a0 :: a1 :: a2 :: a3 :: a4 :: a5 :: a6 :: a7 :: a8 :: a9 :: a10 :: a11 :: some d :: r) M) : ZG c (gName 12) d (a0 :: a1 :: a2 :: a3 :: a4 :: a5 :: a6 :: a7 :: a8 :: a9 :: a10 :: a11 :: a :: r) M kg := zg_name h
theorem zv13 {a0 a1 a2 a3 a4 a5 a6 a7 a8 a9 a10 a11 a12 : Option D} (h : k d M) : ZE c (tVar 13) (a0 :: a1 :: a2 :: a3 :: a4 :: a5 :: a6 :: a7 :: a8 :: a9 :: a10 :: a11 :: a12 :: some d :: r) M k := z_var rfl h
theorem zg13 {a0 a1 a2 a3 a4 a5 a6 a7 a8 a9 a10 a11 a12 : Option D} {a : Option D} (h : kg (a0 :: a1 :: a2 :: a3 :: a4 :: a5 :: a6 :: a7 :: a8 :: a9 :: a10 :: a11 :: a12 :: some d :: r) M) : ZG c (gName 13) d (a0 :: a1 :: a2 :: a3 :: a4 :: a5 :: a6 :: a7 :: a8 :: a9 :: a10 :: a11 :: a12 :: a :: r) M kg := zg_name h
theorem zv14 {a0 a1 a2 a3 a4 a5 a6 a7 a8 a9 a10 a11 a12 a13 : Option D} (h : k d M) : ZE c (tVar 14) (a0 :: a1 :: a2 :: a3 :: a4 :: a5 :: a6 :: a7 :: a8 :: a9 :: a10 :: a11 :: a12 :: a13 :: some d :: r) M k := z_var rfl h
theorem zg14 {a0 a1 a2 a3 a4 a5 a6 a7 a8 a9 a10 a11 a12 a13 : Option D} {a : Option D} (h : kg (a0 :: a1 :: a2 :: a3 :: a4 :: a5 :: a6 :: a7 :: a8 :: a9 :: a10 :: a11 :: a12 :: a13 :: some d :: r) M) : ZG c (gName 14) d (a0 :: a1 :: a2 :: a3 :: a4 :: a5 :: a6 :: a7 :: a8 :: a9 :: a10 :: a11 :: a12 :: a13 :: a :: r) M kg := zg_name h
theorem zv15 {a0 a1 a2 a3 a4 a5 a6 a7 a8 a9 a10 a11 a12 a13 a14 : Option D} (h : k d M) : ZE c (tVar 15) (a0 :: a1 :: a2 :: a3 :: a4 :: a5 :: a6 :: a7 :: a8 :: a9 :: a10 :: a11 :: a12 :: a13 :: a14 :: some d :: r) M k := z_var rfl h
theorem zg15 {a0 a1 a2 a3 a4 a5 a6 a7 a8 a9 a10 a11 a12 a13 a14 : Option D} {a : Option D} (h : kg (a0 :: a1 :: a2 :: a3 :: a4 :: a5 :: a6 :: a7 :: a8 :: a9 :: a10 :: a11 :: a12 :: a13 :: a14 :: some d :: r) M) : ZG c (gName 15) d (a0 :: a1 :: a2 :: a3 :: a4 :: a5 :: a6 :: a7 :: a8 :: a9 :: a10 :: a11 :: a12 :: a13 :: a14 :: a :: r) M kg := zg_name h
theorem zv16 {a0 a1 a2 a3 a4 a5 a6 a7 a8 a9 a10 a11 a12 a13 a14 a15 : Option D} (h : k d M) : ZE c (tVar 16) (a0 :: a1 :: a2 :: a3 :: a4 :: a5 :: a6 :: a7 :: a8 :: a9 :: a10 :: a11 :: a12 :: a13 :: a14 :: a15 :: some d :: r) M k := z_var rfl h
theorem zg16 {a0 a1 a2 a3 a4 a5 a6 a7 a8 a9 a10 a11 a12 a13 a14 a15 : Option D} {a : Option D} (h : kg (a0 :: a1 :: a2 :: a3 :: a4 :: a5 :: a6 :: a7 :: a8 :: a9 :: a10 :: a11 :: a12 :: a13 :: a14 :: a15 :: some d :: r) M) : ZG c (gName 16) d (a0 :: a1 :: a2 :: a3 :: a4 :: a5 :: a6 :: a7 :: a8 :: a9 :: a10 :: a11 :: a12 :: a13 :: a14 :: a15 :: a :: r) M kg := zg_name h
theorem zv17 {a0 a1 a2 a3 a4 a5 a6 a7 a8 a9 a10 a11 a12 a13 a14 a15 a16 : Option D} (h : k d M) : ZE c (tVar 17) (a0 :: a1 :: a2 :: a3 :: a4 :: a5 :: a6 :: a7 :: a8 :: a9 :: a10 :: a11 :: a12 :: a13 :: a14 :: a15 :: a16 :: some d :: r) M k := z_var rfl h
theorem zg17 {a0 a1 a2 a3 a4 a5 a6 a7 a8 a9 a10 a11 a12 a13 a14 a15 a16 : Option D} {a : Option D} (h : kg (a0 :: a1 :: a2 :: a3 :: a4 :: a5 :: a6 :: a7 :: a8 :: a9 :: a10 :: a11 :: a12 :: a13 :: a14 :: a15 :: a16 :: some d :: r) M) : ZG c (gName 17) d (a0 :: a1 :: a2 :: a3 :: a4 :: a5 :: a6 :: a7 :: a8 :: a9 :: a10 :: a11 :: a12 :: a13 :: a14 :: a15 :: a16 :: a :: r) M kg := zg_name h
theorem zv18 {a0 a1 a2 a3 a4 a5 a6 a7 a8 a9 a10 a11 a12 a13 a14 a15 a16 a17 : Option D} (h : k d M) : ZE c (tVar 18) (a0 :: a1 :: a2 :: a3 :: a4 :: a5 :: a6 :: a7 :: a8 :: a9 :: a10 :: a11 :: a12 :: a13 :: a14 :: a15 :: a16 :: a17 :: some d :: r) M k := z_var rfl h
theorem zg18 {a0 a1 a2 a3 a4 a5 a6 a7 a8 a9 a10 a11 a12 a13 a14 a15 a16 a17 : Option D} {a : Option D} (h : kg (a0 :: a1 :: a2 :: a3 :: a4 :: a5 :: a6 :: a7 :: a8 :: a9 :: a10 :: a11 :: a12 :: a13 :: a14 :: a15 :: a16 :: a17 :: some d :: r) M) : ZG c (gName 18) d (a0 :: a1 :: a2 :: a3 :: a4 :: a5 :: a6 :: a7 :: a8 :: a9 :: a10 :: a11 :: a12 :: a13 :: a14 :: a15 :: a16 :: a17 :: a :: r) M kg := zg_name h
theorem zv19 {a0 a1 a2 a3 a4 a5 a6 a7 a8 a9 a10 a11 a12 a13 a14 a15 a16 a17 a18 : Option D} (h : k d M) : ZE c (tVar 19) (a0 :: a1 :: a2 :: a3 :: a4 :: a5 :: a6 :: a7 :: a8 :: a9 :: a10 :: a11 :: a12 :: a13 :: a14 :: a15 :: a16 :: a17 :: a18 :: some d :: r) M k := z_var rfl h
theorem zg19 {a0 a1 a2 a3 a4 a5 a6 a7 a8 a9 a10 a11 a12 a13 a14 a15 a16 a17 a18 : Option D} {a : Option D} (h : kg (a0 :: a1 :: a2 :: a3 :: a4 :: a5 :: a6 :: a7 :: a8 :: a9 :: a10 :: a11 :: a12 :: a13 :: a14 :: a15 :: a16 :: a17 :: a18 :: some d :: r) M) : ZG c (gName 19) d (a0 :: a1 :: a2 :: a3 :: a4 :: a5 :: a6 :: a7 :: a8 :: a9 :: a10 :: a11 :: a12 :: a13 :: a14 :: a15 :: a16 :: a17 :: a18 :: a :: r) M kg := zg_name h
theorem zv20 {a0 a1 a2 a3 a4 a5 a6 a7 a8 a9 a10 a11 a12 a13 a14 a15 a16 a17 a18 a19 : Option D} (h : k d M) : ZE c (tVar 20) (a0 :: a1 :: a2 :: a3 :: a4 :: a5 :: a6 :: a7 :: a8 :: a9 :: a10 :: a11 :: a12 :: a13 :: a14 :: a15 :: a16 :: a17 :: a18 :: a19 :: some d :: r) M k := z_var rfl h
theorem zg20 {a0 a1 a2 a3 a4 a5 a6 a7 a8 a9 a10 a11 a12 a13 a14 a15 a16 a17 a18 a19 : Option D} {a : Option D} (h : kg (a0 :: a1 :: a2 :: a3 :: a4 :: a5 :: a6 :: a7 :: a8 :: a9 :: a10 :: a11 :: a12 :: a13 :: a14 :: a15 :: a16 :: a17 :: a18 :: a19 :: some d :: r) M) : ZG c (gName 20) d (a0 :: a1 :: a2 :: a3 :: a4 :: a5 :: a6 :: a7 :: a8 :: a9 :: a10 :: a11 :: a12 :: a13 :: a14 :: a15 :: a16 :: a17 :: a18 :: a19 :: a :: r) M kg := zg_name h
theorem zv21 {a0 a1 a2 a3 a4 a5 a6 a7 a8 a9 a10 a11 a12 a13 a14 a15 a16 a17 a18 a19 a20 : Option D} (h : k d M) : ZE c (tVar 21) (a0 :: a1 :: a2 :: a3 :: a4 :: a5 :: a6 :: a7 :: a8 :: a9 :: a10 :: a11 :: a12 :: a13 :: a14 :: a15 :: a16 :: a17 :: a18 :: a19 :: a20 :: some d :: r) M k := z_var rfl h
theorem zg21 {a0 a1 a2 a3 a4 a5 a6 a7 a8 a9 a10 a11 a12 a13 a14 a15 a16 a17 a18 a19 a20 : Option D} {a : Option D} (h : kg (a0 :: a1 :: a2 :: a3 :: a4 :: a5 :: a6 :: a7 :: a8 :: a9 :: a10 :: a11 :: a12 :: a13 :: a14 :: a15 :: a16 :: a17 :: a18 :: a19 :: a20 :: some d :: r) M) : ZG c (gName 21) d (a0 :: a1 :: a2 :: a3 :: a4 :: a5 :: a6 :: a7 :: a8 :: a9 :: a10 :: a11 :: a12 :: a13 :: a14 :: a15 :: a16 :: a17 :: a18 :: a19 :: a20 :: a :: r) M kg := zg_name h
theorem zv22 {a0 a1 a2 a3 a4 a5 a6 a7 a8 a9 a10 a11 a12 a13 a14 a15 a16 a17 a18 a19 a20 a21 : Option D} (h : k d M) : ZE c (tVar 22) (a0 :: a1 :: a2 :: a3 :: a4 :: a5 :: a6 :: a7 :: a8 :: a9 :: a10 :: a11 :: a12 :: a13 :: a14 :: a15 :: a16 :: a17 :: a18 :: a19 :: a20 :: a21 :: some d :: r) M k := z_var rfl h
theorem zg22 {a0 a1 a2 a3 a4 a5 a6 a7 a8 a9 a10 a11 a12 a13 a14 a15 a16 a17 a18 a19 a20 a21 : Option D} {a : Option D} (h : kg (a0 :: a1 :: a2 :: a3 :: a4 :: a5 :: a6 :: a7 :: a8 :: a9 :: a10 :: a11 :: a12 :: a13 :: a14 :: a15 :: a16 :: a17 :: a18 :: a19 :: a20 :: a21 :: some d :: r) M) : ZG c (gName 22) d (a0 :: a1 :: a2 :: a3 :: a4 :: a5 :: a6 :: a7 :: a8 :: a9 :: a10 :: a11 :: a12 :: a13 :: a14 :: a15 :: a16 :: a17 :: a18 :: a19 :: a20 :: a21 :: a :: r) M kg := zg_name h
theorem zv23 {a0 a1 a2 a3 a4 a5 a6 a7 a8 a9 a10 a11 a12 a13 a14 a15 a16 a17 a18 a19 a20 a21 a22 : Option D} (h : k d M) : ZE c (tVar 23) (a0 :: a1 :: a2 :: a3 :: a4 :: a5 :: a6 :: a7 :: a8 :: a9 :: a10 :: a11 :: a12 :: a13 :: a14 :: a15 :: a16 :: a17 :: a18 :: a19 :: a20 :: a21 :: a22 :: some d :: r) M k := z_var rfl h
theorem zg23 {a0 a1 a2 a3 a4 a5 a6 a7 a8 a9 a10 a11 a12 a13 a14 a15 a16 a17 a18 a19 a20 a21 a22 : Option D} {a : Option D} (h : kg (a0 :: a1 :: a2 :: a3 :: a4 :: a5 :: a6 :: a7 :: a8 :: a9 :: a10 :: a11 :: a12 :: a13 :: a14 :: a15 :: a16 :: a17 :: a18 :: a19 :: a20 :: a21 :: a22 :: some d :: r) M) : ZG c (gName 23) d (a0 :: a1 :: a2 :: a3 :: a4 :: a5 :: a6 :: a7 :: a8 :: a9 :: a10 :: a11 :: a12 :: a13 :: a14 :: a15 :: a16 :: a17 :: a18 :: a19 :: a20 :: a21 :: a22 :: a :: r) M kg := zg_name h
theorem zv24 {a0 a1 a2 a3 a4 a5 a6 a7 a8 a9 a10 a11 a12 a13 a14 a15 a16 a17 a18 a19 a20 a21 a22 a23 : Option D} (h : k d M) : ZE c (tVar 24) (a0 :: a1 :: a2 :: a3 :: a4 :: a5 :: a6 :: a7 :: a8 :: a9 :: a10 :: a11 :: a12 :: a13 :: a14 :: a15 :: a16 :: a17 :: a18 :: a19 :: a20 :: a21 :: a22 :: a23 :: some d :: r) M k := z_var rfl h
theorem zg24 {a0 a1 a2 a3 a4 a5 a6 a7 a8 a9 a10 a11 a12 a13 a14 a15 a16 a17 a18 a19 a20 a21 a22 a23 : Option D} {a : Option D} (h : kg (a0 :: a1 :: a2 :: a3 :: a4 :: a5 :: a6 :: a7 :: a8 :: a9 :: a10 :: a11 :: a12 :: a13 :: a14 :: a15 :: a16 :: a17 :: a18 :: a19 :: a20 :: a21 :: a22 :: a23 :: some d :: r) M) : ZG c (gName 24) d (a0 :: a1 :: a2 :: a3 :: a4 :: a5 :: a6 :: a7 :: a8 :: a9 :: a10 :: a11 :: a12 :: a13 :: a14 :: a15 :: a16 :: a17 :: a18 :: a19 :: a20 :: a21 :: a22 :: a23 :: a :: r) M kg := zg_name h
theorem zv25 {a0 a1 a2 a3 a4 a5 a6 a7 a8 a9 a10 a11 a12 a13 a14 a15 a16 a17 a18 a19 a20 a21 a22 a23 a24 : Option D} (h : k d M) : ZE c (tVar 25) (a0 :: a1 :: a2 :: a3 :: a4 :: a5 :: a6 :: a7 :: a8 :: a9 :: a10 :: a11 :: a12 :: a13 :: a14 :: a15 :: a16 :: a17 :: a18 :: a19 :: a20 :: a21 :: a22 :: a23 :: a24 :: some d :: r) M k := z_var rfl h
theorem zg25 {a0 a1 a2 a3 a4 a5 a6 a7 a8 a9 a10 a11 a12 a13 a14 a15 a16 a17 a18 a19 a20 a21 a22 a23 a24 : Option D} {a : Option D} (h : kg (a0 :: a1 :: a2 :: a3 :: a4 :: a5 :: a6 :: a7 :: a8 :: a9 :: a10 :: a11 :: a12 :: a13 :: a14 :: a15 :: a16 :: a17 :: a18 :: a19 :: a20 :: a21 :: a22 :: a23 :: a24 :: some d :: r) M) : ZG c (gName 25) d (a0 :: a1 :: a2 :: a3 :: a4 :: a5 :: a6 :: a7 :: a8 :: a9 :: a10 :: a11 :: a12 :: a13 :: a14 :: a15 :: a16 :: a17 :: a18 :: a19 :: a20 :: a21 :: a22 :: a23 :: a24 :: a :: r) M kg := zg_name h
theorem zv26 {a0 a1 a2 a3 a4 a5 a6 a7 a8 a9 a10 a11 a12 a13 a14 a15 a16 a17 a18 a19 a20 a21 a22 a23 a24 a25 : Option D} (h : k d M) : ZE c (tVar 26) (a0 :: a1 :: a2 :: a3 :: a4 :: a5 :: a6 :: a7 :: a8 :: a9 :: a10 :: a11 :: a12 :: a13 :: a14 :: a15 :: a16 :: a17 :: a18 :: a19 :: a20 :: a21 :: a22 :: a23 :: a24 :: a25 :: some d :: r) M k := z_var rfl h
theorem zg26 {a0 a1 a2 a3 a4 a5 a6 a7 a8 a9 a10 a11 a12 a13 a14 a15 a16 a17 a18 a19 a20 a21 a22 a23 a24 a25 : Option D} {a : Option D} (h : kg (a0 :: a1 :: a2 :: a3 :: a4 :: a5 :: a6 :: a7 :: a8 :: a9 :: a10 :: a11 :: a12 :: a13 :: a14 :: a15 :: a16 :: a17 :: a18 :: a19 :: a20 :: a21 :: a22 :: a23 :: a24 :: a25 :: some d :: r) M) : ZG c (gName 26) d (a0 :: a1 :: a2 :: a3 :: a4 :: a5 :: a6 :: a7 :: a8 :: a9 :: a10 :: a11 :: a12 :: a13 :: a14 :: a15 :: a16 :: a17 :: a18 :: a19 :: a20 :: a21 :: a22 :: a23 :: a24 :: a25 :: a :: r) M kg := zg_name h
theorem zv27 {a0 a1 a2 a3 a4 a5 a6 a7 a8 a9 a10 a11 a12 a13 a14 a15 a16 a17 a18 a19 a20 a21 a22 a23 a24 a25 a26 : Option D} (h : k d M) : ZE c (tVar 27) (a0 :: a1 :: a2 :: a3 :: a4 :: a5 :: a6 :: a7 :: a8 :: a9 :: a10 :: a11 :: a12 :: a13 :: a14 :: a15 :: a16 :: a17 :: a18 :: a19 :: a20 :: a21 :: a22 :: a23 :: a24 :: a25 :: a26 :: some d :: r) M k := z_var rfl h
theorem zg27 {a0 a1 a2 a3 a4 a5 a6 a7 a8 a9 a10 a11 a12 a13 a14 a15 a16 a17 a18 a19 a20 a21 a22 a23 a24 a25 a26 : Option D} {a : Option D} (h : kg (a0 :: a1 :: a2 :: a3 :: a4 :: a5 :: a6 :: a7 :: a8 :: a9 :: a10 :: a11 :: a12 :: a13 :: a14 :: a15 :: a16 :: a17 :: a18 :: a19 :: a20 :: a21 :: a22 :: a23 :: a24 :: a25 :: a26 :: some d :: r) M) : ZG c (gName 27) d (a0 :: a1 :: a2 :: a3 :: a4 :: a5 :: a6 :: a7 :: a8 :: a9 :: a10 :: a11 :: a12 :: a13 :: a14 :: a15 :: a16 :: a17 :: a18 :: a19 :: a20 :: a21 :: a22 :: a23 :: a24 :: a25 :: a26 :: a :: r) M kg := zg_name h
theorem zv28 {a0 a1 a2 a3 a4 a5 a6 a7 a8 a9 a10 a11 a12 a13 a14 a15 a16 a17 a18 a19 a20 a21 a22 a23 a24 a25 a26 a27 : Option D} (h : k d M) : ZE c (tVar 28) (a0 :: a1 :: a2 :: a3 :: a4 :: a5 :: a6 :: a7 :: a8 :: a9 :: a10 :: a11 :: a12 :: a13 :: a14 :: a15 :: a16 :: a17 :: a18 :: a19 :: a20 :: a21 :: a22 :: a23 :: a24 :: a25 :: a26 :: a27 :: some d :: r) M k := z_var rfl h
theorem zg28 {a0 a1 a2 a3 a4 a5 a6 a7 a8 a9 a10 a11 a12 a13 a14 a15 a16 a17 a18 a19 a20 a21 a22 a23 a24 a25 a26 a27 : Option D} {a : Option D} (h : kg (a0 :: a1 :: a2 :: a3 :: a4 :: a5 :: a6 :: a7 :: a8 :: a9 :: a10 :: a11 :: a12 :: a13 :: a14 :: a15 :: a16 :: a17 :: a18 :: a19 :: a20 :: a21 :: a22 :: a23 :: a24 :: a25 :: a26 :: a27 :: some d :: r) M) : ZG c (gName 28) d (a0 :: a1 :: a2 :: a3 :: a4 :: a5 :: a6 :: a7 :: a8 :: a9 :: a10 :: a11 :: a12 :: a13 :: a14 :: a15 :: a16 :: a17 :: a18 :: a19 :: a20 :: a21 :: a22 :: a23 :: a24 :: a25 :: a26 :: a27 :: a :: r) M kg := zg_name h
theorem zv29 {a0 a1 a2 a3 a4 a5 a6 a7 a8 a9 a10 a11 a12 a13 a14 a15 a16 a17 a18 a19 a20 a21 a22 a23 a24 a25 a26 a27 a28 : Option D} (h : k d M) : ZE c (tVar 29) (a0 :: a1 :: a2 :: a3 :: a4 :: a5 :: a6 :: a7 :: a8 :: a9 :: a10 :: a11 :: a12 :: a13 :: a14 :: a15 :: a16 :: a17 :: a18 :: a19 :: a20 :: a21 :: a22 :: a23 :: a24 :: a25 :: a26 :: a27 :: a28 :: some d :: r) M k := z_var rfl h
theorem zg29 {a0 a1 a2 a3 a4 a5 a6 a7 a8 a9 a10 a11 a12 a13 a14 a15 a16 a17 a18 a19 a20 a21 a22 a23 a24 a25 a26 a27 a28 : Option D} {a : Option D} (h : kg (a0 :: a1 :: a2 :: a3 :: a4 :: a5 :: a6 :: a7 :: a8 :: a9 :: a10 :: a11 :: a12 :: a13 :: a14 :: a15 :: a16 :: a17 :: a18 :: a19 :: a20 :: a21 :: a22 :: a23 :: a24 :: a25 :: a26 :: a27 :: a28 :: some d :: r) M) : ZG c (gName 29) d (a0 :: a1 :: a2 :: a3 :: a4 :: a5 :: a6 :: a7 :: a8 :: a9 :: a10 :: a11 :: a12 :: a13 :: a14 :: a15 :: a16 :: a17 :: a18 :: a19 :: a20 :: a21 :: a22 :: a23 :: a24 :: a25 :: a26 :: a27 :: a28 :: a :: r) M kg := zg_name h
end
end Z
set_option Elab.async false
set_option linter.all false
set_option maxRecDepth 100000
set_option maxHeartbeats 4000000
/-! YBase: the walk against a mirror: h says that the mirror's rest gives out. -/
namespace Z
open PySem PySem.Spec PyProof.Rows L2
/-! ### peeling -/
theorem ob {α β : Type} {m : Option α} {f : α → Option β} {o : β} {P : Prop} (h : m.bind f = some o) (k : ∀ v, m = some v → f v = some o → P) : P := by
  obtain ⟨v, h1, h2⟩ := Option.bind_eq_some_iff.mp h
  exact k v h1 h2
theorem obp {α β γ : Type} {m : Option (α × β)} {f : α → β → Option γ} {o : γ} {P : Prop} (h : bp m f = some o) (k : ∀ a b, m = some (a, b) → f a b = some o → P) : P := by
  unfold bp at h
  obtain ⟨⟨a, b⟩, h1, h2⟩ := Option.bind_eq_some_iff.mp h
  exact k a b h1 h2
theorem obp3 {α β δ γ : Type} {m : Option (α × β × δ)} {f : α → β × δ → Option γ} {o : γ} {P : Prop} (h : bp m f = some o) (k : ∀ a b c, m = some (a, b, c) → f a (b, c) = some o → P) : P := by
  unfold bp at h
  obtain ⟨⟨a, b, c⟩, h1, h2⟩ := Option.bind_eq_some_iff.mp h
  exact k a b c h1 h2
theorem ifT {α : Type} {b : Bool} {x y : α} {o : α} (hb : b = true) (h : (if b = true then x else y) = o) : x = o := by rw [if_pos hb] at h; exact h
theorem ifF {α : Type} {b : Bool} {x y : α} {o : α} (hb : b = false) (h : (if b = true then x else y) = o) : y = o := by rw [hb] at h; exact h
theorem nT {b : Bool} (h : (!b) = true) : b = false := by cases b <;> simp_all
theorem nF {b : Bool} (h : (!b) = false) : b = true := by cases b <;> simp_all
/-! ### what a slot's datum stands for -/
inductive View (M : Mem) : D → D → Prop
  | eq {d : D} : View M d d
  | «at» {a : Addr} {ds : List D} (i : Nat) (h : M[i]? = some (a, .lst ds)) : View M (.at a) (.lst ds)
section
variable {M : Mem} {dx x dy y : D} {ds : List D}
theorem View.int {i : Int} (v : View M dx (.int i)) : dx = .int i := by cases v; rfl
theorem View.bl {i : Bool} (v : View M dx (.bl i)) : dx = .bl i := by cases v; rfl
theorem View.str {i : Str} (v : View M dx (.str i)) : dx = .str i := by cases v; rfl
theorem View.tup {i : List D} (v : View M dx (.tup i)) : dx = .tup i := by cases v; rfl
theorem View.scr {i : List D} (v : View M dx (.scr i)) : dx = .scr i := by cases v; rfl
theorem View.lstSt (v : View M dx (.lst ds)) : St M dx ds := by
  cases v with
  | eq => exact .lst
  | «at» i h => exact .at i h
theorem View.sq (v : View M dx x) (h : items x = some ds) : Sq M dx ds := by
  cases v with
  | eq =>
    cases dx <;> cases h
    · exact .tup
    · exact .lst
    · exact .scr
  | «at» i h2 => cases h; exact .at i h2
theorem View.sl (v : View M dx x) (h : itemsL x = some ds) : Sl M dx ds := by
  cases v with
  | eq =>
    cases dx <;> cases h
    · exact .lst
    · exact .scr
  | «at» i h2 => cases h; exact .at i h2
theorem View.non (v : View M dx x) : isNon dx = isNon x := by
  cases v <;> rfl
end
variable {c : Cz}
section
variable {M : Mem} {k : D → Mem → Prop} {dx x dy y z : D} {ds : List D} {b : Bool} {lo hi : Option Int}
/-! ### operators -/
theorem y_add (vx : View M dx x) (vy : View M dy y) (h : dAdd x y = some z) (hk : k z M) : ZR c (rAddZ c.K) dx dy M k := by
  unfold dAdd at h
  split at h
  · rw [vx.int, vy.int]; cases h; exact zr_addI hk
  · obtain ⟨h1, rfl⟩ := gd_some h
    rw [vx.tup, vy.tup]; exact zr_addT (of_decide_eq_true h1) hk
  · obtain ⟨h1, rfl⟩ := gd_some h
    exact zr_addL vx.lstSt vy.lstSt (of_decide_eq_true h1) hk
  · obtain ⟨h1, rfl⟩ := gd_some h
    rw [vx.str, vy.str]; exact zr_addS (of_decide_eq_true h1) hk
  · cases h
theorem y_sub (vx : View M dx x) (vy : View M dy y) (h : dSub x y = some z) (hk : k z M) : ZR c rSubZ dx dy M k := by
  unfold dSub at h
  split at h
  · rw [vx.int, vy.int]; cases h; exact zr_sub hk
  · cases h
theorem y_mul (vx : View M dx x) (vy : View M dy y) (h : dMul x y = some z) (hk : k z M) : ZR c rMulZ dx dy M k := by
  unfold dMul at h
  split at h
  · obtain ⟨h1, rfl⟩ := gd_some h
    rw [vx.int, vy.int]; exact zr_mulI (mulB_ok h1) hk
  · obtain ⟨h1, rfl⟩ := gd_some h
    unfold repB at h1
    rw [Bool.and_eq_true, Bool.and_eq_true] at h1
    rw [vy.int]; exact zr_repL vx.lstSt (of_decide_eq_true h1.1.1) (of_decide_eq_true h1.1.2) (of_decide_eq_true h1.2) hk
  · cases h
theorem y_mod (vx : View M dx x) (vy : View M dy y) (h : dMod x y = some z) (hk : k z M) : ZR c rModZ dx dy M k := by
  unfold dMod at h
  split at h
  · obtain ⟨h1, rfl⟩ := gd_some h
    rw [vx.int, vy.int]; exact zr_mod (of_decide_eq_true h1) hk
  · cases h
theorem y_div (vx : View M dx x) (vy : View M dy y) (h : dDiv x y = some z) (hk : k z M) : ZR c rDivZ dx dy M k := by
  unfold dDiv at h
  split at h
  · obtain ⟨h1, rfl⟩ := gd_some h
    rw [vx.int, vy.int]; exact zr_div (divB_ok h1) hk
  · cases h
theorem y_pow (vx : View M dx x) (vy : View M dy y) (h : dPow x y = some z) (hk : k z M) : ZR c rPowZ dx dy M k := by
  unfold dPow at h
  split at h
  · obtain ⟨h1, rfl⟩ := gd_some h
    rw [vx.int, vy.int]; exact zr_pow (powB_ok h1) hk
  · cases h
theorem y_neg (vx : View M dx x) (h : dNeg x = some z) (hk : k z M) : ZU c uNegZ dx M k := by
  unfold dNeg at h
  split at h
  · rw [vx.int]; cases h; exact zu_neg hk
  · cases h
theorem y_lt (vx : View M dx x) (vy : View M dy y) (h : bLt x y = some b) (hk : k (.bl b) M) : ZR c rLtZ dx dy M k := by
  unfold bLt at h
  split at h
  · rw [vx.int, vy.int]; cases h; exact zr_lt hk
  · cases h
theorem y_le (vx : View M dx x) (vy : View M dy y) (h : bLe x y = some b) (hk : k (.bl b) M) : ZR c rLeZ dx dy M k := by
  unfold bLe at h
  split at h
  · rw [vx.int, vy.int]; cases h; exact zr_le hk
  · cases h
theorem y_gt (vx : View M dx x) (vy : View M dy y) (h : bGt x y = some b) (hk : k (.bl b) M) : ZR c rGtZ dx dy M k := by
  unfold bGt at h
  split at h
  · rw [vx.int, vy.int]; cases h; exact zr_gt hk
  · cases h
theorem y_ge (vx : View M dx x) (vy : View M dy y) (h : bGe x y = some b) (hk : k (.bl b) M) : ZR c rGeZ dx dy M k := by
  unfold bGe at h
  split at h
  · rw [vx.int, vy.int]; cases h; exact zr_ge hk
  · cases h
theorem View.pd {p : PyData} (v : View M dx x) (h : toPy x = some p) : Pd M dx p := by
  cases v with
  | eq => exact toPy_pd _ p h
  | «at» i hi =>
    unfold toPy at h
    obtain ⟨q, hq, rfl⟩ := Option.map_eq_some_iff.mp h
    exact .at hi (toPys_pd _ q hq)
theorem eqP_ok (vx : View M dx x) (vy : View M dy y) (h : bEqP x y = some b) : ∃ p q, Pd M dx p ∧ Pd M dy q ∧ SeqAt.shaped p = true ∧ SeqAt.shaped q = true ∧ b = PyData.eqv p q := by
  unfold bEqP at h
  obtain ⟨p, h1, h⟩ := Option.bind_eq_some_iff.mp h
  obtain ⟨q, h2, h⟩ := Option.bind_eq_some_iff.mp h
  split at h
  · rename_i hs
    rw [Bool.and_eq_true] at hs
    cases h
    exact ⟨p, q, vx.pd h1, vy.pd h2, hs.1, hs.2, rfl⟩
  · cases h
theorem y_eq (vx : View M dx x) (vy : View M dy y) (h : bEq x y = some b) (hk : k (.bl b) M) : ZR c (rEqZ c.K) dx dy M k := by
  unfold bEq at h
  split at h
  · rw [vx.int, vy.int]; cases h; exact zr_eqI hk
  · rw [vx.bl, vy.bl]; cases h; exact zr_eqB hk
  · rw [vx.str, vy.str]; cases h; exact zr_eqS hk
  all_goals
    obtain ⟨p, q, h1, h2, h3, h4, rfl⟩ := eqP_ok vx vy h
    exact zr_eqD h1 h2 h3 h4 hk
theorem y_ne (vx : View M dx x) (vy : View M dy y) (h : bNe x y = some b) (hk : k (.bl b) M) : ZR c (rNeZ c.K) dx dy M k := by
  unfold bNe at h
  obtain ⟨b', h', rfl⟩ := Option.map_eq_some_iff.mp h
  clear h
  unfold bEq at h'
  split at h'
  · rw [vx.int, vy.int]; cases h'; exact zr_neI hk
  · rw [vx.bl, vy.bl]; cases h'; exact zr_neB hk
  · rw [vx.str, vy.str]; cases h'; exact zr_neS hk
  all_goals
    obtain ⟨p, q, h1, h2, h3, h4, rfl⟩ := eqP_ok vx vy h'
    exact zr_neD h1 h2 h3 h4 hk
theorem y_isN (vx : View M dx x) (hk : k (.bl (isNon x)) M) : ZR c rIsNZ dx .non M k := zr_isN (by rw [vx.non]; exact hk)
theorem y_notN (vx : View M dx x) (hk : k (.bl (!isNon x)) M) : ZR c rNotNZ dx .non M k := zr_notN (by rw [vx.non]; exact hk)
theorem y_in (vx : View M dx x) (vy : View M dy y) (h : bIn x y = some b) (hk : k (.bl b) M) : ZR c (rInZ c.K) dx dy M k := by
  unfold bIn at h
  split at h
  · obtain ⟨ds, h1, h⟩ := Option.bind_eq_some_iff.mp h
    obtain ⟨ns, h2, h⟩ := Option.bind_eq_some_iff.mp h
    cases h
    rw [vx.int]
    exact zr_inI (by rw [← asInts_eq h2]; exact vy.sq h1) hk
  · cases h
theorem y_notIn (vx : View M dx x) (vy : View M dy y) (h : bIn x y = some b) (hk : k (.bl (!b)) M) : ZR c (rNotInZ c.K) dx dy M k := by
  unfold bIn at h
  split at h
  · obtain ⟨ds, h1, h⟩ := Option.bind_eq_some_iff.mp h
    obtain ⟨ns, h2, h⟩ := Option.bind_eq_some_iff.mp h
    cases h
    rw [vx.int]
    exact zr_notInI (by rw [← asInts_eq h2]; exact vy.sq h1) hk
  · cases h
theorem y_ix (vx : View M dx x) (vy : View M dy y) (h : dIx x y = some z) (hk : k z M) : ZR c (rIxZ c.K) dx dy M k := by
  unfold dIx at h
  split at h
  · rw [vy.int]; exact zr_ix (vx.sq rfl) h hk
  · rw [vy.int]; exact zr_ix (vx.sq rfl) h hk
  · rw [vy.int]; exact zr_ix (vx.sq rfl) h hk
  · rw [vx.str, vy.int]
    split at h
    · rename_i hz
      obtain ⟨n, hn, rfl⟩ := Option.map_eq_some_iff.mp h
      exact zr_ixS hz hn hk
    · cases h
  · cases h
theorem y_slice (vx : View M dx x) (h : dSlice x lo hi = some z) (hk : k z M) : ZSl c (rSlZ c.K) dx lo hi M k := by
  unfold dSlice at h
  split at h
  · rw [vx.tup]; cases h; exact zl_tup hk
  · cases h; exact zl_list (vx.sl rfl) hk
  · cases h; exact zl_list (vx.sl rfl) hk
  · obtain ⟨h1, rfl⟩ := gd_some h
    rw [vx.str]; exact zl_str (of_decide_eq_true h1) hk
  · cases h
theorem zo_some' {te : TE} {Γ : Gm} {k : Option Int → Mem → Prop} (h : ZE c te Γ M fun d M1 => ∃ o, dPart d = some o ∧ k o M1) : ZO c (tPart te) Γ M k := zo_some (h.imp fun d M1 ⟨o, h1, h2⟩ => by
  unfold dPart at h1
  split at h1
  · cases h1; exact ⟨_, rfl, h2⟩
  · cases h1)
theorem y_truD (vx : View M dx x) (h : bTru x = some b) : TruD M dx b := by
  unfold bTru at h
  split at h <;> cases h
  · cases vx; exact .non
  · rw [vx.bl]; exact .bl _
  · rw [vx.int]; exact .int _
  · exact .sq (vx.sq rfl)
  · exact .sq (vx.sq rfl)
  · exact .sq (vx.sq rfl)
theorem dBl_some (h : dBl x = some b) : x = .bl b := by
  unfold dBl at h
  split at h
  · cases h; rfl
  · cases h
/-! ### built-ins -/
theorem y_len (vx : View M dx x) (h : dLen x = some z) (hk : k z M) : ZC c (rLenZ c.K) [dx] M k := by
  unfold dLen at h
  split at h
  · cases h; exact zc_len (vx.sq rfl) hk
  · cases h; exact zc_len (vx.sq rfl) hk
  · cases h; exact zc_len (vx.sq rfl) hk
  · obtain ⟨h1, rfl⟩ := gd_some h
    rw [vx.str]; exact zc_lenS (of_decide_eq_true h1) hk
  · cases h
theorem y_abs (h : dAbs x = some z) (hk : k z M) : ZC c rAbsZ [x] M k := by
  unfold dAbs at h
  split at h
  · cases h; exact zc_abs hk
  · cases h
theorem y_max2 (h : dMax2 x y = some z) (hk : k z M) : ZC c rMax2Z [x, y] M k := by
  unfold dMax2 at h
  split at h
  · cases h; exact zc_max2 hk
  · cases h
theorem y_min2 (h : dMin2 x y = some z) (hk : k z M) : ZC c rMin2Z [x, y] M k := by
  unfold dMin2 at h
  split at h
  · cases h; exact zc_min2 hk
  · cases h
theorem y_gcd (h : dGcd x y = some z) (hk : k z M) : ZC c rGcdZ [x, y] M k := by
  unfold dGcd at h
  split at h
  · cases h; exact zc_gcd hk
  · cases h
theorem y_lcm (h : dLcm x y = some z) (hk : k z M) : ZC c rLcmZ [x, y] M k := by
  unfold dLcm at h
  split at h
  · obtain ⟨h1, rfl⟩ := gd_some h
    unfold lcmB at h1
    rw [Bool.and_eq_true, Bool.and_eq_true] at h1
    exact zc_lcm (of_decide_eq_true h1.1.1) (of_decide_eq_true h1.1.2) (of_decide_eq_true h1.2) hk
  · cases h
theorem y_int (h : dInt x = some z) (hk : k z M) : ZC c rIntZ [x] M k := by
  unfold dInt at h
  split at h
  · cases h; exact zc_int hk
  · cases h; exact zc_intB hk
  · cases h
theorem y_sum (vx : View M dx x) (h : dSum x = some z) (hk : k z M) : ZC c (rSumZ c.K) [dx] M k := by
  unfold dSum at h
  obtain ⟨ds, h1, h⟩ := Option.bind_eq_some_iff.mp h
  obtain ⟨ns, h2, h⟩ := Option.bind_eq_some_iff.mp h
  cases h
  exact zc_sum (by rw [← asInts_eq h2]; exact vx.sl h1) hk
theorem y_all (vx : View M dx x) (h : dAll x = some z) (hk : k z M) : ZC c (rAllZ c.K) [dx] M k := by
  unfold dAll at h
  obtain ⟨ds, h1, h⟩ := Option.bind_eq_some_iff.mp h
  obtain ⟨ns, h2, h⟩ := Option.bind_eq_some_iff.mp h
  cases h
  exact zc_all (by rw [← asBls_eq h2]; exact vx.sl h1) hk
theorem y_any (vx : View M dx x) (h : dAny x = some z) (hk : k z M) : ZC c (rAnyZ c.K) [dx] M k := by
  unfold dAny at h
  obtain ⟨ds, h1, h⟩ := Option.bind_eq_some_iff.mp h
  obtain ⟨ns, h2, h⟩ := Option.bind_eq_some_iff.mp h
  cases h
  exact zc_any (by rw [← asBls_eq h2]; exact vx.sl h1) hk
theorem y_list (vx : View M dx x) (h : dList x = some z) (hk : k z M) : ZC c (rListZ c.K) [dx] M k := by
  unfold dList at h
  obtain ⟨ds, h1, h⟩ := Option.bind_eq_some_iff.mp h
  cases h
  exact zc_list (vx.sq h1) hk
theorem y_tuple (vx : View M dx x) (h : dTuple x = some z) (hk : k z M) : ZC c (rTupZ c.K) [dx] M k := by
  unfold dTuple at h
  obtain ⟨ds, h1, h⟩ := Option.bind_eq_some_iff.mp h
  cases h
  cases vx with
  | eq =>
    cases dx <;> cases h1
    · exact zc_tupleT hk
    · exact zc_tuple .lst hk
    · exact zc_tuple .scr hk
  | «at» i hi => cases h1; exact zc_tuple (.at i hi) hk
theorem y_isi {u : String} (vx : View M dx x) (h : bIsi x u = some b) (hk : k (.bl b) M) : ZC c (rIsiZ c.K) [dx, .ty u] M k := by
  unfold bIsi at h
  obtain ⟨t, h1, h⟩ := Option.bind_eq_some_iff.mp h
  have hk2 := isi_ok (tyD_mem h1) h
  cases vx with
  | eq => exact zc_isi h1 hk2 hk
  | «at» i hi => cases h1; exact zc_isiAt hi hk2 hk
end
/-! ### unpacking, iterators -/
section
variable {Γ : Gm} {M : Mem} {kg : Gm → Mem → Prop} {d a b e : D}
theorem zg_un2 {g1 g2 : TG} (h : un2 d = some (a, b)) (hk : ZG c g1 a Γ M fun Γ1 M1 => ZG c g2 b Γ1 M1 kg) : ZG c (gTup c.K 2 (gCons g1 (gCons g2 gNil))) d Γ M kg := by
  rw [un2_some h]
  exact zg_tup rfl (zgs_cons (fun R F σ H v Q hs L X r q => hk R F σ H v Q hs L X r fun σ' F' H' M' Γ' ee L' hs' h' => q σ' F' H' M' Γ' ee L' hs' (zgs_cons (fun R F σ H v Q hs L X r q => h' R F σ H v Q hs L X r fun σ' F' H' M' Γ' ee L' hs' h' => q σ' F' H' M' Γ' ee L' hs' (zgs_nil h')))))
theorem zg_un3 {g1 g2 g3 : TG} (h : un3 d = some (a, b, e)) (hk : ZG c g1 a Γ M fun Γ1 M1 => ZG c g2 b Γ1 M1 fun Γ2 M2 => ZG c g3 e Γ2 M2 kg) : ZG c (gTup c.K 3 (gCons g1 (gCons g2 (gCons g3 gNil)))) d Γ M kg := by
  rw [un3_some h]
  exact zg_tup rfl (zgs_cons (fun R F σ H v Q hs L X r q => hk R F σ H v Q hs L X r fun σ' F' H' M' Γ' ee L' hs' h' => q σ' F' H' M' Γ' ee L' hs' (zgs_cons (fun R F σ H v Q hs L X r q => h' R F σ H v Q hs L X r fun σ' F' H' M' Γ' ee L' hs' h' => q σ' F' H' M' Γ' ee L' hs' (zgs_cons (fun R F σ H v Q hs L X r q => h' R F σ H v Q hs L X r fun σ' F' H' M' Γ' ee L' hs' h' => q σ' F' H' M' Γ' ee L' hs' (zgs_nil h')))))))
variable {kk : List D → Mem → Prop} {ds : List D}
theorem y_sf (h : itSeq d = some ds) : Sf d ds := by
  unfold itSeq at h
  cases d <;> cases h
  · exact .tup
  · exact .lst
  · exact .scr
theorem rngB_ok {i : Int} (h : rngB i = true) : -(2 ^ 62) ≤ i ∧ i < 2 ^ 62 := by
  unfold rngB at h
  rw [Bool.and_eq_true] at h
  exact ⟨of_decide_eq_true h.1, of_decide_eq_true h.2⟩
theorem zi_rng1' {ta : TA} (h : ZA c ta Γ M fun xs M1 => ∃ d ds, xs = [d] ∧ itRng1 d = some ds ∧ kk ds M1) : ZI c (iRng1 ta) Γ M kk := zi_rng1 (h.imp fun xs M1 ⟨d, ds, e, h1, h2⟩ => by
  subst e
  unfold itRng1 at h1
  split at h1
  · split at h1
    · rename_i hr
      cases h1
      obtain ⟨h3, h4⟩ := rngB_ok hr
      exact ⟨_, rfl, h3, h4, h2⟩
    · cases h1
  · cases h1)
theorem zi_rng2' {ta : TA} (h : ZA c ta Γ M fun xs M1 => ∃ d e ds, xs = [d, e] ∧ itRng2 d e = some ds ∧ kk ds M1) : ZI c (iRng2 ta) Γ M kk := zi_rng2 (h.imp fun xs M1 ⟨d, d', ds, e, h1, h2⟩ => by
  subst e
  unfold itRng2 at h1
  split at h1
  · split at h1
    · rename_i hr
      rw [Bool.and_eq_true] at hr
      cases h1
      exact ⟨_, _, rfl, ⟨(rngB_ok hr.1).1, (rngB_ok hr.1).2, (rngB_ok hr.2).1, (rngB_ok hr.2).2⟩, h2⟩
    · cases h1
  · cases h1)
theorem zi_enum' {ta : TA} (h : ZA c ta Γ M fun xs M1 => ∃ d ds, xs = [d] ∧ itEnum d = some ds ∧ kk ds M1) : ZI c (iEnumZ c.K ta) Γ M kk := zi_enum (h.imp fun xs M1 ⟨d, ds, e, h1, h2⟩ => by
  subst e
  unfold itEnum at h1
  obtain ⟨ys, h3, h1⟩ := Option.bind_eq_some_iff.mp h1
  cases h1
  refine ⟨d, ys, rfl, ?_, h2⟩
  cases d <;> cases h3
  · exact .tup
  · exact .lst
  · exact .scr)
end
/-! ### weakening -/
structure Wk (Γ Γ' : Gm) : Prop where
  len : Γ'.length = Γ.length
  at_ : ∀ (i : Nat) (d : D), Γ'[i]? = some (some d) → Γ[i]? = some (some d)
theorem Wk.rfl {Γ : Gm} : Wk Γ Γ := ⟨Eq.refl _, fun _ _ h => h⟩
theorem Wk.nil : Wk [] [] := .rfl
theorem Wk.keep {Γ Γ' : Gm} {o : Option D} (h : Wk Γ Γ') : Wk (o :: Γ) (o :: Γ') := ⟨by rw [List.length_cons, List.length_cons, h.len], fun i d e => by
  cases i with
  | zero => exact e
  | succ i => rw [List.getElem?_cons_succ] at e ⊢; exact h.at_ i d e⟩
theorem Wk.drop {Γ Γ' : Gm} {o : Option D} (h : Wk Γ Γ') : Wk (o :: Γ) (none :: Γ') := ⟨by rw [List.length_cons, List.length_cons, h.len], fun i d e => by
  cases i with
  | zero => cases e
  | succ i => rw [List.getElem?_cons_succ] at e ⊢; exact h.at_ i d e⟩
theorem Wk.has {K : Fg} {F : Hp} {σ : L2.St} {Γ Γ' : Gm} (w : Wk Γ Γ') (h : Has K F σ Γ) : Has K F σ Γ' := h.weak w.len fun i d e => ⟨d, w.at_ i d e, fun _ r => r⟩
theorem zs_weak {t : TS} {Γ Γ' : Gm} {M : Mem} {DD : ZEnds} (w : Wk Γ Γ') (h : ZS c t Γ' M DD) : ZS c t Γ M DD := fun R F σ H D hs L X q => h R F σ H D (w.has hs) L X q
theorem zg_weak {g : TG} {d : D} {Γ Γ' : Gm} {M : Mem} {k : Gm → Mem → Prop} (w : Wk Γ Γ') (h : ZG c g d Γ' M k) : ZG c g d Γ M k := fun R F σ H v Q hs L X r q => h R F σ H v Q (w.has hs) L X r q
theorem zt_weak {t : TT} {Γ Γ' : Gm} {M : Mem} {k : Bool → Mem → Prop} (w : Wk Γ Γ') (h : ZT c t Γ' M k) : ZT c t Γ M k := fun R F σ H Q hs L X q => h R F σ H Q (w.has hs) L X q
/-! ### joins -/
section
variable {N S R α : Type} {Γ : Gm} {M : Mem} {DD : ZEnds} {t u : TS} {out : α}
structure NxH (Γs : N → Gm) (Ms : N → Mem) (nx : Gm → Mem → Prop) (s : N) : Prop where
  go : ∀ Γ', Wk Γ' (Γs s) → nx Γ' (Ms s)
theorem y_nx {Γs : N → Gm} {Ms : N → Mem} {s s0 : N} {nx nx' : Gm → Mem → Prop} {M : Mem} (h : some s = some s0) (J : NxH Γs Ms nx s0) (w : Wk Γ (Γs s)) (hM : Ms s = M) (hn : nx = nx') : nx' Γ M := by
  cases h; subst hM hn; exact J.go Γ w
theorem y_join (Γs : N → Gm) (Ms : N → Mem) {m1 : Option N} {mr : N → Option α} (h : m1.bind mr = some out)
    (h1 : ∀ s, m1 = some s → ∀ DD' : ZEnds, NxH Γs Ms DD'.nx s → ZS c t Γ M DD') (h2 : ∀ s, mr s = some out → ZS c u (Γs s) (Ms s) DD) : ZS c (tSeq t u) Γ M DD := by
  obtain ⟨s, e1, e2⟩ := Option.bind_eq_some_iff.mp h
  exact zs_seq (h1 s e1 _ ⟨fun Γ' w => zs_weak w (h2 s e2)⟩)
/-- expressions' joins -/
def OrK (c : Cz) (u : TT) (Γ : Gm) (M : Mem) (b : Bool) (k : Bool → Mem → Prop) : Prop := (b = true → k true M) ∧ (b = false → ZT c u Γ M k)
theorem zt_or' {t u : TT} {k : Bool → Mem → Prop} (h : ZT c t Γ M fun b M1 => OrK c u Γ M1 b k) : ZT c (tOr t u) Γ M k := zt_or h
def AndK (c : Cz) (u : TT) (Γ : Gm) (M : Mem) (b : Bool) (k : Bool → Mem → Prop) : Prop := (b = true → ZT c u Γ M k) ∧ (b = false → k false M)
theorem zt_and' {t u : TT} {k : Bool → Mem → Prop} (h : ZT c t Γ M fun b M1 => AndK c u Γ M1 b k) : ZT c (tAnd t u) Γ M k := zt_and h
def OrV (c : Cz) (u : TE) (Γ : Gm) (M : Mem) (b : Bool) (k : D → Mem → Prop) : Prop := (b = true → k (.bl true) M) ∧ (b = false → ZE c u Γ M k)
theorem z_orV' {ta tb : TE} {k : D → Mem → Prop} (h : ZE c ta Γ M fun d M1 => ∃ b, d = .bl b ∧ OrV c tb Γ M1 b k) : ZE c (tOrV ta tb) Γ M k := z_orV h
def AndV (c : Cz) (u : TE) (Γ : Gm) (M : Mem) (b : Bool) (k : D → Mem → Prop) : Prop := (b = true → ZE c u Γ M k) ∧ (b = false → k (.bl false) M)
theorem z_andV' {ta tb : TE} {k : D → Mem → Prop} (h : ZE c ta Γ M fun d M1 => ∃ b, d = .bl b ∧ AndV c tb Γ M1 b k) : ZE c (tAndV ta tb) Γ M k := z_andV h
def IfE (c : Cz) (ta tb : TE) (Γ : Gm) (M : Mem) (b : Bool) (k : D → Mem → Prop) : Prop := (b = true → ZE c ta Γ M k) ∧ (b = false → ZE c tb Γ M k)
theorem z_if' {t : TT} {ta tb : TE} {k : D → Mem → Prop} (h : ZT c t Γ M fun b M1 => IfE c ta tb Γ M1 b k) : ZE c (tIf t ta tb) Γ M k := z_if h
theorem y_ifE {ta tb : TE} {mA mB : Option D} {mr : D → Option α} {b : Bool} {k : D → Mem → Prop} (h : (if b = true then mA else mB).bind mr = some out) (hA : ∀ v, mA = some v → ∀ k' : D → Mem → Prop, k' v M → ZE c ta Γ M k') (hB : ∀ v, mB = some v → ∀ k' : D → Mem → Prop, k' v M → ZE c tb Γ M k')
    (hk : ∀ v, mr v = some out → k v M) : IfE c ta tb Γ M b k := by
  obtain ⟨v, e1, e2⟩ := Option.bind_eq_some_iff.mp h
  exact ⟨fun hb => hA v (ifT hb e1) k (hk v e2), fun hb => hB v (ifF hb e1) k (hk v e2)⟩
theorem y_lf {v v0 : D} {k : D → Mem → Prop} (h : some v = some v0) (hk : k v0 M) : k v M := by cases h; exact hk
theorem y_lfB {v v0 : Bool} {k : Bool → Mem → Prop} (h : some v = some v0) (hk : k v0 M) : k v M := by cases h; exact hk
theorem y_and {tb : TT} {m2 : Option Bool} {mr : Bool → Option α} {b : Bool} {k : Bool → Mem → Prop} (h : (if b = true then m2 else some false).bind mr = some out) (h2 : ∀ v, m2 = some v → ∀ k' : Bool → Mem → Prop, k' v M → ZT c tb Γ M k')
    (hk : ∀ v, mr v = some out → k v M) : AndK c tb Γ M b k := by
  obtain ⟨v, e1, e2⟩ := Option.bind_eq_some_iff.mp h
  exact ⟨fun hb => h2 v (ifT hb e1) k (hk v e2), fun hb => by cases (ifF hb e1); exact hk _ e2⟩
theorem y_or {tb : TT} {m2 : Option Bool} {mr : Bool → Option α} {b : Bool} {k : Bool → Mem → Prop} (h : (if b = true then some true else m2).bind mr = some out) (h2 : ∀ v, m2 = some v → ∀ k' : Bool → Mem → Prop, k' v M → ZT c tb Γ M k')
    (hk : ∀ v, mr v = some out → k v M) : OrK c tb Γ M b k := by
  obtain ⟨v, e1, e2⟩ := Option.bind_eq_some_iff.mp h
  exact ⟨fun hb => by cases (ifT hb e1); exact hk _ e2, fun hb => h2 v (ifF hb e1) k (hk v e2)⟩
theorem y_andX {tb : TT} (Ms : S → Mem) {m2 : Option (Bool × S)} {mr : Bool → S → Option α} {b : Bool} {s : S} {k : Bool → Mem → Prop} (h : bp (if b = true then m2 else some (false, s)) mr = some out) (h2 : ∀ v s', m2 = some (v, s') → ∀ k' : Bool → Mem → Prop, k' v (Ms s') → ZT c tb Γ (Ms s) k')
    (hM : Ms s = M) (hk : ∀ v s', mr v s' = some out → k v (Ms s')) : AndK c tb Γ M b k := by
  subst hM
  unfold bp at h
  obtain ⟨⟨v, s'⟩, e1, e2⟩ := Option.bind_eq_some_iff.mp h
  exact ⟨fun hb => h2 v s' (ifT hb e1) k (hk v s' e2), fun hb => by cases (ifF hb e1); exact hk _ _ e2⟩
theorem y_orX {tb : TT} (Ms : S → Mem) {m2 : Option (Bool × S)} {mr : Bool → S → Option α} {b : Bool} {s : S} {k : Bool → Mem → Prop} (h : bp (if b = true then some (true, s) else m2) mr = some out) (h2 : ∀ v s', m2 = some (v, s') → ∀ k' : Bool → Mem → Prop, k' v (Ms s') → ZT c tb Γ (Ms s) k')
    (hM : Ms s = M) (hk : ∀ v s', mr v s' = some out → k v (Ms s')) : OrK c tb Γ M b k := by
  subst hM
  unfold bp at h
  obtain ⟨⟨v, s'⟩, e1, e2⟩ := Option.bind_eq_some_iff.mp h
  exact ⟨fun hb => by cases (ifT hb e1); exact hk _ _ e2, fun hb => h2 v s' (ifF hb e1) k (hk v s' e2)⟩
theorem y_lfX {Ms : S → Mem} {v v0 : Bool} {s s0 : S} {k : Bool → Mem → Prop} (h : some (v, s) = some (v0, s0)) (hk : k v0 (Ms s0)) (hM : Ms s = M) : k v M := by cases h; subst hM; exact hk
theorem y_lfXD {Ms : S → Mem} {v v0 : D} {s s0 : S} {k : D → Mem → Prop} (h : some (v, s) = some (v0, s0)) (hk : k v0 (Ms s0)) (hM : Ms s = M) : k v M := by cases h; subst hM; exact hk
theorem y_andV {tb : TE} {m2 : Option D} {mr : D → Option α} {b : Bool} {k : D → Mem → Prop} (h : (if b = true then m2 else some (.bl false)).bind mr = some out) (h2 : ∀ v, m2 = some v → ∀ k' : D → Mem → Prop, k' v M → ZE c tb Γ M k')
    (hk : ∀ v, mr v = some out → k v M) : AndV c tb Γ M b k := by
  obtain ⟨v, e1, e2⟩ := Option.bind_eq_some_iff.mp h
  exact ⟨fun hb => h2 v (ifT hb e1) k (hk v e2), fun hb => by cases (ifF hb e1); exact hk _ e2⟩
theorem y_orV {tb : TE} {m2 : Option D} {mr : D → Option α} {b : Bool} {k : D → Mem → Prop} (h : (if b = true then some (.bl true) else m2).bind mr = some out) (h2 : ∀ v, m2 = some v → ∀ k' : D → Mem → Prop, k' v M → ZE c tb Γ M k')
    (hk : ∀ v, mr v = some out → k v M) : OrV c tb Γ M b k := by
  obtain ⟨v, e1, e2⟩ := Option.bind_eq_some_iff.mp h
  exact ⟨fun hb => by cases (ifT hb e1); exact hk _ e2, fun hb => h2 v (ifF hb e1) k (hk v e2)⟩
end
/-! ### loops -/
section
variable {S R α : Type} {Γ : Gm} {M : Mem} {DD : ZEnds} {u tb : TS} {g : TG} {out : α} {ds : List D}
theorem drop_cons {α : Type} {l : List α} {i : Nat} {d : α} (h : l[i]? = some d) : l.drop i = d :: l.drop (i + 1) := by
  obtain ⟨hi, e⟩ := List.getElem?_eq_some_iff.mp h
  rw [List.drop_eq_getElem_cons hi, e]
/-- a loop that only steps -/
theorem y_forO (Γs : S → Gm) (Ms : S → Mem) {f : S → D → Option S} {s0 : S} {mr : S → Option α} (h : (foldO f ds s0).bind mr = some out) (w : Wk Γ (Γs s0))
    (hb : ∀ s d s', f s d = some s' → ∀ DD' : ZEnds, NxH Γs Ms DD'.nx s' → ZG c g d (Γs s) (Ms s) fun Γ2 M2 => ZS c tb Γ2 M2 DD')
    (h2 : ∀ s, mr s = some out → ZS c u (Γs s) (Ms s) DD) (hM : Ms s0 = M) : ForK c g tb Γ { DD with nx := fun Γ' M' => ZS c u Γ' M' DD } ds M := by
  subst hM
  obtain ⟨se, e1, e2⟩ := Option.bind_eq_some_iff.mp h
  refine ⟨fun i Γ' M' => ∃ s, foldO f (ds.drop i) s = some se ∧ Wk Γ' (Γs s) ∧ M' = Ms s, ⟨s0, by rw [List.drop_zero]; exact e1, w, rfl⟩, ?_, ?_⟩
  · rintro i d Γ1 M1 hd ⟨s, hs, w1, rfl⟩
    rw [drop_cons hd] at hs
    unfold foldO at hs
    obtain ⟨s', h1, h3⟩ := Option.bind_eq_some_iff.mp hs
    exact zg_weak w1 (hb s d s' h1 _ ⟨fun Γ' w' => ⟨s', h3, w', rfl⟩⟩)
  · rintro Γ1 M1 ⟨s, hs, w1, rfl⟩
    rw [List.drop_length] at hs
    cases hs
    exact zs_weak w1 (h2 _ e2)
/-- what a part that may leave hands on -/
structure FlH {N : Type} (Γn : N → Gm) (Mn : N → Mem) (Γl : S → Gm) (Ml : S → Mem) (kd : R → D × Mem) (DD : ZEnds) (x : Fl N S R) : Prop where
  nx : ∀ n, x = .nx n → ∀ Γ', Wk Γ' (Γn n) → DD.nx Γ' (Mn n)
  ct : ∀ s, x = .ct s → ∀ Γ', Wk Γ' (Γl s) → DD.ct Γ' (Ml s)
  bk : ∀ s, x = .bk s → ∀ Γ', Wk Γ' (Γl s) → DD.bk Γ' (Ml s)
  rt : ∀ r, x = .rt r → ∀ G, DD.rt (kd r).1 (G ++ (kd r).2)
theorem y_forL (Γs : S → Gm) (Ms : S → Mem) (kd : R → D × Mem) {f : S → D → Option (Fl S S R)} {s0 : S} {res : Fl S S R} (h : forL f ds s0 = some res) (w : Wk Γ (Γs s0))
    (hb : ∀ s d x, f s d = some x → ∀ DD' : ZEnds, FlH Γs Ms Γs Ms kd DD' x → ZG c g d (Γs s) (Ms s) fun Γ2 M2 => ZS c tb Γ2 M2 DD')
    (hn : ∀ s, res = .nx s → ∀ Γ', Wk Γ' (Γs s) → DD.nx Γ' (Ms s)) (hr : ∀ r, res = .rt r → ∀ G, DD.rt (kd r).1 (G ++ (kd r).2)) : ForK c g tb Γ DD ds (Ms s0) := by
  refine ⟨fun i Γ' M' => ∃ s, forL f (ds.drop i) s = some res ∧ Wk Γ' (Γs s) ∧ M' = Ms s, ⟨s0, by rw [List.drop_zero]; exact h, w, rfl⟩, ?_, ?_⟩
  · rintro i d Γ1 M1 hd ⟨s, hs, w1, rfl⟩
    rw [drop_cons hd] at hs
    unfold forL at hs
    obtain ⟨x, h1, h3⟩ := Option.bind_eq_some_iff.mp hs
    refine zg_weak w1 (hb s d x h1 _ ⟨fun s' e Γ' w' => ?_, fun s' e Γ' w' => ?_, fun s' e Γ' w' => ?_, fun r e G => ?_⟩)
    · subst e; exact ⟨s', h3, w', rfl⟩
    · subst e; exact ⟨s', h3, w', rfl⟩
    · subst e; exact hn s' (Option.some.inj h3).symm Γ' w'
    · subst e; exact hr r (Option.some.inj h3).symm G
  · rintro Γ1 M1 ⟨s, hs, w1, rfl⟩
    rw [List.drop_length] at hs
    exact hn s (Option.some.inj hs).symm _ w1
theorem y_whl (Γs : S → Gm) (Ms : S → Mem) (kd : R → D × Mem) {t : TT} {f : S → Option (Fl S S R)} {s0 : S} {res : Fl S S R} (h : whl f s0 = some res) (w : Wk Γ (Γs s0))
    (hb : ∀ s x, f s = some x → ∀ DD' : ZEnds, FlH Γs Ms Γs Ms kd DD' x → ZT c t (Γs s) (Ms s) fun b M2 => (b = true → ZS c tb (Γs s) M2 DD') ∧ (b = false → ∀ Γ', Wk Γ' (Γs s) → DD'.bk Γ' M2))
    (hn : ∀ s, res = .nx s → ∀ Γ', Wk Γ' (Γs s) → DD.nx Γ' (Ms s)) (hr : ∀ r, res = .rt r → ∀ G, DD.rt (kd r).1 (G ++ (kd r).2)) : ZS c (tWhile t tb) Γ (Ms s0) DD := by
  obtain ⟨n, hn0⟩ := whl_ex h
  refine zs_while (fun m Γ' M' => ∃ s, whlN f m s = some res ∧ Wk Γ' (Γs s) ∧ M' = Ms s) n ⟨s0, hn0, w, rfl⟩ ?_
  rintro m Γ1 M1 ⟨s, hs, w1, rfl⟩
  cases m with
  | zero => cases hs
  | succ m =>
    unfold whlN at hs
    obtain ⟨x, h1, h3⟩ := Option.bind_eq_some_iff.mp hs
    have key := zt_weak w1 (hb s x h1 { DD with nx := fun Γ' M' => ∃ m', m' < m + 1 ∧ ∃ s, whlN f m' s = some res ∧ Wk Γ' (Γs s) ∧ M' = Ms s, ct := fun Γ' M' => ∃ m', m' < m + 1 ∧ ∃ s, whlN f m' s = some res ∧ Wk Γ' (Γs s) ∧ M' = Ms s, bk := DD.nx } ⟨fun s' e Γ' w' => ?_, fun s' e Γ' w' => ?_, fun s' e Γ' w' => ?_, fun r e G => ?_⟩)
    · refine key.imp fun b M2 ⟨k1, k2⟩ => ⟨fun hb => zs_weak w1 (k1 hb), fun hb => k2 hb _ w1⟩
    · subst e; exact ⟨m, Nat.lt_succ_self m, s', h3, w', rfl⟩
    · subst e; exact ⟨m, Nat.lt_succ_self m, s', h3, w', rfl⟩
    · subst e; exact hn s' (Option.some.inj h3).symm Γ' w'
    · subst e; exact hr r (Option.some.inj h3).symm G
end
end Z
set_option Elab.async false
set_option linter.all false
set_option maxRecDepth 100000
set_option maxHeartbeats 4000000
/-! YDef: comprehensions, lists that change, ends, defs. -/
namespace Z
open PySem PySem.Spec PyProof.Rows L2
/-! ### comprehensions -/
def lcO (f : D → Option D) (ds : List D) : Option (List D) := if ds.length ≤ sizeLine then mapO f ds else none
def lcS {S : Type} (f : S → D → Option (D × S)) (ds : List D) (s : S) : Option (List D × S) := if ds.length ≤ sizeLine then mapS f ds s else none
def lcF (f : D → Option (Option D)) (ds : List D) : Option (List D) := if ds.length ≤ sizeLine then filO f ds else none
theorem mapO_len {f : D → Option D} : ∀ {ds ys : List D}, mapO f ds = some ys → ys.length = ds.length
  | [], ys, h => by cases h; rfl
  | d :: ds, ys, h => by
    unfold mapO at h
    obtain ⟨y, h1, h⟩ := Option.bind_eq_some_iff.mp h
    obtain ⟨zs, h2, h⟩ := Option.bind_eq_some_iff.mp h
    cases h
    rw [List.length_cons, List.length_cons, mapO_len h2]
variable {c : Cz}
section
variable {S : Type} {Γ : Gm} {M : Mem} {kk : List D → Mem → Prop} {g : TG} {te : TE} {tt : TT} {vs : List Nat} {ds ys : List D}
theorem y_lcO {f : D → Option D} (h : lcO f ds = some ys) (hb : ∀ d y, f d = some y → ∀ k' : D → Mem → Prop, k' y M → ZG c g d (zwipe Γ vs) M fun Γ2 M2 => ZE c te Γ2 M2 k') (hk : kk ys M) : LcK c g tYes te vs Γ kk ds M := by
  unfold lcO at h
  split at h
  · rename_i hl
    refine ⟨hl, fun i acc M1 => M1 = M ∧ ∃ zs, mapO f (ds.drop i) = some zs ∧ acc ++ zs = ys, ⟨rfl, ys, by rw [List.drop_zero]; exact h, rfl⟩, fun i d acc M1 hd _ ⟨e1, zs, e2, e3⟩ => ?_, fun acc M1 ⟨e1, zs, e2, e3⟩ => ?_⟩
    · subst e1
      rw [drop_cons hd] at e2
      unfold mapO at e2
      obtain ⟨y, h1, e2⟩ := Option.bind_eq_some_iff.mp e2
      obtain ⟨ws, h2, e2⟩ := Option.bind_eq_some_iff.mp e2
      cases e2
      have key := hb d y h1 (fun y M4 => M4 = M1 ∧ ∃ zs, mapO f (ds.drop (i + 1)) = some zs ∧ (acc ++ [y]) ++ zs = ys) ⟨rfl, ws, h2, by rw [List.append_assoc]; exact e3⟩
      refine fun R F σ H v Q hs L X r q => key R F σ H v Q hs L X r fun σ' F' H' M' Γ' e L' hs' h' => q σ' F' H' M' Γ' e L' hs' ?_
      exact zt_yes ⟨fun _ => h', fun z => nomatch z⟩
    · subst e1
      rw [List.drop_length] at e2
      cases e2
      rw [List.append_nil] at e3
      subst e3; exact hk
  · cases h
theorem y_lcS (Ms : S → Mem) {f : S → D → Option (D × S)} {s s1 : S} (h : lcS f ds s = some (ys, s1)) (hb : ∀ s d y s', f s d = some (y, s') → ∀ k' : D → Mem → Prop, k' y (Ms s') → ZG c g d (zwipe Γ vs) (Ms s) fun Γ2 M2 => ZE c te Γ2 M2 k') (hM : Ms s = M) (hk : kk ys (Ms s1)) : LcK c g tYes te vs Γ kk ds M := by
  subst hM
  unfold lcS at h
  split at h
  · rename_i hl
    refine ⟨hl, fun i acc M1 => ∃ s zs, M1 = Ms s ∧ mapS f (ds.drop i) s = some (zs, s1) ∧ acc ++ zs = ys, ⟨s, ys, rfl, by rw [List.drop_zero]; exact h, rfl⟩, fun i d acc M1 hd _ ⟨s, zs, e1, e2, e3⟩ => ?_, fun acc M1 ⟨s, zs, e1, e2, e3⟩ => ?_⟩
    · subst e1
      rw [drop_cons hd] at e2
      unfold mapS bp at e2
      obtain ⟨⟨y, s'⟩, h1, e2⟩ := Option.bind_eq_some_iff.mp e2
      obtain ⟨⟨ws, s2⟩, h2, e2⟩ := Option.bind_eq_some_iff.mp e2
      cases e2
      have key := hb s d y s' h1 (fun y M4 => ∃ s zs, M4 = Ms s ∧ mapS f (ds.drop (i + 1)) s = some (zs, s2) ∧ (acc ++ [y]) ++ zs = ys) ⟨s', ws, rfl, h2, by rw [List.append_assoc]; exact e3⟩
      refine fun R F σ H v Q hs L X r q => key R F σ H v Q hs L X r fun σ' F' H' M' Γ' e L' hs' h' => q σ' F' H' M' Γ' e L' hs' ?_
      exact zt_yes ⟨fun _ => h', fun z => nomatch z⟩
    · subst e1
      rw [List.drop_length] at e2
      cases e2
      rw [List.append_nil] at e3
      subst e3; exact hk
  · cases h
theorem y_lcF {f : D → Option (Option D)} (h : lcF f ds = some ys) (hb : ∀ d r, f d = some r → ∀ (kT : D → Mem → Prop) (kF : Mem → Prop), (∀ y, r = some y → kT y M) → (r = none → kF M) → ZG c g d (zwipe Γ vs) M fun Γ2 M2 => ZT c tt Γ2 M2 fun b M3 => (b = true → ZE c te Γ2 M3 kT) ∧ (b = false → kF M3)) (hk : kk ys M) : LcK c g tt te vs Γ kk ds M := by
  unfold lcF at h
  split at h
  · rename_i hl
    refine ⟨hl, fun i acc M1 => M1 = M ∧ ∃ zs, filO f (ds.drop i) = some zs ∧ acc ++ zs = ys, ⟨rfl, ys, by rw [List.drop_zero]; exact h, rfl⟩, fun i d acc M1 hd _ ⟨e1, zs, e2, e3⟩ => ?_, fun acc M1 ⟨e1, zs, e2, e3⟩ => ?_⟩
    · subst e1
      rw [drop_cons hd] at e2
      unfold filO at e2
      obtain ⟨y, h1, e2⟩ := Option.bind_eq_some_iff.mp e2
      obtain ⟨ws, h2, e2⟩ := Option.bind_eq_some_iff.mp e2
      cases e2
      refine hb d y h1 (fun y M4 => M4 = M1 ∧ ∃ zs, filO f (ds.drop (i + 1)) = some zs ∧ (acc ++ [y]) ++ zs = ys) (fun M4 => M4 = M1 ∧ ∃ zs, filO f (ds.drop (i + 1)) = some zs ∧ acc ++ zs = ys) (fun z hz => ?_) (fun hz => ?_)
      · subst hz
        exact ⟨rfl, ws, h2, by rw [List.append_assoc]; exact e3⟩
      · subst hz
        exact ⟨rfl, ws, h2, e3⟩
    · subst e1
      rw [List.drop_length] at e2
      cases e2
      rw [List.append_nil] at e3
      subst e3; exact hk
  · cases h
theorem y_fT {y : D} {r : Option D} {kT : D → Mem → Prop} (h : some (some y) = some r) (k : ∀ y, r = some y → kT y M) : kT y M := k y (Option.some.inj h).symm
theorem y_fF {r : Option D} {kF : Mem → Prop} (h : some none = some r) (k : r = none → kF M) : kF M := k (Option.some.inj h).symm
end
/-! ### lists that change -/
def dApp (ds : List D) (d : D) : Option (List D) := if ds.length < sizeLine then some (ds ++ [d]) else none
def dExt (ds : List D) (d : D) : Option (List D) := match d with
  | .lst es => if ds.length + es.length ≤ sizeLine then some (ds ++ es) else none
  | _ => none
def dPop (ds : List D) : Option (D × List D) := (ds[ds.length - 1]?).map fun d => (d, ds.dropLast)
def dPopAt (ds : List D) : D → Option (D × List D)
  | .int z => if -(2 ^ 63) ≤ z ∧ z < 2 ^ 63 then (seqIndex? z ds.length).bind fun n => (ds[n]?).map fun d => (d, ds.eraseIdx n) else none
  | _ => none
def dIns (ds : List D) (x : D) (d : D) : Option (List D) := match x with
  | .int z => if ds.length < sizeLine ∧ 0 ≤ z ∧ z < 2 ^ 63 then some (ds.take z.toNat ++ [d] ++ ds.drop z.toNat) else none
  | _ => none
def dSet (ds : List D) (x : D) (d : D) : Option (List D) := match x with
  | .int z => (ixN ds.length z).map fun j => ds.set j d
  | _ => none
section
variable {M M' : Mem} {k : D → Mem → Prop} {i : Nat} {a : Addr} {ds ds' : List D} {d x : D}
theorem y_append (hi : M[i]? = some (a, .lst ds)) (h : dApp ds d = some ds') (hM : M.set i (a, .lst ds') = M') (hk : k .non M') : ZM c rAppend (.at a) [d] M k := by
  unfold dApp at h
  split at h
  · rename_i hl
    cases h
    subst hM
    exact zm_append hi hl hk
  · cases h
theorem y_extend (hi : M[i]? = some (a, .lst ds)) (v : View M x d) (h : dExt ds d = some ds') (hM : M.set i (a, .lst ds') = M') (hk : k .non M') : ZM c rExtend (.at a) [x] M k := by
  unfold dExt at h
  split at h
  · split at h
    · rename_i hl
      cases h
      subst hM
      exact zm_extend hi v.lstSt hl hk
    · cases h
  · cases h
theorem y_pop (hi : M[i]? = some (a, .lst ds)) (h : dPop ds = some (d, ds')) (hM : M.set i (a, .lst ds') = M') (hk : k d M') : ZM c rPop (.at a) [] M k := by
  unfold dPop at h
  obtain ⟨e, h1, h2⟩ := Option.map_eq_some_iff.mp h
  cases h2
  subst hM
  exact zm_pop hi h1 hk
theorem y_popAt (hi : M[i]? = some (a, .lst ds)) (h : dPopAt ds x = some (d, ds')) (hM : M.set i (a, .lst ds') = M') (hk : k d M') : ZM c rPopAt (.at a) [x] M k := by
  unfold dPopAt at h
  split at h
  · split at h
    · rename_i hz
      obtain ⟨n, h1, h⟩ := Option.bind_eq_some_iff.mp h
      obtain ⟨e, h2, h3⟩ := Option.map_eq_some_iff.mp h
      cases h3
      subst hM
      exact zm_popAt hi hz.1 hz.2 h1 h2 hk
    · cases h
  · cases h
theorem y_insert (hi : M[i]? = some (a, .lst ds)) (h : dIns ds x d = some ds') (hM : M.set i (a, .lst ds') = M') (hk : k .non M') : ZM c rInsZ (.at a) [x, d] M k := by
  unfold dIns at h
  split at h
  · split at h
    · rename_i hz
      cases h
      subst hM
      exact zm_insert hi hz.1 hz.2.1 hz.2.2 hk
    · cases h
  · cases h
theorem y_reverse (hi : M[i]? = some (a, .lst ds)) (hM : M.set i (a, .lst ds.reverse) = M') (hk : k .non M') : ZM c rReverse (.at a) [] M k := by
  subst hM; exact zm_reverse hi hk
theorem zg_setL' {to ti : TE} {Γ : Gm} {kg : Gm → Mem → Prop} (h : ZE c to Γ M fun o M1 => ZE c ti Γ M1 fun x M2 => ∃ a i ds ds' M', o = .at a ∧ M2[i]? = some (a, .lst ds) ∧ dSet ds x d = some ds' ∧ M2.set i (a, .lst ds') = M' ∧ kg Γ M') : ZG c (gSub to ti rSetL) d Γ M kg := zg_setL (h.imp fun o M1 h1 => h1.imp fun x M2 ⟨a, i, ds, ds', M', e, hi, hs, hM, hk⟩ => by
  subst e hM
  unfold dSet at hs
  split at hs
  · obtain ⟨j, h2, rfl⟩ := Option.map_eq_some_iff.mp hs
    exact ⟨a, i, ds, _, j, rfl, rfl, hi, h2, hk⟩
  · cases hs)
/-- lists made that may change -/
def dRgL : D → Option (List D)
  | .int n => if -(2 ^ 62) ≤ n ∧ n ≤ 2 ^ 24 then some (rngD 0 n.toNat) else none
  | _ => none
theorem dRgL_ok {d : D} {ds : List D} (h : dRgL d = some ds) : ∃ n, d = .int n ∧ RgOk 0 n ∧ ds = rngD 0 n.toNat := by
  unfold dRgL at h
  split at h
  · split at h
    · rename_i hr
      cases h
      obtain ⟨h1, h2⟩ := hr
      exact ⟨_, rfl, ⟨by omega, by omega, by omega, by omega, by omega⟩, rfl⟩
    · cases h
  · cases h
theorem z_rgF {te : TE} {Γ : Gm} (h : ZE c te Γ M fun d M1 => ∃ ds, dRgL d = some ds ∧ k (.lst ds) M1) : ZE c (tLstRg (tRg1 te)) Γ M k := z_listRg1 (h.imp fun d M1 ⟨ds, h1, h2⟩ => by
  obtain ⟨n, e1, e2, e3⟩ := dRgL_ok h1
  subst e3
  exact ⟨n, e1, e2, h2⟩)
theorem z_rgM {te : TE} {Γ : Gm} (h : ZE c te Γ M fun d M1 => ∃ ds, dRgL d = some ds ∧ ∀ p, k (.at p) ((p, .lst ds) :: M1)) : ZE c (tLstRg (tRg1 te)) Γ M k := z_listRg1M (h.imp fun d M1 ⟨ds, h1, h2⟩ => by
  obtain ⟨n, e1, e2, e3⟩ := dRgL_ok h1
  subst e3
  exact ⟨n, e1, e2, h2⟩)
theorem z_lsM {ta : TA} {Γ : Gm} (h : ZA c ta Γ M fun xs M1 => ∃ dx d ds, xs = [dx] ∧ View M1 dx d ∧ items d = some ds ∧ ∀ p, k (.at p) ((p, .lst ds) :: M1)) : ZE c (tCB (rListZ c.K) ta) Γ M k := z_listM (h.imp fun xs M1 ⟨dx, d, ds, e, v, hi, hk⟩ => ⟨dx, ds, e, v.sq hi, hk⟩)
def dRep (ds : List D) : D → Option (List D)
  | .int j => if repB ds.length j then some (List.replicate j.toNat ds).flatten else none
  | _ => none
theorem z_repM {ta tb : TE} {Γ : Gm} (h : ZE c ta Γ M fun x M1 => ZE c tb Γ M1 fun y M2 => ∃ ds rs, View M2 x (.lst ds) ∧ dRep ds y = some rs ∧ ∀ p, k (.at p) ((p, .lst rs) :: M2)) : ZE c (tOp rMulZ ta tb) Γ M k := z_repLM (h.imp fun x M1 h1 => h1.imp fun y M2 ⟨ds, rs, v, hr, hk⟩ => by
  unfold dRep at hr
  split at hr
  · split at hr
    · rename_i hb
      cases hr
      unfold repB at hb
      rw [Bool.and_eq_true, Bool.and_eq_true] at hb
      exact ⟨_, _, v.lstSt, rfl, of_decide_eq_true hb.1.1, of_decide_eq_true hb.1.2, of_decide_eq_true hb.2, hk⟩
    · cases hr
  · cases hr)
end
/-! ### ends -/
/-- a def's end: what is returned, what its changing parameters hold -/
structure HitD {α : Type} (kd : α → D × Mem) (DD : ZEnds) (out : α) : Prop where
  rt : ∀ G, DD.rt (kd out).1 (G ++ (kd out).2)
  nn : (kd out).1 = .non → ∀ Γ' G, DD.nx Γ' (G ++ (kd out).2)
theorem y_ret {α : Type} {kd : α → D × Mem} {rt : D → Mem → Prop} {x out : α} {d : D} {M : Mem} (G : Mem) (h : some x = some out) (hit : ∀ G, rt (kd out).1 (G ++ (kd out).2)) (hd : (kd x).1 = d) (hM : G ++ (kd x).2 = M) : rt d M := by
  cases h; subst hd hM; exact hit G
theorem y_end {α : Type} {kd : α → D × Mem} {DD : ZEnds} {x out : α} {Γ : Gm} (G : Mem) {M : Mem} (h : some x = some out) (hit : HitD kd DD out) (hx : (kd x).1 = .non) (hM : G ++ (kd x).2 = M) : DD.nx Γ M := by
  cases h; subst hM; exact hit.nn hx Γ G
section
variable {N N' S R α : Type} {Γ : Gm} {M : Mem} {DD : ZEnds} {t u tb : TS} {Γn : N → Gm} {Mn : N → Mem} {Γl : S → Gm} {Ml : S → Mem} {kd : R → D × Mem}
theorem y_nxF {x : Fl N S R} {n : N} {nx : Gm → Mem → Prop} (h : some (.nx n) = some x) (J : FlH Γn Mn Γl Ml kd DD x) (w : Wk Γ (Γn n)) (hM : Mn n = M) (hn : DD.nx = nx) : nx Γ M := by cases h; subst hM hn; exact J.nx n rfl Γ w
theorem y_ctF {x : Fl N S R} {n : S} {ct : Gm → Mem → Prop} (h : some (.ct n) = some x) (J : FlH Γn Mn Γl Ml kd DD x) (w : Wk Γ (Γl n)) (hM : Ml n = M) (hn : DD.ct = ct) : ct Γ M := by cases h; subst hM hn; exact J.ct n rfl Γ w
theorem y_bkF {x : Fl N S R} {n : S} {bk : Gm → Mem → Prop} (h : some (.bk n) = some x) (J : FlH Γn Mn Γl Ml kd DD x) (w : Wk Γ (Γl n)) (hM : Ml n = M) (hn : DD.bk = bk) : bk Γ M := by cases h; subst hM hn; exact J.bk n rfl Γ w
theorem y_bkW {x : Fl N S R} {n : S} (h : some (.bk n) = some x) (J : FlH Γn Mn Γl Ml kd DD x) (hM : Ml n = M) : ∀ Γ', Wk Γ' (Γl n) → DD.bk Γ' M := by cases h; subst hM; exact J.bk n rfl
theorem y_rtF {x : Fl N S R} {r : R} {rt : D → Mem → Prop} {d : D} (G : Mem) (h : some (.rt r) = some x) (J : FlH Γn Mn Γl Ml kd DD x) (hd : (kd r).1 = d) (hM : G ++ (kd r).2 = M) (hn : DD.rt = rt) : rt d M := by cases h; subst hd hM hn; exact J.rt r rfl G
/-- a part that may leave, then the rest: within a part that may leave -/
theorem y_joinF {Γm : N' → Gm} {Mm : N' → Mem} (Γn : N → Gm) (Mn : N → Mem) {m1 : Option (Fl N S R)} {mr : N → Option (Fl N' S R)} {out : Fl N' S R} (h : Fl.seq m1 mr = some out) (J : FlH Γm Mm Γl Ml kd DD out)
    (h1 : ∀ x, m1 = some x → ∀ DD' : ZEnds, FlH Γn Mn Γl Ml kd DD' x → ZS c t Γ M DD') (h2 : ∀ s, mr s = some out → ZS c u (Γn s) (Mn s) DD) : ZS c (tSeq t u) Γ M DD := by
  unfold Fl.seq at h
  obtain ⟨x, e1, e2⟩ := Option.bind_eq_some_iff.mp h
  refine zs_seq (h1 x e1 _ ⟨fun n e Γ' w => ?_, fun n e => ?_, fun n e => ?_, fun n e => ?_⟩)
  · subst e; exact zs_weak w (h2 n e2)
  · subst e; cases e2; exact J.ct n rfl
  · subst e; cases e2; exact J.bk n rfl
  · subst e; cases e2; exact J.rt n rfl
/-- .. at a def's level -/
theorem y_joinD {kd : α → D × Mem} (Γn : N → Gm) (Mn : N → Mem) {m1 : Option (Fl N Unit α)} {mr : N → Option α} {out : α} (h : Fl.fin m1 mr = some out) (hit : ∀ G, DD.rt (kd out).1 (G ++ (kd out).2))
    (h1 : ∀ x, m1 = some x → ∀ DD' : ZEnds, FlH Γn Mn (fun _ => []) (fun _ => []) kd DD' x → ZS c t Γ M DD') (h2 : ∀ s, mr s = some out → ZS c u (Γn s) (Mn s) DD) : ZS c (tSeq t u) Γ M DD := by
  unfold Fl.fin at h
  obtain ⟨x, e1, e2⟩ := Option.bind_eq_some_iff.mp h
  refine zs_seq (h1 x e1 _ ⟨fun n e Γ' w => ?_, fun n e => ?_, fun n e => ?_, fun n e => ?_⟩)
  · subst e; exact zs_weak w (h2 n e2)
  · subst e; cases e2
  · subst e; cases e2
  · subst e; cases e2; exact hit
variable {g : TG} {ds : List D}
def Fl.pass {N' So : Type} (m : Option (Fl S S R)) (f : S → Option (Fl N' So R)) : Option (Fl N' So R) := m.bind fun
  | .nx s => f s
  | .rt r => some (.rt r)
  | _ => none
theorem y_forF {Γm : N' → Gm} {Mm : N' → Mem} {So : Type} {Γl : So → Gm} {Ml : So → Mem} (Γs : S → Gm) (Ms : S → Mem) {f : S → D → Option (Fl S S R)} {s0 : S} {mr : S → Option (Fl N' So R)} {out : Fl N' So R}
    (h : Fl.pass (forL f ds s0) mr = some out) (J : FlH Γm Mm Γl Ml kd DD out) (w : Wk Γ (Γs s0))
    (hb : ∀ s d x, f s d = some x → ∀ DD' : ZEnds, FlH Γs Ms Γs Ms kd DD' x → ZG c g d (Γs s) (Ms s) fun Γ2 M2 => ZS c tb Γ2 M2 DD') (h2 : ∀ s, mr s = some out → ZS c u (Γs s) (Ms s) DD) (hM : Ms s0 = M) : ForK c g tb Γ { DD with nx := fun Γ' M' => ZS c u Γ' M' DD } ds M := by
  subst hM
  unfold Fl.pass at h
  obtain ⟨x, e1, e2⟩ := Option.bind_eq_some_iff.mp h
  refine y_forL Γs Ms kd e1 w hb (fun s e Γ' w => ?_) (fun r e => ?_)
  · subst e; exact zs_weak w (h2 s e2)
  · subst e; cases e2; exact J.rt r rfl
theorem y_forD {kd : α → D × Mem} (Γs : S → Gm) (Ms : S → Mem) {f : S → D → Option (Fl S S α)} {s0 : S} {mr : S → Option α} {out : α} (h : Fl.fin (forL f ds s0) mr = some out) (hit : ∀ G, DD.rt (kd out).1 (G ++ (kd out).2)) (w : Wk Γ (Γs s0))
    (hb : ∀ s d x, f s d = some x → ∀ DD' : ZEnds, FlH Γs Ms Γs Ms kd DD' x → ZG c g d (Γs s) (Ms s) fun Γ2 M2 => ZS c tb Γ2 M2 DD') (h2 : ∀ s, mr s = some out → ZS c u (Γs s) (Ms s) DD) (hM : Ms s0 = M) : ForK c g tb Γ { DD with nx := fun Γ' M' => ZS c u Γ' M' DD } ds M := by
  subst hM
  unfold Fl.fin at h
  obtain ⟨x, e1, e2⟩ := Option.bind_eq_some_iff.mp h
  refine y_forL Γs Ms kd e1 w hb (fun s e Γ' w => ?_) (fun r e => ?_)
  · subst e; exact zs_weak w (h2 s e2)
  · subst e; cases e2; exact hit
/-- a loop with break or continue that returns nothing -/
def Fl.out : Fl S S Empty → Option S
  | .nx s => some s
  | _ => none
theorem y_forB (Γs : S → Gm) (Ms : S → Mem) {f : S → D → Option (Fl S S Empty)} {s0 : S} {mr : S → Option α} {out : α} (h : (((forL f ds s0).bind Fl.out).bind mr) = some out) (w : Wk Γ (Γs s0))
    (hb : ∀ s d x, f s d = some x → ∀ DD' : ZEnds, FlH Γs Ms Γs Ms (fun r => nomatch r) DD' x → ZG c g d (Γs s) (Ms s) fun Γ2 M2 => ZS c tb Γ2 M2 DD') (h2 : ∀ s, mr s = some out → ZS c u (Γs s) (Ms s) DD) (hM : Ms s0 = M) : ForK c g tb Γ { DD with nx := fun Γ' M' => ZS c u Γ' M' DD } ds M := by
  subst hM
  obtain ⟨s1, e1, e2⟩ := Option.bind_eq_some_iff.mp h
  obtain ⟨x, e0, e1⟩ := Option.bind_eq_some_iff.mp e1
  refine y_forL Γs Ms _ e0 w hb (fun s' e Γ' w => ?_) (fun r e => nomatch r)
  subst e; cases e1; exact zs_weak w (h2 _ e2)
theorem y_whlB (Γs : S → Gm) (Ms : S → Mem) {tt : TT} {f : S → Option (Fl S S Empty)} {s0 : S} {mr : S → Option α} {out : α} (h : (((whl f s0).bind Fl.out).bind mr) = some out) (w : Wk Γ (Γs s0))
    (hb : ∀ s x, f s = some x → ∀ DD' : ZEnds, FlH Γs Ms Γs Ms (fun r => nomatch r) DD' x → ZT c tt (Γs s) (Ms s) fun b M2 => (b = true → ZS c tb (Γs s) M2 DD') ∧ (b = false → ∀ Γ', Wk Γ' (Γs s) → DD'.bk Γ' M2)) (h2 : ∀ s, mr s = some out → ZS c u (Γs s) (Ms s) DD) (hM : Ms s0 = M) : ZS c (tSeq (tWhile tt tb) u) Γ M DD := by
  subst hM
  obtain ⟨s1, e1, e2⟩ := Option.bind_eq_some_iff.mp h
  obtain ⟨x, e0, e1⟩ := Option.bind_eq_some_iff.mp e1
  refine zs_seq (y_whl Γs Ms _ e0 w hb (fun s' e Γ' w => ?_) (fun r e => nomatch r))
  subst e; cases e1; exact zs_weak w (h2 _ e2)
theorem y_whlD {kd : α → D × Mem} (Γs : S → Gm) (Ms : S → Mem) {tt : TT} {f : S → Option (Fl S S α)} {s0 : S} {mr : S → Option α} {out : α} (h : Fl.fin (whl f s0) mr = some out) (hit : ∀ G, DD.rt (kd out).1 (G ++ (kd out).2)) (w : Wk Γ (Γs s0))
    (hb : ∀ s x, f s = some x → ∀ DD' : ZEnds, FlH Γs Ms Γs Ms kd DD' x → ZT c tt (Γs s) (Ms s) fun b M2 => (b = true → ZS c tb (Γs s) M2 DD') ∧ (b = false → ∀ Γ', Wk Γ' (Γs s) → DD'.bk Γ' M2)) (h2 : ∀ s, mr s = some out → ZS c u (Γs s) (Ms s) DD) (hM : Ms s0 = M) : ZS c (tSeq (tWhile tt tb) u) Γ M DD := by
  subst hM
  unfold Fl.fin at h
  obtain ⟨x, e1, e2⟩ := Option.bind_eq_some_iff.mp h
  refine zs_seq (y_whl Γs Ms kd e1 w hb (fun s e Γ' w => ?_) (fun r e => ?_))
  · subst e; exact zs_weak w (h2 s e2)
  · subst e; cases e2; exact hit
end
/-! ### frames -/
theorem Lay.perm' {K : Fg} {F : Hp} {M M' : Mem} {H : Hp} (L : Lay K F M H) (p : M.Perm M') : Lay K F M' H := L.perm p
theorem Lay.dropR {K : Fg} {F : Hp} {A B : Mem} {H : Hp} (L : Lay K F (A ++ B) H) : Lay K F A H :=
  ⟨L.fr, L.nd.sublist ((List.sublist_append_left A B).map (·.1)), fun p hp => L.ap p (List.mem_append_left _ hp), fun p hp => L.mu p (List.mem_append_left _ hp)⟩
theorem zs_fr {K : Fg} {t : TS} {Γ : Gm} {M M0 R0 : Mem} {DD : ZEnds} (hp : M.Perm (M0 ++ R0))
    (h : ZS { K := K } t Γ M0 { nx := fun Γ' M' => ∃ G M2, (M' ++ R0).Perm (M2 ++ G) ∧ DD.nx Γ' M2, rt := fun d M' => ∃ G M2, (M' ++ R0).Perm (M2 ++ G) ∧ DD.rt d M2 }) : ZS { K := K } t Γ M DD := fun R F σ H Dd hs L X q => by
  have L1 : Lay K F (M0 ++ (R0 ++ R)) H := by
    rw [← List.append_assoc]
    exact L.perm (hp.append_right R)
  refine h (R0 ++ R) F σ H Dd hs L1 (fun _ _ _ _ _ _ _ _ _ _ _ _ z => z.elim) ⟨fun v F' H' M' d e L' r ⟨G, M2, p, k⟩ => ?_, fun v F' H' M' d e L' r ⟨G, M2, p, k⟩ => ?_, fun v F' H' M' d e L' r k => k.elim, fun v F' H' M' d e L' r k => k.elim⟩
  all_goals
    have L2 : Lay K F' (M2 ++ R) H' := by
      rw [← List.append_assoc] at L'
      have L3 := L'.perm (p.append_right R)
      have p2 : (M2 ++ G ++ R).Perm ((M2 ++ R) ++ G) := by
        rw [List.append_assoc, List.append_assoc]
        exact List.Perm.append_left M2 List.perm_append_comm
      exact (L3.perm p2).dropR
  · exact q.nx v F' H' M2 d e L2 r k
  · exact q.rt v F' H' M2 d e L2 r k
theorem perm_pick {M : Mem} {i : Nat} {x : Addr × MO} (h : M[i]? = some x) : M.Perm ([x] ++ M.eraseIdx i) := by
  obtain ⟨hi, rfl⟩ := List.getElem?_eq_some_iff.mp h
  rw [List.eraseIdx_eq_take_drop_succ]
  have e : M = M.take i ++ (M[i] :: M.drop (i + 1)) := by rw [← List.drop_eq_getElem_cons hi, List.take_append_drop]
  refine (List.Perm.of_eq e).trans ?_
  exact List.perm_middle
theorem perm_put {M : Mem} {i : Nat} {x y : Addr × MO} (h : M[i]? = some x) : (M.set i y).Perm ([y] ++ M.eraseIdx i) := by
  have hi := (List.getElem?_eq_some_iff.mp h).1
  have h2 : (M.set i y)[i]? = some y := List.getElem?_set_self hi
  have := perm_pick h2
  have e : (M.set i y).eraseIdx i = M.eraseIdx i := by
    rw [List.eraseIdx_eq_take_drop_succ, List.eraseIdx_eq_take_drop_succ, List.take_set_of_le (Nat.le_refl _), List.drop_set_of_lt (Nat.lt_succ_self _)]
  rw [e] at this; exact this
/-- a def that changes nothing -/
theorem zs_def0 {K : Fg} {t : TS} {Γ : Gm} {M : Mem} {out : D} {kk : D → Mem → Prop} (hk : kk out M) (h : ∀ DD : ZEnds, HitD (fun x : D => (x, [])) DD out → ZS { K := K } t Γ [] DD) : ZS { K := K } t Γ M { nx := fun _ M' => kk .non M', rt := kk } := by
  refine zs_fr (M0 := []) (R0 := M) (.refl _) (h _ ⟨fun G => ⟨G, M, ?_, hk⟩, fun e Γ' G => ⟨G, M, ?_, ?_⟩⟩)
  · show ((G ++ []) ++ M).Perm (M ++ G)
    rw [List.append_nil]; exact List.perm_append_comm
  · show ((G ++ []) ++ M).Perm (M ++ G)
    rw [List.append_nil]; exact List.perm_append_comm
  · have e' : out = .non := e
    subst e'
    exact hk
/-- a def that changes one list -/
theorem zs_def1 {K : Fg} {t : TS} {Γ : Gm} {M : Mem} {i : Nat} {a : Addr} {box : List D} {out : D × List D} {kk : D → Mem → Prop} (hi : M[i]? = some (a, .lst box)) (hk : kk out.1 (M.set i (a, .lst out.2)))
    (h : ∀ DD : ZEnds, HitD (fun x : D × List D => (x.1, [(a, .lst x.2)])) DD out → ZS { K := K } t Γ [(a, .lst box)] DD) : ZS { K := K } t Γ M { nx := fun _ M' => kk .non M', rt := kk } := by
  have key : ∀ G : Mem, ((G ++ [(a, MO.lst out.2)]) ++ M.eraseIdx i).Perm (M.set i (a, .lst out.2) ++ G) := fun G => by
    rw [List.append_assoc]
    exact List.perm_append_comm.trans ((perm_put hi).symm.append_right G)
  refine zs_fr (perm_pick hi) (h _ ⟨fun G => ⟨G, _, key G, hk⟩, fun e Γ' G => ⟨G, _, key G, ?_⟩⟩)
  have e' : out.1 = .non := e
  show kk .non _
  rw [← e']; exact hk
end Z
namespace Z
open PySem PySem.Spec PyProof.Rows L2
variable {c : Cz}
theorem zs_one {t : TS} {Γ : Gm} {M : Mem} {DD : ZEnds} (h : ZS c (tSeq t tNext) Γ M DD) : ZS c t Γ M DD := h
theorem own_t2 {K : Fg} {i j : Nat} {vs : List Nat} (hi : i ∈ vs) (hj : j ∈ vs) : Own (gTup K 2 (gCons (gName i) (gCons (gName j) gNil))) vs :=
  own_tup (owns_cons mono_name (mono_cons mono_name mono_nil) (own_name hi) (owns_cons mono_name mono_nil (own_name hj) owns_nil))
theorem own_t3 {K : Fg} {i j l : Nat} {vs : List Nat} (hi : i ∈ vs) (hj : j ∈ vs) (hl : l ∈ vs) : Own (gTup K 3 (gCons (gName i) (gCons (gName j) (gCons (gName l) gNil)))) vs :=
  own_tup (owns_cons mono_name (mono_cons mono_name (mono_cons mono_name mono_nil)) (own_name hi) (owns_cons mono_name (mono_cons mono_name mono_nil) (own_name hj) (owns_cons mono_name mono_nil (own_name hl) owns_nil)))
theorem own_t12 {K K' : Fg} {i j l : Nat} {vs : List Nat} (hi : i ∈ vs) (hj : j ∈ vs) (hl : l ∈ vs) : Own (gTup K 2 (gCons (gName i) (gCons (gTup K' 2 (gCons (gName j) (gCons (gName l) gNil))) gNil))) vs :=
  own_tup (owns_cons mono_name (mono_cons (mono_tup (mono_cons mono_name (mono_cons mono_name mono_nil))) mono_nil) (own_name hi) (owns_cons (mono_tup (mono_cons mono_name (mono_cons mono_name mono_nil))) mono_nil (own_t2 hj hl) owns_nil))
section
variable {α : Type} {Γ : Gm} {M : Mem} {out : α}
def ChK (c : Cz) (tc : TE) (r' : R2) (y : D) (Γ : Gm) (M : Mem) (b : Bool) (k : D → Mem → Prop) : Prop := (b = true → ZE c tc Γ M fun u M4 => ZR c r' y u M4 k) ∧ (b = false → k (.bl false) M)
theorem z_chain' {r r' : R2} {ta tb tc : TE} {k : D → Mem → Prop} (h : ZE c ta Γ M fun x M1 => ZE c tb Γ M1 fun y M2 => ZR c r x y M2 fun z M3 => ∃ b, z = .bl b ∧ ChK c tc r' y Γ M3 b k) : ZE c (tChain r r' ta tb tc) Γ M k := z_chain h
theorem y_chain {tc : TE} {r' : R2} {y : D} {m2 : Option Bool} {mr : Bool → Option α} {b : Bool} {k : D → Mem → Prop} (h : (if b = true then m2 else some false).bind mr = some out)
    (h2 : ∀ v, m2 = some v → ∀ k' : D → Mem → Prop, k' (.bl v) M → ZE c tc Γ M fun u M4 => ZR c r' y u M4 k') (hk : ∀ v, mr v = some out → k (.bl v) M) : ChK c tc r' y Γ M b k := by
  obtain ⟨v, e1, e2⟩ := Option.bind_eq_some_iff.mp h
  exact ⟨fun hb => h2 v (ifT hb e1) k (hk v e2), fun hb => by cases (ifF hb e1); exact hk _ e2⟩
theorem y_lfC {v v0 : Bool} {k : D → Mem → Prop} (h : some v = some v0) (hk : k (.bl v0) M) : k (.bl v) M := by cases h; exact hk
variable {kk : List D → Mem → Prop} {d e : D} {ds : List D}
theorem zi_zip0 {ta : TA} (h : ZA c ta Γ M fun ds M1 => ∃ xs ys, (ds = [.tup xs, .tup ys] ∨ ds = [.lst xs, .lst ys]) ∧ kk (zipD xs ys) M1) : ZI c (iZipZ c.K ta) Γ M kk := fun R F σ H Q hs L X q =>
  h R F σ H _ hs L X fun ws F1 H1 M1 ds e1 L1 r1 ⟨xs, ys, e, h1⟩ => by
    rcases e with e | e
    all_goals
      subst e
      obtain ⟨v, w, rfl, r2, r3⟩ := r1.two
    · obtain ⟨a, vs, rfl, p, rr⟩ := r2.of_tup
      obtain ⟨b, ws, rfl, p2, rr2⟩ := r3.of_tup
      exact ⟨a, b, vs, ws, rfl, .inr ⟨ex_t L1.fr p, ex_t L1.fr p2, q _ F1 H1 M1 _ e1 L1 (walks_zipT p rr p2 rr2) h1⟩⟩
    · obtain ⟨a, vs, rfl, p, rr⟩ := r2.of_lst
      obtain ⟨b, ws, rfl, p2, rr2⟩ := r3.of_lst
      exact ⟨a, b, vs, ws, rfl, .inl ⟨SqL.of (L1.fr _ _ p), SqL.of (L1.fr _ _ p2), q _ F1 H1 M1 _ e1 L1 (walks_zipL (SqL.of p) rr (SqL.of p2) rr2) h1⟩⟩
theorem zi_zip' {ta : TA} (h : ZA c ta Γ M fun xs M1 => ∃ d e ds, xs = [d, e] ∧ itZip d e = some ds ∧ kk ds M1) : ZI c (iZipZ c.K ta) Γ M kk := zi_zip0 (h.imp fun xs M1 ⟨d, e, ds, ee, h1, h2⟩ => by
  subst ee
  unfold itZip at h1
  split at h1
  · cases h1; exact ⟨_, _, .inl rfl, h2⟩
  · cases h1; exact ⟨_, _, .inr rfl, h2⟩
  · cases h1)
end
end Z
namespace Z
open PySem PySem.Spec PyProof.Rows L2
variable {c : Cz}
section
variable {Γ Γ' : Gm} {M M' : Mem} {DD : ZEnds} {t : TS} {i j : Nat} {a : Addr} {ds : List D}
/-- an owned list is handed on: it changes no more -/
theorem y_frz (hi : M[i]? = some (a, .lst ds)) (hj : Γ[j]? = some (some (.at a))) (hΓ : Γ.set j (some (.lst ds)) = Γ') (hM : M.eraseIdx i = M') (h : ZS c t Γ' M' DD) : ZS c t Γ M DD := by
  subst hΓ hM; exact zs_frz hi hj h
theorem y_forgetS (hM : M.eraseIdx i = M') (h : ZS c t Γ M' DD) : ZS c t Γ M DD := by
  subst hM; exact zs_forget h
theorem zs_par' {i j : Nat} {ta : TA} (h : ZA c ta Γ M fun ds M1 => ∃ x y Γ', ds = [x, y] ∧ (Γ.set i (some x)).set j (some y) = Γ' ∧ DD.nx Γ' M1) : ZS c (tPar i j ta) Γ M DD := zs_par (h.imp fun ds M1 ⟨x, y, Γ', e, e2, h2⟩ => ⟨x, y, e, by rw [e2]; exact h2⟩)
def dAugA : D → D → Option D
  | .int i, .int j => some (.int (i + j))
  | _, _ => none
theorem zs_aug' {te : TE} {f : Int → Int → Int} {n : Nat} {x : D} (hx : Γ[n]? = some (some x)) (h : ZE c te Γ M fun y M1 => ∃ i j, x = .int i ∧ y = .int j ∧ DD.nx (Γ.set n (some (.int (f i j)))) M1) : ZS c (tAug n te (ipI f)) Γ M DD := fun R F σ H D hs L X q => by
  obtain ⟨v, e, r⟩ := hs.at_ n _ hx
  refine ⟨_, e, h R F σ H _ hs L X fun w F1 H1 M1 d e1 L1 r1 ⟨i, j, ei, ej, hk⟩ => ?_⟩
  subst ei ej
  exact ⟨i, j, r.of_int, r1.of_int, q.nx _ F1 H1 M1 _ e1 L1 ((hs.mono e1).set n (.int _)) hk⟩
theorem zs_augA {te : TE} {n : Nat} {x : D} (hx : Γ[n]? = some (some x)) (h : ZE c te Γ M fun y M1 => ∃ z Γ', dAugA x y = some z ∧ Γ.set n (some z) = Γ' ∧ DD.nx Γ' M1) : ZS c (tAug n te (ipI fun i j => i + j)) Γ M DD := zs_aug' hx (h.imp fun y M1 ⟨z, Γ', h1, h2, h3⟩ => by
  unfold dAugA at h1
  split at h1
  · cases h1; exact ⟨_, _, rfl, rfl, by rw [h2]; exact h3⟩
  · cases h1)
theorem zs_augS {te : TE} {n : Nat} {x : D} (hx : Γ[n]? = some (some x)) (h : ZE c te Γ M fun y M1 => ∃ z Γ', dSub x y = some z ∧ Γ.set n (some z) = Γ' ∧ DD.nx Γ' M1) : ZS c (tAug n te (ipI fun i j => i - j)) Γ M DD := zs_aug' hx (h.imp fun y M1 ⟨z, Γ', h1, h2, h3⟩ => by
  unfold dSub at h1
  split at h1
  · cases h1; exact ⟨_, _, rfl, rfl, by rw [h2]; exact h3⟩
  · cases h1)
end
/-- a def whose new list may change -/
structure HitO {α : Type} (kd : α → List D × Mem) (DD : ZEnds) (out : α) : Prop where
  rt : ∀ p G1 G2, DD.rt (.at p) (G1 ++ (p, .lst (kd out).1) :: (G2 ++ (kd out).2))
theorem y_retO {α : Type} {kd : α → List D × Mem} {rt : D → Mem → Prop} {x out : α} {p : Addr} {M : Mem} (G1 G2 : Mem) (h : some x = some out) (hit : ∀ p G1 G2, rt (.at p) (G1 ++ (p, .lst (kd out).1) :: (G2 ++ (kd out).2))) (hM : G1 ++ (p, .lst (kd x).1) :: (G2 ++ (kd x).2) = M) : rt (.at p) M := by
  cases h; subst hM; exact hit p G1 G2
theorem zs_defO0 {K : Fg} {t : TS} {Γ : Gm} {M : Mem} {out : List D} {kk : D → Mem → Prop} (hk : ∀ p, kk (.at p) ((p, .lst out) :: M)) (h : ∀ DD : ZEnds, HitO (fun x : List D => (x, [])) DD out → ZS { K := K } t Γ [] DD) : ZS { K := K } t Γ M { nx := fun _ M' => kk .non M', rt := kk } := by
  refine zs_fr (M0 := []) (R0 := M) (.refl _) ((h { nx := fun _ _ => False, rt := fun d M' => ∃ G M2, (M' ++ M).Perm (M2 ++ G) ∧ kk d M2 } ⟨fun p G1 G2 => ⟨G1 ++ G2, (p, .lst out) :: M, ?_, hk p⟩⟩).imp (fun _ _ h => h.elim) (fun _ _ h => h) (fun _ _ h => h) (fun _ _ h => h))
  show ((G1 ++ (p, MO.lst out) :: (G2 ++ [])) ++ M).Perm ((p, MO.lst out) :: M ++ (G1 ++ G2))
  rw [List.append_nil]
  have e1 : (G1 ++ (p, MO.lst out) :: G2) ++ M = G1 ++ ((p, MO.lst out) :: (G2 ++ M)) := by simp
  rw [e1]
  refine List.perm_middle.trans ?_
  show ((p, MO.lst out) :: (G1 ++ (G2 ++ M))).Perm ((p, MO.lst out) :: (M ++ (G1 ++ G2)))
  refine List.Perm.cons _ ?_
  rw [← List.append_assoc]
  exact List.perm_append_comm
end Z
namespace Z
open PySem PySem.Spec PyProof.Rows L2
variable {c : Cz}
/-- a def that changes two lists -/
theorem perm_pick2 {M : Mem} {i j : Nat} {x y : Addr × MO} (hi : M[i]? = some x) (hj : M[j]? = some y) (hij : i ≠ j) : ∃ R0, M.Perm ([x, y] ++ R0) ∧ ∀ x' y', ((M.set i x').set j y').Perm ([x', y'] ++ R0) := by
  have fin : ∀ l, (M.eraseIdx i)[l]? = some y → (∀ x' y', ((M.set i x').set j y').eraseIdx i = (M.eraseIdx i).set l y') → ∃ R0, M.Perm ([x, y] ++ R0) ∧ ∀ x' y', ((M.set i x').set j y').Perm ([x', y'] ++ R0) := fun l hl he => by
    refine ⟨(M.eraseIdx i).eraseIdx l, (perm_pick hi).trans (List.Perm.append_left [x] (perm_pick hl)), fun x' y' => ?_⟩
    have hi2 : (M.set i x')[i]? = some x' := List.getElem?_set_self (List.getElem?_eq_some_iff.mp hi).1
    have hi3 : ((M.set i x').set j y')[i]? = some x' := by rw [List.getElem?_set_ne (Ne.symm hij)]; exact hi2
    refine (perm_pick hi3).trans (List.Perm.append_left [x'] ?_)
    rw [he x' y']
    exact perm_put hl
  rcases Nat.lt_or_ge j i with h | h
  · refine fin j (by rw [List.getElem?_eraseIdx, if_pos h]; exact hj) fun x' y' => ?_
    rw [List.eraseIdx_set_gt h, List.eraseIdx_set_eq]
  · refine fin (j - 1) (by rw [List.getElem?_eraseIdx, if_neg (by omega), show j - 1 + 1 = j by omega]; exact hj) fun x' y' => ?_
    rw [List.eraseIdx_set_lt (by omega), List.eraseIdx_set_eq]
theorem zs_def2 {K : Fg} {t : TS} {Γ : Gm} {M : Mem} {i j : Nat} {a b : Addr} {ba bb : List D} {out : D × List D × List D} {kk : D → Mem → Prop} (hi : M[i]? = some (a, .lst ba)) (hj : M[j]? = some (b, .lst bb)) (hij : i ≠ j) (hk : kk out.1 ((M.set i (a, .lst out.2.1)).set j (b, .lst out.2.2)))
    (h : ∀ DD : ZEnds, HitD (fun x : D × List D × List D => (x.1, [(a, .lst x.2.1), (b, .lst x.2.2)])) DD out → ZS { K := K } t Γ [(a, .lst ba), (b, .lst bb)] DD) : ZS { K := K } t Γ M { nx := fun _ M' => kk .non M', rt := kk } := by
  obtain ⟨R0, p1, p2⟩ := perm_pick2 hi hj hij
  have key : ∀ G : Mem, ((G ++ [(a, MO.lst out.2.1), (b, MO.lst out.2.2)]) ++ R0).Perm ((M.set i (a, .lst out.2.1)).set j (b, .lst out.2.2) ++ G) := fun G => by
    rw [List.append_assoc]
    exact List.perm_append_comm.trans ((p2 _ _).symm.append_right G)
  refine zs_fr p1 (h _ ⟨fun G => ⟨G, _, key G, hk⟩, fun e Γ' G => ⟨G, _, key G, ?_⟩⟩)
  have e' : out.1 = .non := e
  show kk .non _
  rw [← e']; exact hk
end Z
namespace Z
open PySem PySem.Spec PyProof.Rows L2
variable {c : Cz}
/-! ### sorted -/
def leI (a b : Int) : Bool := decide (a ≤ b)
def sortI (ns : List Int) : List Int := ns.mergeSort leI
theorem sortI_perm (ns : List Int) : (sortI ns).Perm ns := List.mergeSort_perm ns leI
theorem sortI_sorted (ns : List Int) : (sortI ns).Pairwise (· ≤ ·) := by
  have h := List.pairwise_mergeSort (le := leI) (fun a b c h1 h2 => by simp only [leI, decide_eq_true_eq] at *; omega) (fun a b => by simp only [leI, Bool.or_eq_true, decide_eq_true_eq]; omega) ns
  exact h.imp fun h => of_decide_eq_true h
theorem uniq_by {α : Type} {f : α → Int} : ∀ {l m : List α}, l.Perm m → l.Pairwise (fun x y => f x ≤ f y) → m.Pairwise (fun x y => f x ≤ f y) → (∀ x ∈ l, ∀ y ∈ l, f x = f y → x = y) → l = m
  | [], m, h, _, _, _ => (List.perm_nil.mp h.symm).symm
  | x :: l, m, h, h1, h2, hi => by
    cases m with
    | nil => exact absurd (List.perm_nil.mp h) (by simp)
    | cons y m =>
      obtain ⟨a1, a2⟩ := List.pairwise_cons.mp h1
      obtain ⟨b1, b2⟩ := List.pairwise_cons.mp h2
      have hx : x ∈ y :: m := h.mem_iff.mp List.mem_cons_self
      have hy : y ∈ x :: l := h.mem_iff.mpr List.mem_cons_self
      have e1 : f y ≤ f x := by rcases List.mem_cons.mp hx with e | e; rw [e]; exact Int.le_refl _; exact b1 x e
      have e2 : f x ≤ f y := by rcases List.mem_cons.mp hy with e | e; rw [e]; exact Int.le_refl _; exact a1 y e
      have hxy : x = y := hi x List.mem_cons_self y hy (by omega)
      subst hxy
      rw [uniq_by (List.Perm.cons_inv h) a2 b2 fun z hz w hw => hi z (List.mem_cons_of_mem _ hz) w (List.mem_cons_of_mem _ hw)]
def asIR : D → Option (Int × List D)
  | .tup [.int i, .tup ds] => some (i, ds)
  | _ => none
def asIRs : List D → Option (List (Int × List D))
  | [] => some []
  | d :: ds => (asIR d).bind fun p => (asIRs ds).bind fun ps => some (p :: ps)
theorem asIR_eq {d : D} {p : Int × List D} (h : asIR d = some p) : d = irD p := by
  unfold asIR at h
  split at h
  · cases h; rfl
  · cases h
theorem asIRs_eq : ∀ {ds : List D} {ps : List (Int × List D)}, asIRs ds = some ps → ds = ps.map irD
  | [], ps, h => by cases h; rfl
  | d :: ds, ps, h => by
    unfold asIRs at h
    obtain ⟨p, h1, h⟩ := Option.bind_eq_some_iff.mp h
    obtain ⟨qs, h2, h⟩ := Option.bind_eq_some_iff.mp h
    cases h
    rw [asIR_eq h1, asIRs_eq h2]; rfl
theorem asIRs_map : ∀ ps : List (Int × List D), asIRs (ps.map irD) = some ps
  | [] => rfl
  | p :: ps => by
    rw [List.map_cons]; unfold asIRs; rw [asIRs_map ps]; rfl
def leK (p q : Int × List D) : Bool := decide (p.1 ≤ q.1)
def sortK (ps : List (Int × List D)) : List (Int × List D) := ps.mergeSort leK
theorem sortK_perm (ps : List (Int × List D)) : (sortK ps).Perm ps := List.mergeSort_perm ps leK
theorem sortK_sorted (ps : List (Int × List D)) : (sortK ps).Pairwise (fun p q => p.1 ≤ q.1) := by
  have h := List.pairwise_mergeSort (le := leK) (fun a b c h1 h2 => by simp only [leK, decide_eq_true_eq] at *; omega) (fun a b => by simp only [leK, Bool.or_eq_true, decide_eq_true_eq]; omega) ps
  exact h.imp fun h => of_decide_eq_true h
def dSort (d : D) : Option D := (itemsL d).bind fun ds => match asInts ds with
  | some ns => some (.lst ((sortI ns).map .int))
  | none => (asIRs ds).bind fun ps => if (ps.map (·.1)).Nodup then some (.lst ((sortK ps).map irD)) else none
theorem nodup_inj {α : Type} {f : α → Int} : ∀ {l : List α}, (l.map f).Nodup → ∀ x ∈ l, ∀ y ∈ l, f x = f y → x = y
  | [], _, x, hx, _, _, _ => absurd hx List.not_mem_nil
  | z :: l, h, x, hx, y, hy, e => by
    rw [List.map_cons] at h
    obtain ⟨h1, h2⟩ := List.nodup_cons.mp h
    rcases List.mem_cons.mp hx with hx | hx
    · rcases List.mem_cons.mp hy with hy | hy
      · rw [hx, hy]
      · exact absurd (List.mem_map.mpr ⟨y, hy, by rw [← e, hx]⟩) h1
    · rcases List.mem_cons.mp hy with hy | hy
      · exact absurd (List.mem_map.mpr ⟨x, hx, by rw [e, hy]⟩) h1
      · exact nodup_inj h2 x hx y hy e
theorem y_sort {M : Mem} {k : D → Mem → Prop} {dx x z : D} (vx : View M dx x) (h : dSort x = some z) (hk : k z M) : ZC c (rSortZ c.K) [dx] M k := by
  unfold dSort at h
  obtain ⟨ds, h1, h⟩ := Option.bind_eq_some_iff.mp h
  cases e : asInts ds with
  | some ns =>
    rw [e] at h
    cases h
    refine zc_sortI (ns := ns) (by rw [← asInts_eq e]; exact vx.sl h1) fun ns' hp hs => ?_
    have := uniq_by (f := id) (hp.trans (sortI_perm ns).symm) hs (sortI_sorted ns) (fun _ _ _ _ e => e)
    rw [this]; exact hk
  | none =>
    rw [e] at h
    obtain ⟨ps, h2, h⟩ := Option.bind_eq_some_iff.mp h
    split at h
    · rename_i hn
      cases h
      refine zc_sortF (ps := ps) (by rw [← asIRs_eq h2]; exact vx.sl h1) hn fun ps' hp hs => ?_
      have := uniq_by (f := fun p : Int × List D => p.1) (hp.trans (sortK_perm ps).symm) hs (sortK_sorted ps) (fun x hx y hy e => nodup_inj hn x (hp.mem_iff.mp hx) y (hp.mem_iff.mp hy) e)
      rw [this]; exact hk
    · cases h
end Z
set_option Elab.async false
set_option linter.all false
set_option maxRecDepth 100000
set_option maxHeartbeats 4000000
/-! YStr: texts, constants of the module, defs with a star parameter. -/
namespace Z
open PySem PySem.Spec PyProof.Rows L2
variable {c : Cz}
/-! ### texts -/
theorem boot_str' : bootBuiltins "str" = some (.type "str") := by decide +kernel
def rStrZ : List V → Hp → VK → Prop := fun xs H Q => ∃ i : Int, xs = [.int i] ∧ i.natAbs.log2 < 1920 ∧ Q (.str (toString i)) H
theorem cz_str {X : Cx} : CallR X (.type "str") rStrZ := call_str_int
def dStr : D → Option D
  | .int i => gd (decide (i.natAbs.log2 < 1920)) (.str (toString i : Str))
  | _ => none
def dFmt : D → Option D
  | .int i => gd (decide (i.natAbs.log2 < 1920)) (.str (toString i : Str))
  | .str z => gd (decide (z.length ≤ sizeLine)) (.str z)
  | _ => none
def tJoined (ts : List TE) : TE := fun σ H Q => tJs ts Str.empty σ H fun out H1 => Q (.str out) H1
def dJ (acc : Str) : D → Option Str
  | .str y => if (acc ++ y).length ≤ sizeLine then some (acc ++ y) else none
  | _ => none
section
variable {Γ : Gm} {M : Mem} {k : D → Mem → Prop} {x y z dx dy : D} {b : Bool}
theorem y_str (h : dStr x = some z) (hk : k z M) : ZC c rStrZ [x] M k := fun R F H vs Q L r q => by
  obtain ⟨v, rfl, r1⟩ := r.one1
  unfold dStr at h
  split at h
  · obtain ⟨h1, rfl⟩ := gd_some h
    rw [r1.of_int]
    exact ⟨_, rfl, of_decide_eq_true h1, q _ F H M _ (Ex.refl F) L (.str _) hk⟩
  · cases h
theorem z_fmt {te : TE} (h : ZE c te Γ M fun d M1 => ∃ z, dFmt d = some z ∧ k z M1) : ZE c (tFmt te) Γ M k := fun R F σ H Q hs L X q =>
  h R F σ H _ hs L X fun v F1 H1 M1 d e1 L1 r1 ⟨z, hz, hk⟩ => by
    unfold dFmt at hz
    split at hz
    · obtain ⟨h1, rfl⟩ := gd_some hz
      exact .inr ⟨_, r1.of_int, of_decide_eq_true h1, q _ F1 H1 M1 _ e1 L1 (.str _) hk⟩
    · obtain ⟨h1, rfl⟩ := gd_some hz
      exact .inl ⟨_, r1.of_str, of_decide_eq_true h1, q _ F1 H1 M1 _ e1 L1 (.str _) hk⟩
    · cases hz
/-- the parts, one behind another -/
def ZJ (c : Cz) (ts : List TE) (acc : Str) (Γ : Gm) (M : Mem) (k : Str → Mem → Prop) : Prop := ∀ (R : Mem) (F : Hp) (σ : L2.St) (H : Hp) (Q : Str → Hp → Prop), Has c.K F σ Γ → Lay c.K F (M ++ R) H → XOk c R F →
  KOk (fun _ (o : Str) o' => o = o') c.K R F k Q → tJs ts acc σ H Q
theorem zj_nil {acc : Str} {k : Str → Mem → Prop} (h : k acc M) : ZJ c [] acc Γ M k := fun R F σ H Q hs L X q => q acc F H M acc (Ex.refl F) L rfl h
theorem zj_cons {t : TE} {ts : List TE} {acc : Str} {k : Str → Mem → Prop} (h : ZE c t Γ M fun d M1 => ∃ a', dJ acc d = some a' ∧ ZJ c ts a' Γ M1 k) : ZJ c (t :: ts) acc Γ M k := fun R F σ H Q hs L X q =>
  h R F σ H _ hs L X fun v F1 H1 M1 d e1 L1 r1 ⟨a', h1, h2⟩ => by
    unfold dJ at h1
    split at h1
    · split at h1
      · rename_i hl
        cases h1
        exact ⟨_, r1.of_str, hl, h2 R F1 σ H1 Q (hs.mono e1) L1 (X.mono e1) (q.mono e1)⟩
      · cases h1
    · cases h1
theorem z_joined {ts : List TE} (h : ZJ c ts Str.empty Γ M fun out M1 => k (.str out) M1) : ZE c (tJoined ts) Γ M k := fun R F σ H Q hs L X q =>
  h R F σ H _ hs L X fun out F1 H1 M1 out' e1 L1 r1 h1 => by
    subst r1
    exact q _ F1 H1 M1 _ e1 L1 (.str _) h1
theorem p_joined {X : Cx} {v1 v2 : Expr} {rest : List Expr} {ts : List TE} {pos : Pos} (h : PJ X (v1 :: v2 :: rest) ts) : PE X (.JoinedStr (v1 :: v2 :: rest) pos) (tJoined ts) := pe_joined h
/-! in -/
def rInS (n : Bool) : R2 := fun x y H Q => ∃ (c : Nat) (z : Str), x = .str ⟨#[c]⟩ ∧ y = .str z ∧ Q (.bl (if n then !decide (c ∈ z.cps.toList) else decide (c ∈ z.cps.toList))) H
def rInY (K : Fg) (n : Bool) : R2 := fun x y H Q => rIn K n x y H Q ∨ rInS n x y H Q
def bInY (x y : D) : Option Bool := match x, y with
  | .str s, .str z => match s.cps.toList with
    | [c] => if s = ⟨#[c]⟩ then some (decide (c ∈ z.cps.toList)) else none
    | _ => none
  | x, y => bIn x y
section
variable {X : Cx} {a e : Expr} {ta tb : TE} {pos : Pos}
theorem op_inY : OpR X (compareOp .In) (rInY X.K false) := op_in_seq.or op_in_sign
theorem op_notInY : OpR X (compareOp .NotIn) (rInY X.K true) := op_notIn_seq.or op_notIn_sign
theorem p_inY (ha : PE X a ta) (hb : PE X e tb) (hm : behindInMarks .In e = false := by rfl) : PE X (.Compare a [.In] [e] pos) (tOp (rInY X.K false) ta tb) := pe_cmpR op_inY ha hb hm
theorem p_notInY (ha : PE X a ta) (hb : PE X e tb) (hm : behindInMarks .NotIn e = false := by rfl) : PE X (.Compare a [.NotIn] [e] pos) (tOp (rInY X.K true) ta tb) := pe_cmpR op_notInY ha hb hm
theorem q_inY (ha : PE X a ta) (hb : PE X e tb) (hm : behindInMarks .In e = false := by rfl) : PT X (.Compare a [.In] [e] pos) (tTest (tOp (rInY X.K false) ta tb)) := pt_cmpR op_inY ha hb hm
theorem q_notInY (ha : PE X a ta) (hb : PE X e tb) (hm : behindInMarks .NotIn e = false := by rfl) : PT X (.Compare a [.NotIn] [e] pos) (tTest (tOp (rInY X.K true) ta tb)) := pt_cmpR op_notInY ha hb hm
end
theorem y_inB {n : Bool} (vx : View M dx x) (vy : View M dy y) (h : bInY x y = some b) (hk : k (.bl (if n then !b else b)) M) : ZR c (rInY c.K n) dx dy M k := fun R F H v w Q L r1 r2 q => by
  unfold bInY at h
  split at h
  · split at h
    · split at h
      · rename_i hs
        cases h
        rw [vx.str] at r1
        rw [vy.str] at r2
        rw [hs] at r1
        exact .inr ⟨_, _, r1.of_str, r2.of_str, q _ F H M _ (Ex.refl F) L (.bl _) hk⟩
      · cases h
    · cases h
  · cases n with
    | false => exact .inl (y_in (c := c) vx vy h hk R F H v w Q L r1 r2 q)
    | true => exact .inl (y_notIn (c := c) vx vy h hk R F H v w Q L r1 r2 q)
theorem y_inY (vx : View M dx x) (vy : View M dy y) (h : bInY x y = some b) (hk : k (.bl b) M) : ZR c (rInY c.K false) dx dy M k := y_inB vx vy h hk
theorem y_notInY (vx : View M dx x) (vy : View M dy y) (h : bInY x y = some b) (hk : k (.bl (!b)) M) : ZR c (rInY c.K true) dx dy M k := y_inB vx vy h hk
/-! methods of texts -/
def rFindZ : V → List V → Hp → VK → Prop := fun x xs H Q => ∃ a b, x = .str a ∧ xs = [.str b] ∧ Q (.int (Txt.find a b)) H
theorem mt_findZ {X : Cx} : MtR X "str.find" rFindZ := mt_find
def dFind : D → D → Option D
  | .str a, .str b => some (.int (Txt.find a b))
  | _, _ => none
theorem z_bmS {r : V → List V → Hp → VK → Prop} {to : TE} {ta : TA} (h : ZE c to Γ M fun d M1 => (∃ s, d = .str s) ∧ ZA c ta Γ M1 fun xs M2 => ZM c r d xs M2 k) : ZE c (tBM c.K "str" r to ta) Γ M k := fun R F σ H Q hs L X q =>
  h R F σ H _ hs L X fun v F1 H1 M1 d e1 L1 r1 ⟨⟨s, es⟩, h1⟩ => by
    subst es
    refine ⟨by rw [r1.of_str]; rfl, h1 R F1 σ H1 _ (hs.mono e1) L1 (X.mono e1) fun ws F2 H2 M2 xs e2 L2 r2 h2 => h2 R F2 H2 _ ws Q L2 (r1.mono e2) r2 (q.mono (e1.trans e2))⟩
theorem dFind_str (h : dFind x y = some z) : ∃ s, x = .str s := by
  unfold dFind at h
  split at h
  · exact ⟨_, rfl⟩
  · cases h
def isS : D → Option Str
  | .str s => some s
  | _ => none
theorem isS_ok {s : Str} (h : isS x = some s) : ∃ s, x = .str s := by
  unfold isS at h
  split at h
  · exact ⟨_, rfl⟩
  · cases h
theorem y_find (h : dFind x y = some z) (hk : k z M) : ZM c rFindZ x [y] M k := fun R F H v vs Q L r rs q => by
  obtain ⟨w, rfl, r2⟩ := rs.one1
  unfold dFind at h
  split at h
  · cases h
    rw [r.of_str, r2.of_str]
    exact ⟨_, _, rfl, rfl, q _ F H M _ (Ex.refl F) L (.int _) hk⟩
  · cases h
/-! texts walked -/
def itStr : D → Option (List D)
  | .str z => some (signsD z)
  | d => itSeq d
theorem zi_seqY {tl : TE} {kk : List D → Mem → Prop} (h : ZE c tl Γ M fun d M1 => ∃ ds, itStr d = some ds ∧ kk ds M1) : ZI c (iSeqZ c.K tl) Γ M kk := fun R F σ H Q hs L X q =>
  h R F σ H _ hs L X fun v F1 H1 M1 d e1 L1 r1 ⟨ds, hd, h1⟩ => by
    cases d with
    | str z =>
      cases hd
      exact .inr (.inr ⟨z, r1.of_str, q _ F1 H1 M1 _ e1 L1 walks_str h1⟩)
    | tup xs =>
      cases hd
      obtain ⟨a, vs, rfl, p, rr⟩ := r1.of_tup
      exact .inr (.inl ⟨a, rfl, ⟨vs, ex_t L1.fr p⟩, q _ F1 H1 M1 _ e1 L1 (walks_tup p rr) h1⟩)
    | lst xs =>
      cases hd
      obtain ⟨a, vs, rfl, p, rr⟩ := r1.of_lst
      exact .inl ⟨a, rfl, ⟨vs, SqL.of (L1.fr _ _ p)⟩, q _ F1 H1 M1 _ e1 L1 (walks_list (SqL.of p) rr) h1⟩
    | scr xs =>
      cases hd
      obtain ⟨a, vs, rfl, p, rr⟩ := r1.of_scr
      exact .inl ⟨a, rfl, ⟨vs, ex_l L1.fr p⟩, q _ F1 H1 M1 _ e1 L1 (walks_list p rr) h1⟩
    | _ => cases hd
end
end Z
set_option Elab.async false
set_option linter.all false
set_option maxRecDepth 100000
set_option maxHeartbeats 4000000
/-! YFn: constants of the module, defs with a star parameter. -/
namespace Z
open PySem PySem.Spec PyProof.Rows L2
variable {c : Cz}
/-! ### constants -/
mutual
def okD (K : Fg) : D → Value → Bool
  | .non, .none => true
  | .bl b, .bool d => b == d
  | .int i, .int j _ => decide (i = j)
  | .str s, .str z _ => decide (s = z)
  | .tup ds, .ref a => match K.lookup a with
    | some o => decide (o.cls = Value.type "tuple") && (match o.data with
      | .seq its _ => decide (its.size ≤ sizeLine) && okDs K ds its.toList
      | _ => false)
    | none => false
  | _, _ => false
def okDs (K : Fg) : List D → List Value → Bool
  | [], [] => true
  | d :: ds, v :: vs => okD K d v && okDs K ds vs
  | _, _ => false
end
mutual
theorem okD_ok {K : Fg} : ∀ (d : D) (v : Value), okD K d v = true → ∃ x, RelV x v ∧ ∀ F, Rp K F x d
  | .non, v, h => by
    cases v <;> first | exact ⟨.non, rfl, fun _ => .non⟩ | cases h
  | .bl b, v, h => by
    cases v <;> first | cases h | skip
    unfold okD at h
    rw [beq_iff_eq] at h
    subst h
    exact ⟨.bl b, rfl, fun _ => .bl b⟩
  | .int i, v, h => by
    cases v <;> first | cases h | skip
    unfold okD at h
    have h := of_decide_eq_true h
    subst h
    exact ⟨.int i, ⟨_, rfl⟩, fun _ => .int i⟩
  | .str i, v, h => by
    cases v <;> first | cases h | skip
    unfold okD at h
    have h := of_decide_eq_true h
    subst h
    exact ⟨.str i, ⟨_, rfl⟩, fun _ => .str i⟩
  | .tup ds, v, h => by
    cases v <;> first | cases h | skip
    rename_i a
    unfold okD at h
    cases e : K.lookup a with
    | none => rw [e] at h; cases h
    | some o =>
      rw [e] at h
      dsimp only at h
      rw [Bool.and_eq_true] at h
      obtain ⟨h1, h2⟩ := h
      cases e2 : o.data with
      | seq its n =>
        rw [e2] at h2
        dsimp only at h2
        rw [Bool.and_eq_true] at h2
        obtain ⟨xs, hx, hr⟩ := okDs_ok ds its.toList h2.2
        exact ⟨.ref a, rfl, fun F => .mk_tup (.inr ⟨o, its, n, e, of_decide_eq_true h1, e2, of_decide_eq_true h2.1, hx⟩) (hr F)⟩
      | _ => rw [e2] at h2; cases h2
  | .lst _, v, h => by cases v <;> cases h
  | .scr _, v, h => by cases v <;> cases h
  | .ty _, v, h => by cases v <;> cases h
  | .obj _ _, v, h => by cases v <;> cases h
  | .at _, v, h => by cases v <;> cases h
theorem okDs_ok {K : Fg} : ∀ (ds : List D) (vs : List Value), okDs K ds vs = true → ∃ xs, Vals xs vs ∧ ∀ F, Rps K F xs ds
  | [], [], _ => ⟨[], .nil, fun _ => .nil⟩
  | d :: ds, v :: vs, h => by
    unfold okDs at h
    rw [Bool.and_eq_true] at h
    obtain ⟨x, r, p⟩ := okD_ok d v h.1
    obtain ⟨xs, rs, ps⟩ := okDs_ok ds vs h.2
    exact ⟨x :: xs, .cons r rs, fun F => .cons (p F) (ps F)⟩
  | [], _ :: _, h => by cases h
  | _ :: _, [], h => by cases h
end
def constB (K : Fg) (x : Str) (d : D) : Bool := match PySem.W.nsIn K mainGlobals x with
  | some (some v) => okD K d v
  | _ => false
/-- the module's constant x is d -/
structure Cst (K : Fg) (mg : Str → Option Value) (x : Str) (v : V) (d : D) : Prop where
  g : ∃ u, mg x = some u ∧ RelV v u
  r : ∀ F, Rp K F v d
theorem const_ok {K : Fg} {h : Heap} {mg : Str → Option Value} (X : K.In h) (G : h.Ns mainGlobals mg) {x : Str} {d : D} (hc : constB K x d = true) : ∃ v, Cst K mg x v d := by
  unfold constB at hc
  cases e : PySem.W.nsIn K mainGlobals x with
  | none => rw [e] at hc; cases hc
  | some o =>
    rw [e] at hc
    cases o with
    | none => cases hc
    | some u =>
      obtain ⟨v, r, p⟩ := okD_ok d u hc
      exact ⟨v, ⟨u, PySem.W.mg_of X G e, r⟩, p⟩
theorem pe_cst {X : Cx} {x : Str} {v : V} {d : D} {pos : Pos} (hc : Cst X.K X.mg x v d) (hg : Gl X x := by rfl) (hd : (x == ("__debug__" : Str)) = false := by decide) : PE X (.Name x pos) (tC v) := by
  obtain ⟨u, h1, h2⟩ := hc.g
  exact pe_glob hg h1 h2 hd
/-! ### a def called by its positional arguments -/
structure FnZR (P : Program) (w : World) (K : Fg) (mg : Str → Option Value) (base : Heap) (x : Str) (k : Nat) (S : ZSp) : Prop where
  ex : ∃ f, FnR P w K mg base CX0 k f (toSp K S) ∧ mg x = some (.ref f) ∧ PySem.W.keepIn K (.ref f) = true
section
variable {X : Cx} {k : Nat} {S : ZSp} {x : Str} {e : Expr} {es : List Expr} {t : TA} {p pos : Pos}
theorem p_callR {j : Nat} (G : FnZR X.prog X.w X.K X.mg X.base x k S) (hr : Room j X.A) (ha : PA X (e :: es) t) (hj : k ≤ j := by decide) (hg : Gl X x := by rfl) (hdb : (x == ("__debug__" : Str)) = false := by decide)
    (he : starEach (e :: es) X.env = (false, eval e X.env) :: starEach es X.env := by rfl) (hpl : (backTo pos (starEach es X.env)).any (·.1) = false := by rfl) : PE X (.Call (.Name x p) (e :: es) [] pos) (tCB (zcall X.K S) t) := by
  obtain ⟨f, F, hm, hk⟩ := G.ex
  refine ⟨fun pins s σ H Q I h => ?_⟩
  refine wpAny_Call_Name_kw (ld_glob I hg hm ?_ hdb)
  refine PySem.W.callWith_K (h₀ := X.base) I.ok.mod.kin hk (thn (ha.run pos pins s σ H _ I h) fun us s1 ⟨vs, H1, I1, r, q⟩ => ⟨I1.kIn, ?_⟩) he hpl
  exact wpAny_call (run_fnR F (hr.mono hj) pass0 I1 r q)
theorem p_callR0 {j : Nat} (G : FnZR X.prog X.w X.K X.mg X.base x k S) (hr : Room j X.A) (hj : k ≤ j := by decide) (hg : Gl X x := by rfl) (hdb : (x == ("__debug__" : Str)) = false := by decide) : PE X (.Call (.Name x p) [] [] pos) (tCB (zcall X.K S) tNil) := by
  obtain ⟨f, F, hm, hk⟩ := G.ex
  refine ⟨fun pins s σ H Q I h => ?_⟩
  refine wpAny_Call_Name_kw (ld_glob I hg hm ?_ hdb)
  exact PySem.W.callWith_K0 I.kIn hk (wpAny_call (run_fnR (us := []) (vs := []) F (hr.mono hj) pass0 I .nil h))
end
def SStar (n : Nat) (S : ZSp) : ZSp := fun ds M k => ∃ ws rest, ds = ws ++ rest ∧ ws.length = n ∧ rest.length ≤ sizeLine ∧ S (ws ++ [.tup rest]) M k
section
variable {P : Program} {w : World} {K : Fg} {mg : Str → Option Value} {base : Heap} {x qual : Str} {params : Arguments} {body : List Stmt} {scope : Scope} {f : Addr} {fd : FuncData} {N ps : List Str} {k : Nat}
theorem rps_split {F : Hp} : ∀ {vs : List V} {ws rest : List D}, Rps K F vs (ws ++ rest) → ∃ v1 v2, vs = v1 ++ v2 ∧ Rps K F v1 ws ∧ Rps K F v2 rest
  | vs, [], rest, h => ⟨[], vs, rfl, .nil, h⟩
  | vs, w :: ws, rest, h => by
    obtain ⟨v, vs', rfl, r1, r2⟩ := Rps.uncons (d := w) (ds := ws ++ rest) h
    obtain ⟨v1, v2, rfl, r3, r4⟩ := rps_split r2
    exact ⟨v :: v1, v2, rfl, .cons r1 r3, r4⟩
theorem fn_zstar {pv : Str} (F : FunD K x qual params body scope [] [] f fd) (Sc : FnScope N (ps ++ [pv]) scope) (S : ZSp) (t : TS)
    (hb : ∀ (dV kV doc pm : Value) (an : Option Addr) (cdv ct : Value) (us rest : List Value), us.length = ps.length → bindArgs (PySem.W.fnOf x qual params body scope dV kV doc pm an cdv ct) ⟨us ++ rest, []⟩ = (newTuple rest >>= fun t => pure (ps.zip us ++ [(pv, t)])))
    (ht : ∀ (cdv : Value) (A : Around) (outer : List Env) (s : Shared) (H : Hp) (E : XK), Room k (A.deeper (envOfC qual scope s.heap.objs.size f cdv)) → PSs (cxOf CX0 P w K mg base N qual scope f cdv A outer s H E).nox body t)
    (hz : ∀ ds M kk, S ds M kk → ZS { K := K } t (startD N ds) M { nx := fun _ M' => kk .non M', rt := kk }) : FnR P w K mg base CX0 (k + 1) f (toSp K (SStar ps.length S)) := by
  obtain ⟨oc, od, dV, kV, doc, pm, an, cdv, ct, osl, rfl, lk, hcd, hD, hK⟩ := F.ex
  refine (StX.fn_star (sp := toSp K S) lk hcd Sc StX.cxUp_none (hb dV kV doc pm an cdv ct) fun A outer s H vs Q E hr ⟨R, F, M, ds, kk, L, r, sp, q⟩ => ⟨t, (ht cdv A outer s H E hr).nox, ?_⟩).imp fun vs H Q E ⟨R, F, M, ds, kk, L, r, ⟨ws, rest, e, hl, hz, hs⟩, q⟩ => ?_
  · refine hz ds M kk sp R F _ H _ (has_start r) L (fun _ _ _ _ _ _ _ _ _ _ _ _ h => h) ⟨fun σ' F' H' M' Γ' e L' hs' h' => q .non F' H' M' .non e L' .non h', fun v F' H' M' d e L' r' h' => q v F' H' M' d e L' r' h', fun σ' F' H' M' Γ' e L' hs' h' => h'.elim, fun σ' F' H' M' Γ' e L' hs' h' => h'.elim⟩
  · subst e
    obtain ⟨v1, v2, rfl, r1, r2⟩ := rps_split r
    refine ⟨v1, v2, rfl, by rw [r1.len]; exact hl, by rw [r2.len]; exact hz, fun p hp => ?_⟩
    have ex := ex_upd (o := .tup v2) (L.free hp)
    exact ⟨R, _, M, ws ++ [.tup rest], kk, L.new hp, (r1.mono ex).append (.one (.mk_tup (SqT.of upd_same) (r2.mono ex))), hs, q.mono ex⟩
theorem fnzr_of {S : ZSp} (F : FunD K x qual params body scope [] [] f fd) (G : FnR P w K mg base CX0 k f (toSp K S)) (hm : mg x = some (.ref f)) : FnZR P w K mg base x k S := ⟨f, G, hm, F.kp⟩
end
end Z
namespace Z
open PySem PySem.Spec PyProof.Rows L2
variable {c : Cz}
section
variable {S α : Type} {Γ : Gm} {M : Mem} {out : α}
theorem y_andVX {tb : TE} (Ms : S → Mem) {m2 : Option (D × S)} {mr : D → S → Option α} {b : Bool} {s : S} {k : D → Mem → Prop} (h : bp (if b = true then m2 else some (.bl false, s)) mr = some out) (h2 : ∀ v s', m2 = some (v, s') → ∀ k' : D → Mem → Prop, k' v (Ms s') → ZE c tb Γ (Ms s) k')
    (hM : Ms s = M) (hk : ∀ v s', mr v s' = some out → k v (Ms s')) : AndV c tb Γ M b k := by
  subst hM
  unfold bp at h
  obtain ⟨⟨v, s'⟩, e1, e2⟩ := Option.bind_eq_some_iff.mp h
  exact ⟨fun hb => h2 v s' (ifT hb e1) k (hk v s' e2), fun hb => by cases (ifF hb e1); exact hk _ _ e2⟩
theorem y_orVX {tb : TE} (Ms : S → Mem) {m2 : Option (D × S)} {mr : D → S → Option α} {b : Bool} {s : S} {k : D → Mem → Prop} (h : bp (if b = true then some (.bl true, s) else m2) mr = some out) (h2 : ∀ v s', m2 = some (v, s') → ∀ k' : D → Mem → Prop, k' v (Ms s') → ZE c tb Γ (Ms s) k')
    (hM : Ms s = M) (hk : ∀ v s', mr v s' = some out → k v (Ms s')) : OrV c tb Γ M b k := by
  subst hM
  unfold bp at h
  obtain ⟨⟨v, s'⟩, e1, e2⟩ := Option.bind_eq_some_iff.mp h
  exact ⟨fun hb => by cases (ifT hb e1); exact hk _ _ e2, fun hb => h2 v s' (ifF hb e1) k (hk v s' e2)⟩
theorem y_ifEX {ta tb : TE} (Ms : S → Mem) {mA mB : Option (D × S)} {mr : D → S → Option α} {b : Bool} {s : S} {k : D → Mem → Prop} (h : bp (if b = true then mA else mB) mr = some out) (hA : ∀ v s', mA = some (v, s') → ∀ k' : D → Mem → Prop, k' v (Ms s') → ZE c ta Γ (Ms s) k') (hB : ∀ v s', mB = some (v, s') → ∀ k' : D → Mem → Prop, k' v (Ms s') → ZE c tb Γ (Ms s) k')
    (hM : Ms s = M) (hk : ∀ v s', mr v s' = some out → k v (Ms s')) : IfE c ta tb Γ M b k := by
  subst hM
  unfold bp at h
  obtain ⟨⟨v, s'⟩, e1, e2⟩ := Option.bind_eq_some_iff.mp h
  exact ⟨fun hb => hA v s' (ifT hb e1) k (hk v s' e2), fun hb => hB v s' (ifF hb e1) k (hk v s' e2)⟩
end
end Z
set_option Elab.async false
set_option linter.all false
set_option maxRecDepth 100000
set_option maxHeartbeats 4000000
/-! YHead: a def with a star parameter. -/
namespace Z
open PySem PySem.Spec PyProof.Rows L2
section
variable {P : Program} {w : World} {K : Fg} {mg : Str → Option Value} {base : Heap} {x qual : Str} {params : Arguments} {body : List Stmt} {scope : Scope} {f : Addr} {fd : FuncData} {N ps : List Str} {k : Nat}
theorem fn_zstar0 {pv : Str} (F : FunD K x qual params body scope [] [] f fd) (Sc : FnScope N (ps ++ [pv]) scope) (S : ZSp) (t : TS)
    (hb : ∀ (kV doc pm : Value) (an : Option Addr) (cdv ct : Value) (us rest : List Value), us.length = ps.length → bindArgs (PySem.W.fnOf x qual params body scope .none kV doc pm an cdv ct) ⟨us ++ rest, []⟩ = (newTuple rest >>= fun t => pure (ps.zip us ++ [(pv, t)])))
    (ht : ∀ (cdv : Value) (A : Around) (outer : List Env) (s : Shared) (H : Hp) (E : XK), Room k (A.deeper (envOfC qual scope s.heap.objs.size f cdv)) → PSs (cxOf CX0 P w K mg base N qual scope f cdv A outer s H E).nox body t)
    (hz : ∀ ds M kk, S ds M kk → ZS { K := K } t (startD N ds) M { nx := fun _ M' => kk .non M', rt := kk }) : FnR P w K mg base CX0 (k + 1) f (toSp K (SStar ps.length S)) := by
  obtain ⟨oc, od, dV, kV, doc, pm, an, cdv, ct, osl, rfl, lk, hcd, hD, hK⟩ := F.ex
  have hdV : dV = .none := by
    rcases hD with ⟨_, rfl⟩ | ⟨e, _⟩
    · rfl
    · exact absurd rfl e
  subst hdV
  refine (StX.fn_star (sp := toSp K S) lk hcd Sc StX.cxUp_none (hb kV doc pm an cdv ct) fun A outer s H vs Q E hr ⟨R, F, M, ds, kk, L, r, sp, q⟩ => ⟨t, (ht cdv A outer s H E hr).nox, ?_⟩).imp fun vs H Q E ⟨R, F, M, ds, kk, L, r, ⟨ws, rest, e, hl, hz, hs⟩, q⟩ => ?_
  · refine hz ds M kk sp R F _ H _ (has_start r) L (fun _ _ _ _ _ _ _ _ _ _ _ _ h => h) ⟨fun σ' F' H' M' Γ' e L' hs' h' => q .non F' H' M' .non e L' .non h', fun v F' H' M' d e L' r' h' => q v F' H' M' d e L' r' h', fun σ' F' H' M' Γ' e L' hs' h' => h'.elim, fun σ' F' H' M' Γ' e L' hs' h' => h'.elim⟩
  · subst e
    obtain ⟨v1, v2, rfl, r1, r2⟩ := rps_split r
    refine ⟨v1, v2, rfl, by rw [r1.len]; exact hl, by rw [r2.len]; exact hz, fun p hp => ?_⟩
    have ex := ex_upd (o := .tup v2) (L.free hp)
    exact ⟨R, _, M, ws ++ [.tup rest], kk, L.new hp, (r1.mono ex).append (.one (.mk_tup (SqT.of upd_same) (r2.mono ex))), hs, q.mono ex⟩
end
end Z
set_option Elab.async false
set_option linter.all false
set_option maxRecDepth 100000
set_option maxHeartbeats 4000000
/-! YSimp: equations of the operators, for simp. -/
namespace Z
open PySem PySem.Spec PyProof.Rows L2
section
variable {i j : Int} {x y : List D} {d e : D} {b c : Bool}
@[simp] theorem dAdd_ii : dAdd (.int i) (.int j) = some (.int (i + j)) := rfl
@[simp] theorem dSub_ii : dSub (.int i) (.int j) = some (.int (i - j)) := rfl
@[simp] theorem dNeg_i : dNeg (.int i) = some (.int (-i)) := rfl
@[simp] theorem dAbs_i : dAbs (.int i) = some (.int (i.natAbs : Int)) := rfl
@[simp] theorem dInt_i : dInt (.int i) = some (.int i) := rfl
@[simp] theorem dInt_b : dInt (.bl b) = some (.int (if b then 1 else 0)) := rfl
@[simp] theorem dMax2_ii : dMax2 (.int i) (.int j) = some (.int (max i j)) := rfl
@[simp] theorem dMin2_ii : dMin2 (.int i) (.int j) = some (.int (min i j)) := rfl
@[simp] theorem dGcd_ii : dGcd (.int i) (.int j) = some (.int ((Nat.gcd i.natAbs j.natAbs : Nat) : Int)) := rfl
theorem mulB_r (h : j.natAbs < 2 ^ 64) : mulB i j = true := by
  unfold mulB; rw [decide_eq_true h]; simp
theorem mulB_l (h : i.natAbs < 2 ^ 64) : mulB i j = true := by
  unfold mulB; rw [decide_eq_true h]; simp
theorem log2_le_of_lt {n k : Nat} (h : n < 2 ^ k) : n.log2 ≤ k := by
  by_cases h0 : n = 0
  · subst h0; simp
  · exact Nat.le_of_lt ((Nat.log2_lt h0).mpr h)
theorem mulB_n {a c : Nat} (h1 : i.natAbs < 2 ^ a) (h2 : j.natAbs < 2 ^ c) (h : a + c < 1000000) : mulB i j = true := by
  unfold mulB
  have e1 := log2_le_of_lt h1
  have e2 := log2_le_of_lt h2
  rw [decide_eq_true (p := i.natAbs.log2 + j.natAbs.log2 < 1000000) (by omega)]; simp
theorem dMul_ii (h : mulB i j = true) : dMul (.int i) (.int j) = some (.int (i * j)) := gd_of h
theorem dMul_r (h : j.natAbs < 2 ^ 64) : dMul (.int i) (.int j) = some (.int (i * j)) := dMul_ii (mulB_r h)
theorem dMul_l (h : i.natAbs < 2 ^ 64) : dMul (.int i) (.int j) = some (.int (i * j)) := dMul_ii (mulB_l h)
theorem dMul_n {a c : Nat} (h1 : i.natAbs < 2 ^ a) (h2 : j.natAbs < 2 ^ c) (h : a + c < 1000000) : dMul (.int i) (.int j) = some (.int (i * j)) := dMul_ii (mulB_n h1 h2 h)
theorem dMod_ii (h : 0 < j) : dMod (.int i) (.int j) = some (.int (i % j)) := gd_of (decide_eq_true h)
theorem divB_n {a : Nat} (h0 : j ≠ 0) (h1 : j.natAbs < 2 ^ a) (h : a < 9000) : divB j = true := by
  unfold divB
  have e1 := log2_le_of_lt h1
  rw [decide_eq_true h0, decide_eq_true (p := j.natAbs.log2 < 9000) (by omega)]; rfl
theorem dDiv_n {a : Nat} (h0 : j ≠ 0) (h1 : j.natAbs < 2 ^ a) (h : a < 9000) : dDiv (.int i) (.int j) = some (.int (i.fdiv j)) := gd_of (divB_n h0 h1 h)
@[simp] theorem bLt_ii : bLt (.int i) (.int j) = some (decide (i < j)) := rfl
@[simp] theorem bLe_ii : bLe (.int i) (.int j) = some (decide (i ≤ j)) := rfl
@[simp] theorem bGt_ii : bGt (.int i) (.int j) = some (decide (j < i)) := rfl
@[simp] theorem bGe_ii : bGe (.int i) (.int j) = some (decide (j ≤ i)) := rfl
@[simp] theorem bEq_ii : bEq (.int i) (.int j) = some (decide (i = j)) := rfl
@[simp] theorem bEq_bb : bEq (.bl b) (.bl c) = some (decide (b = c)) := rfl
@[simp] theorem bNe_ii : bNe (.int i) (.int j) = some (!decide (i = j)) := rfl
@[simp] theorem bNe_bb : bNe (.bl b) (.bl c) = some (!decide (b = c)) := rfl
@[simp] theorem bEq_ss {s t : Str} : bEq (.str s) (.str t) = some (decide (s = t)) := rfl
@[simp] theorem bNe_ss {s t : Str} : bNe (.str s) (.str t) = some (!decide (s = t)) := rfl
@[simp] theorem bTru_b : bTru (.bl b) = some b := rfl
@[simp] theorem bTru_i : bTru (.int i) = some (i != 0) := rfl
@[simp] theorem bTru_non : bTru .non = some false := rfl
@[simp] theorem bTru_l : bTru (.lst x) = some (!x.isEmpty) := rfl
@[simp] theorem bTru_t : bTru (.tup x) = some (!x.isEmpty) := rfl
@[simp] theorem dBl_b : dBl (.bl b) = some b := rfl
@[simp] theorem dLen_t : dLen (.tup x) = some (.int (x.length : Nat)) := rfl
@[simp] theorem dLen_l : dLen (.lst x) = some (.int (x.length : Nat)) := rfl
@[simp] theorem dLen_s : dLen (.scr x) = some (.int (x.length : Nat)) := rfl
@[simp] theorem dPart_i : dPart (.int i) = some (some i) := rfl
@[simp] theorem un2_t : un2 (.tup [d, e]) = some (d, e) := rfl
@[simp] theorem items_t : items (.tup x) = some x := rfl
@[simp] theorem items_l : items (.lst x) = some x := rfl
@[simp] theorem itStr_t : itStr (.tup x) = some x := rfl
@[simp] theorem itStr_l : itStr (.lst x) = some x := rfl
@[simp] theorem itStr_s {z : Str} : itStr (.str z) = some (signsD z) := rfl
@[simp] theorem dTuple_l : dTuple (.lst x) = some (.tup x) := rfl
@[simp] theorem dTuple_t : dTuple (.tup x) = some (.tup x) := rfl
@[simp] theorem dList_t : dList (.tup x) = some (.lst x) := rfl
@[simp] theorem dList_l : dList (.lst x) = some (.lst x) := rfl
@[simp] theorem dSum_l {ns : List Int} : dSum (.lst (ns.map .int)) = some (.int ns.sum) := by unfold dSum; simp [itemsL]
@[simp] theorem isNon_i : isNon (.int i) = false := rfl
@[simp] theorem isNon_non : isNon .non = true := rfl
@[simp] theorem isNon_t : isNon (.tup x) = false := rfl
@[simp] theorem isNon_l : isNon (.lst x) = false := rfl
theorem itRng1_n {n : Nat} (h : n < 2 ^ 62) : itRng1 (.int (n : Int)) = some (rngD 0 n) := by
  have h' : ((n : Nat) : Int) < 2 ^ 62 := by exact_mod_cast h
  have hb : rngB (n : Int) = true := by unfold rngB; rw [Bool.and_eq_true]; exact ⟨decide_eq_true (by omega), decide_eq_true h'⟩
  show (if rngB (n : Int) = true then some (rngD 0 (n : Int).toNat) else none) = _
  rw [if_pos hb, Int.toNat_natCast]
@[simp] theorem ii_int : bIsi (.int i) "int" = some true := rfl
@[simp] theorem ii_bool : bIsi (.int i) "bool" = some false := rfl
@[simp] theorem ii_tup : bIsi (.tup x) "tuple" = some true := rfl
@[simp] theorem ii_bb : bIsi (.bl b) "bool" = some true := rfl
@[simp] theorem ii_str {s : Str} : bIsi (.str s) "str" = some true := rfl
@[simp] theorem ii_ll : bIsi (.lst x) "list" = some true := rfl
theorem dIx_l {n : Nat} {v : D} (h : x[n]? = some v) : dIx (.lst x) (.int (n : Int)) = some v := L2.atI_nat h
theorem dIx_t {n : Nat} {v : D} (h : x[n]? = some v) : dIx (.tup x) (.int (n : Int)) = some v := L2.atI_nat h
theorem dIx_sc {n : Nat} {v : D} (h : x[n]? = some v) : dIx (.scr x) (.int (n : Int)) = some v := L2.atI_nat h
@[simp] theorem dIx_l0 : dIx (.lst (d :: x)) (.int 0) = some d := dIx_l (n := 0) rfl
@[simp] theorem dIx_t0 : dIx (.tup (d :: x)) (.int 0) = some d := dIx_t (n := 0) rfl
@[simp] theorem dIx_l1 : dIx (.lst (d :: e :: x)) (.int 1) = some e := dIx_l (n := 1) rfl
@[simp] theorem dIx_t1 : dIx (.tup (d :: e :: x)) (.int 1) = some e := dIx_t (n := 1) rfl
@[simp] theorem dIx_l2 {f : D} : dIx (.lst (d :: e :: f :: x)) (.int 2) = some f := dIx_l (n := 2) rfl
@[simp] theorem dIx_t2 {f : D} : dIx (.tup (d :: e :: f :: x)) (.int 2) = some f := dIx_t (n := 2) rfl
theorem dSet_n {n : Nat} (h : n < x.length) : dSet x (.int (n : Int)) d = some (x.set n d) := by
  have e : L2.ixN x.length (n : Int) = some n := by
    unfold L2.ixN
    rw [if_pos (by omega), if_pos (by omega), Int.toNat_natCast]
  show (L2.ixN x.length (n : Int)).map _ = _
  rw [e]; rfl
@[simp] theorem dSet_0 {f : D} : dSet (f :: x) (.int 0) d = some (d :: x) := dSet_n (n := 0) (by simp)
@[simp] theorem dSet_1 {f g : D} : dSet (f :: g :: x) (.int 1) d = some (f :: d :: x) := dSet_n (n := 1) (by simp)
@[simp] theorem dSet_2 {f g h : D} : dSet (f :: g :: h :: x) (.int 2) d = some (f :: g :: d :: x) := dSet_n (n := 2) (by simp)
theorem dApp_ok (h : x.length < sizeLine) : dApp x d = some (x ++ [d]) := by unfold dApp; rw [if_pos h]
end
section
variable {S R : Type}
theorem foldO_cons {f : S → D → Option S} {d : D} {ds : List D} {s s' : S} (h : f s d = some s') : foldO f (d :: ds) s = foldO f ds s' := by
  show (f s d).bind _ = _
  rw [h]; rfl
/-- a fold by an invariant -/
theorem foldO_inv {f : S → D → Option S} (I : Nat → S → Prop) : ∀ (ds : List D) (k : Nat) (s : S), I k s → (∀ i d s, ds[i]? = some d → I (k + i) s → ∃ s', f s d = some s' ∧ I (k + i + 1) s') → ∃ s', foldO f ds s = some s' ∧ I (k + ds.length) s'
  | [], k, s, h, _ => ⟨s, rfl, h⟩
  | d :: ds, k, s, h, hs => by
    obtain ⟨s1, e1, h1⟩ := hs 0 d s rfl h
    obtain ⟨s2, e2, h2⟩ := foldO_inv I ds (k + 1) s1 h1 fun i d s hd hI => by
      have := hs (i + 1) d s hd (by rw [show k + (i + 1) = k + 1 + i by omega]; exact hI)
      rwa [show k + (i + 1) + 1 = k + 1 + i + 1 by omega] at this
    refine ⟨s2, by rw [foldO_cons e1]; exact e2, ?_⟩
    rw [List.length_cons, show k + (ds.length + 1) = k + 1 + ds.length by omega]; exact h2
theorem forL_all {f : S → D → Option (Fl S S R)} (I : S → Prop) : ∀ (ds : List D) (s : S), I s → (∀ d ∈ ds, ∀ s, I s → ∃ s', f s d = some (.nx s') ∧ I s') → ∃ s', forL f ds s = some (.nx s') ∧ I s'
  | [], s, h, _ => ⟨s, rfl, h⟩
  | d :: ds, s, h, hs => by
    obtain ⟨s1, e1, h1⟩ := hs d List.mem_cons_self s h
    obtain ⟨s2, e2, h2⟩ := forL_all I ds s1 h1 fun d hd => hs d (List.mem_cons_of_mem _ hd)
    refine ⟨s2, ?_, h2⟩
    show (f s d).bind _ = _
    rw [e1]; exact e2
theorem forL_unit {f : Unit → D → Option (Fl Unit Unit R)} {ds : List D} (h : ∀ d ∈ ds, f () d = some (.nx ())) : forL f ds () = some (.nx ()) := by
  obtain ⟨_, e, _⟩ := forL_all (fun _ => True) ds () trivial fun d hd s _ => ⟨(), h d hd, trivial⟩
  exact e
theorem mapO_map {α : Type} {f : D → Option D} {g : α → D} {r : α → D} : ∀ {xs : List α}, (∀ x ∈ xs, f (g x) = some (r x)) → mapO f (xs.map g) = some (xs.map r)
  | [], _ => rfl
  | x :: xs, h => by
    show (f (g x)).bind _ = _
    rw [h x List.mem_cons_self]
    show (mapO f (xs.map g)).bind _ = _
    rw [mapO_map fun y hy => h y (List.mem_cons_of_mem _ hy)]; rfl
theorem lcO_map {α : Type} {f : D → Option D} {g : α → D} {r : α → D} {xs : List α} (hl : xs.length ≤ sizeLine) (h : ∀ x ∈ xs, f (g x) = some (r x)) : lcO f (xs.map g) = some (xs.map r) := by
  unfold lcO; rw [List.length_map, if_pos hl]; exact mapO_map h
theorem filO_map {α : Type} {f : D → Option (Option D)} {g : α → D} {p : α → Bool} : ∀ {xs : List α}, (∀ x ∈ xs, f (g x) = some (if p x then some (g x) else none)) → filO f (xs.map g) = some ((xs.filter p).map g)
  | [], _ => rfl
  | x :: xs, h => by
    show (f (g x)).bind _ = _
    rw [h x List.mem_cons_self]
    show (filO f (xs.map g)).bind _ = _
    rw [filO_map fun y hy => h y (List.mem_cons_of_mem _ hy)]
    cases e : p x with
    | true => rw [List.filter_cons_of_pos e]; simp
    | false => rw [List.filter_cons_of_neg (by rw [e]; decide)]; simp
theorem lcF_map {α : Type} {f : D → Option (Option D)} {g : α → D} {p : α → Bool} {xs : List α} (hl : xs.length ≤ sizeLine) (h : ∀ x ∈ xs, f (g x) = some (if p x then some (g x) else none)) : lcF f (xs.map g) = some ((xs.filter p).map g) := by
  unfold lcF; rw [List.length_map, if_pos hl]; exact filO_map h
/-- a comprehension that draws -/
theorem mapS_all {f : S → D → Option (D × S)} (I : S → Prop) (P : D → Prop) : ∀ (ds : List D) (s : S), I s → (∀ d ∈ ds, ∀ s, I s → ∃ y s', f s d = some (y, s') ∧ P y ∧ I s') → ∃ ys s', mapS f ds s = some (ys, s') ∧ ys.length = ds.length ∧ (∀ y ∈ ys, P y) ∧ I s'
  | [], s, h, _ => ⟨[], s, rfl, rfl, fun _ h => absurd h List.not_mem_nil, h⟩
  | d :: ds, s, h, hs => by
    obtain ⟨y, s1, e1, p1, h1⟩ := hs d List.mem_cons_self s h
    obtain ⟨ys, s2, e2, l2, p2, h2⟩ := mapS_all I P ds s1 h1 fun d hd => hs d (List.mem_cons_of_mem _ hd)
    refine ⟨y :: ys, s2, ?_, by rw [List.length_cons, List.length_cons, l2], fun z hz => ?_, h2⟩
    · show bp (f s d) _ = _
      rw [e1, bp_some, e2, bp_some]
    · rcases List.mem_cons.mp hz with rfl | hz
      · exact p1
      · exact p2 z hz
theorem lcS_all {f : S → D → Option (D × S)} (I : S → Prop) (P : D → Prop) {ds : List D} {s : S} (hl : ds.length ≤ sizeLine) (h : I s) (hs : ∀ d ∈ ds, ∀ s, I s → ∃ y s', f s d = some (y, s') ∧ P y ∧ I s') : ∃ ys s', lcS f ds s = some (ys, s') ∧ ys.length = ds.length ∧ (∀ y ∈ ys, P y) ∧ I s' := by
  unfold lcS; rw [if_pos hl]; exact mapS_all I P ds s h hs
theorem mem_rngD {n : Nat} {d : D} (h : d ∈ rngD 0 n) : ∃ i, i < n ∧ d = .int ((i : Nat) : Int) := by
  unfold rngD at h
  obtain ⟨i, hi, rfl⟩ := List.mem_map.mp h
  exact ⟨i, List.mem_range.mp hi, by rw [Int.zero_add]⟩
theorem all_map {α : Type} {g : α → D} : ∀ {ys : List D}, (∀ y ∈ ys, ∃ x, y = g x) → ∃ xs : List α, ys = xs.map g
  | [], _ => ⟨[], rfl⟩
  | y :: ys, h => by
    obtain ⟨x, rfl⟩ := h y List.mem_cons_self
    obtain ⟨xs, rfl⟩ := all_map (g := g) fun z hz => h z (List.mem_cons_of_mem _ hz)
    exact ⟨x :: xs, rfl⟩
end
end Z
set_option Elab.async false
set_option linter.all false
set_option maxRecDepth 100000
set_option maxHeartbeats 4000000
/-! YSimp2: loops by an invariant, read off the goal. -/
namespace Z
open PySem PySem.Spec PyProof.Rows L2
theorem fin_all {S R : Type} {f : S → D → Option (Fl S S R)} {ds : List D} {s : S} {mr : S → Option R} (I : S → Prop) (P : R → Prop) (h : I s) (hs : ∀ d ∈ ds, ∀ s, I s → ∃ s', f s d = some (.nx s') ∧ I s') (hm : ∀ s, I s → ∃ r, mr s = some r ∧ P r) : ∃ r, Fl.fin (forL f ds s) mr = some r ∧ P r := by
  obtain ⟨s', e, h'⟩ := forL_all (R := R) I ds s h hs
  rw [e]; exact hm s' h'
theorem fin_unit {R : Type} {f : Unit → D → Option (Fl Unit Unit R)} {ds : List D} {mr : Unit → Option R} {r : R} (hs : ∀ d ∈ ds, f () d = some (.nx ())) (hm : mr () = some r) : Fl.fin (forL f ds ()) mr = some r := by
  rw [forL_unit hs]; exact hm
theorem pass_unit {R N S α : Type} {f : Unit → D → Option (Fl Unit Unit R)} {ds : List D} {mr : Unit → Option (Fl N S R)} {r : Fl N S R} (hs : ∀ d ∈ ds, f () d = some (.nx ())) (hm : mr () = some r) : Fl.pass (forL f ds ()) mr = some r := by
  rw [forL_unit hs]; exact hm
theorem fold_all {S β : Type} {f : S → D → Option S} {ds : List D} {s : S} {mr : S → Option β} (I : S → Prop) (P : β → Prop) (h : I s) (hs : ∀ d ∈ ds, ∀ s, I s → ∃ s', f s d = some s' ∧ I s') (hm : ∀ s, I s → ∃ r, mr s = some r ∧ P r) : ∃ r, (foldO f ds s).bind mr = some r ∧ P r := by
  obtain ⟨s', e, h'⟩ := foldO_inv (fun _ => I) ds 0 s h fun i d s hd hI => hs d (List.mem_of_getElem? hd) s hI
  rw [e]; exact hm s' h'
theorem fold_ix {S β : Type} {f : S → D → Option S} {ds : List D} {s : S} {mr : S → Option β} (I : Nat → S → Prop) (P : β → Prop) (h : I 0 s) (hs : ∀ i d s, ds[i]? = some d → I i s → ∃ s', f s d = some s' ∧ I (i + 1) s') (hm : ∀ s, I ds.length s → ∃ r, mr s = some r ∧ P r) : ∃ r, (foldO f ds s).bind mr = some r ∧ P r := by
  obtain ⟨s', e, h'⟩ := foldO_inv I ds 0 s h fun i d s hd hI => by
    rw [Nat.zero_add] at hI ⊢; exact hs i d s hd hI
  rw [Nat.zero_add] at h'
  rw [e]; exact hm s' h'
/-- a comprehension that draws, then the rest -/
theorem lcS_then {S β : Type} {f : S → D → Option (D × S)} {ds : List D} {s : S} {mr : List D → S → Option β} (I : S → Prop) (P : D → Prop) (Q : β → Prop) (hl : ds.length ≤ sizeLine) (h : I s) (hs : ∀ d ∈ ds, ∀ s, I s → ∃ y s', f s d = some (y, s') ∧ P y ∧ I s') (hm : ∀ ys s, ys.length = ds.length → (∀ y ∈ ys, P y) → I s → ∃ r, mr ys s = some r ∧ Q r) : ∃ r, bp (lcS f ds s) mr = some r ∧ Q r := by
  obtain ⟨ys, s', e, l, p, h'⟩ := lcS_all I P hl h hs
  rw [e, bp_some]; exact hm ys s' l p h'
theorem ex_pr {V S : Type} {m : Option (V × S)} {v : V} {I : S → Prop} (h : ∃ r, m = some r ∧ ∃ b, r = (v, b) ∧ I b) : ∃ b, m = some (v, b) ∧ I b := by
  obtain ⟨r, e, b, rfl, hb⟩ := h
  exact ⟨b, e, hb⟩
theorem ex_pr2 {A B : Type} {m : Option (A × B)} {P : A → B → Prop} (h : ∃ r, m = some r ∧ ∃ a b, r = (a, b) ∧ P a b) : ∃ a b, m = some (a, b) ∧ P a b := by
  obtain ⟨r, e, a, b, rfl, hp⟩ := h
  exact ⟨a, b, e, hp⟩
theorem ex_pr3 {A B α : Type} {m : Option (A × B)} {g : α → A} {P : α → B → Prop} (h : ∃ r, m = some r ∧ ∃ a b, r = (g a, b) ∧ P a b) : ∃ a b, m = some (g a, b) ∧ P a b := by
  obtain ⟨r, e, a, b, rfl, hp⟩ := h
  exact ⟨a, b, e, hp⟩
theorem ex_nx {N S R : Type} {m : Option (Fl N S R)} {I : N → Prop} (h : ∃ r, m = some r ∧ ∃ b, r = .nx b ∧ I b) : ∃ b, m = some (.nx b) ∧ I b := by
  obtain ⟨r, e, b, rfl, hb⟩ := h
  exact ⟨b, e, hb⟩
theorem ex_eq {V : Type} {m : Option V} {v : V} (h : ∃ r, m = some r ∧ r = v) : m = some v := by
  obtain ⟨r, e, rfl⟩ := h
  exact e
end Z
set_option Elab.async false
set_option linter.all false
set_option maxRecDepth 100000
set_option maxHeartbeats 4000000
/-! YTxt: texts of numbers, parts of texts. -/
namespace Z
open PySem PySem.Spec PyProof.Rows L2 TL
/-- the signs of an integer -/
def tI (i : Int) : List Nat := if i < 0 then 45 :: numL i.natAbs else numL i.natAbs
theorem tl_int (i : Int) : tl (Str.ofString (toString i)) = tI i := by
  unfold tI
  by_cases h : i < 0
  · rw [if_pos h]
    obtain ⟨m, rfl⟩ : ∃ m : Nat, i = Int.negSucc m := ⟨(-i - 1).toNat, by omega⟩
    have e : toString (Int.negSucc m) = "-" ++ toString ((m + 1 : Nat) : Int) := rfl
    have e2 : (Int.negSucc m).natAbs = m + 1 := rfl
    rw [e, e2, ← tl_num (m + 1), tl_ofString, tl_ofString, String.toList_append, List.map_append]
    rfl
  · rw [if_neg h]
    obtain ⟨m, rfl⟩ : ∃ m : Nat, i = (m : Int) := ⟨i.toNat, by omega⟩
    exact tl_num m
theorem pow2_10 (n : Nat) : 2 ^ n ≤ 10 ^ n := Nat.pow_le_pow_left (by decide) n
theorem tI_len {i : Int} {n : Nat} (h0 : 0 < n) (h : i.natAbs < 2 ^ n) : (tI i).length ≤ n + 1 := by
  have := numL_len (n := i.natAbs) h0 (Nat.lt_of_lt_of_le h (pow2_10 n))
  unfold tI
  split
  · rw [List.length_cons]; omega
  · omega
theorem log_lt {i : Int} {n : Nat} (h : i.natAbs < 2 ^ n) (hn : n < 1920) : decide (i.natAbs.log2 < 1920) = true := by
  have := log2_le_of_lt h
  exact decide_eq_true (by omega)
theorem dStr_n {i : Int} {n : Nat} (h : i.natAbs < 2 ^ n) (hn : n < 1920) : dStr (.int i) = some (.str (Str.ofString (toString i))) := gd_of (log_lt h hn)
theorem dFmt_n {i : Int} {n : Nat} (h : i.natAbs < 2 ^ n) (hn : n < 1920) : dFmt (.int i) = some (.str (Str.ofString (toString i))) := gd_of (log_lt h hn)
theorem dJ_ok {x y : Str} (h : (tl x).length + (tl y).length ≤ 100000) : dJ x (.str y) = some (x ++ y) := by
  show (if (x ++ y).length ≤ sizeLine then some (x ++ y) else none) = _
  rw [if_pos]
  rw [len_tl, tl_append, List.length_append]
  have : sizeLine = 16777216 := rfl
  omega
theorem size_ok {n : Nat} (h : n ≤ 100000) : n ≤ sizeLine := by
  have : sizeLine = 16777216 := rfl
  omega
theorem tl_mk1 (n : Nat) : tl (⟨#[n]⟩ : Str) = [n] := rfl
/-- the place of a sign -/
theorem find_at {x y : Str} {s : Nat} {a b : List Nat} (ey : tl y = [s]) (ex : tl x = a ++ s :: b) (h : s ∉ a) : Txt.find x y = (a.length : Int) := by
  have hy : tl y ≠ [] := by rw [ey]; simp
  have hA : StrLaws.At x y x.length a.length := (at_iff hy _).mpr (by rw [ey, ex, List.drop_left]; simp [pre])
  rcases find_whole x y with ⟨_, hn⟩ | ⟨i, e, hi, hk⟩
  · exact absurd hA (hn _)
  · rw [e]
    have h1 : ¬ a.length < i := fun hl => hk _ hl hA
    have h2 := (at_iff hy _).mp hi
    rw [ey, ex] at h2
    by_cases h3 : i < a.length
    · rw [List.drop_append_of_le_length (by omega), List.drop_eq_getElem_cons h3, List.cons_append] at h2
      have h4 : [a[i]] = [s] := by simpa [pre] using h2
      have : a[i] = s := by simpa using h4
      exact absurd (this ▸ List.getElem_mem h3) h
    · have : i = a.length := by omega
      rw [this]
theorem dFind_at {x y : Str} {s : Nat} {a b : List Nat} (ey : tl y = [s]) (ex : tl x = a ++ s :: b) (h : s ∉ a) : dFind (.str x) (.str y) = some (.int (a.length : Int)) := by
  show some (D.int (Txt.find x y)) = _
  rw [find_at ey ex h]
/-- a sign in a text -/
theorem bIn_sign {x y : Str} {s : Nat} (ex : tl x = [s]) : bInY (.str x) (.str y) = some (decide (s ∈ tl y)) := by
  have e : x = ⟨#[s]⟩ := ext_tl ex
  subst e
  show (if (⟨#[s]⟩ : Str) = (⟨#[s]⟩ : Str) then some (decide (s ∈ tl y)) else none) = _
  rw [if_pos rfl]
theorem str_eq {x y : Str} : decide (x = y) = decide (tl x = tl y) := decide_eq_decide.mpr ⟨fun h => by rw [h], fun h => ext_tl h⟩
theorem bEq_tl {x y : Str} : bEq (.str x) (.str y) = some (decide (tl x = tl y)) := by rw [bEq_ss, str_eq]
theorem bNe_tl {x y : Str} : bNe (.str x) (.str y) = some (!decide (tl x = tl y)) := by rw [bNe_ss, str_eq]
/-- parts of a text -/
theorem slice_to {x : Str} {k : Nat} (hx : x.length ≤ sizeLine) : ∃ y, dSlice (.str x) none (some (k : Int)) = some (.str y) ∧ tl y = (tl x).take k := by
  refine ⟨_, gd_of (decide_eq_true hx), ?_⟩
  unfold cutS
  rw [tl_mk, HT.sIx_none, HT.sIx_nat, List.drop_zero, Nat.sub_zero, len_tl]
  show List.take (min k (tl x).length) (tl x) = _
  by_cases h : k ≤ (tl x).length
  · rw [Nat.min_eq_left h]
  · rw [Nat.min_eq_right (by omega), List.take_length, List.take_of_length_le (by omega)]
theorem slice_from {x : Str} {k : Nat} (hx : x.length ≤ sizeLine) : ∃ y, dSlice (.str x) (some (k : Int)) none = some (.str y) ∧ tl y = (tl x).drop k := by
  refine ⟨_, gd_of (decide_eq_true hx), ?_⟩
  unfold cutS
  rw [tl_mk, HT.sIx_none, HT.sIx_nat, len_tl]
  show List.take ((tl x).length - min k (tl x).length) (List.drop (min k (tl x).length) (tl x)) = _
  by_cases h : k ≤ (tl x).length
  · rw [Nat.min_eq_left h, List.take_of_length_le (by rw [List.length_drop]; exact Nat.le_refl _)]
  · rw [Nat.min_eq_right (by omega), List.drop_length, List.drop_eq_nil_of_le (by omega), List.take_nil]
theorem dIx_s0 {x : Str} {s : Nat} {r : List Nat} (ex : tl x = s :: r) (hx : x.length ≤ sizeLine) : dIx (.str x) (.int 0) = some (.str ⟨#[s]⟩) := by
  show (if x.length ≤ sizeLine then (L2.atI x.cps.toList 0).map fun n => D.str ⟨#[n]⟩ else none) = _
  rw [if_pos hx, show x.cps.toList = s :: r from ex]
  rw [show L2.atI (s :: r) 0 = some s from L2.atI_nat (j := 0) rfl]; rfl
theorem signs_tl {x : Str} : signsD x = (tl x).map fun n => D.str ⟨#[n]⟩ := rfl
/-- a loop that only steps -/
theorem forL_foldl {S R α β : Type} {f : S → D → Option (Fl S S R)} {g : α → D} {r : β → S} {st : β → α → β} : ∀ {xs : List α} {s : β}, (∀ s x, x ∈ xs → f (r s) (g x) = some (.nx (r (st s x)))) → forL f (xs.map g) (r s) = some (.nx (r (xs.foldl st s)))
  | [], s, _ => rfl
  | x :: xs, s, h => by
    show (f (r s) (g x)).bind _ = _
    rw [h s x List.mem_cons_self]
    exact forL_foldl fun s y hy => h s y (List.mem_cons_of_mem _ hy)
theorem digits_mem : tl (Str.ofString "0123456789") = [48, 49, 50, 51, 52, 53, 54, 55, 56, 57] := by rw [tl_ofString]; rfl
theorem digit_in {c : Nat} (h : 48 ≤ c ∧ c ≤ 57) : bInY (.str ⟨#[c]⟩) (.str (Str.ofString "0123456789")) = some true := by
  rw [bIn_sign (s := c) rfl, digits_mem]
  congr 1
  rw [decide_eq_true_eq]
  simp only [List.mem_cons, List.not_mem_nil, or_false]; omega
theorem digit_find {c : Nat} (h : 48 ≤ c ∧ c ≤ 57) : dFind (.str (Str.ofString "0123456789")) (.str ⟨#[c]⟩) = some (.int ((c : Int) - 48)) := by
  have key : ∀ (d : Nat) (a b : List Nat), [48, 49, 50, 51, 52, 53, 54, 55, 56, 57] = a ++ (48 + d) :: b → a.length = d → (48 + d) ∉ a → dFind (.str (Str.ofString "0123456789")) (.str ⟨#[48 + d]⟩) = some (.int (((48 + d : Nat) : Int) - 48)) := fun d a b e hl hn => by
    rw [dFind_at (s := 48 + d) rfl (digits_mem.trans e) hn, hl]
    congr 2
    omega
  obtain ⟨d, rfl⟩ : ∃ d, c = 48 + d := ⟨c - 48, by omega⟩
  have hd : d ≤ 9 := by omega
  have : d = 0 ∨ d = 1 ∨ d = 2 ∨ d = 3 ∨ d = 4 ∨ d = 5 ∨ d = 6 ∨ d = 7 ∨ d = 8 ∨ d = 9 := by omega
  rcases this with rfl | rfl | rfl | rfl | rfl | rfl | rfl | rfl | rfl | rfl
  · exact key 0 [] [49, 50, 51, 52, 53, 54, 55, 56, 57] rfl rfl (by decide)
  · exact key 1 [48] [50, 51, 52, 53, 54, 55, 56, 57] rfl rfl (by decide)
  · exact key 2 [48, 49] [51, 52, 53, 54, 55, 56, 57] rfl rfl (by decide)
  · exact key 3 [48, 49, 50] [52, 53, 54, 55, 56, 57] rfl rfl (by decide)
  · exact key 4 [48, 49, 50, 51] [53, 54, 55, 56, 57] rfl rfl (by decide)
  · exact key 5 [48, 49, 50, 51, 52] [54, 55, 56, 57] rfl rfl (by decide)
  · exact key 6 [48, 49, 50, 51, 52, 53] [55, 56, 57] rfl rfl (by decide)
  · exact key 7 [48, 49, 50, 51, 52, 53, 54] [56, 57] rfl rfl (by decide)
  · exact key 8 [48, 49, 50, 51, 52, 53, 54, 55] [57] rfl rfl (by decide)
  · exact key 9 [48, 49, 50, 51, 52, 53, 54, 55, 56] [] rfl rfl (by decide)
/-- the first sign of a number -/
theorem numL_head : ∀ (n : Nat), 0 < n → ∃ c r, numL n = c :: r ∧ 49 ≤ c ∧ c ≤ 57 := by
  intro n
  induction n using Nat.strongRecOn with
  | _ n ih =>
    intro hn
    by_cases h : n < 10
    · exact ⟨48 + n, [], numL_lt h, by omega, by omega⟩
    · obtain ⟨c, r, e, h1, h2⟩ := ih (n / 10) (by omega) (by omega)
      exact ⟨c, r ++ [48 + n % 10], by rw [numL_step (by omega), e]; rfl, h1, h2⟩
theorem tI_head (i : Int) : ∃ c r, tI i = c :: r ∧ (i < 0 → c = 45) ∧ (0 ≤ i → 48 ≤ c ∧ c ≤ 57) := by
  unfold tI
  by_cases h : i < 0
  · rw [if_pos h]; exact ⟨45, _, rfl, fun _ => rfl, fun h' => by omega⟩
  · rw [if_neg h]
    by_cases h0 : i.natAbs = 0
    · rw [h0]; exact ⟨48, [], numL_lt (by decide), fun h' => by omega, fun _ => by omega⟩
    · obtain ⟨c, r, e, h1, h2⟩ := numL_head i.natAbs (by omega)
      exact ⟨c, r, e, fun h' => by omega, fun _ => by omega⟩
theorem tI_free {i : Int} {s : Nat} (h : s ≠ 45) (h2 : s < 48 ∨ 57 < s) : s ∉ tI i := by
  unfold tI
  split
  · rw [List.mem_cons]
    rintro (h' | h')
    · exact h h'
    · exact numL_free h2 h'
  · exact numL_free h2
end Z
set_option Elab.async false
set_option linter.all false
set_option maxRecDepth 100000
set_option maxHeartbeats 4000000
/-! YCls: instances: fields, methods, making. -/
namespace Z
open PySem PySem.Spec PyProof.Rows L2
/-! ### named data -/
section
variable {K : Fg} {F : Hp} {vs : List (Str × V)} {fs : List (Str × D)}
theorem Rpf.nil : Rpf K F [] [] := ⟨rfl, fun i q p h _ => by simp at h, fun i q p h _ => by simp at h⟩
theorem Rpf.cons {f : Str} {v : V} {d : D} (h : Rp K F v d) (t : Rpf K F vs fs) : Rpf K F ((f, v) :: vs) ((f, d) :: fs) := ⟨by rw [List.length_cons, List.length_cons, t.len], fun i q p a b => by
  cases i with
  | zero =>
    rw [List.getElem?_cons_zero] at a b
    cases a; cases b; rfl
  | succ i => rw [List.getElem?_cons_succ] at a b; exact t.nm i q p a b, fun i q p a b => by
  cases i with
  | zero =>
    rw [List.getElem?_cons_zero] at a b
    cases a; cases b; exact h
  | succ i => rw [List.getElem?_cons_succ] at a b; exact t.at_ i q p a b⟩
theorem Rpf.uncons {p : Str × D} (h : Rpf K F vs (p :: fs)) : ∃ v vs', vs = (p.1, v) :: vs' ∧ Rp K F v p.2 ∧ Rpf K F vs' fs := by
  cases vs with
  | nil => exact absurd h.len (by simp)
  | cons q vs' =>
    obtain ⟨g, v⟩ := q
    have e := h.nm 0 (g, v) p rfl rfl
    refine ⟨v, vs', by rw [← e], h.at_ 0 (g, v) p rfl rfl, ⟨by simpa using h.len, fun i x y a b => h.nm (i + 1) x y (by simpa using a) (by simpa using b), fun i x y a b => h.at_ (i + 1) x y (by simpa using a) (by simpa using b)⟩⟩
theorem Rpf.unnil (h : Rpf K F vs []) : vs = [] := List.eq_nil_of_length_eq_zero h.len
theorem Rpf.look {f : Str} {d : D} : ∀ {fs : List (Str × D)} {vs : List (Str × V)}, Rpf K F vs fs → fs.lookup f = some d → ∃ v, vs.lookup f = some v ∧ Rp K F v d
  | [], _, _, e => by cases e
  | p :: fs, vs, h, e => by
    obtain ⟨v, vs', rfl, r, t⟩ := h.uncons
    rw [List.lookup_cons] at e ⊢
    cases hb : f == p.1 with
    | true => rw [hb] at e; cases e; exact ⟨v, rfl, r⟩
    | false => rw [hb] at e; exact t.look e
theorem Rpf.look_none {f : Str} : ∀ {fs : List (Str × D)} {vs : List (Str × V)}, Rpf K F vs fs → fs.lookup f = none → vs.lookup f = none
  | [], _, h, _ => by rw [h.unnil]; rfl
  | p :: fs, vs, h, e => by
    obtain ⟨v, vs', rfl, r, t⟩ := h.uncons
    rw [List.lookup_cons] at e ⊢
    cases hb : f == p.1 with
    | true => rw [hb] at e; cases e
    | false => rw [hb] at e; exact t.look_none e
def putD (f : Str) (d : D) : List (Str × D) → List (Str × D)
  | [] => [(f, d)]
  | (g, x) :: r => if g = f then (g, d) :: r else (g, x) :: putD f d r
theorem Rpf.put {f : Str} {v : V} {d : D} (hv : Rp K F v d) : ∀ {fs : List (Str × D)} {vs : List (Str × V)}, Rpf K F vs fs → Rpf K F (putF f v vs) (putD f d fs)
  | [], _, h => by rw [h.unnil]; exact .cons hv .nil
  | (g, x) :: fs, vs, h => by
    obtain ⟨v', vs', rfl, r, t⟩ := h.uncons
    unfold putF putD
    by_cases e : g = f
    · rw [if_pos e, if_pos e]; exact .cons hv t
    · rw [if_neg e, if_neg e]; exact .cons r (Rpf.put hv t)
end
/-! ### what a slot's instance stands for -/
inductive ViewO (M : Mem) : D → D → Prop
  | eq {d : D} : ViewO M d d
  | «at» {a C : Addr} {fs : List (Str × D)} (i : Nat) (h : M[i]? = some (a, .ins C fs)) : ViewO M (.at a) (.obj C fs)
theorem ViewO.ins {K : Fg} {F H : Hp} {M R : Mem} {dx : D} {C : Addr} {fs : List (Str × D)} {v : V} (w : ViewO M dx (.obj C fs)) (L : Lay K F (M ++ R) H) (r : Rp K F v dx) : ∃ a dd vs, v = .ref a ∧ H a = some (.ins C dd vs) ∧ Rpf K F vs fs := by
  cases w with
  | eq =>
    obtain ⟨a, dd, vs, e, h, t⟩ := r.of_obj
    exact ⟨a, dd, vs, e, L.fr _ _ h, t⟩
  | «at» i h =>
    rename_i a
    obtain ⟨dd, vs, h2, t⟩ := L.mu _ (List.mem_append_left _ (List.mem_of_getElem? h))
    exact ⟨a, dd, vs, r.of_at, h2, t⟩
/-! ### fields -/
def rFld (K : Fg) (f : Str) : V → Hp → VK → Prop := fun x H Q => ∃ a C dx fs v, x = .ref a ∧ H a = some (.ins C dx fs) ∧ Cls K C ∧ NoAttr K C f ∧ fs.lookup f = some v ∧ Q v H
/-- f is a field of the instances of these classes -/
def FldOk (K : Fg) (cs : List Addr) (f : Str) : Prop := ∀ C ∈ cs, Cls K C ∧ NoAttr K C f
def dFld (cs : List Addr) (f : Str) : D → Option D
  | .obj C fs => if C ∈ cs then fs.lookup f else none
  | _ => none
def dPut (fs : List (Str × D)) (f : Str) (d : D) : Option (List (Str × D)) := if fs.length < 1000 then some (putD f d fs) else none
section
variable {X : Cx} {e o value : Expr} {ta tv : TE} {f : Str} {pos pos' : Pos}
theorem p_fld (he : PE X e ta) (hb : attributeBase e f X.env (eval e X.env) = eval e X.env := by rfl) : PE X (.Attribute e f pos) (tUn (rFld X.K f) ta) := pe_fld he hb
end
variable {c : Cz}
section
variable {Γ : Gm} {M M' : Mem} {k : D → Mem → Prop} {x z dx : D} {f : Str} {cs : List Addr} {DD : ZEnds} {ta tv : TE}
theorem y_fld (v : ViewO M dx x) (h : dFld cs f x = some z) (hc : FldOk c.K cs f) (hk : k z M) : ZU c (rFld c.K f) dx M k := fun R F H v' Q L r q => by
  unfold dFld at h
  split at h
  · split at h
    · rename_i C fs hC
      obtain ⟨a, dd, vs, rfl, hH, t⟩ := v.ins L r
      obtain ⟨u, hu, ru⟩ := t.look h
      exact ⟨a, C, dd, vs, u, rfl, hH, (hc C hC).1, (hc C hC).2, hu, q u F H M z (Ex.refl F) L ru hk⟩
    · cases h
  · cases h
theorem zs_fld (hc : FldOk c.K cs f) (h : ZE c tv Γ M fun y M1 => ZE c ta Γ M1 fun x M2 => ∃ a i C fs fs' M', x = .at a ∧ M2[i]? = some (a, .ins C fs) ∧ C ∈ cs ∧ dPut fs f y = some fs' ∧ M2.set i (a, .ins C fs') = M' ∧ DD.nx Γ M') : ZS c (sFld c.K ta tv f) Γ M DD := fun R F σ H D hs L X q =>
  h R F σ H _ hs L X fun v F1 H1 M1 y e1 L1 r1 h1 => h1 R F1 σ H1 _ (hs.mono e1) L1 (X.mono e1) fun w F2 H2 M2 x e2 L2 r2 ⟨a, i, C, fs, fs', M', ex, hi, hC, hp, hM, hk⟩ => by
    subst ex
    subst hM
    unfold dPut at hp
    split at hp
    · rename_i hl
      cases hp
      obtain ⟨dd, vs, hH, t⟩ := L2.mu _ (List.mem_append_left R (List.mem_of_getElem? hi))
      refine ⟨a, C, dd, vs, r2.of_at, hH, (hc C hC).1, (hc C hC).2, by rw [t.len]; exact hl, ?_⟩
      have hi' : (M2 ++ R)[i]? = some (a, .ins C fs) := by rw [List.getElem?_append_left (List.getElem?_eq_some_iff.mp hi).1]; exact hi
      have L3 := L2.set hi' (mo' := .ins C (putD f y fs)) (o := .ins C dd (putF f v vs)) ⟨dd, _, upd_same, t.put (r1.mono e2)⟩
      rw [List.set_append_left _ _ (List.getElem?_eq_some_iff.mp hi).1] at L3
      exact q.nx σ F2 _ _ Γ (e1.trans e2) L3 (hs.mono (e1.trans e2)) hk
    · cases hp
end
/-! ### methods -/
/-- the method m of the class keeps the promise S -/
structure MtZ (P : Program) (w : World) (K : Fg) (mg : Str → Option Value) (base : Heap) (C : Addr) (m : Str) (k : Nat) (S : ZSp) : Prop where
  cl : Cls K C
  ex : ∃ (f : Addr) (fd : FuncData) (ps : List Str) (sp : Sp) (ds : List Value) (dvs : List V), Meth K C m f ∧ FnOk P w K mg base CX0 k f fd ps sp ∧ Binds K fd ps ds ∧ Vals dvs ds ∧
    ∀ vs H Q, zcall K S vs H Q → sp (vs ++ dvs) H Q E0
def tMth (C : Addr) (m : Str) (r : List V → Hp → VK → Prop) (ta : TE) (t : TA) : TE := fun σ H Q => ta σ H fun x H1 => (∃ a dx fs, x = .ref a ∧ H1 a = some (.ins C dx fs) ∧ fs.lookup m = none) ∧ t σ H1 fun vs H2 => r (x :: vs) H2 Q
def dMth (C : Addr) (m : Str) : D → Option Unit
  | .obj C' fs => if C' = C ∧ fs.lookup m = none then some () else none
  | _ => none
section
variable {X : Cx} {o e : Expr} {es : List Expr} {ta : TE} {t : TA} {m : Str} {apos pos : Pos} {C : Addr} {k j : Nat} {S : ZSp}
theorem p_meth {pl : Sem Bool} (G : MtZ X.prog X.w X.K X.mg X.base C m k S) (hr : Room j X.A) (ho : PE X o ta) (ha : PA X (e :: es) t) (hj : k ≤ j := by decide)
    (hst : starEach (e :: es) X.env = (false, eval e X.env) :: starEach es X.env := by rfl) (hpl : (backTo pos (starEach es X.env)).any (·.1) = false := by rfl)
    (ht : eval (.Call (.Attribute o m apos) (e :: es) [] pos) X.env = (do
      let ov ← eval o X.env
      standAt apos.atName
      let (f, first) ← holding [ov] (getMethod ov m pl)
      callWith pos f first (backTo pos (starEach (e :: es) X.env)) (backToKw pos (keywordEach [] X.env))) := by rfl) :
    PE X (.Call (.Attribute o m apos) (e :: es) [] pos) (tMth C m (zcall X.K S) ta t) := by
  obtain ⟨f, fd, ps, sp, ds, dvs, hm, F, hb, hd, hs⟩ := G.ex
  refine ⟨fun pins s σ H Q I h => ?_⟩
  refine PySem.W.methodCall_KW (pl := pl) (thn (ho.run pins s σ H _ I h) fun u s1 ⟨x, H1, I1, rx, ⟨a, dx, fs, ex, ea, l⟩, q⟩ => ?_) ht
  subst ex
  obtain rfl : u = Value.ref a := rx
  refine getmeth_ok I1 ea G.cl hm l ?_
  refine PySem.W.callWith_K (first := [.ref a]) (h₀ := X.base) I.ok.mod.kin hm.kp (thn (ha.run pos pins s1 σ H1 _ I1 q) fun us s2 ⟨vs, H2, I2, r, q2⟩ => ⟨I2.kIn, ?_⟩) hst hpl
  exact run_fn (us := .ref a :: us) (vs := .ref a :: vs) F (hr.mono hj) hb hd pass0 I2 (.cons rfl r) (hs _ H2 Q q2)
theorem p_meth0 {pl : Sem Bool} (G : MtZ X.prog X.w X.K X.mg X.base C m k S) (hr : Room j X.A) (ho : PE X o ta) (hj : k ≤ j := by decide)
    (ht : eval (.Call (.Attribute o m apos) [] [] pos) X.env = (do
      let ov ← eval o X.env
      standAt apos.atName
      let (f, first) ← holding [ov] (getMethod ov m pl)
      callWith pos f first (backTo pos (starEach [] X.env)) (backToKw pos (keywordEach [] X.env))) := by rfl) :
    PE X (.Call (.Attribute o m apos) [] [] pos) (tMth C m (zcall X.K S) ta tNil) := by
  obtain ⟨f, fd, ps, sp, ds, dvs, hm, F, hb, hd, hs⟩ := G.ex
  refine ⟨fun pins s σ H Q I h => ?_⟩
  refine PySem.W.methodCall_KW (pl := pl) (thn (ho.run pins s σ H _ I h) fun u s1 ⟨x, H1, I1, rx, ⟨a, dx, fs, ex, ea, l⟩, q⟩ => ?_) ht
  subst ex
  obtain rfl : u = Value.ref a := rx
  refine getmeth_ok I1 ea G.cl hm l ?_
  exact PySem.W.callWith_K0 (first := [.ref a]) I1.kIn hm.kp (run_fn (us := [.ref a]) (vs := [.ref a]) F (hr.mono hj) hb hd pass0 I1 (.cons rfl .nil) (hs [.ref a] H1 Q q))
end
theorem z_mth {Γ : Gm} {M : Mem} {k : D → Mem → Prop} {C : Addr} {m : Str} {r : List V → Hp → VK → Prop} {ta : TE} {t : TA}
    (h : ZE c ta Γ M fun x M1 => (∃ y, ViewO M1 x y ∧ dMth C m y = some ()) ∧ ZA c t Γ M1 fun xs M2 => ZC c r (x :: xs) M2 k) : ZE c (tMth C m r ta t) Γ M k := fun R F σ H Q hs L X q =>
  h R F σ H _ hs L X fun v F1 H1 M1 x e1 L1 r1 ⟨⟨y, w, hy⟩, h1⟩ => by
    refine ⟨?_, h1 R F1 σ H1 _ (hs.mono e1) L1 (X.mono e1) fun vs F2 H2 M2 xs e2 L2 r2 h2 => h2 R F2 H2 (v :: vs) Q L2 (.cons (r1.mono e2) r2) (q.mono (e1.trans e2))⟩
    unfold dMth at hy
    split at hy
    · split at hy
      · rename_i C' fs hC
        obtain ⟨hC, hl⟩ := hC
        subst hC
        obtain ⟨a, dd, vs, rfl, hH, t⟩ := w.ins L1 r1
        exact ⟨a, dd, vs, rfl, hH, t.look_none hl⟩
      · cases hy
    · cases hy
/-! ### making -/
def rMk (K : Fg) (C : Addr) (S : ZSp) : List V → Hp → VK → Prop := fun vs H Q => ∀ x dx, H x = none → H dx = none → dx ≠ x → zcall K S (.ref x :: vs) (upd (upd H dx (.own x)) x (.ins C dx [])) (fun v H2 => v = .non ∧ Q (.ref x) H2)
/-- x(..) makes an instance of C, its __init__ keeps the promise S -/
structure MkZ (P : Program) (w : World) (K : Fg) (mg : Str → Option Value) (base : Heap) (x : Str) (C : Addr) (k : Nat) (S : ZSp) : Prop where
  ex : ∃ (f : Addr) (fd : FuncData) (ps : List Str) (sp : Sp) (ds : List Value) (dvs : List V), Mk K C f ∧ FnOk P w K mg base CX0 k f fd ps sp ∧ mg x = some (.ref C) ∧ Binds K fd ps ds ∧ Vals dvs ds ∧
    ∀ v vs H Q, zcall K S (v :: vs) H Q → sp (v :: (vs ++ dvs)) H Q E0
/-- .. with keywords: g puts the values in the parameters' order -/
structure MkKZ (P : Program) (w : World) (K : Fg) (mg : Str → Option Value) (base : Heap) (x : Str) (C : Addr) (k n : Nat) (ks : List Str) (g : List V → List V → List V) (S : ZSp) : Prop where
  ex : ∃ (f : Addr) (fd : FuncData) (ps : List Str) (sp : Sp) (gg : List Value → List Value → List Value) (gV : List V → List V → List V), Mk K C f ∧ FnOk P w K mg base CX0 k f fd ps sp ∧ mg x = some (.ref C) ∧ KBn K fd ps (n + 1) ks gg gV ∧
    ∀ v vs zs H Q, vs.length = n → zs.length = ks.length → zcall K S (v :: g vs zs) H Q → sp (gV (v :: vs) zs) H Q E0
def tMkK (n m : Nat) (r : List V → Hp → VK → Prop) (g : List V → List V → List V) (t tk : TA) : TE := fun σ H Q => t σ H fun vs H1 => tk σ H1 fun zs H2 => vs.length = n ∧ zs.length = m ∧ r (g vs zs) H2 Q
section
variable {X : Cx} {x : Str} {p pos : Pos} {e : Expr} {es : List Expr} {kws : List Keyword} {t tk : TA} {C : Addr} {k j n : Nat} {ks : List Str} {g : List V → List V → List V} {S : ZSp}
theorem p_make (G : MkZ X.prog X.w X.K X.mg X.base x C k S) (hr : Room j X.A) (ha : PA X (e :: es) t) (hj : k + 1 ≤ j := by decide) (hg : Gl X x := by rfl) (hdb : (x == ("__debug__" : Str)) = false := by decide)
    (he : starEach (e :: es) X.env = (false, eval e X.env) :: starEach es X.env := by rfl) (hpl : (backTo pos (starEach es X.env)).any (·.1) = false := by rfl) : PE X (.Call (.Name x p) (e :: es) [] pos) (tCB (rMk X.K C S) t) := by
  obtain ⟨f, fd, ps, sp, ds, dvs, M, F, hm, hb, hd, hs⟩ := G.ex
  refine ⟨fun pins s σ H Q I h => ?_⟩
  refine wpAny_Call_Name_kw (ld_glob I hg hm ?_ hdb)
  refine PySem.W.callWith_K (h₀ := X.base) I.ok.mod.kin M.kp (thn (ha.run pos pins s σ H _ I h) fun us s1 ⟨vs, H1, I1, r, q⟩ => ⟨I1.kIn, ?_⟩) he hpl
  exact run_make M F (hr.mono hj) hb hd pass0 I1 r fun x dx h1 h2 h3 => hs _ _ _ _ (q x dx h1 h2 h3)
theorem p_make0 (G : MkZ X.prog X.w X.K X.mg X.base x C k S) (hr : Room j X.A) (hj : k + 1 ≤ j := by decide) (hg : Gl X x := by rfl) (hdb : (x == ("__debug__" : Str)) = false := by decide) : PE X (.Call (.Name x p) [] [] pos) (tCB (rMk X.K C S) tNil) := by
  obtain ⟨f, fd, ps, sp, ds, dvs, M, F, hm, hb, hd, hs⟩ := G.ex
  refine ⟨fun pins s σ H Q I h => ?_⟩
  refine wpAny_Call_Name_kw (ld_glob I hg hm ?_ hdb)
  exact PySem.W.callWith_K0 I.kIn M.kp (run_make (us := []) M F (hr.mono hj) hb hd pass0 I .nil fun x dx h1 h2 h3 => hs _ [] _ _ (h x dx h1 h2 h3))
theorem p_makeK (G : MkKZ X.prog X.w X.K X.mg X.base x C k n ks g S) (hr : Room j X.A) (ha : PA X (e :: es) t) (hkw : PK X kws tk) (hj : k + 1 ≤ j := by decide) (hg : Gl X x := by rfl) (hdb : (x == ("__debug__" : Str)) = false := by decide)
    (hall : (backToKw pos (keywordEach kws X.env)).all (·.1.isSome) = true := by rfl) (hks : (backToKw pos (keywordEach kws X.env)).filterMap (·.1) = ks := by rfl)
    (he : starEach (e :: es) X.env = (false, eval e X.env) :: starEach es X.env := by rfl) (hpl : ((backTo pos (starEach (e :: es) X.env)).any (·.1) || (backToKw pos (keywordEach kws X.env)).any (·.1.isNone)) = false := by rfl) :
    PE X (.Call (.Name x p) (e :: es) kws pos) (tMkK n ks.length (rMk X.K C S) g t tk) := by
  obtain ⟨f, fd, ps, sp, gg, gV, M, F, hm, hb, hs⟩ := G.ex
  refine ⟨fun pins s σ H Q I h => ?_⟩
  refine wpAny_Call_Name_kw (ld_glob I hg hm ?_ hdb)
  refine PySem.W.callWith_KW (h₀ := X.base) I.ok.mod.kin M.kp hall (thn (ha.run pos pins s σ H _ I h) fun us s1 ⟨vs, H1, I1, r, q⟩ => ?_) hpl he
  refine thn (hkw.run pos pins s1 σ H1 _ I1 q) fun ws s2 ⟨zs, H2, I2, rz, l1, l2, q2⟩ => ⟨I2.kIn, ?_⟩
  rw [hks]
  exact run_makeK M F (hr.mono hj) hb pass0 I2 r rz l1 l2 fun x dx h1 h2 h3 => hs _ _ _ _ _ l1 l2 (q2 x dx h1 h2 h3)
end
section
variable {Γ : Gm} {M : Mem} {k : D → Mem → Prop} {C : Addr} {S : ZSp} {xs : List D} {fs : List (Str × D)}
theorem y_make (h : ∀ x, S (.at x :: xs) ((x, .ins C []) :: M) (fun d M' => d = .non ∧ M' = (x, .ins C fs) :: M)) (hk : k (.obj C fs) M) : ZC c (rMk c.K C S) xs M k := fun R F H vs Q L r q => by
  intro x dx hx hdx hne
  have L1 : Lay c.K F (M ++ R) (upd H dx (.own x)) := L.grow fun a o e => by
    rw [upd_ne (fun z => by rw [z, hdx] at e; cases e)]; exact e
  have L2 := L1.newM (p := x) (mo := .ins C []) (o := .ins C dx []) (by rw [upd_ne (Ne.symm hne)]; exact hx) ⟨dx, [], upd_same, Rpf.nil⟩
  refine ⟨R, F, (x, .ins C []) :: M, .at x :: xs, _, L2, .cons (.at x) r, h x, fun v F' H' M' d e L' r' ⟨hd, hM⟩ => ?_⟩
  subst hd
  subst hM
  refine ⟨r'.of_non, ?_⟩
  obtain ⟨dd, ws, hH, t⟩ := L'.at_ (i := 0) rfl
  obtain ⟨L3, e3⟩ := L'.frz (i := 0) rfl hH
  have t' := t.mono e3
  exact q (.ref x) _ H' M (.obj C fs) (e.trans e3) L3 (.obj upd_same t'.len t'.nm t'.at_) hk
theorem z_makeK {n m : Nat} {r : List V → Hp → VK → Prop} {g : List V → List V → List V} {t tk : TA}
    (h : ZA c t Γ M fun xs M1 => ZA c tk Γ M1 fun ys M2 => xs.length = n ∧ ys.length = m ∧ ∃ zs, (∀ F vs ws, Rps c.K F vs xs → Rps c.K F ws ys → Rps c.K F (g vs ws) zs) ∧ ZC c r zs M2 k) : ZE c (tMkK n m r g t tk) Γ M k := fun R F σ H Q hs L X q =>
  h R F σ H _ hs L X fun vs F1 H1 M1 xs e1 L1 r1 h1 => h1 R F1 σ H1 _ (hs.mono e1) L1 (X.mono e1) fun ws F2 H2 M2 ys e2 L2 r2 ⟨l1, l2, zs, hz, h2⟩ =>
    ⟨(r1.len).trans l1, (r2.len).trans l2, h2 R F2 H2 _ Q L2 (hz F2 vs ws (r1.mono e2) r2) (q.mono (e1.trans e2))⟩
end
end Z
set_option Elab.async false
set_option linter.all false
set_option maxRecDepth 100000
set_option maxHeartbeats 4000000
/-! YCls2: constants of classes, defs over one changing thing, lists by +, dicts. -/
namespace Z
open PySem PySem.Spec PyProof.Rows L2
/-! ### constants of a class -/
structure CCon (K : Fg) (mg : Str → Option Value) (x : Str) (C : Addr) (f : Str) (v : V) : Prop where
  g : mg x = some (.ref C)
  ex : ∃ mc u, ClX.CRead K C mc ∧ ClX.CVal K C mc f v u
theorem p_ccon {X : Cx} {x : Str} {C : Addr} {f : Str} {v : V} {p pos : Pos} (h : CCon X.K X.mg x C f v) (hg : Gl X x := by rfl) (hd : (x == ("__debug__" : Str)) = false := by decide)
    (hb : attributeBase (.Name x p) f X.env (eval (.Name x p) X.env) = eval (.Name x p) X.env := by rfl) : PE X (.Attribute (.Name x p) f pos) (tC v) := by
  obtain ⟨g, mc, u, r, k⟩ := h
  exact ⟨fun pins s σ H Q I q => (ClX.pe_cval (f := f) (pe_glob (v := .ref C) (pos := p) hg g rfl hd) hb).run pins s σ H Q I ⟨C, mc, v, u, rfl, r, k, q⟩⟩
variable {c : Cz}
/-! ### a def over one thing of the memory -/
theorem zs_defG {K : Fg} {t : TS} {Γ : Gm} {M : Mem} {i : Nat} {a : Addr} {mo mo' : MO} {α : Type} {kd : α → D × Mem} {out : α} {kk : D → Mem → Prop} (hi : M[i]? = some (a, mo)) (hkd : (kd out).2 = [(a, mo')]) (hk : kk (kd out).1 (M.set i (a, mo')))
    (h : ∀ DD : ZEnds, HitD kd DD out → ZS { K := K } t Γ [(a, mo)] DD) : ZS { K := K } t Γ M { nx := fun _ M' => kk .non M', rt := kk } := by
  have key : ∀ G : Mem, ((G ++ (kd out).2) ++ M.eraseIdx i).Perm (M.set i (a, mo') ++ G) := fun G => by
    rw [hkd, List.append_assoc]
    exact List.perm_append_comm.trans ((perm_put hi).symm.append_right G)
  refine zs_fr (perm_pick hi) (h _ ⟨fun G => ⟨G, _, key G, hk⟩, fun e Γ' G => ⟨G, _, key G, ?_⟩⟩)
  show kk .non _
  rw [← e]; exact hk
theorem set_id {M : Mem} {i : Nat} {p : Addr × MO} (h : M[i]? = some p) : M.set i p = M := by
  obtain ⟨hl, rfl⟩ := List.getElem?_eq_some_iff.mp h
  exact List.set_getElem_self hl
/-! ### a fresh list by + -/
theorem z_addM {ta tb : TE} {Γ : Gm} {M : Mem} {k : D → Mem → Prop} (h : ZE c ta Γ M fun x M1 => ZE c tb Γ M1 fun y M2 => ∃ xs ys zs, View M2 x (.lst xs) ∧ View M2 y (.lst ys) ∧ dExt xs (.lst ys) = some zs ∧ ∀ p, k (.at p) ((p, .lst zs) :: M2)) : ZE c (tOp (rAddZ c.K) ta tb) Γ M k := fun R F σ H Q hs L X q =>
  h R F σ H _ hs L X fun v F1 H1 M1 x e1 L1 r1 h1 => h1 R F1 σ H1 _ (hs.mono e1) L1 (X.mono e1) fun w F2 H2 M2 y e2 L2 r2 ⟨xs, ys, zs, s1, s2, hz, hk⟩ => .inr (.inr (.inl (by
    obtain ⟨a, vs, rfl, ea, p1⟩ := s1.lstSt.read L2 (r1.mono e2)
    obtain ⟨b, ws, rfl, eb, p2⟩ := s2.lstSt.read L2 r2
    have hz' : xs.length + ys.length ≤ sizeLine ∧ zs = xs ++ ys := by
      simp only [dExt] at hz
      split at hz
      · rename_i hl
        cases hz
        exact ⟨hl, rfl⟩
      · cases hz
    obtain ⟨hl, rfl⟩ := hz'
    exact ⟨a, b, vs, ws, rfl, rfl, ea, eb, by rw [p1.len, p2.len]; exact hl, fun p hp => q _ F2 _ ((p, .lst (xs ++ ys)) :: M2) (.at p) (e1.trans e2) (L2.newM hp ⟨_, upd_same, p1.append p2⟩) (.at p) (hk p)⟩)))
/-! ### dicts that change: keys are ints and texts -/
def dKey : D → Option Key
  | .int i => some (.inl i)
  | .str s => some (.inr s)
  | _ => none
theorem dKey_rp {K : Fg} {F : Hp} {v : V} {d : D} {k : Key} (h : dKey d = some k) (r : Rp K F v d) : v = kV k := by
  unfold dKey at h
  split at h
  · cases h; exact r.of_int
  · cases h; exact r.of_str
  · cases h
def bInK (kvs : List (Key × D)) (x : D) : Option Bool := (dKey x).map fun k => kvs.any fun kv => decide (kv.1 = k)
def dPutK (kvs : List (Key × D)) (x d : D) : Option (List (Key × D)) := (dKey x).bind fun k => if kvs.length < sizeLine then some (if (kvs.any fun kv => decide (kv.1 = k)) = true then kvs.map (fun kv => if kv.1 = k then (kv.1, d) else kv) else kvs ++ [(k, d)]) else none
theorem z_dnewM {Γ : Gm} {M : Mem} {k : D → Mem → Prop} (hk : ∀ p, k (.at p) ((p, .dK []) :: M)) : ZE c tDNewK Γ M k := fun R F σ H Q hs L X q => fun p hp =>
  q (.ref p) F _ ((p, .dK []) :: M) (.at p) (Ex.refl F) (L.newM hp ⟨[], upd_same, rfl, .nil⟩) (.at p) (hk p)
def rInK : R2 := fun x y H Q => ∃ a o, y = .ref a ∧ DGet H a x o ∧ Q (.bl o.isSome) H
theorem op_inK {X : Cx} (hu : X.A.units + 64 < cLine) : OpR X (compareOp .In) rInK := by
  intro pins s σ H x y v u Q I rx ry h
  obtain ⟨a, o, ey, g, q⟩ := h
  subst ey
  cases (show u = Value.ref a from ry)
  exact d_in (by omega) I g rx fun s' I' => ⟨.bl o.isSome, H, I', rfl, q⟩
section
variable {X : Cx} {a e : Expr} {ta tb : TE} {pos : Pos}
theorem p_inK (hu : X.A.units + 64 < cLine) (ha : PE X a ta) (hb : PE X e tb) (hm : behindInMarks .In e = false := by rfl) : PE X (.Compare a [.In] [e] pos) (tOp rInK ta tb) := pe_cmpR (op_inK hu) ha hb hm
theorem q_inK (hu : X.A.units + 64 < cLine) (ha : PE X a ta) (hb : PE X e tb) (hm : behindInMarks .In e = false := by rfl) : PT X (.Compare a [.In] [e] pos) (tTest (tOp rInK ta tb)) := pt_cmpR (op_inK hu) ha hb hm
theorem set_dictU (hu : X.A.units + 64 < cLine) : PSet X rSetD := set_dict (by omega)
end
theorem valV_any {ws : List (Key × V)} {kvs : List (Key × D)} {k : Key} (h : ws.map (·.1) = kvs.map (·.1)) : (valV ws k).isSome = kvs.any fun kv => decide (kv.1 = k) := by
  unfold valV
  rw [Option.isSome_map]
  induction ws generalizing kvs with
  | nil =>
    cases kvs with
    | nil => rfl
    | cons q kvs => cases h
  | cons p ws ih =>
    cases kvs with
    | nil => cases h
    | cons q kvs =>
      rw [List.map_cons, List.map_cons] at h
      injection h with h1 h2
      rw [List.find?_cons, List.any_cons, h1]
      cases decide (q.1 = k) with
      | true => rfl
      | false => rw [Bool.false_or]; exact ih h2
theorem y_inK {M : Mem} {k : D → Mem → Prop} {a : Addr} {i : Nat} {kvs : List (Key × D)} {x : D} {b : Bool} (hi : M[i]? = some (a, .dK kvs)) (h : bInK kvs x = some b) (hk : k (.bl b) M) : ZR c rInK x (.at a) M k := fun R F H v w Q L r1 r2 q => by
  unfold bInK at h
  obtain ⟨key, h1, rfl⟩ := Option.map_eq_some_iff.mp h
  obtain ⟨ws, hH, e1, rr⟩ := L.mu _ (List.mem_append_left R (List.mem_of_getElem? hi))
  rw [dKey_rp h1 r1, r2.of_at]
  refine ⟨a, _, rfl, DGet.k hH, ?_⟩
  rw [valV_any e1]
  exact q _ F H M _ (Ex.refl F) L (.bl _) hk
theorem zg_setK {to ti : TE} {Γ : Gm} {M : Mem} {d : D} {kg : Gm → Mem → Prop} (h : ZE c to Γ M fun o M1 => ZE c ti Γ M1 fun x M2 => ∃ a i kvs kvs' M', o = .at a ∧ M2[i]? = some (a, .dK kvs) ∧ dPutK kvs x d = some kvs' ∧ M2.set i (a, .dK kvs') = M' ∧ kg Γ M') : ZG c (gSub to ti rSetD) d Γ M kg := fun R F σ H v Q hs L X r q =>
  h R F σ H _ hs L X fun o F1 H1 M1 od e1 L1 r1 h1 => h1 R F1 σ H1 _ (hs.mono e1) L1 (X.mono e1) fun x F2 H2 M2 xd e2 L2 r2 ⟨a, i, kvs, kvs', M', eo, hi, hp, hM, hk⟩ => by
    subst eo hM
    unfold dPutK at hp
    obtain ⟨key, h1, hp⟩ := Option.bind_eq_some_iff.mp hp
    split at hp
    · rename_i hl
      cases hp
      obtain ⟨ws, hH, e3, rr⟩ := L2.mu _ (List.mem_append_left R (List.mem_of_getElem? hi))
      have hlen : ws.length = kvs.length := by have := congrArg List.length e3; rwa [List.length_map, List.length_map] at this
      have hany : (ws.any fun kv => decide (kv.1 = key)) = kvs.any fun kv => decide (kv.1 = key) := by
        have : ∀ {α : Type} (l : List (Key × α)), (l.any fun kv => decide (kv.1 = key)) = (l.map (·.1)).any fun x => decide (x = key) := fun l => by rw [List.any_map]; rfl
        rw [this, this, e3]
      have hrv : Rp c.K F2 v d := r.mono (e1.trans e2)
      refine ⟨a, _, r1.of_at, .inl ⟨ws, key, hH, dKey_rp h1 r2, by rw [hlen]; exact hl, rfl⟩, ?_⟩
      have hi' : (M2 ++ R)[i]? = some (a, .dK kvs) := by rw [List.getElem?_append_left (List.getElem?_eq_some_iff.mp hi).1]; exact hi
      have L3 := L2.set hi' (mo' := .dK (if (kvs.any fun kv => decide (kv.1 = key)) = true then kvs.map (fun kv => if kv.1 = key then (kv.1, d) else kv) else kvs ++ [(key, d)])) (o := .dK (putK ws key v)) (by
        refine ⟨_, upd_same, ?_, ?_⟩
        · unfold putK
          rw [hany]
          split
          · rw [List.map_map, List.map_map]
            have a1 : ∀ {α : Type} (y : α) (l : List (Key × α)), l.map ((·.1) ∘ fun kv => if kv.1 = key then (kv.1, y) else kv) = l.map (·.1) := fun y l => List.map_congr_left fun p _ => by
              show (if p.1 = key then (p.1, y) else p).1 = p.1
              split <;> rfl
            rw [a1, a1, e3]
          · rw [List.map_append, List.map_append, e3]; rfl
        · unfold putK
          rw [hany]
          split
          · refine ⟨by simp only [List.length_map]; exact hlen, fun j y z hy hz => ?_⟩
            rw [List.map_map, List.getElem?_map] at hy hz
            obtain ⟨p, hp, rfl⟩ := Option.map_eq_some_iff.mp hy
            obtain ⟨q', hq, rfl⟩ := Option.map_eq_some_iff.mp hz
            have hkey : p.1 = q'.1 := by
              have x1 : (ws.map (·.1))[j]? = some p.1 := by rw [List.getElem?_map, hp]; rfl
              have x2 : (kvs.map (·.1))[j]? = some q'.1 := by rw [List.getElem?_map, hq]; rfl
              rw [e3, x2] at x1
              exact (Option.some.inj x1).symm
            show Rp c.K F2 (if p.1 = key then (p.1, v) else p).2 (if q'.1 = key then (q'.1, d) else q').2
            rw [hkey]
            split
            · exact hrv
            · exact rr.at_ j p.2 q'.2 (by rw [List.getElem?_map, hp]; rfl) (by rw [List.getElem?_map, hq]; rfl)
          · rw [List.map_append, List.map_append]
            exact rr.append (.one hrv))
      rw [List.set_append_left _ _ (List.getElem?_eq_some_iff.mp hi).1] at L3
      exact q σ F2 _ _ Γ (e1.trans e2) L3 ((hs.mono e1).mono e2) hk
    · cases hp
end Z
set_option Elab.async false
set_option linter.all false
set_option maxRecDepth 100000
set_option maxHeartbeats 4000000
/-! YSet: the size of a set made of a tuple. -/
namespace Z
open PySem PySem.Spec PyProof.Rows L2
section
variable {P : Program} {w : World} {A : Around} {E : Value → Shared → Prop} {s : Shared}
/-- a set with nothing in it -/
abbrev noSet (w : World) : Obj := { cls := .type "set", dict := none, data := .set #[] 0 (.fresh 0 0 (!w.params.followText "set-order")) }
/-- the heap with it -/
abbrev withSet (w : World) (h : Heap) : Heap := h.push (noSet w)
theorem noneAt {h : Heap} {b : Addr} (hb : h.objs.size ≤ b) : h.get? b = none := by
  cases q : h.get? b with
  | none => rfl
  | some o => exact absurd (Nat.lt_of_lt_of_le (Heap.lt_size q) hb) (Nat.lt_irrefl _)
/-- what stands behind set(..) of a tuple of tuples of ints -/
def Made (P : Program) (w : World) (h0 : Heap) (ks : List (Addr × List Int)) (h : Heap) : Prop := ∃ L es ep t, SetTR P w h h0.objs.size L es ep t ∧ Got ks ks.length L ∧ ∀ b o, h0.get? b = some o → h.get? b = some o
theorem set_init_tuple {l : Addr} {items : Array Value} {ks : List (Addr × List Int)} (hh : A.handled = none) (hl : s.heap.IsTuple l items) (hit : items.toList = ks.map fun p => Value.ref p.1)
    (hk : ∀ p ∈ ks, IsT P w s.heap p.2 p.1) (hfew : ks.length < 64) (hu : A.units + 2 < cLine) {Q : Value → Shared → Prop} (hQ : ∀ h' tk, Made P w s.heap ks h' → Q .none { s with heap := h', toks := tk }) :
    codeAny (model P w) A (.call (.builtin "set.__init__") ⟨[.ref s.heap.objs.size, .ref l], []⟩) (wants Q E) { s with heap := withSet w s.heap } := by
  have hn : items.size = ks.length := by
    have q := congrArg List.length hit
    rwa [Array.length_toList, List.length_map] at q
  have hT : Shared.TypeIs { s with heap := withSet w s.heap } (.ref s.heap.objs.size) "set" := ⟨_, Heap.get?_push_size _ rfl, rfl⟩
  refine codeAny_call_builtin F.called_set.init.plain F.entry_set_init (check_set_init_1 hT ?_)
  obtain ⟨o, ho, hc, n, hd⟩ := hl
  obtain ⟨oc, od, dt, sl⟩ := o
  simp only at hc hd
  subst hc
  subst hd
  have hlt : l < s.heap.objs.size := Heap.lt_size ho
  have tl : (withSet w s.heap).IsTuple l items := ⟨_, Heap.get?_push_of_some _ ho, rfl, n, rfl⟩
  have f1 := F.sub_tuple_set
  have f2 := F.sub_tuple_frozenset
  have f3 : (Value.type "tuple" == Value.type "dict") = false := by decide
  have ho' := Heap.get?_push_of_some (noSet w) ho
  unfold Builtin.«set.__init__» noKeywords Builtin.Frozenset.updateFrom
  generalize hPI : pyIter = PI
  wp_walk
  subst hPI
  refine wpAny_pyIter_tuple tl (wpAny_bind (wpAny_runValue ?_))
  have sz : (withSet w s.heap).objs.size = s.heap.objs.size + 1 := Heap.size_push _ _
  refine set_update_tups ((Walks.tuple (by simp [hh]) _ l (by rw [sz]; exact Nat.ne_of_lt (Nat.lt_succ_of_lt hlt)) items).toS) s.heap.objs.size (by rw [sz]; simp only [List.mem_cons, List.mem_singleton, List.not_mem_nil, or_false, not_or]; exact ⟨Nat.ne_of_lt (Nat.lt_succ_self _), Nat.ne_of_gt hlt⟩) ks hn hfew
    (fun i v hv => ?val) s.heap hk (noneAt (Nat.le_refl _)) (fun b hb => noneAt (by rw [List.mem_singleton.mp hb, sz]; omega)) (by first | exact hu | (simp only [Around.in1_units] at *; omega) | (show _ < cLine; omega)) (items.size - 0) 0 _ (by omega) (Nat.zero_le _)
    ⟨⟨_, Heap.get?_push_size _ rfl, rfl, rfl⟩, tl.push _⟩ (fun b o e => Heap.get?_push_of_some _ (Heap.get?_push_of_some _ e)) ⟨[], #[], 0, _, setTR_fresh (Heap.get?_push_of_some _ (Heap.get?_push_size _ rfl)), Got.zero ks⟩ ?fin
  case val =>
    have q : items.toList[i]? = some v := by rw [Array.getElem?_toList]; exact hv
    rw [hit, List.getElem?_map] at q
    obtain ⟨p, hp, e⟩ := Option.map_eq_some_iff.mp q
    exact ⟨p, hp, e.symm⟩
  case fin =>
    intro s' L es ep t hm hS hg hkp
    obtain ⟨h', g2, d', tk', os'⟩ := s'
    obtain rfl : g2 = s.gens := hm.gens
    obtain rfl : d' = s.drawn := hm.drawn
    obtain rfl : os' = s.os := hm.os
    refine wpAny_pure ?_
    show wpAny _ _ (ret Value.none) _ _ _
    rw [hn] at hg
    exact wpAny_pure (hQ h' tk' ⟨L, es, ep, t, hS, hg, hkp⟩)
theorem call_set_tt {l : Addr} {items : Array Value} {ks : List (Addr × List Int)} {Q : Value → Shared → Prop} (hh : A.handled = none) (hl : s.heap.IsTuple l items) (hit : items.toList = ks.map fun p => Value.ref p.1)
    (hk : ∀ p ∈ ks, IsT P w s.heap p.2 p.1) (hfew : ks.length < 64) (hu : A.units + 3 < cLine) (hQ : ∀ h' tk, Made P w s.heap ks h' → Q (.ref s.heap.objs.size) { s with heap := h', toks := tk }) :
    wpAny (model P w) A (call (.type "set") [.ref l]) Q E s := by
  obtain ⟨c, tl, hmro⟩ := F.called_set.mro
  have g1 := F.called_set.made
  have g2 := F.called_set.sub
  have g3 := F.called_set.notType
  have g4 := F.called_set.canCreate
  have g5 := F.typeCall_set_1 (.ref l)
  refine wpAny_call (codeAny_of_tree ?_)
  show wpAny _ _ (callAny (.type "set") _) _ _ _
  refine wpAny_pure ⟨Code.quiet_builtin _ (by decide +kernel), codeAny_builtin F.entry_type_call ?_⟩
  rw [Around.under_plain (weight_type_call_type "set" [.ref l] []) rfl]
  repeat (any_goals (first | assumption | wp_step))
  refine codeAny_mono (code_set_led1 (.ref l) (E := E) (Q₁ := fun v s1 => v = .ref s.heap.objs.size ∧ s1 = { s with heap := withSet w s.heap }) ⟨rfl, rfl⟩) fun r s1 hr => ?_
  cases r with
  | error e => exact hr
  | ok fl =>
    cases fl with
    | ret v =>
      obtain ⟨rfl, rfl⟩ := hr
      have hT : Shared.TypeIs { s with heap := withSet w s.heap } (.ref s.heap.objs.size) "set" := ⟨_, Heap.get?_push_size _ rfl, rfl⟩
      have g6 := F.called_set.init.lookup
      have g7 := F.called_set.init.bind (.ref s.heap.objs.size)
      repeat (any_goals (first | assumption | wp_step))
      refine codeAny_mono (set_init_tuple (E := E) (Q := fun v s2 => v = .none ∧ ∃ h' tk, s2 = { s with heap := h', toks := tk } ∧ Made P w s.heap ks h') (by simp [hh]) hl hit hk hfew (by first | exact hu | (show _ < cLine; omega) | omega) fun h' tk m => ⟨rfl, h', tk, rfl, m⟩) fun r2 s2 hr2 => ?_
      cases r2 with
      | error e => exact hr2
      | ok fl2 =>
        cases fl2 with
        | ret v2 =>
          obtain ⟨rfl, h', tk, rfl, m⟩ := hr2
          repeat (any_goals (first | assumption | wp_step))
          exact hQ h' tk m
        | _ => exact hr2.elim
    | _ => exact hr.elim
end
end Z
set_option Elab.async false
set_option linter.all false
set_option maxRecDepth 100000
set_option maxHeartbeats 4000000
/-! YMul: a tuple times a number. -/
namespace Z
open PySem PySem.Spec PyProof.Rows L2
theorem tuple_mul1 (l : Addr) (items : Array Value) (n : Nat) (dd : Option Addr) (sl : Array (Option Value)) (u : Tok) :
    Meets (Builtin.«tuple.__mul__» ⟨[.ref l, .int 1 u], []⟩) (fun _ R s => s.heap.get? l = some { cls := .type "tuple", dict := dd, data := .seq items n, slots := sl } ∧ R (.ok (.ret (Value.ref l))) s) :=
  .of_wp fun prog w A R s h => by
    obtain ⟨hp, g, d, tk, os⟩ := s
    obtain ⟨hl, h⟩ := h
    have f1 := AutoSeq1.idx_int
    wp_walk using wpAny_loadPart' hl
    repeat (first
      | (refine wpAny_ite_false (by simp) ?_; wp_walk using wpAny_loadPart' hl)
      | (refine wpAny_ite_true (by simp) ?_; wp_walk using wpAny_loadPart' hl))
    exact ⟨_, rfl, h⟩
theorem tuple_mul0 (l : Addr) (items : Array Value) (n : Nat) (dd : Option Addr) (sl : Array (Option Value)) (x : Int) (u : Tok) (hx : x ≤ 0) (hx2 : -(2 ^ 63) ≤ x) (hi : items.isEmpty = false) :
    Meets (Builtin.«tuple.__mul__» ⟨[.ref l, .int x u], []⟩) (fun _ R s => s.heap.get? l = some { cls := .type "tuple", dict := dd, data := .seq items n, slots := sl } ∧
      R (.ok (.ret (Value.ref s.heap.objs.size))) { s with heap := s.heap.push { cls := Value.type "tuple", data := Data.seq #[] }, toks := s.toks }) :=
  .of_wp fun prog w A R s h => by
    obtain ⟨hp, g, d, tk, os⟩ := s
    obtain ⟨hl, h⟩ := h
    have f1 := AutoSeq1.idx_int
    have c0 : (decide (x < -(2 ^ 63)) || decide (x ≥ 2 ^ 63)) = false := by rw [decide_eq_false (by omega), decide_eq_false (by omega)] <;> rfl
    have c1 : (items.isEmpty || x == 1) = false := by rw [hi, Bool.false_or]; exact beq_eq_false_iff_ne.mpr (by omega)
    have c2 : (decide (x ≤ 0) || items.isEmpty) = true := by rw [decide_eq_true hx]; rfl
    wp_walk using wpAny_loadPart' hl
    repeat (first
      | (refine wpAny_ite_false (decide_eq_false (by rw [c0]; exact Bool.false_ne_true)) ?_; wp_walk using wpAny_loadPart' hl)
      | (refine wpAny_ite_false (decide_eq_false (by rw [c1]; exact Bool.false_ne_true)) ?_; wp_walk using wpAny_loadPart' hl)
      | (refine wpAny_ite_true (decide_eq_true (by rw [c2])) ?_; wp_walk using wpAny_loadPart' hl))
    exact ⟨_, rfl, h⟩
section
variable {X : Cx}
def rRepT1 (K : Fg) : R2 := fun x y H Q => ∃ l xs, x = .ref l ∧ y = .int 1 ∧ SqT K H l xs ∧ Q x H
def rRepT0 (K : Fg) : R2 := fun x y H Q => ∃ l k xs, x = .ref l ∧ y = .int k ∧ SqT K H l xs ∧ xs ≠ [] ∧ k ≤ 0 ∧ -(2 ^ 62) ≤ k ∧ ∀ p, H p = none → Q (.ref p) (upd H p (.tup []))
theorem op_repT1 : OpR X (binaryOp .Mult) (rRepT1 X.K) := by
  intro pins s σ H x y v u Q I rx ry h
  obtain ⟨l, xs, rfl, rfl, hT, q⟩ := h
  cases rx
  obtain ⟨t, rfl⟩ := ry
  obtain ⟨its, r, ⟨⟨cls, dd, data, sl⟩, ho, hc, n, hd⟩, hs⟩ := I.tuple hT
  simp only at hc hd
  subst hc hd
  refine wpAny_binaryOp_repeat_ref (T := "tuple") (U := "int") (by decide) ⟨_, ho, rfl⟩ (fun s' => typeIs_int s' 1 t) noFill_tuple_mul F.fills_int_mul F.slot_int_rmul repeat_tuple F.slot_int_index.lookup
    (call_meets F.slot_int_rmul (typeIs_int s 1 t) F.entry_int_rmul (F.args_int_rmul_2 _ _) (int_rmul_tuple 1 t l its.toArray n dd sl)
      ⟨ho, rfl, ⟨_, ho, rfl⟩, call_meets F.slot_tuple_mul ⟨_, ho, rfl⟩ F.entry_tuple_mul (F.args_tuple_mul_2 _ _) (tuple_mul1 l its.toArray n dd sl t) ⟨ho, ?_⟩⟩)
  exact ⟨.ref l, H, I, rfl, q⟩
theorem op_repT0 : OpR X (binaryOp .Mult) (rRepT0 X.K) := by
  intro pins s σ H x y v u Q I rx ry h
  obtain ⟨l, k, xs, rfl, rfl, hT, hne, hk, hk2, q⟩ := h
  cases rx
  obtain ⟨t, rfl⟩ := ry
  obtain ⟨its, r, ⟨⟨cls, dd, data, sl⟩, ho, hc, n, hd⟩, hs⟩ := I.tuple hT
  simp only at hc hd
  subst hc hd
  have hi : its.toArray.isEmpty = false := by
    cases its with
    | nil => exact absurd (List.eq_nil_of_length_eq_zero r.length) hne
    | cons a b => rfl
  refine wpAny_binaryOp_repeat_ref (T := "tuple") (U := "int") (by decide) ⟨_, ho, rfl⟩ (fun s' => typeIs_int s' k t) noFill_tuple_mul F.fills_int_mul F.slot_int_rmul repeat_tuple F.slot_int_index.lookup
    (call_meets F.slot_int_rmul (typeIs_int s k t) F.entry_int_rmul (F.args_int_rmul_2 _ _) (int_rmul_tuple k t l its.toArray n dd sl)
      ⟨ho, rfl, ⟨_, ho, rfl⟩, call_meets F.slot_tuple_mul ⟨_, ho, rfl⟩ F.entry_tuple_mul (F.args_tuple_mul_2 _ _) (tuple_mul0 l its.toArray n dd sl k t hk (by omega) hi) ⟨ho, ?_⟩⟩)
  refine ⟨.ref s.heap.objs.size, _, I.laid (t' := s.toks) (o := .tup []) (fun b ob q => Heap.get?_push_of_some _ q) (Nat.le_refl _) ?_, rfl, q _ (I.hok.fresh (Nat.le_refl _))⟩
  exact ⟨Nat.zero_le _, [], .nil, IsTup.new _ _⟩
def rRepTZ (K : Fg) : R2 := fun x y H Q => rRepT K x y H Q ∨ (rRepT1 K x y H Q ∨ rRepT0 K x y H Q)
theorem p_repT {a b : Expr} {ta tb : TE} {pos : Pos} (ha : PE X a ta) (hb : PE X b tb) : PE X (.BinOp a .Mult b pos) (tOp (rRepTZ X.K) ta tb) := pe_op (op_repT.or (op_repT1.or op_repT0)) ha hb
end
def dRepT : D → D → Option D
  | .tup [], _ => none
  | .tup xs, .int k => if -1000 ≤ k ∧ k ≤ 1000 ∧ xs.length ≤ 1000 then some (.tup (List.replicate k.toNat xs).flatten) else none
  | _, _ => none
variable {c : Cz}
theorem y_repT {M : Mem} {k : D → Mem → Prop} {x y z dy : D} (vy : View M dy y) (h : dRepT x y = some z) (hk : k z M) : ZR c (rRepTZ c.K) x dy M k := fun R F H v w Q L r1 r2 q => by
  unfold dRepT at h
  split at h
  · cases h
  · rename_i xs kk hne
    split at h
    · rename_i hb
      cases h
      obtain ⟨h1, h2, h3⟩ := hb
      obtain ⟨a, vs, rfl, hs, rr⟩ := r1.of_tup
      have hs' := ex_t L.fr hs
      rw [vy.int] at r2
      have hvs : vs ≠ [] := fun e => by
        subst e
        have := rr.len
        exact hne (List.eq_nil_of_length_eq_zero this.symm)
      rcases Int.lt_trichotomy kk 1 with hlt | heq | hgt
      · refine .inr (.inr ⟨a, kk, vs, rfl, r2.of_int, hs', hvs, by omega, by omega, fun p hp => ?_⟩)
        have e0 : kk.toNat = 0 := by omega
        rw [e0] at hk
        exact q _ _ _ M (.tup []) (ex_upd (L.free hp)) (L.new hp) (.mk_tup (SqT.of upd_same) .nil) hk
      · subst heq
        refine .inr (.inl ⟨a, vs, rfl, r2.of_int, hs', ?_⟩)
        have e1 : (List.replicate (1 : Int).toNat xs).flatten = xs := by show ([xs] : List (List D)).flatten = xs; simp
        rw [e1] at hk
        exact q _ F H M _ (Ex.refl F) L r1 hk
      · refine .inl ⟨a, kk, vs, rfl, r2.of_int, hs', hvs, by omega, h2, by rw [rr.len]; exact h3, fun p hp => ?_⟩
        exact q _ _ _ M _ (ex_upd (L.free hp)) (L.new hp) (.mk_tup (SqT.of upd_same) ((rr.rep kk.toNat).mono (ex_upd (L.free hp)))) hk
    · cases h
  · cases h
end Z
set_option Elab.async false
set_option linter.all false
set_option maxRecDepth 100000
set_option maxHeartbeats 4000000
/-! YExt: list.extend by a tuple. -/
namespace Z
open PySem PySem.Spec PyProof.Rows L2
theorem extend_tup (l : Addr) (items : Array Value) (n : Nat) (b : Addr) (items2 : Array Value) (n2 : Nat) (dd : Option Addr) (sl : Array (Option Value)) (hs0 : ¬(!items.isEmpty && Builtin.List.listTooLong (items.size + items2.size)) = true) (hs1 : items.size ≤ sizeLine) (hs2 : items.size + items2.size ≤ sizeLine + 1) :
    Meets (Builtin.«list.extend» ⟨[.ref l, .ref b], []⟩) (fun _ R s => s.heap.get? l = some { cls := .type "list", dict := none, data := .seq items n, slots := #[] } ∧ s.heap.get? b = some { cls := .type "tuple", dict := dd, data := .seq items2 n2, slots := sl } ∧ R (.ok (.ret Value.none)) { s with heap := s.heap.update l (Obj.mapSeq fun x => x ++ items2), toks := s.toks }) :=
  .of_wp fun prog w A R s h => by
    obtain ⟨hp, g, d, tk, os⟩ := s
    obtain ⟨hl, hb, h⟩ := h
    have f1 := AutoSeq1.idx_int
    have f2 := F.sub_tuple_tuple
    have f4 := F.sub_tuple_list
    have hz' : (items ++ items2).size ≤ sizeLine + 1 := by rw [Array.size_append]; exact hs2
    wp_walk using (wpAny_updateSeq hl rfl (hz := hs1) (_hz' := hz')), wpAny_loadPart' hl, wpAny_loadPart' hb
    exact ⟨_, rfl, h⟩
def rExtT (K : Fg) : V → List V → Hp → VK → Prop := fun x vs H Q => ∃ l b xs zs, x = .ref l ∧ vs = [.ref b] ∧ H l = some (.lst xs) ∧ SqT K H b zs ∧ xs.length + zs.length ≤ sizeLine ∧ Q .non (upd H l (.lst (xs ++ zs)))
def rExtZ (K : Fg) : V → List V → Hp → VK → Prop := fun x vs H Q => rExtend x vs H Q ∨ rExtT K x vs H Q
section
variable {X : Cx}
theorem mt_extT : MtR X "list.extend" (rExtT X.K) := by
  intro pins s σ H x vs v us Q I rx rv h
  obtain ⟨l, b, xs, zs, rfl, rfl, hH, hB, hz, q⟩ := h
  cases rx
  obtain ⟨u, rfl, ru⟩ := rv.one
  cases ru
  obtain ⟨z, its, n, r, hl, e⟩ := I.lstM hH
  obtain ⟨its2, r2, ⟨⟨oc, dd, dt, sl⟩, e2, hc, n2, hd⟩, _⟩ := I.tuple hB
  simp only at hc hd
  subst hc hd
  have l1 := r.length
  have l2 := r2.length
  have hsz : its.toArray.size + its2.toArray.size ≤ sizeLine := by rw [List.size_toArray, List.size_toArray]; omega
  refine call_meets F.slot_list_extend ⟨_, e, rfl⟩ F.entry_list_extend (F.args_list_extend_2 _ _)
    (extend_tup l its.toArray n b its2.toArray n2 dd sl (by rw [notLongL hsz, Bool.and_false]; exact Bool.false_ne_true) (by rw [List.size_toArray]; omega) (by omega)) ⟨e, e2, ?_⟩
  refine ⟨.non, _, I.lset (its' := its ++ its2) hH e (by simp) (r.append r2) ?_, rfl, q⟩
  rw [List.length_append]
  omega
theorem mt_extZ : MtR X "list.extend" (rExtZ X.K) := fun pins s σ H x vs v us Q I rx rv h => h.elim (mt_extend pins s σ H x vs v us Q I rx rv) (mt_extT pins s σ H x vs v us Q I rx rv)
end
def dExtZ (ds : List D) (d : D) : Option (List D) := match d with
  | .lst es => if ds.length + es.length ≤ sizeLine then some (ds ++ es) else none
  | .tup es => if ds.length + es.length ≤ sizeLine then some (ds ++ es) else none
  | _ => none
variable {c : Cz}
theorem y_extZ {M M' : Mem} {k : D → Mem → Prop} {i : Nat} {a : Addr} {ds ds' : List D} {x d : D} (hi : M[i]? = some (a, .lst ds)) (v : View M x d) (h : dExtZ ds d = some ds') (hM : M.set i (a, .lst ds') = M') (hk : k .non M') : ZM c (rExtZ c.K) (.at a) [x] M k := fun R F H v' vs Q L r rs q => by
  unfold dExtZ at h
  split at h
  · exact .inl (y_extend (c := c) hi v (by unfold dExt; exact h) hM hk R F H v' vs Q L r rs q)
  · split at h
    · rename_i es hl
      cases h
      subst hM
      obtain ⟨w, rfl, r2⟩ := rs.one1
      rw [v.tup] at r2
      obtain ⟨xs, ex, rr⟩ := L.memAt hi
      obtain ⟨b, ys, rfl, ey, ry⟩ := r2.of_tup
      rw [r.of_at]
      exact .inr ⟨a, b, xs, ys, rfl, rfl, ex, ex_t L.fr ey, by rw [rr.len, ry.len]; exact hl, q .non F _ _ .non (Ex.refl F) (L.lstSet (ys := (xs ++ ys)) hi (rr.append ry)) .non hk⟩
    · cases h
  · cases h
end Z
set_option Elab.async false
set_option linter.all false
set_option maxRecDepth 100000
set_option maxHeartbeats 4000000
/-! YCls3: the size of a set. -/
namespace Z
open PySem PySem.Spec PyProof.Rows L2
theorem dMth_cls {C C' : Addr} {m : Str} {fs : List (Str × D)} (h : dMth C m (.obj C' fs) = some ()) : C' = C := by
  by_cases hc : C' = C ∧ fs.lookup m = none
  · exact hc.1
  · have : dMth C m (.obj C' fs) = none := if_neg hc
    rw [this] at h; cases h
/-- each once -/
def once : List (List Int) → List (List Int)
  | [] => []
  | x :: r => if x ∈ r then once r else x :: once r
theorem mem_once {x : List Int} : ∀ {l : List (List Int)}, x ∈ once l ↔ x ∈ l
  | [] => .rfl
  | y :: r => by
    unfold once
    by_cases h : y ∈ r
    · rw [if_pos h, mem_once, List.mem_cons]
      exact ⟨.inr, fun h' => h'.elim (fun e => e ▸ h) id⟩
    · rw [if_neg h, List.mem_cons, List.mem_cons, mem_once]
theorem nodup_once : ∀ {l : List (List Int)}, (once l).Nodup
  | [] => List.nodup_nil
  | y :: r => by
    unfold once
    by_cases h : y ∈ r
    · rw [if_pos h]; exact nodup_once
    · rw [if_neg h]; exact List.nodup_cons.mpr ⟨fun h' => h (mem_once.mp h'), nodup_once⟩
theorem once_len {l m : List (List Int)} (hn : m.Nodup) (h : ∀ x, x ∈ m ↔ x ∈ l) : m.length = (once l).length :=
  ((List.perm_ext_iff_of_nodup hn nodup_once).mpr fun x => (h x).trans mem_once.symm).length_eq
theorem Made.size (s : Shared) {P : Program} {w : World} {h0 h : Heap} {ks : List (Addr × List Int)} (m : Made P w h0 ks h) : ∃ o es ep t, h.get? h0.objs.size = some o ∧ o.ExactSet ∧ o.data = .set es ep t ∧ t.fits es.size = true ∧ es.size = (once (ks.map (·.2))).length := by
  obtain ⟨L, es, ep, t, hS, hg, _⟩ := m
  have hS' : SetTR P w ({ s with heap := h } : Shared).heap h0.objs.size L es ep t := hS
  obtain ⟨o, ho, hx, hd⟩ := hS.ob
  refine ⟨o, es, ep, t, ho, hx, hd, hS'.fits, hS'.size.trans ?_⟩
  have e : L.length = (L.map (·.2)).length := (List.length_map ..).symm
  rw [e]
  refine once_len hS.nd fun x => ?_
  rw [List.mem_map, List.mem_map]
  constructor
  · rintro ⟨p, hp, rfl⟩
    have := hg.sub p hp
    rw [List.take_length] at this
    exact ⟨p, this, rfl⟩
  · rintro ⟨p, hp, rfl⟩
    have := hg.all p (by rw [List.take_length]; exact hp)
    exact List.mem_map.mp this
def rLenSetZ (K : Fg) : V → Hp → VK → Prop := fun x H Q => (∃ l, ∃ xs : List Str, x = .ref l ∧ (SqL K H l (xs.map V.str) ∨ SqT K H l (xs.map V.str)) ∧ xs.length ≤ 1 ∧ Q (.int xs.length) H) ∨
  ∃ l, ∃ ks : List (Addr × List Int), x = .ref l ∧ SqT K H l (ks.map fun p => V.ref p.1) ∧ (∀ p ∈ ks, SqT K H p.1 (p.2.map V.int)) ∧ ks.length < 64 ∧ Q (.int ((once (ks.map (·.2))).length : Nat)) H
theorem refs_of : ∀ {ks : List (Addr × List Int)} {us : List Value}, Vals (ks.map fun p => V.ref p.1) us → us = ks.map fun p => Value.ref p.1
  | [], _, .nil => rfl
  | p :: ks, _, .cons r t => by
    rw [List.map_cons, ← refs_of t]
    cases r; rfl
section
variable {X : Cx}
theorem p_lenSetZ {a : Expr} {ta : TE} {p p2 q pos : Pos} (hc : X.calm = true) (hu : X.A.units + 64 < cLine) (hg : Gl X "len") (hm : X.mg "len" = none) (hg2 : Gl X "set") (hm2 : X.mg "set" = none) (ha : PE X a ta)
    (na : starEach [a] X.env = (false, eval a X.env) :: starEach [] X.env := by rfl) : PE X (.Call (.Name "len" p) [.Call (.Name "set" p2) [a] [] q] [] pos) (tUn (rLenSetZ X.K) ta) := by
  refine ⟨fun pins s σ H Q I h => ?_⟩
  refine Call_ (ld_blt I hg hm PySem.boot_len ?_)
  refine PyProof.Rows.callWith_builtin1 (PyProof.Rows.args_cons ?_ rfl) rfl rfl
  refine Call_ (ld_blt I hg2 hm2 PyProof.Rows.boot_set ?_)
  refine PyProof.Rows.callWith_type1 (PyProof.Rows.args_cons (thn (ha.run pins s σ H _ I h) fun v s1 ⟨x, H1, I1, r1, q1⟩ => PyProof.Rows.args_nil ?_) na) na rfl
  rcases q1 with ⟨l, xs, rfl, hq, h1, q1⟩ | ⟨l, ks, rfl, hq, hk, hl, q1⟩
  · cases r1
    have fin : ∀ (its : List Value), Vals (xs.map V.str) its → ∀ (h' : Heap) (tk : Nat), h'.SetOf (PySem.strKind X.prog X.w) s1.heap.objs.size (fun k' => (xs.take its.toArray.size).any (· == k')) its.toArray.size →
        (∀ b o, b < s1.heap.objs.size → s1.heap.get? b = some o → h'.get? b = some o) →
        wpAny (model X.prog X.w) X.A (spliced (backTo pos (starEach [] X.env))) (fun vs s₂ => wpAny (model X.prog X.w) X.A (call (.builtin "len") (Value.ref s1.heap.objs.size :: vs)) (EP X pins σ Q) X.xe s₂) X.xe { s1 with heap := h', toks := tk } := fun its r h' tk hS hk => by
      refine PyProof.Rows.args_nil ?_
      have hl : its.toArray.size = xs.length := by rw [List.size_toArray, ← r.length, List.length_map]
      rw [hl] at hS
      obtain ⟨o, es, ep, t, ho, hex, hd, _, _, _, hf, hn⟩ := hS
      have I2 : Inv X pins σ H1 { s1 with heap := h', toks := tk } := I1.kept fun b o e => hk b o (Heap.lt_size e) e
      refine call_len_set ho hex hd hf (by rw [hn] <;> omega) ⟨.int xs.length, H1, I2.tok _, ⟨_, by rw [hn]⟩, q1⟩
    rcases hq with hq | hq
    · obtain ⟨its, r, pl, hz⟩ := I1.list hq
      exact SS.call_set_listS (I1.ok.hd hc) pl.isList (by simpa using strsAre_of r) h1 fun h' tk hS hk => fin its r h' tk hS hk
    · obtain ⟨its, r, pl, hz⟩ := I1.tuple hq
      exact SS.call_set_tupleS (I1.ok.hd hc) pl (by simpa using strsAre_of r) h1 fun h' tk hS hk => fin its r h' tk hS hk
  · cases r1
    obtain ⟨its, r, pl, hz⟩ := I1.tuple hq
    refine call_set_tt (I1.ok.hd hc) pl (ks := ks) (by simpa using refs_of r) (fun p hp => I1.isT (hk p hp)) hl (by omega) fun h' tk m => PyProof.Rows.args_nil ?_
    obtain ⟨o, es, ep, t, ho, hex, hd, hf, hn⟩ := m.size s1
    obtain ⟨L, _, _, _, _, _, hkp⟩ := m
    have hb : (once (ks.map (·.2))).length ≤ ks.length := by
      have : ∀ l : List (List Int), (once l).length ≤ l.length := fun l => by
        induction l with
        | nil => exact Nat.le_refl _
        | cons x r ih =>
          unfold once
          split
          · exact Nat.le_succ_of_le ih
          · exact Nat.succ_le_succ ih
      exact Nat.le_trans (this _) (by rw [List.length_map]; exact Nat.le_refl _)
    have I2 : Inv X pins σ H1 { s1 with heap := h', toks := tk } := I1.kept hkp
    exact call_len_set ho hex hd hf (by rw [hn]; omega) ⟨.int _, H1, I2.tok _, ⟨_, by rw [hn]⟩, q1⟩
end
/-! over data -/
def intsT : D → Option (List Int)
  | .tup ds => ds.mapM fun | .int i => some i | _ => none
  | _ => none
def dLenSet : D → Option D
  | .tup [] => some (.int 0)
  | .tup [.str _] => some (.int 1)
  | .tup ds => (ds.mapM intsT).bind fun ls => if ls.length < 64 then some (.int ((once ls).length : Nat)) else none
  | _ => none
theorem mapM_cons {α β : Type} {f : α → Option β} {x : α} {xs : List α} {ys : List β} (h : (x :: xs).mapM f = some ys) : ∃ y r, f x = some y ∧ xs.mapM f = some r ∧ ys = y :: r := by
  rw [List.mapM_cons] at h
  obtain ⟨y, h1, h⟩ := Option.bind_eq_some_iff.mp h
  obtain ⟨r, h2, h⟩ := Option.bind_eq_some_iff.mp h
  cases h
  exact ⟨y, r, h1, h2, rfl⟩
theorem ints_rps {K : Fg} {F : Hp} : ∀ {ds : List D} {vs : List V} {is : List Int}, (ds.mapM fun d => match d with | .int i => some i | _ => none) = some is → Rps K F vs ds → vs = is.map V.int
  | [], vs, is, h, r => by
    rw [List.mapM_nil] at h
    cases h
    rw [r.unnil]; rfl
  | d :: ds, vs, is, h, r => by
    obtain ⟨i, r', h1, h2, rfl⟩ := mapM_cons h
    obtain ⟨v, vs', rfl, rv, rr⟩ := r.uncons
    rw [List.map_cons, ints_rps h2 rr]
    split at h1
    · cases h1; rw [rv.of_int]
    · cases h1
theorem tups_rps {K : Fg} {F H : Hp} (e : Ex F H) : ∀ {ds : List D} {vs : List V} {ls : List (List Int)}, ds.mapM intsT = some ls → Rps K F vs ds → ∃ ks : List (Addr × List Int), vs = (ks.map fun p => V.ref p.1) ∧ (∀ p ∈ ks, SqT K H p.1 (p.2.map V.int)) ∧ ks.map (·.2) = ls
  | [], vs, ls, h, r => by
    rw [List.mapM_nil] at h
    cases h
    exact ⟨[], r.unnil, fun p hp => absurd hp List.not_mem_nil, rfl⟩
  | d :: ds, vs, ls, h, r => by
    obtain ⟨l, ls', h1, h2, rfl⟩ := mapM_cons h
    obtain ⟨v, vs', rfl, rv, rr⟩ := r.uncons
    obtain ⟨ks, rfl, hk, rfl⟩ := tups_rps e h2 rr
    unfold intsT at h1
    split at h1
    · obtain ⟨a, ws, rfl, hs, rw_⟩ := rv.of_tup
      refine ⟨(a, l) :: ks, rfl, fun p hp => ?_, rfl⟩
      rcases List.mem_cons.mp hp with rfl | hp
      · rw [← ints_rps h1 rw_]; exact ex_t e hs
      · exact hk p hp
    · cases h1
variable {c : Cz}
theorem y_lenSet {M : Mem} {k : D → Mem → Prop} {x z : D} (h : dLenSet x = some z) (hk : k z M) : ZU c (rLenSetZ c.K) x M k := fun R F H v Q L r q => by
  unfold dLenSet at h
  split at h
  · cases h
    obtain ⟨a, vs, rfl, hs, rr⟩ := r.of_tup
    rw [rr.unnil] at hs
    exact .inl ⟨a, [], rfl, .inr (ex_t L.fr hs), Nat.zero_le _, q _ F H M _ (Ex.refl F) L (.int _) hk⟩
  · cases h
    rename_i s
    obtain ⟨a, vs, rfl, hs, rr⟩ := r.of_tup
    obtain ⟨v, vs', rfl, rv, r2⟩ := rr.uncons
    rw [r2.unnil, rv.of_str] at hs
    exact .inl ⟨a, [s], rfl, .inr (ex_t L.fr hs), Nat.le_refl _, q _ F H M _ (Ex.refl F) L (.int _) hk⟩
  · obtain ⟨ls, h1, h⟩ := Option.bind_eq_some_iff.mp h
    split at h
    · rename_i hl
      cases h
      obtain ⟨a, vs, rfl, hs, rr⟩ := r.of_tup
      obtain ⟨ks, rfl, hk2, rfl⟩ := tups_rps (H := H) L.fr h1 rr
      exact .inr ⟨a, ks, rfl, ex_t L.fr hs, hk2, by rwa [List.length_map] at hl, q _ F H M _ (Ex.refl F) L (.int _) hk⟩
    · cases h
  · cases h
end Z
set_option Elab.async false
set_option linter.all false
set_option maxRecDepth 100000
set_option maxHeartbeats 4000000
/-! Printed by gen.py: the readings of the defs. -/
namespace Qk14
open PySem PySem.Spec PyProof.Rows L2 StX Z
def topS (i : Nat) : Stmt := PySem.Challenge.pw_leaprungs_k14_hanging_places.main.body.getD i (.Pass ⟨0, 0, 0, 0⟩)
structure Cs where
  c_Edge : Addr
  c_Frame : Addr
  c_Network : Addr
  d_Edge_init_guards : V
structure Txt (Ac : Cs) (K : Fg) (mg : Str → Option Value) : Prop where
  n_abs : mg "abs" = none
  n_all : mg "all" = none
  n_any : mg "any" = none
  n_bool : mg "bool" = none
  n_enumerate : mg "enumerate" = none
  n_int : mg "int" = none
  n_isinstance : mg "isinstance" = none
  n_len : mg "len" = none
  n_list : mg "list" = none
  n_range : mg "range" = none
  n_set : mg "set" = none
  n_str : mg "str" = none
  n_tuple : mg "tuple" = none
  f_edges : FldOk K [Ac.c_Network] "edges"
  f_effect : FldOk K [Ac.c_Edge] "effect"
  f_forms : FldOk K [Ac.c_Frame] "forms"
  f_frames : FldOk K [Ac.c_Network] "frames"
  f_guards : FldOk K [Ac.c_Edge] "guards"
  f_label : FldOk K [Ac.c_Edge] "label"
  f_name : FldOk K [Ac.c_Frame] "name"
  f_places : FldOk K [Ac.c_Network] "places"
  f_sources : FldOk K [Ac.c_Edge] "sources"
  f_target : FldOk K [Ac.c_Edge] "target"
  f_unknowns : FldOk K [Ac.c_Edge] "unknowns"
  f_variables : FldOk K [Ac.c_Frame] "variables"
  cc_Edge_MOST_CONSTRAINTS : CCon K mg "Edge" Ac.c_Edge "MOST_CONSTRAINTS" (V.int 20)
  cc_Edge_MOST_UNKNOWNS : CCon K mg "Edge" Ac.c_Edge "MOST_UNKNOWNS" (V.int 5)
  d_Edge_init_guards : ∀ F, Rp K F Ac.d_Edge_init_guards (D.tup [])
section
variable {P : Program} {w : World} {K : Fg} {mg : Str → Option Value} {base : Heap}
/-! Frame.__init__ -/
abbrev s_Frame_init : Stmt := inClass (topS 7) 0
abbrev N_Frame_init : List Str := ["self", "name", "variables", "forms"]
theorem sc_Frame_init : FnScope N_Frame_init ["self", "name", "variables", "forms"] (defScope s_Frame_init) := ⟨rfl, rfl, rfl, by decide +kernel, rfl, by decide +kernel, by decide +kernel⟩
def t_Frame_init (K : Fg) (Ac : Cs) : TS :=
    (tSeq (sFld K (tVar 0) (tVar 1) "name")
    (tSeq (sFld K (tVar 0) (tCB (rTupZ K) (tCons (tVar 2) tNil)) "variables")
    (sFld K (tVar 0) (tCB (rTupZ K) (tCons (tVar 3) tNil)) "forms")))
theorem red_Frame_init {Ac : Cs} (T : Txt Ac K mg) (f : Addr) (cdv : Value) (A : Around) (outer : List Env) (s : Shared) (H : Hp) (E : XK) (hr : Room 0 (A.deeper (envOfC "Frame.__init__" (defScope s_Frame_init) s.heap.objs.size f cdv))) :
    PSs (cxOf CX0 P w K mg base N_Frame_init "Frame.__init__" (defScope s_Frame_init) f cdv A outer s H E).nox (defBody s_Frame_init) (t_Frame_init K Ac) :=
    (pss_cons (ps_fld (pv 0) (pv 1) rfl)
    (pss_cons (ps_fld (pv 0) (pe_callTy cz_tuple (by rfl) T.n_tuple Z.boot_tuple (pa_cons (pv 2) pa_nil)) rfl)
    (pss_one (ps_fld (pv 0) (pe_callTy cz_tuple (by rfl) T.n_tuple Z.boot_tuple (pa_cons (pv 3) pa_nil)) rfl))))
/-! frame_fits -/
abbrev s_frame_fits : Stmt := topS 8
abbrev N_frame_fits : List Str := ["frame", "variables", "forms", "form"]
theorem sc_frame_fits : FnScope N_frame_fits ["frame"] (defScope s_frame_fits) := ⟨rfl, rfl, rfl, by decide +kernel, rfl, by decide +kernel, by decide +kernel⟩
def t_frame_fits (K : Fg) (Ac : Cs) : TS :=
    (tSeq (tAsg (tUn (rFld K "variables") (tVar 0)) (gName 1))
    (tSeq (tAsg (tUn (rFld K "forms") (tVar 0)) (gName 2))
    (tSeq (tIfS (tTest (tOp (rNeZ K) (tUn (rLenSetZ K) (tVar 1)) (tCB (rLenZ K) (tCons (tVar 1) tNil)))) (tRet (tC (.bl false))) tNext)
    (tSeq (tIfS (tOr (tTest (tOp (rEqZ K) (tCB (rLenZ K) (tCons (tVar 2) tNil)) (tC (.int 0)))) (tTest (tOp (rNeZ K) (tUn (rLenSetZ K) (tVar 2)) (tCB (rLenZ K) (tCons (tVar 2) tNil))))) (tRet (tC (.bl false))) tNext)
    (tSeq (tFor (iSeqZ K (tVar 2)) (gName 3) (tSeq (tIfS (tTest (tOp (rNeZ K) (tCB (rLenZ K) (tCons (tVar 3) tNil)) (tCB (rLenZ K) (tCons (tVar 1) tNil)))) (tRet (tC (.bl false))) tNext)
    (tIfS (tTest (tOp (rEqZ K) (tVar 3) (tOp (rRepTZ K) (tTup (tCons (tC (.int 0)) tNil)) (tCB (rLenZ K) (tCons (tVar 3) tNil))))) (tRet (tC (.bl false))) tNext)))
    (tRet (tC (.bl true))))))))
theorem red_frame_fits {Ac : Cs} (T : Txt Ac K mg) (f : Addr) (cdv : Value) (A : Around) (outer : List Env) (s : Shared) (H : Hp) (E : XK) (hr : Room 0 (A.deeper (envOfC "frame_fits" (defScope s_frame_fits) s.heap.objs.size f cdv))) :
    PSs (cxOf CX0 P w K mg base N_frame_fits "frame_fits" (defScope s_frame_fits) f cdv A outer s H E).nox (defBody s_frame_fits) (t_frame_fits K Ac) :=
    (pss_cons (ps_set (i := 1) sc_frame_fits.nd rfl (by first | exact Or.inl rfl | exact Or.inr rfl) (p_fld (pv 0)))
    (pss_cons (ps_set (i := 2) sc_frame_fits.nd rfl (by first | exact Or.inl rfl | exact Or.inr rfl) (p_fld (pv 0)))
    (pss_cons (ps_if (q_ne (Room.units hr) (p_lenSetZ rfl (Room.units hr) (by rfl) T.n_len (by rfl) T.n_set (pv 1)) (pe_callB cz_len (by rfl) T.n_len Z.boot_len (pa_cons (pv 1) pa_nil))) (pss_one (ps_ret pe_bl)) pss_nil)
    (pss_cons (ps_if (PW.pt (pw_or (q_eq (Room.units hr) (pe_callB cz_len (by rfl) T.n_len Z.boot_len (pa_cons (pv 2) pa_nil)) pe_int) (pw_or1 (q_ne (Room.units hr) (p_lenSetZ rfl (Room.units hr) (by rfl) T.n_len (by rfl) T.n_set (pv 2)) (pe_callB cz_len (by rfl) T.n_len Z.boot_len (pa_cons (pv 2) pa_nil)))))) (pss_one (ps_ret pe_bl)) pss_nil)
    (pss_cons (ps_for PassesOwn.never rfl (pi_seqZ (pv 2)) (pg_name (i := 3) sc_frame_fits.nd rfl (by first | exact Or.inl rfl | exact Or.inr rfl)) (pss_cons (ps_if (q_ne (Room.units hr) (pe_callB cz_len (by rfl) T.n_len Z.boot_len (pa_cons (pv 3) pa_nil)) (pe_callB cz_len (by rfl) T.n_len Z.boot_len (pa_cons (pv 1) pa_nil))) (pss_one (ps_ret pe_bl)) pss_nil)
    (pss_one (ps_if (q_eq (Room.units hr) (pv 3) (p_repT (pe_tup (pa_cons pe_int pa_nil)) (pe_callB cz_len (by rfl) T.n_len Z.boot_len (pa_cons (pv 3) pa_nil)))) (pss_one (ps_ret pe_bl)) pss_nil))))
    (pss_one (ps_ret pe_bl)))))))
/-! Edge.__init__ -/
abbrev s_Edge_init : Stmt := inClass (topS 9) 2
abbrev N_Edge_init : List Str := ["self", "target", "unknowns", "sources", "guards", "effect", "label"]
theorem sc_Edge_init : FnScope N_Edge_init ["self", "target", "unknowns", "sources", "guards", "effect", "label"] (defScope s_Edge_init) := ⟨rfl, rfl, rfl, by decide +kernel, rfl, by decide +kernel, by decide +kernel⟩
def t_Edge_init (K : Fg) (Ac : Cs) : TS :=
    (tSeq (sFld K (tVar 0) (tVar 1) "target")
    (tSeq (sFld K (tVar 0) (tVar 2) "unknowns")
    (tSeq (sFld K (tVar 0) (tCB (rTupZ K) (tCons (tVar 3) tNil)) "sources")
    (tSeq (sFld K (tVar 0) (tCB (rTupZ K) (tCons (tVar 4) tNil)) "guards")
    (tSeq (sFld K (tVar 0) (tCB (rTupZ K) (tCons (tVar 5) tNil)) "effect")
    (sFld K (tVar 0) (tVar 6) "label"))))))
theorem red_Edge_init {Ac : Cs} (T : Txt Ac K mg) (f : Addr) (cdv : Value) (A : Around) (outer : List Env) (s : Shared) (H : Hp) (E : XK) (hr : Room 0 (A.deeper (envOfC "Edge.__init__" (defScope s_Edge_init) s.heap.objs.size f cdv))) :
    PSs (cxOf CX0 P w K mg base N_Edge_init "Edge.__init__" (defScope s_Edge_init) f cdv A outer s H E).nox (defBody s_Edge_init) (t_Edge_init K Ac) :=
    (pss_cons (ps_fld (pv 0) (pv 1) rfl)
    (pss_cons (ps_fld (pv 0) (pv 2) rfl)
    (pss_cons (ps_fld (pv 0) (pe_callTy cz_tuple (by rfl) T.n_tuple Z.boot_tuple (pa_cons (pv 3) pa_nil)) rfl)
    (pss_cons (ps_fld (pv 0) (pe_callTy cz_tuple (by rfl) T.n_tuple Z.boot_tuple (pa_cons (pv 4) pa_nil)) rfl)
    (pss_cons (ps_fld (pv 0) (pe_callTy cz_tuple (by rfl) T.n_tuple Z.boot_tuple (pa_cons (pv 5) pa_nil)) rfl)
    (pss_one (ps_fld (pv 0) (pv 6) rfl)))))))
/-! Network.__init__ -/
abbrev s_Network_init : Stmt := inClass (topS 10) 0
abbrev N_Network_init : List Str := ["self", "frames", "places", "edges", "number", "frame", "names", "name", "frame_number", "edge"]
theorem sc_Network_init : FnScope N_Network_init ["self", "frames", "places", "edges"] (defScope s_Network_init) := ⟨rfl, rfl, rfl, by decide +kernel, rfl, by decide +kernel, by decide +kernel⟩
def t_Network_init (K : Fg) (Ac : Cs) (S_frame_fits : ZSp) (S_Network_edge_fits : ZSp) (S_Network_is_too_large : ZSp) : TS :=
    (tSeq (sFld K (tVar 0) (tCB (rTupZ K) (tCons (tVar 1) tNil)) "frames")
    (tSeq (sFld K (tVar 0) (tCB (rTupZ K) (tCons (tVar 2) tNil)) "places")
    (tSeq (sFld K (tVar 0) (tCB (rTupZ K) (tCons (tVar 3) tNil)) "edges")
    (tSeq (tFor (iEnumZ K (tCons (tUn (rFld K "frames") (tVar 0)) tNil)) (gTup K 2 (gCons (gName 4) (gCons (gName 5) gNil))) (tIfS (tNot (tTruZ K (tCB (zcall K S_frame_fits) (tCons (tVar 5) tNil)))) tNever tNext))
    (tSeq (tAsg tDNewK (gName 6))
    (tSeq (tFor (iEnumZ K (tCons (tUn (rFld K "places") (tVar 0)) tNil)) (gTup K 2 (gCons (gName 4) (gCons (gTup K 2 (gCons (gName 7) (gCons (gName 8) gNil))) gNil))) (tSeq (tIfS (tOr (tTest (tOp rInK (tVar 7) (tVar 6))) (tNot (tTest (tChain rLeZ rLtZ (tC (.int 0)) (tVar 8) (tCB (rLenZ K) (tCons (tUn (rFld K "frames") (tVar 0)) tNil)))))) tNever tNext)
    (tAsg (tC (.bl true)) (gSub (tVar 6) (tVar 7) rSetD))))
    (tFor (iEnumZ K (tCons (tUn (rFld K "edges") (tVar 0)) tNil)) (gTup K 2 (gCons (gName 4) (gCons (gName 9) gNil))) (tSeq (tIfS (tNot (tTruZ K (tMth Ac.c_Network "_edge_fits" (zcall K S_Network_edge_fits) (tVar 0) (tCons (tVar 9) tNil)))) tNever tNext)
    (tIfS (tTruZ K (tMth Ac.c_Network "_is_too_large" (zcall K S_Network_is_too_large) (tVar 0) (tCons (tVar 9) tNil))) tNever tNext)))))))))
theorem red_Network_init {Ac : Cs} (T : Txt Ac K mg) (S_frame_fits : ZSp) (S_Network_edge_fits : ZSp) (S_Network_is_too_large : ZSp)
    (G_frame_fits : FnZ P w K mg base "frame_fits" 1 S_frame_fits)
    (G_Network_edge_fits : MtZ P w K mg base Ac.c_Network "_edge_fits" 2 S_Network_edge_fits)
    (G_Network_is_too_large : MtZ P w K mg base Ac.c_Network "_is_too_large" 2 S_Network_is_too_large) (f : Addr) (cdv : Value) (A : Around) (outer : List Env) (s : Shared) (H : Hp) (E : XK) (hr : Room 2 (A.deeper (envOfC "Network.__init__" (defScope s_Network_init) s.heap.objs.size f cdv))) :
    PSs (cxOf CX0 P w K mg base N_Network_init "Network.__init__" (defScope s_Network_init) f cdv A outer s H E).nox (defBody s_Network_init) (t_Network_init K Ac S_frame_fits S_Network_edge_fits S_Network_is_too_large) :=
    (pss_cons (ps_fld (pv 0) (pe_callTy cz_tuple (by rfl) T.n_tuple Z.boot_tuple (pa_cons (pv 1) pa_nil)) rfl)
    (pss_cons (ps_fld (pv 0) (pe_callTy cz_tuple (by rfl) T.n_tuple Z.boot_tuple (pa_cons (pv 2) pa_nil)) rfl)
    (pss_cons (ps_fld (pv 0) (pe_callTy cz_tuple (by rfl) T.n_tuple Z.boot_tuple (pa_cons (pv 3) pa_nil)) rfl)
    (pss_cons (ps_for PassesOwn.never rfl (pi_enumZ (by rfl) T.n_enumerate (pa_cons (p_fld (pv 0)) pa_nil)) (pg_tup rfl (pgs_cons (pg_name (i := 4) sc_Network_init.nd rfl (by first | exact Or.inl rfl | exact Or.inr rfl)) (pgs_cons (pg_name (i := 5) sc_Network_init.nd rfl (by first | exact Or.inl rfl | exact Or.inr rfl)) pgs_nil))) (pss_one (ps_if (pt_not (q_truth (p_call G_frame_fits hr (pa_cons (pv 5) pa_nil)))) (pss_one ps_never) pss_nil)))
    (pss_cons (ps_set (i := 6) sc_Network_init.nd rfl (by first | exact Or.inl rfl | exact Or.inr rfl) pe_dnewK)
    (pss_cons (ps_for PassesOwn.never rfl (pi_enumZ (by rfl) T.n_enumerate (pa_cons (p_fld (pv 0)) pa_nil)) (pg_tup rfl (pgs_cons (pg_name (i := 4) sc_Network_init.nd rfl (by first | exact Or.inl rfl | exact Or.inr rfl)) (pgs_cons (pg_tup rfl (pgs_cons (pg_name (i := 7) sc_Network_init.nd rfl (by first | exact Or.inl rfl | exact Or.inr rfl)) (pgs_cons (pg_name (i := 8) sc_Network_init.nd rfl (by first | exact Or.inl rfl | exact Or.inr rfl)) pgs_nil))) pgs_nil))) (pss_cons (ps_if (PW.pt (pw_or (q_inK (Room.units hr) (pv 7) (pv 6)) (pw_or1 (pt_not (pt_chain op_le op_lt pe_int (pv 8) (pe_callB cz_len (by rfl) T.n_len Z.boot_len (pa_cons (p_fld (pv 0)) pa_nil))))))) (pss_one ps_never) pss_nil)
    (pss_one (ps_asg pe_bl (pg_sub (pv 6) (pv 7) (set_dictU (Room.units hr)))))))
    (pss_one (ps_for PassesOwn.never rfl (pi_enumZ (by rfl) T.n_enumerate (pa_cons (p_fld (pv 0)) pa_nil)) (pg_tup rfl (pgs_cons (pg_name (i := 4) sc_Network_init.nd rfl (by first | exact Or.inl rfl | exact Or.inr rfl)) (pgs_cons (pg_name (i := 9) sc_Network_init.nd rfl (by first | exact Or.inl rfl | exact Or.inr rfl)) pgs_nil))) (pss_cons (ps_if (pt_not (q_truth (p_meth G_Network_edge_fits hr (pv 0) (pa_cons (pv 9) pa_nil)))) (pss_one ps_never) pss_nil)
    (pss_one (ps_if (q_truth (p_meth G_Network_is_too_large hr (pv 0) (pa_cons (pv 9) pa_nil))) (pss_one ps_never) pss_nil)))))))))))
/-! Network._edge_fits -/
abbrev s_Network_edge_fits : Stmt := inClass (topS 10) 1
abbrev N_Network_edge_fits : List Str := ["self", "edge", "rows", "place", "part", "row"]
theorem sc_Network_edge_fits : FnScope N_Network_edge_fits ["self", "edge"] (defScope s_Network_edge_fits) := ⟨rfl, rfl, rfl, by decide +kernel, rfl, by decide +kernel, by decide +kernel⟩
def t_Network_edge_fits (K : Fg) (Ac : Cs) (S_Network_variables_of : ZSp) : TS :=
    (tSeq (tIfS (tTest (tOp rGtZ (tCB (rLenZ K) (tCons (tUn (rFld K "sources") (tVar 1)) tNil)) (tC (.int 2)))) (tRet (tC (.bl false))) tNext)
    (tSeq (tAsg (tCB (rListZ K) (tCons (tUn (rFld K "guards") (tVar 1)) tNil)) (gName 2))
    (tSeq (tFor (iSeqZ K (tOp (rAddZ K) (tUn (rFld K "sources") (tVar 1)) (tTup (tCons (tTup (tCons (tUn (rFld K "target") (tVar 1)) (tCons (tUn (rFld K "effect") (tVar 1)) tNil))) tNil)))) (gTup K 2 (gCons (gName 3) (gCons (gName 4) gNil))) (tSeq (tIfS (tNot (tTest (tChain rLeZ rLtZ (tC (.int 0)) (tVar 3) (tCB (rLenZ K) (tCons (tUn (rFld K "places") (tVar 0)) tNil))))) (tRet (tC (.bl false))) tNext)
    (tSeq (tIfS (tTest (tOp (rNeZ K) (tCB (rLenZ K) (tCons (tVar 4) tNil)) (tCB (rLenZ K) (tCons (tMth Ac.c_Network "variables_of" (zcall K S_Network_variables_of) (tVar 0) (tCons (tVar 3) tNil)) tNil)))) (tRet (tC (.bl false))) tNext)
    (tDrop (tBM K "list" (rExtZ K) (tVar 2) (tCons (tVar 4) tNil))))))
    (tSeq (tFor (iSeqZ K (tVar 2)) (gName 5) (tIfS (tTest (tOp (rNeZ K) (tCB (rLenZ K) (tCons (tVar 5) tNil)) (tOp (rAddZ K) (tUn (rFld K "unknowns") (tVar 1)) (tC (.int 1))))) (tRet (tC (.bl false))) tNext))
    (tRet (tC (.bl true)))))))
theorem red_Network_edge_fits {Ac : Cs} (T : Txt Ac K mg) (S_Network_variables_of : ZSp)
    (G_Network_variables_of : MtZ P w K mg base Ac.c_Network "variables_of" 1 S_Network_variables_of) (f : Addr) (cdv : Value) (A : Around) (outer : List Env) (s : Shared) (H : Hp) (E : XK) (hr : Room 1 (A.deeper (envOfC "Network._edge_fits" (defScope s_Network_edge_fits) s.heap.objs.size f cdv))) :
    PSs (cxOf CX0 P w K mg base N_Network_edge_fits "Network._edge_fits" (defScope s_Network_edge_fits) f cdv A outer s H E).nox (defBody s_Network_edge_fits) (t_Network_edge_fits K Ac S_Network_variables_of) :=
    (pss_cons (ps_if (q_gt (pe_callB cz_len (by rfl) T.n_len Z.boot_len (pa_cons (p_fld (pv 1)) pa_nil)) pe_int) (pss_one (ps_ret pe_bl)) pss_nil)
    (pss_cons (ps_set (i := 2) sc_Network_edge_fits.nd rfl (by first | exact Or.inl rfl | exact Or.inr rfl) (pe_callTy cz_list (by rfl) T.n_list Z.boot_list (pa_cons (p_fld (pv 1)) pa_nil)))
    (pss_cons (ps_for PassesOwn.never rfl (pi_seqZ (p_add (p_fld (pv 1)) (pe_tup (pa_cons (pe_tup (pa_cons (p_fld (pv 1)) (pa_cons (p_fld (pv 1)) pa_nil))) pa_nil)))) (pg_tup rfl (pgs_cons (pg_name (i := 3) sc_Network_edge_fits.nd rfl (by first | exact Or.inl rfl | exact Or.inr rfl)) (pgs_cons (pg_name (i := 4) sc_Network_edge_fits.nd rfl (by first | exact Or.inl rfl | exact Or.inr rfl)) pgs_nil))) (pss_cons (ps_if (pt_not (pt_chain op_le op_lt pe_int (pv 3) (pe_callB cz_len (by rfl) T.n_len Z.boot_len (pa_cons (p_fld (pv 0)) pa_nil)))) (pss_one (ps_ret pe_bl)) pss_nil)
    (pss_cons (ps_if (q_ne (Room.units hr) (pe_callB cz_len (by rfl) T.n_len Z.boot_len (pa_cons (pv 4) pa_nil)) (pe_callB cz_len (by rfl) T.n_len Z.boot_len (pa_cons (p_meth G_Network_variables_of hr (pv 0) (pa_cons (pv 3) pa_nil)) pa_nil))) (pss_one (ps_ret pe_bl)) pss_nil)
    (pss_one (ps_expr (pe_bm PySem.F.plainAttrs_list PySem.F.slot_list_extend PySem.F.type_list_extend mt_extZ (pv 2) (pa_cons (pv 4) pa_nil)))))))
    (pss_cons (ps_for PassesOwn.never rfl (pi_seqZ (pv 2)) (pg_name (i := 5) sc_Network_edge_fits.nd rfl (by first | exact Or.inl rfl | exact Or.inr rfl)) (pss_one (ps_if (q_ne (Room.units hr) (pe_callB cz_len (by rfl) T.n_len Z.boot_len (pa_cons (pv 5) pa_nil)) (p_add (p_fld (pv 1)) pe_int)) (pss_one (ps_ret pe_bl)) pss_nil)))
    (pss_one (ps_ret pe_bl))))))
/-! Network._is_too_large -/
abbrev s_Network_is_too_large : Stmt := inClass (topS 10) 2
abbrev N_Network_is_too_large : List Str := ["self", "edge", "constraints", "place", "_"]
theorem sc_Network_is_too_large : FnScope N_Network_is_too_large ["self", "edge"] (defScope s_Network_is_too_large) := ⟨rfl, rfl, rfl, by decide +kernel, rfl, by decide +kernel, by decide +kernel⟩
def t_Network_is_too_large (K : Fg) (Ac : Cs) (S_Network_forms_of : ZSp) : TS :=
    (tSeq (tAsg (tCB (rLenZ K) (tCons (tUn (rFld K "guards") (tVar 1)) tNil)) (gName 2))
    (tSeq (tFor (iSeqZ K (tUn (rFld K "sources") (tVar 1))) (gTup K 2 (gCons (gName 3) (gCons (gName 4) gNil))) (tAug 2 (tCB (rLenZ K) (tCons (tMth Ac.c_Network "forms_of" (zcall K S_Network_forms_of) (tVar 0) (tCons (tVar 3) tNil)) tNil)) (ipI fun i j => i + j)))
    (tRet (tOrV (tOp rGtZ (tUn (rFld K "unknowns") (tVar 1)) (tC (V.int 5))) (tOp rGtZ (tVar 2) (tC (V.int 20)))))))
theorem red_Network_is_too_large {Ac : Cs} (T : Txt Ac K mg) (S_Network_forms_of : ZSp)
    (G_Network_forms_of : MtZ P w K mg base Ac.c_Network "forms_of" 1 S_Network_forms_of) (f : Addr) (cdv : Value) (A : Around) (outer : List Env) (s : Shared) (H : Hp) (E : XK) (hr : Room 1 (A.deeper (envOfC "Network._is_too_large" (defScope s_Network_is_too_large) s.heap.objs.size f cdv))) :
    PSs (cxOf CX0 P w K mg base N_Network_is_too_large "Network._is_too_large" (defScope s_Network_is_too_large) f cdv A outer s H E).nox (defBody s_Network_is_too_large) (t_Network_is_too_large K Ac S_Network_forms_of) :=
    (pss_cons (ps_set (i := 2) sc_Network_is_too_large.nd rfl (by first | exact Or.inl rfl | exact Or.inr rfl) (pe_callB cz_len (by rfl) T.n_len Z.boot_len (pa_cons (p_fld (pv 1)) pa_nil)))
    (pss_cons (ps_for PassesOwn.never rfl (pi_seqZ (p_fld (pv 1))) (pg_tup rfl (pgs_cons (pg_name (i := 3) sc_Network_is_too_large.nd rfl (by first | exact Or.inl rfl | exact Or.inr rfl)) (pgs_cons (pg_name (i := 4) sc_Network_is_too_large.nd rfl (by first | exact Or.inl rfl | exact Or.inr rfl)) pgs_nil))) (pss_one (ps_aug (i := 2) sc_Network_is_too_large.nd rfl (by first | exact Or.inl rfl | exact Or.inr rfl) (pe_callB cz_len (by rfl) T.n_len Z.boot_len (pa_cons (p_meth G_Network_forms_of hr (pv 0) (pa_cons (pv 3) pa_nil)) pa_nil)) ip_add)))
    (pss_one (ps_ret (pe_or (p_gt (p_fld (pv 1)) (p_ccon T.cc_Edge_MOST_UNKNOWNS)) (pe_one (p_gt (pv 2) (p_ccon T.cc_Edge_MOST_CONSTRAINTS))))))))
/-! Network.variables_of -/
abbrev s_Network_variables_of : Stmt := inClass (topS 10) 3
abbrev N_Network_variables_of : List Str := ["self", "place"]
theorem sc_Network_variables_of : FnScope N_Network_variables_of ["self", "place"] (defScope s_Network_variables_of) := ⟨rfl, rfl, rfl, by decide +kernel, rfl, by decide +kernel, by decide +kernel⟩
def t_Network_variables_of (K : Fg) (Ac : Cs) : TS :=
    (tRet (tUn (rFld K "variables") (tOp (rIxZ K) (tUn (rFld K "frames") (tVar 0)) (tOp (rIxZ K) (tOp (rIxZ K) (tUn (rFld K "places") (tVar 0)) (tVar 1)) (tC (.int 1))))))
theorem red_Network_variables_of {Ac : Cs} (T : Txt Ac K mg) (f : Addr) (cdv : Value) (A : Around) (outer : List Env) (s : Shared) (H : Hp) (E : XK) (hr : Room 0 (A.deeper (envOfC "Network.variables_of" (defScope s_Network_variables_of) s.heap.objs.size f cdv))) :
    PSs (cxOf CX0 P w K mg base N_Network_variables_of "Network.variables_of" (defScope s_Network_variables_of) f cdv A outer s H E).nox (defBody s_Network_variables_of) (t_Network_variables_of K Ac) :=
    (pss_one (ps_ret (p_fld (p_ix (p_fld (pv 0)) (p_ix (p_ix (p_fld (pv 0)) (pv 1)) pe_int)))))
/-! Network.forms_of -/
abbrev s_Network_forms_of : Stmt := inClass (topS 10) 4
abbrev N_Network_forms_of : List Str := ["self", "place"]
theorem sc_Network_forms_of : FnScope N_Network_forms_of ["self", "place"] (defScope s_Network_forms_of) := ⟨rfl, rfl, rfl, by decide +kernel, rfl, by decide +kernel, by decide +kernel⟩
def t_Network_forms_of (K : Fg) (Ac : Cs) : TS :=
    (tRet (tUn (rFld K "forms") (tOp (rIxZ K) (tUn (rFld K "frames") (tVar 0)) (tOp (rIxZ K) (tOp (rIxZ K) (tUn (rFld K "places") (tVar 0)) (tVar 1)) (tC (.int 1))))))
theorem red_Network_forms_of {Ac : Cs} (T : Txt Ac K mg) (f : Addr) (cdv : Value) (A : Around) (outer : List Env) (s : Shared) (H : Hp) (E : XK) (hr : Room 0 (A.deeper (envOfC "Network.forms_of" (defScope s_Network_forms_of) s.heap.objs.size f cdv))) :
    PSs (cxOf CX0 P w K mg base N_Network_forms_of "Network.forms_of" (defScope s_Network_forms_of) f cdv A outer s H E).nox (defBody s_Network_forms_of) (t_Network_forms_of K Ac) :=
    (pss_one (ps_ret (p_fld (p_ix (p_fld (pv 0)) (p_ix (p_ix (p_fld (pv 0)) (pv 1)) pe_int)))))
/-! Network.edges_into -/
abbrev s_Network_edges_into : Stmt := inClass (topS 10) 6
abbrev N_Network_edges_into : List Str := ["self", "place", "number", "edge"]
theorem sc_Network_edges_into : FnScope N_Network_edges_into ["self", "place"] (defScope s_Network_edges_into) := ⟨rfl, rfl, rfl, by decide +kernel, rfl, by decide +kernel, by decide +kernel⟩
def t_Network_edges_into (K : Fg) (Ac : Cs) : TS :=
    (tRet (tLc (iEnumZ K (tCons (tUn (rFld K "edges") (tVar 0)) tNil)) (gTup K 2 (gCons (gName 2) (gCons (gName 3) gNil))) (tTest (tOp (rEqZ K) (tUn (rFld K "target") (tVar 3)) (tVar 1))) (tVar 2) [2, 3]))
theorem red_Network_edges_into {Ac : Cs} (T : Txt Ac K mg) (f : Addr) (cdv : Value) (A : Around) (outer : List Env) (s : Shared) (H : Hp) (E : XK) (hr : Room 0 (A.deeper (envOfC "Network.edges_into" (defScope s_Network_edges_into) s.heap.objs.size f cdv))) :
    PSs (cxOf CX0 P w K mg base N_Network_edges_into "Network.edges_into" (defScope s_Network_edges_into) f cdv A outer s H E).nox (defBody s_Network_edges_into) (t_Network_edges_into K Ac) :=
    (pss_one (ps_ret (pe_lc (own := [("number", 2), ("edge", 3)]) rfl sc_Network_edges_into.nd (pi_enumZ (by rfl) T.n_enumerate (pa_cons (p_fld (pv 0)) pa_nil)) (blkOk_by (by kernel_rfl)) (fun _ _ _ _ _ => (pg_tup rfl (pgs_cons (pg_name (i := 2) sc_Network_edges_into.nd rfl (by first | exact Or.inl rfl | exact Or.inr rfl)) (pgs_cons (pg_name (i := 3) sc_Network_edges_into.nd rfl (by first | exact Or.inl rfl | exact Or.inr rfl)) pgs_nil)))) (fun _ _ _ _ _ => (pts_one (q_eq (Room.units hr) (p_fld (pv 3)) (pv 1)))) (fun _ _ _ _ _ => (pv 2)))))
/-! Network.hanging -/
abbrev s_Network_hanging : Stmt := inClass (topS 10) 7
abbrev N_Network_hanging : List Str := ["self", "places", "reached", "open_ends", "place", "hangs"]
theorem sc_Network_hanging : FnScope N_Network_hanging ["self", "places"] (defScope s_Network_hanging) := ⟨rfl, rfl, rfl, by decide +kernel, rfl, by decide +kernel, by decide +kernel⟩
def t_Network_hanging (K : Fg) (Ac : Cs) (S_Network_targets_from : ZSp) : TS :=
    (tSeq (tAsg (tOp rMulZ (tLst (tCons (tC (.bl false)) tNil)) (tCB (rLenZ K) (tCons (tUn (rFld K "places") (tVar 0)) tNil))) (gName 2))
    (tSeq (tAsg (tCB (rListZ K) (tCons (tVar 1) tNil)) (gName 3))
    (tSeq (tWhile (tTruZ K (tVar 3)) (tSeq (tAsg (tBM0 K "list" rPop (tVar 3)) (gName 4))
    (tIfS (tNot (tTruZ K (tOp (rIxZ K) (tVar 2) (tVar 4)))) (tSeq (tAsg (tC (.bl true)) (gSub (tVar 2) (tVar 4) rSetL))
    (tDrop (tBM K "list" (rExtZ K) (tVar 3) (tCons (tMth Ac.c_Network "_targets_from" (zcall K S_Network_targets_from) (tVar 0) (tCons (tVar 4) tNil)) tNil)))) tNext)))
    (tRet (tLc (iEnumZ K (tCons (tVar 2) tNil)) (gTup K 2 (gCons (gName 4) (gCons (gName 5) gNil))) (tTruZ K (tVar 5)) (tVar 4) [4, 5])))))
theorem red_Network_hanging {Ac : Cs} (T : Txt Ac K mg) (S_Network_targets_from : ZSp)
    (G_Network_targets_from : MtZ P w K mg base Ac.c_Network "_targets_from" 1 S_Network_targets_from) (f : Addr) (cdv : Value) (A : Around) (outer : List Env) (s : Shared) (H : Hp) (E : XK) (hr : Room 1 (A.deeper (envOfC "Network.hanging" (defScope s_Network_hanging) s.heap.objs.size f cdv))) :
    PSs (cxOf CX0 P w K mg base N_Network_hanging "Network.hanging" (defScope s_Network_hanging) f cdv A outer s H E).nox (defBody s_Network_hanging) (t_Network_hanging K Ac S_Network_targets_from) :=
    (pss_cons (ps_set (i := 2) sc_Network_hanging.nd rfl (by first | exact Or.inl rfl | exact Or.inr rfl) (p_mul (pe_lst (pa_cons pe_bl pa_nil)) (pe_callB cz_len (by rfl) T.n_len Z.boot_len (pa_cons (p_fld (pv 0)) pa_nil))))
    (pss_cons (ps_set (i := 3) sc_Network_hanging.nd rfl (by first | exact Or.inl rfl | exact Or.inr rfl) (pe_callTy cz_list (by rfl) T.n_list Z.boot_list (pa_cons (pv 1) pa_nil)))
    (pss_cons (ps_while PassesOwn.never (q_truth (pv 3)) (pss_cons (ps_set (i := 4) sc_Network_hanging.nd rfl (by first | exact Or.inl rfl | exact Or.inr rfl) (pe_bm0 PySem.F.plainAttrs_list PySem.F.slot_list_pop PySem.F.type_list_pop mt_pop (pv 3)))
    (pss_one (ps_if (pt_not (q_truth (p_ix (pv 2) (pv 4)))) (pss_cons (ps_asg pe_bl (pg_sub (pv 2) (pv 4) set_list))
    (pss_one (ps_expr (pe_bm PySem.F.plainAttrs_list PySem.F.slot_list_extend PySem.F.type_list_extend mt_extZ (pv 3) (pa_cons (p_meth G_Network_targets_from hr (pv 0) (pa_cons (pv 4) pa_nil)) pa_nil))))) pss_nil))))
    (pss_one (ps_ret (pe_lc (own := [("place", 4), ("hangs", 5)]) rfl sc_Network_hanging.nd (pi_enumZ (by rfl) T.n_enumerate (pa_cons (pv 2) pa_nil)) (blkOk_by (by kernel_rfl)) (fun _ _ _ _ _ => (pg_tup rfl (pgs_cons (pg_name (i := 4) sc_Network_hanging.nd rfl (by first | exact Or.inl rfl | exact Or.inr rfl)) (pgs_cons (pg_name (i := 5) sc_Network_hanging.nd rfl (by first | exact Or.inl rfl | exact Or.inr rfl)) pgs_nil)))) (fun _ _ _ _ _ => (pts_one (q_truth (pv 5)))) (fun _ _ _ _ _ => (pv 4))))))))
/-! Network._targets_from -/
abbrev s_Network_targets_from : Stmt := inClass (topS 10) 8
abbrev N_Network_targets_from : List Str := ["self", "place", "targets", "edge", "source", "_"]
theorem sc_Network_targets_from : FnScope N_Network_targets_from ["self", "place"] (defScope s_Network_targets_from) := ⟨rfl, rfl, rfl, by decide +kernel, rfl, by decide +kernel, by decide +kernel⟩
def t_Network_targets_from (K : Fg) (Ac : Cs) : TS :=
    (tSeq (tAsg (tLst tNil) (gName 2))
    (tSeq (tFor (iSeqZ K (tUn (rFld K "edges") (tVar 0))) (gName 3) (tIfS (tTest (tOp (rInY K false) (tVar 1) (tLc (iSeqZ K (tUn (rFld K "sources") (tVar 3))) (gTup K 2 (gCons (gName 4) (gCons (gName 5) gNil))) tYes (tVar 4) [4, 5]))) (tDrop (tBM K "list" rAppend (tVar 2) (tCons (tUn (rFld K "target") (tVar 3)) tNil))) tNext))
    (tRet (tVar 2))))
theorem red_Network_targets_from {Ac : Cs} (T : Txt Ac K mg) (f : Addr) (cdv : Value) (A : Around) (outer : List Env) (s : Shared) (H : Hp) (E : XK) (hr : Room 0 (A.deeper (envOfC "Network._targets_from" (defScope s_Network_targets_from) s.heap.objs.size f cdv))) :
    PSs (cxOf CX0 P w K mg base N_Network_targets_from "Network._targets_from" (defScope s_Network_targets_from) f cdv A outer s H E).nox (defBody s_Network_targets_from) (t_Network_targets_from K Ac) :=
    (pss_cons (ps_set (i := 2) sc_Network_targets_from.nd rfl (by first | exact Or.inl rfl | exact Or.inr rfl) (pe_lst pa_nil))
    (pss_cons (ps_for PassesOwn.never rfl (pi_seqZ (p_fld (pv 0))) (pg_name (i := 3) sc_Network_targets_from.nd rfl (by first | exact Or.inl rfl | exact Or.inr rfl)) (pss_one (ps_if (q_inY (pv 1) (pe_lc (own := [("source", 4), ("_", 5)]) rfl sc_Network_targets_from.nd (pi_seqZ (p_fld (pv 3))) (blkOk_by (by kernel_rfl)) (fun _ _ _ _ _ => (pg_tup rfl (pgs_cons (pg_name (i := 4) sc_Network_targets_from.nd rfl (by first | exact Or.inl rfl | exact Or.inr rfl)) (pgs_cons (pg_name (i := 5) sc_Network_targets_from.nd rfl (by first | exact Or.inl rfl | exact Or.inr rfl)) pgs_nil)))) (fun _ _ _ _ _ => pts_nil) (fun _ _ _ _ _ => (pv 4)))) (pss_one (ps_expr (pe_bm PySem.F.plainAttrs_list PySem.F.slot_list_append PySem.F.type_list_append mt_append (pv 2) (pa_cons (p_fld (pv 3)) pa_nil)))) pss_nil)))
    (pss_one (ps_ret (pv 2)))))
/-! Network.with_edge -/
abbrev s_Network_with_edge : Stmt := inClass (topS 10) 9
abbrev N_Network_with_edge : List Str := ["self", "number", "edge", "edges"]
theorem sc_Network_with_edge : FnScope N_Network_with_edge ["self", "number", "edge"] (defScope s_Network_with_edge) := ⟨rfl, rfl, rfl, by decide +kernel, rfl, by decide +kernel, by decide +kernel⟩
def t_Network_with_edge (K : Fg) (Ac : Cs) (S_Network_init : ZSp) : TS :=
    (tSeq (tIfS (tNot (tTest (tChain rLeZ rLtZ (tC (.int 0)) (tVar 1) (tCB (rLenZ K) (tCons (tUn (rFld K "edges") (tVar 0)) tNil))))) tNever tNext)
    (tSeq (tAsg (tOp (rAddZ K) (tOp (rAddZ K) (tSl (rSlZ K) (tUn (rFld K "edges") (tVar 0)) tNoPart (tPart (tVar 1))) (tTup (tCons (tVar 2) tNil))) (tSl (rSlZ K) (tUn (rFld K "edges") (tVar 0)) (tPart (tOp (rAddZ K) (tVar 1) (tC (.int 1)))) tNoPart)) (gName 3))
    (tRet (tCB (rMk K Ac.c_Network S_Network_init) (tCons (tUn (rFld K "frames") (tVar 0)) (tCons (tUn (rFld K "places") (tVar 0)) (tCons (tVar 3) tNil)))))))
theorem red_Network_with_edge {Ac : Cs} (T : Txt Ac K mg) (S_Network_init : ZSp)
    (G_Network_init : MkZ P w K mg base "Network" Ac.c_Network 3 S_Network_init) (f : Addr) (cdv : Value) (A : Around) (outer : List Env) (s : Shared) (H : Hp) (E : XK) (hr : Room 4 (A.deeper (envOfC "Network.with_edge" (defScope s_Network_with_edge) s.heap.objs.size f cdv))) :
    PSs (cxOf CX0 P w K mg base N_Network_with_edge "Network.with_edge" (defScope s_Network_with_edge) f cdv A outer s H E).nox (defBody s_Network_with_edge) (t_Network_with_edge K Ac S_Network_init) :=
    (pss_cons (ps_if (pt_not (pt_chain op_le op_lt pe_int (pv 1) (pe_callB cz_len (by rfl) T.n_len Z.boot_len (pa_cons (p_fld (pv 0)) pa_nil)))) (pss_one ps_never) pss_nil)
    (pss_cons (ps_set (i := 3) sc_Network_with_edge.nd rfl (by first | exact Or.inl rfl | exact Or.inr rfl) (p_add (p_add (p_sl (p_fld (pv 0)) po_none (po_some (pv 1))) (pe_tup (pa_cons (pv 2) pa_nil))) (p_sl (p_fld (pv 0)) (po_some (p_add (pv 1) pe_int)) po_none)))
    (pss_one (ps_ret (p_make G_Network_init hr (pa_cons (p_fld (pv 0)) (pa_cons (p_fld (pv 0)) (pa_cons (pv 3) pa_nil))))))))
/-! Network.plus_edge -/
abbrev s_Network_plus_edge : Stmt := inClass (topS 10) 10
abbrev N_Network_plus_edge : List Str := ["self", "edge"]
theorem sc_Network_plus_edge : FnScope N_Network_plus_edge ["self", "edge"] (defScope s_Network_plus_edge) := ⟨rfl, rfl, rfl, by decide +kernel, rfl, by decide +kernel, by decide +kernel⟩
def t_Network_plus_edge (K : Fg) (Ac : Cs) (S_Network_init : ZSp) : TS :=
    (tRet (tCB (rMk K Ac.c_Network S_Network_init) (tCons (tUn (rFld K "frames") (tVar 0)) (tCons (tUn (rFld K "places") (tVar 0)) (tCons (tOp (rAddZ K) (tUn (rFld K "edges") (tVar 0)) (tTup (tCons (tVar 1) tNil))) tNil)))))
theorem red_Network_plus_edge {Ac : Cs} (T : Txt Ac K mg) (S_Network_init : ZSp)
    (G_Network_init : MkZ P w K mg base "Network" Ac.c_Network 3 S_Network_init) (f : Addr) (cdv : Value) (A : Around) (outer : List Env) (s : Shared) (H : Hp) (E : XK) (hr : Room 4 (A.deeper (envOfC "Network.plus_edge" (defScope s_Network_plus_edge) s.heap.objs.size f cdv))) :
    PSs (cxOf CX0 P w K mg base N_Network_plus_edge "Network.plus_edge" (defScope s_Network_plus_edge) f cdv A outer s H E).nox (defBody s_Network_plus_edge) (t_Network_plus_edge K Ac S_Network_init) :=
    (pss_one (ps_ret (p_make G_Network_init hr (pa_cons (p_fld (pv 0)) (pa_cons (p_fld (pv 0)) (pa_cons (p_add (p_fld (pv 0)) (pe_tup (pa_cons (pv 1) pa_nil))) pa_nil))))))
/-! _law_purse -/
abbrev s_law_purse : Stmt := topS 12
abbrev N_law_purse : List Str := ["_law_script", "_law_cell"]
theorem sc_law_purse : FnScope N_law_purse ["_law_script"] (defScope s_law_purse) := ⟨rfl, rfl, rfl, by decide +kernel, rfl, by decide +kernel, by decide +kernel⟩
def t_law_purse (K : Fg) (Ac : Cs) : TS :=
    (tRet (tOp (rAddZ K) (tLst (tCons (tC (.int 0)) (tCons (tOp (rAddZ K) (tC (.int 1)) (tCB (rLenZ K) (tCons (tSl (rSlZ K) (tVar 0) tNoPart (tPart (tC (.int 63)))) tNil))) (tCons (tC (.int 0)) tNil)))) (tLc (iSeqZ K (tSl (rSlZ K) (tVar 0) tNoPart (tPart (tC (.int 63))))) (gName 1) tYes (tCB (rAbsZ) (tCons (tCB (rIntZ) (tCons (tVar 1) tNil)) tNil)) [1])))
theorem red_law_purse {Ac : Cs} (T : Txt Ac K mg) (f : Addr) (cdv : Value) (A : Around) (outer : List Env) (s : Shared) (H : Hp) (E : XK) (hr : Room 0 (A.deeper (envOfC "_law_purse" (defScope s_law_purse) s.heap.objs.size f cdv))) :
    PSs (cxOf CX0 P w K mg base N_law_purse "_law_purse" (defScope s_law_purse) f cdv A outer s H E).nox (defBody s_law_purse) (t_law_purse K Ac) :=
    (pss_one (ps_ret (p_add (pe_lst (pa_cons pe_int (pa_cons (p_add pe_int (pe_callB cz_len (by rfl) T.n_len Z.boot_len (pa_cons (p_sl (pv 0) po_none (po_some pe_int)) pa_nil))) (pa_cons pe_int pa_nil)))) (pe_lc (own := [("_law_cell", 1)]) rfl sc_law_purse.nd (pi_seqZ (p_sl (pv 0) po_none (po_some pe_int))) (blkOk_by (by kernel_rfl)) (fun _ _ _ _ _ => (pg_name (i := 1) sc_law_purse.nd rfl (by first | exact Or.inl rfl | exact Or.inr rfl))) (fun _ _ _ _ _ => pts_nil) (fun _ _ _ _ _ => (pe_callB cz_abs (by rfl) T.n_abs Z.boot_abs (pa_cons (pe_callTy cz_int (by rfl) T.n_int Z.boot_int (pa_cons (pv 1) pa_nil)) pa_nil)))))))
/-! _law_draw -/
abbrev s_law_draw : Stmt := topS 13
abbrev N_law_draw : List Str := ["_law_purse_here", "_law_size", "_law_cell", "_law_digit", "_law_mixed"]
theorem sc_law_draw : FnScope N_law_draw ["_law_purse_here", "_law_size"] (defScope s_law_draw) := ⟨rfl, rfl, rfl, by decide +kernel, rfl, by decide +kernel, by decide +kernel⟩
def t_law_draw (K : Fg) (Ac : Cs) : TS :=
    (tSeq (tIfS (tAnd (tTest (tOp (rEqZ K) (tOp (rIxZ K) (tVar 0) (tC (.int 0))) (tC (.int 0)))) (tTest (tOp rGtZ (tCB (rLenZ K) (tCons (tVar 0) tNil)) (tC (.int 3))))) (tSeq (tAsg (tBM K "list" rPopAt (tVar 0) (tCons (tC (.int 3)) tNil)) (gName 2))
    (tIfS (tTest (tOp rGeZ (tVar 2) (tOp rPowZ (tC (.int 10)) (tC (.int 18))))) (tAsg (tVar 2) (gSub (tVar 0) (tC (.int 0)) rSetL)) (tAsg (tOp rModZ (tCB (rIntZ) (tCons (tOp (rAddZ K) (tOp (rAddZ K) (tOp rMulZ (tOp (rIxZ K) (tVar 0) (tC (.int 1))) (tC (.int 40014))) (tOp rMulZ (tVar 2) (tC (.int 48271)))) (tC (.int 7))) tNil)) (tC (.int 2147483563))) (gSub (tVar 0) (tC (.int 1)) rSetL)))) tNext)
    (tSeq (tAsg (tOp (rAddZ K) (tOp (rIxZ K) (tVar 0) (tC (.int 2))) (tC (.int 1))) (gSub (tVar 0) (tC (.int 2)) rSetL))
    (tSeq (tIfS (tTest (tOp rGtZ (tOp (rIxZ K) (tVar 0) (tC (.int 0))) (tC (.int 0)))) (tSeq (tAsg (tOp rModZ (tCB (rIntZ) (tCons (tOp (rIxZ K) (tVar 0) (tC (.int 0))) tNil)) (tVar 1)) (gName 3))
    (tSeq (tAsg (tOp rDivZ (tOp (rIxZ K) (tVar 0) (tC (.int 0))) (tVar 1)) (gSub (tVar 0) (tC (.int 0)) rSetL))
    (tRet (tVar 3)))) tNext)
    (tSeq (tAsg (tOp rModZ (tCB (rIntZ) (tCons (tOp (rAddZ K) (tOp rMulZ (tOp (rIxZ K) (tVar 0) (tC (.int 1))) (tC (.int 48271))) (tOp rMulZ (tOp (rIxZ K) (tVar 0) (tC (.int 2))) (tC (.int 69621)))) tNil)) (tC (.int 2147483647))) (gName 4))
    (tSeq (tAsg (tOp rModZ (tCB (rIntZ) (tCons (tOp (rAddZ K) (tOp (rAddZ K) (tOp rMulZ (tVar 4) (tVar 4)) (tOp rMulZ (tOp (rIxZ K) (tVar 0) (tC (.int 1))) (tC (.int 16807)))) (tOp rMulZ (tOp (rIxZ K) (tVar 0) (tC (.int 2))) (tC (.int 40692)))) tNil)) (tC (.int 2147483399))) (gName 4))
    (tRet (tOp rModZ (tOp rDivZ (tVar 4) (tC (.int 11))) (tVar 1))))))))
theorem red_law_draw {Ac : Cs} (T : Txt Ac K mg) (f : Addr) (cdv : Value) (A : Around) (outer : List Env) (s : Shared) (H : Hp) (E : XK) (hr : Room 0 (A.deeper (envOfC "_law_draw" (defScope s_law_draw) s.heap.objs.size f cdv))) :
    PSs (cxOf CX0 P w K mg base N_law_draw "_law_draw" (defScope s_law_draw) f cdv A outer s H E).nox (defBody s_law_draw) (t_law_draw K Ac) :=
    (pss_cons (ps_if (PW.pt (pw_and (q_eq (Room.units hr) (p_ix (pv 0) pe_int) pe_int) (pw_and1 (q_gt (pe_callB cz_len (by rfl) T.n_len Z.boot_len (pa_cons (pv 0) pa_nil)) pe_int)))) (pss_cons (ps_set (i := 2) sc_law_draw.nd rfl (by first | exact Or.inl rfl | exact Or.inr rfl) (pe_bm PySem.F.plainAttrs_list PySem.F.slot_list_pop PySem.F.type_list_pop mt_popAt (pv 0) (pa_cons pe_int pa_nil)))
    (pss_one (ps_if (q_ge (pv 2) (p_pow pe_int pe_int)) (pss_one (ps_asg (pv 2) (pg_sub (pv 0) pe_int set_list))) (pss_one (ps_asg (p_mod (pe_callTy cz_int (by rfl) T.n_int Z.boot_int (pa_cons (p_add (p_add (p_mul (p_ix (pv 0) pe_int) pe_int) (p_mul (pv 2) pe_int)) pe_int) pa_nil)) pe_int) (pg_sub (pv 0) pe_int set_list)))))) pss_nil)
    (pss_cons (ps_asg (p_add (p_ix (pv 0) pe_int) pe_int) (pg_sub (pv 0) pe_int set_list))
    (pss_cons (ps_if (q_gt (p_ix (pv 0) pe_int) pe_int) (pss_cons (ps_set (i := 3) sc_law_draw.nd rfl (by first | exact Or.inl rfl | exact Or.inr rfl) (p_mod (pe_callTy cz_int (by rfl) T.n_int Z.boot_int (pa_cons (p_ix (pv 0) pe_int) pa_nil)) (pv 1)))
    (pss_cons (ps_asg (p_fdiv (p_ix (pv 0) pe_int) (pv 1)) (pg_sub (pv 0) pe_int set_list))
    (pss_one (ps_ret (pv 3))))) pss_nil)
    (pss_cons (ps_set (i := 4) sc_law_draw.nd rfl (by first | exact Or.inl rfl | exact Or.inr rfl) (p_mod (pe_callTy cz_int (by rfl) T.n_int Z.boot_int (pa_cons (p_add (p_mul (p_ix (pv 0) pe_int) pe_int) (p_mul (p_ix (pv 0) pe_int) pe_int)) pa_nil)) pe_int))
    (pss_cons (ps_set (i := 4) sc_law_draw.nd rfl (by first | exact Or.inl rfl | exact Or.inr rfl) (p_mod (pe_callTy cz_int (by rfl) T.n_int Z.boot_int (pa_cons (p_add (p_add (p_mul (pv 4) (pv 4)) (p_mul (p_ix (pv 0) pe_int) pe_int)) (p_mul (p_ix (pv 0) pe_int) pe_int)) pa_nil)) pe_int))
    (pss_one (ps_ret (p_mod (p_fdiv (pv 4) pe_int) (pv 1)))))))))
/-! _law_same -/
abbrev s_law_same : Stmt := topS 14
abbrev N_law_same : List Str := ["_law_told", "_law_due", "_law_k"]
theorem sc_law_same : FnScope N_law_same ["_law_told", "_law_due"] (defScope s_law_same) := ⟨rfl, rfl, rfl, by decide +kernel, rfl, by decide +kernel, by decide +kernel⟩
def t_law_same (K : Fg) (Ac : Cs) (S_law_same : ZSp) : TS :=
    (tSeq (tIfS (tOr (tTruZ K (tCB (rIsiZ K) (tCons (tVar 1) (tCons (tC (.ty "tuple")) tNil)))) (tTruZ K (tCB (rIsiZ K) (tCons (tVar 1) (tCons (tC (.ty "list")) tNil))))) (tSeq (tIfS (tAnd (tTruZ K (tCB (rIsiZ K) (tCons (tVar 1) (tCons (tC (.ty "tuple")) tNil)))) (tNot (tTruZ K (tCB (rIsiZ K) (tCons (tVar 0) (tCons (tC (.ty "tuple")) tNil)))))) (tRet (tC (.bl false))) tNext)
    (tSeq (tIfS (tAnd (tTruZ K (tCB (rIsiZ K) (tCons (tVar 1) (tCons (tC (.ty "list")) tNil)))) (tNot (tTruZ K (tCB (rIsiZ K) (tCons (tVar 0) (tCons (tC (.ty "list")) tNil)))))) (tRet (tC (.bl false))) tNext)
    (tSeq (tIfS (tTest (tOp (rNeZ K) (tCB (rLenZ K) (tCons (tVar 0) tNil)) (tCB (rLenZ K) (tCons (tVar 1) tNil)))) (tRet (tC (.bl false))) tNext)
    (tRet (tCB (rAllZ K) (tCons (tLc (iRng1 (tCons (tCB (rLenZ K) (tCons (tVar 1) tNil)) tNil)) (gName 2) tYes (tCB (zcall K S_law_same) (tCons (tOp (rIxZ K) (tVar 0) (tVar 2)) (tCons (tOp (rIxZ K) (tVar 1) (tVar 2)) tNil))) [2]) tNil)))))) tNext)
    (tSeq (tIfS (tTruZ K (tCB (rIsiZ K) (tCons (tVar 1) (tCons (tC (.ty "str")) tNil)))) (tRet (tAndV (tCB (rIsiZ K) (tCons (tVar 0) (tCons (tC (.ty "str")) tNil))) (tOp (rEqZ K) (tVar 0) (tVar 1)))) tNext)
    (tRet (tAndV (tCB (rIsiZ K) (tCons (tVar 0) (tCons (tC (.ty "int")) tNil))) (tAndV (tNotV (tCB (rIsiZ K) (tCons (tVar 0) (tCons (tC (.ty "bool")) tNil)))) (tOp (rEqZ K) (tVar 0) (tVar 1)))))))
theorem red_law_same {Ac : Cs} (T : Txt Ac K mg) (n_ : Nat) (S_law_same : ZSp)
    (G_law_same : FnZ P w K mg base "_law_same" (1 + n_) S_law_same) (f : Addr) (cdv : Value) (A : Around) (outer : List Env) (s : Shared) (H : Hp) (E : XK) (hr : Room (1 + n_) (A.deeper (envOfC "_law_same" (defScope s_law_same) s.heap.objs.size f cdv))) :
    PSs (cxOf CX0 P w K mg base N_law_same "_law_same" (defScope s_law_same) f cdv A outer s H E).nox (defBody s_law_same) (t_law_same K Ac S_law_same) :=
    (pss_cons (ps_if (PW.pt (pw_or (q_truth (pe_callB cz_isi (by rfl) T.n_isinstance Z.boot_isinstance (pa_cons (pv 1) (pa_cons (pe_bltn (by rfl) T.n_tuple Z.boot_tuple rfl) pa_nil)))) (pw_or1 (q_truth (pe_callB cz_isi (by rfl) T.n_isinstance Z.boot_isinstance (pa_cons (pv 1) (pa_cons (pe_bltn (by rfl) T.n_list Z.boot_list rfl) pa_nil))))))) (pss_cons (ps_if (PW.pt (pw_and (q_truth (pe_callB cz_isi (by rfl) T.n_isinstance Z.boot_isinstance (pa_cons (pv 1) (pa_cons (pe_bltn (by rfl) T.n_tuple Z.boot_tuple rfl) pa_nil)))) (pw_and1 (pt_not (q_truth (pe_callB cz_isi (by rfl) T.n_isinstance Z.boot_isinstance (pa_cons (pv 0) (pa_cons (pe_bltn (by rfl) T.n_tuple Z.boot_tuple rfl) pa_nil)))))))) (pss_one (ps_ret pe_bl)) pss_nil)
    (pss_cons (ps_if (PW.pt (pw_and (q_truth (pe_callB cz_isi (by rfl) T.n_isinstance Z.boot_isinstance (pa_cons (pv 1) (pa_cons (pe_bltn (by rfl) T.n_list Z.boot_list rfl) pa_nil)))) (pw_and1 (pt_not (q_truth (pe_callB cz_isi (by rfl) T.n_isinstance Z.boot_isinstance (pa_cons (pv 0) (pa_cons (pe_bltn (by rfl) T.n_list Z.boot_list rfl) pa_nil)))))))) (pss_one (ps_ret pe_bl)) pss_nil)
    (pss_cons (ps_if (q_ne (Room.units hr) (pe_callB cz_len (by rfl) T.n_len Z.boot_len (pa_cons (pv 0) pa_nil)) (pe_callB cz_len (by rfl) T.n_len Z.boot_len (pa_cons (pv 1) pa_nil))) (pss_one (ps_ret pe_bl)) pss_nil)
    (pss_one (ps_ret (pe_callB (cz_all rfl) (by rfl) T.n_all Z.boot_all (pa_cons (pe_lc (own := [("_law_k", 2)]) rfl sc_law_same.nd (pi_range1 (by rfl) T.n_range (pa_cons (pe_callB cz_len (by rfl) T.n_len Z.boot_len (pa_cons (pv 1) pa_nil)) pa_nil)) (blkOk_by (by kernel_rfl)) (fun _ _ _ _ _ => (pg_name (i := 2) sc_law_same.nd rfl (by first | exact Or.inl rfl | exact Or.inr rfl))) (fun _ _ _ _ _ => pts_nil) (fun _ _ _ _ _ => (p_call G_law_same hr (pa_cons (p_ix (pv 0) (pv 2)) (pa_cons (p_ix (pv 1) (pv 2)) pa_nil)) (by omega)))) pa_nil))))))) pss_nil)
    (pss_cons (ps_if (q_truth (pe_callB cz_isi (by rfl) T.n_isinstance Z.boot_isinstance (pa_cons (pv 1) (pa_cons (pe_bltn (by rfl) T.n_str Z.boot_str rfl) pa_nil)))) (pss_one (ps_ret (pe_and (pe_callB cz_isi (by rfl) T.n_isinstance Z.boot_isinstance (pa_cons (pv 0) (pa_cons (pe_bltn (by rfl) T.n_str Z.boot_str rfl) pa_nil))) (pe_one (p_eq (Room.units hr) (pv 0) (pv 1)))))) pss_nil)
    (pss_one (ps_ret (pe_and (pe_callB cz_isi (by rfl) T.n_isinstance Z.boot_isinstance (pa_cons (pv 0) (pa_cons (pe_bltn (by rfl) T.n_int Z.boot_int rfl) pa_nil))) (pe_and (pe_not (pe_callB cz_isi (by rfl) T.n_isinstance Z.boot_isinstance (pa_cons (pv 0) (pa_cons (pe_bltn (by rfl) T.n_bool Z.boot_bool rfl) pa_nil)))) (pe_one (p_eq (Room.units hr) (pv 0) (pv 1)))))))))
/-! _law_order -/
abbrev s_law_order : Stmt := topS 15
abbrev N_law_order : List Str := ["_law_purse_here", "_law_count", "_law_order_here", "_law_rest", "_law_k"]
theorem sc_law_order : FnScope N_law_order ["_law_purse_here", "_law_count"] (defScope s_law_order) := ⟨rfl, rfl, rfl, by decide +kernel, rfl, by decide +kernel, by decide +kernel⟩
def t_law_order (K : Fg) (Ac : Cs) (S_law_draw : ZSp) : TS :=
    (tSeq (tAsg (tLst tNil) (gName 2))
    (tSeq (tAsg (tLstRg (tRg1 (tVar 1))) (gName 3))
    (tSeq (tFor (iRng1 (tCons (tVar 1) tNil)) (gName 4) (tDrop (tBM K "list" rAppend (tVar 2) (tCons (tBM K "list" rPopAt (tVar 3) (tCons (tCB (zcall K S_law_draw) (tCons (tVar 0) (tCons (tCB (rLenZ K) (tCons (tVar 3) tNil)) tNil))) tNil)) tNil))))
    (tRet (tVar 2)))))
theorem red_law_order {Ac : Cs} (T : Txt Ac K mg) (S_law_draw : ZSp)
    (G_law_draw : FnZ P w K mg base "_law_draw" 1 S_law_draw) (f : Addr) (cdv : Value) (A : Around) (outer : List Env) (s : Shared) (H : Hp) (E : XK) (hr : Room 1 (A.deeper (envOfC "_law_order" (defScope s_law_order) s.heap.objs.size f cdv))) :
    PSs (cxOf CX0 P w K mg base N_law_order "_law_order" (defScope s_law_order) f cdv A outer s H E).nox (defBody s_law_order) (t_law_order K Ac S_law_draw) :=
    (pss_cons (ps_set (i := 2) sc_law_order.nd rfl (by first | exact Or.inl rfl | exact Or.inr rfl) (pe_lst pa_nil))
    (pss_cons (ps_set (i := 3) sc_law_order.nd rfl (by first | exact Or.inl rfl | exact Or.inr rfl) (pe_listRg rfl (by rfl) T.n_list (prg_1 (by rfl) T.n_range (pv 1))))
    (pss_cons (ps_for PassesOwn.never rfl (pi_range1 (by rfl) T.n_range (pa_cons (pv 1) pa_nil)) (pg_name (i := 4) sc_law_order.nd rfl (by first | exact Or.inl rfl | exact Or.inr rfl)) (pss_one (ps_expr (pe_bm PySem.F.plainAttrs_list PySem.F.slot_list_append PySem.F.type_list_append mt_append (pv 2) (pa_cons (pe_bm PySem.F.plainAttrs_list PySem.F.slot_list_pop PySem.F.type_list_pop mt_popAt (pv 3) (pa_cons (p_call G_law_draw hr (pa_cons (pv 0) (pa_cons (pe_callB cz_len (by rfl) T.n_len Z.boot_len (pa_cons (pv 3) pa_nil)) pa_nil))) pa_nil)) pa_nil)))))
    (pss_one (ps_ret (pv 2))))))
/-! _law_row -/
abbrev s_law_row : Stmt := topS 16
abbrev N_law_row : List Str := ["_law_purse_here", "_law_many", "_law_k"]
theorem sc_law_row : FnScope N_law_row ["_law_purse_here", "_law_many"] (defScope s_law_row) := ⟨rfl, rfl, rfl, by decide +kernel, rfl, by decide +kernel, by decide +kernel⟩
def t_law_row (K : Fg) (Ac : Cs) (S_law_draw : ZSp) : TS :=
    (tRet (tCB (rTupZ K) (tCons (tLc (iRng1 (tCons (tOp (rAddZ K) (tVar 1) (tC (.int 1))) tNil)) (gName 2) tYes (tOp rSubZ (tCB (zcall K S_law_draw) (tCons (tVar 0) (tCons (tC (.int 7)) tNil))) (tC (.int 3))) [2]) tNil)))
theorem red_law_row {Ac : Cs} (T : Txt Ac K mg) (S_law_draw : ZSp)
    (G_law_draw : FnZ P w K mg base "_law_draw" 1 S_law_draw) (f : Addr) (cdv : Value) (A : Around) (outer : List Env) (s : Shared) (H : Hp) (E : XK) (hr : Room 1 (A.deeper (envOfC "_law_row" (defScope s_law_row) s.heap.objs.size f cdv))) :
    PSs (cxOf CX0 P w K mg base N_law_row "_law_row" (defScope s_law_row) f cdv A outer s H E).nox (defBody s_law_row) (t_law_row K Ac S_law_draw) :=
    (pss_one (ps_ret (pe_callTy cz_tuple (by rfl) T.n_tuple Z.boot_tuple (pa_cons (pe_lc (own := [("_law_k", 2)]) rfl sc_law_row.nd (pi_range1 (by rfl) T.n_range (pa_cons (p_add (pv 1) pe_int) pa_nil)) (blkOk_by (by kernel_rfl)) (fun _ _ _ _ _ => (pg_name (i := 2) sc_law_row.nd rfl (by first | exact Or.inl rfl | exact Or.inr rfl))) (fun _ _ _ _ _ => pts_nil) (fun _ _ _ _ _ => (p_sub (p_call G_law_draw hr (pa_cons (pv 0) (pa_cons pe_int pa_nil))) pe_int))) pa_nil))))
/-! _law_arc -/
abbrev s_law_arc : Stmt := topS 17
abbrev N_law_arc : List Str := ["_law_purse_here", "_law_origins", "_law_aim", "_law_many", "_law_pairs", "_law_origin"]
theorem sc_law_arc : FnScope N_law_arc ["_law_purse_here", "_law_origins", "_law_aim"] (defScope s_law_arc) := ⟨rfl, rfl, rfl, by decide +kernel, rfl, by decide +kernel, by decide +kernel⟩
def t_law_arc (K : Fg) (Ac : Cs) (S_law_draw : ZSp) (S_law_row : ZSp) (S_Edge_init : ZSp) : TS :=
    (tSeq (tAsg (tCB (zcall K S_law_draw) (tCons (tVar 0) (tCons (tC (.int 3)) tNil))) (gName 3))
    (tSeq (tAsg (tLc (iSeqZ K (tVar 1)) (gName 5) tYes (tTup (tCons (tVar 5) (tCons (tTup (tCons (tCB (zcall K S_law_row) (tCons (tVar 0) (tCons (tVar 3) tNil))) tNil)) tNil))) [5]) (gName 4))
    (tRet (tMkK 2 (["sources", "effect"] : List Str).length (rMk K Ac.c_Edge S_Edge_init) (fun vs zs => vs ++ ((zs.drop 0).take 1 ++ ([Ac.d_Edge_init_guards] ++ ((zs.drop 1).take 1 ++ ([(V.str "plain")] ++ []))))) (tCons (tVar 2) (tCons (tVar 3) tNil)) (tCons (tCB (rTupZ K) (tCons (tVar 4) tNil)) (tCons (tTup (tCons (tCB (zcall K S_law_row) (tCons (tVar 0) (tCons (tVar 3) tNil))) tNil)) tNil))))))
theorem red_law_arc {Ac : Cs} (T : Txt Ac K mg) (S_law_draw : ZSp) (S_law_row : ZSp) (S_Edge_init : ZSp)
    (G_law_draw : FnZ P w K mg base "_law_draw" 1 S_law_draw)
    (G_law_row : FnZ P w K mg base "_law_row" 2 S_law_row)
    (G_Edge_init_2_sources_effect : MkKZ P w K mg base "Edge" Ac.c_Edge 1 2 ["sources", "effect"] (fun vs zs => vs ++ ((zs.drop 0).take 1 ++ ([Ac.d_Edge_init_guards] ++ ((zs.drop 1).take 1 ++ ([(V.str "plain")] ++ []))))) S_Edge_init) (f : Addr) (cdv : Value) (A : Around) (outer : List Env) (s : Shared) (H : Hp) (E : XK) (hr : Room 2 (A.deeper (envOfC "_law_arc" (defScope s_law_arc) s.heap.objs.size f cdv))) :
    PSs (cxOf CX0 P w K mg base N_law_arc "_law_arc" (defScope s_law_arc) f cdv A outer s H E).nox (defBody s_law_arc) (t_law_arc K Ac S_law_draw S_law_row S_Edge_init) :=
    (pss_cons (ps_set (i := 3) sc_law_arc.nd rfl (by first | exact Or.inl rfl | exact Or.inr rfl) (p_call G_law_draw hr (pa_cons (pv 0) (pa_cons pe_int pa_nil))))
    (pss_cons (ps_setLc (i := 4) (own := [("_law_origin", 5)]) rfl sc_law_arc.nd rfl (by rfl) (sw_true rfl rfl rfl (by decide +kernel)) (pi_seqZ (pv 1)) (blkOk_by (by kernel_rfl)) (fun _ _ _ _ _ => (pg_name (i := 5) sc_law_arc.nd rfl (by first | exact Or.inl rfl | exact Or.inr rfl))) (fun _ _ _ _ _ => pts_nil) (fun _ _ _ _ _ => (pe_tup (pa_cons (pv 5) (pa_cons (pe_tup (pa_cons (p_call G_law_row hr (pa_cons (pv 0) (pa_cons (pv 3) pa_nil))) pa_nil)) pa_nil)))))
    (pss_one (ps_ret (p_makeK G_Edge_init_2_sources_effect hr (pa_cons (pv 2) (pa_cons (pv 3) pa_nil)) (pk_cons (pe_callTy cz_tuple (by rfl) T.n_tuple Z.boot_tuple (pa_cons (pv 4) pa_nil)) (pk_cons (pe_tup (pa_cons (p_call G_law_row hr (pa_cons (pv 0) (pa_cons (pv 3) pa_nil))) pa_nil)) pk_nil)))))))
/-! _law_drawn -/
abbrev s_law_drawn : Stmt := topS 18
abbrev N_law_drawn : List Str := ["_law_purse_here", "_law_count", "_law_origins", "_law_k"]
theorem sc_law_drawn : FnScope N_law_drawn ["_law_purse_here", "_law_count"] (defScope s_law_drawn) := ⟨rfl, rfl, rfl, by decide +kernel, rfl, by decide +kernel, by decide +kernel⟩
def t_law_drawn (K : Fg) (Ac : Cs) (S_law_draw : ZSp) : TS :=
    (tSeq (tAsg (tLst tNil) (gName 2))
    (tSeq (tFor (iRng1 (tCons (tCB (zcall K S_law_draw) (tCons (tVar 0) (tCons (tC (.int 3)) tNil))) tNil)) (gName 3) (tDrop (tBM K "list" rAppend (tVar 2) (tCons (tCB (zcall K S_law_draw) (tCons (tVar 0) (tCons (tVar 1) tNil))) tNil))))
    (tRet (tTup (tCons (tVar 2) (tCons (tCB (zcall K S_law_draw) (tCons (tVar 0) (tCons (tVar 1) tNil))) tNil))))))
theorem red_law_drawn {Ac : Cs} (T : Txt Ac K mg) (S_law_draw : ZSp)
    (G_law_draw : FnZ P w K mg base "_law_draw" 1 S_law_draw) (f : Addr) (cdv : Value) (A : Around) (outer : List Env) (s : Shared) (H : Hp) (E : XK) (hr : Room 1 (A.deeper (envOfC "_law_drawn" (defScope s_law_drawn) s.heap.objs.size f cdv))) :
    PSs (cxOf CX0 P w K mg base N_law_drawn "_law_drawn" (defScope s_law_drawn) f cdv A outer s H E).nox (defBody s_law_drawn) (t_law_drawn K Ac S_law_draw) :=
    (pss_cons (ps_set (i := 2) sc_law_drawn.nd rfl (by first | exact Or.inl rfl | exact Or.inr rfl) (pe_lst pa_nil))
    (pss_cons (ps_for PassesOwn.never rfl (pi_range1 (by rfl) T.n_range (pa_cons (p_call G_law_draw hr (pa_cons (pv 0) (pa_cons pe_int pa_nil))) pa_nil)) (pg_name (i := 3) sc_law_drawn.nd rfl (by first | exact Or.inl rfl | exact Or.inr rfl)) (pss_one (ps_expr (pe_bm PySem.F.plainAttrs_list PySem.F.slot_list_append PySem.F.type_list_append mt_append (pv 2) (pa_cons (p_call G_law_draw hr (pa_cons (pv 0) (pa_cons (pv 1) pa_nil))) pa_nil)))))
    (pss_one (ps_ret (pe_tup (pa_cons (pv 2) (pa_cons (p_call G_law_draw hr (pa_cons (pv 0) (pa_cons (pv 1) pa_nil))) pa_nil)))))))
/-! _law_ties -/
abbrev s_law_ties : Stmt := topS 19
abbrev N_law_ties : List Str := ["_law_purse_here", "_law_count", "_law_ties_here", "_law_order_here", "_law_k"]
theorem sc_law_ties : FnScope N_law_ties ["_law_purse_here", "_law_count"] (defScope s_law_ties) := ⟨rfl, rfl, rfl, by decide +kernel, rfl, by decide +kernel, by decide +kernel⟩
def t_law_ties (K : Fg) (Ac : Cs) (S_law_draw : ZSp) (S_law_order : ZSp) (S_law_drawn : ZSp) : TS :=
    (tSeq (tAsg (tLst tNil) (gName 2))
    (tSeq (tIfS (tTest (tOp (rEqZ K) (tCB (zcall K S_law_draw) (tCons (tVar 0) (tCons (tC (.int 3)) tNil))) (tC (.int 0)))) (tSeq (tAsg (tCB (zcall K S_law_order) (tCons (tVar 0) (tCons (tVar 1) tNil))) (gName 3))
    (tFor (iRng1 (tCons (tOp rSubZ (tVar 1) (tC (.int 1))) tNil)) (gName 4) (tDrop (tBM K "list" rAppend (tVar 2) (tCons (tTup (tCons (tLst (tCons (tOp (rIxZ K) (tVar 3) (tOp (rAddZ K) (tVar 4) (tC (.int 1)))) tNil)) (tCons (tOp (rIxZ K) (tVar 3) (tVar 4)) tNil))) tNil))))) tNext)
    (tSeq (tFor (iRng1 (tCons (tCB (zcall K S_law_draw) (tCons (tVar 0) (tCons (tOp rSubZ (tC (.int 21)) (tCB (rLenZ K) (tCons (tVar 2) tNil))) tNil))) tNil)) (gName 4) (tDrop (tBM K "list" rAppend (tVar 2) (tCons (tCB (zcall K S_law_drawn) (tCons (tVar 0) (tCons (tVar 1) tNil))) tNil))))
    (tRet (tVar 2)))))
theorem red_law_ties {Ac : Cs} (T : Txt Ac K mg) (S_law_draw : ZSp) (S_law_order : ZSp) (S_law_drawn : ZSp)
    (G_law_draw : FnZ P w K mg base "_law_draw" 1 S_law_draw)
    (G_law_order : FnZ P w K mg base "_law_order" 2 S_law_order)
    (G_law_drawn : FnZ P w K mg base "_law_drawn" 2 S_law_drawn) (f : Addr) (cdv : Value) (A : Around) (outer : List Env) (s : Shared) (H : Hp) (E : XK) (hr : Room 2 (A.deeper (envOfC "_law_ties" (defScope s_law_ties) s.heap.objs.size f cdv))) :
    PSs (cxOf CX0 P w K mg base N_law_ties "_law_ties" (defScope s_law_ties) f cdv A outer s H E).nox (defBody s_law_ties) (t_law_ties K Ac S_law_draw S_law_order S_law_drawn) :=
    (pss_cons (ps_set (i := 2) sc_law_ties.nd rfl (by first | exact Or.inl rfl | exact Or.inr rfl) (pe_lst pa_nil))
    (pss_cons (ps_if (q_eq (Room.units hr) (p_call G_law_draw hr (pa_cons (pv 0) (pa_cons pe_int pa_nil))) pe_int) (pss_cons (ps_set (i := 3) sc_law_ties.nd rfl (by first | exact Or.inl rfl | exact Or.inr rfl) (p_call G_law_order hr (pa_cons (pv 0) (pa_cons (pv 1) pa_nil))))
    (pss_one (ps_for PassesOwn.never rfl (pi_range1 (by rfl) T.n_range (pa_cons (p_sub (pv 1) pe_int) pa_nil)) (pg_name (i := 4) sc_law_ties.nd rfl (by first | exact Or.inl rfl | exact Or.inr rfl)) (pss_one (ps_expr (pe_bm PySem.F.plainAttrs_list PySem.F.slot_list_append PySem.F.type_list_append mt_append (pv 2) (pa_cons (pe_tup (pa_cons (pe_lst (pa_cons (p_ix (pv 3) (p_add (pv 4) pe_int)) pa_nil)) (pa_cons (p_ix (pv 3) (pv 4)) pa_nil))) pa_nil))))))) pss_nil)
    (pss_cons (ps_for PassesOwn.never rfl (pi_range1 (by rfl) T.n_range (pa_cons (p_call G_law_draw hr (pa_cons (pv 0) (pa_cons (p_sub pe_int (pe_callB cz_len (by rfl) T.n_len Z.boot_len (pa_cons (pv 2) pa_nil))) pa_nil))) pa_nil)) (pg_name (i := 4) sc_law_ties.nd rfl (by first | exact Or.inl rfl | exact Or.inr rfl)) (pss_one (ps_expr (pe_bm PySem.F.plainAttrs_list PySem.F.slot_list_append PySem.F.type_list_append mt_append (pv 2) (pa_cons (p_call G_law_drawn hr (pa_cons (pv 0) (pa_cons (pv 1) pa_nil))) pa_nil)))))
    (pss_one (ps_ret (pv 2))))))
/-! _law_reach -/
abbrev s_law_reach : Stmt := topS 20
abbrev N_law_reach : List Str := ["_law_ties_here", "_law_given_here", "_law_count", "_law_reached", "_law_k", "_law_turn", "_law_origins", "_law_aim", "_law_origin"]
theorem sc_law_reach : FnScope N_law_reach ["_law_ties_here", "_law_given_here", "_law_count"] (defScope s_law_reach) := ⟨rfl, rfl, rfl, by decide +kernel, rfl, by decide +kernel, by decide +kernel⟩
def t_law_reach (K : Fg) (Ac : Cs) : TS :=
    (tSeq (tAsg (tLc (iRng1 (tCons (tVar 2) tNil)) (gName 4) tYes (tOp (rInY K false) (tVar 4) (tVar 1)) [4]) (gName 3))
    (tSeq (tFor (iRng1 (tCons (tVar 2) tNil)) (gName 5) (tFor (iSeqZ K (tVar 0)) (gTup K 2 (gCons (gName 6) (gCons (gName 7) gNil))) (tIfS (tTruZ K (tCB (rAnyZ K) (tCons (tLc (iSeqZ K (tVar 6)) (gName 8) tYes (tOp (rIxZ K) (tVar 3) (tVar 8)) [8]) tNil))) (tAsg (tC (.bl true)) (gSub (tVar 3) (tVar 7) rSetL)) tNext)))
    (tRet (tLc (iRng1 (tCons (tVar 2) tNil)) (gName 4) (tTruZ K (tOp (rIxZ K) (tVar 3) (tVar 4))) (tVar 4) [4]))))
theorem red_law_reach {Ac : Cs} (T : Txt Ac K mg) (f : Addr) (cdv : Value) (A : Around) (outer : List Env) (s : Shared) (H : Hp) (E : XK) (hr : Room 0 (A.deeper (envOfC "_law_reach" (defScope s_law_reach) s.heap.objs.size f cdv))) :
    PSs (cxOf CX0 P w K mg base N_law_reach "_law_reach" (defScope s_law_reach) f cdv A outer s H E).nox (defBody s_law_reach) (t_law_reach K Ac) :=
    (pss_cons (ps_set (i := 3) sc_law_reach.nd rfl (by first | exact Or.inl rfl | exact Or.inr rfl) (pe_lc (own := [("_law_k", 4)]) rfl sc_law_reach.nd (pi_range1 (by rfl) T.n_range (pa_cons (pv 2) pa_nil)) (blkOk_by (by kernel_rfl)) (fun _ _ _ _ _ => (pg_name (i := 4) sc_law_reach.nd rfl (by first | exact Or.inl rfl | exact Or.inr rfl))) (fun _ _ _ _ _ => pts_nil) (fun _ _ _ _ _ => (p_inY (pv 4) (pv 1)))))
    (pss_cons (ps_for PassesOwn.never rfl (pi_range1 (by rfl) T.n_range (pa_cons (pv 2) pa_nil)) (pg_name (i := 5) sc_law_reach.nd rfl (by first | exact Or.inl rfl | exact Or.inr rfl)) (pss_one (ps_for PassesOwn.never rfl (pi_seqZ (pv 0)) (pg_tup rfl (pgs_cons (pg_name (i := 6) sc_law_reach.nd rfl (by first | exact Or.inl rfl | exact Or.inr rfl)) (pgs_cons (pg_name (i := 7) sc_law_reach.nd rfl (by first | exact Or.inl rfl | exact Or.inr rfl)) pgs_nil))) (pss_one (ps_if (q_truth (pe_callB (cz_any rfl) (by rfl) T.n_any Z.boot_any (pa_cons (pe_lc (own := [("_law_origin", 8)]) rfl sc_law_reach.nd (pi_seqZ (pv 6)) (blkOk_by (by kernel_rfl)) (fun _ _ _ _ _ => (pg_name (i := 8) sc_law_reach.nd rfl (by first | exact Or.inl rfl | exact Or.inr rfl))) (fun _ _ _ _ _ => pts_nil) (fun _ _ _ _ _ => (p_ix (pv 3) (pv 8)))) pa_nil))) (pss_one (ps_asg pe_bl (pg_sub (pv 3) (pv 7) set_list))) pss_nil)))))
    (pss_one (ps_ret (pe_lc (own := [("_law_k", 4)]) rfl sc_law_reach.nd (pi_range1 (by rfl) T.n_range (pa_cons (pv 2) pa_nil)) (blkOk_by (by kernel_rfl)) (fun _ _ _ _ _ => (pg_name (i := 4) sc_law_reach.nd rfl (by first | exact Or.inl rfl | exact Or.inr rfl))) (fun _ _ _ _ _ => (pts_one (q_truth (p_ix (pv 3) (pv 4))))) (fun _ _ _ _ _ => (pv 4)))))))
/-! _law_asked -/
abbrev s_law_asked : Stmt := topS 21
abbrev N_law_asked : List Str := ["_law_network", "_law_ties_here", "_law_given_here", "_law_count", "_law_passed", "_law_told", "_law_due", "_law_k", "_law_into", "_law_at"]
theorem sc_law_asked : FnScope N_law_asked ["_law_network", "_law_ties_here", "_law_given_here", "_law_count"] (defScope s_law_asked) := ⟨rfl, rfl, rfl, by decide +kernel, rfl, by decide +kernel, by decide +kernel⟩
def t_law_asked (K : Fg) (Ac : Cs) (S_Network_hanging : ZSp) (S_law_reach : ZSp) (S_law_same : ZSp) (S_Network_edges_into : ZSp) : TS :=
    (tSeq (tAsg (tCB (rListZ K) (tCons (tVar 2) tNil)) (gName 4))
    (tSeq (tAsg (tMth Ac.c_Network "hanging" (zcall K S_Network_hanging) (tVar 0) (tCons (tVar 4) tNil)) (gName 5))
    (tSeq (tAsg (tCB (zcall K S_law_reach) (tCons (tVar 1) (tCons (tVar 2) (tCons (tVar 3) tNil)))) (gName 6))
    (tSeq (tIfS (tOr (tNot (tTruZ K (tCB (zcall K S_law_same) (tCons (tVar 5) (tCons (tVar 6) tNil))))) (tTest (tOp (rNeZ K) (tVar 4) (tVar 2)))) (tRet (tC (.bl false))) tNext)
    (tSeq (tDrop (tBM K "list" rAppend (tVar 5) (tCons (tUn uNegZ (tC (.int 1))) tNil)))
    (tSeq (tDrop (tBM0 K "list" rReverse (tVar 5)))
    (tSeq (tIfS (tNot (tTruZ K (tCB (zcall K S_law_same) (tCons (tMth Ac.c_Network "hanging" (zcall K S_Network_hanging) (tVar 0) (tCons (tOp (rAddZ K) (tVar 2) (tSl (rSlZ K) (tVar 2) tNoPart (tPart (tC (.int 1))))) tNil)) (tCons (tVar 6) tNil))))) (tRet (tC (.bl false))) tNext)
    (tSeq (tFor (iRng1 (tCons (tVar 3) tNil)) (gName 7) (tSeq (tAsg (tMth Ac.c_Network "edges_into" (zcall K S_Network_edges_into) (tVar 0) (tCons (tVar 7) tNil)) (gName 8))
    (tSeq (tAsg (tLc (iRng1 (tCons (tCB (rLenZ K) (tCons (tVar 1) tNil)) tNil)) (gName 9) (tTest (tOp (rEqZ K) (tOp (rIxZ K) (tOp (rIxZ K) (tVar 1) (tVar 9)) (tC (.int 1))) (tVar 7))) (tVar 9) [9]) (gName 6))
    (tSeq (tIfS (tNot (tTruZ K (tCB (zcall K S_law_same) (tCons (tVar 8) (tCons (tVar 6) tNil))))) (tRet (tC (.bl false))) tNext)
    (tSeq (tDrop (tBM K "list" rAppend (tVar 8) (tCons (tUn uNegZ (tC (.int 1))) tNil)))
    (tIfS (tNot (tTruZ K (tCB (zcall K S_law_same) (tCons (tMth Ac.c_Network "edges_into" (zcall K S_Network_edges_into) (tVar 0) (tCons (tVar 7) tNil)) (tCons (tVar 6) tNil))))) (tRet (tC (.bl false))) tNext))))))
    (tRet (tC (.bl true)))))))))))
theorem red_law_asked {Ac : Cs} (T : Txt Ac K mg) (S_Network_hanging : ZSp) (S_law_reach : ZSp) (S_law_same : ZSp) (S_Network_edges_into : ZSp)
    (G_Network_hanging : MtZ P w K mg base Ac.c_Network "hanging" 2 S_Network_hanging)
    (G_law_reach : FnZ P w K mg base "_law_reach" 1 S_law_reach)
    (G_law_same : FnZ P w K mg base "_law_same" 11 S_law_same)
    (G_Network_edges_into : MtZ P w K mg base Ac.c_Network "edges_into" 1 S_Network_edges_into) (f : Addr) (cdv : Value) (A : Around) (outer : List Env) (s : Shared) (H : Hp) (E : XK) (hr : Room 11 (A.deeper (envOfC "_law_asked" (defScope s_law_asked) s.heap.objs.size f cdv))) :
    PSs (cxOf CX0 P w K mg base N_law_asked "_law_asked" (defScope s_law_asked) f cdv A outer s H E).nox (defBody s_law_asked) (t_law_asked K Ac S_Network_hanging S_law_reach S_law_same S_Network_edges_into) :=
    (pss_cons (ps_set (i := 4) sc_law_asked.nd rfl (by first | exact Or.inl rfl | exact Or.inr rfl) (pe_callTy cz_list (by rfl) T.n_list Z.boot_list (pa_cons (pv 2) pa_nil)))
    (pss_cons (ps_set (i := 5) sc_law_asked.nd rfl (by first | exact Or.inl rfl | exact Or.inr rfl) (p_meth G_Network_hanging hr (pv 0) (pa_cons (pv 4) pa_nil)))
    (pss_cons (ps_set (i := 6) sc_law_asked.nd rfl (by first | exact Or.inl rfl | exact Or.inr rfl) (p_call G_law_reach hr (pa_cons (pv 1) (pa_cons (pv 2) (pa_cons (pv 3) pa_nil)))))
    (pss_cons (ps_if (PW.pt (pw_or (pt_not (q_truth (p_call G_law_same hr (pa_cons (pv 5) (pa_cons (pv 6) pa_nil))))) (pw_or1 (q_ne (Room.units hr) (pv 4) (pv 2))))) (pss_one (ps_ret pe_bl)) pss_nil)
    (pss_cons (ps_expr (pe_bm PySem.F.plainAttrs_list PySem.F.slot_list_append PySem.F.type_list_append mt_append (pv 5) (pa_cons (p_neg pe_int) pa_nil)))
    (pss_cons (ps_expr (pe_bm0 PySem.F.plainAttrs_list PySem.F.slot_list_reverse PySem.F.type_list_reverse mt_reverse (pv 5)))
    (pss_cons (ps_if (pt_not (q_truth (p_call G_law_same hr (pa_cons (p_meth G_Network_hanging hr (pv 0) (pa_cons (p_add (pv 2) (p_sl (pv 2) po_none (po_some pe_int))) pa_nil)) (pa_cons (pv 6) pa_nil))))) (pss_one (ps_ret pe_bl)) pss_nil)
    (pss_cons (ps_for PassesOwn.never rfl (pi_range1 (by rfl) T.n_range (pa_cons (pv 3) pa_nil)) (pg_name (i := 7) sc_law_asked.nd rfl (by first | exact Or.inl rfl | exact Or.inr rfl)) (pss_cons (ps_set (i := 8) sc_law_asked.nd rfl (by first | exact Or.inl rfl | exact Or.inr rfl) (p_meth G_Network_edges_into hr (pv 0) (pa_cons (pv 7) pa_nil)))
    (pss_cons (ps_setLc (i := 6) (own := [("_law_at", 9)]) rfl sc_law_asked.nd rfl (by rfl) (sw_true rfl rfl rfl (by decide +kernel)) (pi_range1 (by rfl) T.n_range (pa_cons (pe_callB cz_len (by rfl) T.n_len Z.boot_len (pa_cons (pv 1) pa_nil)) pa_nil)) (blkOk_by (by kernel_rfl)) (fun _ _ _ _ _ => (pg_name (i := 9) sc_law_asked.nd rfl (by first | exact Or.inl rfl | exact Or.inr rfl))) (fun _ _ _ _ _ => (pts_one (q_eq (Room.units hr) (p_ix (p_ix (pv 1) (pv 9)) pe_int) (pv 7)))) (fun _ _ _ _ _ => (pv 9)))
    (pss_cons (ps_if (pt_not (q_truth (p_call G_law_same hr (pa_cons (pv 8) (pa_cons (pv 6) pa_nil))))) (pss_one (ps_ret pe_bl)) pss_nil)
    (pss_cons (ps_expr (pe_bm PySem.F.plainAttrs_list PySem.F.slot_list_append PySem.F.type_list_append mt_append (pv 8) (pa_cons (p_neg pe_int) pa_nil)))
    (pss_one (ps_if (pt_not (q_truth (p_call G_law_same hr (pa_cons (p_meth G_Network_edges_into hr (pv 0) (pa_cons (pv 7) pa_nil)) (pa_cons (pv 6) pa_nil))))) (pss_one (ps_ret pe_bl)) pss_nil)))))))
    (pss_one (ps_ret pe_bl))))))))))
/-! _law_given -/
abbrev s_law_given : Stmt := topS 22
abbrev N_law_given : List Str := ["_law_purse_here", "_law_count", "_law_order_here", "_law_way"]
theorem sc_law_given : FnScope N_law_given ["_law_purse_here", "_law_count"] (defScope s_law_given) := ⟨rfl, rfl, rfl, by decide +kernel, rfl, by decide +kernel, by decide +kernel⟩
def t_law_given (K : Fg) (Ac : Cs) (S_law_order : ZSp) (S_law_draw : ZSp) : TS :=
    (tSeq (tAsg (tCB (zcall K S_law_order) (tCons (tVar 0) (tCons (tVar 1) tNil))) (gName 2))
    (tSeq (tAsg (tCB (zcall K S_law_draw) (tCons (tVar 0) (tCons (tC (.int 4)) tNil))) (gName 3))
    (tSeq (tIfS (tTest (tOp (rEqZ K) (tVar 3) (tC (.int 0)))) (tRet (tSl (rSlZ K) (tVar 2) tNoPart (tPart (tCB (zcall K S_law_draw) (tCons (tVar 0) (tCons (tOp (rAddZ K) (tVar 1) (tC (.int 1))) tNil)))))) tNext)
    (tRet (tSl (rSlZ K) (tVar 2) tNoPart (tPart (tOp rSubZ (tVar 3) (tC (.int 1)))))))))
theorem red_law_given {Ac : Cs} (T : Txt Ac K mg) (S_law_order : ZSp) (S_law_draw : ZSp)
    (G_law_order : FnZ P w K mg base "_law_order" 2 S_law_order)
    (G_law_draw : FnZ P w K mg base "_law_draw" 1 S_law_draw) (f : Addr) (cdv : Value) (A : Around) (outer : List Env) (s : Shared) (H : Hp) (E : XK) (hr : Room 2 (A.deeper (envOfC "_law_given" (defScope s_law_given) s.heap.objs.size f cdv))) :
    PSs (cxOf CX0 P w K mg base N_law_given "_law_given" (defScope s_law_given) f cdv A outer s H E).nox (defBody s_law_given) (t_law_given K Ac S_law_order S_law_draw) :=
    (pss_cons (ps_set (i := 2) sc_law_given.nd rfl (by first | exact Or.inl rfl | exact Or.inr rfl) (p_call G_law_order hr (pa_cons (pv 0) (pa_cons (pv 1) pa_nil))))
    (pss_cons (ps_set (i := 3) sc_law_given.nd rfl (by first | exact Or.inl rfl | exact Or.inr rfl) (p_call G_law_draw hr (pa_cons (pv 0) (pa_cons pe_int pa_nil))))
    (pss_cons (ps_if (q_eq (Room.units hr) (pv 3) pe_int) (pss_one (ps_ret (p_sl (pv 2) po_none (po_some (p_call G_law_draw hr (pa_cons (pv 0) (pa_cons (p_add (pv 1) pe_int) pa_nil))))))) pss_nil)
    (pss_one (ps_ret (p_sl (pv 2) po_none (po_some (p_sub (pv 3) pe_int))))))))
/-! law -/
abbrev s_law : Stmt := topS 23
abbrev N_law : List Str := ["_law_script", "_law_purse_here", "_law_shells", "_law_count", "_law_seats", "_law_k", "_law_ties_here", "_law_network", "_law_origins", "_law_aim", "_law_given_here", "_law_at", "_law_changed", "_law_later", "_law_other"]
theorem sc_law : FnScope N_law ["_law_script"] (defScope s_law) := ⟨rfl, rfl, rfl, by decide +kernel, rfl, by decide +kernel, by decide +kernel⟩
def t_law (K : Fg) (Ac : Cs) (S_law_purse : ZSp) (S_Frame_init : ZSp) (S_law_draw : ZSp) (S_law_ties : ZSp) (S_law_arc : ZSp) (S_Network_init : ZSp) (S_law_given : ZSp) (S_law_asked : ZSp) (S_law_drawn : ZSp) (S_Network_with_edge : ZSp) (S_Network_plus_edge : ZSp) : TS :=
    (tSeq (tAsg (tCB (zcall K S_law_purse) (tCons (tVar 0) tNil)) (gName 1))
    (tSeq (tAsg (tSl (rSlZ K) (tLst (tCons (tCB (rMk K Ac.c_Frame S_Frame_init) (tCons (tC (.str "f")) (tCons (tTup (tCons (tC (.str "x")) tNil)) (tCons (tTup (tCons (tTup (tCons (tC (.int 1)) tNil)) tNil)) tNil)))) (tCons (tCB (rMk K Ac.c_Frame S_Frame_init) (tCons (tC (.str "g")) (tCons (tTup (tCons (tC (.str "y")) tNil)) (tCons (tTup (tCons (tTup (tCons (tUn uNegZ (tC (.int 1))) tNil)) tNil)) tNil)))) tNil))) tNoPart (tPart (tOp (rAddZ K) (tC (.int 1)) (tCB (zcall K S_law_draw) (tCons (tVar 1) (tCons (tC (.int 2)) tNil)))))) (gName 2))
    (tSeq (tAsg (tOp (rAddZ K) (tC (.int 1)) (tCB (zcall K S_law_draw) (tCons (tVar 1) (tCons (tC (.int 12)) tNil)))) (gName 3))
    (tSeq (tAsg (tLc (iRng1 (tCons (tVar 3) tNil)) (gName 5) tYes (tTup (tCons (tOp (rAddZ K) (tC (.str "p")) (tCB rStrZ (tCons (tVar 5) tNil))) (tCons (tCB (zcall K S_law_draw) (tCons (tVar 1) (tCons (tCB (rLenZ K) (tCons (tVar 2) tNil)) tNil))) tNil))) [5]) (gName 4))
    (tSeq (tAsg (tCB (zcall K S_law_ties) (tCons (tVar 1) (tCons (tVar 3) tNil))) (gName 6))
    (tSeq (tAsg (tCB (rMk K Ac.c_Network S_Network_init) (tCons (tVar 2) (tCons (tVar 4) (tCons (tLc (iSeqZ K (tVar 6)) (gTup K 2 (gCons (gName 8) (gCons (gName 9) gNil))) tYes (tCB (zcall K S_law_arc) (tCons (tVar 1) (tCons (tVar 8) (tCons (tVar 9) tNil)))) [8, 9]) tNil)))) (gName 7))
    (tSeq (tAsg (tCB (zcall K S_law_given) (tCons (tVar 1) (tCons (tVar 3) tNil))) (gName 10))
    (tSeq (tIfS (tNot (tTruZ K (tCB (zcall K S_law_asked) (tCons (tVar 7) (tCons (tVar 6) (tCons (tVar 10) (tCons (tVar 3) tNil))))))) (tRet (tC (.bl false))) tNext)
    (tSeq (tAsg (tCB (zcall K S_law_drawn) (tCons (tVar 1) (tCons (tVar 3) tNil))) (gTup K 2 (gCons (gName 8) (gCons (gName 9) gNil))))
    (tSeq (tAsg (tCB (rLenZ K) (tCons (tVar 6) tNil)) (gName 11))
    (tSeq (tIfS (tAnd (tTruZ K (tVar 6)) (tTest (tOp rGtZ (tCB (zcall K S_law_draw) (tCons (tVar 1) (tCons (tC (.int 3)) tNil))) (tC (.int 0))))) (tSeq (tAsg (tCB (zcall K S_law_draw) (tCons (tVar 1) (tCons (tCB (rLenZ K) (tCons (tVar 6) tNil)) tNil))) (gName 11))
    (tAsg (tMth Ac.c_Network "with_edge" (zcall K S_Network_with_edge) (tVar 7) (tCons (tVar 11) (tCons (tCB (zcall K S_law_arc) (tCons (tVar 1) (tCons (tVar 8) (tCons (tVar 9) tNil)))) tNil))) (gName 12))) (tAsg (tMth Ac.c_Network "plus_edge" (zcall K S_Network_plus_edge) (tVar 7) (tCons (tCB (zcall K S_law_arc) (tCons (tVar 1) (tCons (tVar 8) (tCons (tVar 9) tNil)))) tNil)) (gName 12)))
    (tSeq (tAsg (tOp (rAddZ K) (tOp (rAddZ K) (tSl (rSlZ K) (tVar 6) tNoPart (tPart (tVar 11))) (tLst (tCons (tTup (tCons (tVar 8) (tCons (tVar 9) tNil))) tNil))) (tSl (rSlZ K) (tVar 6) (tPart (tOp (rAddZ K) (tVar 11) (tC (.int 1)))) tNoPart)) (gName 13))
    (tSeq (tAsg (tCB (zcall K S_law_given) (tCons (tVar 1) (tCons (tVar 3) tNil))) (gName 14))
    (tSeq (tIfS (tOr (tNot (tTruZ K (tCB (zcall K S_law_asked) (tCons (tVar 12) (tCons (tVar 13) (tCons (tVar 10) (tCons (tVar 3) tNil))))))) (tNot (tTruZ K (tCB (zcall K S_law_asked) (tCons (tVar 7) (tCons (tVar 6) (tCons (tVar 14) (tCons (tVar 3) tNil)))))))) (tRet (tC (.bl false))) tNext)
    (tRet (tAndV (tCB (zcall K S_law_asked) (tCons (tVar 12) (tCons (tVar 13) (tCons (tVar 14) (tCons (tVar 3) tNil))))) (tCB (zcall K S_law_asked) (tCons (tVar 7) (tCons (tVar 6) (tCons (tVar 10) (tCons (tVar 3) tNil)))))))))))))))))))))
theorem red_law {Ac : Cs} (T : Txt Ac K mg) (S_law_purse : ZSp) (S_Frame_init : ZSp) (S_law_draw : ZSp) (S_law_ties : ZSp) (S_law_arc : ZSp) (S_Network_init : ZSp) (S_law_given : ZSp) (S_law_asked : ZSp) (S_law_drawn : ZSp) (S_Network_with_edge : ZSp) (S_Network_plus_edge : ZSp)
    (G_law_purse : FnZ P w K mg base "_law_purse" 1 S_law_purse)
    (G_Frame_init : MkZ P w K mg base "Frame" Ac.c_Frame 1 S_Frame_init)
    (G_law_draw : FnZ P w K mg base "_law_draw" 1 S_law_draw)
    (G_law_ties : FnZ P w K mg base "_law_ties" 3 S_law_ties)
    (G_law_arc : FnZ P w K mg base "_law_arc" 3 S_law_arc)
    (G_Network_init : MkZ P w K mg base "Network" Ac.c_Network 3 S_Network_init)
    (G_law_given : FnZ P w K mg base "_law_given" 3 S_law_given)
    (G_law_asked : FnZ P w K mg base "_law_asked" 12 S_law_asked)
    (G_law_drawn : FnZ P w K mg base "_law_drawn" 2 S_law_drawn)
    (G_Network_with_edge : MtZ P w K mg base Ac.c_Network "with_edge" 5 S_Network_with_edge)
    (G_Network_plus_edge : MtZ P w K mg base Ac.c_Network "plus_edge" 5 S_Network_plus_edge) (f : Addr) (cdv : Value) (A : Around) (outer : List Env) (s : Shared) (H : Hp) (E : XK) (hr : Room 12 (A.deeper (envOfC "law" (defScope s_law) s.heap.objs.size f cdv))) :
    PSs (cxOf CX0 P w K mg base N_law "law" (defScope s_law) f cdv A outer s H E).nox (defBody s_law) (t_law K Ac S_law_purse S_Frame_init S_law_draw S_law_ties S_law_arc S_Network_init S_law_given S_law_asked S_law_drawn S_Network_with_edge S_Network_plus_edge) :=
    (pss_cons (ps_set (i := 1) sc_law.nd rfl (by first | exact Or.inl rfl | exact Or.inr rfl) (p_call G_law_purse hr (pa_cons (pv 0) pa_nil)))
    (pss_cons (ps_set (i := 2) sc_law.nd rfl (by first | exact Or.inl rfl | exact Or.inr rfl) (p_sl (pe_lst (pa_cons (p_make G_Frame_init hr (pa_cons pe_str (pa_cons (pe_tup (pa_cons pe_str pa_nil)) (pa_cons (pe_tup (pa_cons (pe_tup (pa_cons pe_int pa_nil)) pa_nil)) pa_nil)))) (pa_cons (p_make G_Frame_init hr (pa_cons pe_str (pa_cons (pe_tup (pa_cons pe_str pa_nil)) (pa_cons (pe_tup (pa_cons (pe_tup (pa_cons (p_neg pe_int) pa_nil)) pa_nil)) pa_nil)))) pa_nil))) po_none (po_some (p_add pe_int (p_call G_law_draw hr (pa_cons (pv 1) (pa_cons pe_int pa_nil)))))))
    (pss_cons (ps_set (i := 3) sc_law.nd rfl (by first | exact Or.inl rfl | exact Or.inr rfl) (p_add pe_int (p_call G_law_draw hr (pa_cons (pv 1) (pa_cons pe_int pa_nil)))))
    (pss_cons (ps_setLc (i := 4) (own := [("_law_k", 5)]) rfl sc_law.nd rfl (by rfl) (sw_true rfl rfl rfl (by decide +kernel)) (pi_range1 (by rfl) T.n_range (pa_cons (pv 3) pa_nil)) (blkOk_by (by kernel_rfl)) (fun _ _ _ _ _ => (pg_name (i := 5) sc_law.nd rfl (by first | exact Or.inl rfl | exact Or.inr rfl))) (fun _ _ _ _ _ => pts_nil) (fun _ _ _ _ _ => (pe_tup (pa_cons (p_add pe_str (pe_callTy cz_str (by rfl) T.n_str Z.boot_str' (pa_cons (pv 5) pa_nil))) (pa_cons (p_call G_law_draw hr (pa_cons (pv 1) (pa_cons (pe_callB cz_len (by rfl) T.n_len Z.boot_len (pa_cons (pv 2) pa_nil)) pa_nil))) pa_nil)))))
    (pss_cons (ps_set (i := 6) sc_law.nd rfl (by first | exact Or.inl rfl | exact Or.inr rfl) (p_call G_law_ties hr (pa_cons (pv 1) (pa_cons (pv 3) pa_nil))))
    (pss_cons (ps_set (i := 7) sc_law.nd rfl (by first | exact Or.inl rfl | exact Or.inr rfl) (p_make G_Network_init hr (pa_cons (pv 2) (pa_cons (pv 4) (pa_cons (pe_lc (own := [("_law_origins", 8), ("_law_aim", 9)]) rfl sc_law.nd (pi_seqZ (pv 6)) (blkOk_by (by kernel_rfl)) (fun _ _ _ _ _ => (pg_tup rfl (pgs_cons (pg_name (i := 8) sc_law.nd rfl (by first | exact Or.inl rfl | exact Or.inr rfl)) (pgs_cons (pg_name (i := 9) sc_law.nd rfl (by first | exact Or.inl rfl | exact Or.inr rfl)) pgs_nil)))) (fun _ _ _ _ _ => pts_nil) (fun _ _ _ _ _ => (p_call G_law_arc hr (pa_cons (pv 1) (pa_cons (pv 8) (pa_cons (pv 9) pa_nil)))))) pa_nil)))))
    (pss_cons (ps_set (i := 10) sc_law.nd rfl (by first | exact Or.inl rfl | exact Or.inr rfl) (p_call G_law_given hr (pa_cons (pv 1) (pa_cons (pv 3) pa_nil))))
    (pss_cons (ps_if (pt_not (q_truth (p_call G_law_asked hr (pa_cons (pv 7) (pa_cons (pv 6) (pa_cons (pv 10) (pa_cons (pv 3) pa_nil))))))) (pss_one (ps_ret pe_bl)) pss_nil)
    (pss_cons (ps_asg (p_call G_law_drawn hr (pa_cons (pv 1) (pa_cons (pv 3) pa_nil))) (pg_tup rfl (pgs_cons (pg_name (i := 8) sc_law.nd rfl (by first | exact Or.inl rfl | exact Or.inr rfl)) (pgs_cons (pg_name (i := 9) sc_law.nd rfl (by first | exact Or.inl rfl | exact Or.inr rfl)) pgs_nil))))
    (pss_cons (ps_set (i := 11) sc_law.nd rfl (by first | exact Or.inl rfl | exact Or.inr rfl) (pe_callB cz_len (by rfl) T.n_len Z.boot_len (pa_cons (pv 6) pa_nil)))
    (pss_cons (ps_if (PW.pt (pw_and (q_truth (pv 6)) (pw_and1 (q_gt (p_call G_law_draw hr (pa_cons (pv 1) (pa_cons pe_int pa_nil))) pe_int)))) (pss_cons (ps_set (i := 11) sc_law.nd rfl (by first | exact Or.inl rfl | exact Or.inr rfl) (p_call G_law_draw hr (pa_cons (pv 1) (pa_cons (pe_callB cz_len (by rfl) T.n_len Z.boot_len (pa_cons (pv 6) pa_nil)) pa_nil))))
    (pss_one (ps_set (i := 12) sc_law.nd rfl (by first | exact Or.inl rfl | exact Or.inr rfl) (p_meth G_Network_with_edge hr (pv 7) (pa_cons (pv 11) (pa_cons (p_call G_law_arc hr (pa_cons (pv 1) (pa_cons (pv 8) (pa_cons (pv 9) pa_nil)))) pa_nil)))))) (pss_one (ps_set (i := 12) sc_law.nd rfl (by first | exact Or.inl rfl | exact Or.inr rfl) (p_meth G_Network_plus_edge hr (pv 7) (pa_cons (p_call G_law_arc hr (pa_cons (pv 1) (pa_cons (pv 8) (pa_cons (pv 9) pa_nil)))) pa_nil)))))
    (pss_cons (ps_set (i := 13) sc_law.nd rfl (by first | exact Or.inl rfl | exact Or.inr rfl) (p_add (p_add (p_sl (pv 6) po_none (po_some (pv 11))) (pe_lst (pa_cons (pe_tup (pa_cons (pv 8) (pa_cons (pv 9) pa_nil))) pa_nil))) (p_sl (pv 6) (po_some (p_add (pv 11) pe_int)) po_none)))
    (pss_cons (ps_set (i := 14) sc_law.nd rfl (by first | exact Or.inl rfl | exact Or.inr rfl) (p_call G_law_given hr (pa_cons (pv 1) (pa_cons (pv 3) pa_nil))))
    (pss_cons (ps_if (PW.pt (pw_or (pt_not (q_truth (p_call G_law_asked hr (pa_cons (pv 12) (pa_cons (pv 13) (pa_cons (pv 10) (pa_cons (pv 3) pa_nil))))))) (pw_or1 (pt_not (q_truth (p_call G_law_asked hr (pa_cons (pv 7) (pa_cons (pv 6) (pa_cons (pv 14) (pa_cons (pv 3) pa_nil)))))))))) (pss_one (ps_ret pe_bl)) pss_nil)
    (pss_one (ps_ret (pe_and (p_call G_law_asked hr (pa_cons (pv 12) (pa_cons (pv 13) (pa_cons (pv 14) (pa_cons (pv 3) pa_nil))))) (pe_one (p_call G_law_asked hr (pa_cons (pv 7) (pa_cons (pv 6) (pa_cons (pv 10) (pa_cons (pv 3) pa_nil)))))))))))))))))))))))
end
end Qk14
set_option Elab.async false
set_option linter.all false
set_option maxRecDepth 100000
set_option maxHeartbeats 4000000
/-! Printed by mir.py: the mirrors. -/
namespace Qk14
open PySem Z L2
noncomputable section
def m_Frame_init (Ac : Cs) (self : List (Str × D)) (name : D) (variables : D) (forms : D) : Option (List (Str × D)) :=
((dPut self "name" name).bind fun self_1 =>
((dTuple variables).bind fun variables_1 =>
((dPut self_1 "variables" variables_1).bind fun self_2 =>
((dTuple forms).bind fun forms_1 =>
((dPut self_2 "forms" forms_1).bind fun self_3 =>
some self_3)))))
def m_frame_fits (Ac : Cs) (frame : D) : Option (D) :=
((dFld [Ac.c_Frame] "variables" frame).bind fun variables =>
((dFld [Ac.c_Frame] "forms" frame).bind fun forms =>
((dLenSet variables).bind fun z =>
((dLen variables).bind fun z_1 =>
((bNe z z_1).bind fun b =>
(if b then
some (D.bl false)
else
((dLen forms).bind fun z_2 =>
((bEq z_2 (D.int 0)).bind fun b_1 =>
((if b_1 then some true else ((dLenSet forms).bind fun z_3 =>
((dLen forms).bind fun z_4 =>
((bNe z_3 z_4).bind fun b_2 =>
some b_2)))).bind fun b_3 =>
(if b_3 then
some (D.bl false)
else
((itStr forms).bind fun ds =>
(Fl.fin (forL (S := Unit) (R := D) (fun _ d =>
((dLen d).bind fun z_5 =>
((dLen variables).bind fun z_6 =>
((bNe z_5 z_6).bind fun b_4 =>
(if b_4 then
some (.rt (D.bl false))
else
((dLen d).bind fun z_7 =>
((dRepT (D.tup [(D.int 0)]) z_7).bind fun z_8 =>
((bEq d z_8).bind fun b_5 =>
(if b_5 then
some (.rt (D.bl false))
else
some (.nx ())))))))))) ds ()) fun _ =>
some (D.bl true)))))))))))))
def m_Edge_init (Ac : Cs) (self : List (Str × D)) (target : D) (unknowns : D) (sources : D) (guards : D) (effect : D) (label : D) : Option (List (Str × D)) :=
((dPut self "target" target).bind fun self_1 =>
((dPut self_1 "unknowns" unknowns).bind fun self_2 =>
((dTuple sources).bind fun sources_1 =>
((dPut self_2 "sources" sources_1).bind fun self_3 =>
((dTuple guards).bind fun guards_1 =>
((dPut self_3 "guards" guards_1).bind fun self_4 =>
((dTuple effect).bind fun effect_1 =>
((dPut self_4 "effect" effect_1).bind fun self_5 =>
((dPut self_5 "label" label).bind fun self_6 =>
some self_6)))))))))
def m_Network_forms_of (Ac : Cs) (self : D) (place : D) : Option (D) :=
((dFld [Ac.c_Network] "frames" self).bind fun frames =>
((dFld [Ac.c_Network] "places" self).bind fun places =>
((dIx places place).bind fun z =>
((dIx z (D.int 1)).bind fun z_1 =>
((dIx frames z_1).bind fun z_2 =>
((dFld [Ac.c_Frame] "forms" z_2).bind fun r =>
some r))))))
def m_Network_is_too_large (Ac : Cs) (self : D) (edge : D) : Option (D) :=
((dFld [Ac.c_Edge] "guards" edge).bind fun guards =>
((dLen guards).bind fun constraints =>
((dFld [Ac.c_Edge] "sources" edge).bind fun sources =>
((itStr sources).bind fun ds =>
((foldO (S := D) (fun constraints_2 d =>
(bp (un2 d) fun place z =>
((dMth Ac.c_Network "forms_of" self).bind fun u =>
((m_Network_forms_of Ac self place).bind fun z_1 =>
((dLen z_1).bind fun z_2 =>
((dAugA constraints_2 z_2).bind fun constraints_4 =>
some constraints_4)))))) ds constraints).bind fun constraints_3 =>
((dFld [Ac.c_Edge] "unknowns" edge).bind fun unknowns =>
((bGt unknowns (D.int 5)).bind fun b =>
((if b then some (D.bl true) else ((bGt constraints_3 (D.int 20)).bind fun b_1 =>
some (D.bl b_1))).bind fun v =>
some v))))))))
def m_Network_variables_of (Ac : Cs) (self : D) (place : D) : Option (D) :=
((dFld [Ac.c_Network] "frames" self).bind fun frames =>
((dFld [Ac.c_Network] "places" self).bind fun places =>
((dIx places place).bind fun z =>
((dIx z (D.int 1)).bind fun z_1 =>
((dIx frames z_1).bind fun z_2 =>
((dFld [Ac.c_Frame] "variables" z_2).bind fun r =>
some r))))))
def m_Network_edge_fits (Ac : Cs) (self : D) (edge : D) : Option (D) :=
((dFld [Ac.c_Edge] "sources" edge).bind fun sources =>
((dLen sources).bind fun z =>
((bGt z (D.int 2)).bind fun b =>
(if b then
some (D.bl false)
else
((dFld [Ac.c_Edge] "guards" edge).bind fun guards =>
((items guards).bind fun rows =>
((dFld [Ac.c_Edge] "sources" edge).bind fun sources_1 =>
((dFld [Ac.c_Edge] "target" edge).bind fun target =>
((dFld [Ac.c_Edge] "effect" edge).bind fun effect =>
((dAdd sources_1 (D.tup [(D.tup [target, effect])])).bind fun z_7 =>
((itStr z_7).bind fun ds_1 =>
(Fl.fin (forL (S := List D) (R := D) (fun rows_2 d =>
(bp (un2 d) fun place part =>
((bLe (D.int 0) place).bind fun b_1 =>
((if b_1 then ((dFld [Ac.c_Network] "places" self).bind fun places =>
((dLen places).bind fun z_1 =>
((bLt place z_1).bind fun b_2 =>
some b_2))) else some false).bind fun b_3 =>
(if (!b_3) then
some (.rt (D.bl false))
else
((dLen part).bind fun z_2 =>
((dMth Ac.c_Network "variables_of" self).bind fun u =>
((m_Network_variables_of Ac self place).bind fun z_3 =>
((dLen z_3).bind fun z_4 =>
((bNe z_2 z_4).bind fun b_4 =>
(if b_4 then
some (.rt (D.bl false))
else
((dExtZ rows_2 part).bind fun rows_4 =>
some (.nx rows_4))))))))))))) ds_1 rows) fun rows_3 =>
((itStr (D.lst rows_3)).bind fun ds =>
(Fl.fin (forL (S := Unit) (R := D) (fun _ d_1 =>
((dLen d_1).bind fun z_5 =>
((dFld [Ac.c_Edge] "unknowns" edge).bind fun unknowns =>
((dAdd unknowns (D.int 1)).bind fun z_6 =>
((bNe z_5 z_6).bind fun b_5 =>
(if b_5 then
some (.rt (D.bl false))
else
some (.nx ()))))))) ds ()) fun _ =>
some (D.bl true)))))))))))))))
def m_Network_init (Ac : Cs) (self : List (Str × D)) (frames : D) (places : D) (edges : D) : Option (List (Str × D)) :=
((dTuple frames).bind fun frames_1 =>
((dPut self "frames" frames_1).bind fun self_1 =>
((dTuple places).bind fun places_1 =>
((dPut self_1 "places" places_1).bind fun self_2 =>
((dTuple edges).bind fun edges_1 =>
((dPut self_2 "edges" edges_1).bind fun self_3 =>
((dFld [Ac.c_Network] "frames" (D.obj Ac.c_Network self_3)).bind fun frames_3 =>
((itEnum frames_3).bind fun ds_2 =>
((foldO (S := Unit) (fun _ d =>
(bp (un2 d) fun number frame =>
((m_frame_fits Ac frame).bind fun z =>
((bTru z).bind fun b =>
(if (!b) then
none
else
some ()))))) ds_2 ()).bind fun _ =>
((dFld [Ac.c_Network] "places" (D.obj Ac.c_Network self_3)).bind fun places_2 =>
((itEnum places_2).bind fun ds_1 =>
((foldO (S := List (Key × D)) (fun names_1 d_1 =>
(bp (un2 d_1) fun number_1 pr =>
(bp (un2 pr) fun name frame_number =>
((bInK names_1 name).bind fun b_1 =>
((if b_1 then some true else ((bLe (D.int 0) frame_number).bind fun b_2 =>
((if b_2 then ((dFld [Ac.c_Network] "frames" (D.obj Ac.c_Network self_3)).bind fun frames_2 =>
((dLen frames_2).bind fun z_1 =>
((bLt frame_number z_1).bind fun b_3 =>
some b_3))) else some false).bind fun b_4 =>
some (!b_4)))).bind fun b_5 =>
(if b_5 then
none
else
((dPutK names_1 name (D.bl true)).bind fun names_3 =>
some names_3))))))) ds_1 []).bind fun names_2 =>
((dFld [Ac.c_Network] "edges" (D.obj Ac.c_Network self_3)).bind fun edges_2 =>
((itEnum edges_2).bind fun ds =>
((foldO (S := Unit) (fun _ d_2 =>
(bp (un2 d_2) fun number_2 edge =>
((dMth Ac.c_Network "_edge_fits" (D.obj Ac.c_Network self_3)).bind fun u =>
((m_Network_edge_fits Ac (D.obj Ac.c_Network self_3) edge).bind fun z_2 =>
((bTru z_2).bind fun b_6 =>
(if (!b_6) then
none
else
((dMth Ac.c_Network "_is_too_large" (D.obj Ac.c_Network self_3)).bind fun u_1 =>
((m_Network_is_too_large Ac (D.obj Ac.c_Network self_3) edge).bind fun z_3 =>
((bTru z_3).bind fun b_7 =>
(if b_7 then
none
else
some ())))))))))) ds ()).bind fun _ =>
some self_3)))))))))))))))
def m_Network_edges_into (Ac : Cs) (self : D) (place : D) : Option (List D) :=
((dFld [Ac.c_Network] "edges" self).bind fun edges =>
((itEnum edges).bind fun ds =>
((lcF (fun d =>
(bp (un2 d) fun number edge =>
((dFld [Ac.c_Edge] "target" edge).bind fun target =>
((bEq target place).bind fun b =>
(if b then some (some number) else some none))))) ds).bind fun ys =>
some ys)))
def m_Network_targets_from (Ac : Cs) (self : D) (place : D) : Option (D) :=
((dFld [Ac.c_Network] "edges" self).bind fun edges =>
((itStr edges).bind fun ds_1 =>
((foldO (S := List D) (fun targets_1 d =>
((dFld [Ac.c_Edge] "sources" d).bind fun sources =>
((itStr sources).bind fun ds =>
((lcO (fun d_1 =>
(bp (un2 d_1) fun source z =>
some source)) ds).bind fun ys =>
((bInY place (D.lst ys)).bind fun b =>
(if b then
((dFld [Ac.c_Edge] "target" d).bind fun target =>
((dApp targets_1 target).bind fun targets_3 =>
some targets_3))
else
some targets_1)))))) ds_1 []).bind fun targets_2 =>
some (D.lst targets_2))))
def m_Network_hanging (Ac : Cs) (self : D) (places : D) : Option (List D) :=
((dFld [Ac.c_Network] "places" self).bind fun places_1 =>
((dLen places_1).bind fun z =>
((dRep [(D.bl false)] z).bind fun reached =>
((items places).bind fun open_ends =>
(((whl (S := List D × List D) (R := Empty) (fun (open_ends_2, reached_2) =>
((bTru (D.lst open_ends_2)).bind fun b =>
(if b then
(bp (dPop open_ends_2) fun place open_ends_4 =>
((dIx (D.lst reached_2) place).bind fun z_1 =>
((bTru z_1).bind fun b_1 =>
(if (!b_1) then
((dSet reached_2 place (D.bl true)).bind fun reached_4 =>
((dMth Ac.c_Network "_targets_from" self).bind fun u =>
((m_Network_targets_from Ac self place).bind fun z_2 =>
((dExtZ open_ends_4 z_2).bind fun open_ends_5 =>
some (.nx (open_ends_5, reached_4))))))
else
some (.nx (open_ends_4, reached_2))))))
else some (.bk (open_ends_2, reached_2))))) (open_ends, reached)).bind Fl.out).bind fun (open_ends_3, reached_3) =>
((itEnum (D.lst reached_3)).bind fun ds =>
((lcF (fun d =>
(bp (un2 d) fun place_1 hangs =>
((bTru hangs).bind fun b_2 =>
(if b_2 then some (some place_1) else some none)))) ds).bind fun ys =>
some ys)))))))
def m_Network_with_edge (Ac : Cs) (self : D) (number : D) (edge : D) : Option (D) :=
((bLe (D.int 0) number).bind fun b =>
((if b then ((dFld [Ac.c_Network] "edges" self).bind fun edges =>
((dLen edges).bind fun z =>
((bLt number z).bind fun b_1 =>
some b_1))) else some false).bind fun b_2 =>
(if (!b_2) then
none
else
((dFld [Ac.c_Network] "edges" self).bind fun edges_1 =>
((dPart number).bind fun o =>
((dSlice edges_1 none o).bind fun z_1 =>
((dAdd z_1 (D.tup [edge])).bind fun z_2 =>
((dFld [Ac.c_Network] "edges" self).bind fun edges_2 =>
((dAdd number (D.int 1)).bind fun z_3 =>
((dPart z_3).bind fun o_1 =>
((dSlice edges_2 o_1 none).bind fun z_4 =>
((dAdd z_2 z_4).bind fun edges_3 =>
((dFld [Ac.c_Network] "frames" self).bind fun frames =>
((dFld [Ac.c_Network] "places" self).bind fun places =>
((m_Network_init Ac [] frames places edges_3).bind fun fs =>
some (D.obj Ac.c_Network fs))))))))))))))))
def m_Network_plus_edge (Ac : Cs) (self : D) (edge : D) : Option (D) :=
((dFld [Ac.c_Network] "frames" self).bind fun frames =>
((dFld [Ac.c_Network] "places" self).bind fun places =>
((dFld [Ac.c_Network] "edges" self).bind fun edges =>
((dAdd edges (D.tup [edge])).bind fun z =>
((m_Network_init Ac [] frames places z).bind fun fs =>
some (D.obj Ac.c_Network fs))))))
def m_law_purse (Ac : Cs) (script : D) : Option (List D) :=
((dPart (D.int 63)).bind fun o =>
((dSlice script none o).bind fun z =>
((dLen z).bind fun z_1 =>
((dAdd (D.int 1) z_1).bind fun z_2 =>
((dPart (D.int 63)).bind fun o_1 =>
((dSlice script none o_1).bind fun z_3 =>
((itStr z_3).bind fun ds =>
((lcO (fun d =>
((dInt d).bind fun z_4 =>
((dAbs z_4).bind fun z_5 =>
some z_5))) ds).bind fun ys =>
((dExt [(D.int 0), z_2, (D.int 0)] (D.lst ys)).bind fun ds_1 =>
some ds_1)))))))))
def m_law_draw (Ac : Cs) (purse : List D) (size : D) : Option (D × List D) :=
((((dIx (D.lst purse) (D.int 0)).bind fun z =>
((bEq z (D.int 0)).bind fun b =>
((if b then ((dLen (D.lst purse)).bind fun z_1 =>
((bGt z_1 (D.int 3)).bind fun b_1 =>
some b_1)) else some false).bind fun b_2 =>
(if b_2 then
(bp (dPopAt purse (D.int 3)) fun cell purse_2 =>
((bGe cell (D.int 1000000000000000000)).bind fun b_3 =>
(if b_3 then
((dSet purse_2 (D.int 0) cell).bind fun purse_3 =>
some purse_3)
else
((dIx (D.lst purse_2) (D.int 1)).bind fun z_2 =>
((dMul z_2 (D.int 40014)).bind fun z_3 =>
((dMul cell (D.int 48271)).bind fun z_4 =>
((dAdd z_3 z_4).bind fun z_5 =>
((dAdd z_5 (D.int 7)).bind fun z_6 =>
((dInt z_6).bind fun z_7 =>
((dMod z_7 (D.int 2147483563)).bind fun z_8 =>
((dSet purse_2 (D.int 1) z_8).bind fun purse_4 =>
some purse_4)))))))))))
else
some purse)))) : Option (List D)).bind fun purse_5 =>
((dIx (D.lst purse_5) (D.int 2)).bind fun z_9 =>
((dAdd z_9 (D.int 1)).bind fun z_10 =>
((dSet purse_5 (D.int 2) z_10).bind fun purse_6 =>
((dIx (D.lst purse_6) (D.int 0)).bind fun z_11 =>
((bGt z_11 (D.int 0)).bind fun b_4 =>
(if b_4 then
((dIx (D.lst purse_6) (D.int 0)).bind fun z_12 =>
((dInt z_12).bind fun z_13 =>
((dMod z_13 size).bind fun digit =>
((dIx (D.lst purse_6) (D.int 0)).bind fun z_14 =>
((dDiv z_14 size).bind fun z_15 =>
((dSet purse_6 (D.int 0) z_15).bind fun purse_7 =>
some (digit, purse_7)))))))
else
((dIx (D.lst purse_6) (D.int 1)).bind fun z_16 =>
((dMul z_16 (D.int 48271)).bind fun z_17 =>
((dIx (D.lst purse_6) (D.int 2)).bind fun z_18 =>
((dMul z_18 (D.int 69621)).bind fun z_19 =>
((dAdd z_17 z_19).bind fun z_20 =>
((dInt z_20).bind fun z_21 =>
((dMod z_21 (D.int 2147483647)).bind fun mixed =>
((dMul mixed mixed).bind fun z_22 =>
((dIx (D.lst purse_6) (D.int 1)).bind fun z_23 =>
((dMul z_23 (D.int 16807)).bind fun z_24 =>
((dAdd z_22 z_24).bind fun z_25 =>
((dIx (D.lst purse_6) (D.int 2)).bind fun z_26 =>
((dMul z_26 (D.int 40692)).bind fun z_27 =>
((dAdd z_25 z_27).bind fun z_28 =>
((dInt z_28).bind fun z_29 =>
((dMod z_29 (D.int 2147483399)).bind fun mixed_1 =>
((dDiv mixed_1 (D.int 11)).bind fun z_30 =>
((dMod z_30 size).bind fun r =>
some (r, purse_6))))))))))))))))))))))))))
def mS_law_same (Ac : Cs) (rec_ : D → D → Option (D)) (told : D) (due : D) : Option (D) :=
((bIsi due "tuple").bind fun b =>
((if b then some true else ((bIsi due "list").bind fun b_1 =>
some b_1)).bind fun b_2 =>
(if b_2 then
((bIsi due "tuple").bind fun b_3 =>
((if b_3 then ((bIsi told "tuple").bind fun b_4 =>
some (!b_4)) else some false).bind fun b_5 =>
(if b_5 then
some (D.bl false)
else
((bIsi due "list").bind fun b_6 =>
((if b_6 then ((bIsi told "list").bind fun b_7 =>
some (!b_7)) else some false).bind fun b_8 =>
(if b_8 then
some (D.bl false)
else
((dLen told).bind fun z =>
((dLen due).bind fun z_1 =>
((bNe z z_1).bind fun b_9 =>
(if b_9 then
some (D.bl false)
else
((dLen due).bind fun z_2 =>
((itRng1 z_2).bind fun ds =>
((lcO (fun d =>
((dIx told d).bind fun z_3 =>
((dIx due d).bind fun z_4 =>
((rec_ z_3 z_4).bind fun z_5 =>
some z_5)))) ds).bind fun ys =>
((dAll (D.lst ys)).bind fun r =>
some r))))))))))))))
else
((bIsi due "str").bind fun b_10 =>
(if b_10 then
((bIsi told "str").bind fun b_11 =>
((if b_11 then ((bEq told due).bind fun b_12 =>
some (D.bl b_12)) else some (D.bl false)).bind fun v =>
some v))
else
((bIsi told "int").bind fun b_13 =>
((if b_13 then ((bIsi told "bool").bind fun b_14 =>
((if (!b_14) then ((bEq told due).bind fun b_15 =>
some (D.bl b_15)) else some (D.bl false)).bind fun v_1 =>
some v_1)) else some (D.bl false)).bind fun v_2 =>
some v_2)))))))
def m_law_same (Ac : Cs) : Nat → D → D → Option (D)
  | 0, _, _ => none
  | n_ + 1, told, due => mS_law_same Ac (m_law_same Ac n_) told due
def m_law_order (Ac : Cs) (purse : List D) (count : D) : Option (D × List D) :=
((dRgL count).bind fun rest =>
((itRng1 count).bind fun ds =>
((foldO (S := List D × List D × List D) (fun (rest_2, order_1, purse_2) d =>
((dLen (D.lst rest_2)).bind fun z =>
(bp (m_law_draw Ac purse_2 z) fun z_1 purse_4 =>
(bp (dPopAt rest_2 z_1) fun z_2 rest_4 =>
((dApp order_1 z_2).bind fun order_3 =>
some (rest_4, order_3, purse_4)))))) ds (rest, [], purse)).bind fun (rest_3, order_2, purse_3) =>
some ((D.lst order_2), purse_3))))
def m_law_row (Ac : Cs) (purse : List D) (many : D) : Option (D × List D) :=
((dAdd many (D.int 1)).bind fun z =>
((itRng1 z).bind fun ds =>
(bp (lcS (S := List D) (fun purse_1 d =>
(bp (m_law_draw Ac purse_1 (D.int 7)) fun z_1 purse_3 =>
((dSub z_1 (D.int 3)).bind fun z_2 =>
some (z_2, purse_3)))) ds purse) fun ys purse_4 =>
((dTuple (D.lst ys)).bind fun r =>
some (r, purse_4)))))
def m_law_arc (Ac : Cs) (purse : List D) (origins : D) (aim : D) : Option (D × List D) :=
(bp (m_law_draw Ac purse (D.int 3)) fun many purse_1 =>
((itStr origins).bind fun ds =>
(bp (lcS (S := List D) (fun purse_2 d =>
(bp (m_law_row Ac purse_2 many) fun z purse_4 =>
some ((D.tup [d, (D.tup [z])]), purse_4))) ds purse_1) fun pairs purse_5 =>
((dTuple (D.lst pairs)).bind fun z_1 =>
(bp (m_law_row Ac purse_5 many) fun z_2 purse_6 =>
((m_Edge_init Ac [] aim many z_1 (D.tup []) (D.tup [z_2]) (D.str "plain")).bind fun fs =>
some ((D.obj Ac.c_Edge fs), purse_6)))))))
def m_law_drawn (Ac : Cs) (purse : List D) (count : D) : Option (D × List D) :=
(bp (m_law_draw Ac purse (D.int 3)) fun z_2 purse_6 =>
((itRng1 z_2).bind fun ds =>
((foldO (S := List D × List D) (fun (origins_1, purse_2) d =>
(bp (m_law_draw Ac purse_2 count) fun z purse_4 =>
((dApp origins_1 z).bind fun origins_3 =>
some (origins_3, purse_4)))) ds ([], purse_6)).bind fun (origins_2, purse_3) =>
(bp (m_law_draw Ac purse_3 count) fun z_1 purse_5 =>
some ((D.tup [(D.lst origins_2), z_1]), purse_5)))))
def m_law_ties (Ac : Cs) (purse : List D) (count : D) : Option (D × List D) :=
(((bp (m_law_draw Ac purse (D.int 3)) fun z purse_2 =>
((bEq z (D.int 0)).bind fun b =>
(if b then
(bp (m_law_order Ac purse_2 count) fun order purse_3 =>
((dSub count (D.int 1)).bind fun z_4 =>
((itRng1 z_4).bind fun ds =>
((foldO (S := List D) (fun ties_2 d =>
((dAdd d (D.int 1)).bind fun z_1 =>
((dIx order z_1).bind fun z_2 =>
((dIx order d).bind fun z_3 =>
((dApp ties_2 (D.tup [(D.lst [z_2]), z_3])).bind fun ties_4 =>
some ties_4))))) ds []).bind fun ties_3 =>
some (ties_3, purse_3)))))
else
some ([], purse_2)))) : Option (List D × List D)).bind fun (ties_5, purse_4) =>
((dLen (D.lst ties_5)).bind fun z_6 =>
((dSub (D.int 21) z_6).bind fun z_7 =>
(bp (m_law_draw Ac purse_4 z_7) fun z_8 purse_9 =>
((itRng1 z_8).bind fun ds_1 =>
((foldO (S := List D × List D) (fun (ties_7, purse_6) d_1 =>
(bp (m_law_drawn Ac purse_6 count) fun z_5 purse_8 =>
((dApp ties_7 z_5).bind fun ties_9 =>
some (ties_9, purse_8)))) ds_1 (ties_5, purse_9)).bind fun (ties_8, purse_7) =>
some ((D.lst ties_8), purse_7)))))))
def m_law_reach (Ac : Cs) (ties : D) (given : D) (count : D) : Option (D) :=
((itRng1 count).bind fun ds =>
((lcO (fun d =>
((bInY d given).bind fun b =>
some (D.bl b))) ds).bind fun reached =>
((itRng1 count).bind fun ds_4 =>
((foldO (S := List D) (fun reached_2 d_1 =>
((itStr ties).bind fun ds_2 =>
((foldO (S := List D) (fun reached_5 d_2 =>
(bp (un2 d_2) fun origins aim =>
((itStr origins).bind fun ds_1 =>
((lcO (fun d_3 =>
((dIx (D.lst reached_5) d_3).bind fun z =>
some z)) ds_1).bind fun ys =>
((dAny (D.lst ys)).bind fun z_1 =>
((bTru z_1).bind fun b_1 =>
(if b_1 then
((dSet reached_5 aim (D.bl true)).bind fun reached_7 =>
some reached_7)
else
some reached_5))))))) ds_2 reached_2).bind fun reached_6 =>
some reached_6))) ds_4 reached).bind fun reached_3 =>
((itRng1 count).bind fun ds_3 =>
((lcF (fun d_4 =>
((dIx (D.lst reached_3) d_4).bind fun z_2 =>
((bTru z_2).bind fun b_2 =>
(if b_2 then some (some d_4) else some none)))) ds_3).bind fun r =>
some (D.lst r)))))))
def m_law_asked (Ac : Cs) (network : D) (ties : D) (given : D) (count : D) : Option (D) :=
((dList given).bind fun passed =>
((dMth Ac.c_Network "hanging" network).bind fun u =>
((m_Network_hanging Ac network passed).bind fun told =>
((m_law_reach Ac ties given count).bind fun due =>
((m_law_same Ac 10 (D.lst told) due).bind fun z =>
((bTru z).bind fun b =>
((if (!b) then some true else ((bNe passed given).bind fun b_1 =>
some b_1)).bind fun b_2 =>
(if b_2 then
some (D.bl false)
else
((dApp told (D.int (-1))).bind fun told_1 =>
((dMth Ac.c_Network "hanging" network).bind fun u_1 =>
((dPart (D.int 1)).bind fun o =>
((dSlice given none o).bind fun z_1 =>
((dAdd given z_1).bind fun z_2 =>
((m_Network_hanging Ac network z_2).bind fun z_3 =>
((m_law_same Ac 10 (D.lst z_3) due).bind fun z_4 =>
((bTru z_4).bind fun b_3 =>
(if (!b_3) then
some (D.bl false)
else
((itRng1 count).bind fun ds_1 =>
(Fl.fin (forL (S := D) (R := D) (fun due_2 d =>
((dMth Ac.c_Network "edges_into" network).bind fun u_2 =>
((m_Network_edges_into Ac network d).bind fun into =>
((dLen ties).bind fun z_5 =>
((itRng1 z_5).bind fun ds =>
((lcF (fun d_1 =>
((dIx ties d_1).bind fun z_6 =>
((dIx z_6 (D.int 1)).bind fun z_7 =>
((bEq z_7 d).bind fun b_4 =>
(if b_4 then some (some d_1) else some none))))) ds).bind fun due_4 =>
((m_law_same Ac 10 (D.lst into) (D.lst due_4)).bind fun z_8 =>
((bTru z_8).bind fun b_5 =>
(if (!b_5) then
some (.rt (D.bl false))
else
((dApp into (D.int (-1))).bind fun into_1 =>
((dMth Ac.c_Network "edges_into" network).bind fun u_3 =>
((m_Network_edges_into Ac network d).bind fun z_9 =>
((m_law_same Ac 10 (D.lst z_9) (D.lst due_4)).bind fun z_10 =>
((bTru z_10).bind fun b_6 =>
(if (!b_6) then
some (.rt (D.bl false))
else
some (.nx (D.lst due_4))))))))))))))))) ds_1 due) fun due_3 =>
some (D.bl true))))))))))))))))))))
def m_law_given (Ac : Cs) (purse : List D) (count : D) : Option (D × List D) :=
(bp (m_law_order Ac purse count) fun order purse_1 =>
(bp (m_law_draw Ac purse_1 (D.int 4)) fun way purse_2 =>
((bEq way (D.int 0)).bind fun b =>
(if b then
((dAdd count (D.int 1)).bind fun z =>
(bp (m_law_draw Ac purse_2 z) fun z_1 purse_3 =>
((dPart z_1).bind fun o =>
((dSlice order none o).bind fun r =>
some (r, purse_3)))))
else
((dSub way (D.int 1)).bind fun z_2 =>
((dPart z_2).bind fun o_1 =>
((dSlice order none o_1).bind fun r_1 =>
some (r_1, purse_2))))))))
def m_law (Ac : Cs) (script : D) : Option (D) :=
((m_law_purse Ac script).bind fun purse =>
((m_Frame_init Ac [] (D.str "f") (D.tup [(D.str "x")]) (D.tup [(D.tup [(D.int 1)])])).bind fun fs =>
((m_Frame_init Ac [] (D.str "g") (D.tup [(D.str "y")]) (D.tup [(D.tup [(D.int (-1))])])).bind fun fs_1 =>
(bp (m_law_draw Ac purse (D.int 2)) fun z purse_1 =>
((dAdd (D.int 1) z).bind fun z_1 =>
((dPart z_1).bind fun o =>
((dSlice (D.lst [(D.obj Ac.c_Frame fs), (D.obj Ac.c_Frame fs_1)]) none o).bind fun shells =>
(bp (m_law_draw Ac purse_1 (D.int 12)) fun z_2 purse_2 =>
((dAdd (D.int 1) z_2).bind fun count =>
((itRng1 count).bind fun ds =>
(bp (lcS (S := List D) (fun purse_3 d =>
((dStr d).bind fun z_3 =>
((dAdd (D.str "p") z_3).bind fun z_4 =>
((dLen shells).bind fun z_5 =>
(bp (m_law_draw Ac purse_3 z_5) fun z_6 purse_5 =>
some ((D.tup [z_4, z_6]), purse_5)))))) ds purse_2) fun seats purse_6 =>
(bp (m_law_ties Ac purse_6 count) fun ties purse_7 =>
((itStr ties).bind fun ds_1 =>
(bp (lcS (S := List D) (fun purse_8 d_1 =>
(bp (un2 d_1) fun origins aim =>
(bp (m_law_arc Ac purse_8 origins aim) fun z_7 purse_10 =>
some (z_7, purse_10)))) ds_1 purse_7) fun ys purse_11 =>
((m_Network_init Ac [] shells (D.lst seats) (D.lst ys)).bind fun fs_2 =>
(bp (m_law_given Ac purse_11 count) fun given purse_12 =>
((m_law_asked Ac (D.obj Ac.c_Network fs_2) ties given count).bind fun z_8 =>
((bTru z_8).bind fun b =>
(if (!b) then
some (D.bl false)
else
(bp (m_law_drawn Ac purse_12 count) fun z_9 purse_13 =>
(bp (un2 z_9) fun origins_1 aim_1 =>
((dLen ties).bind fun at' =>
((((bTru ties).bind fun b_1 =>
(bp (if b_1 then (bp (m_law_draw Ac purse_13 (D.int 3)) fun z_10 purse_16 =>
((bGt z_10 (D.int 0)).bind fun b_2 =>
some (b_2, purse_16))) else some (false, purse_13) : Option (Bool × List D)) fun b_3 purse_17 =>
(if b_3 then
((dLen ties).bind fun z_11 =>
(bp (m_law_draw Ac purse_17 z_11) fun at'_2 purse_18 =>
((dMth Ac.c_Network "with_edge" (D.obj Ac.c_Network fs_2)).bind fun u =>
(bp (m_law_arc Ac purse_18 origins_1 aim_1) fun z_12 purse_19 =>
((m_Network_with_edge Ac (D.obj Ac.c_Network fs_2) at'_2 z_12).bind fun changed_1 =>
some (at'_2, changed_1, purse_19))))))
else
((dMth Ac.c_Network "plus_edge" (D.obj Ac.c_Network fs_2)).bind fun u_1 =>
(bp (m_law_arc Ac purse_17 origins_1 aim_1) fun z_13 purse_20 =>
((m_Network_plus_edge Ac (D.obj Ac.c_Network fs_2) z_13).bind fun changed_2 =>
some (at', changed_2, purse_20))))))) : Option (D × D × List D)).bind fun (at'_3, changed_3, purse_21) =>
((dPart at'_3).bind fun o_1 =>
((dSlice ties none o_1).bind fun z_14 =>
((dAdd z_14 (D.lst [(D.tup [origins_1, aim_1])])).bind fun z_15 =>
((dAdd at'_3 (D.int 1)).bind fun z_16 =>
((dPart z_16).bind fun o_2 =>
((dSlice ties o_2 none).bind fun z_17 =>
((dAdd z_15 z_17).bind fun later =>
(bp (m_law_given Ac purse_21 count) fun other purse_22 =>
((m_law_asked Ac changed_3 later given count).bind fun z_18 =>
((bTru z_18).bind fun b_4 =>
((if (!b_4) then some true else ((m_law_asked Ac (D.obj Ac.c_Network fs_2) ties other count).bind fun z_19 =>
((bTru z_19).bind fun b_5 =>
some (!b_5)))).bind fun b_6 =>
(if b_6 then
some (D.bl false)
else
((m_law_asked Ac changed_3 later other count).bind fun z_20 =>
((dBl z_20).bind fun b_7 =>
((if b_7 then ((m_law_asked Ac (D.obj Ac.c_Network fs_2) ties given count).bind fun z_21 =>
some z_21) else some (D.bl false)).bind fun v =>
some v))))))))))))))))))))))))))))))))))))))
end
end Qk14
set_option Elab.async false
set_option linter.all false
set_option maxRecDepth 100000
set_option maxHeartbeats 4000000
/-! Printed by mir.py: the walks. -/
namespace Qk14
open PySem PySem.Spec PyProof.Rows L2 StX Z
section
variable {K : Fg} {Ac : Cs} {mg : Str → Option Value} (T : Txt Ac K mg)
include T
/-! __init__ -/
def kd_Frame_init (c_ : Addr) (a_self : Addr) : List (Str × D) → D × Mem := fun x => (.non, [(a_self, .ins c_ x)])
def S_Frame_init (Ac : Cs) : ZSp := fun ds M kk_ => ∃ (a_self : Addr) (name : D) (variables : D) (forms : D) (self : List (Str × D)) (i : Nat) (o' : List (Str × D)) (M' : Mem), ds = [.at a_self, name, variables, forms] ∧ M[i]? = some (a_self, .ins Ac.c_Frame self) ∧ m_Frame_init Ac self name variables forms = some o' ∧ M.set i (a_self, .ins Ac.c_Frame o') = M' ∧ kk_ .non M'
theorem y_Frame_init {self : List (Str × D)} {name : D} {variables : D} {forms : D} {a_self : Addr} {out : List (Str × D)} (h : m_Frame_init Ac self name variables forms = some out) {DD : ZEnds} (hit : HitD (kd_Frame_init Ac.c_Frame a_self) DD out) : ZS { K := K } (t_Frame_init K Ac) [some (.at a_self), some name, some variables, some forms] [(a_self, MO.ins Ac.c_Frame self)] DD := by
  unfold m_Frame_init at h
  unfold t_Frame_init
  exact (zs_seq (zs_fld T.f_name (zv1 (ob h fun self_1 h1 h => (zv0 ⟨_, 0, _, _, _, [(a_self, MO.ins Ac.c_Frame self_1)], rfl, rfl, (List.Mem.head _), h1, rfl, (zs_seq (zs_fld T.f_variables (z_cb (za_cons (zv2 (za_nil (ob h fun variables_1 h2 h => (y_tuple .eq h2 (ob h fun self_2 h3 h => (zv0 ⟨_, 0, _, _, _, [(a_self, MO.ins Ac.c_Frame self_2)], rfl, rfl, (List.Mem.head _), h3, rfl, (zs_one (zs_seq (zs_fld T.f_forms (z_cb (za_cons (zv3 (za_nil (ob h fun forms_1 h4 h => (y_tuple .eq h4 (ob h fun self_3 h5 h => (zv0 ⟨_, 0, _, _, _, [(a_self, MO.ins Ac.c_Frame self_3)], rfl, rfl, (List.Mem.head _), h5, rfl, (zs_nil (y_end (kd := kd_Frame_init Ac.c_Frame a_self) (x := self_3) [] h hit rfl rfl))⟩)))))))))))⟩))))))))))⟩)))))
theorem z_Frame_init {kk : D → Mem → Prop} {ds : List D} {M : Mem} (h : S_Frame_init Ac ds M kk) : ZS { K := K } (t_Frame_init K Ac) (startD N_Frame_init ds) M { nx := fun _ M' => kk .non M', rt := kk } := by
  obtain ⟨_, _, _, _, _, _, _, _, rfl, hi, hm, rfl, hk⟩ := h
  exact zs_defG (kd := kd_Frame_init Ac.c_Frame _) hi rfl hk fun DD hit => y_Frame_init T hm hit
/-! frame_fits -/
def kd_frame_fits : D → D × Mem := fun x => (x, [])
def S_frame_fits (Ac : Cs) : ZSp := fun ds M kk_ => ∃ (frame : D) (d : D), ds = [frame] ∧ m_frame_fits Ac frame = some d ∧ kk_ d M
theorem y_frame_fits {frame : D} {out : D} (h : m_frame_fits Ac frame = some out) {DD : ZEnds} (hit : HitD (kd_frame_fits) DD out) : ZS { K := K } (t_frame_fits K Ac) [some frame, none, none, none] [] DD := by
  unfold m_frame_fits at h
  unfold t_frame_fits
  exact (zs_seq (zs_asg (z_un (zv0 (ob h fun variables h1 h => (y_fld .eq h1 T.f_variables (zg1 (zs_seq (zs_asg (z_un (zv0 (ob h fun forms h2 h => (y_fld .eq h2 T.f_forms (zg2 (zs_seq (zs_if (zt_test (z_op (z_un (zv1 (ob h fun z h3 h => (y_lenSet h3 (z_cb (za_cons (zv1 (za_nil (ob h fun z_1 h4 h => (y_len .eq h4 (ob h fun b h5 h => (y_ne .eq .eq h5 ⟨_, rfl, ⟨fun hb => (have h := ifT hb h; (zs_ret (z_bl (y_ret (kd := kd_frame_fits) (x := (D.bl false)) [] h hit.rt rfl rfl)))), fun hb => (have h := ifF hb h; (zs_nil (zs_seq (zs_if (zt_or' (zt_test (z_op (z_cb (za_cons (zv2 (za_nil (ob h fun z_2 h6 h => (y_len .eq h6 (z_int (ob h fun b_1 h7 h => (y_eq .eq .eq h7 ⟨_, rfl, (y_or h (fun _ h _ hk => (zt_test (z_op (z_un (zv2 (ob h fun z_3 h8 h => (y_lenSet h8 (z_cb (za_cons (zv2 (za_nil (ob h fun z_4 h9 h => (y_len .eq h9 (ob h fun b_2 h10 h => (y_ne .eq .eq h10 ⟨_, rfl, (y_lfB h hk)⟩))))))))))))))) (fun b_3 h => ⟨fun hb => (have h := ifT hb h; (zs_ret (z_bl (y_ret (kd := kd_frame_fits) (x := (D.bl false)) [] h hit.rt rfl rfl)))), fun hb => (have h := ifF hb h; (zs_nil (zs_seq (zs_for (zi_seqY (zv2 (ob h fun ds h18 h => ⟨_, h18, (y_forD (S := Unit) (kd := kd_frame_fits) (fun _ => [some frame, some variables, some forms, none]) (fun _ => []) h hit.rt .rfl (fun _ d _ h _ Jh11 => (zg3 (zs_seq (zs_if (zt_test (z_op (z_cb (za_cons (zv3 (za_nil (ob h fun z_5 h12 h => (y_len .eq h12 (z_cb (za_cons (zv1 (za_nil (ob h fun z_6 h13 h => (y_len .eq h13 (ob h fun b_4 h14 h => (y_ne .eq .eq h14 ⟨_, rfl, ⟨fun hb => (have h := ifT hb h; (zs_ret (z_bl (y_rtF (r := (D.bl false)) [] h Jh11 rfl rfl rfl)))), fun hb => (have h := ifF hb h; (zs_nil (zs_if (zt_test (z_op (zv3 (z_op (z_tup (za_cons (z_int (za_nil ⟨Nat.le_of_ble_eq_true rfl, (z_cb (za_cons (zv3 (za_nil (ob h fun z_7 h15 h => (y_len .eq h15 (ob h fun z_8 h16 h => (y_repT .eq h16 (ob h fun b_5 h17 h => (y_eq .eq .eq h17 ⟨_, rfl, ⟨fun hb => (have h := ifT hb h; (zs_ret (z_bl (y_rtF (r := (D.bl false)) [] h Jh11 rfl rfl rfl)))), fun hb => (have h := ifF hb h; (zs_nil (y_nxF (n := ()) h Jh11 (.keep (.keep (.keep (.drop .nil)))) rfl rfl)))⟩⟩))))))))))⟩)))))))))))⟩⟩)))))))))))))))))))) (fun _ h => (zs_ret (z_bl (y_ret (kd := kd_frame_fits) (x := (D.bl true)) [] h hit.rt rfl rfl)))) rfl)⟩)))))))⟩))⟩))))))))))))))))⟩⟩))))))))))))))))))))))))))))))
theorem z_frame_fits {kk : D → Mem → Prop} {ds : List D} {M : Mem} (h : S_frame_fits Ac ds M kk) : ZS { K := K } (t_frame_fits K Ac) (startD N_frame_fits ds) M { nx := fun _ M' => kk .non M', rt := kk } := by
  obtain ⟨_, _, rfl, hm, hk⟩ := h
  exact zs_def0 hk fun DD hit => y_frame_fits T hm hit
/-! __init__ -/
def kd_Edge_init (c_ : Addr) (a_self : Addr) : List (Str × D) → D × Mem := fun x => (.non, [(a_self, .ins c_ x)])
def S_Edge_init (Ac : Cs) : ZSp := fun ds M kk_ => ∃ (a_self : Addr) (target : D) (unknowns : D) (sources : D) (guards : D) (effect : D) (label : D) (self : List (Str × D)) (i : Nat) (o' : List (Str × D)) (M' : Mem), ds = [.at a_self, target, unknowns, sources, guards, effect, label] ∧ M[i]? = some (a_self, .ins Ac.c_Edge self) ∧ m_Edge_init Ac self target unknowns sources guards effect label = some o' ∧ M.set i (a_self, .ins Ac.c_Edge o') = M' ∧ kk_ .non M'
theorem y_Edge_init {self : List (Str × D)} {target : D} {unknowns : D} {sources : D} {guards : D} {effect : D} {label : D} {a_self : Addr} {out : List (Str × D)} (h : m_Edge_init Ac self target unknowns sources guards effect label = some out) {DD : ZEnds} (hit : HitD (kd_Edge_init Ac.c_Edge a_self) DD out) : ZS { K := K } (t_Edge_init K Ac) [some (.at a_self), some target, some unknowns, some sources, some guards, some effect, some label] [(a_self, MO.ins Ac.c_Edge self)] DD := by
  unfold m_Edge_init at h
  unfold t_Edge_init
  exact (zs_seq (zs_fld T.f_target (zv1 (ob h fun self_1 h1 h => (zv0 ⟨_, 0, _, _, _, [(a_self, MO.ins Ac.c_Edge self_1)], rfl, rfl, (List.Mem.head _), h1, rfl, (zs_seq (zs_fld T.f_unknowns (zv2 (ob h fun self_2 h2 h => (zv0 ⟨_, 0, _, _, _, [(a_self, MO.ins Ac.c_Edge self_2)], rfl, rfl, (List.Mem.head _), h2, rfl, (zs_seq (zs_fld T.f_sources (z_cb (za_cons (zv3 (za_nil (ob h fun sources_1 h3 h => (y_tuple .eq h3 (ob h fun self_3 h4 h => (zv0 ⟨_, 0, _, _, _, [(a_self, MO.ins Ac.c_Edge self_3)], rfl, rfl, (List.Mem.head _), h4, rfl, (zs_seq (zs_fld T.f_guards (z_cb (za_cons (zv4 (za_nil (ob h fun guards_1 h5 h => (y_tuple .eq h5 (ob h fun self_4 h6 h => (zv0 ⟨_, 0, _, _, _, [(a_self, MO.ins Ac.c_Edge self_4)], rfl, rfl, (List.Mem.head _), h6, rfl, (zs_seq (zs_fld T.f_effect (z_cb (za_cons (zv5 (za_nil (ob h fun effect_1 h7 h => (y_tuple .eq h7 (ob h fun self_5 h8 h => (zv0 ⟨_, 0, _, _, _, [(a_self, MO.ins Ac.c_Edge self_5)], rfl, rfl, (List.Mem.head _), h8, rfl, (zs_one (zs_seq (zs_fld T.f_label (zv6 (ob h fun self_6 h9 h => (zv0 ⟨_, 0, _, _, _, [(a_self, MO.ins Ac.c_Edge self_6)], rfl, rfl, (List.Mem.head _), h9, rfl, (zs_nil (y_end (kd := kd_Edge_init Ac.c_Edge a_self) (x := self_6) [] h hit rfl rfl))⟩))))))⟩))))))))))⟩))))))))))⟩))))))))))⟩)))))⟩)))))
theorem z_Edge_init {kk : D → Mem → Prop} {ds : List D} {M : Mem} (h : S_Edge_init Ac ds M kk) : ZS { K := K } (t_Edge_init K Ac) (startD N_Edge_init ds) M { nx := fun _ M' => kk .non M', rt := kk } := by
  obtain ⟨_, _, _, _, _, _, _, _, _, _, _, rfl, hi, hm, rfl, hk⟩ := h
  exact zs_defG (kd := kd_Edge_init Ac.c_Edge _) hi rfl hk fun DD hit => y_Edge_init T hm hit
/-! forms_of -/
def kd_Network_forms_of : D → D × Mem := fun x => (x, [])
def S_Network_forms_of (Ac : Cs) : ZSp := fun ds M kk_ => ∃ (v_ self place : D) (d : D), ds = [v_, place] ∧ ViewO M v_ self ∧ dMth Ac.c_Network "forms_of" self = some () ∧ m_Network_forms_of Ac self place = some d ∧ kk_ d M
theorem y_Network_forms_of {self : D} {place : D} {out : D} (h : m_Network_forms_of Ac self place = some out) {DD : ZEnds} (hit : HitD (kd_Network_forms_of) DD out) : ZS { K := K } (t_Network_forms_of K Ac) [some self, some place] [] DD := by
  unfold m_Network_forms_of at h
  unfold t_Network_forms_of
  exact (zs_ret (z_un (z_op (z_un (zv0 (ob h fun frames h1 h => (y_fld .eq h1 T.f_frames (z_op (z_op (z_un (zv0 (ob h fun places h2 h => (y_fld .eq h2 T.f_places (zv1 (ob h fun z h3 h => (y_ix .eq .eq h3 (z_int (ob h fun z_1 h4 h => (y_ix .eq .eq h4 (ob h fun z_2 h5 h => (y_ix .eq .eq h5 (ob h fun r h6 h => (y_fld .eq h6 T.f_forms (y_ret (kd := kd_Network_forms_of) (x := r) [] h hit.rt rfl rfl))))))))))))))))))))))))
def kd_Network_forms_of_at (k_ a_view : Addr) (c_view : List (Str × D)) : D → D × Mem := fun x => (x, [(a_view, .ins k_ c_view)])
theorem y_Network_forms_of_at {place : D} {a_view : Addr} {c_view : List (Str × D)} {out : D} (h : m_Network_forms_of Ac (D.obj Ac.c_Network c_view) place = some out) {DD : ZEnds} (hit : HitD (kd_Network_forms_of_at Ac.c_Network a_view c_view) DD out) : ZS { K := K } (t_Network_forms_of K Ac) [some (.at a_view), some place] [(a_view, MO.ins Ac.c_Network c_view)] DD := by
  unfold m_Network_forms_of at h
  unfold t_Network_forms_of
  exact (zs_ret (z_un (z_op (z_un (zv0 (ob h fun frames h1 h => (y_fld (.at 0 rfl) h1 T.f_frames (z_op (z_op (z_un (zv0 (ob h fun places h2 h => (y_fld (.at 0 rfl) h2 T.f_places (zv1 (ob h fun z h3 h => (y_ix .eq .eq h3 (z_int (ob h fun z_1 h4 h => (y_ix .eq .eq h4 (ob h fun z_2 h5 h => (y_ix .eq .eq h5 (ob h fun r h6 h => (y_fld .eq h6 T.f_forms (y_ret (kd := kd_Network_forms_of_at Ac.c_Network a_view c_view) (x := r) [] h hit.rt rfl rfl))))))))))))))))))))))))
theorem z_Network_forms_of {kk : D → Mem → Prop} {ds : List D} {M : Mem} (h : S_Network_forms_of Ac ds M kk) : ZS { K := K } (t_Network_forms_of K Ac) (startD N_Network_forms_of ds) M { nx := fun _ M' => kk .non M', rt := kk } := by
  obtain ⟨_, _, _, _, rfl, hv, hd, hm, hk⟩ := h
  cases hv with
  | eq => exact zs_def0 hk fun DD hit => y_Network_forms_of T hm hit
  | «at» i hi =>
    obtain rfl := dMth_cls hd
    exact zs_defG (kd := kd_Network_forms_of_at _ _ _) hi rfl (by rw [set_id hi]; exact hk) fun DD hit => y_Network_forms_of_at T hm hit
/-! _is_too_large -/
def kd_Network_is_too_large : D → D × Mem := fun x => (x, [])
def S_Network_is_too_large (Ac : Cs) : ZSp := fun ds M kk_ => ∃ (v_ self edge : D) (d : D), ds = [v_, edge] ∧ ViewO M v_ self ∧ dMth Ac.c_Network "_is_too_large" self = some () ∧ m_Network_is_too_large Ac self edge = some d ∧ kk_ d M
theorem y_Network_is_too_large {self : D} {edge : D} {out : D} (h : m_Network_is_too_large Ac self edge = some out) {DD : ZEnds} (hit : HitD (kd_Network_is_too_large) DD out) : ZS { K := K } (t_Network_is_too_large K Ac (S_Network_forms_of Ac)) [some self, some edge, none, none, none] [] DD := by
  unfold m_Network_is_too_large at h
  unfold t_Network_is_too_large
  exact (zs_seq (zs_asg (z_cb (za_cons (z_un (zv1 (ob h fun guards h1 h => (y_fld .eq h1 T.f_guards (za_nil (ob h fun constraints h2 h => (y_len .eq h2 (zg2 (zs_seq (zs_for (zi_seqY (z_un (zv1 (ob h fun sources h12 h => (y_fld .eq h12 T.f_sources (ob h fun ds h13 h => ⟨_, h13, (y_forO (S := D) (fun constraints_1 => [some self, some edge, some constraints_1, none, none]) (fun constraints_1 => []) h .rfl (fun constraints_2 d _ h _ Jh3 => (obp h fun place z h4 h => zg_un2 h4 (zg3 (zg4 (zs_one (zs_seq (zs_augA (n := 2) rfl (z_cb (za_cons (z_mth (zv0 (ob h fun u h5 h => ⟨⟨_, .eq, h5⟩, (za_cons (zv3 (za_nil (ob h fun z_1 h6 h => zc_call (S := S_Network_forms_of Ac) ⟨_, _, _, _, rfl, .eq, h5, h6, (za_nil (ob h fun z_2 h7 h => (y_len .eq h7 (ob h fun constraints_4 h8 h => ⟨_, [some self, some edge, some constraints_4, some place, some z], h8, rfl, (zs_nil (y_nx h Jh3 (.keep (.keep (.keep (.drop (.drop .nil))))) rfl rfl))⟩))))⟩))))⟩)))))))))))) (fun constraints_3 h => (zs_ret (z_orV' (z_op (z_un (zv1 (ob h fun unknowns h9 h => (y_fld .eq h9 T.f_unknowns (z_int (ob h fun b h10 h => (y_gt .eq .eq h10 ⟨_, rfl, (y_orV h (fun _ h _ hk => (z_op (zv2 (z_int (ob h fun b_1 h11 h => (y_gt .eq .eq h11 (y_lf h hk))))))) (fun v h => (y_ret (kd := kd_Network_is_too_large) (x := v) [] h hit.rt rfl rfl)))⟩))))))))))) rfl)⟩))))))))))))))))))))
def kd_Network_is_too_large_at (k_ a_view : Addr) (c_view : List (Str × D)) : D → D × Mem := fun x => (x, [(a_view, .ins k_ c_view)])
theorem y_Network_is_too_large_at {edge : D} {a_view : Addr} {c_view : List (Str × D)} {out : D} (h : m_Network_is_too_large Ac (D.obj Ac.c_Network c_view) edge = some out) {DD : ZEnds} (hit : HitD (kd_Network_is_too_large_at Ac.c_Network a_view c_view) DD out) : ZS { K := K } (t_Network_is_too_large K Ac (S_Network_forms_of Ac)) [some (.at a_view), some edge, none, none, none] [(a_view, MO.ins Ac.c_Network c_view)] DD := by
  unfold m_Network_is_too_large at h
  unfold t_Network_is_too_large
  exact (zs_seq (zs_asg (z_cb (za_cons (z_un (zv1 (ob h fun guards h1 h => (y_fld .eq h1 T.f_guards (za_nil (ob h fun constraints h2 h => (y_len .eq h2 (zg2 (zs_seq (zs_for (zi_seqY (z_un (zv1 (ob h fun sources h12 h => (y_fld .eq h12 T.f_sources (ob h fun ds h13 h => ⟨_, h13, (y_forO (S := D) (fun constraints_1 => [some (.at a_view), some edge, some constraints_1, none, none]) (fun constraints_1 => [(a_view, MO.ins Ac.c_Network c_view)]) h .rfl (fun constraints_2 d _ h _ Jh3 => (obp h fun place z h4 h => zg_un2 h4 (zg3 (zg4 (zs_one (zs_seq (zs_augA (n := 2) rfl (z_cb (za_cons (z_mth (zv0 (ob h fun u h5 h => ⟨⟨_, (.at 0 rfl), h5⟩, (za_cons (zv3 (za_nil (ob h fun z_1 h6 h => zc_call (S := S_Network_forms_of Ac) ⟨_, _, _, _, rfl, (.at 0 rfl), h5, h6, (za_nil (ob h fun z_2 h7 h => (y_len .eq h7 (ob h fun constraints_4 h8 h => ⟨_, [some (.at a_view), some edge, some constraints_4, some place, some z], h8, rfl, (zs_nil (y_nx h Jh3 (.keep (.keep (.keep (.drop (.drop .nil))))) rfl rfl))⟩))))⟩))))⟩)))))))))))) (fun constraints_3 h => (zs_ret (z_orV' (z_op (z_un (zv1 (ob h fun unknowns h9 h => (y_fld .eq h9 T.f_unknowns (z_int (ob h fun b h10 h => (y_gt .eq .eq h10 ⟨_, rfl, (y_orV h (fun _ h _ hk => (z_op (zv2 (z_int (ob h fun b_1 h11 h => (y_gt .eq .eq h11 (y_lf h hk))))))) (fun v h => (y_ret (kd := kd_Network_is_too_large_at Ac.c_Network a_view c_view) (x := v) [] h hit.rt rfl rfl)))⟩))))))))))) rfl)⟩))))))))))))))))))))
theorem z_Network_is_too_large {kk : D → Mem → Prop} {ds : List D} {M : Mem} (h : S_Network_is_too_large Ac ds M kk) : ZS { K := K } (t_Network_is_too_large K Ac (S_Network_forms_of Ac)) (startD N_Network_is_too_large ds) M { nx := fun _ M' => kk .non M', rt := kk } := by
  obtain ⟨_, _, _, _, rfl, hv, hd, hm, hk⟩ := h
  cases hv with
  | eq => exact zs_def0 hk fun DD hit => y_Network_is_too_large T hm hit
  | «at» i hi =>
    obtain rfl := dMth_cls hd
    exact zs_defG (kd := kd_Network_is_too_large_at _ _ _) hi rfl (by rw [set_id hi]; exact hk) fun DD hit => y_Network_is_too_large_at T hm hit
/-! variables_of -/
def kd_Network_variables_of : D → D × Mem := fun x => (x, [])
def S_Network_variables_of (Ac : Cs) : ZSp := fun ds M kk_ => ∃ (v_ self place : D) (d : D), ds = [v_, place] ∧ ViewO M v_ self ∧ dMth Ac.c_Network "variables_of" self = some () ∧ m_Network_variables_of Ac self place = some d ∧ kk_ d M
theorem y_Network_variables_of {self : D} {place : D} {out : D} (h : m_Network_variables_of Ac self place = some out) {DD : ZEnds} (hit : HitD (kd_Network_variables_of) DD out) : ZS { K := K } (t_Network_variables_of K Ac) [some self, some place] [] DD := by
  unfold m_Network_variables_of at h
  unfold t_Network_variables_of
  exact (zs_ret (z_un (z_op (z_un (zv0 (ob h fun frames h1 h => (y_fld .eq h1 T.f_frames (z_op (z_op (z_un (zv0 (ob h fun places h2 h => (y_fld .eq h2 T.f_places (zv1 (ob h fun z h3 h => (y_ix .eq .eq h3 (z_int (ob h fun z_1 h4 h => (y_ix .eq .eq h4 (ob h fun z_2 h5 h => (y_ix .eq .eq h5 (ob h fun r h6 h => (y_fld .eq h6 T.f_variables (y_ret (kd := kd_Network_variables_of) (x := r) [] h hit.rt rfl rfl))))))))))))))))))))))))
def kd_Network_variables_of_at (k_ a_view : Addr) (c_view : List (Str × D)) : D → D × Mem := fun x => (x, [(a_view, .ins k_ c_view)])
theorem y_Network_variables_of_at {place : D} {a_view : Addr} {c_view : List (Str × D)} {out : D} (h : m_Network_variables_of Ac (D.obj Ac.c_Network c_view) place = some out) {DD : ZEnds} (hit : HitD (kd_Network_variables_of_at Ac.c_Network a_view c_view) DD out) : ZS { K := K } (t_Network_variables_of K Ac) [some (.at a_view), some place] [(a_view, MO.ins Ac.c_Network c_view)] DD := by
  unfold m_Network_variables_of at h
  unfold t_Network_variables_of
  exact (zs_ret (z_un (z_op (z_un (zv0 (ob h fun frames h1 h => (y_fld (.at 0 rfl) h1 T.f_frames (z_op (z_op (z_un (zv0 (ob h fun places h2 h => (y_fld (.at 0 rfl) h2 T.f_places (zv1 (ob h fun z h3 h => (y_ix .eq .eq h3 (z_int (ob h fun z_1 h4 h => (y_ix .eq .eq h4 (ob h fun z_2 h5 h => (y_ix .eq .eq h5 (ob h fun r h6 h => (y_fld .eq h6 T.f_variables (y_ret (kd := kd_Network_variables_of_at Ac.c_Network a_view c_view) (x := r) [] h hit.rt rfl rfl))))))))))))))))))))))))
theorem z_Network_variables_of {kk : D → Mem → Prop} {ds : List D} {M : Mem} (h : S_Network_variables_of Ac ds M kk) : ZS { K := K } (t_Network_variables_of K Ac) (startD N_Network_variables_of ds) M { nx := fun _ M' => kk .non M', rt := kk } := by
  obtain ⟨_, _, _, _, rfl, hv, hd, hm, hk⟩ := h
  cases hv with
  | eq => exact zs_def0 hk fun DD hit => y_Network_variables_of T hm hit
  | «at» i hi =>
    obtain rfl := dMth_cls hd
    exact zs_defG (kd := kd_Network_variables_of_at _ _ _) hi rfl (by rw [set_id hi]; exact hk) fun DD hit => y_Network_variables_of_at T hm hit
/-! _edge_fits -/
def kd_Network_edge_fits : D → D × Mem := fun x => (x, [])
def S_Network_edge_fits (Ac : Cs) : ZSp := fun ds M kk_ => ∃ (v_ self edge : D) (d : D), ds = [v_, edge] ∧ ViewO M v_ self ∧ dMth Ac.c_Network "_edge_fits" self = some () ∧ m_Network_edge_fits Ac self edge = some d ∧ kk_ d M
theorem y_Network_edge_fits {self : D} {edge : D} {out : D} (h : m_Network_edge_fits Ac self edge = some out) {DD : ZEnds} (hit : HitD (kd_Network_edge_fits) DD out) : ZS { K := K } (t_Network_edge_fits K Ac (S_Network_variables_of Ac)) [some self, some edge, none, none, none, none] [] DD := by
  unfold m_Network_edge_fits at h
  unfold t_Network_edge_fits
  exact (zs_seq (zs_if (zt_test (z_op (z_cb (za_cons (z_un (zv1 (ob h fun sources h1 h => (y_fld .eq h1 T.f_sources (za_nil (ob h fun z h2 h => (y_len .eq h2 (z_int (ob h fun b h3 h => (y_gt .eq .eq h3 ⟨_, rfl, ⟨fun hb => (have h := ifT hb h; (zs_ret (z_bl (y_ret (kd := kd_Network_edge_fits) (x := (D.bl false)) [] h hit.rt rfl rfl)))), fun hb => (have h := ifF hb h; (zs_nil (zs_seq (zs_asg (z_lsM (za_cons (z_un (zv1 (ob h fun guards h4 h => (y_fld .eq h4 T.f_guards (za_nil (ob h fun rows h5 h => ⟨_, _, _, rfl, .eq, h5, (fun p_rows => zg2 (zs_seq (zs_for (zi_seqY (z_op (z_un (zv1 (ob h fun sources_1 h24 h => (y_fld .eq h24 T.f_sources (z_tup (za_cons (z_tup (za_cons (z_un (zv1 (ob h fun target h25 h => (y_fld .eq h25 T.f_target (za_cons (z_un (zv1 (ob h fun effect h26 h => (y_fld .eq h26 T.f_effect (za_nil ⟨Nat.le_of_ble_eq_true rfl, (za_nil ⟨Nat.le_of_ble_eq_true rfl, (ob h fun z_7 h27 h => (y_add .eq .eq h27 (ob h fun ds_1 h28 h => ⟨_, h28, (y_forD (S := List D) (kd := kd_Network_edge_fits) (fun rows_1 => [some self, some edge, some (.at p_rows), none, none, none]) (fun rows_1 => [(p_rows, MO.lst rows_1)]) h hit.rt .rfl (fun rows_2 d _ h _ Jh6 => (obp h fun place part h7 h => zg_un2 h7 (zg3 (zg4 (zs_seq (zs_if (zt_not (zt_test (z_chain' (z_int (zv3 (ob h fun b_1 h8 h => (y_le .eq .eq h8 ⟨_, rfl, y_chain h (fun _ h _ hk => (z_cb (za_cons (z_un (zv0 (ob h fun places h9 h => (y_fld .eq h9 T.f_places (za_nil (ob h fun z_1 h10 h => (y_len .eq h10 (ob h fun b_2 h11 h => (y_lt .eq .eq h11 (y_lfC h hk))))))))))))) (fun b_3 h => ⟨_, rfl, ⟨fun hb => (have h := ifT hb h; (zs_ret (z_bl (y_rtF (r := (D.bl false)) [(p_rows, MO.lst rows_2)] h Jh6 rfl rfl rfl)))), fun hb => (have h := ifF hb h; (zs_nil (zs_seq (zs_if (zt_test (z_op (z_cb (za_cons (zv4 (za_nil (ob h fun z_2 h12 h => (y_len .eq h12 (z_cb (za_cons (z_mth (zv0 (ob h fun u h13 h => ⟨⟨_, .eq, h13⟩, (za_cons (zv3 (za_nil (ob h fun z_3 h14 h => zc_call (S := S_Network_variables_of Ac) ⟨_, _, _, _, rfl, .eq, h13, h14, (za_nil (ob h fun z_4 h15 h => (y_len .eq h15 (ob h fun b_4 h16 h => (y_ne .eq .eq h16 ⟨_, rfl, ⟨fun hb => (have h := ifT hb h; (zs_ret (z_bl (y_rtF (r := (D.bl false)) [(p_rows, MO.lst rows_2)] h Jh6 rfl rfl rfl)))), fun hb => (have h := ifF hb h; (zs_nil (zs_one (zs_seq (zs_drop (z_bm (zv2 ⟨⟨_, .at 0 rfl⟩, (za_cons (zv4 (za_nil (ob h fun rows_4 h17 h => y_extZ (i := 0) (M' := [(p_rows, MO.lst rows_4)]) rfl .eq h17 rfl (zs_nil (y_nxF (n := rows_4) h Jh6 (.keep (.keep (.keep (.drop (.drop (.keep .nil)))))) rfl rfl))))))⟩)))))))⟩⟩)))))⟩))))⟩)))))))))))))))))⟩⟩)⟩))))))))))))) (fun rows_3 h => (y_frz (i := 0) (j := 2) (Γ' := [some self, some edge, some (D.lst rows_3), none, none, none]) (M' := []) rfl rfl rfl rfl (zs_seq (zs_for (zi_seqY (zv2 (ob h fun ds h23 h => ⟨_, h23, (y_forD (S := Unit) (kd := kd_Network_edge_fits) (fun _ => [some self, some edge, some (D.lst rows_3), none, none, none]) (fun _ => []) h hit.rt .rfl (fun _ d_1 _ h _ Jh18 => (zg5 (zs_if (zt_test (z_op (z_cb (za_cons (zv5 (za_nil (ob h fun z_5 h19 h => (y_len .eq h19 (z_op (z_un (zv1 (ob h fun unknowns h20 h => (y_fld .eq h20 T.f_unknowns (z_int (ob h fun z_6 h21 h => (y_add .eq .eq h21 (ob h fun b_5 h22 h => (y_ne .eq .eq h22 ⟨_, rfl, ⟨fun hb => (have h := ifT hb h; (zs_ret (z_bl (y_rtF (r := (D.bl false)) [] h Jh18 rfl rfl rfl)))), fun hb => (have h := ifF hb h; (zs_nil (y_nxF (n := ()) h Jh18 (.keep (.keep (.keep (.keep (.keep (.drop .nil)))))) rfl rfl)))⟩⟩))))))))))))))))))))) (fun _ h => (zs_ret (z_bl (y_ret (kd := kd_Network_edge_fits) (x := (D.bl true)) [] h hit.rt rfl rfl)))) rfl)⟩))))))) rfl)⟩)))⟩)⟩)))))))))))))))))))))))⟩))))))))))))⟩⟩))))))))))))))))
def kd_Network_edge_fits_at (k_ a_view : Addr) (c_view : List (Str × D)) : D → D × Mem := fun x => (x, [(a_view, .ins k_ c_view)])
theorem y_Network_edge_fits_at {edge : D} {a_view : Addr} {c_view : List (Str × D)} {out : D} (h : m_Network_edge_fits Ac (D.obj Ac.c_Network c_view) edge = some out) {DD : ZEnds} (hit : HitD (kd_Network_edge_fits_at Ac.c_Network a_view c_view) DD out) : ZS { K := K } (t_Network_edge_fits K Ac (S_Network_variables_of Ac)) [some (.at a_view), some edge, none, none, none, none] [(a_view, MO.ins Ac.c_Network c_view)] DD := by
  unfold m_Network_edge_fits at h
  unfold t_Network_edge_fits
  exact (zs_seq (zs_if (zt_test (z_op (z_cb (za_cons (z_un (zv1 (ob h fun sources h1 h => (y_fld .eq h1 T.f_sources (za_nil (ob h fun z h2 h => (y_len .eq h2 (z_int (ob h fun b h3 h => (y_gt .eq .eq h3 ⟨_, rfl, ⟨fun hb => (have h := ifT hb h; (zs_ret (z_bl (y_ret (kd := kd_Network_edge_fits_at Ac.c_Network a_view c_view) (x := (D.bl false)) [] h hit.rt rfl rfl)))), fun hb => (have h := ifF hb h; (zs_nil (zs_seq (zs_asg (z_lsM (za_cons (z_un (zv1 (ob h fun guards h4 h => (y_fld .eq h4 T.f_guards (za_nil (ob h fun rows h5 h => ⟨_, _, _, rfl, .eq, h5, (fun p_rows => zg2 (zs_seq (zs_for (zi_seqY (z_op (z_un (zv1 (ob h fun sources_1 h24 h => (y_fld .eq h24 T.f_sources (z_tup (za_cons (z_tup (za_cons (z_un (zv1 (ob h fun target h25 h => (y_fld .eq h25 T.f_target (za_cons (z_un (zv1 (ob h fun effect h26 h => (y_fld .eq h26 T.f_effect (za_nil ⟨Nat.le_of_ble_eq_true rfl, (za_nil ⟨Nat.le_of_ble_eq_true rfl, (ob h fun z_7 h27 h => (y_add .eq .eq h27 (ob h fun ds_1 h28 h => ⟨_, h28, (y_forD (S := List D) (kd := kd_Network_edge_fits_at Ac.c_Network a_view c_view) (fun rows_1 => [some (.at a_view), some edge, some (.at p_rows), none, none, none]) (fun rows_1 => [(p_rows, MO.lst rows_1), (a_view, MO.ins Ac.c_Network c_view)]) h hit.rt .rfl (fun rows_2 d _ h _ Jh6 => (obp h fun place part h7 h => zg_un2 h7 (zg3 (zg4 (zs_seq (zs_if (zt_not (zt_test (z_chain' (z_int (zv3 (ob h fun b_1 h8 h => (y_le .eq .eq h8 ⟨_, rfl, y_chain h (fun _ h _ hk => (z_cb (za_cons (z_un (zv0 (ob h fun places h9 h => (y_fld (.at 1 rfl) h9 T.f_places (za_nil (ob h fun z_1 h10 h => (y_len .eq h10 (ob h fun b_2 h11 h => (y_lt .eq .eq h11 (y_lfC h hk))))))))))))) (fun b_3 h => ⟨_, rfl, ⟨fun hb => (have h := ifT hb h; (zs_ret (z_bl (y_rtF (r := (D.bl false)) [(p_rows, MO.lst rows_2)] h Jh6 rfl rfl rfl)))), fun hb => (have h := ifF hb h; (zs_nil (zs_seq (zs_if (zt_test (z_op (z_cb (za_cons (zv4 (za_nil (ob h fun z_2 h12 h => (y_len .eq h12 (z_cb (za_cons (z_mth (zv0 (ob h fun u h13 h => ⟨⟨_, (.at 1 rfl), h13⟩, (za_cons (zv3 (za_nil (ob h fun z_3 h14 h => zc_call (S := S_Network_variables_of Ac) ⟨_, _, _, _, rfl, (.at 1 rfl), h13, h14, (za_nil (ob h fun z_4 h15 h => (y_len .eq h15 (ob h fun b_4 h16 h => (y_ne .eq .eq h16 ⟨_, rfl, ⟨fun hb => (have h := ifT hb h; (zs_ret (z_bl (y_rtF (r := (D.bl false)) [(p_rows, MO.lst rows_2)] h Jh6 rfl rfl rfl)))), fun hb => (have h := ifF hb h; (zs_nil (zs_one (zs_seq (zs_drop (z_bm (zv2 ⟨⟨_, .at 0 rfl⟩, (za_cons (zv4 (za_nil (ob h fun rows_4 h17 h => y_extZ (i := 0) (M' := [(p_rows, MO.lst rows_4), (a_view, MO.ins Ac.c_Network c_view)]) rfl .eq h17 rfl (zs_nil (y_nxF (n := rows_4) h Jh6 (.keep (.keep (.keep (.drop (.drop (.keep .nil)))))) rfl rfl))))))⟩)))))))⟩⟩)))))⟩))))⟩)))))))))))))))))⟩⟩)⟩))))))))))))) (fun rows_3 h => (y_frz (i := 0) (j := 2) (Γ' := [some (.at a_view), some edge, some (D.lst rows_3), none, none, none]) (M' := [(a_view, MO.ins Ac.c_Network c_view)]) rfl rfl rfl rfl (zs_seq (zs_for (zi_seqY (zv2 (ob h fun ds h23 h => ⟨_, h23, (y_forD (S := Unit) (kd := kd_Network_edge_fits_at Ac.c_Network a_view c_view) (fun _ => [some (.at a_view), some edge, some (D.lst rows_3), none, none, none]) (fun _ => [(a_view, MO.ins Ac.c_Network c_view)]) h hit.rt .rfl (fun _ d_1 _ h _ Jh18 => (zg5 (zs_if (zt_test (z_op (z_cb (za_cons (zv5 (za_nil (ob h fun z_5 h19 h => (y_len .eq h19 (z_op (z_un (zv1 (ob h fun unknowns h20 h => (y_fld .eq h20 T.f_unknowns (z_int (ob h fun z_6 h21 h => (y_add .eq .eq h21 (ob h fun b_5 h22 h => (y_ne .eq .eq h22 ⟨_, rfl, ⟨fun hb => (have h := ifT hb h; (zs_ret (z_bl (y_rtF (r := (D.bl false)) [] h Jh18 rfl rfl rfl)))), fun hb => (have h := ifF hb h; (zs_nil (y_nxF (n := ()) h Jh18 (.keep (.keep (.keep (.keep (.keep (.drop .nil)))))) rfl rfl)))⟩⟩))))))))))))))))))))) (fun _ h => (zs_ret (z_bl (y_ret (kd := kd_Network_edge_fits_at Ac.c_Network a_view c_view) (x := (D.bl true)) [] h hit.rt rfl rfl)))) rfl)⟩))))))) rfl)⟩)))⟩)⟩)))))))))))))))))))))))⟩))))))))))))⟩⟩))))))))))))))))
theorem z_Network_edge_fits {kk : D → Mem → Prop} {ds : List D} {M : Mem} (h : S_Network_edge_fits Ac ds M kk) : ZS { K := K } (t_Network_edge_fits K Ac (S_Network_variables_of Ac)) (startD N_Network_edge_fits ds) M { nx := fun _ M' => kk .non M', rt := kk } := by
  obtain ⟨_, _, _, _, rfl, hv, hd, hm, hk⟩ := h
  cases hv with
  | eq => exact zs_def0 hk fun DD hit => y_Network_edge_fits T hm hit
  | «at» i hi =>
    obtain rfl := dMth_cls hd
    exact zs_defG (kd := kd_Network_edge_fits_at _ _ _) hi rfl (by rw [set_id hi]; exact hk) fun DD hit => y_Network_edge_fits_at T hm hit
/-! __init__ -/
def kd_Network_init (c_ : Addr) (a_self : Addr) : List (Str × D) → D × Mem := fun x => (.non, [(a_self, .ins c_ x)])
def S_Network_init (Ac : Cs) : ZSp := fun ds M kk_ => ∃ (a_self : Addr) (frames : D) (places : D) (edges : D) (self : List (Str × D)) (i : Nat) (o' : List (Str × D)) (M' : Mem), ds = [.at a_self, frames, places, edges] ∧ M[i]? = some (a_self, .ins Ac.c_Network self) ∧ m_Network_init Ac self frames places edges = some o' ∧ M.set i (a_self, .ins Ac.c_Network o') = M' ∧ kk_ .non M'
theorem y_Network_init {self : List (Str × D)} {frames : D} {places : D} {edges : D} {a_self : Addr} {out : List (Str × D)} (h : m_Network_init Ac self frames places edges = some out) {DD : ZEnds} (hit : HitD (kd_Network_init Ac.c_Network a_self) DD out) : ZS { K := K } (t_Network_init K Ac (S_frame_fits Ac) (S_Network_edge_fits Ac) (S_Network_is_too_large Ac)) [some (.at a_self), some frames, some places, some edges, none, none, none, none, none, none] [(a_self, MO.ins Ac.c_Network self)] DD := by
  unfold m_Network_init at h
  unfold t_Network_init
  exact (zs_seq (zs_fld T.f_frames (z_cb (za_cons (zv1 (za_nil (ob h fun frames_1 h1 h => (y_tuple .eq h1 (ob h fun self_1 h2 h => (zv0 ⟨_, 0, _, _, _, [(a_self, MO.ins Ac.c_Network self_1)], rfl, rfl, (List.Mem.head _), h2, rfl, (zs_seq (zs_fld T.f_places (z_cb (za_cons (zv2 (za_nil (ob h fun places_1 h3 h => (y_tuple .eq h3 (ob h fun self_2 h4 h => (zv0 ⟨_, 0, _, _, _, [(a_self, MO.ins Ac.c_Network self_2)], rfl, rfl, (List.Mem.head _), h4, rfl, (zs_seq (zs_fld T.f_edges (z_cb (za_cons (zv3 (za_nil (ob h fun edges_1 h5 h => (y_tuple .eq h5 (ob h fun self_3 h6 h => (zv0 ⟨_, 0, _, _, _, [(a_self, MO.ins Ac.c_Network self_3)], rfl, rfl, (List.Mem.head _), h6, rfl, (zs_seq (zs_for (zi_enum' (za_cons (z_un (zv0 (ob h fun frames_3 h32 h => (y_fld (.at 0 rfl) h32 T.f_frames (za_nil (ob h fun ds_2 h33 h => ⟨_, _, rfl, h33, (y_forO (S := Unit) (fun _ => [some (.at a_self), some frames, some places, some edges, none, none, none, none, none, none]) (fun _ => [(a_self, MO.ins Ac.c_Network self_3)]) h .rfl (fun _ d _ h _ Jh7 => (obp h fun number frame h8 h => zg_un2 h8 (zg4 (zg5 (zs_if (zt_not (zt_truth (z_cb (za_cons (zv5 (za_nil (ob h fun z h9 h => zc_call (S := S_frame_fits Ac) ⟨_, _, rfl, h9, (ob h fun b h10 h => ⟨_, y_truD .eq h10, ⟨fun hb => (have h := ifT hb h; (nomatch h)), fun hb => (have h := ifF hb h; (zs_nil (y_nx h Jh7 (.keep (.keep (.keep (.keep (.drop (.drop (.keep (.keep (.keep (.keep .nil)))))))))) rfl rfl)))⟩⟩)⟩)))))))))))) (fun _ h => (zs_seq (zs_asg (z_dnewM (fun p_names => zg6 (zs_seq (zs_for (zi_enum' (za_cons (z_un (zv0 (ob h fun places_2 h30 h => (y_fld (.at 1 rfl) h30 T.f_places (za_nil (ob h fun ds_1 h31 h => ⟨_, _, rfl, h31, (y_forO (S := List (Key × D)) (fun names => [some (.at a_self), some frames, some places, some edges, none, none, some (.at p_names), none, none, none]) (fun names => [(p_names, MO.dK names), (a_self, MO.ins Ac.c_Network self_3)]) h .rfl (fun names_1 d_1 _ h _ Jh11 => (obp h fun number_1 pr h12 h => zg_un2 h12 (zg4 (obp h fun name frame_number h13 h => zg_un2 h13 (zg7 (zg8 (zs_seq (zs_if (zt_or' (zt_test (z_op (zv7 (zv6 (ob h fun b_1 h14 h => (y_inK (i := 0) rfl h14 ⟨_, rfl, (y_or h (fun _ h _ hk => (zt_not (zt_test (z_chain' (z_int (zv8 (ob h fun b_2 h15 h => (y_le .eq .eq h15 ⟨_, rfl, y_chain h (fun _ h _ hk => (z_cb (za_cons (z_un (zv0 (ob h fun frames_2 h16 h => (y_fld (.at 1 rfl) h16 T.f_frames (za_nil (ob h fun z_1 h17 h => (y_len .eq h17 (ob h fun b_3 h18 h => (y_lt .eq .eq h18 (y_lfC h hk))))))))))))) (fun b_4 h => ⟨_, rfl, (y_lfB h hk)⟩)⟩)))))))) (fun b_5 h => ⟨fun hb => (have h := ifT hb h; (nomatch h)), fun hb => (have h := ifF hb h; (zs_nil (zs_one (zs_seq (zs_asg (z_bl (zg_setK (zv6 (zv7 (ob h fun names_3 h19 h => ⟨_, 0, _, _, [(p_names, MO.dK names_3), (a_self, MO.ins Ac.c_Network self_3)], rfl, rfl, h19, rfl, (zs_nil (y_nx h Jh11 (.keep (.keep (.keep (.keep (.drop (.keep (.keep (.drop (.drop (.keep .nil)))))))))) rfl rfl))⟩))))))))))⟩))⟩))))))))))))))) (fun names_2 h => (zs_one (zs_seq (zs_for (zi_enum' (za_cons (z_un (zv0 (ob h fun edges_2 h28 h => (y_fld (.at 1 rfl) h28 T.f_edges (za_nil (ob h fun ds h29 h => ⟨_, _, rfl, h29, (y_forO (S := Unit) (fun _ => [some (.at a_self), some frames, some places, some edges, none, none, some (.at p_names), none, none, none]) (fun _ => [(p_names, MO.dK names_2), (a_self, MO.ins Ac.c_Network self_3)]) h .rfl (fun _ d_2 _ h _ Jh20 => (obp h fun number_2 edge h21 h => zg_un2 h21 (zg4 (zg9 (zs_seq (zs_if (zt_not (zt_truth (z_mth (zv0 (ob h fun u h22 h => ⟨⟨_, (.at 1 rfl), h22⟩, (za_cons (zv9 (za_nil (ob h fun z_2 h23 h => zc_call (S := S_Network_edge_fits Ac) ⟨_, _, _, _, rfl, (.at 1 rfl), h22, h23, (ob h fun b_6 h24 h => ⟨_, y_truD .eq h24, ⟨fun hb => (have h := ifT hb h; (nomatch h)), fun hb => (have h := ifF hb h; (zs_nil (zs_if (zt_truth (z_mth (zv0 (ob h fun u_1 h25 h => ⟨⟨_, (.at 1 rfl), h25⟩, (za_cons (zv9 (za_nil (ob h fun z_3 h26 h => zc_call (S := S_Network_is_too_large Ac) ⟨_, _, _, _, rfl, (.at 1 rfl), h25, h26, (ob h fun b_7 h27 h => ⟨_, y_truD .eq h27, ⟨fun hb => (have h := ifT hb h; (nomatch h)), fun hb => (have h := ifF hb h; (zs_nil (y_nx h Jh20 (.keep (.keep (.keep (.keep (.drop (.keep (.keep (.keep (.keep (.drop .nil)))))))))) rfl rfl)))⟩⟩)⟩))))⟩)))))))⟩⟩)⟩))))⟩))))))))))) (fun _ h => (zs_nil (y_end (kd := kd_Network_init Ac.c_Network a_self) (x := self_3) [(p_names, MO.dK names_2)] h hit rfl rfl))) rfl)⟩)))))))))))) rfl)⟩))))))))))))))) rfl)⟩))))))))))⟩))))))))))⟩))))))))))⟩))))))))))
theorem z_Network_init {kk : D → Mem → Prop} {ds : List D} {M : Mem} (h : S_Network_init Ac ds M kk) : ZS { K := K } (t_Network_init K Ac (S_frame_fits Ac) (S_Network_edge_fits Ac) (S_Network_is_too_large Ac)) (startD N_Network_init ds) M { nx := fun _ M' => kk .non M', rt := kk } := by
  obtain ⟨_, _, _, _, _, _, _, _, rfl, hi, hm, rfl, hk⟩ := h
  exact zs_defG (kd := kd_Network_init Ac.c_Network _) hi rfl hk fun DD hit => y_Network_init T hm hit
/-! edges_into -/
def kd_Network_edges_into : List D → List D × Mem := fun x => (x, [])
def S_Network_edges_into (Ac : Cs) : ZSp := fun ds M kk_ => ∃ (self place : D) (d : List D), ds = [self, place] ∧ m_Network_edges_into Ac self place = some d ∧ ∀ p, kk_ (.at p) ((p, .lst d) :: M)
theorem y_Network_edges_into {self : D} {place : D} {out : List D} (h : m_Network_edges_into Ac self place = some out) {DD : ZEnds} (hit : HitO (kd_Network_edges_into) DD out) : ZS { K := K } (t_Network_edges_into K Ac) [some self, some place, none, none] [] DD := by
  unfold m_Network_edges_into at h
  unfold t_Network_edges_into
  exact (zs_ret (z_lcM (own_t2 (by decide) (by decide)) (zi_enum' (za_cons (z_un (zv0 (ob h fun edges h1 h => (y_fld .eq h1 T.f_edges (za_nil (ob h fun ds h2 h => ⟨_, _, rfl, h2, (ob h fun ys h3 h => y_lcF h3 (fun d _ h _ _ kT kF => (obp h fun number edge h4 h => zg_un2 h4 (zg2 (zg3 (zt_test (z_op (z_un (zv3 (ob h fun target h5 h => (y_fld .eq h5 T.f_target (zv1 (ob h fun b h6 h => (y_eq .eq .eq h6 ⟨_, rfl, ⟨fun hb => (have h := ifT hb h; (zv2 (y_fT h kT))), fun hb => (have h := ifF hb h; y_fF h kF)⟩⟩))))))))))))) (fun p => y_retO (kd := kd_Network_edges_into) (x := ys) [] [] h hit.rt rfl))⟩))))))))))
theorem z_Network_edges_into {kk : D → Mem → Prop} {ds : List D} {M : Mem} (h : S_Network_edges_into Ac ds M kk) : ZS { K := K } (t_Network_edges_into K Ac) (startD N_Network_edges_into ds) M { nx := fun _ M' => kk .non M', rt := kk } := by
  obtain ⟨_, _, _, rfl, hm, hk⟩ := h
  exact zs_defO0 hk fun DD hit => y_Network_edges_into T hm hit
/-! _targets_from -/
def kd_Network_targets_from : D → D × Mem := fun x => (x, [])
def S_Network_targets_from (Ac : Cs) : ZSp := fun ds M kk_ => ∃ (self place : D) (d : D), ds = [self, place] ∧ m_Network_targets_from Ac self place = some d ∧ kk_ d M
theorem y_Network_targets_from {self : D} {place : D} {out : D} (h : m_Network_targets_from Ac self place = some out) {DD : ZEnds} (hit : HitD (kd_Network_targets_from) DD out) : ZS { K := K } (t_Network_targets_from K Ac) [some self, some place, none, none, none, none] [] DD := by
  unfold m_Network_targets_from at h
  unfold t_Network_targets_from
  exact (zs_seq (zs_asg (z_lstM (za_nil ⟨Nat.le_of_ble_eq_true rfl, (fun p_targets => zg2 (zs_seq (zs_for (zi_seqY (z_un (zv0 (ob h fun edges h9 h => (y_fld .eq h9 T.f_edges (ob h fun ds_1 h10 h => ⟨_, h10, (y_forO (S := List D) (fun targets => [some self, some place, some (.at p_targets), none, none, none]) (fun targets => [(p_targets, MO.lst targets)]) h .rfl (fun targets_1 d _ h _ Jh1 => (zg3 (zs_if (zt_test (z_op (zv1 (z_lc (own_t2 (by decide) (by decide)) (zi_seqY (z_un (zv3 (ob h fun sources h2 h => (y_fld .eq h2 T.f_sources (ob h fun ds h3 h => ⟨_, h3, (ob h fun ys h4 h => y_lcO h4 (fun d_1 _ h _ hk => (obp h fun source z h5 h => zg_un2 h5 (zg4 (zg5 (zv4 (y_lf h hk)))))) (ob h fun b h6 h => (y_inY .eq .eq h6 ⟨_, rfl, ⟨fun hb => (have h := ifT hb h; (zs_one (zs_seq (zs_drop (z_bm (zv2 ⟨⟨_, .at 0 rfl⟩, (za_cons (z_un (zv3 (ob h fun target h7 h => (y_fld .eq h7 T.f_target (za_nil (ob h fun targets_3 h8 h => y_append (i := 0) (M' := [(p_targets, MO.lst targets_3)]) rfl h8 rfl (zs_nil (y_nx h Jh1 (.keep (.keep (.keep (.drop (.keep (.keep .nil)))))) rfl rfl)))))))))⟩)))))), fun hb => (have h := ifF hb h; (zs_nil (y_nx h Jh1 (.keep (.keep (.keep (.drop (.keep (.keep .nil)))))) rfl rfl)))⟩⟩)))⟩))))))))))))) (fun targets_2 h => (y_frz (i := 0) (j := 2) (Γ' := [some self, some place, some (D.lst targets_2), none, none, none]) (M' := []) rfl rfl rfl rfl (zs_ret (zv2 (y_ret (kd := kd_Network_targets_from) (x := (D.lst targets_2)) [] h hit.rt rfl rfl))))) rfl)⟩)))))))))⟩))))
theorem z_Network_targets_from {kk : D → Mem → Prop} {ds : List D} {M : Mem} (h : S_Network_targets_from Ac ds M kk) : ZS { K := K } (t_Network_targets_from K Ac) (startD N_Network_targets_from ds) M { nx := fun _ M' => kk .non M', rt := kk } := by
  obtain ⟨_, _, _, rfl, hm, hk⟩ := h
  exact zs_def0 hk fun DD hit => y_Network_targets_from T hm hit
/-! hanging -/
def kd_Network_hanging : List D → List D × Mem := fun x => (x, [])
def S_Network_hanging (Ac : Cs) : ZSp := fun ds M kk_ => ∃ (self places : D) (d : List D), ds = [self, places] ∧ m_Network_hanging Ac self places = some d ∧ ∀ p, kk_ (.at p) ((p, .lst d) :: M)
theorem y_Network_hanging {self : D} {places : D} {out : List D} (h : m_Network_hanging Ac self places = some out) {DD : ZEnds} (hit : HitO (kd_Network_hanging) DD out) : ZS { K := K } (t_Network_hanging K Ac (S_Network_targets_from Ac)) [some self, some places, none, none, none, none] [] DD := by
  unfold m_Network_hanging at h
  unfold t_Network_hanging
  exact (zs_seq (zs_asg (z_repM (z_lst (za_cons (z_bl (za_nil ⟨Nat.le_of_ble_eq_true rfl, (z_cb (za_cons (z_un (zv0 (ob h fun places_1 h1 h => (y_fld .eq h1 T.f_places (za_nil (ob h fun z h2 h => (y_len .eq h2 (ob h fun reached h3 h => ⟨_, _, .eq, h3, (fun p_reached => zg2 (zs_seq (zs_asg (z_lsM (za_cons (zv1 (za_nil (ob h fun open_ends h4 h => ⟨_, _, _, rfl, .eq, h4, (fun p_open_ends => zg3 (y_whlB (S := List D × List D) (fun (open_ends_1, reached_1) => [some self, some places, some (.at p_reached), some (.at p_open_ends), none, none]) (fun (open_ends_1, reached_1) => [(p_open_ends, MO.lst open_ends_1), (p_reached, MO.lst reached_1)]) h .rfl (fun (open_ends_2, reached_2) _ h _ Jh5 => (zt_truth (zv3 (ob h fun b h6 h => ⟨_, y_truD (.at 0 rfl) h6, ⟨fun hb => (have h := ifT hb h; (zs_seq (zs_asg (z_bm0 (zv3 ⟨⟨_, .at 0 rfl⟩, (obp h fun place open_ends_4 h7 h => y_pop (i := 0) (M' := [(p_open_ends, MO.lst open_ends_4), (p_reached, MO.lst reached_2)]) rfl h7 rfl (zg4 (zs_if (zt_not (zt_truth (z_op (zv2 (zv4 (ob h fun z_1 h8 h => (y_ix (.at 1 rfl) .eq h8 (ob h fun b_1 h9 h => ⟨_, y_truD .eq h9, ⟨fun hb => (have h := ifT hb h; (zs_seq (zs_asg (z_bl (zg_setL' (zv2 (zv4 (ob h fun reached_4 h10 h => ⟨_, 1, _, _, [(p_open_ends, MO.lst open_ends_4), (p_reached, MO.lst reached_4)], rfl, rfl, h10, rfl, (zs_one (zs_seq (zs_drop (z_bm (zv3 ⟨⟨_, .at 0 rfl⟩, (za_cons (z_mth (zv0 (ob h fun u h11 h => ⟨⟨_, .eq, h11⟩, (za_cons (zv4 (za_nil (ob h fun z_2 h12 h => zc_call (S := S_Network_targets_from Ac) ⟨_, _, _, rfl, h12, (za_nil (ob h fun open_ends_5 h13 h => y_extZ (i := 0) (M' := [(p_open_ends, MO.lst open_ends_5), (p_reached, MO.lst reached_4)]) rfl .eq h13 rfl (zs_nil (y_nxF (n := (open_ends_5, reached_4)) h Jh5 (.keep (.keep (.keep (.keep (.drop (.keep .nil)))))) rfl rfl))))⟩))))⟩))))⟩)))))⟩)))))))), fun hb => (have h := ifF hb h; (zs_nil (y_nxF (n := (open_ends_4, reached_2)) h Jh5 (.keep (.keep (.keep (.keep (.drop (.keep .nil)))))) rfl rfl)))⟩⟩)))))))))))⟩))))), fun hb => (have h := ifF hb h; y_bkW (n := (open_ends_2, reached_2)) h Jh5 rfl)⟩⟩)))) (fun (open_ends_3, reached_3) h => (y_frz (i := 1) (j := 2) (Γ' := [some self, some places, some (D.lst reached_3), some (.at p_open_ends), none, none]) (M' := [(p_open_ends, MO.lst open_ends_3)]) rfl rfl rfl rfl (zs_ret (z_lcM (own_t2 (by decide) (by decide)) (zi_enum' (za_cons (zv2 (za_nil (ob h fun ds h14 h => ⟨_, _, rfl, h14, (ob h fun ys h15 h => y_lcF h15 (fun d _ h _ _ kT kF => (obp h fun place_1 hangs h16 h => zg_un2 h16 (zg4 (zg5 (zt_truth (zv5 (ob h fun b_2 h17 h => ⟨_, y_truD .eq h17, ⟨fun hb => (have h := ifT hb h; (zv4 (y_fT h kT))), fun hb => (have h := ifF hb h; y_fF h kF)⟩⟩))))))) (fun p => y_retO (kd := kd_Network_hanging) (x := ys) [] [(p_open_ends, MO.lst open_ends_3)] h hit.rt rfl))⟩))))))))) rfl))⟩))))))))⟩))))))))))⟩)))))))
theorem z_Network_hanging {kk : D → Mem → Prop} {ds : List D} {M : Mem} (h : S_Network_hanging Ac ds M kk) : ZS { K := K } (t_Network_hanging K Ac (S_Network_targets_from Ac)) (startD N_Network_hanging ds) M { nx := fun _ M' => kk .non M', rt := kk } := by
  obtain ⟨_, _, _, rfl, hm, hk⟩ := h
  exact zs_defO0 hk fun DD hit => y_Network_hanging T hm hit
/-! with_edge -/
def kd_Network_with_edge : D → D × Mem := fun x => (x, [])
def S_Network_with_edge (Ac : Cs) : ZSp := fun ds M kk_ => ∃ (self number edge : D) (d : D), ds = [self, number, edge] ∧ m_Network_with_edge Ac self number edge = some d ∧ kk_ d M
theorem y_Network_with_edge {self : D} {number : D} {edge : D} {out : D} (h : m_Network_with_edge Ac self number edge = some out) {DD : ZEnds} (hit : HitD (kd_Network_with_edge) DD out) : ZS { K := K } (t_Network_with_edge K Ac (S_Network_init Ac)) [some self, some number, some edge, none] [] DD := by
  unfold m_Network_with_edge at h
  unfold t_Network_with_edge
  exact (zs_seq (zs_if (zt_not (zt_test (z_chain' (z_int (zv1 (ob h fun b h1 h => (y_le .eq .eq h1 ⟨_, rfl, y_chain h (fun _ h _ hk => (z_cb (za_cons (z_un (zv0 (ob h fun edges h2 h => (y_fld .eq h2 T.f_edges (za_nil (ob h fun z h3 h => (y_len .eq h3 (ob h fun b_1 h4 h => (y_lt .eq .eq h4 (y_lfC h hk))))))))))))) (fun b_2 h => ⟨_, rfl, ⟨fun hb => (have h := ifT hb h; (nomatch h)), fun hb => (have h := ifF hb h; (zs_nil (zs_seq (zs_asg (z_op (z_op (z_sl (z_un (zv0 (ob h fun edges_1 h5 h => (y_fld .eq h5 T.f_edges (zo_none (zo_some' (zv1 (ob h fun o h6 h => ⟨_, h6, (ob h fun z_1 h7 h => (y_slice .eq h7 (z_tup (za_cons (zv2 (za_nil ⟨Nat.le_of_ble_eq_true rfl, (ob h fun z_2 h8 h => (y_add .eq .eq h8 (z_sl (z_un (zv0 (ob h fun edges_2 h9 h => (y_fld .eq h9 T.f_edges (zo_some' (z_op (zv1 (z_int (ob h fun z_3 h10 h => (y_add .eq .eq h10 (ob h fun o_1 h11 h => ⟨_, h11, (zo_none (ob h fun z_4 h12 h => (y_slice .eq h12 (ob h fun edges_3 h13 h => (y_add .eq .eq h13 (zg3 (zs_ret (z_cb (za_cons (z_un (zv0 (ob h fun frames h14 h => (y_fld .eq h14 T.f_frames (za_cons (z_un (zv0 (ob h fun places h15 h => (y_fld .eq h15 T.f_places (za_cons (zv3 (za_nil (ob h fun fs h16 h => y_make (S := S_Network_init Ac) (fun _ => ⟨_, _, _, _, [], 0, _, _, rfl, rfl, h16, rfl, rfl, rfl⟩) (y_ret (kd := kd_Network_with_edge) (x := (D.obj Ac.c_Network fs)) [] h hit.rt rfl rfl)))))))))))))))))))))))⟩))))))))))))))⟩))))))⟩)))))))))))))))⟩⟩)⟩)))))))))
theorem z_Network_with_edge {kk : D → Mem → Prop} {ds : List D} {M : Mem} (h : S_Network_with_edge Ac ds M kk) : ZS { K := K } (t_Network_with_edge K Ac (S_Network_init Ac)) (startD N_Network_with_edge ds) M { nx := fun _ M' => kk .non M', rt := kk } := by
  obtain ⟨_, _, _, _, rfl, hm, hk⟩ := h
  exact zs_def0 hk fun DD hit => y_Network_with_edge T hm hit
/-! plus_edge -/
def kd_Network_plus_edge : D → D × Mem := fun x => (x, [])
def S_Network_plus_edge (Ac : Cs) : ZSp := fun ds M kk_ => ∃ (self edge : D) (d : D), ds = [self, edge] ∧ m_Network_plus_edge Ac self edge = some d ∧ kk_ d M
theorem y_Network_plus_edge {self : D} {edge : D} {out : D} (h : m_Network_plus_edge Ac self edge = some out) {DD : ZEnds} (hit : HitD (kd_Network_plus_edge) DD out) : ZS { K := K } (t_Network_plus_edge K Ac (S_Network_init Ac)) [some self, some edge] [] DD := by
  unfold m_Network_plus_edge at h
  unfold t_Network_plus_edge
  exact (zs_ret (z_cb (za_cons (z_un (zv0 (ob h fun frames h1 h => (y_fld .eq h1 T.f_frames (za_cons (z_un (zv0 (ob h fun places h2 h => (y_fld .eq h2 T.f_places (za_cons (z_op (z_un (zv0 (ob h fun edges h3 h => (y_fld .eq h3 T.f_edges (z_tup (za_cons (zv1 (za_nil ⟨Nat.le_of_ble_eq_true rfl, (ob h fun z h4 h => (y_add .eq .eq h4 (za_nil (ob h fun fs h5 h => y_make (S := S_Network_init Ac) (fun _ => ⟨_, _, _, _, [], 0, _, _, rfl, rfl, h5, rfl, rfl, rfl⟩) (y_ret (kd := kd_Network_plus_edge) (x := (D.obj Ac.c_Network fs)) [] h hit.rt rfl rfl)))))⟩))))))))))))))))))))))
theorem z_Network_plus_edge {kk : D → Mem → Prop} {ds : List D} {M : Mem} (h : S_Network_plus_edge Ac ds M kk) : ZS { K := K } (t_Network_plus_edge K Ac (S_Network_init Ac)) (startD N_Network_plus_edge ds) M { nx := fun _ M' => kk .non M', rt := kk } := by
  obtain ⟨_, _, _, rfl, hm, hk⟩ := h
  exact zs_def0 hk fun DD hit => y_Network_plus_edge T hm hit
/-! _law_purse -/
def kd_law_purse : List D → List D × Mem := fun x => (x, [])
def S_law_purse (Ac : Cs) : ZSp := fun ds M kk_ => ∃ (script : D) (d : List D), ds = [script] ∧ m_law_purse Ac script = some d ∧ ∀ p, kk_ (.at p) ((p, .lst d) :: M)
theorem y_law_purse {script : D} {out : List D} (h : m_law_purse Ac script = some out) {DD : ZEnds} (hit : HitO (kd_law_purse) DD out) : ZS { K := K } (t_law_purse K Ac) [some script, none] [] DD := by
  unfold m_law_purse at h
  unfold t_law_purse
  exact (zs_ret (z_addM (z_lst (za_cons (z_int (za_cons (z_op (z_int (z_cb (za_cons (z_sl (zv0 (zo_none (zo_some' (z_int (ob h fun o h1 h => ⟨_, h1, (ob h fun z h2 h => (y_slice .eq h2 (za_nil (ob h fun z_1 h3 h => (y_len .eq h3 (ob h fun z_2 h4 h => (y_add .eq .eq h4 (za_cons (z_int (za_nil ⟨Nat.le_of_ble_eq_true rfl, (z_lc (own_name (by decide)) (zi_seqY (z_sl (zv0 (zo_none (zo_some' (z_int (ob h fun o_1 h5 h => ⟨_, h5, (ob h fun z_3 h6 h => (y_slice .eq h6 (ob h fun ds h7 h => ⟨_, h7, (ob h fun ys h8 h => y_lcO h8 (fun d _ h _ hk => (zg1 (z_cb (za_cons (z_cb (za_cons (zv1 (za_nil (ob h fun z_4 h9 h => (y_int h9 (za_nil (ob h fun z_5 h10 h => (y_abs h10 (y_lf h hk)))))))))))))) (ob h fun ds_1 h11 h => ⟨_, _, _, .eq, .eq, h11, (fun p => y_retO (kd := kd_law_purse) (x := ds_1) [] [] h hit.rt rfl)⟩))⟩)))⟩))))))))⟩))))))))))⟩))))))))))))))))
theorem z_law_purse {kk : D → Mem → Prop} {ds : List D} {M : Mem} (h : S_law_purse Ac ds M kk) : ZS { K := K } (t_law_purse K Ac) (startD N_law_purse ds) M { nx := fun _ M' => kk .non M', rt := kk } := by
  obtain ⟨_, _, rfl, hm, hk⟩ := h
  exact zs_defO0 hk fun DD hit => y_law_purse T hm hit
/-! _law_draw -/
def kd_law_draw (a_purse : Addr) : D × List D → D × Mem := fun x => (x.1, [(a_purse, .lst x.2)])
def S_law_draw (Ac : Cs) : ZSp := fun ds M kk_ => ∃ (a_purse : Addr) (size : D) (purse : List D) (i : Nat) (d : D) (o' : List D) (M' : Mem), ds = [.at a_purse, size] ∧ M[i]? = some (a_purse, .lst purse) ∧ m_law_draw Ac purse size = some (d, o') ∧ M.set i (a_purse, .lst o') = M' ∧ kk_ d M'
theorem y_law_draw {purse : List D} {size : D} {a_purse : Addr} {out : D × List D} (h : m_law_draw Ac purse size = some out) {DD : ZEnds} (hit : HitD (kd_law_draw a_purse) DD out) : ZS { K := K } (t_law_draw K Ac) [some (.at a_purse), some size, none, none, none] [(a_purse, MO.lst purse)] DD := by
  unfold m_law_draw at h
  unfold t_law_draw
  exact (y_join (N := List D) (fun purse_1 => [some (.at a_purse), some size, none, none, none]) (fun purse_1 => [(a_purse, MO.lst purse_1)]) h (fun _ h _ Jh1 => (zs_if (zt_and' (zt_test (z_op (z_op (zv0 (z_int (ob h fun z h2 h => (y_ix (.at 0 rfl) .eq h2 (z_int (ob h fun b h3 h => (y_eq .eq .eq h3 ⟨_, rfl, (y_and h (fun _ h _ hk => (zt_test (z_op (z_cb (za_cons (zv0 (za_nil (ob h fun z_1 h4 h => (y_len (.at 0 rfl) h4 (z_int (ob h fun b_1 h5 h => (y_gt .eq .eq h5 ⟨_, rfl, (y_lfB h hk)⟩)))))))))))) (fun b_2 h => ⟨fun hb => (have h := ifT hb h; (zs_seq (zs_asg (z_bm (zv0 ⟨⟨_, .at 0 rfl⟩, (za_cons (z_int (za_nil (obp h fun cell purse_2 h6 h => y_popAt (i := 0) (M' := [(a_purse, MO.lst purse_2)]) rfl h6 rfl (zg2 (zs_if (zt_test (z_op (zv2 (z_op (z_int (z_int (y_pow (x := .int 10) (y := .int 18) (z := .int 1000000000000000000) .eq .eq (gd_of (by decide +kernel)) (ob h fun b_3 h7 h => (y_ge .eq .eq h7 ⟨_, rfl, ⟨fun hb => (have h := ifT hb h; (zs_one (zs_seq (zs_asg (zv2 (zg_setL' (zv0 (z_int (ob h fun purse_3 h8 h => ⟨_, 0, _, _, [(a_purse, MO.lst purse_3)], rfl, rfl, h8, rfl, (zs_nil (y_nx h Jh1 (.keep (.keep (.drop (.keep (.keep .nil))))) rfl rfl))⟩))))))))), fun hb => (have h := ifF hb h; (zs_one (zs_seq (zs_asg (z_op (z_cb (za_cons (z_op (z_op (z_op (z_op (zv0 (z_int (ob h fun z_2 h9 h => (y_ix (.at 0 rfl) .eq h9 (z_int (ob h fun z_3 h10 h => (y_mul .eq .eq h10 (z_op (zv2 (z_int (ob h fun z_4 h11 h => (y_mul .eq .eq h11 (ob h fun z_5 h12 h => (y_add .eq .eq h12 (z_int (ob h fun z_6 h13 h => (y_add .eq .eq h13 (za_nil (ob h fun z_7 h14 h => (y_int h14 (z_int (ob h fun z_8 h15 h => (y_mod .eq .eq h15 (zg_setL' (zv0 (z_int (ob h fun purse_4 h16 h => ⟨_, 0, _, _, [(a_purse, MO.lst purse_4)], rfl, rfl, h16, rfl, (zs_nil (y_nx h Jh1 (.keep (.keep (.drop (.keep (.keep .nil))))) rfl rfl))⟩))))))))))))))))))))))))))))))))))))))⟩⟩)))))))))))))))⟩))))), fun hb => (have h := ifF hb h; (zs_nil (y_nx h Jh1 .rfl rfl rfl)))⟩))⟩))))))))))))) (fun purse_5 h => (zs_seq (zs_asg (z_op (z_op (zv0 (z_int (ob h fun z_9 h17 h => (y_ix (.at 0 rfl) .eq h17 (z_int (ob h fun z_10 h18 h => (y_add .eq .eq h18 (zg_setL' (zv0 (z_int (ob h fun purse_6 h19 h => ⟨_, 0, _, _, [(a_purse, MO.lst purse_6)], rfl, rfl, h19, rfl, (zs_seq (zs_if (zt_test (z_op (z_op (zv0 (z_int (ob h fun z_11 h20 h => (y_ix (.at 0 rfl) .eq h20 (z_int (ob h fun b_4 h21 h => (y_gt .eq .eq h21 ⟨_, rfl, ⟨fun hb => (have h := ifT hb h; (zs_seq (zs_asg (z_op (z_cb (za_cons (z_op (zv0 (z_int (ob h fun z_12 h22 h => (y_ix (.at 0 rfl) .eq h22 (za_nil (ob h fun z_13 h23 h => (y_int h23 (zv1 (ob h fun digit h24 h => (y_mod .eq .eq h24 (zg3 (zs_seq (zs_asg (z_op (z_op (zv0 (z_int (ob h fun z_14 h25 h => (y_ix (.at 0 rfl) .eq h25 (zv1 (ob h fun z_15 h26 h => (y_div .eq .eq h26 (zg_setL' (zv0 (z_int (ob h fun purse_7 h27 h => ⟨_, 0, _, _, [(a_purse, MO.lst purse_7)], rfl, rfl, h27, rfl, (zs_ret (zv3 (y_ret (kd := kd_law_draw a_purse) (x := (digit, purse_7)) [] h hit.rt rfl rfl)))⟩))))))))))))))))))))))))))))))))), fun hb => (have h := ifF hb h; (zs_nil (zs_seq (zs_asg (z_op (z_cb (za_cons (z_op (z_op (z_op (zv0 (z_int (ob h fun z_16 h28 h => (y_ix (.at 0 rfl) .eq h28 (z_int (ob h fun z_17 h29 h => (y_mul .eq .eq h29 (z_op (z_op (zv0 (z_int (ob h fun z_18 h30 h => (y_ix (.at 0 rfl) .eq h30 (z_int (ob h fun z_19 h31 h => (y_mul .eq .eq h31 (ob h fun z_20 h32 h => (y_add .eq .eq h32 (za_nil (ob h fun z_21 h33 h => (y_int h33 (z_int (ob h fun mixed h34 h => (y_mod .eq .eq h34 (zg4 (zs_seq (zs_asg (z_op (z_cb (za_cons (z_op (z_op (z_op (zv4 (zv4 (ob h fun z_22 h35 h => (y_mul .eq .eq h35 (z_op (z_op (zv0 (z_int (ob h fun z_23 h36 h => (y_ix (.at 0 rfl) .eq h36 (z_int (ob h fun z_24 h37 h => (y_mul .eq .eq h37 (ob h fun z_25 h38 h => (y_add .eq .eq h38 (z_op (z_op (zv0 (z_int (ob h fun z_26 h39 h => (y_ix (.at 0 rfl) .eq h39 (z_int (ob h fun z_27 h40 h => (y_mul .eq .eq h40 (ob h fun z_28 h41 h => (y_add .eq .eq h41 (za_nil (ob h fun z_29 h42 h => (y_int h42 (z_int (ob h fun mixed_1 h43 h => (y_mod .eq .eq h43 (zg4 (zs_ret (z_op (z_op (zv4 (z_int (ob h fun z_30 h44 h => (y_div .eq .eq h44 (zv1 (ob h fun r h45 h => (y_mod .eq .eq h45 (y_ret (kd := kd_law_draw a_purse) (x := (r, purse_6)) [] h hit.rt rfl rfl)))))))))))))))))))))))))))))))))))))))))))))))))))))))))))))))))))))))))))))))))))))))⟩⟩))))))))))))⟩)))))))))))))))))
theorem z_law_draw {kk : D → Mem → Prop} {ds : List D} {M : Mem} (h : S_law_draw Ac ds M kk) : ZS { K := K } (t_law_draw K Ac) (startD N_law_draw ds) M { nx := fun _ M' => kk .non M', rt := kk } := by
  obtain ⟨_, _, _, _, _, _, _, rfl, hi, hm, rfl, hk⟩ := h
  exact zs_def1 hi (out := (_, _)) hk fun DD hit => y_law_draw T hm hit
/-! _law_same -/
def kd_law_same : D → D × Mem := fun x => (x, [])
def Sn_law_same (Ac : Cs) (n_ : Nat) : ZSp := fun ds M kk_ => ∃ (v_ told due : D) (d : D), ds = [v_, due] ∧ View M v_ told ∧ m_law_same Ac n_ told due = some d ∧ kk_ d M
abbrev S_law_same (Ac : Cs) : ZSp := Sn_law_same Ac 10
theorem y_law_same {n_ : Nat} {told : D} {due : D} {out : D} (h : mS_law_same Ac (m_law_same Ac n_) told due = some out) {DD : ZEnds} (hit : HitD (kd_law_same) DD out) : ZS { K := K } (t_law_same K Ac (Sn_law_same Ac n_)) [some told, some due, none] [] DD := by
  unfold mS_law_same at h
  unfold t_law_same
  exact (zs_seq (zs_if (zt_or' (zt_truth (z_cb (za_cons (zv1 (ob h fun b h1 h => (za_cons (z_ty (za_nil (y_isi .eq h1 ⟨_, .bl _, (y_or h (fun _ h _ hk => (zt_truth (z_cb (za_cons (zv1 (ob h fun b_1 h2 h => (za_cons (z_ty (za_nil (y_isi .eq h2 ⟨_, .bl _, (y_lfB h hk)⟩)))))))))) (fun b_2 h => ⟨fun hb => (have h := ifT hb h; (zs_seq (zs_if (zt_and' (zt_truth (z_cb (za_cons (zv1 (ob h fun b_3 h3 h => (za_cons (z_ty (za_nil (y_isi .eq h3 ⟨_, .bl _, (y_and h (fun _ h _ hk => (zt_not (zt_truth (z_cb (za_cons (zv0 (ob h fun b_4 h4 h => (za_cons (z_ty (za_nil (y_isi .eq h4 ⟨_, .bl _, (y_lfB h hk)⟩))))))))))) (fun b_5 h => ⟨fun hb => (have h := ifT hb h; (zs_ret (z_bl (y_ret (kd := kd_law_same) (x := (D.bl false)) [] h hit.rt rfl rfl)))), fun hb => (have h := ifF hb h; (zs_nil (zs_seq (zs_if (zt_and' (zt_truth (z_cb (za_cons (zv1 (ob h fun b_6 h5 h => (za_cons (z_ty (za_nil (y_isi .eq h5 ⟨_, .bl _, (y_and h (fun _ h _ hk => (zt_not (zt_truth (z_cb (za_cons (zv0 (ob h fun b_7 h6 h => (za_cons (z_ty (za_nil (y_isi .eq h6 ⟨_, .bl _, (y_lfB h hk)⟩))))))))))) (fun b_8 h => ⟨fun hb => (have h := ifT hb h; (zs_ret (z_bl (y_ret (kd := kd_law_same) (x := (D.bl false)) [] h hit.rt rfl rfl)))), fun hb => (have h := ifF hb h; (zs_nil (zs_seq (zs_if (zt_test (z_op (z_cb (za_cons (zv0 (za_nil (ob h fun z h7 h => (y_len .eq h7 (z_cb (za_cons (zv1 (za_nil (ob h fun z_1 h8 h => (y_len .eq h8 (ob h fun b_9 h9 h => (y_ne .eq .eq h9 ⟨_, rfl, ⟨fun hb => (have h := ifT hb h; (zs_ret (z_bl (y_ret (kd := kd_law_same) (x := (D.bl false)) [] h hit.rt rfl rfl)))), fun hb => (have h := ifF hb h; (zs_nil (zs_ret (z_cb (za_cons (z_lc (own_name (by decide)) (zi_rng1' (za_cons (z_cb (za_cons (zv1 (za_nil (ob h fun z_2 h10 h => (y_len .eq h10 (za_nil (ob h fun ds h11 h => ⟨_, _, rfl, h11, (ob h fun ys h12 h => y_lcO h12 (fun d _ h _ hk => (zg2 (z_cb (za_cons (z_op (zv0 (zv2 (ob h fun z_3 h13 h => (y_ix .eq .eq h13 (za_cons (z_op (zv1 (zv2 (ob h fun z_4 h14 h => (y_ix .eq .eq h14 (za_nil (ob h fun z_5 h15 h => zc_call (S := Sn_law_same Ac _) ⟨_, _, _, _, rfl, .eq, h15, (y_lf h hk)⟩))))))))))))))))) (za_nil (ob h fun r h16 h => (y_all .eq h16 (y_ret (kd := kd_law_same) (x := r) [] h hit.rt rfl rfl)))))⟩))))))))))))))))⟩⟩))))))))))))))))))))⟩))⟩))))))))))))))⟩))⟩))))))))))))), fun hb => (have h := ifF hb h; (zs_nil (zs_seq (zs_if (zt_truth (z_cb (za_cons (zv1 (ob h fun b_10 h17 h => (za_cons (z_ty (za_nil (y_isi .eq h17 ⟨_, .bl _, ⟨fun hb => (have h := ifT hb h; (zs_ret (z_andV' (z_cb (za_cons (zv0 (ob h fun b_11 h18 h => (za_cons (z_ty (za_nil (y_isi .eq h18 ⟨_, rfl, (y_andV h (fun _ h _ hk => (z_op (zv0 (zv1 (ob h fun b_12 h19 h => (y_eq .eq .eq h19 (y_lf h hk))))))) (fun v h => (y_ret (kd := kd_law_same) (x := v) [] h hit.rt rfl rfl)))⟩))))))))))), fun hb => (have h := ifF hb h; (zs_nil (zs_ret (z_andV' (z_cb (za_cons (zv0 (ob h fun b_13 h20 h => (za_cons (z_ty (za_nil (y_isi .eq h20 ⟨_, rfl, (y_andV h (fun _ h _ hk => (z_andV' (z_notV (z_cb (za_cons (zv0 (ob h fun b_14 h21 h => (za_cons (z_ty (za_nil (y_isi .eq h21 ⟨_, rfl, ⟨_, rfl, (y_andV h (fun _ h _ hk => (z_op (zv0 (zv1 (ob h fun b_15 h22 h => (y_eq .eq .eq h22 (y_lf h hk))))))) (fun v_1 h => (y_lf h hk)))⟩⟩))))))))))) (fun v_2 h => (y_ret (kd := kd_law_same) (x := v_2) [] h hit.rt rfl rfl)))⟩))))))))))))⟩⟩)))))))))))))⟩))⟩))))))))))))
def kd_law_same_at (a_view : Addr) (c_view : List D) : D → D × Mem := fun x => (x, [(a_view, .lst c_view)])
theorem y_law_same_at {n_ : Nat} {due : D} {a_view : Addr} {c_view : List D} {out : D} (h : mS_law_same Ac (m_law_same Ac n_) (D.lst c_view) due = some out) {DD : ZEnds} (hit : HitD (kd_law_same_at a_view c_view) DD out) : ZS { K := K } (t_law_same K Ac (Sn_law_same Ac n_)) [some (.at a_view), some due, none] [(a_view, MO.lst c_view)] DD := by
  unfold mS_law_same at h
  unfold t_law_same
  exact (zs_seq (zs_if (zt_or' (zt_truth (z_cb (za_cons (zv1 (ob h fun b h1 h => (za_cons (z_ty (za_nil (y_isi .eq h1 ⟨_, .bl _, (y_or h (fun _ h _ hk => (zt_truth (z_cb (za_cons (zv1 (ob h fun b_1 h2 h => (za_cons (z_ty (za_nil (y_isi .eq h2 ⟨_, .bl _, (y_lfB h hk)⟩)))))))))) (fun b_2 h => ⟨fun hb => (have h := ifT hb h; (zs_seq (zs_if (zt_and' (zt_truth (z_cb (za_cons (zv1 (ob h fun b_3 h3 h => (za_cons (z_ty (za_nil (y_isi .eq h3 ⟨_, .bl _, (y_and h (fun _ h _ hk => (zt_not (zt_truth (z_cb (za_cons (zv0 (ob h fun b_4 h4 h => (za_cons (z_ty (za_nil (y_isi (.at 0 rfl) h4 ⟨_, .bl _, (y_lfB h hk)⟩))))))))))) (fun b_5 h => ⟨fun hb => (have h := ifT hb h; (zs_ret (z_bl (y_ret (kd := kd_law_same_at a_view c_view) (x := (D.bl false)) [] h hit.rt rfl rfl)))), fun hb => (have h := ifF hb h; (zs_nil (zs_seq (zs_if (zt_and' (zt_truth (z_cb (za_cons (zv1 (ob h fun b_6 h5 h => (za_cons (z_ty (za_nil (y_isi .eq h5 ⟨_, .bl _, (y_and h (fun _ h _ hk => (zt_not (zt_truth (z_cb (za_cons (zv0 (ob h fun b_7 h6 h => (za_cons (z_ty (za_nil (y_isi (.at 0 rfl) h6 ⟨_, .bl _, (y_lfB h hk)⟩))))))))))) (fun b_8 h => ⟨fun hb => (have h := ifT hb h; (zs_ret (z_bl (y_ret (kd := kd_law_same_at a_view c_view) (x := (D.bl false)) [] h hit.rt rfl rfl)))), fun hb => (have h := ifF hb h; (zs_nil (zs_seq (zs_if (zt_test (z_op (z_cb (za_cons (zv0 (za_nil (ob h fun z h7 h => (y_len (.at 0 rfl) h7 (z_cb (za_cons (zv1 (za_nil (ob h fun z_1 h8 h => (y_len .eq h8 (ob h fun b_9 h9 h => (y_ne .eq .eq h9 ⟨_, rfl, ⟨fun hb => (have h := ifT hb h; (zs_ret (z_bl (y_ret (kd := kd_law_same_at a_view c_view) (x := (D.bl false)) [] h hit.rt rfl rfl)))), fun hb => (have h := ifF hb h; (zs_nil (zs_ret (z_cb (za_cons (z_lc (own_name (by decide)) (zi_rng1' (za_cons (z_cb (za_cons (zv1 (za_nil (ob h fun z_2 h10 h => (y_len .eq h10 (za_nil (ob h fun ds h11 h => ⟨_, _, rfl, h11, (ob h fun ys h12 h => y_lcO h12 (fun d _ h _ hk => (zg2 (z_cb (za_cons (z_op (zv0 (zv2 (ob h fun z_3 h13 h => (y_ix (.at 0 rfl) .eq h13 (za_cons (z_op (zv1 (zv2 (ob h fun z_4 h14 h => (y_ix .eq .eq h14 (za_nil (ob h fun z_5 h15 h => zc_call (S := Sn_law_same Ac _) ⟨_, _, _, _, rfl, .eq, h15, (y_lf h hk)⟩))))))))))))))))) (za_nil (ob h fun r h16 h => (y_all .eq h16 (y_ret (kd := kd_law_same_at a_view c_view) (x := r) [] h hit.rt rfl rfl)))))⟩))))))))))))))))⟩⟩))))))))))))))))))))⟩))⟩))))))))))))))⟩))⟩))))))))))))), fun hb => (have h := ifF hb h; (zs_nil (zs_seq (zs_if (zt_truth (z_cb (za_cons (zv1 (ob h fun b_10 h17 h => (za_cons (z_ty (za_nil (y_isi .eq h17 ⟨_, .bl _, ⟨fun hb => (have h := ifT hb h; (zs_ret (z_andV' (z_cb (za_cons (zv0 (ob h fun b_11 h18 h => (za_cons (z_ty (za_nil (y_isi (.at 0 rfl) h18 ⟨_, rfl, (y_andV h (fun _ h _ hk => (z_op (zv0 (zv1 (ob h fun b_12 h19 h => (y_eq (.at 0 rfl) .eq h19 (y_lf h hk))))))) (fun v h => (y_ret (kd := kd_law_same_at a_view c_view) (x := v) [] h hit.rt rfl rfl)))⟩))))))))))), fun hb => (have h := ifF hb h; (zs_nil (zs_ret (z_andV' (z_cb (za_cons (zv0 (ob h fun b_13 h20 h => (za_cons (z_ty (za_nil (y_isi (.at 0 rfl) h20 ⟨_, rfl, (y_andV h (fun _ h _ hk => (z_andV' (z_notV (z_cb (za_cons (zv0 (ob h fun b_14 h21 h => (za_cons (z_ty (za_nil (y_isi (.at 0 rfl) h21 ⟨_, rfl, ⟨_, rfl, (y_andV h (fun _ h _ hk => (z_op (zv0 (zv1 (ob h fun b_15 h22 h => (y_eq (.at 0 rfl) .eq h22 (y_lf h hk))))))) (fun v_1 h => (y_lf h hk)))⟩⟩))))))))))) (fun v_2 h => (y_ret (kd := kd_law_same_at a_view c_view) (x := v_2) [] h hit.rt rfl rfl)))⟩))))))))))))⟩⟩)))))))))))))⟩))⟩))))))))))))
theorem z_law_same {n_ : Nat} {kk : D → Mem → Prop} {ds : List D} {M : Mem} (h : Sn_law_same Ac (n_ + 1) ds M kk) : ZS { K := K } (t_law_same K Ac (Sn_law_same Ac n_)) (startD N_law_same ds) M { nx := fun _ M' => kk .non M', rt := kk } := by
  obtain ⟨_, _, _, _, rfl, hv, hm, hk⟩ := h
  cases hv with
  | eq => exact zs_def0 hk fun DD hit => y_law_same T hm hit
  | «at» i hi =>
    exact zs_defG (kd := kd_law_same_at _ _) hi rfl (by rw [set_id hi]; exact hk) fun DD hit => y_law_same_at T hm hit
/-! _law_order -/
def kd_law_order (a_purse : Addr) : D × List D → D × Mem := fun x => (x.1, [(a_purse, .lst x.2)])
def S_law_order (Ac : Cs) : ZSp := fun ds M kk_ => ∃ (a_purse : Addr) (count : D) (purse : List D) (i : Nat) (d : D) (o' : List D) (M' : Mem), ds = [.at a_purse, count] ∧ M[i]? = some (a_purse, .lst purse) ∧ m_law_order Ac purse count = some (d, o') ∧ M.set i (a_purse, .lst o') = M' ∧ kk_ d M'
theorem y_law_order {purse : List D} {count : D} {a_purse : Addr} {out : D × List D} (h : m_law_order Ac purse count = some out) {DD : ZEnds} (hit : HitD (kd_law_order a_purse) DD out) : ZS { K := K } (t_law_order K Ac (S_law_draw Ac)) [some (.at a_purse), some count, none, none, none] [(a_purse, MO.lst purse)] DD := by
  unfold m_law_order at h
  unfold t_law_order
  exact (zs_seq (zs_asg (z_lstM (za_nil ⟨Nat.le_of_ble_eq_true rfl, (fun p__law_order => zg2 (zs_seq (zs_asg (z_rgM (zv1 (ob h fun rest h1 h => ⟨_, h1, (fun p__law_rest => zg3 (zs_seq (zs_for (zi_rng1' (za_cons (zv1 (za_nil (ob h fun ds h7 h => ⟨_, _, rfl, h7, (y_forO (S := List D × List D × List D) (fun (rest_1, order, purse_1) => [some (.at a_purse), some count, some (.at p__law_order), some (.at p__law_rest), none]) (fun (rest_1, order, purse_1) => [(p__law_rest, MO.lst rest_1), (p__law_order, MO.lst order), (a_purse, MO.lst purse_1)]) h .rfl (fun (rest_2, order_1, purse_2) d _ h _ Jh2 => (zg4 (zs_one (zs_seq (zs_drop (z_bm (zv2 ⟨⟨_, .at 1 rfl⟩, (za_cons (z_bm (zv3 ⟨⟨_, .at 0 rfl⟩, (za_cons (z_cb (za_cons (zv0 (za_cons (z_cb (za_cons (zv3 (za_nil (ob h fun z h3 h => (y_len (.at 0 rfl) h3 (za_nil (obp h fun z_1 purse_4 h4 h => zc_call (S := S_law_draw Ac) ⟨_, _, _, 2, _, _, [(p__law_rest, MO.lst rest_2), (p__law_order, MO.lst order_1), (a_purse, MO.lst purse_4)], rfl, rfl, h4, rfl, (za_nil (obp h fun z_2 rest_4 h5 h => y_popAt (i := 0) (M' := [(p__law_rest, MO.lst rest_4), (p__law_order, MO.lst order_1), (a_purse, MO.lst purse_4)]) rfl h5 rfl (za_nil (ob h fun order_3 h6 h => y_append (i := 1) (M' := [(p__law_rest, MO.lst rest_4), (p__law_order, MO.lst order_3), (a_purse, MO.lst purse_4)]) rfl h6 rfl (zs_nil (y_nx h Jh2 (.keep (.keep (.keep (.keep (.drop .nil))))) rfl rfl))))))⟩)))))))))))))⟩)))⟩))))))) (fun (rest_3, order_2, purse_3) h => (y_frz (i := 1) (j := 2) (Γ' := [some (.at a_purse), some count, some (D.lst order_2), some (.at p__law_rest), none]) (M' := [(p__law_rest, MO.lst rest_3), (a_purse, MO.lst purse_3)]) rfl rfl rfl rfl (zs_ret (zv2 (y_ret (kd := kd_law_order a_purse) (x := ((D.lst order_2), purse_3)) [(p__law_rest, MO.lst rest_3)] h hit.rt rfl rfl))))) rfl)⟩))))))))⟩))))))⟩))))
theorem z_law_order {kk : D → Mem → Prop} {ds : List D} {M : Mem} (h : S_law_order Ac ds M kk) : ZS { K := K } (t_law_order K Ac (S_law_draw Ac)) (startD N_law_order ds) M { nx := fun _ M' => kk .non M', rt := kk } := by
  obtain ⟨_, _, _, _, _, _, _, rfl, hi, hm, rfl, hk⟩ := h
  exact zs_def1 hi (out := (_, _)) hk fun DD hit => y_law_order T hm hit
/-! _law_row -/
def kd_law_row (a_purse : Addr) : D × List D → D × Mem := fun x => (x.1, [(a_purse, .lst x.2)])
def S_law_row (Ac : Cs) : ZSp := fun ds M kk_ => ∃ (a_purse : Addr) (many : D) (purse : List D) (i : Nat) (d : D) (o' : List D) (M' : Mem), ds = [.at a_purse, many] ∧ M[i]? = some (a_purse, .lst purse) ∧ m_law_row Ac purse many = some (d, o') ∧ M.set i (a_purse, .lst o') = M' ∧ kk_ d M'
theorem y_law_row {purse : List D} {many : D} {a_purse : Addr} {out : D × List D} (h : m_law_row Ac purse many = some out) {DD : ZEnds} (hit : HitD (kd_law_row a_purse) DD out) : ZS { K := K } (t_law_row K Ac (S_law_draw Ac)) [some (.at a_purse), some many, none] [(a_purse, MO.lst purse)] DD := by
  unfold m_law_row at h
  unfold t_law_row
  exact (zs_ret (z_cb (za_cons (z_lc (own_name (by decide)) (zi_rng1' (za_cons (z_op (zv1 (z_int (ob h fun z h1 h => (y_add .eq .eq h1 (za_nil (ob h fun ds h2 h => ⟨_, _, rfl, h2, (obp h fun ys purse_4 h3 h => y_lcS (S := List D) (fun purse_2 => [(a_purse, MO.lst purse_2)]) h3 (fun purse_1 d _ _ h _ hk => (zg2 (z_op (z_cb (za_cons (zv0 (za_cons (z_int (za_nil (obp h fun z_1 purse_3 h4 h => zc_call (S := S_law_draw Ac) ⟨_, _, _, 0, _, _, [(a_purse, MO.lst purse_3)], rfl, rfl, h4, rfl, (z_int (ob h fun z_2 h5 h => (y_sub .eq .eq h5 (y_lfXD (Ms := (fun purse_2 => [(a_purse, MO.lst purse_2)])) (s := purse_3) h hk rfl))))⟩)))))))))) rfl (za_nil (ob h fun r h6 h => (y_tuple .eq h6 (y_ret (kd := kd_law_row a_purse) (x := (r, purse_4)) [] h hit.rt rfl rfl)))))⟩)))))))))))))
theorem z_law_row {kk : D → Mem → Prop} {ds : List D} {M : Mem} (h : S_law_row Ac ds M kk) : ZS { K := K } (t_law_row K Ac (S_law_draw Ac)) (startD N_law_row ds) M { nx := fun _ M' => kk .non M', rt := kk } := by
  obtain ⟨_, _, _, _, _, _, _, rfl, hi, hm, rfl, hk⟩ := h
  exact zs_def1 hi (out := (_, _)) hk fun DD hit => y_law_row T hm hit
/-! _law_arc -/
def kd_law_arc (a_purse : Addr) : D × List D → D × Mem := fun x => (x.1, [(a_purse, .lst x.2)])
def S_law_arc (Ac : Cs) : ZSp := fun ds M kk_ => ∃ (a_purse : Addr) (origins : D) (aim : D) (purse : List D) (i : Nat) (d : D) (o' : List D) (M' : Mem), ds = [.at a_purse, origins, aim] ∧ M[i]? = some (a_purse, .lst purse) ∧ m_law_arc Ac purse origins aim = some (d, o') ∧ M.set i (a_purse, .lst o') = M' ∧ kk_ d M'
theorem y_law_arc {purse : List D} {origins : D} {aim : D} {a_purse : Addr} {out : D × List D} (h : m_law_arc Ac purse origins aim = some out) {DD : ZEnds} (hit : HitD (kd_law_arc a_purse) DD out) : ZS { K := K } (t_law_arc K Ac (S_law_draw Ac) (S_law_row Ac) (S_Edge_init Ac)) [some (.at a_purse), some origins, some aim, none, none, none] [(a_purse, MO.lst purse)] DD := by
  unfold m_law_arc at h
  unfold t_law_arc
  exact (zs_seq (zs_asg (z_cb (za_cons (zv0 (za_cons (z_int (za_nil (obp h fun many purse_1 h1 h => zc_call (S := S_law_draw Ac) ⟨_, _, _, 0, _, _, [(a_purse, MO.lst purse_1)], rfl, rfl, h1, rfl, (zg3 (zs_seq (zs_asg (z_lc (own_name (by decide)) (zi_seqY (zv1 (ob h fun ds h2 h => ⟨_, h2, (obp h fun pairs purse_5 h3 h => y_lcS (S := List D) (fun purse_3 => [(a_purse, MO.lst purse_3)]) h3 (fun purse_2 d _ _ h _ hk => (zg5 (z_tup (za_cons (zv5 (za_cons (z_tup (za_cons (z_cb (za_cons (zv0 (za_cons (zv3 (za_nil (obp h fun z purse_4 h4 h => zc_call (S := S_law_row Ac) ⟨_, _, _, 0, _, _, [(a_purse, MO.lst purse_4)], rfl, rfl, h4, rfl, (za_nil ⟨Nat.le_of_ble_eq_true rfl, (za_nil ⟨Nat.le_of_ble_eq_true rfl, (y_lfXD (Ms := (fun purse_3 => [(a_purse, MO.lst purse_3)])) (s := purse_4) h hk rfl)⟩)⟩)⟩))))))))))))))) rfl (zg4 (zs_ret (z_makeK (za_cons (zv2 (za_cons (zv3 (za_nil (za_cons (z_cb (za_cons (zv4 (za_nil (ob h fun z_1 h5 h => (y_tuple .eq h5 (za_cons (z_tup (za_cons (z_cb (za_cons (zv0 (za_cons (zv3 (za_nil (obp h fun z_2 purse_6 h6 h => zc_call (S := S_law_row Ac) ⟨_, _, _, 0, _, _, [(a_purse, MO.lst purse_6)], rfl, rfl, h6, rfl, (za_nil ⟨Nat.le_of_ble_eq_true rfl, (za_nil ⟨rfl, rfl, [aim, many, z_1, (D.tup []), (D.tup [z_2]), (D.str "plain")], fun _ _ _ r1 r2 => r1.append (((r2.drop 0).take 1).append ((Rps.one (T.d_Edge_init_guards _)).append (((r2.drop 1).take 1).append ((Rps.one (.str _)).append .nil)))), (ob h fun fs h7 h => y_make (S := S_Edge_init Ac) (fun _ => ⟨_, _, _, _, _, _, _, [], 0, _, _, rfl, rfl, h7, rfl, rfl, rfl⟩) (y_ret (kd := kd_law_arc a_purse) (x := ((D.obj Ac.c_Edge fs), purse_6)) [] h hit.rt rfl rfl))⟩)⟩)⟩))))))))))))))))))))))))))⟩)))))))⟩)))))))))
theorem z_law_arc {kk : D → Mem → Prop} {ds : List D} {M : Mem} (h : S_law_arc Ac ds M kk) : ZS { K := K } (t_law_arc K Ac (S_law_draw Ac) (S_law_row Ac) (S_Edge_init Ac)) (startD N_law_arc ds) M { nx := fun _ M' => kk .non M', rt := kk } := by
  obtain ⟨_, _, _, _, _, _, _, _, rfl, hi, hm, rfl, hk⟩ := h
  exact zs_def1 hi (out := (_, _)) hk fun DD hit => y_law_arc T hm hit
/-! _law_drawn -/
def kd_law_drawn (a_purse : Addr) : D × List D → D × Mem := fun x => (x.1, [(a_purse, .lst x.2)])
def S_law_drawn (Ac : Cs) : ZSp := fun ds M kk_ => ∃ (a_purse : Addr) (count : D) (purse : List D) (i : Nat) (d : D) (o' : List D) (M' : Mem), ds = [.at a_purse, count] ∧ M[i]? = some (a_purse, .lst purse) ∧ m_law_drawn Ac purse count = some (d, o') ∧ M.set i (a_purse, .lst o') = M' ∧ kk_ d M'
theorem y_law_drawn {purse : List D} {count : D} {a_purse : Addr} {out : D × List D} (h : m_law_drawn Ac purse count = some out) {DD : ZEnds} (hit : HitD (kd_law_drawn a_purse) DD out) : ZS { K := K } (t_law_drawn K Ac (S_law_draw Ac)) [some (.at a_purse), some count, none, none] [(a_purse, MO.lst purse)] DD := by
  unfold m_law_drawn at h
  unfold t_law_drawn
  exact (zs_seq (zs_asg (z_lstM (za_nil ⟨Nat.le_of_ble_eq_true rfl, (fun p__law_origins => zg2 (zs_seq (zs_for (zi_rng1' (za_cons (z_cb (za_cons (zv0 (za_cons (z_int (za_nil (obp h fun z_2 purse_6 h5 h => zc_call (S := S_law_draw Ac) ⟨_, _, _, 1, _, _, [(p__law_origins, MO.lst []), (a_purse, MO.lst purse_6)], rfl, rfl, h5, rfl, (za_nil (ob h fun ds h6 h => ⟨_, _, rfl, h6, (y_forO (S := List D × List D) (fun (origins, purse_1) => [some (.at a_purse), some count, some (.at p__law_origins), none]) (fun (origins, purse_1) => [(p__law_origins, MO.lst origins), (a_purse, MO.lst purse_1)]) h .rfl (fun (origins_1, purse_2) d _ h _ Jh1 => (zg3 (zs_one (zs_seq (zs_drop (z_bm (zv2 ⟨⟨_, .at 0 rfl⟩, (za_cons (z_cb (za_cons (zv0 (za_cons (zv1 (za_nil (obp h fun z purse_4 h2 h => zc_call (S := S_law_draw Ac) ⟨_, _, _, 1, _, _, [(p__law_origins, MO.lst origins_1), (a_purse, MO.lst purse_4)], rfl, rfl, h2, rfl, (za_nil (ob h fun origins_3 h3 h => y_append (i := 0) (M' := [(p__law_origins, MO.lst origins_3), (a_purse, MO.lst purse_4)]) rfl h3 rfl (zs_nil (y_nx h Jh1 (.keep (.keep (.keep (.drop .nil)))) rfl rfl))))⟩))))))))⟩))))))) (fun (origins_2, purse_3) h => (y_frz (i := 0) (j := 2) (Γ' := [some (.at a_purse), some count, some (D.lst origins_2), none]) (M' := [(a_purse, MO.lst purse_3)]) rfl rfl rfl rfl (zs_ret (z_tup (za_cons (zv2 (za_cons (z_cb (za_cons (zv0 (za_cons (zv1 (za_nil (obp h fun z_1 purse_5 h4 h => zc_call (S := S_law_draw Ac) ⟨_, _, _, 0, _, _, [(a_purse, MO.lst purse_5)], rfl, rfl, h4, rfl, (za_nil ⟨Nat.le_of_ble_eq_true rfl, (y_ret (kd := kd_law_drawn a_purse) (x := ((D.tup [(D.lst origins_2), z_1]), purse_5)) [] h hit.rt rfl rfl)⟩)⟩)))))))))))))) rfl)⟩))⟩))))))))))))⟩))))
theorem z_law_drawn {kk : D → Mem → Prop} {ds : List D} {M : Mem} (h : S_law_drawn Ac ds M kk) : ZS { K := K } (t_law_drawn K Ac (S_law_draw Ac)) (startD N_law_drawn ds) M { nx := fun _ M' => kk .non M', rt := kk } := by
  obtain ⟨_, _, _, _, _, _, _, rfl, hi, hm, rfl, hk⟩ := h
  exact zs_def1 hi (out := (_, _)) hk fun DD hit => y_law_drawn T hm hit
/-! _law_ties -/
def kd_law_ties (a_purse : Addr) : D × List D → D × Mem := fun x => (x.1, [(a_purse, .lst x.2)])
def S_law_ties (Ac : Cs) : ZSp := fun ds M kk_ => ∃ (a_purse : Addr) (count : D) (purse : List D) (i : Nat) (d : D) (o' : List D) (M' : Mem), ds = [.at a_purse, count] ∧ M[i]? = some (a_purse, .lst purse) ∧ m_law_ties Ac purse count = some (d, o') ∧ M.set i (a_purse, .lst o') = M' ∧ kk_ d M'
theorem y_law_ties {purse : List D} {count : D} {a_purse : Addr} {out : D × List D} (h : m_law_ties Ac purse count = some out) {DD : ZEnds} (hit : HitD (kd_law_ties a_purse) DD out) : ZS { K := K } (t_law_ties K Ac (S_law_draw Ac) (S_law_order Ac) (S_law_drawn Ac)) [some (.at a_purse), some count, none, none, none] [(a_purse, MO.lst purse)] DD := by
  unfold m_law_ties at h
  unfold t_law_ties
  exact (zs_seq (zs_asg (z_lstM (za_nil ⟨Nat.le_of_ble_eq_true rfl, (fun p__law_ties => zg2 (y_join (N := List D × List D) (fun (ties, purse_1) => [some (.at a_purse), some count, some (.at p__law_ties), none, none]) (fun (ties, purse_1) => [(p__law_ties, MO.lst ties), (a_purse, MO.lst purse_1)]) h (fun _ h _ Jh1 => (zs_if (zt_test (z_op (z_cb (za_cons (zv0 (za_cons (z_int (za_nil (obp h fun z purse_2 h2 h => zc_call (S := S_law_draw Ac) ⟨_, _, _, 1, _, _, [(p__law_ties, MO.lst []), (a_purse, MO.lst purse_2)], rfl, rfl, h2, rfl, (z_int (ob h fun b h3 h => (y_eq .eq .eq h3 ⟨_, rfl, ⟨fun hb => (have h := ifT hb h; (zs_seq (zs_asg (z_cb (za_cons (zv0 (za_cons (zv1 (za_nil (obp h fun order purse_3 h4 h => zc_call (S := S_law_order Ac) ⟨_, _, _, 1, _, _, [(p__law_ties, MO.lst []), (a_purse, MO.lst purse_3)], rfl, rfl, h4, rfl, (zg3 (zs_one (zs_seq (zs_for (zi_rng1' (za_cons (z_op (zv1 (z_int (ob h fun z_4 h10 h => (y_sub .eq .eq h10 (za_nil (ob h fun ds h11 h => ⟨_, _, rfl, h11, (y_forO (S := List D) (fun ties_1 => [some (.at a_purse), some count, some (.at p__law_ties), some order, none]) (fun ties_1 => [(p__law_ties, MO.lst ties_1), (a_purse, MO.lst purse_3)]) h .rfl (fun ties_2 d _ h _ Jh5 => (zg4 (zs_one (zs_seq (zs_drop (z_bm (zv2 ⟨⟨_, .at 0 rfl⟩, (za_cons (z_tup (za_cons (z_lst (za_cons (z_op (zv3 (z_op (zv4 (z_int (ob h fun z_1 h6 h => (y_add .eq .eq h6 (ob h fun z_2 h7 h => (y_ix .eq .eq h7 (za_nil ⟨Nat.le_of_ble_eq_true rfl, (za_cons (z_op (zv3 (zv4 (ob h fun z_3 h8 h => (y_ix .eq .eq h8 (za_nil ⟨Nat.le_of_ble_eq_true rfl, (za_nil (ob h fun ties_4 h9 h => y_append (i := 0) (M' := [(p__law_ties, MO.lst ties_4), (a_purse, MO.lst purse_3)]) rfl h9 rfl (zs_nil (y_nx h Jh5 (.keep (.keep (.keep (.keep (.drop .nil))))) rfl rfl))))⟩)))))))⟩)))))))))))))))⟩))))))) (fun ties_3 h => (zs_nil (y_nx h Jh1 (.keep (.keep (.keep (.drop (.keep .nil))))) rfl rfl))) rfl)⟩)))))))))))))⟩)))))))))), fun hb => (have h := ifF hb h; (zs_nil (y_nx h Jh1 .rfl rfl rfl)))⟩⟩)))⟩))))))))))) (fun (ties_5, purse_4) h => (zs_seq (zs_for (zi_rng1' (za_cons (z_cb (za_cons (zv0 (za_cons (z_op (z_int (z_cb (za_cons (zv2 (za_nil (ob h fun z_6 h15 h => (y_len (.at 0 rfl) h15 (ob h fun z_7 h16 h => (y_sub .eq .eq h16 (za_nil (obp h fun z_8 purse_9 h17 h => zc_call (S := S_law_draw Ac) ⟨_, _, _, 1, _, _, [(p__law_ties, MO.lst ties_5), (a_purse, MO.lst purse_9)], rfl, rfl, h17, rfl, (za_nil (ob h fun ds_1 h18 h => ⟨_, _, rfl, h18, (y_forO (S := List D × List D) (fun (ties_6, purse_5) => [some (.at a_purse), some count, some (.at p__law_ties), none, none]) (fun (ties_6, purse_5) => [(p__law_ties, MO.lst ties_6), (a_purse, MO.lst purse_5)]) h .rfl (fun (ties_7, purse_6) d_1 _ h _ Jh12 => (zg4 (zs_one (zs_seq (zs_drop (z_bm (zv2 ⟨⟨_, .at 0 rfl⟩, (za_cons (z_cb (za_cons (zv0 (za_cons (zv1 (za_nil (obp h fun z_5 purse_8 h13 h => zc_call (S := S_law_drawn Ac) ⟨_, _, _, 1, _, _, [(p__law_ties, MO.lst ties_7), (a_purse, MO.lst purse_8)], rfl, rfl, h13, rfl, (za_nil (ob h fun ties_9 h14 h => y_append (i := 0) (M' := [(p__law_ties, MO.lst ties_9), (a_purse, MO.lst purse_8)]) rfl h14 rfl (zs_nil (y_nx h Jh12 (.keep (.keep (.keep (.keep (.drop .nil))))) rfl rfl))))⟩))))))))⟩))))))) (fun (ties_8, purse_7) h => (y_frz (i := 0) (j := 2) (Γ' := [some (.at a_purse), some count, some (D.lst ties_8), none, none]) (M' := [(a_purse, MO.lst purse_7)]) rfl rfl rfl rfl (zs_ret (zv2 (y_ret (kd := kd_law_ties a_purse) (x := ((D.lst ties_8), purse_7)) [] h hit.rt rfl rfl))))) rfl)⟩))⟩)))))))))))))))))))))))⟩))))
theorem z_law_ties {kk : D → Mem → Prop} {ds : List D} {M : Mem} (h : S_law_ties Ac ds M kk) : ZS { K := K } (t_law_ties K Ac (S_law_draw Ac) (S_law_order Ac) (S_law_drawn Ac)) (startD N_law_ties ds) M { nx := fun _ M' => kk .non M', rt := kk } := by
  obtain ⟨_, _, _, _, _, _, _, rfl, hi, hm, rfl, hk⟩ := h
  exact zs_def1 hi (out := (_, _)) hk fun DD hit => y_law_ties T hm hit
/-! _law_reach -/
def kd_law_reach : D → D × Mem := fun x => (x, [])
def S_law_reach (Ac : Cs) : ZSp := fun ds M kk_ => ∃ (ties given count : D) (d : D), ds = [ties, given, count] ∧ m_law_reach Ac ties given count = some d ∧ kk_ d M
theorem y_law_reach {ties : D} {given : D} {count : D} {out : D} (h : m_law_reach Ac ties given count = some out) {DD : ZEnds} (hit : HitD (kd_law_reach) DD out) : ZS { K := K } (t_law_reach K Ac) [some ties, some given, some count, none, none, none, none, none, none] [] DD := by
  unfold m_law_reach at h
  unfold t_law_reach
  exact (zs_seq (zs_asg (z_lcM (own_name (by decide)) (zi_rng1' (za_cons (zv2 (za_nil (ob h fun ds h1 h => ⟨_, _, rfl, h1, (ob h fun reached h2 h => y_lcO h2 (fun d _ h _ hk => (zg4 (z_op (zv4 (zv1 (ob h fun b h3 h => (y_inY .eq .eq h3 (y_lf h hk)))))))) (fun p__law_reached => zg3 (zs_seq (zs_for (zi_rng1' (za_cons (zv2 (za_nil (ob h fun ds_4 h18 h => ⟨_, _, rfl, h18, (y_forO (S := List D) (fun reached_1 => [some ties, some given, some count, some (.at p__law_reached), none, none, none, none, none]) (fun reached_1 => [(p__law_reached, MO.lst reached_1)]) h .rfl (fun reached_2 d_1 _ h _ Jh4 => (zg5 (zs_one (zs_seq (zs_for (zi_seqY (zv0 (ob h fun ds_2 h13 h => ⟨_, h13, (y_forO (S := List D) (fun reached_4 => [some ties, some given, some count, some (.at p__law_reached), none, some d_1, none, none, none]) (fun reached_4 => [(p__law_reached, MO.lst reached_4)]) h .rfl (fun reached_5 d_2 _ h _ Jh5 => (obp h fun origins aim h6 h => zg_un2 h6 (zg6 (zg7 (zs_if (zt_truth (z_cb (za_cons (z_lc (own_name (by decide)) (zi_seqY (zv6 (ob h fun ds_1 h7 h => ⟨_, h7, (ob h fun ys h8 h => y_lcO h8 (fun d_3 _ h _ hk => (zg8 (z_op (zv3 (zv8 (ob h fun z h9 h => (y_ix (.at 0 rfl) .eq h9 (y_lf h hk)))))))) (za_nil (ob h fun z_1 h10 h => (y_any .eq h10 (ob h fun b_1 h11 h => ⟨_, y_truD .eq h11, ⟨fun hb => (have h := ifT hb h; (zs_one (zs_seq (zs_asg (z_bl (zg_setL' (zv3 (zv7 (ob h fun reached_7 h12 h => ⟨_, 0, _, _, [(p__law_reached, MO.lst reached_7)], rfl, rfl, h12, rfl, (zs_nil (y_nx h Jh5 (.keep (.keep (.keep (.keep (.keep (.keep (.drop (.drop (.keep .nil))))))))) rfl rfl))⟩))))))))), fun hb => (have h := ifF hb h; (zs_nil (y_nx h Jh5 (.keep (.keep (.keep (.keep (.keep (.keep (.drop (.drop (.keep .nil))))))))) rfl rfl)))⟩⟩)))))⟩)))))))))))) (fun reached_6 h => (zs_nil (y_nx h Jh4 (.keep (.keep (.keep (.keep (.keep (.drop (.keep (.keep (.keep .nil))))))))) rfl rfl))) rfl)⟩)))))))) (fun reached_3 h => (zs_ret (z_lc (own_name (by decide)) (zi_rng1' (za_cons (zv2 (za_nil (ob h fun ds_3 h14 h => ⟨_, _, rfl, h14, (ob h fun r h15 h => y_lcF h15 (fun d_4 _ h _ _ kT kF => (zg4 (zt_truth (z_op (zv3 (zv4 (ob h fun z_2 h16 h => (y_ix (.at 0 rfl) .eq h16 (ob h fun b_2 h17 h => ⟨_, y_truD .eq h17, ⟨fun hb => (have h := ifT hb h; (zv4 (y_fT h kT))), fun hb => (have h := ifF hb h; y_fF h kF)⟩⟩))))))))) (y_ret (kd := kd_law_reach) (x := (D.lst r)) [(p__law_reached, MO.lst reached_3)] h hit.rt rfl rfl))⟩)))))))) rfl)⟩)))))))))⟩))))))))
theorem z_law_reach {kk : D → Mem → Prop} {ds : List D} {M : Mem} (h : S_law_reach Ac ds M kk) : ZS { K := K } (t_law_reach K Ac) (startD N_law_reach ds) M { nx := fun _ M' => kk .non M', rt := kk } := by
  obtain ⟨_, _, _, _, rfl, hm, hk⟩ := h
  exact zs_def0 hk fun DD hit => y_law_reach T hm hit
/-! _law_asked -/
def kd_law_asked : D → D × Mem := fun x => (x, [])
def S_law_asked (Ac : Cs) : ZSp := fun ds M kk_ => ∃ (network ties given count : D) (d : D), ds = [network, ties, given, count] ∧ m_law_asked Ac network ties given count = some d ∧ kk_ d M
theorem y_law_asked {network : D} {ties : D} {given : D} {count : D} {out : D} (h : m_law_asked Ac network ties given count = some out) {DD : ZEnds} (hit : HitD (kd_law_asked) DD out) : ZS { K := K } (t_law_asked K Ac (S_Network_hanging Ac) (S_law_reach Ac) (S_law_same Ac) (S_Network_edges_into Ac)) [some network, some ties, some given, some count, none, none, none, none, none, none] [] DD := by
  unfold m_law_asked at h
  unfold t_law_asked
  exact (zs_seq (zs_asg (z_cb (za_cons (zv2 (za_nil (ob h fun passed h1 h => (y_list .eq h1 (zg4 (zs_seq (zs_asg (z_mth (zv0 (ob h fun u h2 h => ⟨⟨_, .eq, h2⟩, (za_cons (zv4 (za_nil (ob h fun told h3 h => zc_call (S := S_Network_hanging Ac) ⟨_, _, _, rfl, h3, (fun p__law_told => zg5 (zs_seq (zs_asg (z_cb (za_cons (zv1 (za_cons (zv2 (za_cons (zv3 (za_nil (ob h fun due h4 h => zc_call (S := S_law_reach Ac) ⟨_, _, _, _, rfl, h4, (zg6 (zs_seq (zs_if (zt_or' (zt_not (zt_truth (z_cb (za_cons (zv5 (za_cons (zv6 (za_nil (ob h fun z h5 h => zc_call (S := S_law_same Ac) ⟨_, _, _, _, rfl, (.at 0 rfl), h5, (ob h fun b h6 h => ⟨_, y_truD .eq h6, (y_or h (fun _ h _ hk => (zt_test (z_op (zv4 (zv2 (ob h fun b_1 h7 h => (y_ne .eq .eq h7 ⟨_, rfl, (y_lfB h hk)⟩))))))) (fun b_2 h => ⟨fun hb => (have h := ifT hb h; (zs_ret (z_bl (y_ret (kd := kd_law_asked) (x := (D.bl false)) [(p__law_told, MO.lst told)] h hit.rt rfl rfl)))), fun hb => (have h := ifF hb h; (zs_nil (zs_seq (zs_drop (z_bm (zv5 ⟨⟨_, .at 0 rfl⟩, (za_cons (z_un (z_int (y_neg (x := .int 1) (z := .int (-1)) .eq rfl (za_nil (ob h fun told_1 h8 h => y_append (i := 0) (M' := [(p__law_told, MO.lst told_1)]) rfl h8 rfl (zs_seq (zs_drop (z_bm0 (zv5 ⟨⟨_, .at 0 rfl⟩, (y_reverse (i := 0) (M' := [(p__law_told, MO.lst told_1.reverse)]) rfl rfl (zs_seq (zs_if (zt_not (zt_truth (z_cb (za_cons (z_fz (z_mth (zv0 (ob h fun u_1 h9 h => ⟨⟨_, .eq, h9⟩, (za_cons (z_op (zv2 (z_sl (zv2 (zo_none (zo_some' (z_int (ob h fun o h10 h => ⟨_, h10, (ob h fun z_1 h11 h => (y_slice .eq h11 (ob h fun z_2 h12 h => (y_add .eq .eq h12 (za_nil (ob h fun z_3 h13 h => zc_call (S := S_Network_hanging Ac) ⟨_, _, _, rfl, h13, (fun p => ⟨rfl, (za_cons (zv6 (za_nil (ob h fun z_4 h14 h => zc_call (S := S_law_same Ac) ⟨_, _, _, _, rfl, .eq, h14, (ob h fun b_3 h15 h => ⟨_, y_truD .eq h15, ⟨fun hb => (have h := ifT hb h; (zs_ret (z_bl (y_ret (kd := kd_law_asked) (x := (D.bl false)) [(p__law_told, MO.lst told_1.reverse)] h hit.rt rfl rfl)))), fun hb => (have h := ifF hb h; (zs_nil (zs_seq (zs_for (zi_rng1' (za_cons (zv3 (za_nil (ob h fun ds_1 h32 h => ⟨_, _, rfl, h32, (y_forD (S := D) (kd := kd_law_asked) (fun due_1 => [some network, some ties, some given, some count, some passed, some (.at p__law_told), some due_1, none, none, none]) (fun due_1 => [(p__law_told, MO.lst told_1.reverse)]) h hit.rt .rfl (fun due_2 d _ h _ Jh16 => (zg7 (zs_seq (zs_asg (z_mth (zv0 (ob h fun u_2 h17 h => ⟨⟨_, .eq, h17⟩, (za_cons (zv7 (za_nil (ob h fun into h18 h => zc_call (S := S_Network_edges_into Ac) ⟨_, _, _, rfl, h18, (fun p__law_into => zg8 (zs_seq (zs_asg (z_lc (own_name (by decide)) (zi_rng1' (za_cons (z_cb (za_cons (zv1 (za_nil (ob h fun z_5 h19 h => (y_len .eq h19 (za_nil (ob h fun ds h20 h => ⟨_, _, rfl, h20, (ob h fun due_4 h21 h => y_lcF h21 (fun d_1 _ h _ _ kT kF => (zg9 (zt_test (z_op (z_op (z_op (zv1 (zv9 (ob h fun z_6 h22 h => (y_ix .eq .eq h22 (z_int (ob h fun z_7 h23 h => (y_ix .eq .eq h23 (zv7 (ob h fun b_4 h24 h => (y_eq .eq .eq h24 ⟨_, rfl, ⟨fun hb => (have h := ifT hb h; (zv9 (y_fT h kT))), fun hb => (have h := ifF hb h; y_fF h kF)⟩⟩)))))))))))))))) (zg6 (zs_seq (zs_if (zt_not (zt_truth (z_cb (za_cons (zv8 (za_cons (zv6 (za_nil (ob h fun z_8 h25 h => zc_call (S := S_law_same Ac) ⟨_, _, _, _, rfl, (.at 0 rfl), h25, (ob h fun b_5 h26 h => ⟨_, y_truD .eq h26, ⟨fun hb => (have h := ifT hb h; (zs_ret (z_bl (y_rtF (r := (D.bl false)) [(p__law_into, MO.lst into), (p__law_told, MO.lst told_1.reverse)] h Jh16 rfl rfl rfl)))), fun hb => (have h := ifF hb h; (zs_nil (zs_seq (zs_drop (z_bm (zv8 ⟨⟨_, .at 0 rfl⟩, (za_cons (z_un (z_int (y_neg (x := .int 1) (z := .int (-1)) .eq rfl (za_nil (ob h fun into_1 h27 h => y_append (i := 0) (M' := [(p__law_into, MO.lst into_1), (p__law_told, MO.lst told_1.reverse)]) rfl h27 rfl (zs_if (zt_not (zt_truth (z_cb (za_cons (z_fz (z_mth (zv0 (ob h fun u_3 h28 h => ⟨⟨_, .eq, h28⟩, (za_cons (zv7 (za_nil (ob h fun z_9 h29 h => zc_call (S := S_Network_edges_into Ac) ⟨_, _, _, rfl, h29, (fun p => ⟨rfl, (za_cons (zv6 (za_nil (ob h fun z_10 h30 h => zc_call (S := S_law_same Ac) ⟨_, _, _, _, rfl, .eq, h30, (ob h fun b_6 h31 h => ⟨_, y_truD .eq h31, ⟨fun hb => (have h := ifT hb h; (zs_ret (z_bl (y_rtF (r := (D.bl false)) [(p__law_into, MO.lst into_1), (p__law_told, MO.lst told_1.reverse)] h Jh16 rfl rfl rfl)))), fun hb => (have h := ifF hb h; (y_forgetS (i := 0) (M' := [(p__law_told, MO.lst told_1.reverse)]) rfl (zs_nil (y_nxF (n := (D.lst due_4)) h Jh16 (.keep (.keep (.keep (.keep (.keep (.keep (.keep (.drop (.drop (.keep .nil)))))))))) rfl rfl))))⟩⟩)⟩))))⟩)⟩))))⟩)))))))))))))))⟩))))))⟩⟩)⟩)))))))))))))⟩))))))))))))))⟩))))⟩))))))) (fun due_3 h => (zs_ret (z_bl (y_ret (kd := kd_law_asked) (x := (D.bl true)) [(p__law_told, MO.lst told_1.reverse)] h hit.rt rfl rfl)))) rfl)⟩)))))))))⟩⟩)⟩))))⟩)⟩))))))⟩)))))))))⟩)))))))))))⟩))))))))))⟩))))))⟩))⟩)⟩)))))))))))))⟩))))))))))))⟩))))⟩))))))))))))))
theorem z_law_asked {kk : D → Mem → Prop} {ds : List D} {M : Mem} (h : S_law_asked Ac ds M kk) : ZS { K := K } (t_law_asked K Ac (S_Network_hanging Ac) (S_law_reach Ac) (S_law_same Ac) (S_Network_edges_into Ac)) (startD N_law_asked ds) M { nx := fun _ M' => kk .non M', rt := kk } := by
  obtain ⟨_, _, _, _, _, rfl, hm, hk⟩ := h
  exact zs_def0 hk fun DD hit => y_law_asked T hm hit
/-! _law_given -/
def kd_law_given (a_purse : Addr) : D × List D → D × Mem := fun x => (x.1, [(a_purse, .lst x.2)])
def S_law_given (Ac : Cs) : ZSp := fun ds M kk_ => ∃ (a_purse : Addr) (count : D) (purse : List D) (i : Nat) (d : D) (o' : List D) (M' : Mem), ds = [.at a_purse, count] ∧ M[i]? = some (a_purse, .lst purse) ∧ m_law_given Ac purse count = some (d, o') ∧ M.set i (a_purse, .lst o') = M' ∧ kk_ d M'
theorem y_law_given {purse : List D} {count : D} {a_purse : Addr} {out : D × List D} (h : m_law_given Ac purse count = some out) {DD : ZEnds} (hit : HitD (kd_law_given a_purse) DD out) : ZS { K := K } (t_law_given K Ac (S_law_order Ac) (S_law_draw Ac)) [some (.at a_purse), some count, none, none] [(a_purse, MO.lst purse)] DD := by
  unfold m_law_given at h
  unfold t_law_given
  exact (zs_seq (zs_asg (z_cb (za_cons (zv0 (za_cons (zv1 (za_nil (obp h fun order purse_1 h1 h => zc_call (S := S_law_order Ac) ⟨_, _, _, 0, _, _, [(a_purse, MO.lst purse_1)], rfl, rfl, h1, rfl, (zg2 (zs_seq (zs_asg (z_cb (za_cons (zv0 (za_cons (z_int (za_nil (obp h fun way purse_2 h2 h => zc_call (S := S_law_draw Ac) ⟨_, _, _, 0, _, _, [(a_purse, MO.lst purse_2)], rfl, rfl, h2, rfl, (zg3 (zs_seq (zs_if (zt_test (z_op (zv3 (z_int (ob h fun b h3 h => (y_eq .eq .eq h3 ⟨_, rfl, ⟨fun hb => (have h := ifT hb h; (zs_ret (z_sl (zv2 (zo_none (zo_some' (z_cb (za_cons (zv0 (za_cons (z_op (zv1 (z_int (ob h fun z h4 h => (y_add .eq .eq h4 (za_nil (obp h fun z_1 purse_3 h5 h => zc_call (S := S_law_draw Ac) ⟨_, _, _, 0, _, _, [(a_purse, MO.lst purse_3)], rfl, rfl, h5, rfl, (ob h fun o h6 h => ⟨_, h6, (ob h fun r h7 h => (y_slice .eq h7 (y_ret (kd := kd_law_given a_purse) (x := (r, purse_3)) [] h hit.rt rfl rfl)))⟩)⟩))))))))))))))))), fun hb => (have h := ifF hb h; (zs_nil (zs_ret (z_sl (zv2 (zo_none (zo_some' (z_op (zv3 (z_int (ob h fun z_2 h8 h => (y_sub .eq .eq h8 (ob h fun o_1 h9 h => ⟨_, h9, (ob h fun r_1 h10 h => (y_slice .eq h10 (y_ret (kd := kd_law_given a_purse) (x := (r_1, purse_2)) [] h hit.rt rfl rfl)))⟩)))))))))))))⟩⟩)))))))))⟩))))))))))⟩)))))))))
theorem z_law_given {kk : D → Mem → Prop} {ds : List D} {M : Mem} (h : S_law_given Ac ds M kk) : ZS { K := K } (t_law_given K Ac (S_law_order Ac) (S_law_draw Ac)) (startD N_law_given ds) M { nx := fun _ M' => kk .non M', rt := kk } := by
  obtain ⟨_, _, _, _, _, _, _, rfl, hi, hm, rfl, hk⟩ := h
  exact zs_def1 hi (out := (_, _)) hk fun DD hit => y_law_given T hm hit
/-! law -/
def kd_law : D → D × Mem := fun x => (x, [])
def S_law (Ac : Cs) : ZSp := fun ds M kk_ => ∃ (script : D) (d : D), ds = [script] ∧ m_law Ac script = some d ∧ kk_ d M
theorem y_law {script : D} {out : D} (h : m_law Ac script = some out) {DD : ZEnds} (hit : HitD (kd_law) DD out) : ZS { K := K } (t_law K Ac (S_law_purse Ac) (S_Frame_init Ac) (S_law_draw Ac) (S_law_ties Ac) (S_law_arc Ac) (S_Network_init Ac) (S_law_given Ac) (S_law_asked Ac) (S_law_drawn Ac) (S_Network_with_edge Ac) (S_Network_plus_edge Ac)) [some script, none, none, none, none, none, none, none, none, none, none, none, none, none, none] [] DD := by
  unfold m_law at h
  unfold t_law
  exact (zs_seq (zs_asg (z_cb (za_cons (zv0 (za_nil (ob h fun purse h1 h => zc_call (S := S_law_purse Ac) ⟨_, _, rfl, h1, (fun p__law_purse => zg1 (zs_seq (zs_asg (z_sl (z_lst (za_cons (z_cb (za_cons (z_str (za_cons (z_tup (za_cons (z_str (za_nil ⟨Nat.le_of_ble_eq_true rfl, (za_cons (z_tup (za_cons (z_tup (za_cons (z_int (za_nil ⟨Nat.le_of_ble_eq_true rfl, (za_nil ⟨Nat.le_of_ble_eq_true rfl, (za_nil (ob h fun fs h2 h => y_make (S := S_Frame_init Ac) (fun _ => ⟨_, _, _, _, [], 0, _, _, rfl, rfl, h2, rfl, rfl, rfl⟩) (za_cons (z_cb (za_cons (z_str (za_cons (z_tup (za_cons (z_str (za_nil ⟨Nat.le_of_ble_eq_true rfl, (za_cons (z_tup (za_cons (z_tup (za_cons (z_un (z_int (y_neg (x := .int 1) (z := .int (-1)) .eq rfl (za_nil ⟨Nat.le_of_ble_eq_true rfl, (za_nil ⟨Nat.le_of_ble_eq_true rfl, (za_nil (ob h fun fs_1 h3 h => y_make (S := S_Frame_init Ac) (fun _ => ⟨_, _, _, _, [], 0, _, _, rfl, rfl, h3, rfl, rfl, rfl⟩) (za_nil ⟨Nat.le_of_ble_eq_true rfl, (zo_none (zo_some' (z_op (z_int (z_cb (za_cons (zv1 (za_cons (z_int (za_nil (obp h fun z purse_1 h4 h => zc_call (S := S_law_draw Ac) ⟨_, _, _, 0, _, _, [(p__law_purse, MO.lst purse_1)], rfl, rfl, h4, rfl, (ob h fun z_1 h5 h => (y_add .eq .eq h5 (ob h fun o h6 h => ⟨_, h6, (ob h fun shells h7 h => (y_slice .eq h7 (zg2 (zs_seq (zs_asg (z_op (z_int (z_cb (za_cons (zv1 (za_cons (z_int (za_nil (obp h fun z_2 purse_2 h8 h => zc_call (S := S_law_draw Ac) ⟨_, _, _, 0, _, _, [(p__law_purse, MO.lst purse_2)], rfl, rfl, h8, rfl, (ob h fun count h9 h => (y_add .eq .eq h9 (zg3 (zs_seq (zs_asg (z_lc (own_name (by decide)) (zi_rng1' (za_cons (zv3 (za_nil (ob h fun ds h10 h => ⟨_, _, rfl, h10, (obp h fun seats purse_6 h11 h => y_lcS (S := List D) (fun purse_4 => [(p__law_purse, MO.lst purse_4)]) h11 (fun purse_3 d _ _ h _ hk => (zg5 (z_tup (za_cons (z_op (z_str (z_cb (za_cons (zv5 (za_nil (ob h fun z_3 h12 h => (y_str h12 (ob h fun z_4 h13 h => (y_add .eq .eq h13 (za_cons (z_cb (za_cons (zv1 (za_cons (z_cb (za_cons (zv2 (za_nil (ob h fun z_5 h14 h => (y_len .eq h14 (za_nil (obp h fun z_6 purse_5 h15 h => zc_call (S := S_law_draw Ac) ⟨_, _, _, 0, _, _, [(p__law_purse, MO.lst purse_5)], rfl, rfl, h15, rfl, (za_nil ⟨Nat.le_of_ble_eq_true rfl, (y_lfXD (Ms := (fun purse_4 => [(p__law_purse, MO.lst purse_4)])) (s := purse_5) h hk rfl)⟩)⟩))))))))))))))))))))))))))) rfl (zg4 (zs_seq (zs_asg (z_cb (za_cons (zv1 (za_cons (zv3 (za_nil (obp h fun ties purse_7 h16 h => zc_call (S := S_law_ties Ac) ⟨_, _, _, 0, _, _, [(p__law_purse, MO.lst purse_7)], rfl, rfl, h16, rfl, (zg6 (zs_seq (zs_asg (z_cb (za_cons (zv2 (za_cons (zv4 (za_cons (z_lc (own_t2 (by decide) (by decide)) (zi_seqY (zv6 (ob h fun ds_1 h17 h => ⟨_, h17, (obp h fun ys purse_11 h18 h => y_lcS (S := List D) (fun purse_9 => [(p__law_purse, MO.lst purse_9)]) h18 (fun purse_8 d_1 _ _ h _ hk => (obp h fun origins aim h19 h => zg_un2 h19 (zg8 (zg9 (z_cb (za_cons (zv1 (za_cons (zv8 (za_cons (zv9 (za_nil (obp h fun z_7 purse_10 h20 h => zc_call (S := S_law_arc Ac) ⟨_, _, _, _, 0, _, _, [(p__law_purse, MO.lst purse_10)], rfl, rfl, h20, rfl, (y_lfXD (Ms := (fun purse_9 => [(p__law_purse, MO.lst purse_9)])) (s := purse_10) h hk rfl)⟩))))))))))))) rfl (za_nil (ob h fun fs_2 h21 h => y_make (S := S_Network_init Ac) (fun _ => ⟨_, _, _, _, [], 0, _, _, rfl, rfl, h21, rfl, rfl, rfl⟩) (zg7 (zs_seq (zs_asg (z_cb (za_cons (zv1 (za_cons (zv3 (za_nil (obp h fun given purse_12 h22 h => zc_call (S := S_law_given Ac) ⟨_, _, _, 0, _, _, [(p__law_purse, MO.lst purse_12)], rfl, rfl, h22, rfl, (zg10 (zs_seq (zs_if (zt_not (zt_truth (z_cb (za_cons (zv7 (za_cons (zv6 (za_cons (zv10 (za_cons (zv3 (za_nil (ob h fun z_8 h23 h => zc_call (S := S_law_asked Ac) ⟨_, _, _, _, _, rfl, h23, (ob h fun b h24 h => ⟨_, y_truD .eq h24, ⟨fun hb => (have h := ifT hb h; (zs_ret (z_bl (y_ret (kd := kd_law) (x := (D.bl false)) [(p__law_purse, MO.lst purse_12)] h hit.rt rfl rfl)))), fun hb => (have h := ifF hb h; (zs_nil (zs_seq (zs_asg (z_cb (za_cons (zv1 (za_cons (zv3 (za_nil (obp h fun z_9 purse_13 h25 h => zc_call (S := S_law_drawn Ac) ⟨_, _, _, 0, _, _, [(p__law_purse, MO.lst purse_13)], rfl, rfl, h25, rfl, (obp h fun origins_1 aim_1 h26 h => zg_un2 h26 (zg8 (zg9 (zs_seq (zs_asg (z_cb (za_cons (zv6 (za_nil (ob h fun at' h27 h => (y_len .eq h27 (zg11 (y_join (N := D × D × List D) (fun (at'_1, changed, purse_14) => [some script, some (.at p__law_purse), some shells, some count, some (D.lst seats), none, some ties, some (D.obj Ac.c_Network fs_2), some origins_1, some aim_1, some given, some at'_1, some changed, none, none]) (fun (at'_1, changed, purse_14) => [(p__law_purse, MO.lst purse_14)]) h (fun _ h _ Jh28 => (zs_if (zt_and' (zt_truth (zv6 (ob h fun b_1 h29 h => ⟨_, y_truD .eq h29, (y_andX (S := List D) (fun purse_15 => [(p__law_purse, MO.lst purse_15)]) (s := purse_13) h (fun _ _ h _ hk => (zt_test (z_op (z_cb (za_cons (zv1 (za_cons (z_int (za_nil (obp h fun z_10 purse_16 h30 h => zc_call (S := S_law_draw Ac) ⟨_, _, _, 0, _, _, [(p__law_purse, MO.lst purse_16)], rfl, rfl, h30, rfl, (z_int (ob h fun b_2 h31 h => (y_gt .eq .eq h31 ⟨_, rfl, (y_lfX (Ms := (fun purse_15 => [(p__law_purse, MO.lst purse_15)])) (s := purse_16) h hk rfl)⟩)))⟩)))))))))) rfl (fun b_3 purse_17 h => ⟨fun hb => (have h := ifT hb h; (zs_seq (zs_asg (z_cb (za_cons (zv1 (za_cons (z_cb (za_cons (zv6 (za_nil (ob h fun z_11 h32 h => (y_len .eq h32 (za_nil (obp h fun at'_2 purse_18 h33 h => zc_call (S := S_law_draw Ac) ⟨_, _, _, 0, _, _, [(p__law_purse, MO.lst purse_18)], rfl, rfl, h33, rfl, (zg11 (zs_one (zs_seq (zs_asg (z_mth (zv7 (ob h fun u h34 h => ⟨⟨_, .eq, h34⟩, (za_cons (zv11 (za_cons (z_cb (za_cons (zv1 (za_cons (zv8 (za_cons (zv9 (za_nil (obp h fun z_12 purse_19 h35 h => zc_call (S := S_law_arc Ac) ⟨_, _, _, _, 0, _, _, [(p__law_purse, MO.lst purse_19)], rfl, rfl, h35, rfl, (za_nil (ob h fun changed_1 h36 h => zc_call (S := S_Network_with_edge Ac) ⟨_, _, _, _, rfl, h36, (zg12 (zs_nil (y_nx h Jh28 .rfl rfl rfl)))⟩))⟩))))))))))))⟩)))))))⟩))))))))))))))), fun hb => (have h := ifF hb h; (zs_one (zs_seq (zs_asg (z_mth (zv7 (ob h fun u_1 h37 h => ⟨⟨_, .eq, h37⟩, (za_cons (z_cb (za_cons (zv1 (za_cons (zv8 (za_cons (zv9 (za_nil (obp h fun z_13 purse_20 h38 h => zc_call (S := S_law_arc Ac) ⟨_, _, _, _, 0, _, _, [(p__law_purse, MO.lst purse_20)], rfl, rfl, h38, rfl, (za_nil (ob h fun changed_2 h39 h => zc_call (S := S_Network_plus_edge Ac) ⟨_, _, _, rfl, h39, (zg12 (zs_nil (y_nx h Jh28 .rfl rfl rfl)))⟩))⟩))))))))))⟩)))))))⟩))⟩)))))) (fun (at'_3, changed_3, purse_21) h => (zs_seq (zs_asg (z_op (z_op (z_sl (zv6 (zo_none (zo_some' (zv11 (ob h fun o_1 h40 h => ⟨_, h40, (ob h fun z_14 h41 h => (y_slice .eq h41 (z_lst (za_cons (z_tup (za_cons (zv8 (za_cons (zv9 (za_nil ⟨Nat.le_of_ble_eq_true rfl, (za_nil ⟨Nat.le_of_ble_eq_true rfl, (ob h fun z_15 h42 h => (y_add .eq .eq h42 (z_sl (zv6 (zo_some' (z_op (zv11 (z_int (ob h fun z_16 h43 h => (y_add .eq .eq h43 (ob h fun o_2 h44 h => ⟨_, h44, (zo_none (ob h fun z_17 h45 h => (y_slice .eq h45 (ob h fun later h46 h => (y_add .eq .eq h46 (zg13 (zs_seq (zs_asg (z_cb (za_cons (zv1 (za_cons (zv3 (za_nil (obp h fun other purse_22 h47 h => zc_call (S := S_law_given Ac) ⟨_, _, _, 0, _, _, [(p__law_purse, MO.lst purse_22)], rfl, rfl, h47, rfl, (zg14 (zs_seq (zs_if (zt_or' (zt_not (zt_truth (z_cb (za_cons (zv12 (za_cons (zv13 (za_cons (zv10 (za_cons (zv3 (za_nil (ob h fun z_18 h48 h => zc_call (S := S_law_asked Ac) ⟨_, _, _, _, _, rfl, h48, (ob h fun b_4 h49 h => ⟨_, y_truD .eq h49, (y_or h (fun _ h _ hk => (zt_not (zt_truth (z_cb (za_cons (zv7 (za_cons (zv6 (za_cons (zv14 (za_cons (zv3 (za_nil (ob h fun z_19 h50 h => zc_call (S := S_law_asked Ac) ⟨_, _, _, _, _, rfl, h50, (ob h fun b_5 h51 h => ⟨_, y_truD .eq h51, (y_lfB h hk)⟩)⟩)))))))))))))) (fun b_6 h => ⟨fun hb => (have h := ifT hb h; (zs_ret (z_bl (y_ret (kd := kd_law) (x := (D.bl false)) [(p__law_purse, MO.lst purse_22)] h hit.rt rfl rfl)))), fun hb => (have h := ifF hb h; (zs_nil (zs_ret (z_andV' (z_cb (za_cons (zv12 (za_cons (zv13 (za_cons (zv14 (za_cons (zv3 (za_nil (ob h fun z_20 h52 h => zc_call (S := S_law_asked Ac) ⟨_, _, _, _, _, rfl, h52, (ob h fun b_7 h53 h => ⟨_, dBl_some h53, (y_andV h (fun _ h _ hk => (z_cb (za_cons (zv7 (za_cons (zv6 (za_cons (zv10 (za_cons (zv3 (za_nil (ob h fun z_21 h54 h => zc_call (S := S_law_asked Ac) ⟨_, _, _, _, _, rfl, h54, (y_lf h hk)⟩)))))))))))) (fun v h => (y_ret (kd := kd_law) (x := v) [(p__law_purse, MO.lst purse_22)] h hit.rt rfl rfl)))⟩)⟩)))))))))))))))⟩))⟩)⟩)))))))))))))))))⟩)))))))))))))))⟩)))))))))))⟩)⟩))))))))))⟩))))))))))))))))))))))))⟩)))))))))))⟩⟩)⟩))))))))))))))))⟩)))))))))))))⟩)))))))))))))⟩)))))))))))⟩)))))))))))⟩))))))))))))))⟩)))⟩)))))))))))⟩)))⟩)⟩)))))))))⟩)))))))))))⟩)⟩)))))))⟩))))))))))))))⟩)))))))
theorem z_law {kk : D → Mem → Prop} {ds : List D} {M : Mem} (h : S_law Ac ds M kk) : ZS { K := K } (t_law K Ac (S_law_purse Ac) (S_Frame_init Ac) (S_law_draw Ac) (S_law_ties Ac) (S_law_arc Ac) (S_Network_init Ac) (S_law_given Ac) (S_law_asked Ac) (S_law_drawn Ac) (S_Network_with_edge Ac) (S_Network_plus_edge Ac)) (startD N_law ds) M { nx := fun _ M' => kk .non M', rt := kk } := by
  obtain ⟨_, _, rfl, hm, hk⟩ := h
  exact zs_def0 hk fun DD hit => y_law T hm hit
end
end Qk14
set_option Elab.async false
set_option linter.all false
set_option maxRecDepth 100000
set_option maxHeartbeats 4000000
/-! M14a: draws, rows, orders. -/
namespace Qk14
open PySem Z TL
variable {Ac : Cs}
/-- the purse -/
def IsP (p : List D) : Prop := ∃ (a b c : Int) (cells : List Int), p = .int a :: .int b :: .int c :: cells.map .int
theorem dPopAt3 {a b c d : D} {r : List D} (h : r.length < 1000) : dPopAt (a :: b :: c :: d :: r) (.int 3) = some (d, a :: b :: c :: r) := by
  have e : seqIndex? 3 (r.length + 1 + 1 + 1 + 1) = some 3 := by
    have := seqIndex_of (n := r.length + 1 + 1 + 1 + 1) (k := 3) (by decide) (by omega)
    exact this
  show (if -(2 ^ 63) ≤ (3 : Int) ∧ (3 : Int) < 2 ^ 63 then (seqIndex? 3 (a :: b :: c :: d :: r).length).bind fun n => ((a :: b :: c :: d :: r)[n]?).map fun x => (x, (a :: b :: c :: d :: r).eraseIdx n) else none) = _
  rw [if_pos (by decide)]
  show (seqIndex? 3 (r.length + 1 + 1 + 1 + 1)).bind _ = _
  rw [e]; rfl
def IsQ (p : List D) : Prop := ∃ (a b c : Int) (cells : List Int), p = .int a :: .int b :: .int c :: cells.map .int ∧ cells.length < 1000
theorem draw_ok {p : List D} (hp : IsQ p) {n : Int} (h0 : 0 < n) (h1 : n.natAbs < 2 ^ 200) : ∃ (v : Int) (p' : List D), m_law_draw Ac p (.int n) = some (.int v, p') ∧ 0 ≤ v ∧ v < n ∧ IsQ p' := by
  have fin : ∀ (a b c : Int) (cells : List Int), cells.length < 1000 → ∃ (v : Int) (p' : List D), ((dIx (D.lst (.int a :: .int b :: .int c :: cells.map .int)) (D.int 2)).bind fun z_9 =>
((dAdd z_9 (D.int 1)).bind fun z_10 =>
((dSet (.int a :: .int b :: .int c :: cells.map .int) (D.int 2) z_10).bind fun purse_6 =>
((dIx (D.lst purse_6) (D.int 0)).bind fun z_11 =>
((bGt z_11 (D.int 0)).bind fun b_4 =>
(if b_4 then
((dIx (D.lst purse_6) (D.int 0)).bind fun z_12 =>
((dInt z_12).bind fun z_13 =>
((dMod z_13 (.int n)).bind fun digit =>
((dIx (D.lst purse_6) (D.int 0)).bind fun z_14 =>
((dDiv z_14 (.int n)).bind fun z_15 =>
((dSet purse_6 (D.int 0) z_15).bind fun purse_7 =>
some (digit, purse_7)))))))
else
((dIx (D.lst purse_6) (D.int 1)).bind fun z_16 =>
((dMul z_16 (D.int 48271)).bind fun z_17 =>
((dIx (D.lst purse_6) (D.int 2)).bind fun z_18 =>
((dMul z_18 (D.int 69621)).bind fun z_19 =>
((dAdd z_17 z_19).bind fun z_20 =>
((dInt z_20).bind fun z_21 =>
((dMod z_21 (D.int 2147483647)).bind fun mixed =>
((dMul mixed mixed).bind fun z_22 =>
((dIx (D.lst purse_6) (D.int 1)).bind fun z_23 =>
((dMul z_23 (D.int 16807)).bind fun z_24 =>
((dAdd z_22 z_24).bind fun z_25 =>
((dIx (D.lst purse_6) (D.int 2)).bind fun z_26 =>
((dMul z_26 (D.int 40692)).bind fun z_27 =>
((dAdd z_25 z_27).bind fun z_28 =>
((dInt z_28).bind fun z_29 =>
((dMod z_29 (D.int 2147483399)).bind fun mixed_1 =>
((dDiv mixed_1 (D.int 11)).bind fun z_30 =>
((dMod z_30 (.int n)).bind fun r =>
some (r, purse_6))))))))))))))))))))))))) = some (.int v, p') ∧ 0 ≤ v ∧ v < n ∧ IsQ p' := fun a b c cells hl => by
    simp -implicitDefEqProofs only [dIx_l2, Option.bind_some, dAdd_ii, dSet_2, dIx_l0, bGt_ii]
    by_cases ha : 0 < a
    · rw [if_pos (decide_eq_true ha)]
      simp -implicitDefEqProofs only [Option.bind_some, dInt_i, dMod_ii h0, dDiv_n (i := a) (j := n) (by omega) h1 (by decide), dSet_0]
      exact ⟨_, _, rfl, Int.emod_nonneg _ (by omega), Int.emod_lt_of_pos _ h0, _, _, _, cells, rfl, hl⟩
    · rw [if_neg (by simpa using ha)]
      have hm : ∀ x : Int, (x % 2147483647).natAbs < 2 ^ 64 := fun x => by
        have h1 := Int.emod_nonneg x (show (2147483647 : Int) ≠ 0 by decide)
        have h2 := Int.emod_lt_of_pos x (show (0 : Int) < 2147483647 by decide)
        omega
      simp -implicitDefEqProofs only [dIx_l1, Option.bind_some, dIx_l2, dMul_r (i := b) (j := 48271) (by decide), dMul_r (i := c + 1) (j := 69621) (by decide), dAdd_ii, dInt_i, dMod_ii (show (0 : Int) < 2147483647 by decide), dMul_l (hm _),
        dMul_r (i := b) (j := 16807) (by decide), dMul_r (i := c + 1) (j := 40692) (by decide), dMod_ii (show (0 : Int) < 2147483399 by decide), dDiv_n (j := 11) (a := 4) (by decide) (by decide) (by decide), dMod_ii h0]
      exact ⟨_, _, rfl, Int.emod_nonneg _ (by omega), Int.emod_lt_of_pos _ h0, _, _, _, cells, rfl, hl⟩
  obtain ⟨a, b, c, cells, rfl, hl⟩ := hp
  unfold m_law_draw
  simp -implicitDefEqProofs only [dIx_l0, Option.bind_some, bEq_ii]
  by_cases ha : a = 0
  · rw [if_pos (decide_eq_true ha)]
    simp -implicitDefEqProofs only [dLen_l, Option.bind_some, bGt_ii]
    cases cells with
    | nil =>
      simp -implicitDefEqProofs only [List.map_nil, List.length_cons, List.length_nil]
      rw [if_neg (by decide)]
      exact fin a b c [] hl
    | cons cell cells =>
      have hl' : cells.length < 1000 := by rw [List.length_cons] at hl; omega
      have e3 : decide ((3 : Int) < ((D.int a :: D.int b :: D.int c :: List.map D.int (cell :: cells)).length : Nat)) = true := decide_eq_true (by simp -implicitDefEqProofs only [List.length_cons, List.map_cons]; omega)
      rw [e3]
      simp -implicitDefEqProofs only [if_true, Option.bind_some, List.map_cons]
      rw [dPopAt3 (by rw [List.length_map]; exact hl')]
      simp -implicitDefEqProofs only [bp_some, bGe_ii, Option.bind_some]
      by_cases hc : (1000000000000000000 : Int) ≤ cell
      · rw [if_pos (decide_eq_true hc)]
        simp -implicitDefEqProofs only [dSet_0, Option.bind_some]
        exact fin cell b c cells hl'
      · rw [if_neg (by simpa using hc)]
        simp -implicitDefEqProofs only [dIx_l1, Option.bind_some, dMul_r (i := b) (j := 40014) (by decide), dMul_r (i := cell) (j := 48271) (by decide), dAdd_ii, dInt_i, dMod_ii (show (0 : Int) < 2147483563 by decide), dSet_1]
        exact fin a _ c cells hl'
  · rw [if_neg (by simpa using ha)]
    simp -implicitDefEqProofs only [Option.bind_some, Bool.false_eq_true, if_false]
    exact fin a b c cells hl
theorem purse_ok {ns : List Int} : ∃ p, m_law_purse Ac (.scr (ns.map .int)) = some p ∧ IsQ p := by
  have hcut : ∃ ys : List Int, cutD (ns.map D.int) none (some 63) = ys.map D.int ∧ ys.length ≤ 63 := by
    unfold cutD
    rw [← List.map_drop, ← List.map_take]
    refine ⟨_, rfl, ?_⟩
    rw [List.length_take]
    have : HT.sIx (ns.map D.int).length (ns.map D.int).length (some ((63 : Nat) : Int)) ≤ 63 := by rw [HT.sIx_nat]; exact Nat.min_le_left _ _
    exact Nat.le_trans (Nat.min_le_left _ _) (Nat.le_trans (Nat.sub_le _ _) this)
  obtain ⟨ys, hy, hl⟩ := hcut
  have e1 : dSlice (.scr (ns.map D.int)) none (some 63) = some (.lst (ys.map D.int)) := by rw [← hy]; rfl
  unfold m_law_purse
  simp -implicitDefEqProofs only [dPart_i, Option.bind_some, e1, dLen_l, dAdd_ii, itStr_l]
  rw [lcO_map (g := D.int) (r := fun i : Int => D.int (i.natAbs : Int)) (size_ok (by omega)) fun i _ => by simp -implicitDefEqProofs only [dInt_i, dAbs_i, Option.bind_some]]
  simp -implicitDefEqProofs only [Option.bind_some]
  have e2 : ys.map (fun i : Int => D.int (i.natAbs : Int)) = (ys.map fun i : Int => (i.natAbs : Int)).map D.int := by rw [List.map_map]; rfl
  rw [e2]
  have e3 : ∀ x : List D, x.length ≤ 100 → ∀ a b c : D, dExt [a, b, c] (.lst x) = some (a :: b :: c :: x) := fun x hx a b c => by
    show (if [a, b, c].length + x.length ≤ sizeLine then some ([a, b, c] ++ x) else none) = _
    rw [if_pos (size_ok (by simp -implicitDefEqProofs only [List.length_cons, List.length_nil]; omega))]; rfl
  rw [e3 _ (by rw [List.length_map, List.length_map]; omega)]
  exact ⟨_, rfl, _, _, _, _, rfl, by rw [List.length_map]; omega⟩
end Qk14
set_option Elab.async false
set_option linter.all false
set_option maxRecDepth 100000
set_option maxHeartbeats 4000000
/-! M14b: rows, orders, edges. -/
namespace Qk14
open PySem Z TL
variable {Ac : Cs}
abbrev rowD (is : List Int) : D := .tup (is.map .int)
abbrev nD (n : Nat) : D := .int (n : Int)
theorem itRng1_s {m : Nat} (h : m ≤ 1000000) : itRng1 (.int ((m : Int) + 1)) = some (rngD 0 (m + 1)) := by
  have e := itRng1_n (n := m + 1) (Nat.lt_of_le_of_lt (Nat.succ_le_succ h) (by decide))
  rwa [Int.natCast_succ] at e
theorem itRng1_k {m : Nat} (h : m ≤ 1000000) : itRng1 (nD m) = some (rngD 0 m) := itRng1_n (Nat.lt_of_le_of_lt h (by decide))
theorem row_ok {p : List D} (hp : IsQ p) {m : Nat} (hm : m ≤ 100) : ∃ (is : List Int) (p' : List D), m_law_row Ac p (nD m) = some (rowD is, p') ∧ is.length = m + 1 ∧ IsQ p' := by
  unfold m_law_row
  rw [dAdd_ii, Option.bind_some, itRng1_s (by omega), Option.bind_some]
  refine ex_pr3 (g := rowD) (lcS_then IsQ (fun y => ∃ i : Int, y = .int i) _ (size_ok (by rw [rngD_length]; omega)) hp (fun d _ s hs => ?_) (fun ys s1 l2 p2 hs1 => ?_))
  · obtain ⟨v, b, e, _, _, hb⟩ := draw_ok (Ac := Ac) hs (n := 7) (by decide) (by decide)
    exact ⟨.int (v - 3), b, by rw [e, bp_some, dSub_ii, Option.bind_some], ⟨_, rfl⟩, hb⟩
  · obtain ⟨is, rfl⟩ := all_map (g := D.int) p2
    rw [List.length_map, rngD_length] at l2
    exact ⟨_, rfl, is, s1, rfl, l2, hs1⟩
/-- a draw below a number of places -/
theorem drawN_ok {p : List D} (hp : IsQ p) {n : Nat} (h0 : 0 < n) (h1 : n ≤ 1000) : ∃ (v : Nat) (p' : List D), m_law_draw Ac p (nD n) = some (nD v, p') ∧ v < n ∧ IsQ p' := by
  obtain ⟨v, p', e, l, u, hp'⟩ := draw_ok (Ac := Ac) hp (n := (n : Int)) (by omega) (Nat.lt_of_le_of_lt (show ((n : Int)).natAbs ≤ 1000 by omega) (by decide))
  refine ⟨v.toNat, p', ?_, by omega, hp'⟩
  rw [e]
  show some (D.int v, p') = some (D.int ((v.toNat : Nat) : Int), p')
  rw [Int.toNat_of_nonneg l]
theorem dPopAt_n {xs : List D} {j : Nat} {d : D} (h : xs[j]? = some d) (hl : xs.length < 1000) : dPopAt xs (nD j) = some (d, xs.eraseIdx j) := by
  have hj := (List.getElem?_eq_some_iff.mp h).1
  have e : seqIndex? (j : Int) xs.length = some j := by
    rw [seqIndex_of (by omega) (by omega), Int.toNat_natCast]
  unfold dPopAt
  dsimp only
  rw [if_pos (by omega), e, Option.bind_some, h]; rfl
theorem eraseIdx_map' {α β : Type} (f : α → β) : ∀ (l : List α) (i : Nat), (l.map f).eraseIdx i = (l.eraseIdx i).map f
  | [], i => by simp
  | a :: l, 0 => rfl
  | a :: l, i + 1 => by rw [List.map_cons, List.eraseIdx_cons_succ, List.eraseIdx_cons_succ, List.map_cons, eraseIdx_map' f l i]
theorem rngD_nD (n : Nat) : rngD 0 n = (List.range n).map nD := by
  unfold rngD
  exact List.map_congr_left fun i _ => by rw [Int.zero_add]
theorem order_ok {p : List D} (hp : IsQ p) {n : Nat} (hn : n ≤ 100) : ∃ (os : List Nat) (p' : List D), m_law_order Ac p (nD n) = some (.lst (os.map nD), p') ∧ (os.length = n ∧ ∀ o ∈ os, o < n) ∧ IsQ p' := by
  unfold m_law_order
  have e0 : dRgL (nD n) = some (rngD 0 n) := by
    show (if -(2 ^ 62) ≤ (n : Int) ∧ (n : Int) ≤ 2 ^ 24 then some (rngD 0 ((n : Int)).toNat) else none) = _
    rw [if_pos (by omega), Int.toNat_natCast]
  rw [e0, Option.bind_some, itRng1_k (by omega), Option.bind_some]
  refine ex_pr3 (g := fun os : List Nat => D.lst (os.map nD)) (fold_ix (fun i (s : List D × List D × List D) => ∃ (rs os : List Nat) (p' : List D), s = (rs.map nD, os.map nD, p') ∧ rs.length = n - i ∧ os.length = i ∧ (∀ o ∈ rs, o < n) ∧ (∀ o ∈ os, o < n) ∧ IsQ p') _ ⟨List.range n, [], p, by rw [rngD_nD]; rfl, by simp, rfl, fun o h => List.mem_range.mp h, fun o h => absurd h List.not_mem_nil, hp⟩ (fun i d s hd hI => ?_) (fun s hI => ?_))
  · obtain ⟨rs, os, p1, rfl, h1, h2, h3, h4, hp1⟩ := hI
    obtain ⟨hi, rfl⟩ := rngD_get hd
    obtain ⟨v, p2, e2, hv, hp2⟩ := drawN_ok (Ac := Ac) hp1 (n := rs.length) (by omega) (by omega)
    have e3 : (rs.map nD)[v]? = some (nD rs[v]) := by rw [List.getElem?_map, List.getElem?_eq_getElem hv]; rfl
    refine ⟨((rs.eraseIdx v).map nD, (os ++ [rs[v]]).map nD, p2), ?_, rs.eraseIdx v, os ++ [rs[v]], p2, rfl, by rw [List.length_eraseIdx_of_lt hv]; omega, by rw [List.length_append, h2]; rfl, fun o ho => h3 o (List.mem_of_mem_eraseIdx ho), fun o ho => ?_, hp2⟩
    · show ((dLen (D.lst (rs.map nD))).bind _) = _
      rw [dLen_l, Option.bind_some, List.length_map, e2, bp_some, dPopAt_n e3 (by rw [List.length_map]; omega), bp_some, dApp_ok (Nat.lt_of_lt_of_le (show (os.map nD).length < 100000 by rw [List.length_map]; omega) (size_ok (by omega))), Option.bind_some, List.map_append, eraseIdx_map']
      rfl
    · rcases List.mem_append.mp ho with h | h
      · exact h4 o h
      · rw [List.mem_singleton.mp h]; exact h3 _ (List.getElem_mem hv)
  · obtain ⟨rs, os, p1, rfl, h1, h2, h3, h4, hp1⟩ := hI
    rw [rngD_length] at h2
    exact ⟨_, rfl, os, p1, rfl, ⟨h2, h4⟩, hp1⟩
end Qk14
set_option Elab.async false
set_option linter.all false
set_option maxRecDepth 100000
set_option maxHeartbeats 4000000
/-! M14c: edges, ties, what is given. -/
namespace Qk14
open PySem Z TL
variable {Ac : Cs}
/-- an edge: from the places os to the place aim -/
def edgeF (a b s g e l : D) : List (Str × D) := [("target", a), ("unknowns", b), ("sources", s), ("guards", g), ("effect", e), ("label", l)]
def edgeD (Ac : Cs) (aim many : Nat) (srcs : List (Nat × List Int)) (eff : List Int) : D :=
  .obj Ac.c_Edge (edgeF (nD aim) (nD many) (.tup (srcs.map fun s => .tup [nD s.1, .tup [rowD s.2]])) (.tup []) (.tup [rowD eff]) (.str "plain"))
abbrev Tie := List Nat × Nat
def IsE (Ac : Cs) (t : Tie) (d : D) : Prop := ∃ many srcs eff, d = edgeD Ac t.2 many srcs eff ∧ srcs.map (·.1) = t.1 ∧ (∀ s ∈ srcs, s.2.length = many + 1) ∧ eff.length = many + 1 ∧ many ≤ 2
abbrev tieD (t : Tie) : D := .tup [.lst (t.1.map nD), nD t.2]
theorem dPut_ok {fs : List (Str × D)} {f : Str} {d : D} (h : fs.length < 1000) : dPut fs f d = some (putD f d fs) := if_pos h
theorem putD_le {f : Str} {d : D} : ∀ {fs : List (Str × D)} {k : Nat}, fs.length ≤ k → (putD f d fs).length ≤ k + 1
  | [], k, _ => by show 1 ≤ k + 1; omega
  | (g, x) :: r, 0, h => by simp at h
  | (g, x) :: r, k + 1, h => by
    unfold putD
    split
    · exact Nat.le_succ_of_le h
    · have := putD_le (f := f) (d := d) (Nat.le_of_succ_le_succ h)
      exact Nat.succ_le_succ this
theorem edge_init_ok (a b s g e l : D) {ss gs es : List D} (hs : s = .tup ss) (hg : g = .tup gs) (he : e = .tup es) : m_Edge_init Ac [] a b s g e l = some (edgeF a b s g e l) := by
  subst hs hg he
  unfold m_Edge_init
  rw [dPut_ok (Nat.lt_of_le_of_lt (Nat.le_refl 0) (by decide)), Option.bind_some, dPut_ok (Nat.lt_of_le_of_lt (putD_le (Nat.le_refl 0)) (by decide)), Option.bind_some, dTuple_t, Option.bind_some, dPut_ok (Nat.lt_of_le_of_lt (putD_le (putD_le (Nat.le_refl 0))) (by decide)), Option.bind_some, dTuple_t, Option.bind_some, dPut_ok (Nat.lt_of_le_of_lt (putD_le (putD_le (putD_le (Nat.le_refl 0)))) (by decide)), Option.bind_some, dTuple_t, Option.bind_some, dPut_ok (Nat.lt_of_le_of_lt (putD_le (putD_le (putD_le (putD_le (Nat.le_refl 0))))) (by decide)), Option.bind_some, dPut_ok (Nat.lt_of_le_of_lt (putD_le (putD_le (putD_le (putD_le (putD_le (Nat.le_refl 0)))))) (by decide)), Option.bind_some]
  rfl
theorem arc_ok {p : List D} (hp : IsQ p) {t : Tie} (ht : t.1.length ≤ 100) : ∃ (d : D) (p' : List D), m_law_arc Ac p (.lst (t.1.map nD)) (nD t.2) = some (d, p') ∧ IsE Ac t d ∧ IsQ p' := by
  obtain ⟨os, aim⟩ := t
  unfold m_law_arc
  obtain ⟨many, p1, e1, hm, hp1⟩ := drawN_ok (Ac := Ac) hp (n := 3) (by decide) (by decide)
  rw [show D.int 3 = nD 3 from rfl, e1, bp_some, itStr_l, Option.bind_some]
  have key : ∀ (l : List Nat) (s : List D), IsQ s → ∃ (srcs : List (Nat × List Int)) (s' : List D), mapS (fun purse_2 d => (bp (m_law_row Ac purse_2 (nD many)) fun z purse_4 => some ((D.tup [d, (D.tup [z])]), purse_4))) (l.map nD) s = some (srcs.map (fun s => D.tup [nD s.1, .tup [rowD s.2]]), s') ∧ srcs.map (·.1) = l ∧ (∀ x ∈ srcs, x.2.length = many + 1) ∧ IsQ s' := by
    intro l
    induction l with
    | nil => exact fun s hs => ⟨[], s, rfl, rfl, fun _ h => absurd h List.not_mem_nil, hs⟩
    | cons o l ih =>
      intro s hs
      obtain ⟨is, s1, e2, hl, hs1⟩ := row_ok (Ac := Ac) hs (m := many) (by omega)
      obtain ⟨srcs, s2, e3, h4, h5, hs2⟩ := ih s1 hs1
      refine ⟨(o, is) :: srcs, s2, ?_, by rw [List.map_cons, h4], fun x hx => ?_, hs2⟩
      · show bp (bp (m_law_row Ac s (nD many)) _) _ = _
        rw [e2, bp_some]
        show bp (some _) _ = _
        rw [bp_some, e3, bp_some]; rfl
      · rcases List.mem_cons.mp hx with rfl | h
        · exact hl
        · exact h5 x h
  obtain ⟨srcs, p2, e2, h4, h5, hp2⟩ := key os p1 hp1
  obtain ⟨eff, p3, e3, hl, hp3⟩ := row_ok (Ac := Ac) hp2 (m := many) (by omega)
  have e2' : lcS (fun purse_2 d => (bp (m_law_row Ac purse_2 (nD many)) fun z purse_4 => some ((D.tup [d, (D.tup [z])]), purse_4))) (os.map nD) p1 = some (srcs.map (fun s => D.tup [nD s.1, .tup [rowD s.2]]), p2) := by
    unfold lcS
    rw [if_pos (size_ok (by rw [List.length_map]; exact Nat.le_trans ht (by decide))), e2]
  rw [e2', bp_some, dTuple_l, Option.bind_some, e3, bp_some, edge_init_ok _ _ _ _ _ _ rfl rfl rfl, Option.bind_some]
  exact ⟨_, p3, rfl, ⟨many, srcs, eff, rfl, h4, h5, hl, by omega⟩, hp3⟩
/-- a tie among n places -/
def OkT (n : Nat) (t : Tie) : Prop := t.1.length ≤ 2 ∧ (∀ o ∈ t.1, o < n) ∧ t.2 < n
theorem drawn_ok {p : List D} (hp : IsQ p) {n : Nat} (h0 : 0 < n) (hn : n ≤ 100) : ∃ (t : Tie) (p' : List D), m_law_drawn Ac p (nD n) = some (.tup [.lst (t.1.map nD), nD t.2], p') ∧ OkT n t ∧ IsQ p' := by
  unfold m_law_drawn
  obtain ⟨m, p1, e1, hm, hp1⟩ := drawN_ok (Ac := Ac) hp (n := 3) (by decide) (by decide)
  rw [show D.int 3 = nD 3 from rfl, e1, bp_some, itRng1_k (by omega), Option.bind_some]
  refine ex_pr3 (g := fun t : Tie => D.tup [.lst (t.1.map nD), nD t.2]) (fold_ix (fun i (s : List D × List D) => ∃ (os : List Nat) (p' : List D), s = (os.map nD, p') ∧ os.length = i ∧ (∀ o ∈ os, o < n) ∧ IsQ p') _ ⟨[], p1, rfl, rfl, fun o h => absurd h List.not_mem_nil, hp1⟩ (fun i d s hd hI => ?_) (fun s hI => ?_))
  · obtain ⟨os, p2, rfl, h2, h4, hp2⟩ := hI
    obtain ⟨hi, rfl⟩ := rngD_get hd
    obtain ⟨v, p3, e2, hv, hp3⟩ := drawN_ok (Ac := Ac) hp2 h0 (by omega)
    refine ⟨((os ++ [v]).map nD, p3), ?_, os ++ [v], p3, rfl, by rw [List.length_append, h2]; rfl, fun o ho => ?_, hp3⟩
    · show bp (m_law_draw Ac p2 (nD n)) _ = _
      rw [e2, bp_some, dApp_ok (Nat.lt_of_lt_of_le (show (os.map nD).length < 100000 by rw [List.length_map]; omega) (size_ok (by omega))), Option.bind_some, List.map_append]
      rfl
    · rcases List.mem_append.mp ho with h | h
      · exact h4 o h
      · rw [List.mem_singleton.mp h]; exact hv
  · obtain ⟨os, p2, rfl, h2, h4, hp2⟩ := hI
    rw [rngD_length] at h2
    obtain ⟨v, p3, e2, hv, hp3⟩ := drawN_ok (Ac := Ac) hp2 h0 (by omega)
    refine ⟨(.tup [.lst (os.map nD), nD v], p3), ?_, (os, v), p3, rfl, ⟨by show os.length ≤ 2; omega, h4, hv⟩, hp3⟩
    show bp (m_law_draw Ac p2 (nD n)) _ = _
    rw [e2, bp_some]
theorem dIx_ln {os : List Nat} {i : Nat} {o : Nat} (h : os[i]? = some o) : dIx (.lst (os.map nD)) (nD i) = some (nD o) := dIx_l (by rw [List.getElem?_map, h]; rfl)
theorem ties_ok {p : List D} (hp : IsQ p) {n : Nat} (h0 : 0 < n) (hn : n ≤ 12) : ∃ (ts : List Tie) (p' : List D), m_law_ties Ac p (nD n) = some (.lst (ts.map tieD), p') ∧ ((∀ t ∈ ts, OkT n t) ∧ ts.length ≤ 40) ∧ IsQ p' := by
  have tail : ∀ (ts0 : List Tie) (p0 : List D), IsQ p0 → (∀ t ∈ ts0, OkT n t) → ts0.length ≤ 12 → ∃ (ts : List Tie) (p' : List D), ((dLen (D.lst (ts0.map tieD))).bind fun z_6 =>
((dSub (D.int 21) z_6).bind fun z_7 =>
(bp (m_law_draw Ac p0 z_7) fun z_8 purse_9 =>
((itRng1 z_8).bind fun ds_1 =>
((foldO (S := List D × List D) (fun (ties_7, purse_6) d_1 =>
(bp (m_law_drawn Ac purse_6 (nD n)) fun z_5 purse_8 =>
((dApp ties_7 z_5).bind fun ties_9 =>
some (ties_9, purse_8)))) ds_1 (ts0.map tieD, purse_9)).bind fun (ties_8, purse_7) =>
some ((D.lst ties_8), purse_7)))))) = some (.lst (ts.map tieD), p') ∧ ((∀ t ∈ ts, OkT n t) ∧ ts.length ≤ 40) ∧ IsQ p' := fun ts0 p0 hp0 ht0 hl0 => by
    rw [dLen_l, Option.bind_some, List.length_map, dSub_ii, Option.bind_some, show (21 : Int) - ((ts0.length : Nat) : Int) = ((21 - ts0.length : Nat) : Int) from by omega]
    obtain ⟨m, p1, e1, hm, hp1⟩ := drawN_ok (Ac := Ac) hp0 (n := 21 - ts0.length) (by omega) (by omega)
    rw [e1, bp_some, itRng1_k (by omega), Option.bind_some]
    refine ex_pr3 (g := fun ts : List Tie => D.lst (ts.map tieD)) (fold_ix (fun i (s : List D × List D) => ∃ (ts : List Tie) (p' : List D), s = (ts.map tieD, p') ∧ ts.length = ts0.length + i ∧ (∀ t ∈ ts, OkT n t) ∧ IsQ p') _ ⟨ts0, p1, rfl, rfl, ht0, hp1⟩ (fun i d s hd hI => ?_) (fun s hI => ?_))
    · obtain ⟨ts, p2, rfl, h2, h4, hp2⟩ := hI
      obtain ⟨hi, rfl⟩ := rngD_get hd
      obtain ⟨t, p3, e2, hv, hp3⟩ := drawn_ok (Ac := Ac) hp2 h0 (by omega)
      refine ⟨((ts ++ [t]).map tieD, p3), ?_, ts ++ [t], p3, rfl, by rw [List.length_append, h2]; rfl, fun o ho => ?_, hp3⟩
      · show bp (m_law_drawn Ac p2 (nD n)) _ = _
        rw [e2, bp_some, dApp_ok (Nat.lt_of_lt_of_le (show (ts.map tieD).length < 100000 by rw [List.length_map]; omega) (size_ok (by omega))), Option.bind_some, List.map_append]
        rfl
      · rcases List.mem_append.mp ho with h | h
        · exact h4 o h
        · rw [List.mem_singleton.mp h]; exact hv
    · obtain ⟨ts, p2, rfl, h2, h4, hp2⟩ := hI
      rw [rngD_length] at h2
      exact ⟨_, rfl, ts, p2, rfl, ⟨h4, by omega⟩, hp2⟩
  unfold m_law_ties
  obtain ⟨m, p1, e1, hm, hp1⟩ := drawN_ok (Ac := Ac) hp (n := 3) (by decide) (by decide)
  rw [show D.int 3 = nD 3 from rfl, e1, bp_some, bEq_ii, Option.bind_some]
  by_cases hz : ((m : Nat) : Int) = 0
  · rw [if_pos (decide_eq_true hz)]
    obtain ⟨os, p2, e2, ⟨ho, ho2⟩, hp2⟩ := order_ok (Ac := Ac) hp1 (n := n) (by omega)
    rw [e2, bp_some, dSub_ii, Option.bind_some, show ((n : Nat) : Int) - 1 = ((n - 1 : Nat) : Int) from by omega, itRng1_k (by omega), Option.bind_some]
    obtain ⟨s', es, ts, hts, hl, hok⟩ := foldO_inv (f := fun ties_2 d => ((dAdd d (D.int 1)).bind fun z_1 => ((dIx (D.lst (os.map nD)) z_1).bind fun z_2 => ((dIx (D.lst (os.map nD)) d).bind fun z_3 => ((dApp ties_2 (D.tup [(D.lst [z_2]), z_3])).bind fun ties_4 => some ties_4))))) (fun i (s : List D) => ∃ ts : List Tie, s = ts.map tieD ∧ ts.length = i ∧ ∀ t ∈ ts, OkT n t) (rngD 0 (n - 1)) 0 [] ⟨[], rfl, rfl, fun t h => absurd h List.not_mem_nil⟩ fun i d s hd hI => by
      obtain ⟨ts, rfl, hl, hok⟩ := hI
      obtain ⟨hi, rfl⟩ := rngD_get hd
      have h1 : i + 1 < os.length := by omega
      have h2 : i < os.length := by omega
      refine ⟨(ts ++ [([os[i + 1]], os[i])]).map tieD, ?_, ts ++ [([os[i + 1]], os[i])], rfl, by rw [List.length_append, hl]; rfl, fun t ht => ?_⟩
      · rw [dAdd_ii, Option.bind_some, Int.zero_add, show ((i : Nat) : Int) + 1 = ((i + 1 : Nat) : Int) from rfl, dIx_ln (List.getElem?_eq_getElem h1), Option.bind_some, dIx_ln (List.getElem?_eq_getElem h2), Option.bind_some, dApp_ok (Nat.lt_of_lt_of_le (show (ts.map tieD).length < 100000 by rw [List.length_map]; omega) (size_ok (by omega))), Option.bind_some, List.map_append]
        rfl
      · rcases List.mem_append.mp ht with h | h
        · exact hok t h
        · rw [List.mem_singleton.mp h]
          exact ⟨by simp, fun o h => by rw [List.mem_singleton.mp h]; exact ho2 _ (List.getElem_mem h1), ho2 _ (List.getElem_mem h2)⟩
    rw [es, Option.bind_some, Option.bind_some]
    subst hts
    rw [rngD_length] at hl
    exact tail ts p2 hp2 hok (by omega)
  · rw [if_neg (by simpa using hz), Option.bind_some]
    exact tail [] p1 hp1 (fun t h => absurd h List.not_mem_nil) (by simp)
end Qk14
set_option Elab.async false
set_option linter.all false
set_option maxRecDepth 100000
set_option maxHeartbeats 4000000
/-! M14d: the network is made. -/
namespace Qk14
open PySem Z TL
variable {Ac : Cs}
theorem forL_ix {S R : Type} {f : S → D → Option (Fl S S R)} (I : Nat → S → Prop) : ∀ (ds : List D) (k : Nat) (s : S), I k s → (∀ i d s, ds[i]? = some d → I (k + i) s → ∃ s', f s d = some (.nx s') ∧ I (k + i + 1) s') → ∃ s', forL f ds s = some (.nx s') ∧ I (k + ds.length) s'
  | [], k, s, h, _ => ⟨s, rfl, h⟩
  | d :: ds, k, s, h, hs => by
    obtain ⟨s1, e1, h1⟩ := hs 0 d s rfl h
    obtain ⟨s2, e2, h2⟩ := forL_ix I ds (k + 1) s1 h1 fun i d s hd hI => by
      have := hs (i + 1) d s hd (by rw [show k + (i + 1) = k + 1 + i by omega]; exact hI)
      rwa [show k + (i + 1) + 1 = k + 1 + i + 1 by omega] at this
    refine ⟨s2, ?_, by rw [List.length_cons, show k + (ds.length + 1) = k + 1 + ds.length by omega]; exact h2⟩
    show (f s d).bind _ = _
    rw [e1]; exact e2
theorem fin_ix {S R : Type} {f : S → D → Option (Fl S S R)} {ds : List D} {s : S} {mr : S → Option R} (I : Nat → S → Prop) (P : R → Prop) (h : I 0 s) (hs : ∀ i d s, ds[i]? = some d → I i s → ∃ s', f s d = some (.nx s') ∧ I (i + 1) s') (hm : ∀ s, I ds.length s → ∃ r, mr s = some r ∧ P r) : ∃ r, Fl.fin (forL f ds s) mr = some r ∧ P r := by
  obtain ⟨s', e, h'⟩ := forL_ix (R := R) I ds 0 s h fun i d s hd hI => by
    rw [Nat.zero_add] at hI ⊢; exact hs i d s hd hI
  rw [Nat.zero_add] at h'
  rw [e]; exact hm s' h'
theorem dFld_1 {C : Addr} {f : Str} {fs : List (Str × D)} : dFld [C] f (.obj C fs) = fs.lookup f := if_pos (List.mem_singleton.mpr rfl)
theorem dMth_1 {C : Addr} {f : Str} {fs : List (Str × D)} (h : fs.lookup f = none) : dMth C f (.obj C fs) = some () := if_pos ⟨rfl, h⟩
def frF (a v f : D) : List (Str × D) := [("name", a), ("variables", v), ("forms", f)]
theorem fr_v {C : Addr} {a v f : D} : dFld [C] "variables" (.obj C (frF a v f)) = some v := dFld_1.trans rfl
theorem fr_f {C : Addr} {a v f : D} : dFld [C] "forms" (.obj C (frF a v f)) = some f := dFld_1.trans rfl
theorem ed_t {C : Addr} {a b s g e l : D} : dFld [C] "target" (.obj C (edgeF a b s g e l)) = some a := dFld_1.trans rfl
theorem ed_u {C : Addr} {a b s g e l : D} : dFld [C] "unknowns" (.obj C (edgeF a b s g e l)) = some b := dFld_1.trans rfl
theorem ed_s {C : Addr} {a b s g e l : D} : dFld [C] "sources" (.obj C (edgeF a b s g e l)) = some s := dFld_1.trans rfl
theorem ed_g {C : Addr} {a b s g e l : D} : dFld [C] "guards" (.obj C (edgeF a b s g e l)) = some g := dFld_1.trans rfl
theorem ed_e {C : Addr} {a b s g e l : D} : dFld [C] "effect" (.obj C (edgeF a b s g e l)) = some e := dFld_1.trans rfl
theorem frame_init_ok (a v f : D) {vs fs : List D} (hv : v = .tup vs) (hf : f = .tup fs) : m_Frame_init Ac [] a v f = some (frF a v f) := by
  subst hv hf
  unfold m_Frame_init
  rw [dPut_ok (Nat.lt_of_le_of_lt (Nat.le_refl 0) (by decide)), Option.bind_some, dTuple_t, Option.bind_some, dPut_ok (Nat.lt_of_le_of_lt (putD_le (Nat.le_refl 0)) (by decide)), Option.bind_some, dTuple_t, Option.bind_some, dPut_ok (Nat.lt_of_le_of_lt (putD_le (putD_le (Nat.le_refl 0))) (by decide)), Option.bind_some]
  rfl
/-- a frame of one variable and one form -/
def IsFr (Ac : Cs) (d : D) : Prop := ∃ (a x : Str) (c : Int), c ≠ 0 ∧ d = .obj Ac.c_Frame (frF (.str a) (.tup [.str x]) (.tup [.tup [.int c]]))
theorem frame_fits_ok {d : D} (h : IsFr Ac d) : m_frame_fits Ac d = some (.bl true) := by
  obtain ⟨a, x, c, hc, rfl⟩ := h
  unfold m_frame_fits
  rw [fr_v, Option.bind_some, fr_f, Option.bind_some]
  rw [show dLenSet (.tup [.str x]) = some (.int 1) from rfl, Option.bind_some, dLen_t, Option.bind_some]
  rw [show bNe (.int 1) (.int ((([D.str x] : List D).length : Nat) : Int)) = some false from rfl, Option.bind_some, if_neg (by decide), dLen_t, Option.bind_some]
  rw [show bEq (.int ((([D.tup [D.int c]] : List D).length : Nat) : Int)) (.int 0) = some false from rfl, Option.bind_some, if_neg (by decide)]
  rw [show dLenSet (.tup [.tup [.int c]]) = some (.int 1) from rfl, Option.bind_some, Option.bind_some]
  rw [show bNe (.int 1) (.int ((([D.tup [D.int c]] : List D).length : Nat) : Int)) = some false from rfl, Option.bind_some, Option.bind_some, if_neg (by decide), itStr_t, Option.bind_some]
  refine fin_unit (fun d hd => ?_) rfl
  rw [List.mem_singleton] at hd
  subst hd
  rw [dLen_t, Option.bind_some, Option.bind_some, show bNe (.int ((([D.int c] : List D).length : Nat) : Int)) (.int ((([D.str x] : List D).length : Nat) : Int)) = some false from rfl, Option.bind_some, if_neg (by decide), Option.bind_some]
  rw [show dRepT (.tup [.int 0]) (.int ((([D.int c] : List D).length : Nat) : Int)) = some (.tup [.int 0]) from rfl, Option.bind_some]
  rw [show bEq (.tup [.int c]) (.tup [.int 0]) = some (c == 0 && true) from rfl, Option.bind_some, Bool.and_true]
  rw [if_neg (by simpa using hc)]
/-- a network -/
def netF (f p e : D) : List (Str × D) := [("frames", f), ("places", p), ("edges", e)]
structure Net (Ac : Cs) (fls : List D) (seats : List (Str × Nat)) (es : List D) : Prop where
  fr : ∀ d ∈ fls, IsFr Ac d
  st : ∀ s ∈ seats, s.2 < fls.length
  nd : (seats.map (·.1)).Nodup
  sz : seats.length ≤ 100
abbrev seatD (s : Str × Nat) : D := .tup [.str s.1, nD s.2]
def netD (Ac : Cs) (fls : List D) (seats : List (Str × Nat)) (es : List D) : List (Str × D) := netF (.tup fls) (.tup (seats.map seatD)) (.tup es)
theorem nt_f {C : Addr} {fls es : List D} {seats : List (Str × Nat)} : dFld [C] "frames" (.obj C (netD Ac fls seats es)) = some (.tup fls) := dFld_1.trans rfl
theorem nt_p {C : Addr} {fls es : List D} {seats : List (Str × Nat)} : dFld [C] "places" (.obj C (netD Ac fls seats es)) = some (.tup (seats.map seatD)) := dFld_1.trans rfl
theorem nt_e {C : Addr} {fls es : List D} {seats : List (Str × Nat)} : dFld [C] "edges" (.obj C (netD Ac fls seats es)) = some (.tup es) := dFld_1.trans rfl
section
variable {fls es : List D} {seats : List (Str × Nat)}
theorem place_frame (N : Net Ac fls seats es) {o : Nat} (ho : o < seats.length) : ∃ fr, IsFr Ac fr ∧ ∃ s, dIx (.tup (seats.map seatD)) (nD o) = some (seatD s) ∧ dIx (.tup fls) (nD s.2) = some fr := by
  have h1 := N.st _ (List.getElem_mem ho)
  exact ⟨fls[seats[o].2], N.fr _ (List.getElem_mem h1), seats[o], dIx_t (by rw [List.getElem?_map, List.getElem?_eq_getElem ho]; rfl), dIx_t (List.getElem?_eq_getElem h1)⟩
theorem variables_ok (N : Net Ac fls seats es) {o : Nat} (ho : o < seats.length) : ∃ x : Str, m_Network_variables_of Ac (.obj Ac.c_Network (netD Ac fls seats es)) (nD o) = some (.tup [.str x]) := by
  obtain ⟨fr, ⟨a, x, c, _, rfl⟩, s, h1, h2⟩ := place_frame N ho
  unfold m_Network_variables_of
  rw [nt_f, Option.bind_some, nt_p, Option.bind_some, h1, Option.bind_some, dIx_t1, Option.bind_some, h2, Option.bind_some, fr_v]
  exact ⟨x, rfl⟩
theorem forms_ok (N : Net Ac fls seats es) {o : Nat} (ho : o < seats.length) : ∃ c : Int, m_Network_forms_of Ac (.obj Ac.c_Network (netD Ac fls seats es)) (nD o) = some (.tup [.tup [.int c]]) := by
  obtain ⟨fr, ⟨a, x, c, _, rfl⟩, s, h1, h2⟩ := place_frame N ho
  unfold m_Network_forms_of
  rw [nt_f, Option.bind_some, nt_p, Option.bind_some, h1, Option.bind_some, dIx_t1, Option.bind_some, h2, Option.bind_some, fr_f]
  exact ⟨c, rfl⟩
theorem dAugA_ii {i j : Int} : dAugA (.int i) (.int j) = some (.int (i + j)) := rfl
theorem too_large_ok (N : Net Ac fls seats es) {t : Tie} {d : D} (he : IsE Ac t d) (ht : OkT seats.length t) : m_Network_is_too_large Ac (.obj Ac.c_Network (netD Ac fls seats es)) d = some (.bl false) := by
  obtain ⟨many, srcs, eff, rfl, h1, h2, h3, h4⟩ := he
  unfold m_Network_is_too_large edgeD
  rw [ed_g, Option.bind_some, dLen_t, Option.bind_some, ed_s, Option.bind_some, itStr_t, Option.bind_some]
  refine ex_eq (fold_ix (fun i (s : D) => s = .int (i : Int)) _ rfl (fun i d s hd hI => ?_) (fun s hI => ?_))
  · subst hI
    rw [List.getElem?_map] at hd
    obtain ⟨sr, hsr, rfl⟩ := Option.map_eq_some_iff.mp hd
    have ho : sr.1 < seats.length := ht.2.1 _ (by rw [← h1]; exact List.mem_map.mpr ⟨sr, List.mem_of_getElem? hsr, rfl⟩)
    obtain ⟨c, ec⟩ := forms_ok N ho
    refine ⟨.int ((i + 1 : Nat) : Int), ?_, rfl⟩
    rw [un2_t, bp_some, dMth_1 rfl, Option.bind_some, ec, Option.bind_some, dLen_t, Option.bind_some, dAugA_ii, Option.bind_some]
    rfl
  · subst hI
    refine ⟨_, ?_, rfl⟩
    have hl : srcs.length ≤ 2 := by have := congrArg List.length h1; rw [List.length_map] at this; rw [this]; exact ht.1
    rw [ed_u, Option.bind_some, bGt_ii, Option.bind_some, if_neg (by simp; omega), bGt_ii, Option.bind_some, Option.bind_some, List.length_map, decide_eq_false (by omega)]
theorem dExtZ_t {xs ys : List D} (h : xs.length + ys.length ≤ 100000) : dExtZ xs (.tup ys) = some (xs ++ ys) := if_pos (size_ok h)
theorem edge_fits_ok (N : Net Ac fls seats es) {t : Tie} {d : D} (he : IsE Ac t d) (ht : OkT seats.length t) : m_Network_edge_fits Ac (.obj Ac.c_Network (netD Ac fls seats es)) d = some (.bl true) := by
  obtain ⟨many, srcs, eff, rfl, h1, h2, h3, h4⟩ := he
  have hl : srcs.length ≤ 2 := by have := congrArg List.length h1; rw [List.length_map] at this; rw [this]; exact ht.1
  unfold m_Network_edge_fits edgeD
  rw [ed_s, Option.bind_some, dLen_t, Option.bind_some, bGt_ii, Option.bind_some, List.length_map, if_neg (by simp; omega), ed_g, Option.bind_some, items_t, Option.bind_some, Option.bind_some, ed_t, Option.bind_some, ed_e, Option.bind_some]
  have ea : dAdd (D.tup (srcs.map fun s => D.tup [nD s.1, .tup [rowD s.2]])) (D.tup [D.tup [nD t.2, D.tup [rowD eff]]]) = some (.tup ((srcs ++ [(t.2, eff)]).map fun s => D.tup [nD s.1, .tup [rowD s.2]])) := by
    rw [List.map_append]
    exact gd_of (decide_eq_true (size_ok (by rw [List.length_map]; simp; omega)))
  rw [ea, Option.bind_some, itStr_t, Option.bind_some]
  have hall : ∀ s ∈ srcs ++ [(t.2, eff)], s.1 < seats.length ∧ s.2.length = many + 1 := fun s hs => by
    rcases List.mem_append.mp hs with h | h
    · exact ⟨ht.2.1 _ (by rw [← h1]; exact List.mem_map.mpr ⟨s, h, rfl⟩), h2 s h⟩
    · rw [List.mem_singleton.mp h]; exact ⟨ht.2.2, h3⟩
  refine ex_eq (fin_ix (fun i (s : List D) => ∃ rs : List (List Int), s = rs.map rowD ∧ rs.length = i ∧ (∀ r ∈ rs, r.length = many + 1)) _ ⟨[], rfl, rfl, fun r h => absurd h List.not_mem_nil⟩ (fun i d s hd hs => ?_) (fun s hs => ?_))
  · obtain ⟨rs, rfl, hrl, hr⟩ := hs
    rw [List.getElem?_map] at hd
    obtain ⟨sr, hsr, rfl⟩ := Option.map_eq_some_iff.mp hd
    have hi : i < 3 := by
      have := (List.getElem?_eq_some_iff.mp hsr).1
      simp at this; omega
    obtain ⟨hp, hlen⟩ := hall sr (List.mem_of_getElem? hsr)
    obtain ⟨x, ex⟩ := variables_ok N hp
    refine ⟨(rs ++ [sr.2]).map rowD, ?_, rs ++ [sr.2], rfl, by rw [List.length_append, hrl]; rfl, fun r h => ?_⟩
    · rw [un2_t, bp_some, bLe_ii, Option.bind_some, if_pos (decide_eq_true (by omega)), nt_p, Option.bind_some, dLen_t, Option.bind_some, bLt_ii, Option.bind_some, Option.bind_some, List.length_map, decide_eq_true (show ((sr.1 : Nat) : Int) < ((seats.length : Nat) : Int) by omega)]
      rw [if_neg (by decide), dLen_t, Option.bind_some, dMth_1 rfl, Option.bind_some, ex, Option.bind_some, dLen_t, Option.bind_some]
      rw [show bNe (.int ((([rowD sr.2] : List D).length : Nat) : Int)) (.int ((([D.str x] : List D).length : Nat) : Int)) = some false from rfl, Option.bind_some, if_neg (by decide), dExtZ_t (by rw [List.length_map]; simp; omega), Option.bind_some, List.map_append]
      rfl
    · rcases List.mem_append.mp h with h | h
      · exact hr r h
      · rw [List.mem_singleton.mp h]; exact hlen
  · obtain ⟨rs, rfl, _, hr⟩ := hs
    refine ⟨_, ?_, rfl⟩
    rw [itStr_l, Option.bind_some]
    refine fin_unit (fun d hd => ?_) rfl
    obtain ⟨r, hr', rfl⟩ := List.mem_map.mp hd
    rw [dLen_t, Option.bind_some, ed_u, Option.bind_some, dAdd_ii, Option.bind_some, bNe_ii, Option.bind_some, List.length_map, hr r hr', if_neg (by simp)]
end
end Qk14
set_option Elab.async false
set_option linter.all false
set_option maxRecDepth 100000
set_option maxHeartbeats 4000000
/-! M14e: Network(..). -/
namespace Qk14
open PySem Z TL
variable {Ac : Cs}
theorem enum_get {ds : List D} {i : Nat} {d : D} (h : (enumD ds)[i]? = some d) : ∃ x, ds[i]? = some x ∧ d = .tup [nD i, x] := enumD_get h
theorem fold_unit {β : Type} {f : Unit → D → Option Unit} {ds : List D} {mr : Unit → Option β} {r : β} (hs : ∀ d ∈ ds, f () d = some ()) (hm : mr () = some r) : (foldO f ds ()).bind mr = some r :=
  ex_eq (fold_all (fun _ => True) (fun x => x = r) trivial (fun d hd s _ => ⟨(), hs d hd, trivial⟩) fun _ _ => ⟨r, hm, rfl⟩)
theorem bInK_names {l : List Str} {s : Str} (h : s ∉ l) : bInK (l.map fun x => ((Sum.inr x : L2.Key), D.bl true)) (.str s) = some false := by
  show some (((l.map fun x => ((Sum.inr x : L2.Key), D.bl true)).any fun kv => decide (kv.1 = Sum.inr s))) = _
  congr 1
  rw [List.any_eq_false]
  intro p hp
  obtain ⟨x, hx, rfl⟩ := List.mem_map.mp hp
  simp only [decide_eq_true_eq]
  intro e
  cases e
  exact h hx
theorem dPutK_names {l : List Str} {s : Str} (h : s ∉ l) (hl : l.length ≤ 1000) : dPutK (l.map fun x => ((Sum.inr x : L2.Key), D.bl true)) (.str s) (.bl true) = some ((l ++ [s]).map fun x => ((Sum.inr x : L2.Key), D.bl true)) := by
  have e := bInK_names h
  have e' : ((l.map fun x => ((Sum.inr x : L2.Key), D.bl true)).any fun kv => decide (kv.1 = (Sum.inr s : L2.Key))) = false := Option.some.inj e
  unfold dPutK
  rw [show dKey (.str s) = some (Sum.inr s) from rfl, Option.bind_some, if_pos (Nat.lt_of_lt_of_le (show _ < 100000 by rw [List.length_map]; omega) (size_ok (Nat.le_refl _))), e', if_neg (by decide), List.map_append]
  rfl
section
variable {fls es : List D} {seats : List (Str × Nat)}
theorem net_init_ok (N : Net Ac fls seats es) (hes : ∀ d ∈ es, ∃ t, IsE Ac t d ∧ OkT seats.length t) {f p e : D} (hf : dTuple f = some (.tup fls)) (hp : dTuple p = some (.tup (seats.map seatD))) (he : dTuple e = some (.tup es)) :
    m_Network_init Ac [] f p e = some (netD Ac fls seats es) := by
  unfold m_Network_init
  rw [hf, Option.bind_some, dPut_ok (Nat.lt_of_le_of_lt (Nat.le_refl 0) (by decide)), Option.bind_some, hp, Option.bind_some, dPut_ok (Nat.lt_of_le_of_lt (putD_le (Nat.le_refl 0)) (by decide)), Option.bind_some, he, Option.bind_some, dPut_ok (Nat.lt_of_le_of_lt (putD_le (putD_le (Nat.le_refl 0))) (by decide)), Option.bind_some]
  have en : putD "edges" (.tup es) (putD "places" (.tup (seats.map seatD)) (putD "frames" (.tup fls) [])) = netD Ac fls seats es := rfl
  rw [en, nt_f, Option.bind_some, show itEnum (.tup fls) = some (enumD fls) from rfl, Option.bind_some]
  refine fold_unit (fun d hd => ?_) ?_
  · obtain ⟨i, hi⟩ := List.mem_iff_getElem?.mp hd
    obtain ⟨x, hx, rfl⟩ := enum_get hi
    rw [un2_t, bp_some, frame_fits_ok (N.fr x (List.mem_of_getElem? hx)), Option.bind_some, bTru_b, Option.bind_some]
    rfl
  rw [nt_p, Option.bind_some, show itEnum (.tup (seats.map seatD)) = some (enumD (seats.map seatD)) from rfl, Option.bind_some]
  refine ex_eq (fold_ix (fun i (s : List (L2.Key × D)) => s = ((seats.take i).map (·.1)).map fun x => ((Sum.inr x : L2.Key), D.bl true)) _ (by simp) (fun i d s hd hI => ?_) (fun s hI => ?_))
  · subst hI
    obtain ⟨x, hx, rfl⟩ := enum_get hd
    rw [List.getElem?_map] at hx
    obtain ⟨st, hst, rfl⟩ := Option.map_eq_some_iff.mp hx
    have hi := (List.getElem?_eq_some_iff.mp hst).1
    have hnew : st.1 ∉ (seats.take i).map (·.1) := by
      intro hm
      obtain ⟨q, hq, e⟩ := List.mem_map.mp hm
      obtain ⟨j, hj⟩ := List.mem_iff_getElem?.mp hq
      have hj' : j < i := by
        have := (List.getElem?_eq_some_iff.mp hj).1
        rw [List.length_take] at this; omega
      rw [List.getElem?_take_of_lt hj'] at hj
      have h1 : (seats.map (·.1))[j]? = some st.1 := by rw [List.getElem?_map, hj]; exact congrArg some e
      have h2 : (seats.map (·.1))[i]? = some st.1 := by rw [List.getElem?_map, hst]; rfl
      have := (List.getElem?_inj (by rw [List.length_map]; omega) N.nd).mp (h1.trans h2.symm)
      omega
    have hlt : st.2 < fls.length := N.st st (List.mem_of_getElem? hst)
    refine ⟨_, ?_, rfl⟩
    rw [un2_t, bp_some, un2_t, bp_some, bInK_names hnew, Option.bind_some, if_neg (by decide), bLe_ii, Option.bind_some, if_pos (decide_eq_true (by omega)), Option.bind_some, dLen_t, Option.bind_some, bLt_ii, Option.bind_some, Option.bind_some, decide_eq_true (show ((st.2 : Nat) : Int) < ((fls.length : Nat) : Int) by omega), Option.bind_some, if_neg (by decide)]
    rw [dPutK_names hnew (by rw [List.length_map, List.length_take]; have := N.sz; omega), Option.bind_some, List.take_add_one, hst]
    simp
  · rw [nt_e, Option.bind_some, show itEnum (.tup es) = some (enumD es) from rfl, Option.bind_some]
    refine ⟨_, fold_unit (fun d hd => ?_) rfl, rfl⟩
    obtain ⟨i, hi⟩ := List.mem_iff_getElem?.mp hd
    obtain ⟨x, hx, rfl⟩ := enum_get hi
    obtain ⟨t, h1, h2⟩ := hes x (List.mem_of_getElem? hx)
    rw [un2_t, bp_some, dMth_1 rfl, Option.bind_some, edge_fits_ok N h1 h2, Option.bind_some, bTru_b, Option.bind_some, if_neg (by decide), dMth_1 rfl, Option.bind_some, too_large_ok N h1 h2, Option.bind_some, bTru_b, Option.bind_some, if_neg (by decide)]
end
end Qk14
set_option Elab.async false
set_option linter.all false
set_option maxRecDepth 100000
set_option maxHeartbeats 4000000
/-! M14f: what hangs. -/
namespace Qk14
open PySem Z TL
variable {Ac : Cs}
/-- es are the edges of the ties ts -/
def ME (Ac : Cs) (ts : List Tie) (es : List D) : Prop := es.length = ts.length ∧ ∀ (i : Nat) (t : Tie) (d : D), ts[i]? = some t → es[i]? = some d → IsE Ac t d
/-- what is reached -/
inductive Cl (ts : List Tie) (given : List Nat) : Nat → Prop
  | base {g : Nat} : g ∈ given → Cl ts given g
  | step {t : Tie} {o : Nat} : t ∈ ts → o ∈ t.1 → Cl ts given o → Cl ts given t.2
theorem asInts_n : ∀ l : List Nat, asInts (l.map nD) = some (l.map fun (n : Nat) => (n : Int))
  | [] => rfl
  | x :: l => by
    rw [List.map_cons, List.map_cons]
    unfold asInts
    rw [asInts_n l]; rfl
theorem bIn_n (x : Nat) (l : List Nat) : bInY (nD x) (.lst (l.map nD)) = some (decide (x ∈ l)) := by
  have e : bInY (nD x) (.lst (l.map nD)) = (items (.lst (l.map nD))).bind fun ds => (asInts ds).bind fun ns => some (decide (((x : Nat) : Int) ∈ ns)) := rfl
  rw [e]
  rw [items_l, Option.bind_some, asInts_n, Option.bind_some]
  congr 1
  rw [decide_eq_decide, List.mem_map]
  exact ⟨fun ⟨y, hy, e⟩ => by have : y = x := by omega
                              exact this ▸ hy, fun h => ⟨x, h, rfl⟩⟩
section
variable {fls es : List D} {seats : List (Str × Nat)} {ts : List Tie}
theorem targets_ok (m : ME Ac ts es) (hl : ts.length ≤ 100) {N : Nat} (ht : ∀ t ∈ ts, OkT N t) (pl : Nat) : m_Network_targets_from Ac (.obj Ac.c_Network (netD Ac fls seats es)) (nD pl) = some (.lst (((ts.filter fun t => decide (pl ∈ t.1)).map (·.2)).map nD)) := by
  unfold m_Network_targets_from
  rw [nt_e, Option.bind_some, itStr_t, Option.bind_some]
  refine ex_eq (fold_ix (fun i (s : List D) => s = (((ts.take i).filter fun t => decide (pl ∈ t.1)).map (·.2)).map nD) _ (by simp) (fun i d s hd hI => ?_) (fun s hI => ?_))
  · subst hI
    have hi := (List.getElem?_eq_some_iff.mp hd).1
    have hi' : i < ts.length := by rw [← m.1]; exact hi
    obtain ⟨many, srcs, eff, rfl, h1, h2, h3, h4⟩ := m.2 i ts[i] d (List.getElem?_eq_getElem hi') hd
    refine ⟨_, ?_, rfl⟩
    unfold edgeD
    rw [ed_s, Option.bind_some, itStr_t, Option.bind_some]
    have h5 := (ht _ (List.getElem_mem hi')).1
    rw [lcO_map (g := fun s : Nat × List Int => D.tup [nD s.1, .tup [rowD s.2]]) (r := fun s => nD s.1) (size_ok (by have := congrArg List.length h1; rw [List.length_map] at this; omega)) fun s _ => by rw [un2_t, bp_some]]
    have e : srcs.map (fun s => nD s.1) = (ts[i].1).map nD := by rw [← h1, List.map_map]; rfl
    rw [Option.bind_some, e, bIn_n, Option.bind_some, List.take_add_one, List.getElem?_eq_getElem hi']
    rw [List.filter_append, List.map_append, List.map_append]
    by_cases hp : pl ∈ ts[i].1
    · rw [if_pos (decide_eq_true hp), ed_t, Option.bind_some, dApp_ok (Nat.lt_of_lt_of_le (show _ < 100000 by
        rw [List.length_map, List.length_map]
        have := List.length_filter_le (fun t : Tie => decide (pl ∈ t.1)) (ts.take i)
        rw [List.length_take] at this; omega) (size_ok (by omega))), Option.bind_some]
      simp [hp]
    · rw [if_neg (by simpa using hp)]
      simp [hp]
  · subst hI
    rw [m.1, List.take_length]
    exact ⟨_, rfl, rfl⟩
end
theorem filO_map2 {α : Type} {f : D → Option (Option D)} {g r : α → D} {p : α → Bool} : ∀ {xs : List α}, (∀ x ∈ xs, f (g x) = some (if p x then some (r x) else none)) → filO f (xs.map g) = some ((xs.filter p).map r)
  | [], _ => rfl
  | x :: xs, h => by
    show (f (g x)).bind _ = _
    rw [h x List.mem_cons_self]
    show (filO f (xs.map g)).bind _ = _
    rw [filO_map2 fun y hy => h y (List.mem_cons_of_mem _ hy)]
    cases e : p x with
    | true => rw [List.filter_cons_of_pos e]; simp
    | false => rw [List.filter_cons_of_neg (by rw [e]; decide)]; simp
theorem lcF_map2 {α : Type} {f : D → Option (Option D)} {g r : α → D} {p : α → Bool} {xs : List α} (hl : xs.length ≤ sizeLine) (h : ∀ x ∈ xs, f (g x) = some (if p x then some (r x) else none)) : lcF f (xs.map g) = some ((xs.filter p).map r) := by
  unfold lcF; rw [List.length_map, if_pos hl]; exact filO_map2 h
/-- a loop by an invariant and a measure -/
theorem whl_inv {S R : Type} {f : S → Option (Fl S S R)} (I P : S → Prop) (μ : S → Nat) (h : ∀ s, I s → (∃ s', f s = some (.nx s') ∧ I s' ∧ μ s' < μ s) ∨ (∃ s', f s = some (.bk s') ∧ P s')) : ∀ (n : Nat) (s : S), μ s ≤ n → I s → ∃ s', whl f s = some (.nx s') ∧ P s' := by
  intro n
  induction n with
  | zero =>
    intro s hn hI
    rcases h s hI with ⟨s', _, _, hm⟩ | ⟨s', e, hp⟩
    · omega
    · exact ⟨s', whl_bk e, hp⟩
  | succ n ih =>
    intro s hn hI
    rcases h s hI with ⟨s', e, hI', hm⟩ | ⟨s', e, hp⟩
    · obtain ⟨s2, e2, hp⟩ := ih s' (by omega) hI'
      exact ⟨s2, whl_nx e e2, hp⟩
    · exact ⟨s', whl_bk e, hp⟩
theorem count_set {bs : List Bool} : ∀ {i : Nat}, bs[i]? = some false → (bs.set i true).count false + 1 = bs.count false := by
  induction bs with
  | nil => intro i h; simp at h
  | cons b bs ih =>
    intro i h
    cases i with
    | zero =>
      rw [List.getElem?_cons_zero] at h
      cases h
      rw [List.set_cons_zero, List.count_cons, List.count_cons]; simp
    | succ i =>
      rw [List.getElem?_cons_succ] at h
      rw [List.set_cons_succ, List.count_cons, List.count_cons, ← ih h]; omega
section
variable {fls es : List D} {seats : List (Str × Nat)} {ts : List Tie} {given : List Nat}
abbrev blD (bs : List Bool) : List D := bs.map D.bl
def cF : List D → Nat
  | [] => 0
  | .bl false :: r => cF r + 1
  | _ :: r => cF r
theorem cF_bl : ∀ bs : List Bool, cF (blD bs) = bs.count false
  | [] => rfl
  | false :: bs => by
    show cF (blD bs) + 1 = _
    rw [cF_bl bs, List.count_cons]; simp
  | true :: bs => by
    show cF (blD bs) = _
    rw [cF_bl bs, List.count_cons]; simp
theorem dPop_n (l : List Nat) (x : Nat) : dPop ((l ++ [x]).map nD) = some (nD x, l.map nD) := by
  unfold dPop
  rw [List.map_append, List.length_append, List.length_map]
  show ((l.map nD ++ [nD x])[l.length + 1 - 1]?).map _ = _
  rw [Nat.add_sub_cancel, List.getElem?_append_right (by rw [List.length_map]; exact Nat.le_refl _), List.length_map, Nat.sub_self]
  show some (nD x, (l.map nD ++ [nD x]).dropLast) = _
  rw [List.dropLast_concat]
theorem dSet_bl {bs : List Bool} {x : Nat} (h : x < bs.length) : dSet (blD bs) (nD x) (.bl true) = some (blD (bs.set x true)) := by
  rw [dSet_n (by rw [List.length_map]; exact h)]
  show some ((bs.map D.bl).set x (.bl true)) = some ((bs.set x true).map D.bl)
  rw [List.map_set]
theorem hanging_ok (m : ME Ac ts es) (hl : ts.length ≤ 100) (hs : seats.length ≤ 100) (ht : ∀ t ∈ ts, OkT seats.length t) (hg : ∀ g ∈ given, g < seats.length) (hgl : given.length ≤ 100) :
    ∃ bs : List Bool, bs.length = seats.length ∧ (∀ i, bs[i]? = some true ↔ Cl ts given i) ∧ m_Network_hanging Ac (.obj Ac.c_Network (netD Ac fls seats es)) (.lst (given.map nD)) = some (((List.range seats.length).filter fun i => bs[i]? == some true).map nD) := by
  have clLt : ∀ i, Cl ts given i → i < seats.length := fun i h => by
    cases h with
    | base h => exact hg _ h
    | step h _ _ => exact (ht _ h).2.2
  unfold m_Network_hanging
  rw [nt_p, Option.bind_some, dLen_t, Option.bind_some, List.length_map]
  have e0 : dRep [(D.bl false)] (nD seats.length) = some (blD (List.replicate seats.length false)) := by
    unfold dRep
    dsimp only
    rw [if_pos (by unfold repB; rw [decide_eq_true (by omega), decide_eq_true (by omega), decide_eq_true (size_ok (by simp; omega))]; rfl), Int.toNat_natCast]
    congr 1
    have : ∀ k : Nat, (List.replicate k [D.bl false]).flatten = blD (List.replicate k false) := fun k => by
      induction k with
      | zero => rfl
      | succ k ih => rw [List.replicate_succ, List.flatten_cons, ih, List.replicate_succ]; rfl
    rw [this]
  rw [e0, Option.bind_some, items_l, Option.bind_some]
  obtain ⟨s', ew, bs, rfl, hbl, hbs⟩ := whl_inv (R := Empty) (f := fun (open_ends_2, reached_2) =>
((bTru (D.lst open_ends_2)).bind fun b =>
(if b then
(bp (dPop open_ends_2) fun place open_ends_4 =>
((dIx (D.lst reached_2) place).bind fun z_1 =>
((bTru z_1).bind fun b_1 =>
(if (!b_1) then
((dSet reached_2 place (D.bl true)).bind fun reached_4 =>
((dMth Ac.c_Network "_targets_from" (.obj Ac.c_Network (netD Ac fls seats es))).bind fun u =>
((m_Network_targets_from Ac (.obj Ac.c_Network (netD Ac fls seats es)) place).bind fun z_2 =>
((dExtZ open_ends_4 z_2).bind fun open_ends_5 =>
some (.nx (open_ends_5, reached_4))))))
else
some (.nx (open_ends_4, reached_2))))))
else some (.bk (open_ends_2, reached_2)))))
    (fun s : List D × List D => ∃ (os : List Nat) (bs : List Bool), s = (os.map nD, blD bs) ∧ bs.length = seats.length ∧ (∀ o ∈ os, Cl ts given o) ∧ (∀ i, bs[i]? = some true → Cl ts given i) ∧ (∀ g ∈ given, g ∈ os ∨ bs[g]? = some true) ∧ (∀ t ∈ ts, ∀ o ∈ t.1, bs[o]? = some true → t.2 ∈ os ∨ bs[t.2]? = some true) ∧ bs.count false * (ts.length + 1) + os.length ≤ 20000)
    (fun s => ∃ bs : List Bool, s = ([], blD bs) ∧ bs.length = seats.length ∧ ∀ i, bs[i]? = some true ↔ Cl ts given i)
    (fun s => (cF s.2 * (ts.length + 1) + s.1.length)) (fun s hI => by
      obtain ⟨os, bs, rfl, h1, h2, h3, h4, h5, h6⟩ := hI
      rcases List.eq_nil_or_concat os with rfl | ⟨l, x, rfl⟩
      · refine .inr ⟨_, rfl, bs, rfl, h1, fun i => ⟨h3 i, fun hc => ?_⟩⟩
        induction hc with
        | base hg => exact (h4 _ hg).resolve_left List.not_mem_nil
        | step a b _ ih => exact (h5 _ a _ b ih).resolve_left List.not_mem_nil
      · rw [List.concat_eq_append] at *
        have hx : Cl ts given x := h2 x (by simp)
        have hxl : x < bs.length := by rw [h1]; exact clLt x hx
        have eb : bTru (.lst ((l ++ [x]).map nD)) = some true := by rw [bTru_l, List.map_append]; simp
        have ei : dIx (.lst (blD bs)) (nD x) = some (.bl bs[x]) := dIx_l (by rw [List.getElem?_map, List.getElem?_eq_getElem hxl]; rfl)
        cases hb : bs[x] with
        | true =>
          have hbx : bs[x]? = some true := by rw [List.getElem?_eq_getElem hxl, hb]
          refine .inl ⟨(l.map nD, blD bs), ?_, ⟨l, bs, rfl, h1, fun o ho => h2 o (List.mem_append_left _ ho), h3, fun g hg' => ?_, fun t a o b c => ?_, by rw [List.length_append] at h6; simp at h6; omega⟩, by simp⟩
          · show (bTru (.lst ((l ++ [x]).map nD))).bind _ = _
            rw [eb, Option.bind_some, if_pos rfl, dPop_n, bp_some, ei, Option.bind_some, hb, bTru_b, Option.bind_some, if_neg (by decide)]
          · rcases h4 g hg' with h | h
            · rcases List.mem_append.mp h with h | h
              · exact .inl h
              · rw [List.mem_singleton.mp h]; exact .inr hbx
            · exact .inr h
          · rcases h5 t a o b c with h | h
            · rcases List.mem_append.mp h with h | h
              · exact .inl h
              · rw [List.mem_singleton.mp h]; exact .inr hbx
            · exact .inr h
        | false =>
          have hbx : bs[x]? = some false := by rw [List.getElem?_eq_getElem hxl, hb]
          have hcs := count_set hbx
          have htl : ((ts.filter fun t => decide (x ∈ t.1)).map (·.2)).length ≤ ts.length := by rw [List.length_map]; exact List.length_filter_le _ _
          have hset : ∀ i, (bs.set x true)[i]? = some true ↔ (i = x ∨ bs[i]? = some true) := fun i => by
            by_cases hix : x = i
            · subst hix; rw [List.getElem?_set_self hxl]; simp
            · rw [List.getElem?_set_ne hix]
              exact ⟨.inr, fun h => h.resolve_left fun e => hix e.symm⟩
          have hm : bs.count false * (ts.length + 1) = (bs.set x true).count false * (ts.length + 1) + (ts.length + 1) := by rw [← hcs, Nat.succ_mul]
          have hlen : (l ++ [x]).length = l.length + 1 := by simp
          rw [hlen] at h6
          refine .inl ⟨((l ++ (ts.filter fun t => decide (x ∈ t.1)).map (·.2)).map nD, blD (bs.set x true)), ?_, ⟨_, bs.set x true, rfl, by rw [List.length_set]; exact h1, fun o ho => ?_, fun i hi => ?_, fun g hg' => ?_, fun t a o b c => ?_, ?_⟩, ?_⟩
          · show (bTru (.lst ((l ++ [x]).map nD))).bind _ = _
            rw [eb, Option.bind_some, if_pos rfl, dPop_n, bp_some, ei, Option.bind_some, hb, bTru_b, Option.bind_some, if_pos (by decide), dSet_bl hxl, Option.bind_some, dMth_1 rfl, Option.bind_some, targets_ok m hl ht, Option.bind_some]
            rw [show dExtZ (l.map nD) (.lst (((ts.filter fun t => decide (x ∈ t.1)).map (·.2)).map nD)) = some (l.map nD ++ ((ts.filter fun t => decide (x ∈ t.1)).map (·.2)).map nD) from if_pos (size_ok (by rw [List.length_map, List.length_map]; omega)), Option.bind_some, ← List.map_append]
          · rcases List.mem_append.mp ho with h | h
            · exact h2 o (List.mem_append_left _ h)
            · obtain ⟨t, ht', rfl⟩ := List.mem_map.mp h
              obtain ⟨a, b⟩ := List.mem_filter.mp ht'
              exact .step a (of_decide_eq_true b) hx
          · rcases (hset i).mp hi with rfl | h
            · exact hx
            · exact h3 i h
          · rcases h4 g hg' with h | h
            · rcases List.mem_append.mp h with h | h
              · exact .inl (List.mem_append_left _ h)
              · exact .inr ((hset g).mpr (.inl (List.mem_singleton.mp h)))
            · exact .inr ((hset g).mpr (.inr h))
          · rcases (hset o).mp c with rfl | h
            · exact .inl (List.mem_append_right _ (List.mem_map.mpr ⟨t, List.mem_filter.mpr ⟨a, decide_eq_true b⟩, rfl⟩))
            · rcases h5 t a o b h with h | h
              · rcases List.mem_append.mp h with h | h
                · exact .inl (List.mem_append_left _ h)
                · exact .inr ((hset _).mpr (.inl (List.mem_singleton.mp h)))
              · exact .inr ((hset _).mpr (.inr h))
          · rw [List.length_append]; omega
          · show cF (blD (bs.set x true)) * (ts.length + 1) + ((l ++ _).map nD).length < cF (blD bs) * (ts.length + 1) + ((l ++ [x]).map nD).length
            rw [cF_bl, cF_bl, List.length_map, List.length_map, List.length_append, hlen]; omega) _ (given.map nD, blD (List.replicate seats.length false)) (Nat.le_refl _) ⟨given, _, rfl, List.length_replicate, fun o h => .base h, (fun i h => by
      rw [List.getElem?_replicate] at h
      split at h <;> cases h), fun g h => .inl h, (fun t _ o _ h => by
      rw [List.getElem?_replicate] at h
      split at h <;> cases h), by
      have h1 : (List.replicate seats.length false).count false ≤ seats.length := by
        have := List.count_le_length (a := false) (l := List.replicate seats.length false)
        rwa [List.length_replicate] at this
      have h2 := Nat.mul_le_mul h1 (show ts.length + 1 ≤ 101 by omega)
      omega⟩
  refine ⟨bs, hbl, hbs, ?_⟩
  rw [ew, Option.bind_some]
  have hin : enumD (blD bs) = (List.range seats.length).map fun i => D.tup [nD i, .bl (bs[i]? == some true)] := by
    refine List.ext_getElem? fun i => ?_
    unfold enumD
    rw [List.getElem?_mapIdx, List.getElem?_map, List.getElem?_map]
    by_cases hi : i < bs.length
    · rw [List.getElem?_eq_getElem hi, List.getElem?_range (by omega)]
      show some (D.tup [nD i, .bl bs[i]]) = some (D.tup [nD i, .bl (bs[i]? == some true)])
      rw [List.getElem?_eq_getElem hi]
      cases bs[i] <;> rfl
    · rw [List.getElem?_eq_none (by omega), List.getElem?_eq_none (by rw [List.length_range]; omega)]; rfl
  have key : lcF (fun d => (bp (un2 d) fun place_1 hangs => ((bTru hangs).bind fun b_2 => (if b_2 then some (some place_1) else some none)))) (enumD (blD bs)) = some (((List.range seats.length).filter fun i => bs[i]? == some true).map nD) := by
    rw [hin]
    exact lcF_map2 (p := fun i => bs[i]? == some true) (r := nD) (size_ok (by rw [List.length_range]; omega)) fun i _ => by
      rw [un2_t, bp_some, bTru_b, Option.bind_some]
      cases (bs[i]? == some true) <;> rfl
  show ((lcF (fun d => (bp (un2 d) fun place_1 hangs => ((bTru hangs).bind fun b_2 => (if b_2 then some (some place_1) else some none)))) (enumD (blD bs))).bind fun ys => some ys) = _
  rw [key, Option.bind_some]
end
end Qk14
set_option Elab.async false
set_option linter.all false
set_option maxRecDepth 100000
set_option maxHeartbeats 4000000
/-! M14g: what is due. -/
namespace Qk14
open PySem Z TL
variable {Ac : Cs}
section
variable {fls es : List D} {seats : List (Str × Nat)} {ts : List Tie} {given : List Nat}
theorem into_ok (m : ME Ac ts es) (hl : ts.length ≤ 100) (k : Nat) : m_Network_edges_into Ac (.obj Ac.c_Network (netD Ac fls seats es)) (nD k) = some (((List.range ts.length).filter fun i => (ts[i]?.map (·.2)) == some k).map nD) := by
  unfold m_Network_edges_into
  rw [nt_e, Option.bind_some, show itEnum (.tup es) = some (enumD es) from rfl, Option.bind_some]
  have hin : enumD es = (List.range ts.length).map fun i => D.tup [nD i, (es[i]?).getD .non] := by
    refine List.ext_getElem? fun i => ?_
    unfold enumD
    rw [List.getElem?_mapIdx, List.getElem?_map]
    by_cases hi : i < es.length
    · rw [List.getElem?_eq_getElem hi, List.getElem?_range (by rw [← m.1]; exact hi)]
      show some (D.tup [nD i, es[i]]) = some (D.tup [nD i, (es[i]?).getD .non])
      rw [List.getElem?_eq_getElem hi]; rfl
    · rw [List.getElem?_eq_none (by omega), List.getElem?_eq_none (by rw [List.length_range, ← m.1]; omega)]; rfl
  rw [hin, lcF_map2 (p := fun i => (ts[i]?.map (·.2)) == some k) (r := nD) (size_ok (by rw [List.length_range]; omega)) fun i hi => by
    have hi := List.mem_range.mp hi
    have hi' : i < es.length := by rw [m.1]; exact hi
    obtain ⟨many, srcs, eff, ed, _⟩ := m.2 i ts[i] es[i] (List.getElem?_eq_getElem hi) (List.getElem?_eq_getElem hi')
    rw [un2_t, bp_some, List.getElem?_eq_getElem hi', Option.getD_some, ed]
    unfold edgeD
    rw [ed_t, Option.bind_some, bEq_ii, Option.bind_some, List.getElem?_eq_getElem hi]
    by_cases h : ts[i].2 = k
    · subst h
      rw [if_pos (by simp), if_pos (by simp)]
    · rw [if_neg (by simp; omega), if_neg (by simpa using h)], Option.bind_some]
theorem nDs_mem {n i : Nat} {P : Nat → Bool} : ((List.range n).filter P).length ≤ n := Nat.le_trans (List.length_filter_le _ _) (by rw [List.length_range]; exact Nat.le_refl _)
theorem same_int (n : Nat) (i : Int) : m_law_same Ac (n + 1) (.int i) (.int i) = some (.bl true) := by
  have : mS_law_same Ac (m_law_same Ac n) (.int i) (.int i) = some (.bl (decide (i = i))) := rfl
  show mS_law_same Ac (m_law_same Ac n) (.int i) (.int i) = _
  rw [this]; simp
theorem same_ok (n : Nat) (l : List Nat) (hl : l.length ≤ 1000) : m_law_same Ac (n + 2) (.lst (l.map nD)) (.lst (l.map nD)) = some (.bl true) := by
  show mS_law_same Ac (m_law_same Ac (n + 1)) (.lst (l.map nD)) (.lst (l.map nD)) = _
  unfold mS_law_same
  rw [show bIsi (.lst (l.map nD)) "tuple" = some false from rfl, Option.bind_some, if_neg (by decide), show bIsi (.lst (l.map nD)) "list" = some true from rfl, Option.bind_some, Option.bind_some, if_pos rfl, Option.bind_some, if_neg (by decide), Option.bind_some, if_neg (by decide), Option.bind_some, if_pos rfl, Option.bind_some, Option.bind_some, Bool.not_true, if_neg (by decide), dLen_l, Option.bind_some, Option.bind_some, bNe_ii, Option.bind_some, decide_eq_true rfl, Bool.not_true, if_neg (by decide), Option.bind_some]
  rw [List.length_map, itRng1_k (by omega), Option.bind_some, rngD_nD, lcO_map (g := nD) (r := fun _ => D.bl true) (size_ok (by rw [List.length_range]; omega)) fun i hi => by
    have hi := List.mem_range.mp hi
    rw [dIx_ln (List.getElem?_eq_getElem hi), Option.bind_some, Option.bind_some, same_int, Option.bind_some], Option.bind_some]
  have : ∀ k : Nat, dAll (.lst ((List.range k).map fun _ => D.bl true)) = some (.bl true) := fun k => by
    have e : (List.range k).map (fun _ => D.bl true) = (List.replicate k true).map D.bl := by rw [List.map_const', List.length_range, List.map_replicate]
    rw [e]
    have ha : ∀ bs : List Bool, asBls (bs.map D.bl) = some bs := fun bs => by
      induction bs with
      | nil => rfl
      | cons b bs ih => rw [List.map_cons]; unfold asBls; rw [ih]; rfl
    unfold dAll
    rw [show itemsL (.lst ((List.replicate k true).map D.bl)) = some ((List.replicate k true).map D.bl) from rfl, Option.bind_some, ha, Option.bind_some]
    congr 2
    rw [List.all_eq_true]
    intro x hx
    rw [List.eq_of_mem_replicate hx]; rfl
  rw [this, Option.bind_some]
end
end Qk14
set_option Elab.async false
set_option linter.all false
set_option maxRecDepth 100000
set_option maxHeartbeats 4000000
/-! M14h: the law's own closure. -/
namespace Qk14
open PySem Z TL
variable {Ac : Cs}
def on (bs : List Bool) (i : Nat) : Bool := bs[i]? == some true
theorem on_iff {bs : List Bool} {i : Nat} : on bs i = true ↔ bs[i]? = some true := by unfold on; simp
def stepT (bs : List Bool) (t : Tie) : List Bool := if t.1.any (on bs) then bs.set t.2 true else bs
def rnd (ts : List Tie) (bs : List Bool) : List Bool := ts.foldl stepT bs
structure Le (a b : List Bool) : Prop where
  len : a.length = b.length
  le : ∀ i, on a i = true → on b i = true
theorem Le.rfl {a : List Bool} : Le a a := ⟨Eq.refl _, fun _ h => h⟩
theorem Le.trans {a b c : List Bool} (x : Le a b) (y : Le b c) : Le a c := ⟨x.len.trans y.len, fun i h => y.le i (x.le i h)⟩
theorem on_set {bs : List Bool} {x i : Nat} (h : on bs i = true) : on (bs.set x true) i = true := by
  rw [on_iff] at *
  by_cases e : x = i
  · subst e
    rw [List.getElem?_set_self (List.getElem?_eq_some_iff.mp h).1]
  · rw [List.getElem?_set_ne e]; exact h
theorem step_le {bs : List Bool} {t : Tie} : Le bs (stepT bs t) := by
  unfold stepT
  split
  · exact ⟨by rw [List.length_set], fun i h => on_set h⟩
  · exact .rfl
theorem rnd_le : ∀ (ts : List Tie) (bs : List Bool), Le bs (rnd ts bs)
  | [], bs => .rfl
  | t :: ts, bs => step_le.trans (rnd_le ts (stepT bs t))
theorem count_le : ∀ {a b : List Bool}, Le a b → a.count true ≤ b.count true ∧ ((∃ i, on a i = false ∧ on b i = true) → a.count true + 1 ≤ b.count true)
  | [], [], _ => ⟨Nat.le_refl _, fun ⟨i, _, h⟩ => by simp [on] at h⟩
  | [], _ :: _, h => by have := h.len; simp at this
  | _ :: _, [], h => by have := h.len; simp at this
  | x :: a, y :: b, h => by
    have h' : Le a b := ⟨by have := h.len; simpa using this, fun i hi => by have := h.le (i + 1) (by simpa [on] using hi); simpa [on] using this⟩
    obtain ⟨h1, h2⟩ := count_le h'
    have h0 := h.le 0
    rw [List.count_cons, List.count_cons]
    refine ⟨?_, fun ⟨i, hi, hj⟩ => ?_⟩
    · cases x <;> cases y <;> simp [on] at h0 ⊢ <;> omega
    · cases i with
      | zero =>
        cases x <;> cases y <;> simp [on] at hi hj h0 ⊢ <;> omega
      | succ i =>
        have := h2 ⟨i, by simpa [on] using hi, by simpa [on] using hj⟩
        cases x <;> cases y <;> simp [on] at h0 ⊢ <;> omega
def Shut (ts : List Tie) (bs : List Bool) : Prop := ∀ t ∈ ts, ∀ o ∈ t.1, on bs o = true → on bs t.2 = true
theorem step_shut {bs : List Bool} {t : Tie} (h : ∀ o ∈ t.1, on bs o = true → on bs t.2 = true) : stepT bs t = bs := by
  unfold stepT
  split
  · rename_i ha
    obtain ⟨o, ho, hb⟩ := List.any_eq_true.mp ha
    have := on_iff.mp (h o ho hb)
    obtain ⟨hl, e⟩ := List.getElem?_eq_some_iff.mp this
    refine List.ext_getElem? fun i => ?_
    by_cases e2 : t.2 = i
    · subst e2; rw [List.getElem?_set_self hl, this]
    · rw [List.getElem?_set_ne e2]
  · rfl
theorem rnd_shut {bs : List Bool} : ∀ {ts : List Tie}, Shut ts bs → rnd ts bs = bs
  | [], _ => rfl
  | t :: ts, h => by
    show rnd ts (stepT bs t) = bs
    rw [step_shut (h t List.mem_cons_self)]
    exact rnd_shut fun u hu => h u (List.mem_cons_of_mem _ hu)
theorem rnd_on {n : Nat} : ∀ {ts : List Tie} {bs : List Bool}, bs.length = n → ∀ {t : Tie} {o : Nat}, t ∈ ts → t.2 < n → o ∈ t.1 → on bs o = true → on (rnd ts bs) t.2 = true
  | u :: ts, bs, hl, t, o, ht, h2, ho, hb => by
    rcases List.mem_cons.mp ht with rfl | ht
    · refine (rnd_le ts _).le _ ?_
      unfold stepT
      rw [if_pos (List.any_eq_true.mpr ⟨o, ho, hb⟩), on_iff, List.getElem?_set_self (by omega)]
    · exact rnd_on (ts := ts) (bs := stepT bs u) (step_le.len.symm.trans hl) ht h2 ho (step_le.le o hb)
theorem rnd_up {n : Nat} {ts : List Tie} {bs : List Bool} (hl : bs.length = n) (ht : ∀ t ∈ ts, t.2 < n) (h : ¬ Shut ts bs) : bs.count true + 1 ≤ (rnd ts bs).count true := by
  refine (count_le (rnd_le ts bs)).2 ?_
  refine Classical.byContradiction fun hn => h fun t a o b c => ?_
  cases e : on bs t.2 with
  | true => rfl
  | false => exact absurd ⟨t.2, e, rnd_on hl a (ht t a) b c⟩ hn
def iter (ts : List Tie) (bs : List Bool) : Nat → List Bool
  | 0 => bs
  | k + 1 => rnd ts (iter ts bs k)
theorem iter_le (ts : List Tie) (bs : List Bool) : ∀ k, Le bs (iter ts bs k)
  | 0 => .rfl
  | k + 1 => (iter_le ts bs k).trans (rnd_le _ _)
theorem iter_shut {n : Nat} {ts : List Tie} {bs : List Bool} (hl : bs.length = n) (ht : ∀ t ∈ ts, t.2 < n) : Shut ts (iter ts bs n) := by
  have key : ∀ k, Shut ts (iter ts bs k) ∨ k ≤ (iter ts bs k).count true := by
    intro k
    induction k with
    | zero => exact .inr (Nat.zero_le _)
    | succ k ih =>
      by_cases hs : Shut ts (iter ts bs k)
      · left
        show Shut ts (rnd ts (iter ts bs k))
        rw [rnd_shut hs]; exact hs
      · right
        have := rnd_up ((iter_le ts bs k).len.symm.trans hl) ht hs
        have h2 := ih.resolve_left hs
        show k + 1 ≤ (rnd ts (iter ts bs k)).count true
        omega
  rcases key n with h | h
  · exact h
  · intro t a o _ _
    have hlen : (iter ts bs n).length = n := (iter_le ts bs n).len.symm.trans hl
    have hall : ∀ x ∈ iter ts bs n, true = x := List.count_eq_length.mp (Nat.le_antisymm List.count_le_length (by omega))
    have h2 := ht t a
    rw [on_iff, List.getElem?_eq_getElem (by omega)]
    exact congrArg some (hall _ (List.getElem_mem _)).symm
theorem step_cl {ts : List Tie} {given : List Nat} {bs : List Bool} {t : Tie} (ht : t ∈ ts) (h : ∀ i, on bs i = true → Cl ts given i) : ∀ i, on (stepT bs t) i = true → Cl ts given i := fun i hi => by
  unfold stepT at hi
  split at hi
  · rename_i ha
    obtain ⟨o, ho, hb⟩ := List.any_eq_true.mp ha
    by_cases e : t.2 = i
    · subst e; exact .step ht ho (h o hb)
    · rw [on_iff, List.getElem?_set_ne e] at hi
      exact h i (on_iff.mpr hi)
  · exact h i hi
theorem rnd_cl {ts : List Tie} {given : List Nat} : ∀ {us : List Tie} {bs : List Bool}, (∀ u ∈ us, u ∈ ts) → (∀ i, on bs i = true → Cl ts given i) → ∀ i, on (rnd us bs) i = true → Cl ts given i
  | [], _, _, h => h
  | u :: us, bs, hu, h => rnd_cl (us := us) (bs := stepT bs u) (fun v hv => hu v (List.mem_cons_of_mem _ hv)) (step_cl (hu u List.mem_cons_self) h)
theorem iter_cl {ts : List Tie} {given : List Nat} {bs : List Bool} (h : ∀ i, on bs i = true → Cl ts given i) : ∀ k i, on (iter ts bs k) i = true → Cl ts given i
  | 0 => h
  | k + 1 => rnd_cl (fun _ h => h) (iter_cl h k)
end Qk14
set_option Elab.async false
set_option linter.all false
set_option maxRecDepth 100000
set_option maxHeartbeats 4000000
/-! M14i: asked. -/
namespace Qk14
open PySem Z TL
variable {Ac : Cs}
theorem asBls_n : ∀ bs : List Bool, asBls (bs.map D.bl) = some bs
  | [] => rfl
  | b :: bs => by rw [List.map_cons]; unfold asBls; rw [asBls_n bs]; rfl
theorem dAny_n (bs : List Bool) : dAny (.lst (bs.map D.bl)) = some (.bl (bs.any id)) := by
  unfold dAny
  rw [show itemsL (.lst (bs.map D.bl)) = some (bs.map D.bl) from rfl, Option.bind_some, asBls_n, Option.bind_some]
theorem dIx_bl {bs : List Bool} {i : Nat} (h : i < bs.length) : dIx (.lst (blD bs)) (nD i) = some (.bl (on bs i)) := by
  refine dIx_l ?_
  rw [List.getElem?_map, List.getElem?_eq_getElem h]
  show some (D.bl bs[i]) = some (D.bl (on bs i))
  unfold on
  rw [List.getElem?_eq_getElem h]
  cases bs[i] <;> rfl
section
variable {ts : List Tie} {given : List Nat} {n : Nat}
theorem reach_ok (ht : ∀ t ∈ ts, OkT n t) (hn : n ≤ 100) (hg : ∀ g ∈ given, g < n) (hl : ts.length ≤ 100) :
    ∃ bs : List Bool, (∀ i, on bs i = true ↔ Cl ts given i) ∧ m_law_reach Ac (.lst (ts.map tieD)) (.lst (given.map nD)) (nD n) = some (.lst (((List.range n).filter (on bs)).map nD)) := by
  have hb0l : ((List.range n).map fun i => decide (i ∈ given)).length = n := by rw [List.length_map, List.length_range]
  have hb0 : ∀ i, on ((List.range n).map fun i => decide (i ∈ given)) i = true ↔ i ∈ given := fun i => by
    rw [on_iff, List.getElem?_map]
    by_cases hi : i < n
    · rw [List.getElem?_range hi]
      show some (decide (i ∈ given)) = some true ↔ _
      simp
    · rw [List.getElem?_eq_none (by rw [List.length_range]; omega)]
      exact ⟨fun h => (by cases h), fun h => absurd (hg i h) hi⟩
  have tail : ∀ bs : List Bool, bs.length = n → lcF (fun d_4 => ((dIx (D.lst (blD bs)) d_4).bind fun z_2 => ((bTru z_2).bind fun b_2 => (if b_2 then some (some d_4) else some none)))) (rngD 0 n) = some (((List.range n).filter (on bs)).map nD) := fun bs hbl => by
    rw [rngD_nD]
    exact lcF_map2 (p := on bs) (r := nD) (size_ok (by rw [List.length_range]; omega)) fun i hi => by
      rw [dIx_bl (by rw [hbl]; exact List.mem_range.mp hi), Option.bind_some, bTru_b, Option.bind_some]
      cases on bs i <;> rfl
  refine ⟨iter ts ((List.range n).map fun i => decide (i ∈ given)) n, fun i => ⟨iter_cl (fun i h => .base ((hb0 i).mp h)) n i, fun hc => ?_⟩, ?_⟩
  · have hs := iter_shut hb0l (n := n) (ts := ts) fun t h => (ht t h).2.2
    induction hc with
    | base h => exact (iter_le ts _ n).le _ ((hb0 _).mpr h)
    | step a b _ ih => exact hs _ a _ b ih
  · unfold m_law_reach
    rw [itRng1_k (by omega), Option.bind_some, rngD_nD, lcO_map (g := nD) (r := fun i => D.bl (decide (i ∈ given))) (size_ok (by rw [List.length_range]; omega)) fun i _ => by rw [bIn_n, Option.bind_some], Option.bind_some, Option.bind_some, ← rngD_nD]
    have e0 : (List.range n).map (fun i => D.bl (decide (i ∈ given))) = blD ((List.range n).map fun i => decide (i ∈ given)) := by
      show _ = ((List.range n).map fun i => decide (i ∈ given)).map D.bl
      rw [List.map_map]; rfl
    rw [e0]
    refine ex_eq (fold_ix (fun k (s : List D) => s = blD (iter ts ((List.range n).map fun i => decide (i ∈ given)) k)) _ rfl (fun k d s hd hI => ?_) (fun s hI => ?_))
    · subst hI
      refine ⟨_, ?_, rfl⟩
      rw [itStr_l, Option.bind_some]
      have hlen : (iter ts ((List.range n).map fun i => decide (i ∈ given)) k).length = n := (iter_le _ _ k).len.symm.trans hb0l
      have es : iter ts ((List.range n).map fun i => decide (i ∈ given)) (k + 1) = rnd ts (iter ts ((List.range n).map fun i => decide (i ∈ given)) k) := rfl
      rw [es]
      generalize iter ts ((List.range n).map fun i => decide (i ∈ given)) k = bs at hlen
      refine ex_eq (fold_ix (fun j (s : List D) => s = blD (rnd (ts.take j) bs)) _ rfl (fun j d s hd hI => ?_) (fun s hI => ?_))
      · subst hI
        rw [List.getElem?_map] at hd
        obtain ⟨t, htj, rfl⟩ := Option.map_eq_some_iff.mp hd
        have htm := List.mem_of_getElem? htj
        have hl2 : (rnd (ts.take j) bs).length = n := (rnd_le _ _).len.symm.trans hlen
        have hstep : rnd (ts.take (j + 1)) bs = stepT (rnd (ts.take j) bs) t := by
          rw [List.take_add_one, htj]
          show List.foldl stepT bs (ts.take j ++ [t]) = _
          rw [List.foldl_append]; rfl
        refine ⟨_, ?_, rfl⟩
        rw [hstep]
        generalize rnd (ts.take j) bs = cs at hl2
        rw [un2_t, bp_some, itStr_l, Option.bind_some, lcO_map (g := nD) (r := fun o => D.bl (on cs o)) (size_ok (Nat.le_trans (ht t htm).1 (by decide))) fun o ho => by rw [dIx_bl (by rw [hl2]; exact (ht t htm).2.1 o ho), Option.bind_some]]
        have e1 : t.1.map (fun o => D.bl (on cs o)) = (t.1.map (on cs)).map D.bl := by rw [List.map_map]; rfl
        rw [Option.bind_some, e1, dAny_n, Option.bind_some, bTru_b, Option.bind_some]
        unfold stepT
        have e2 : (t.1.map (on cs)).any id = t.1.any (on cs) := by rw [List.any_map]; rfl
        rw [e2]
        split
        · rw [dSet_bl (by rw [hl2]; exact (ht t htm).2.2), Option.bind_some]
        · rfl
      · subst hI
        rw [List.length_map, List.take_length]
        exact ⟨_, rfl, rfl⟩
    · subst hI
      refine ⟨_, ?_, rfl⟩
      rw [rngD_length, Option.bind_some, tail _ ((iter_le _ _ _).len.symm.trans hb0l), Option.bind_some]
end
end Qk14
set_option Elab.async false
set_option linter.all false
set_option maxRecDepth 100000
set_option maxHeartbeats 4000000
/-! M14j: asked. -/
namespace Qk14
open PySem Z TL
variable {Ac : Cs}
theorem toPys_n : ∀ l : List Nat, toPys (l.map nD) = some (l.map fun n : Nat => PyData.int (n : Int))
  | [] => rfl
  | x :: l => by
    rw [List.map_cons]
    unfold toPys
    rw [toPys_n l]; rfl
theorem eqvAll_n : ∀ l : List Nat, PyData.eqvAll (l.map fun n : Nat => PyData.int (n : Int)) (l.map fun n : Nat => PyData.int (n : Int)) = true
  | [] => rfl
  | x :: l => by
    show (PyData.eqv (.int (x : Int)) (.int (x : Int)) && PyData.eqvAll (l.map fun n : Nat => PyData.int (n : Int)) (l.map fun n : Nat => PyData.int (n : Int))) = true
    rw [eqvAll_n l, Bool.and_true]
    show ((x : Int) == (x : Int)) = true
    simp
theorem eqv_n (l : List Nat) : PyData.eqv (.list (l.map fun n : Nat => PyData.int (n : Int))) (.list (l.map fun n : Nat => PyData.int (n : Int))) = true := eqvAll_n l
theorem bNe_n (l : List Nat) : bNe (.lst (l.map nD)) (.lst (l.map nD)) = some false := by
  unfold bNe
  have e : bEq (.lst (l.map nD)) (.lst (l.map nD)) = some true := by
    show bEqP (.lst (l.map nD)) (.lst (l.map nD)) = _
    unfold bEqP
    have e1 : toPy (.lst (l.map nD)) = some (.list (l.map fun n : Nat => PyData.int (n : Int))) := by unfold toPy; rw [toPys_n]; rfl
    have s1 : shp (.list (l.map fun n : Nat => PyData.int (n : Int))) = true := by
      show (_ && decide (_ ≤ 64)) = true
      rw [Bool.and_eq_true]
      refine ⟨canLay_map (g := fun n : Nat => PyData.int (n : Int)) (fun _ => rfl) l, decide_eq_true ?_⟩
      show PyData.depthAll (l.map fun n : Nat => PyData.int (n : Int)) + 1 ≤ 64
      have := depth_map (g := fun n : Nat => PyData.int (n : Int)) (n := 5) (fun p => by simp [PyData.depth]) l
      omega
    rw [e1, Option.bind_some, Option.bind_some, s1, Bool.and_self, if_pos rfl, eqv_n]
  rw [e]; rfl
theorem cl_same {ts : List Tie} {g g' : List Nat} (h : ∀ x, x ∈ g → x ∈ g') : ∀ i, Cl ts g i → Cl ts g' i := fun i hc => by
  induction hc with
  | base h' => exact .base (h _ h')
  | step a b _ ih => exact .step a b ih
section
variable {fls es : List D} {seats : List (Str × Nat)} {ts : List Tie} {given : List Nat}
theorem asked_ok (m : ME Ac ts es) (hl : ts.length ≤ 50) (hs : seats.length ≤ 50) (ht : ∀ t ∈ ts, OkT seats.length t) (hg : ∀ g ∈ given, g < seats.length) (hgl : given.length ≤ 50) :
    m_law_asked Ac (.obj Ac.c_Network (netD Ac fls seats es)) (.lst (ts.map tieD)) (.lst (given.map nD)) (nD seats.length) = some (.bl true) := by
  obtain ⟨bs, _, hbs, eh⟩ := hanging_ok (fls := fls) (given := given) m (by omega) (by omega) ht hg (by omega)
  obtain ⟨cs, hcs, er⟩ := reach_ok (Ac := Ac) ht (by omega) hg (by omega)
  have hsl : ∃ g2 : List Nat, dSlice (.lst (given.map nD)) none (some 1) = some (.lst (g2.map nD)) ∧ (∀ x ∈ g2, x ∈ given) ∧ g2.length ≤ given.length := by
    refine ⟨_, (by show some (D.lst (cutD (given.map nD) none (some 1))) = _; unfold cutD; rw [← List.map_drop, ← List.map_take]), fun x hx => List.mem_of_mem_drop (List.mem_of_mem_take hx), by rw [List.length_take, List.length_drop]; omega⟩
  obtain ⟨g2, es2, hg2, hg2l⟩ := hsl
  have hg3 : ∀ g ∈ given ++ g2, g < seats.length := fun g h => (List.mem_append.mp h).elim (hg g) fun h => hg g (hg2 g h)
  obtain ⟨ds, _, hds, eh2⟩ := hanging_ok (fls := fls) (given := given ++ g2) m (by omega) (by omega) ht hg3 (by rw [List.length_append]; omega)
  have f1 : (List.range seats.length).filter (fun i => bs[i]? == some true) = (List.range seats.length).filter (on cs) := List.filter_congr fun i _ => by
    rw [Bool.eq_iff_iff, hcs i, ← hbs i]; simp
  have f2 : (List.range seats.length).filter (fun i => ds[i]? == some true) = (List.range seats.length).filter (on cs) := List.filter_congr fun i _ => by
    rw [Bool.eq_iff_iff, hcs i]
    have h1 := hds i
    have h2 : Cl ts (given ++ g2) i ↔ Cl ts given i := ⟨cl_same (fun x hx => (List.mem_append.mp hx).elim id (hg2 x)) i, cl_same (fun x hx => List.mem_append_left _ hx) i⟩
    rw [← h2, ← h1]; simp
  rw [f1] at eh
  rw [f2] at eh2
  have hlen : ((List.range seats.length).filter (on cs)).length ≤ 50 := Nat.le_trans (nDs_mem (i := 0)) hs
  unfold m_law_asked
  rw [dList_l, Option.bind_some, dMth_1 rfl, Option.bind_some, eh, Option.bind_some, er, Option.bind_some, same_ok 8 _ (by omega), Option.bind_some, bTru_b, Option.bind_some, Bool.not_true, if_neg (by decide), bNe_n, Option.bind_some, Option.bind_some, if_neg (by decide)]
  rw [dApp_ok (Nat.lt_of_lt_of_le (show _ < 100000 by rw [List.length_map]; omega) (size_ok (by omega))), Option.bind_some, Option.bind_some, dPart_i, Option.bind_some, es2, Option.bind_some]
  rw [show dAdd (.lst (given.map nD)) (.lst (g2.map nD)) = some (.lst (given.map nD ++ g2.map nD)) from gd_of (decide_eq_true (size_ok (by rw [List.length_map, List.length_map]; omega))), Option.bind_some, ← List.map_append, eh2, Option.bind_some, same_ok 8 _ (by omega), Option.bind_some, bTru_b, Option.bind_some, Bool.not_true, if_neg (by decide)]
  rw [itRng1_k (by omega), Option.bind_some, rngD_nD]
  refine ex_eq (fin_all (fun _ => True) _ trivial (fun d hd s _ => ?_) fun s _ => ⟨_, rfl, rfl⟩)
  obtain ⟨k, hk, rfl⟩ := List.mem_map.mp hd
  rw [dMth_1 rfl, Option.bind_some, into_ok m (by omega), Option.bind_some, dLen_l, Option.bind_some, List.length_map, itRng1_k (by omega), Option.bind_some, rngD_nD]
  rw [lcF_map2 (g := nD) (p := fun i => (ts[i]?.map (·.2)) == some k) (r := nD) (size_ok (by rw [List.length_range]; omega)) fun i hi => by
    have hi := List.mem_range.mp hi
    rw [show dIx (.lst (ts.map tieD)) (nD i) = some (tieD ts[i]) from dIx_l (by rw [List.getElem?_map, List.getElem?_eq_getElem hi]; rfl), Option.bind_some, dIx_t1, Option.bind_some, bEq_ii, Option.bind_some, List.getElem?_eq_getElem hi]
    by_cases h : ts[i].2 = k
    · subst h
      rw [if_pos (by simp), if_pos (by simp)]
    · rw [if_neg (by simp; omega), if_neg (by simpa using h)], Option.bind_some]
  have hl2 : ((List.range ts.length).filter fun i => (ts[i]?.map (·.2)) == some k).length ≤ 50 := Nat.le_trans (nDs_mem (i := 0)) hl
  rw [same_ok 8 _ (by omega), Option.bind_some, bTru_b, Option.bind_some, Bool.not_true, if_neg (by decide), dApp_ok (Nat.lt_of_lt_of_le (show _ < 100000 by rw [List.length_map]; omega) (size_ok (by omega))), Option.bind_some, Option.bind_some, Option.bind_some, same_ok 8 _ (by omega), Option.bind_some, bTru_b, Option.bind_some, Bool.not_true, if_neg (by decide)]
  exact ⟨_, rfl, trivial⟩
end
end Qk14
set_option Elab.async false
set_option linter.all false
set_option maxRecDepth 100000
set_option maxHeartbeats 4000000
/-! M14k: the law. -/
namespace Qk14
open PySem Z TL
variable {Ac : Cs}
theorem mapS_ix {S α : Type} {f : S → D → Option (D × S)} {r : α → D} (I : S → Prop) (P : Nat → α → Prop) : ∀ (ds : List D) (k : Nat) (s : S), I s → (∀ i d s, ds[i]? = some d → I s → ∃ y s', f s d = some (r y, s') ∧ P (k + i) y ∧ I s') → ∃ (ys : List α) (s' : S), mapS f ds s = some (ys.map r, s') ∧ ys.length = ds.length ∧ (∀ i y, ys[i]? = some y → P (k + i) y) ∧ I s'
  | [], k, s, h, _ => ⟨[], s, rfl, rfl, fun i y h => by simp at h, h⟩
  | d :: ds, k, s, h, hs => by
    obtain ⟨y, s1, e1, p1, h1⟩ := hs 0 d s rfl h
    obtain ⟨ys, s2, e2, l2, p2, h2⟩ := mapS_ix I P ds (k + 1) s1 h1 fun i d s hd hI => by
      obtain ⟨y, s', a, b, c⟩ := hs (i + 1) d s hd hI
      exact ⟨y, s', a, by rwa [show k + 1 + i = k + (i + 1) by omega], c⟩
    refine ⟨y :: ys, s2, ?_, by rw [List.length_cons, List.length_cons, l2], fun i z hz => ?_, h2⟩
    · show bp (f s d) _ = _
      rw [e1, bp_some, e2, bp_some]; rfl
    · cases i with
      | zero => rw [List.getElem?_cons_zero] at hz; cases hz; exact p1
      | succ i =>
        rw [List.getElem?_cons_succ] at hz
        have := p2 i z hz
        rwa [show k + 1 + i = k + (i + 1) by omega] at this
theorem lcS_ix {S α : Type} {f : S → D → Option (D × S)} {r : α → D} {ds : List D} {s : S} (I : S → Prop) (P : Nat → α → Prop) (hl : ds.length ≤ sizeLine) (h : I s) (hs : ∀ i d s, ds[i]? = some d → I s → ∃ y s', f s d = some (r y, s') ∧ P i y ∧ I s') : ∃ (ys : List α) (s' : S), lcS f ds s = some (ys.map r, s') ∧ ys.length = ds.length ∧ (∀ i y, ys[i]? = some y → P i y) ∧ I s' := by
  unfold lcS; rw [if_pos hl]
  obtain ⟨ys, s', a, b, c, d⟩ := mapS_ix (r := r) I P ds 0 s h fun i d s hd hI => by rw [Nat.zero_add]; exact hs i d s hd hI
  exact ⟨ys, s', a, b, fun i y hy => by have := c i y hy; rwa [Nat.zero_add] at this, d⟩
theorem slice_n {α : Type} {f : α → D} (l : List α) (j : Nat) : dSlice (.lst (l.map f)) none (some (j : Int)) = some (.lst ((l.take j).map f)) := by
  show some (D.lst (cutD (l.map f) none (some (j : Int)))) = _
  unfold cutD
  rw [HT.sIx_none, HT.sIx_nat, List.drop_zero, Nat.sub_zero, ← List.map_take, List.length_map]
  congr 3
  by_cases h : j ≤ l.length
  · rw [Nat.min_eq_left h]
  · rw [Nat.min_eq_right (by omega), List.take_length, List.take_of_length_le (by omega)]
theorem sliceF {α : Type} {f : α → D} (l : List α) (j : Nat) : dSlice (.lst (l.map f)) (some (j : Int)) none = some (.lst ((l.drop j).map f)) := by
  show some (D.lst (cutD (l.map f) (some (j : Int)) none)) = _
  unfold cutD
  rw [HT.sIx_none, HT.sIx_nat, ← List.map_drop, ← List.map_take, List.length_map]
  congr 3
  by_cases h : j ≤ l.length
  · rw [Nat.min_eq_left h, List.take_of_length_le (by rw [List.length_drop]; exact Nat.le_refl _)]
  · rw [Nat.min_eq_right (by omega), List.drop_length, List.drop_eq_nil_of_le (by omega), List.take_nil]
theorem sliceT_n (l : List D) (j : Nat) : dSlice (.tup l) none (some (j : Int)) = some (.tup (l.take j)) := by
  show some (D.tup (cutD l none (some (j : Int)))) = _
  unfold cutD
  rw [HT.sIx_none, HT.sIx_nat, List.drop_zero, Nat.sub_zero]
  congr 2
  by_cases h : j ≤ l.length
  · rw [Nat.min_eq_left h]
  · rw [Nat.min_eq_right (by omega), List.take_length, List.take_of_length_le (by omega)]
theorem sliceT_F (l : List D) (j : Nat) : dSlice (.tup l) (some (j : Int)) none = some (.tup (l.drop j)) := by
  show some (D.tup (cutD l (some (j : Int)) none)) = _
  unfold cutD
  rw [HT.sIx_none, HT.sIx_nat]
  congr 2
  by_cases h : j ≤ l.length
  · rw [Nat.min_eq_left h, List.take_of_length_le (by rw [List.length_drop]; exact Nat.le_refl _)]
  · rw [Nat.min_eq_right (by omega), List.drop_length, List.drop_eq_nil_of_le (by omega), List.take_nil]
theorem given_ok {p : List D} (hp : IsQ p) {n : Nat} (h0 : 0 < n) (hn : n ≤ 12) : ∃ (g : List Nat) (p' : List D), m_law_given Ac p (nD n) = some (.lst (g.map nD), p') ∧ ((∀ x ∈ g, x < n) ∧ g.length ≤ 50) ∧ IsQ p' := by
  unfold m_law_given
  obtain ⟨os, p1, e1, ⟨h1, h2⟩, hp1⟩ := order_ok (Ac := Ac) hp (n := n) (by omega)
  obtain ⟨w, p2, e2, hw, hp2⟩ := drawN_ok (Ac := Ac) hp1 (n := 4) (by decide) (by decide)
  rw [e1, bp_some, show D.int 4 = nD 4 from rfl, e2, bp_some, bEq_ii, Option.bind_some]
  by_cases hz : ((w : Nat) : Int) = 0
  · rw [if_pos (decide_eq_true hz), dAdd_ii, Option.bind_some, show ((n : Nat) : Int) + 1 = ((n + 1 : Nat) : Int) from rfl]
    obtain ⟨v, p3, e3, hv, hp3⟩ := drawN_ok (Ac := Ac) hp2 (n := n + 1) (by omega) (by omega)
    rw [e3, bp_some, dPart_i, Option.bind_some, slice_n, Option.bind_some]
    exact ⟨_, p3, rfl, ⟨fun x hx => h2 x (List.mem_of_mem_take hx), by rw [List.length_take]; omega⟩, hp3⟩
  · rw [if_neg (by simpa using hz), dSub_ii, Option.bind_some, show ((w : Nat) : Int) - 1 = ((w - 1 : Nat) : Int) from by omega, dPart_i, Option.bind_some, slice_n, Option.bind_some]
    exact ⟨_, p2, rfl, ⟨fun x hx => h2 x (List.mem_of_mem_take hx), by rw [List.length_take]; omega⟩, hp2⟩
end Qk14
set_option Elab.async false
set_option linter.all false
set_option maxRecDepth 100000
set_option maxHeartbeats 4000000
/-! M14l: the law, whole. -/
namespace Qk14
open PySem Z TL
variable {Ac : Cs}
def nameS (i : Nat) : Str := Str.ofString "p" ++ Str.ofString (toString ((i : Nat) : Int))
theorem name_inj {i j : Nat} (h : nameS i = nameS j) : i = j := by
  have e := congrArg tl h
  unfold nameS at e
  rw [tl_append, tl_append, tl_num, tl_num] at e
  exact numL_inj (List.append_cancel_left e)
theorem seats_ok {p : List D} (hp : IsQ p) {n : Nat} (hn : n ≤ 12) {fls : List D} (hf : 0 < fls.length) (hf2 : fls.length ≤ 10) : ∃ (seats : List (Str × Nat)) (p' : List D), lcS (fun purse_3 d =>
((dStr d).bind fun z_3 =>
((dAdd (D.str "p") z_3).bind fun z_4 =>
((dLen (.lst fls)).bind fun z_5 =>
(bp (m_law_draw Ac purse_3 z_5) fun z_6 purse_5 =>
some ((D.tup [z_4, z_6]), purse_5)))))) (rngD 0 n) p = some (seats.map seatD, p') ∧ seats.length = n ∧ (∀ s ∈ seats, s.2 < fls.length) ∧ (seats.map (·.1)).Nodup ∧ IsQ p' := by
  obtain ⟨seats, p', e, hl, hP, hp'⟩ := lcS_ix (r := seatD) IsQ (fun i y => y.1 = nameS i ∧ y.2 < fls.length) (size_ok (by rw [rngD_length]; omega)) hp (f := fun purse_3 d =>
((dStr d).bind fun z_3 =>
((dAdd (D.str "p") z_3).bind fun z_4 =>
((dLen (.lst fls)).bind fun z_5 =>
(bp (m_law_draw Ac purse_3 z_5) fun z_6 purse_5 =>
some ((D.tup [z_4, z_6]), purse_5)))))) (ds := rngD 0 n) fun i d s hd hs => by
    obtain ⟨hi, rfl⟩ := rngD_get hd
    obtain ⟨v, p2, e2, hv, hp2⟩ := drawN_ok (Ac := Ac) hs hf (by omega)
    refine ⟨(nameS i, v), p2, ?_, ⟨rfl, hv⟩, hp2⟩
    rw [Int.zero_add, dStr_n (n := 10) (i := (i : Int)) (by omega) (by decide), Option.bind_some]
    have hlen : (numL i).length ≤ 5 := numL_len (by decide) (by omega)
    rw [show dAdd (D.str "p") (D.str (Str.ofString (toString (i : Int)))) = some (.str (nameS i)) from gd_of (decide_eq_true (by rw [len_tl, len_tl, tl_num, tl_ofString]; exact size_ok (by simp; omega))), Option.bind_some, dLen_l, Option.bind_some, e2, bp_some]
  rw [rngD_length] at hl
  refine ⟨seats, p', e, hl, fun s hs => ?_, ?_, hp'⟩
  · obtain ⟨i, hi⟩ := List.mem_iff_getElem?.mp hs
    exact (hP i s hi).2
  · rw [List.Nodup, List.pairwise_iff_getElem]
    intro i j hi hj hij h
    rw [List.length_map] at hi hj
    rw [List.getElem_map, List.getElem_map, (hP i _ (List.getElem?_eq_getElem hi)).1, (hP j _ (List.getElem?_eq_getElem hj)).1] at h
    have := name_inj h
    omega
theorem arcs_ok {p : List D} (hp : IsQ p) {n : Nat} {ts : List Tie} (ht : ∀ t ∈ ts, OkT n t) (hl : ts.length ≤ 100) : ∃ (es : List D) (p' : List D), lcS (fun purse_8 d_1 =>
(bp (un2 d_1) fun origins aim =>
(bp (m_law_arc Ac purse_8 origins aim) fun z_7 purse_10 =>
some (z_7, purse_10)))) (ts.map tieD) p = some (es, p') ∧ ME Ac ts es ∧ IsQ p' := by
  obtain ⟨es, p', e, hel, hP, hp'⟩ := lcS_ix (r := fun d : D => d) IsQ (fun i d => ∀ t, ts[i]? = some t → IsE Ac t d) (size_ok (by rw [List.length_map]; omega)) hp (f := fun purse_8 d_1 =>
(bp (un2 d_1) fun origins aim =>
(bp (m_law_arc Ac purse_8 origins aim) fun z_7 purse_10 =>
some (z_7, purse_10)))) (ds := ts.map tieD) fun i d s hd hs => by
    rw [List.getElem?_map] at hd
    obtain ⟨t, hti, rfl⟩ := Option.map_eq_some_iff.mp hd
    obtain ⟨d, p2, e2, he, hp2⟩ := arc_ok (Ac := Ac) hs (t := t) (Nat.le_trans (ht t (List.mem_of_getElem? hti)).1 (by decide))
    exact ⟨d, p2, by rw [un2_t, bp_some, e2, bp_some], fun t' h => by rw [hti] at h; cases h; exact he, hp2⟩
  rw [List.map_id'] at e
  rw [List.length_map] at hel
  exact ⟨es, p', e, ⟨hel, fun i t d h1 h2 => hP i d h2 t h1⟩, hp'⟩
theorem me_put {ts : List Tie} {es : List D} (m : ME Ac ts es) {t : Tie} {d : D} (he : IsE Ac t d) (a : Nat) (ha : a ≤ ts.length) : ME Ac (ts.take a ++ t :: ts.drop (a + 1)) (es.take a ++ d :: es.drop (a + 1)) := by
  have hm := m.1
  refine ⟨by simp only [List.length_append, List.length_take, List.length_cons, List.length_drop]; omega, fun i u v h1 h2 => ?_⟩
  have l1 : (ts.take a).length = a := by rw [List.length_take]; omega
  have l2 : (es.take a).length = a := by rw [List.length_take]; omega
  rcases Nat.lt_trichotomy i a with h | h | h
  · rw [List.getElem?_append_left (by omega), List.getElem?_take_of_lt h] at h1 h2
    exact m.2 i u v h1 h2
  · subst h
    rw [List.getElem?_append_right (by omega), l1, Nat.sub_self, List.getElem?_cons_zero] at h1
    rw [List.getElem?_append_right (by omega), l2, Nat.sub_self, List.getElem?_cons_zero] at h2
    cases h1; cases h2; exact he
  · rw [List.getElem?_append_right (by omega), l1, show i - a = (i - a - 1) + 1 by omega, List.getElem?_cons_succ, List.getElem?_drop] at h1
    rw [List.getElem?_append_right (by omega), l2, show i - a = (i - a - 1) + 1 by omega, List.getElem?_cons_succ, List.getElem?_drop] at h2
    exact m.2 _ u v h1 h2
theorem me_all {n : Nat} {ts : List Tie} {es : List D} (m : ME Ac ts es) (ht : ∀ t ∈ ts, OkT n t) : ∀ d ∈ es, ∃ t, IsE Ac t d ∧ OkT n t := fun d hd => by
  obtain ⟨i, hi⟩ := List.mem_iff_getElem?.mp hd
  have hlt := (List.getElem?_eq_some_iff.mp hi).1
  have hm := m.1
  exact ⟨ts[i], m.2 i _ d (List.getElem?_eq_getElem (by omega)) hi, ht _ (List.getElem_mem (by omega))⟩
section
variable {fls es : List D} {seats : List (Str × Nat)}
theorem Net.put {es' : List D} (N : Net Ac fls seats es) : Net Ac fls seats es' := ⟨N.fr, N.st, N.nd, N.sz⟩
theorem with_edge_ok (N : Net Ac fls seats es) {es' : List D} {d : D} {a : Nat} (ha : a < es.length) (he' : es' = es.take a ++ d :: es.drop (a + 1)) (hes : ∀ d ∈ es', ∃ t, IsE Ac t d ∧ OkT seats.length t) (hl : es.length ≤ 1000) :
    m_Network_with_edge Ac (.obj Ac.c_Network (netD Ac fls seats es)) (nD a) d = some (.obj Ac.c_Network (netD Ac fls seats es')) := by
  subst he'
  unfold m_Network_with_edge
  have ad : ∀ x y : List D, x.length + y.length ≤ 100000 → dAdd (.tup x) (.tup y) = some (.tup (x ++ y)) := fun x y h => gd_of (decide_eq_true (size_ok h))
  rw [bLe_ii, Option.bind_some, if_pos (decide_eq_true (by omega)), nt_e, Option.bind_some, dLen_t, Option.bind_some, bLt_ii, Option.bind_some, Option.bind_some, decide_eq_true (show ((a : Nat) : Int) < ((es.length : Nat) : Int) by omega), Bool.not_true, if_neg (by decide), Option.bind_some, dPart_i, Option.bind_some, sliceT_n, Option.bind_some, ad _ _ (by rw [List.length_take]; simp; omega), Option.bind_some, Option.bind_some, dAdd_ii, Option.bind_some, dPart_i, Option.bind_some,
    show ((a : Nat) : Int) + 1 = ((a + 1 : Nat) : Int) from rfl, sliceT_F, Option.bind_some, ad _ _ (by rw [List.length_append, List.length_take, List.length_drop]; simp; omega), Option.bind_some, nt_f, Option.bind_some, nt_p, Option.bind_some, List.append_assoc, List.singleton_append]
  rw [net_init_ok (N.put (es' := es.take a ++ d :: es.drop (a + 1))) hes rfl rfl rfl, Option.bind_some]
theorem plus_edge_ok (N : Net Ac fls seats es) {es' : List D} {d : D} (he' : es' = es ++ [d]) (hes : ∀ d ∈ es', ∃ t, IsE Ac t d ∧ OkT seats.length t) (hl : es.length ≤ 1000) :
    m_Network_plus_edge Ac (.obj Ac.c_Network (netD Ac fls seats es)) d = some (.obj Ac.c_Network (netD Ac fls seats es')) := by
  subst he'
  unfold m_Network_plus_edge
  have ad : ∀ x y : List D, x.length + y.length ≤ 100000 → dAdd (.tup x) (.tup y) = some (.tup (x ++ y)) := fun x y h => gd_of (decide_eq_true (size_ok h))
  rw [nt_f, Option.bind_some, nt_p, Option.bind_some, nt_e, Option.bind_some, ad _ _ (by simp; omega), Option.bind_some]
  rw [net_init_ok (N.put (es' := es ++ [d])) hes rfl rfl rfl, Option.bind_some]
end
end Qk14
set_option Elab.async false
set_option linter.all false
set_option maxRecDepth 100000
set_option maxHeartbeats 4000000
/-! M14m: the law. -/
namespace Qk14
open PySem Z TL
variable {Ac : Cs}
theorem dTuple_id {x : List D} : dTuple (.lst x) = some (.tup x) := rfl
/-- the changed network -/
theorem change_ok {fls es : List D} {seats : List (Str × Nat)} {ts : List Tie} {t : Tie} (N : Net Ac fls seats es) (m : ME Ac ts es) (ht : ∀ t ∈ ts, OkT seats.length t) (hl : ts.length ≤ 40) (hto : OkT seats.length t) {p : List D} (hp : IsQ p) :
    ∃ (r : D × D × List D), ((bTru (.lst (ts.map tieD))).bind fun b_1 =>
(bp (if b_1 then (bp (m_law_draw Ac p (D.int 3)) fun z_10 purse_16 =>
((bGt z_10 (D.int 0)).bind fun b_2 =>
some (b_2, purse_16))) else some (false, p) : Option (Bool × List D)) fun b_3 purse_17 =>
(if b_3 then
((dLen (.lst (ts.map tieD))).bind fun z_11 =>
(bp (m_law_draw Ac purse_17 z_11) fun at'_2 purse_18 =>
((dMth Ac.c_Network "with_edge" (D.obj Ac.c_Network (netD Ac fls seats es))).bind fun u =>
(bp (m_law_arc Ac purse_18 (.lst (t.1.map nD)) (nD t.2)) fun z_12 purse_19 =>
((m_Network_with_edge Ac (D.obj Ac.c_Network (netD Ac fls seats es)) at'_2 z_12).bind fun changed_1 =>
some (at'_2, changed_1, purse_19))))))
else
((dMth Ac.c_Network "plus_edge" (D.obj Ac.c_Network (netD Ac fls seats es))).bind fun u_1 =>
(bp (m_law_arc Ac purse_17 (.lst (t.1.map nD)) (nD t.2)) fun z_13 purse_20 =>
((m_Network_plus_edge Ac (D.obj Ac.c_Network (netD Ac fls seats es)) z_13).bind fun changed_2 =>
some (D.int ((ts.length : Nat) : Int), changed_2, purse_20))))))) = some r ∧ ∃ (a : Nat) (es' : List D) (p' : List D), r = (nD a, .obj Ac.c_Network (netD Ac fls seats es'), p') ∧ a ≤ ts.length ∧ ME Ac (ts.take a ++ t :: ts.drop (a + 1)) es' ∧ (∀ u ∈ ts.take a ++ t :: ts.drop (a + 1), OkT seats.length u) ∧ IsQ p' := by
  have hm := m.1
  have hall : ∀ a, ∀ u ∈ ts.take a ++ t :: ts.drop (a + 1), OkT seats.length u := fun a u hu => by
    rcases List.mem_append.mp hu with h | h
    · exact ht u (List.mem_of_mem_take h)
    · rcases List.mem_cons.mp h with rfl | h
      · exact hto
      · exact ht u (List.mem_of_mem_drop h)
  have plus : ∀ q : List D, IsQ q → ∃ r, ((dMth Ac.c_Network "plus_edge" (D.obj Ac.c_Network (netD Ac fls seats es))).bind fun u_1 =>
(bp (m_law_arc Ac q (.lst (t.1.map nD)) (nD t.2)) fun z_13 purse_20 =>
((m_Network_plus_edge Ac (D.obj Ac.c_Network (netD Ac fls seats es)) z_13).bind fun changed_2 =>
some (D.int ((ts.length : Nat) : Int), changed_2, purse_20)))) = some r ∧ ∃ (a : Nat) (es' : List D) (p' : List D), r = (nD a, .obj Ac.c_Network (netD Ac fls seats es'), p') ∧ a ≤ ts.length ∧ ME Ac (ts.take a ++ t :: ts.drop (a + 1)) es' ∧ (∀ u ∈ ts.take a ++ t :: ts.drop (a + 1), OkT seats.length u) ∧ IsQ p' := fun q hq => by
    obtain ⟨d, q2, e1, he, hq2⟩ := arc_ok (Ac := Ac) hq (t := t) (Nat.le_trans hto.1 (by decide))
    have me := me_put m he ts.length (Nat.le_refl _)
    have e2 : es.take ts.length ++ d :: es.drop (ts.length + 1) = es ++ [d] := by rw [List.take_of_length_le (by omega), List.drop_eq_nil_of_le (by omega)]
    rw [e2] at me
    rw [dMth_1 rfl, Option.bind_some, e1, bp_some, plus_edge_ok N rfl (me_all me (hall _)) (by omega), Option.bind_some]
    exact ⟨_, rfl, ts.length, es ++ [d], q2, rfl, Nat.le_refl _, me, hall _, hq2⟩
  rw [bTru_l, Option.bind_some]
  cases hts : ts with
  | nil =>
    subst hts
    rw [if_neg (by simp), bp_some, if_neg (by decide)]
    exact plus p hp
  | cons t0 ts0 =>
    rw [← hts]
    have h0 : 0 < ts.length := by rw [hts]; simp
    obtain ⟨v, q1, e1, hv, hq1⟩ := drawN_ok (Ac := Ac) hp (n := 3) (by decide) (by decide)
    rw [if_pos (by rw [hts]; rfl), dLen_l, List.length_map, show D.int 3 = nD 3 from rfl, e1, bp_some, bGt_ii, Option.bind_some, bp_some]
    by_cases hz : (0 : Int) < ((v : Nat) : Int)
    · rw [if_pos (decide_eq_true hz), Option.bind_some]
      obtain ⟨a, q2, e2, ha, hq2⟩ := drawN_ok (Ac := Ac) hq1 (n := ts.length) h0 (by omega)
      obtain ⟨d, q3, e3, he, hq3⟩ := arc_ok (Ac := Ac) hq2 (t := t) (Nat.le_trans hto.1 (by decide))
      have me := me_put m he a (by omega)
      rw [e2, bp_some, dMth_1 rfl, Option.bind_some, e3, bp_some, with_edge_ok N (by omega) rfl (me_all me (hall _)) (by omega), Option.bind_some]
      exact ⟨_, rfl, a, _, q3, rfl, by omega, me, hall _, hq3⟩
    · rw [if_neg (by simpa using hz)]
      exact plus q1 hq1
end Qk14
set_option Elab.async false
set_option linter.all false
set_option maxRecDepth 100000
set_option maxHeartbeats 4000000
/-! M14n: the law. -/
namespace Qk14
open PySem Z TL
variable {Ac : Cs}
abbrev fr1 (Ac : Cs) : D := .obj Ac.c_Frame (frF (.str "f") (.tup [.str "x"]) (.tup [.tup [.int 1]]))
abbrev fr2 (Ac : Cs) : D := .obj Ac.c_Frame (frF (.str "g") (.tup [.str "y"]) (.tup [.tup [.int (-1)]]))
theorem shells_ok {z : Nat} (hz : z < 2) : ∃ fls : List D, dSlice (D.lst [fr1 Ac, fr2 Ac]) none (some (((1 + z : Nat)) : Int)) = some (.lst fls) ∧ 0 < fls.length ∧ fls.length ≤ 10 ∧ ∀ d ∈ fls, IsFr Ac d := by
  have h1 : IsFr Ac (fr1 Ac) := ⟨_, _, 1, by decide, rfl⟩
  have h2 : IsFr Ac (fr2 Ac) := ⟨_, _, -1, by decide, rfl⟩
  have e := slice_n (f := fun d : D => d) [fr1 Ac, fr2 Ac] (1 + z)
  rw [List.map_id', List.map_id'] at e
  refine ⟨_, e, by rw [List.length_take]; simp; omega, by rw [List.length_take]; simp; omega, fun d hd => ?_⟩
  have := List.mem_of_mem_take hd
  simp only [List.mem_cons, List.not_mem_nil, or_false] at this
  rcases this with rfl | rfl
  · exact h1
  · exact h2
theorem law_ok (ns : List Int) (hns : ns.length ≤ 63) : m_law Ac (.scr (ns.map .int)) = some (.bl true) := by
  unfold m_law
  obtain ⟨p0, e0, hp0⟩ := purse_ok (Ac := Ac) (ns := ns)
  rw [e0, Option.bind_some, frame_init_ok _ _ _ rfl rfl, Option.bind_some, frame_init_ok _ _ _ rfl rfl, Option.bind_some]
  obtain ⟨z, p1, e1, hz, hp1⟩ := drawN_ok (Ac := Ac) hp0 (n := 2) (by decide) (by decide)
  rw [show D.int 2 = nD 2 from rfl, e1, bp_some, dAdd_ii, Option.bind_some, dPart_i, Option.bind_some, show (1 : Int) + ((z : Nat) : Int) = ((1 + z : Nat) : Int) from by omega]
  obtain ⟨fls, ef, hf1, hf2, hfr⟩ := shells_ok (Ac := Ac) hz
  rw [ef, Option.bind_some]
  obtain ⟨c, p2, e2, hc, hp2⟩ := drawN_ok (Ac := Ac) hp1 (n := 12) (by decide) (by decide)
  rw [show D.int 12 = nD 12 from rfl, e2, bp_some, dAdd_ii, Option.bind_some, show (1 : Int) + ((c : Nat) : Int) = ((1 + c : Nat) : Int) from by omega, itRng1_k (by omega), Option.bind_some]
  obtain ⟨seats, p3, e3, hsl, hsf, hnd, hp3⟩ := seats_ok (Ac := Ac) hp2 (n := 1 + c) (by omega) hf1 hf2
  rw [e3, bp_some]
  obtain ⟨ts, p4, e4, ⟨hts, htl⟩, hp4⟩ := ties_ok (Ac := Ac) hp3 (n := 1 + c) (by omega) (by omega)
  rw [e4, bp_some, itStr_l, Option.bind_some]
  obtain ⟨es, p5, e5, hme, hp5⟩ := arcs_ok (Ac := Ac) hp4 hts (by omega)
  rw [e5, bp_some]
  rw [← hsl] at hts
  have N : Net Ac fls seats es := ⟨hfr, hsf, hnd, by omega⟩
  rw [net_init_ok N (me_all hme hts) rfl rfl rfl, Option.bind_some]
  obtain ⟨g, p6, e6, ⟨hg, hgl⟩, hp6⟩ := given_ok (Ac := Ac) hp5 (n := 1 + c) (by omega) (by omega)
  rw [← hsl] at hg
  have A : ∀ (us : List Tie) (fs : List D) (gg : List Nat), ME Ac us fs → us.length ≤ 50 → (∀ t ∈ us, OkT seats.length t) → (∀ x ∈ gg, x < seats.length) → gg.length ≤ 50 → m_law_asked Ac (.obj Ac.c_Network (netD Ac fls seats fs)) (.lst (us.map tieD)) (.lst (gg.map nD)) (nD (1 + c)) = some (.bl true) := fun us fs gg a b c' d e => by
    have := asked_ok (fls := fls) a b (by omega) c' d e
    rw [hsl] at this
    exact this
  rw [e6, bp_some, A ts es g hme (by omega) hts hg hgl, Option.bind_some, bTru_b, Option.bind_some, Bool.not_true, if_neg (by decide)]
  obtain ⟨t, p7, e7, ht, hp7⟩ := drawn_ok (Ac := Ac) hp6 (n := 1 + c) (by omega) (by omega)
  rw [← hsl] at ht
  rw [e7, bp_some, un2_t, bp_some, dLen_l, Option.bind_some, List.length_map]
  obtain ⟨r, e8, a, es', p8, rfl, ha, hme', hts', hp8⟩ := change_ok N hme hts htl ht hp7
  rw [dLen_l, List.length_map] at e8
  rw [e8, Option.bind_some]
  show ((dPart (nD a)).bind _) = _
  rw [dPart_i, Option.bind_some, slice_n, Option.bind_some]
  have ad : ∀ x y : List D, x.length + y.length ≤ 100000 → dAdd (.lst x) (.lst y) = some (.lst (x ++ y)) := fun x y h => gd_of (decide_eq_true (size_ok h))
  rw [ad _ _ (by rw [List.length_map, List.length_take]; simp; omega), Option.bind_some, dAdd_ii, Option.bind_some, dPart_i, Option.bind_some, show ((a : Nat) : Int) + 1 = ((a + 1 : Nat) : Int) from rfl, sliceF, Option.bind_some, ad _ _ (by rw [List.length_append, List.length_map, List.length_map, List.length_take, List.length_drop]; simp; omega), Option.bind_some]
  have el : (ts.take a).map tieD ++ [D.tup [D.lst (t.1.map nD), nD t.2]] ++ (ts.drop (a + 1)).map tieD = (ts.take a ++ t :: ts.drop (a + 1)).map tieD := by
    rw [List.map_append, List.map_cons, List.append_assoc]; rfl
  rw [el]
  obtain ⟨g2, p9, e9, ⟨hg2, hgl2⟩, hp9⟩ := given_ok (Ac := Ac) hp8 (n := 1 + c) (by omega) (by omega)
  rw [← hsl] at hg2
  have hl' : (ts.take a ++ t :: ts.drop (a + 1)).length ≤ 50 := by rw [List.length_append, List.length_cons, List.length_take, List.length_drop]; omega
  rw [e9, bp_some, A _ es' g hme' hl' hts' hg hgl, Option.bind_some, bTru_b, Option.bind_some, Bool.not_true, if_neg (by decide), A ts es g2 hme (by omega) hts hg2 hgl2, Option.bind_some, bTru_b, Option.bind_some, Bool.not_true, Option.bind_some, if_neg (by decide), A _ es' g2 hme' hl' hts' hg2 hgl2, Option.bind_some, dBl_b, Option.bind_some, if_pos rfl, Option.bind_some, Option.bind_some]
end Qk14
set_option Elab.async false
set_option linter.all false
set_option maxRecDepth 100000
set_option maxHeartbeats 4000000
/-! YHead2: methods and making, from what stands at the top. -/
namespace Z
open PySem PySem.Spec PyProof.Rows L2
section
variable {P : Program} {w : World} {K : Fg} {mg : Str → Option Value} {base : Heap} {x qual : Str} {params : Arguments} {body : List Stmt} {scope : Scope} {kws : List (Str × V)} {f : Addr} {fd : FuncData} {ps : List Str} {k : Nat} {S : ZSp} {C : Addr} {m : Str}
theorem mtz_of (cl : Cls K C) (hm : Meth K C m f) (G : FnOk P w K mg base CX0 k f fd ps (toSp K S)) (hb : Binds K fd ps []) : MtZ P w K mg base C m k S :=
  ⟨cl, f, fd, ps, toSp K S, [], [], hm, G, hb, .nil, fun vs H Q ⟨R, F, M, ds, kk, L, r, s, q⟩ => by rw [List.append_nil]; exact ⟨R, F, M, ds, kk, L, r, s, q⟩⟩
theorem mkz_of (hm : mg x = some (.ref C)) (M : Mk K C f) (G : FnOk P w K mg base CX0 k f fd ps (toSp K S)) (hb : Binds K fd ps []) : MkZ P w K mg base x C k S :=
  ⟨f, fd, ps, toSp K S, [], [], M, G, hm, hb, .nil, fun v vs H Q ⟨R, F, M, ds, kk, L, r, s, q⟩ => by rw [List.append_nil]; exact ⟨R, F, M, ds, kk, L, r, s, q⟩⟩
/-- .. with keywords: g' is how the layer puts the values -/
theorem mkkz_of {n : Nat} {ks : List Str} {g : List V → List V → List V} {gg : List Value → List Value → List Value} {gV : List V → List V → List V} (hm : mg x = some (.ref C)) (M : Mk K C f) (G : FnOk P w K mg base CX0 k f fd ps (toSp K S)) (hb : KBn K fd ps (n + 1) ks gg gV)
    (hg : ∀ v vs zs, vs.length = n → zs.length = ks.length → gV (v :: vs) zs = v :: g vs zs) : MkKZ P w K mg base x C k n ks g S :=
  ⟨f, fd, ps, toSp K S, gg, gV, M, G, hm, hb, fun v vs zs H Q h1 h2 ⟨R, F, M, ds, kk, L, r, s, q⟩ => by rw [hg v vs zs h1 h2]; exact ⟨R, F, M, ds, kk, L, r, s, q⟩⟩
end
/-! the default of a keyword-only parameter, where it is an object -/
def kwdAt (p : Str × Option Str) (x : Str) (K : Fg) : Addr := match K.lookup (He.fAd K p) with
  | some ⟨_, _, .func fd, _⟩ => (match fd.kwdefaults with
    | .ref T => (match PySem.W.nsIn K T x with
      | some (some (.ref a)) => a
      | _ => 0)
    | _ => 0)
  | _ => 0
/-- what stands at a is the datum d -/
def atB (K : Fg) (a : Addr) (d : D) : Bool := okD K d (.ref a)
theorem at_ok {K : Fg} {a : Addr} {d : D} (h : atB K a d = true) : ∀ F, Rp K F (.ref a) d := by
  obtain ⟨x, r, hr⟩ := okD_ok d _ h
  have e : x = .ref a := by
    cases x with
    | ref b =>
      have : Value.ref a = Value.ref b := r
      cases this; rfl
    | _ => first | (obtain ⟨_, h⟩ := r; cases h) | cases r
  rw [← e]; exact hr
end Z
set_option Elab.async false
set_option linter.all false
set_option maxRecDepth 100000
set_option maxHeartbeats 0
/-! Printed by head.py: the end. -/
namespace Qk14
open PySem PySem.Spec PyProof.Rows L2 StX Z
/-! ### a Hook that tells built-in functions among the globals, too -/
def bfOk (bs : List (Str × String)) (K : PySem.W.Frag) : Bool := bs.all fun b => He.eqO (PySem.W.nsIn K mainGlobals b.1) (some (some (.builtin b.2)))
def csOk (cs : List (Str × D)) (K : PySem.W.Frag) : Bool := cs.all fun b => constB K b.1 b.2
def obsX (fa : List He.Fa) (fn : List He.DefD) (bs : List (Str × String)) (cs : List (Str × D)) (xs : List (PySem.W.Frag → Bool)) (K : PySem.W.Frag) : He.AlD × Bool := (He.obsD fa fn K, (bfOk bs K && csOk cs K) && xs.all fun x => x K)
def obsXG (n : Nat) (fa : List He.Fa) (fn : List He.DefD) (bs : List (Str × String)) (cs : List (Str × D)) (xs : List (PySem.W.Frag → Bool)) (g : Addr → Option Obj) : He.AlD × Bool := obsX fa fn bs cs xs (He.frG g (He.asD g n ++ [PySem.cStatics]))
def hookX (n : Nat) (fa : List He.Fa) (fn : List He.DefD) (bs : List (Str × String)) (cs : List (Str × D)) (xs : List (PySem.W.Frag → Bool)) : PySem.W.Hook where
  α := He.AlD × Bool
  obs := fun s => obsXG n fa fn bs cs xs s.heap.get?
  val := fun _ => (He.valD fn, true)
  says := fun _ h => ∃ K : PySem.W.Frag, K.In h ∧ He.SaysD fa fn K ∧ ((bfOk bs K && csOk cs K) && xs.all fun x => x K) = true
  of := fun _ _ e => ⟨_, He.frG_in, congrArg (fun z : He.AlD × Bool => z.1) e, congrArg (fun z : He.AlD × Bool => z.2) e⟩
  keeps := fun _ _ _ ⟨K, hK, c⟩ k => ⟨K, PySem.W.Frag.In.keeps hK k, c⟩
theorem obsXG_eq {n : Nat} {fa : List He.Fa} {fn : List He.DefD} {bs : List (Str × String)} {cs : List (Str × D)} {xs : List (PySem.W.Frag → Bool)} {g : Addr → Option Obj} {s : Shared} (h : ∀ a, g a = s.heap.get? a) : obsXG n fa fn bs cs xs g = (hookX n fa fn bs cs xs).obs s := by
  have e : g = s.heap.get? := funext h
  rw [e] <;> rfl
theorem cs_ok {K : PySem.W.Frag} {h : Heap} {mg : Str → Option Value} (X : K.In h) (G : h.Ns mainGlobals mg) {cs : List (Str × D)} (c : csOk cs K = true) (i : Nat) {b : Str × D} (hb : cs[i]? = some b) : ∃ v, Cst K mg b.1 v b.2 := const_ok X G (List.all_eq_true.mp c b (List.mem_of_getElem? hb))
theorem bf_ok {K : PySem.W.Frag} {h : Heap} {mg : Str → Option Value} (X : K.In h) (G : h.Ns mainGlobals mg) {bs : List (Str × String)} (c : bfOk bs K = true) (i : Nat) {b : Str × String} (hb : bs[i]? = some b) : mg b.1 = some (.builtin b.2) :=
  PySem.W.mg_of X G (He.eqO_ok (List.all_eq_true.mp c b (List.mem_of_getElem? hb)))
abbrev FnP (K : PySem.W.Frag) (x : Str) (st : Stmt) (f : Addr) (fd : FuncData) : Prop := FunD K x x (defArgs st) (defBody st) (defScope st) [] [] f fd
section
variable {P : Program} {w : World} {K : PySem.W.Frag} {mg : Str → Option Value} {base : Heap}
theorem fo_Frame_init {Ac : Cs} (T : Txt Ac K mg) {f : Addr} {fd : FuncData} (F : FunD K "__init__" "Frame.__init__" (defArgs s_Frame_init) (defBody s_Frame_init) (defScope s_Frame_init) [] [] f fd) : FnOk P w K mg base CX0 1 f fd ["self", "name", "variables", "forms"] (toSp K (S_Frame_init Ac)) :=
  fn_z F sc_Frame_init (S_Frame_init Ac) (fun ds M kk h => by unfold S_Frame_init at h; first | (obtain ⟨_, rfl, _⟩ := h; rfl) | (obtain ⟨_, _, rfl, _⟩ := h; rfl) | (obtain ⟨_, _, _, rfl, _⟩ := h; rfl) | (obtain ⟨_, _, _, _, rfl, _⟩ := h; rfl) | (obtain ⟨_, _, _, _, _, rfl, _⟩ := h; rfl) | (obtain ⟨_, _, _, _, _, _, rfl, _⟩ := h; rfl) | (obtain ⟨_, _, _, _, _, _, _, rfl, _⟩ := h; rfl) | (obtain ⟨_, _, _, _, _, _, _, _, rfl, _⟩ := h; rfl) | (obtain ⟨_, _, _, _, _, _, _, _, _, rfl, _⟩ := h; rfl) | (obtain ⟨_, _, _, _, _, _, _, _, _, _, rfl, _⟩ := h; rfl) | (obtain ⟨_, _, _, _, _, _, _, _, _, _, _, rfl, _⟩ := h; rfl) | (obtain ⟨_, _, _, _, _, _, _, _, _, _, _, _, rfl, _⟩ := h; rfl) | (obtain ⟨_, _, _, _, _, _, _, _, _, _, _, _, _, rfl, _⟩ := h; rfl) | (obtain ⟨_, _, _, _, _, _, _, _, _, _, _, _, _, _, rfl, _⟩ := h; rfl) | (obtain ⟨_, _, _, _, _, _, _, _, _, _, _, _, _, _, _, rfl, _⟩ := h; rfl)) (t_Frame_init K Ac) (fun cdv A outer s H E hr => red_Frame_init T f cdv A outer s H E hr) (fun ds M kk h => z_Frame_init T h)
theorem fn_Frame_init {Ac : Cs} (T : Txt Ac K mg) {f : Addr} {fd : FuncData} (F : FunD K "__init__" "Frame.__init__" (defArgs s_Frame_init) (defBody s_Frame_init) (defScope s_Frame_init) [] [] f fd) (hm : mg "Frame" = some (.ref Ac.c_Frame)) (M : Mk K Ac.c_Frame f) : MkZ P w K mg base "Frame" Ac.c_Frame 1 (S_Frame_init Ac) := mkz_of hm M (fo_Frame_init T F) (F.bindsN fun _ _ _ _ _ _ us hl => match us, hl with | [_, _, _, _], _ => rfl)
theorem fo_frame_fits {Ac : Cs} (T : Txt Ac K mg) {f : Addr} {fd : FuncData} (F : FunD K "frame_fits" "frame_fits" (defArgs s_frame_fits) (defBody s_frame_fits) (defScope s_frame_fits) [] [] f fd) : FnOk P w K mg base CX0 1 f fd ["frame"] (toSp K (S_frame_fits Ac)) :=
  fn_z F sc_frame_fits (S_frame_fits Ac) (fun ds M kk h => by unfold S_frame_fits at h; first | (obtain ⟨_, rfl, _⟩ := h; rfl) | (obtain ⟨_, _, rfl, _⟩ := h; rfl) | (obtain ⟨_, _, _, rfl, _⟩ := h; rfl) | (obtain ⟨_, _, _, _, rfl, _⟩ := h; rfl) | (obtain ⟨_, _, _, _, _, rfl, _⟩ := h; rfl) | (obtain ⟨_, _, _, _, _, _, rfl, _⟩ := h; rfl) | (obtain ⟨_, _, _, _, _, _, _, rfl, _⟩ := h; rfl) | (obtain ⟨_, _, _, _, _, _, _, _, rfl, _⟩ := h; rfl) | (obtain ⟨_, _, _, _, _, _, _, _, _, rfl, _⟩ := h; rfl) | (obtain ⟨_, _, _, _, _, _, _, _, _, _, rfl, _⟩ := h; rfl) | (obtain ⟨_, _, _, _, _, _, _, _, _, _, _, rfl, _⟩ := h; rfl) | (obtain ⟨_, _, _, _, _, _, _, _, _, _, _, _, rfl, _⟩ := h; rfl) | (obtain ⟨_, _, _, _, _, _, _, _, _, _, _, _, _, rfl, _⟩ := h; rfl) | (obtain ⟨_, _, _, _, _, _, _, _, _, _, _, _, _, _, rfl, _⟩ := h; rfl) | (obtain ⟨_, _, _, _, _, _, _, _, _, _, _, _, _, _, _, rfl, _⟩ := h; rfl)) (t_frame_fits K Ac) (fun cdv A outer s H E hr => red_frame_fits T f cdv A outer s H E hr) (fun ds M kk h => z_frame_fits T h)
theorem fn_frame_fits {Ac : Cs} (T : Txt Ac K mg) {f : Addr} {fd : FuncData} (F : FunD K "frame_fits" "frame_fits" (defArgs s_frame_fits) (defBody s_frame_fits) (defScope s_frame_fits) [] [] f fd) (hm : mg "frame_fits" = some (.ref f)) : FnZ P w K mg base "frame_fits" 1 (S_frame_fits Ac) := fnz_of F (fo_frame_fits T F) hm (F.bindsN fun _ _ _ _ _ _ us hl => match us, hl with | [_], _ => rfl)
theorem fo_Edge_init {Ac : Cs} {x_sources : V} {x_effect : V} (T : Txt Ac K mg) {f : Addr} {fd : FuncData} (F : FunD K "__init__" "Edge.__init__" (defArgs s_Edge_init) (defBody s_Edge_init) (defScope s_Edge_init) [] [("sources", x_sources), ("guards", Ac.d_Edge_init_guards), ("effect", x_effect), ("label", (V.str "plain"))] f fd) : FnOk P w K mg base CX0 1 f fd ["self", "target", "unknowns", "sources", "guards", "effect", "label"] (toSp K (S_Edge_init Ac)) :=
  fn_z F sc_Edge_init (S_Edge_init Ac) (fun ds M kk h => by unfold S_Edge_init at h; first | (obtain ⟨_, rfl, _⟩ := h; rfl) | (obtain ⟨_, _, rfl, _⟩ := h; rfl) | (obtain ⟨_, _, _, rfl, _⟩ := h; rfl) | (obtain ⟨_, _, _, _, rfl, _⟩ := h; rfl) | (obtain ⟨_, _, _, _, _, rfl, _⟩ := h; rfl) | (obtain ⟨_, _, _, _, _, _, rfl, _⟩ := h; rfl) | (obtain ⟨_, _, _, _, _, _, _, rfl, _⟩ := h; rfl) | (obtain ⟨_, _, _, _, _, _, _, _, rfl, _⟩ := h; rfl) | (obtain ⟨_, _, _, _, _, _, _, _, _, rfl, _⟩ := h; rfl) | (obtain ⟨_, _, _, _, _, _, _, _, _, _, rfl, _⟩ := h; rfl) | (obtain ⟨_, _, _, _, _, _, _, _, _, _, _, rfl, _⟩ := h; rfl) | (obtain ⟨_, _, _, _, _, _, _, _, _, _, _, _, rfl, _⟩ := h; rfl) | (obtain ⟨_, _, _, _, _, _, _, _, _, _, _, _, _, rfl, _⟩ := h; rfl) | (obtain ⟨_, _, _, _, _, _, _, _, _, _, _, _, _, _, rfl, _⟩ := h; rfl) | (obtain ⟨_, _, _, _, _, _, _, _, _, _, _, _, _, _, _, rfl, _⟩ := h; rfl)) (t_Edge_init K Ac) (fun cdv A outer s H E hr => red_Edge_init T f cdv A outer s H E hr) (fun ds M kk h => z_Edge_init T h)
theorem fn_Edge_init_2_sources_effect {Ac : Cs} {x_sources : V} {x_effect : V} (T : Txt Ac K mg) {f : Addr} {fd : FuncData} (F : FunD K "__init__" "Edge.__init__" (defArgs s_Edge_init) (defBody s_Edge_init) (defScope s_Edge_init) [] [("sources", x_sources), ("guards", Ac.d_Edge_init_guards), ("effect", x_effect), ("label", (V.str "plain"))] f fd) (hm : mg "Edge" = some (.ref Ac.c_Edge)) (M : Mk K Ac.c_Edge f) : MkKZ P w K mg base "Edge" Ac.c_Edge 1 2 ["sources", "effect"] (fun vs zs => vs ++ ((zs.drop 0).take 1 ++ ([Ac.d_Edge_init_guards] ++ ((zs.drop 1).take 1 ++ ([(V.str "plain")] ++ []))))) (S_Edge_init Ac) := by
  obtain ⟨mv, kb⟩ := F.kbinds0 (ps := ["self", "target", "unknowns", "sources", "guards", "effect", "label"]) 3 ["sources", "effect"] [("guards", Ac.d_Edge_init_guards), ("label", (V.str "plain"))] (fun us mv ws => us ++ ((ws.drop 0).take 1 ++ ((mv.drop 0).take 1 ++ ((ws.drop 1).take 1 ++ ((mv.drop 1).take 1 ++ []))))) (by simp) (by intro q hq; simp only [List.mem_cons, List.not_mem_nil, or_false] at hq ⊢; rcases hq with rfl | rfl <;> simp) (fun r1 r2 r3 => r1.append (((r3.drop 0).take 1).append (((r2.drop 0).take 1).append (((r3.drop 1).take 1).append (((r2.drop 1).take 1).append .nil)))))
    (fun D doc pm an cdv ct us mv ws h1 h2 h3 => match us, mv, ws, h1, h2, h3 with | [_, _, _], [_, _], [_, _], _, _, _ => ⟨_, _, _, _, _, _, rfl, rfl, ⟨_, _, _, _, _, _, rfl, rfl, by first | rfl | kernel_rfl⟩⟩)
  exact mkkz_of hm M (fo_Edge_init T F) kb fun v vs zs h1 h2 => rfl
theorem fo_Network_variables_of {Ac : Cs} (T : Txt Ac K mg) {f : Addr} {fd : FuncData} (F : FunD K "variables_of" "Network.variables_of" (defArgs s_Network_variables_of) (defBody s_Network_variables_of) (defScope s_Network_variables_of) [] [] f fd) : FnOk P w K mg base CX0 1 f fd ["self", "place"] (toSp K (S_Network_variables_of Ac)) :=
  fn_z F sc_Network_variables_of (S_Network_variables_of Ac) (fun ds M kk h => by unfold S_Network_variables_of at h; first | (obtain ⟨_, rfl, _⟩ := h; rfl) | (obtain ⟨_, _, rfl, _⟩ := h; rfl) | (obtain ⟨_, _, _, rfl, _⟩ := h; rfl) | (obtain ⟨_, _, _, _, rfl, _⟩ := h; rfl) | (obtain ⟨_, _, _, _, _, rfl, _⟩ := h; rfl) | (obtain ⟨_, _, _, _, _, _, rfl, _⟩ := h; rfl) | (obtain ⟨_, _, _, _, _, _, _, rfl, _⟩ := h; rfl) | (obtain ⟨_, _, _, _, _, _, _, _, rfl, _⟩ := h; rfl) | (obtain ⟨_, _, _, _, _, _, _, _, _, rfl, _⟩ := h; rfl) | (obtain ⟨_, _, _, _, _, _, _, _, _, _, rfl, _⟩ := h; rfl) | (obtain ⟨_, _, _, _, _, _, _, _, _, _, _, rfl, _⟩ := h; rfl) | (obtain ⟨_, _, _, _, _, _, _, _, _, _, _, _, rfl, _⟩ := h; rfl) | (obtain ⟨_, _, _, _, _, _, _, _, _, _, _, _, _, rfl, _⟩ := h; rfl) | (obtain ⟨_, _, _, _, _, _, _, _, _, _, _, _, _, _, rfl, _⟩ := h; rfl) | (obtain ⟨_, _, _, _, _, _, _, _, _, _, _, _, _, _, _, rfl, _⟩ := h; rfl)) (t_Network_variables_of K Ac) (fun cdv A outer s H E hr => red_Network_variables_of T f cdv A outer s H E hr) (fun ds M kk h => z_Network_variables_of T h)
theorem fn_Network_variables_of {Ac : Cs} (T : Txt Ac K mg) {f : Addr} {fd : FuncData} (F : FunD K "variables_of" "Network.variables_of" (defArgs s_Network_variables_of) (defBody s_Network_variables_of) (defScope s_Network_variables_of) [] [] f fd) (cl : Cls K Ac.c_Network) (hm : Meth K Ac.c_Network "variables_of" f) : MtZ P w K mg base Ac.c_Network "variables_of" 1 (S_Network_variables_of Ac) := mtz_of cl hm (fo_Network_variables_of T F) (F.bindsN fun _ _ _ _ _ _ us hl => match us, hl with | [_, _], _ => rfl)
theorem fo_Network_forms_of {Ac : Cs} (T : Txt Ac K mg) {f : Addr} {fd : FuncData} (F : FunD K "forms_of" "Network.forms_of" (defArgs s_Network_forms_of) (defBody s_Network_forms_of) (defScope s_Network_forms_of) [] [] f fd) : FnOk P w K mg base CX0 1 f fd ["self", "place"] (toSp K (S_Network_forms_of Ac)) :=
  fn_z F sc_Network_forms_of (S_Network_forms_of Ac) (fun ds M kk h => by unfold S_Network_forms_of at h; first | (obtain ⟨_, rfl, _⟩ := h; rfl) | (obtain ⟨_, _, rfl, _⟩ := h; rfl) | (obtain ⟨_, _, _, rfl, _⟩ := h; rfl) | (obtain ⟨_, _, _, _, rfl, _⟩ := h; rfl) | (obtain ⟨_, _, _, _, _, rfl, _⟩ := h; rfl) | (obtain ⟨_, _, _, _, _, _, rfl, _⟩ := h; rfl) | (obtain ⟨_, _, _, _, _, _, _, rfl, _⟩ := h; rfl) | (obtain ⟨_, _, _, _, _, _, _, _, rfl, _⟩ := h; rfl) | (obtain ⟨_, _, _, _, _, _, _, _, _, rfl, _⟩ := h; rfl) | (obtain ⟨_, _, _, _, _, _, _, _, _, _, rfl, _⟩ := h; rfl) | (obtain ⟨_, _, _, _, _, _, _, _, _, _, _, rfl, _⟩ := h; rfl) | (obtain ⟨_, _, _, _, _, _, _, _, _, _, _, _, rfl, _⟩ := h; rfl) | (obtain ⟨_, _, _, _, _, _, _, _, _, _, _, _, _, rfl, _⟩ := h; rfl) | (obtain ⟨_, _, _, _, _, _, _, _, _, _, _, _, _, _, rfl, _⟩ := h; rfl) | (obtain ⟨_, _, _, _, _, _, _, _, _, _, _, _, _, _, _, rfl, _⟩ := h; rfl)) (t_Network_forms_of K Ac) (fun cdv A outer s H E hr => red_Network_forms_of T f cdv A outer s H E hr) (fun ds M kk h => z_Network_forms_of T h)
theorem fn_Network_forms_of {Ac : Cs} (T : Txt Ac K mg) {f : Addr} {fd : FuncData} (F : FunD K "forms_of" "Network.forms_of" (defArgs s_Network_forms_of) (defBody s_Network_forms_of) (defScope s_Network_forms_of) [] [] f fd) (cl : Cls K Ac.c_Network) (hm : Meth K Ac.c_Network "forms_of" f) : MtZ P w K mg base Ac.c_Network "forms_of" 1 (S_Network_forms_of Ac) := mtz_of cl hm (fo_Network_forms_of T F) (F.bindsN fun _ _ _ _ _ _ us hl => match us, hl with | [_, _], _ => rfl)
theorem fo_Network_edges_into {Ac : Cs} (T : Txt Ac K mg) {f : Addr} {fd : FuncData} (F : FunD K "edges_into" "Network.edges_into" (defArgs s_Network_edges_into) (defBody s_Network_edges_into) (defScope s_Network_edges_into) [] [] f fd) : FnOk P w K mg base CX0 1 f fd ["self", "place"] (toSp K (S_Network_edges_into Ac)) :=
  fn_z F sc_Network_edges_into (S_Network_edges_into Ac) (fun ds M kk h => by unfold S_Network_edges_into at h; first | (obtain ⟨_, rfl, _⟩ := h; rfl) | (obtain ⟨_, _, rfl, _⟩ := h; rfl) | (obtain ⟨_, _, _, rfl, _⟩ := h; rfl) | (obtain ⟨_, _, _, _, rfl, _⟩ := h; rfl) | (obtain ⟨_, _, _, _, _, rfl, _⟩ := h; rfl) | (obtain ⟨_, _, _, _, _, _, rfl, _⟩ := h; rfl) | (obtain ⟨_, _, _, _, _, _, _, rfl, _⟩ := h; rfl) | (obtain ⟨_, _, _, _, _, _, _, _, rfl, _⟩ := h; rfl) | (obtain ⟨_, _, _, _, _, _, _, _, _, rfl, _⟩ := h; rfl) | (obtain ⟨_, _, _, _, _, _, _, _, _, _, rfl, _⟩ := h; rfl) | (obtain ⟨_, _, _, _, _, _, _, _, _, _, _, rfl, _⟩ := h; rfl) | (obtain ⟨_, _, _, _, _, _, _, _, _, _, _, _, rfl, _⟩ := h; rfl) | (obtain ⟨_, _, _, _, _, _, _, _, _, _, _, _, _, rfl, _⟩ := h; rfl) | (obtain ⟨_, _, _, _, _, _, _, _, _, _, _, _, _, _, rfl, _⟩ := h; rfl) | (obtain ⟨_, _, _, _, _, _, _, _, _, _, _, _, _, _, _, rfl, _⟩ := h; rfl)) (t_Network_edges_into K Ac) (fun cdv A outer s H E hr => red_Network_edges_into T f cdv A outer s H E hr) (fun ds M kk h => z_Network_edges_into T h)
theorem fn_Network_edges_into {Ac : Cs} (T : Txt Ac K mg) {f : Addr} {fd : FuncData} (F : FunD K "edges_into" "Network.edges_into" (defArgs s_Network_edges_into) (defBody s_Network_edges_into) (defScope s_Network_edges_into) [] [] f fd) (cl : Cls K Ac.c_Network) (hm : Meth K Ac.c_Network "edges_into" f) : MtZ P w K mg base Ac.c_Network "edges_into" 1 (S_Network_edges_into Ac) := mtz_of cl hm (fo_Network_edges_into T F) (F.bindsN fun _ _ _ _ _ _ us hl => match us, hl with | [_, _], _ => rfl)
theorem fo_Network_targets_from {Ac : Cs} (T : Txt Ac K mg) {f : Addr} {fd : FuncData} (F : FunD K "_targets_from" "Network._targets_from" (defArgs s_Network_targets_from) (defBody s_Network_targets_from) (defScope s_Network_targets_from) [] [] f fd) : FnOk P w K mg base CX0 1 f fd ["self", "place"] (toSp K (S_Network_targets_from Ac)) :=
  fn_z F sc_Network_targets_from (S_Network_targets_from Ac) (fun ds M kk h => by unfold S_Network_targets_from at h; first | (obtain ⟨_, rfl, _⟩ := h; rfl) | (obtain ⟨_, _, rfl, _⟩ := h; rfl) | (obtain ⟨_, _, _, rfl, _⟩ := h; rfl) | (obtain ⟨_, _, _, _, rfl, _⟩ := h; rfl) | (obtain ⟨_, _, _, _, _, rfl, _⟩ := h; rfl) | (obtain ⟨_, _, _, _, _, _, rfl, _⟩ := h; rfl) | (obtain ⟨_, _, _, _, _, _, _, rfl, _⟩ := h; rfl) | (obtain ⟨_, _, _, _, _, _, _, _, rfl, _⟩ := h; rfl) | (obtain ⟨_, _, _, _, _, _, _, _, _, rfl, _⟩ := h; rfl) | (obtain ⟨_, _, _, _, _, _, _, _, _, _, rfl, _⟩ := h; rfl) | (obtain ⟨_, _, _, _, _, _, _, _, _, _, _, rfl, _⟩ := h; rfl) | (obtain ⟨_, _, _, _, _, _, _, _, _, _, _, _, rfl, _⟩ := h; rfl) | (obtain ⟨_, _, _, _, _, _, _, _, _, _, _, _, _, rfl, _⟩ := h; rfl) | (obtain ⟨_, _, _, _, _, _, _, _, _, _, _, _, _, _, rfl, _⟩ := h; rfl) | (obtain ⟨_, _, _, _, _, _, _, _, _, _, _, _, _, _, _, rfl, _⟩ := h; rfl)) (t_Network_targets_from K Ac) (fun cdv A outer s H E hr => red_Network_targets_from T f cdv A outer s H E hr) (fun ds M kk h => z_Network_targets_from T h)
theorem fn_Network_targets_from {Ac : Cs} (T : Txt Ac K mg) {f : Addr} {fd : FuncData} (F : FunD K "_targets_from" "Network._targets_from" (defArgs s_Network_targets_from) (defBody s_Network_targets_from) (defScope s_Network_targets_from) [] [] f fd) (cl : Cls K Ac.c_Network) (hm : Meth K Ac.c_Network "_targets_from" f) : MtZ P w K mg base Ac.c_Network "_targets_from" 1 (S_Network_targets_from Ac) := mtz_of cl hm (fo_Network_targets_from T F) (F.bindsN fun _ _ _ _ _ _ us hl => match us, hl with | [_, _], _ => rfl)
theorem fo_law_purse {Ac : Cs} (T : Txt Ac K mg) {f : Addr} {fd : FuncData} (F : FunD K "_law_purse" "_law_purse" (defArgs s_law_purse) (defBody s_law_purse) (defScope s_law_purse) [] [] f fd) : FnOk P w K mg base CX0 1 f fd ["_law_script"] (toSp K (S_law_purse Ac)) :=
  fn_z F sc_law_purse (S_law_purse Ac) (fun ds M kk h => by unfold S_law_purse at h; first | (obtain ⟨_, rfl, _⟩ := h; rfl) | (obtain ⟨_, _, rfl, _⟩ := h; rfl) | (obtain ⟨_, _, _, rfl, _⟩ := h; rfl) | (obtain ⟨_, _, _, _, rfl, _⟩ := h; rfl) | (obtain ⟨_, _, _, _, _, rfl, _⟩ := h; rfl) | (obtain ⟨_, _, _, _, _, _, rfl, _⟩ := h; rfl) | (obtain ⟨_, _, _, _, _, _, _, rfl, _⟩ := h; rfl) | (obtain ⟨_, _, _, _, _, _, _, _, rfl, _⟩ := h; rfl) | (obtain ⟨_, _, _, _, _, _, _, _, _, rfl, _⟩ := h; rfl) | (obtain ⟨_, _, _, _, _, _, _, _, _, _, rfl, _⟩ := h; rfl) | (obtain ⟨_, _, _, _, _, _, _, _, _, _, _, rfl, _⟩ := h; rfl) | (obtain ⟨_, _, _, _, _, _, _, _, _, _, _, _, rfl, _⟩ := h; rfl) | (obtain ⟨_, _, _, _, _, _, _, _, _, _, _, _, _, rfl, _⟩ := h; rfl) | (obtain ⟨_, _, _, _, _, _, _, _, _, _, _, _, _, _, rfl, _⟩ := h; rfl) | (obtain ⟨_, _, _, _, _, _, _, _, _, _, _, _, _, _, _, rfl, _⟩ := h; rfl)) (t_law_purse K Ac) (fun cdv A outer s H E hr => red_law_purse T f cdv A outer s H E hr) (fun ds M kk h => z_law_purse T h)
theorem fn_law_purse {Ac : Cs} (T : Txt Ac K mg) {f : Addr} {fd : FuncData} (F : FunD K "_law_purse" "_law_purse" (defArgs s_law_purse) (defBody s_law_purse) (defScope s_law_purse) [] [] f fd) (hm : mg "_law_purse" = some (.ref f)) : FnZ P w K mg base "_law_purse" 1 (S_law_purse Ac) := fnz_of F (fo_law_purse T F) hm (F.bindsN fun _ _ _ _ _ _ us hl => match us, hl with | [_], _ => rfl)
theorem fo_law_draw {Ac : Cs} (T : Txt Ac K mg) {f : Addr} {fd : FuncData} (F : FunD K "_law_draw" "_law_draw" (defArgs s_law_draw) (defBody s_law_draw) (defScope s_law_draw) [] [] f fd) : FnOk P w K mg base CX0 1 f fd ["_law_purse_here", "_law_size"] (toSp K (S_law_draw Ac)) :=
  fn_z F sc_law_draw (S_law_draw Ac) (fun ds M kk h => by unfold S_law_draw at h; first | (obtain ⟨_, rfl, _⟩ := h; rfl) | (obtain ⟨_, _, rfl, _⟩ := h; rfl) | (obtain ⟨_, _, _, rfl, _⟩ := h; rfl) | (obtain ⟨_, _, _, _, rfl, _⟩ := h; rfl) | (obtain ⟨_, _, _, _, _, rfl, _⟩ := h; rfl) | (obtain ⟨_, _, _, _, _, _, rfl, _⟩ := h; rfl) | (obtain ⟨_, _, _, _, _, _, _, rfl, _⟩ := h; rfl) | (obtain ⟨_, _, _, _, _, _, _, _, rfl, _⟩ := h; rfl) | (obtain ⟨_, _, _, _, _, _, _, _, _, rfl, _⟩ := h; rfl) | (obtain ⟨_, _, _, _, _, _, _, _, _, _, rfl, _⟩ := h; rfl) | (obtain ⟨_, _, _, _, _, _, _, _, _, _, _, rfl, _⟩ := h; rfl) | (obtain ⟨_, _, _, _, _, _, _, _, _, _, _, _, rfl, _⟩ := h; rfl) | (obtain ⟨_, _, _, _, _, _, _, _, _, _, _, _, _, rfl, _⟩ := h; rfl) | (obtain ⟨_, _, _, _, _, _, _, _, _, _, _, _, _, _, rfl, _⟩ := h; rfl) | (obtain ⟨_, _, _, _, _, _, _, _, _, _, _, _, _, _, _, rfl, _⟩ := h; rfl)) (t_law_draw K Ac) (fun cdv A outer s H E hr => red_law_draw T f cdv A outer s H E hr) (fun ds M kk h => z_law_draw T h)
theorem fn_law_draw {Ac : Cs} (T : Txt Ac K mg) {f : Addr} {fd : FuncData} (F : FunD K "_law_draw" "_law_draw" (defArgs s_law_draw) (defBody s_law_draw) (defScope s_law_draw) [] [] f fd) (hm : mg "_law_draw" = some (.ref f)) : FnZ P w K mg base "_law_draw" 1 (S_law_draw Ac) := fnz_of F (fo_law_draw T F) hm (F.bindsN fun _ _ _ _ _ _ us hl => match us, hl with | [_, _], _ => rfl)
theorem fo_law_reach {Ac : Cs} (T : Txt Ac K mg) {f : Addr} {fd : FuncData} (F : FunD K "_law_reach" "_law_reach" (defArgs s_law_reach) (defBody s_law_reach) (defScope s_law_reach) [] [] f fd) : FnOk P w K mg base CX0 1 f fd ["_law_ties_here", "_law_given_here", "_law_count"] (toSp K (S_law_reach Ac)) :=
  fn_z F sc_law_reach (S_law_reach Ac) (fun ds M kk h => by unfold S_law_reach at h; first | (obtain ⟨_, rfl, _⟩ := h; rfl) | (obtain ⟨_, _, rfl, _⟩ := h; rfl) | (obtain ⟨_, _, _, rfl, _⟩ := h; rfl) | (obtain ⟨_, _, _, _, rfl, _⟩ := h; rfl) | (obtain ⟨_, _, _, _, _, rfl, _⟩ := h; rfl) | (obtain ⟨_, _, _, _, _, _, rfl, _⟩ := h; rfl) | (obtain ⟨_, _, _, _, _, _, _, rfl, _⟩ := h; rfl) | (obtain ⟨_, _, _, _, _, _, _, _, rfl, _⟩ := h; rfl) | (obtain ⟨_, _, _, _, _, _, _, _, _, rfl, _⟩ := h; rfl) | (obtain ⟨_, _, _, _, _, _, _, _, _, _, rfl, _⟩ := h; rfl) | (obtain ⟨_, _, _, _, _, _, _, _, _, _, _, rfl, _⟩ := h; rfl) | (obtain ⟨_, _, _, _, _, _, _, _, _, _, _, _, rfl, _⟩ := h; rfl) | (obtain ⟨_, _, _, _, _, _, _, _, _, _, _, _, _, rfl, _⟩ := h; rfl) | (obtain ⟨_, _, _, _, _, _, _, _, _, _, _, _, _, _, rfl, _⟩ := h; rfl) | (obtain ⟨_, _, _, _, _, _, _, _, _, _, _, _, _, _, _, rfl, _⟩ := h; rfl)) (t_law_reach K Ac) (fun cdv A outer s H E hr => red_law_reach T f cdv A outer s H E hr) (fun ds M kk h => z_law_reach T h)
theorem fn_law_reach {Ac : Cs} (T : Txt Ac K mg) {f : Addr} {fd : FuncData} (F : FunD K "_law_reach" "_law_reach" (defArgs s_law_reach) (defBody s_law_reach) (defScope s_law_reach) [] [] f fd) (hm : mg "_law_reach" = some (.ref f)) : FnZ P w K mg base "_law_reach" 1 (S_law_reach Ac) := fnz_of F (fo_law_reach T F) hm (F.bindsN fun _ _ _ _ _ _ us hl => match us, hl with | [_, _, _], _ => rfl)
theorem fo_Network_edge_fits {Ac : Cs} (T : Txt Ac K mg) (G_Network_variables_of : MtZ P w K mg base Ac.c_Network "variables_of" 1 (S_Network_variables_of Ac)) {f : Addr} {fd : FuncData} (F : FunD K "_edge_fits" "Network._edge_fits" (defArgs s_Network_edge_fits) (defBody s_Network_edge_fits) (defScope s_Network_edge_fits) [] [] f fd) : FnOk P w K mg base CX0 2 f fd ["self", "edge"] (toSp K (S_Network_edge_fits Ac)) :=
  fn_z F sc_Network_edge_fits (S_Network_edge_fits Ac) (fun ds M kk h => by unfold S_Network_edge_fits at h; first | (obtain ⟨_, rfl, _⟩ := h; rfl) | (obtain ⟨_, _, rfl, _⟩ := h; rfl) | (obtain ⟨_, _, _, rfl, _⟩ := h; rfl) | (obtain ⟨_, _, _, _, rfl, _⟩ := h; rfl) | (obtain ⟨_, _, _, _, _, rfl, _⟩ := h; rfl) | (obtain ⟨_, _, _, _, _, _, rfl, _⟩ := h; rfl) | (obtain ⟨_, _, _, _, _, _, _, rfl, _⟩ := h; rfl) | (obtain ⟨_, _, _, _, _, _, _, _, rfl, _⟩ := h; rfl) | (obtain ⟨_, _, _, _, _, _, _, _, _, rfl, _⟩ := h; rfl) | (obtain ⟨_, _, _, _, _, _, _, _, _, _, rfl, _⟩ := h; rfl) | (obtain ⟨_, _, _, _, _, _, _, _, _, _, _, rfl, _⟩ := h; rfl) | (obtain ⟨_, _, _, _, _, _, _, _, _, _, _, _, rfl, _⟩ := h; rfl) | (obtain ⟨_, _, _, _, _, _, _, _, _, _, _, _, _, rfl, _⟩ := h; rfl) | (obtain ⟨_, _, _, _, _, _, _, _, _, _, _, _, _, _, rfl, _⟩ := h; rfl) | (obtain ⟨_, _, _, _, _, _, _, _, _, _, _, _, _, _, _, rfl, _⟩ := h; rfl)) (t_Network_edge_fits K Ac (S_Network_variables_of Ac)) (fun cdv A outer s H E hr => red_Network_edge_fits T (S_Network_variables_of Ac) G_Network_variables_of f cdv A outer s H E hr) (fun ds M kk h => z_Network_edge_fits T h)
theorem fn_Network_edge_fits {Ac : Cs} (T : Txt Ac K mg) (G_Network_variables_of : MtZ P w K mg base Ac.c_Network "variables_of" 1 (S_Network_variables_of Ac)) {f : Addr} {fd : FuncData} (F : FunD K "_edge_fits" "Network._edge_fits" (defArgs s_Network_edge_fits) (defBody s_Network_edge_fits) (defScope s_Network_edge_fits) [] [] f fd) (cl : Cls K Ac.c_Network) (hm : Meth K Ac.c_Network "_edge_fits" f) : MtZ P w K mg base Ac.c_Network "_edge_fits" 2 (S_Network_edge_fits Ac) := mtz_of cl hm (fo_Network_edge_fits T G_Network_variables_of F) (F.bindsN fun _ _ _ _ _ _ us hl => match us, hl with | [_, _], _ => rfl)
theorem fo_Network_is_too_large {Ac : Cs} (T : Txt Ac K mg) (G_Network_forms_of : MtZ P w K mg base Ac.c_Network "forms_of" 1 (S_Network_forms_of Ac)) {f : Addr} {fd : FuncData} (F : FunD K "_is_too_large" "Network._is_too_large" (defArgs s_Network_is_too_large) (defBody s_Network_is_too_large) (defScope s_Network_is_too_large) [] [] f fd) : FnOk P w K mg base CX0 2 f fd ["self", "edge"] (toSp K (S_Network_is_too_large Ac)) :=
  fn_z F sc_Network_is_too_large (S_Network_is_too_large Ac) (fun ds M kk h => by unfold S_Network_is_too_large at h; first | (obtain ⟨_, rfl, _⟩ := h; rfl) | (obtain ⟨_, _, rfl, _⟩ := h; rfl) | (obtain ⟨_, _, _, rfl, _⟩ := h; rfl) | (obtain ⟨_, _, _, _, rfl, _⟩ := h; rfl) | (obtain ⟨_, _, _, _, _, rfl, _⟩ := h; rfl) | (obtain ⟨_, _, _, _, _, _, rfl, _⟩ := h; rfl) | (obtain ⟨_, _, _, _, _, _, _, rfl, _⟩ := h; rfl) | (obtain ⟨_, _, _, _, _, _, _, _, rfl, _⟩ := h; rfl) | (obtain ⟨_, _, _, _, _, _, _, _, _, rfl, _⟩ := h; rfl) | (obtain ⟨_, _, _, _, _, _, _, _, _, _, rfl, _⟩ := h; rfl) | (obtain ⟨_, _, _, _, _, _, _, _, _, _, _, rfl, _⟩ := h; rfl) | (obtain ⟨_, _, _, _, _, _, _, _, _, _, _, _, rfl, _⟩ := h; rfl) | (obtain ⟨_, _, _, _, _, _, _, _, _, _, _, _, _, rfl, _⟩ := h; rfl) | (obtain ⟨_, _, _, _, _, _, _, _, _, _, _, _, _, _, rfl, _⟩ := h; rfl) | (obtain ⟨_, _, _, _, _, _, _, _, _, _, _, _, _, _, _, rfl, _⟩ := h; rfl)) (t_Network_is_too_large K Ac (S_Network_forms_of Ac)) (fun cdv A outer s H E hr => red_Network_is_too_large T (S_Network_forms_of Ac) G_Network_forms_of f cdv A outer s H E hr) (fun ds M kk h => z_Network_is_too_large T h)
theorem fn_Network_is_too_large {Ac : Cs} (T : Txt Ac K mg) (G_Network_forms_of : MtZ P w K mg base Ac.c_Network "forms_of" 1 (S_Network_forms_of Ac)) {f : Addr} {fd : FuncData} (F : FunD K "_is_too_large" "Network._is_too_large" (defArgs s_Network_is_too_large) (defBody s_Network_is_too_large) (defScope s_Network_is_too_large) [] [] f fd) (cl : Cls K Ac.c_Network) (hm : Meth K Ac.c_Network "_is_too_large" f) : MtZ P w K mg base Ac.c_Network "_is_too_large" 2 (S_Network_is_too_large Ac) := mtz_of cl hm (fo_Network_is_too_large T G_Network_forms_of F) (F.bindsN fun _ _ _ _ _ _ us hl => match us, hl with | [_, _], _ => rfl)
theorem fo_Network_hanging {Ac : Cs} (T : Txt Ac K mg) (G_Network_targets_from : MtZ P w K mg base Ac.c_Network "_targets_from" 1 (S_Network_targets_from Ac)) {f : Addr} {fd : FuncData} (F : FunD K "hanging" "Network.hanging" (defArgs s_Network_hanging) (defBody s_Network_hanging) (defScope s_Network_hanging) [] [] f fd) : FnOk P w K mg base CX0 2 f fd ["self", "places"] (toSp K (S_Network_hanging Ac)) :=
  fn_z F sc_Network_hanging (S_Network_hanging Ac) (fun ds M kk h => by unfold S_Network_hanging at h; first | (obtain ⟨_, rfl, _⟩ := h; rfl) | (obtain ⟨_, _, rfl, _⟩ := h; rfl) | (obtain ⟨_, _, _, rfl, _⟩ := h; rfl) | (obtain ⟨_, _, _, _, rfl, _⟩ := h; rfl) | (obtain ⟨_, _, _, _, _, rfl, _⟩ := h; rfl) | (obtain ⟨_, _, _, _, _, _, rfl, _⟩ := h; rfl) | (obtain ⟨_, _, _, _, _, _, _, rfl, _⟩ := h; rfl) | (obtain ⟨_, _, _, _, _, _, _, _, rfl, _⟩ := h; rfl) | (obtain ⟨_, _, _, _, _, _, _, _, _, rfl, _⟩ := h; rfl) | (obtain ⟨_, _, _, _, _, _, _, _, _, _, rfl, _⟩ := h; rfl) | (obtain ⟨_, _, _, _, _, _, _, _, _, _, _, rfl, _⟩ := h; rfl) | (obtain ⟨_, _, _, _, _, _, _, _, _, _, _, _, rfl, _⟩ := h; rfl) | (obtain ⟨_, _, _, _, _, _, _, _, _, _, _, _, _, rfl, _⟩ := h; rfl) | (obtain ⟨_, _, _, _, _, _, _, _, _, _, _, _, _, _, rfl, _⟩ := h; rfl) | (obtain ⟨_, _, _, _, _, _, _, _, _, _, _, _, _, _, _, rfl, _⟩ := h; rfl)) (t_Network_hanging K Ac (S_Network_targets_from Ac)) (fun cdv A outer s H E hr => red_Network_hanging T (S_Network_targets_from Ac) G_Network_targets_from f cdv A outer s H E hr) (fun ds M kk h => z_Network_hanging T h)
theorem fn_Network_hanging {Ac : Cs} (T : Txt Ac K mg) (G_Network_targets_from : MtZ P w K mg base Ac.c_Network "_targets_from" 1 (S_Network_targets_from Ac)) {f : Addr} {fd : FuncData} (F : FunD K "hanging" "Network.hanging" (defArgs s_Network_hanging) (defBody s_Network_hanging) (defScope s_Network_hanging) [] [] f fd) (cl : Cls K Ac.c_Network) (hm : Meth K Ac.c_Network "hanging" f) : MtZ P w K mg base Ac.c_Network "hanging" 2 (S_Network_hanging Ac) := mtz_of cl hm (fo_Network_hanging T G_Network_targets_from F) (F.bindsN fun _ _ _ _ _ _ us hl => match us, hl with | [_, _], _ => rfl)
theorem fo_law_order {Ac : Cs} (T : Txt Ac K mg) (G_law_draw : FnZ P w K mg base "_law_draw" 1 (S_law_draw Ac)) {f : Addr} {fd : FuncData} (F : FunD K "_law_order" "_law_order" (defArgs s_law_order) (defBody s_law_order) (defScope s_law_order) [] [] f fd) : FnOk P w K mg base CX0 2 f fd ["_law_purse_here", "_law_count"] (toSp K (S_law_order Ac)) :=
  fn_z F sc_law_order (S_law_order Ac) (fun ds M kk h => by unfold S_law_order at h; first | (obtain ⟨_, rfl, _⟩ := h; rfl) | (obtain ⟨_, _, rfl, _⟩ := h; rfl) | (obtain ⟨_, _, _, rfl, _⟩ := h; rfl) | (obtain ⟨_, _, _, _, rfl, _⟩ := h; rfl) | (obtain ⟨_, _, _, _, _, rfl, _⟩ := h; rfl) | (obtain ⟨_, _, _, _, _, _, rfl, _⟩ := h; rfl) | (obtain ⟨_, _, _, _, _, _, _, rfl, _⟩ := h; rfl) | (obtain ⟨_, _, _, _, _, _, _, _, rfl, _⟩ := h; rfl) | (obtain ⟨_, _, _, _, _, _, _, _, _, rfl, _⟩ := h; rfl) | (obtain ⟨_, _, _, _, _, _, _, _, _, _, rfl, _⟩ := h; rfl) | (obtain ⟨_, _, _, _, _, _, _, _, _, _, _, rfl, _⟩ := h; rfl) | (obtain ⟨_, _, _, _, _, _, _, _, _, _, _, _, rfl, _⟩ := h; rfl) | (obtain ⟨_, _, _, _, _, _, _, _, _, _, _, _, _, rfl, _⟩ := h; rfl) | (obtain ⟨_, _, _, _, _, _, _, _, _, _, _, _, _, _, rfl, _⟩ := h; rfl) | (obtain ⟨_, _, _, _, _, _, _, _, _, _, _, _, _, _, _, rfl, _⟩ := h; rfl)) (t_law_order K Ac (S_law_draw Ac)) (fun cdv A outer s H E hr => red_law_order T (S_law_draw Ac) G_law_draw f cdv A outer s H E hr) (fun ds M kk h => z_law_order T h)
theorem fn_law_order {Ac : Cs} (T : Txt Ac K mg) (G_law_draw : FnZ P w K mg base "_law_draw" 1 (S_law_draw Ac)) {f : Addr} {fd : FuncData} (F : FunD K "_law_order" "_law_order" (defArgs s_law_order) (defBody s_law_order) (defScope s_law_order) [] [] f fd) (hm : mg "_law_order" = some (.ref f)) : FnZ P w K mg base "_law_order" 2 (S_law_order Ac) := fnz_of F (fo_law_order T G_law_draw F) hm (F.bindsN fun _ _ _ _ _ _ us hl => match us, hl with | [_, _], _ => rfl)
theorem fo_law_row {Ac : Cs} (T : Txt Ac K mg) (G_law_draw : FnZ P w K mg base "_law_draw" 1 (S_law_draw Ac)) {f : Addr} {fd : FuncData} (F : FunD K "_law_row" "_law_row" (defArgs s_law_row) (defBody s_law_row) (defScope s_law_row) [] [] f fd) : FnOk P w K mg base CX0 2 f fd ["_law_purse_here", "_law_many"] (toSp K (S_law_row Ac)) :=
  fn_z F sc_law_row (S_law_row Ac) (fun ds M kk h => by unfold S_law_row at h; first | (obtain ⟨_, rfl, _⟩ := h; rfl) | (obtain ⟨_, _, rfl, _⟩ := h; rfl) | (obtain ⟨_, _, _, rfl, _⟩ := h; rfl) | (obtain ⟨_, _, _, _, rfl, _⟩ := h; rfl) | (obtain ⟨_, _, _, _, _, rfl, _⟩ := h; rfl) | (obtain ⟨_, _, _, _, _, _, rfl, _⟩ := h; rfl) | (obtain ⟨_, _, _, _, _, _, _, rfl, _⟩ := h; rfl) | (obtain ⟨_, _, _, _, _, _, _, _, rfl, _⟩ := h; rfl) | (obtain ⟨_, _, _, _, _, _, _, _, _, rfl, _⟩ := h; rfl) | (obtain ⟨_, _, _, _, _, _, _, _, _, _, rfl, _⟩ := h; rfl) | (obtain ⟨_, _, _, _, _, _, _, _, _, _, _, rfl, _⟩ := h; rfl) | (obtain ⟨_, _, _, _, _, _, _, _, _, _, _, _, rfl, _⟩ := h; rfl) | (obtain ⟨_, _, _, _, _, _, _, _, _, _, _, _, _, rfl, _⟩ := h; rfl) | (obtain ⟨_, _, _, _, _, _, _, _, _, _, _, _, _, _, rfl, _⟩ := h; rfl) | (obtain ⟨_, _, _, _, _, _, _, _, _, _, _, _, _, _, _, rfl, _⟩ := h; rfl)) (t_law_row K Ac (S_law_draw Ac)) (fun cdv A outer s H E hr => red_law_row T (S_law_draw Ac) G_law_draw f cdv A outer s H E hr) (fun ds M kk h => z_law_row T h)
theorem fn_law_row {Ac : Cs} (T : Txt Ac K mg) (G_law_draw : FnZ P w K mg base "_law_draw" 1 (S_law_draw Ac)) {f : Addr} {fd : FuncData} (F : FunD K "_law_row" "_law_row" (defArgs s_law_row) (defBody s_law_row) (defScope s_law_row) [] [] f fd) (hm : mg "_law_row" = some (.ref f)) : FnZ P w K mg base "_law_row" 2 (S_law_row Ac) := fnz_of F (fo_law_row T G_law_draw F) hm (F.bindsN fun _ _ _ _ _ _ us hl => match us, hl with | [_, _], _ => rfl)
theorem fo_law_drawn {Ac : Cs} (T : Txt Ac K mg) (G_law_draw : FnZ P w K mg base "_law_draw" 1 (S_law_draw Ac)) {f : Addr} {fd : FuncData} (F : FunD K "_law_drawn" "_law_drawn" (defArgs s_law_drawn) (defBody s_law_drawn) (defScope s_law_drawn) [] [] f fd) : FnOk P w K mg base CX0 2 f fd ["_law_purse_here", "_law_count"] (toSp K (S_law_drawn Ac)) :=
  fn_z F sc_law_drawn (S_law_drawn Ac) (fun ds M kk h => by unfold S_law_drawn at h; first | (obtain ⟨_, rfl, _⟩ := h; rfl) | (obtain ⟨_, _, rfl, _⟩ := h; rfl) | (obtain ⟨_, _, _, rfl, _⟩ := h; rfl) | (obtain ⟨_, _, _, _, rfl, _⟩ := h; rfl) | (obtain ⟨_, _, _, _, _, rfl, _⟩ := h; rfl) | (obtain ⟨_, _, _, _, _, _, rfl, _⟩ := h; rfl) | (obtain ⟨_, _, _, _, _, _, _, rfl, _⟩ := h; rfl) | (obtain ⟨_, _, _, _, _, _, _, _, rfl, _⟩ := h; rfl) | (obtain ⟨_, _, _, _, _, _, _, _, _, rfl, _⟩ := h; rfl) | (obtain ⟨_, _, _, _, _, _, _, _, _, _, rfl, _⟩ := h; rfl) | (obtain ⟨_, _, _, _, _, _, _, _, _, _, _, rfl, _⟩ := h; rfl) | (obtain ⟨_, _, _, _, _, _, _, _, _, _, _, _, rfl, _⟩ := h; rfl) | (obtain ⟨_, _, _, _, _, _, _, _, _, _, _, _, _, rfl, _⟩ := h; rfl) | (obtain ⟨_, _, _, _, _, _, _, _, _, _, _, _, _, _, rfl, _⟩ := h; rfl) | (obtain ⟨_, _, _, _, _, _, _, _, _, _, _, _, _, _, _, rfl, _⟩ := h; rfl)) (t_law_drawn K Ac (S_law_draw Ac)) (fun cdv A outer s H E hr => red_law_drawn T (S_law_draw Ac) G_law_draw f cdv A outer s H E hr) (fun ds M kk h => z_law_drawn T h)
theorem fn_law_drawn {Ac : Cs} (T : Txt Ac K mg) (G_law_draw : FnZ P w K mg base "_law_draw" 1 (S_law_draw Ac)) {f : Addr} {fd : FuncData} (F : FunD K "_law_drawn" "_law_drawn" (defArgs s_law_drawn) (defBody s_law_drawn) (defScope s_law_drawn) [] [] f fd) (hm : mg "_law_drawn" = some (.ref f)) : FnZ P w K mg base "_law_drawn" 2 (S_law_drawn Ac) := fnz_of F (fo_law_drawn T G_law_draw F) hm (F.bindsN fun _ _ _ _ _ _ us hl => match us, hl with | [_, _], _ => rfl)
theorem fo_Network_init {Ac : Cs} (T : Txt Ac K mg) (G_frame_fits : FnZ P w K mg base "frame_fits" 1 (S_frame_fits Ac)) (G_Network_edge_fits : MtZ P w K mg base Ac.c_Network "_edge_fits" 2 (S_Network_edge_fits Ac)) (G_Network_is_too_large : MtZ P w K mg base Ac.c_Network "_is_too_large" 2 (S_Network_is_too_large Ac)) {f : Addr} {fd : FuncData} (F : FunD K "__init__" "Network.__init__" (defArgs s_Network_init) (defBody s_Network_init) (defScope s_Network_init) [] [] f fd) : FnOk P w K mg base CX0 3 f fd ["self", "frames", "places", "edges"] (toSp K (S_Network_init Ac)) :=
  fn_z F sc_Network_init (S_Network_init Ac) (fun ds M kk h => by unfold S_Network_init at h; first | (obtain ⟨_, rfl, _⟩ := h; rfl) | (obtain ⟨_, _, rfl, _⟩ := h; rfl) | (obtain ⟨_, _, _, rfl, _⟩ := h; rfl) | (obtain ⟨_, _, _, _, rfl, _⟩ := h; rfl) | (obtain ⟨_, _, _, _, _, rfl, _⟩ := h; rfl) | (obtain ⟨_, _, _, _, _, _, rfl, _⟩ := h; rfl) | (obtain ⟨_, _, _, _, _, _, _, rfl, _⟩ := h; rfl) | (obtain ⟨_, _, _, _, _, _, _, _, rfl, _⟩ := h; rfl) | (obtain ⟨_, _, _, _, _, _, _, _, _, rfl, _⟩ := h; rfl) | (obtain ⟨_, _, _, _, _, _, _, _, _, _, rfl, _⟩ := h; rfl) | (obtain ⟨_, _, _, _, _, _, _, _, _, _, _, rfl, _⟩ := h; rfl) | (obtain ⟨_, _, _, _, _, _, _, _, _, _, _, _, rfl, _⟩ := h; rfl) | (obtain ⟨_, _, _, _, _, _, _, _, _, _, _, _, _, rfl, _⟩ := h; rfl) | (obtain ⟨_, _, _, _, _, _, _, _, _, _, _, _, _, _, rfl, _⟩ := h; rfl) | (obtain ⟨_, _, _, _, _, _, _, _, _, _, _, _, _, _, _, rfl, _⟩ := h; rfl)) (t_Network_init K Ac (S_frame_fits Ac) (S_Network_edge_fits Ac) (S_Network_is_too_large Ac)) (fun cdv A outer s H E hr => red_Network_init T (S_frame_fits Ac) (S_Network_edge_fits Ac) (S_Network_is_too_large Ac) G_frame_fits G_Network_edge_fits G_Network_is_too_large f cdv A outer s H E hr) (fun ds M kk h => z_Network_init T h)
theorem fn_Network_init {Ac : Cs} (T : Txt Ac K mg) (G_frame_fits : FnZ P w K mg base "frame_fits" 1 (S_frame_fits Ac)) (G_Network_edge_fits : MtZ P w K mg base Ac.c_Network "_edge_fits" 2 (S_Network_edge_fits Ac)) (G_Network_is_too_large : MtZ P w K mg base Ac.c_Network "_is_too_large" 2 (S_Network_is_too_large Ac)) {f : Addr} {fd : FuncData} (F : FunD K "__init__" "Network.__init__" (defArgs s_Network_init) (defBody s_Network_init) (defScope s_Network_init) [] [] f fd) (hm : mg "Network" = some (.ref Ac.c_Network)) (M : Mk K Ac.c_Network f) : MkZ P w K mg base "Network" Ac.c_Network 3 (S_Network_init Ac) := mkz_of hm M (fo_Network_init T G_frame_fits G_Network_edge_fits G_Network_is_too_large F) (F.bindsN fun _ _ _ _ _ _ us hl => match us, hl with | [_, _, _, _], _ => rfl)
theorem fo_law_arc {Ac : Cs} (T : Txt Ac K mg) (G_law_draw : FnZ P w K mg base "_law_draw" 1 (S_law_draw Ac)) (G_law_row : FnZ P w K mg base "_law_row" 2 (S_law_row Ac)) (G_Edge_init_2_sources_effect : MkKZ P w K mg base "Edge" Ac.c_Edge 1 2 ["sources", "effect"] (fun vs zs => vs ++ ((zs.drop 0).take 1 ++ ([Ac.d_Edge_init_guards] ++ ((zs.drop 1).take 1 ++ ([(V.str "plain")] ++ []))))) (S_Edge_init Ac)) {f : Addr} {fd : FuncData} (F : FunD K "_law_arc" "_law_arc" (defArgs s_law_arc) (defBody s_law_arc) (defScope s_law_arc) [] [] f fd) : FnOk P w K mg base CX0 3 f fd ["_law_purse_here", "_law_origins", "_law_aim"] (toSp K (S_law_arc Ac)) :=
  fn_z F sc_law_arc (S_law_arc Ac) (fun ds M kk h => by unfold S_law_arc at h; first | (obtain ⟨_, rfl, _⟩ := h; rfl) | (obtain ⟨_, _, rfl, _⟩ := h; rfl) | (obtain ⟨_, _, _, rfl, _⟩ := h; rfl) | (obtain ⟨_, _, _, _, rfl, _⟩ := h; rfl) | (obtain ⟨_, _, _, _, _, rfl, _⟩ := h; rfl) | (obtain ⟨_, _, _, _, _, _, rfl, _⟩ := h; rfl) | (obtain ⟨_, _, _, _, _, _, _, rfl, _⟩ := h; rfl) | (obtain ⟨_, _, _, _, _, _, _, _, rfl, _⟩ := h; rfl) | (obtain ⟨_, _, _, _, _, _, _, _, _, rfl, _⟩ := h; rfl) | (obtain ⟨_, _, _, _, _, _, _, _, _, _, rfl, _⟩ := h; rfl) | (obtain ⟨_, _, _, _, _, _, _, _, _, _, _, rfl, _⟩ := h; rfl) | (obtain ⟨_, _, _, _, _, _, _, _, _, _, _, _, rfl, _⟩ := h; rfl) | (obtain ⟨_, _, _, _, _, _, _, _, _, _, _, _, _, rfl, _⟩ := h; rfl) | (obtain ⟨_, _, _, _, _, _, _, _, _, _, _, _, _, _, rfl, _⟩ := h; rfl) | (obtain ⟨_, _, _, _, _, _, _, _, _, _, _, _, _, _, _, rfl, _⟩ := h; rfl)) (t_law_arc K Ac (S_law_draw Ac) (S_law_row Ac) (S_Edge_init Ac)) (fun cdv A outer s H E hr => red_law_arc T (S_law_draw Ac) (S_law_row Ac) (S_Edge_init Ac) G_law_draw G_law_row G_Edge_init_2_sources_effect f cdv A outer s H E hr) (fun ds M kk h => z_law_arc T h)
theorem fn_law_arc {Ac : Cs} (T : Txt Ac K mg) (G_law_draw : FnZ P w K mg base "_law_draw" 1 (S_law_draw Ac)) (G_law_row : FnZ P w K mg base "_law_row" 2 (S_law_row Ac)) (G_Edge_init_2_sources_effect : MkKZ P w K mg base "Edge" Ac.c_Edge 1 2 ["sources", "effect"] (fun vs zs => vs ++ ((zs.drop 0).take 1 ++ ([Ac.d_Edge_init_guards] ++ ((zs.drop 1).take 1 ++ ([(V.str "plain")] ++ []))))) (S_Edge_init Ac)) {f : Addr} {fd : FuncData} (F : FunD K "_law_arc" "_law_arc" (defArgs s_law_arc) (defBody s_law_arc) (defScope s_law_arc) [] [] f fd) (hm : mg "_law_arc" = some (.ref f)) : FnZ P w K mg base "_law_arc" 3 (S_law_arc Ac) := fnz_of F (fo_law_arc T G_law_draw G_law_row G_Edge_init_2_sources_effect F) hm (F.bindsN fun _ _ _ _ _ _ us hl => match us, hl with | [_, _, _], _ => rfl)
theorem fo_law_ties {Ac : Cs} (T : Txt Ac K mg) (G_law_draw : FnZ P w K mg base "_law_draw" 1 (S_law_draw Ac)) (G_law_order : FnZ P w K mg base "_law_order" 2 (S_law_order Ac)) (G_law_drawn : FnZ P w K mg base "_law_drawn" 2 (S_law_drawn Ac)) {f : Addr} {fd : FuncData} (F : FunD K "_law_ties" "_law_ties" (defArgs s_law_ties) (defBody s_law_ties) (defScope s_law_ties) [] [] f fd) : FnOk P w K mg base CX0 3 f fd ["_law_purse_here", "_law_count"] (toSp K (S_law_ties Ac)) :=
  fn_z F sc_law_ties (S_law_ties Ac) (fun ds M kk h => by unfold S_law_ties at h; first | (obtain ⟨_, rfl, _⟩ := h; rfl) | (obtain ⟨_, _, rfl, _⟩ := h; rfl) | (obtain ⟨_, _, _, rfl, _⟩ := h; rfl) | (obtain ⟨_, _, _, _, rfl, _⟩ := h; rfl) | (obtain ⟨_, _, _, _, _, rfl, _⟩ := h; rfl) | (obtain ⟨_, _, _, _, _, _, rfl, _⟩ := h; rfl) | (obtain ⟨_, _, _, _, _, _, _, rfl, _⟩ := h; rfl) | (obtain ⟨_, _, _, _, _, _, _, _, rfl, _⟩ := h; rfl) | (obtain ⟨_, _, _, _, _, _, _, _, _, rfl, _⟩ := h; rfl) | (obtain ⟨_, _, _, _, _, _, _, _, _, _, rfl, _⟩ := h; rfl) | (obtain ⟨_, _, _, _, _, _, _, _, _, _, _, rfl, _⟩ := h; rfl) | (obtain ⟨_, _, _, _, _, _, _, _, _, _, _, _, rfl, _⟩ := h; rfl) | (obtain ⟨_, _, _, _, _, _, _, _, _, _, _, _, _, rfl, _⟩ := h; rfl) | (obtain ⟨_, _, _, _, _, _, _, _, _, _, _, _, _, _, rfl, _⟩ := h; rfl) | (obtain ⟨_, _, _, _, _, _, _, _, _, _, _, _, _, _, _, rfl, _⟩ := h; rfl)) (t_law_ties K Ac (S_law_draw Ac) (S_law_order Ac) (S_law_drawn Ac)) (fun cdv A outer s H E hr => red_law_ties T (S_law_draw Ac) (S_law_order Ac) (S_law_drawn Ac) G_law_draw G_law_order G_law_drawn f cdv A outer s H E hr) (fun ds M kk h => z_law_ties T h)
theorem fn_law_ties {Ac : Cs} (T : Txt Ac K mg) (G_law_draw : FnZ P w K mg base "_law_draw" 1 (S_law_draw Ac)) (G_law_order : FnZ P w K mg base "_law_order" 2 (S_law_order Ac)) (G_law_drawn : FnZ P w K mg base "_law_drawn" 2 (S_law_drawn Ac)) {f : Addr} {fd : FuncData} (F : FunD K "_law_ties" "_law_ties" (defArgs s_law_ties) (defBody s_law_ties) (defScope s_law_ties) [] [] f fd) (hm : mg "_law_ties" = some (.ref f)) : FnZ P w K mg base "_law_ties" 3 (S_law_ties Ac) := fnz_of F (fo_law_ties T G_law_draw G_law_order G_law_drawn F) hm (F.bindsN fun _ _ _ _ _ _ us hl => match us, hl with | [_, _], _ => rfl)
theorem fo_law_given {Ac : Cs} (T : Txt Ac K mg) (G_law_order : FnZ P w K mg base "_law_order" 2 (S_law_order Ac)) (G_law_draw : FnZ P w K mg base "_law_draw" 1 (S_law_draw Ac)) {f : Addr} {fd : FuncData} (F : FunD K "_law_given" "_law_given" (defArgs s_law_given) (defBody s_law_given) (defScope s_law_given) [] [] f fd) : FnOk P w K mg base CX0 3 f fd ["_law_purse_here", "_law_count"] (toSp K (S_law_given Ac)) :=
  fn_z F sc_law_given (S_law_given Ac) (fun ds M kk h => by unfold S_law_given at h; first | (obtain ⟨_, rfl, _⟩ := h; rfl) | (obtain ⟨_, _, rfl, _⟩ := h; rfl) | (obtain ⟨_, _, _, rfl, _⟩ := h; rfl) | (obtain ⟨_, _, _, _, rfl, _⟩ := h; rfl) | (obtain ⟨_, _, _, _, _, rfl, _⟩ := h; rfl) | (obtain ⟨_, _, _, _, _, _, rfl, _⟩ := h; rfl) | (obtain ⟨_, _, _, _, _, _, _, rfl, _⟩ := h; rfl) | (obtain ⟨_, _, _, _, _, _, _, _, rfl, _⟩ := h; rfl) | (obtain ⟨_, _, _, _, _, _, _, _, _, rfl, _⟩ := h; rfl) | (obtain ⟨_, _, _, _, _, _, _, _, _, _, rfl, _⟩ := h; rfl) | (obtain ⟨_, _, _, _, _, _, _, _, _, _, _, rfl, _⟩ := h; rfl) | (obtain ⟨_, _, _, _, _, _, _, _, _, _, _, _, rfl, _⟩ := h; rfl) | (obtain ⟨_, _, _, _, _, _, _, _, _, _, _, _, _, rfl, _⟩ := h; rfl) | (obtain ⟨_, _, _, _, _, _, _, _, _, _, _, _, _, _, rfl, _⟩ := h; rfl) | (obtain ⟨_, _, _, _, _, _, _, _, _, _, _, _, _, _, _, rfl, _⟩ := h; rfl)) (t_law_given K Ac (S_law_order Ac) (S_law_draw Ac)) (fun cdv A outer s H E hr => red_law_given T (S_law_order Ac) (S_law_draw Ac) G_law_order G_law_draw f cdv A outer s H E hr) (fun ds M kk h => z_law_given T h)
theorem fn_law_given {Ac : Cs} (T : Txt Ac K mg) (G_law_order : FnZ P w K mg base "_law_order" 2 (S_law_order Ac)) (G_law_draw : FnZ P w K mg base "_law_draw" 1 (S_law_draw Ac)) {f : Addr} {fd : FuncData} (F : FunD K "_law_given" "_law_given" (defArgs s_law_given) (defBody s_law_given) (defScope s_law_given) [] [] f fd) (hm : mg "_law_given" = some (.ref f)) : FnZ P w K mg base "_law_given" 3 (S_law_given Ac) := fnz_of F (fo_law_given T G_law_order G_law_draw F) hm (F.bindsN fun _ _ _ _ _ _ us hl => match us, hl with | [_, _], _ => rfl)
theorem fo_Network_with_edge {Ac : Cs} (T : Txt Ac K mg) (G_Network_init : MkZ P w K mg base "Network" Ac.c_Network 3 (S_Network_init Ac)) {f : Addr} {fd : FuncData} (F : FunD K "with_edge" "Network.with_edge" (defArgs s_Network_with_edge) (defBody s_Network_with_edge) (defScope s_Network_with_edge) [] [] f fd) : FnOk P w K mg base CX0 5 f fd ["self", "number", "edge"] (toSp K (S_Network_with_edge Ac)) :=
  fn_z F sc_Network_with_edge (S_Network_with_edge Ac) (fun ds M kk h => by unfold S_Network_with_edge at h; first | (obtain ⟨_, rfl, _⟩ := h; rfl) | (obtain ⟨_, _, rfl, _⟩ := h; rfl) | (obtain ⟨_, _, _, rfl, _⟩ := h; rfl) | (obtain ⟨_, _, _, _, rfl, _⟩ := h; rfl) | (obtain ⟨_, _, _, _, _, rfl, _⟩ := h; rfl) | (obtain ⟨_, _, _, _, _, _, rfl, _⟩ := h; rfl) | (obtain ⟨_, _, _, _, _, _, _, rfl, _⟩ := h; rfl) | (obtain ⟨_, _, _, _, _, _, _, _, rfl, _⟩ := h; rfl) | (obtain ⟨_, _, _, _, _, _, _, _, _, rfl, _⟩ := h; rfl) | (obtain ⟨_, _, _, _, _, _, _, _, _, _, rfl, _⟩ := h; rfl) | (obtain ⟨_, _, _, _, _, _, _, _, _, _, _, rfl, _⟩ := h; rfl) | (obtain ⟨_, _, _, _, _, _, _, _, _, _, _, _, rfl, _⟩ := h; rfl) | (obtain ⟨_, _, _, _, _, _, _, _, _, _, _, _, _, rfl, _⟩ := h; rfl) | (obtain ⟨_, _, _, _, _, _, _, _, _, _, _, _, _, _, rfl, _⟩ := h; rfl) | (obtain ⟨_, _, _, _, _, _, _, _, _, _, _, _, _, _, _, rfl, _⟩ := h; rfl)) (t_Network_with_edge K Ac (S_Network_init Ac)) (fun cdv A outer s H E hr => red_Network_with_edge T (S_Network_init Ac) G_Network_init f cdv A outer s H E hr) (fun ds M kk h => z_Network_with_edge T h)
theorem fn_Network_with_edge {Ac : Cs} (T : Txt Ac K mg) (G_Network_init : MkZ P w K mg base "Network" Ac.c_Network 3 (S_Network_init Ac)) {f : Addr} {fd : FuncData} (F : FunD K "with_edge" "Network.with_edge" (defArgs s_Network_with_edge) (defBody s_Network_with_edge) (defScope s_Network_with_edge) [] [] f fd) (cl : Cls K Ac.c_Network) (hm : Meth K Ac.c_Network "with_edge" f) : MtZ P w K mg base Ac.c_Network "with_edge" 5 (S_Network_with_edge Ac) := mtz_of cl hm (fo_Network_with_edge T G_Network_init F) (F.bindsN fun _ _ _ _ _ _ us hl => match us, hl with | [_, _, _], _ => rfl)
theorem fo_Network_plus_edge {Ac : Cs} (T : Txt Ac K mg) (G_Network_init : MkZ P w K mg base "Network" Ac.c_Network 3 (S_Network_init Ac)) {f : Addr} {fd : FuncData} (F : FunD K "plus_edge" "Network.plus_edge" (defArgs s_Network_plus_edge) (defBody s_Network_plus_edge) (defScope s_Network_plus_edge) [] [] f fd) : FnOk P w K mg base CX0 5 f fd ["self", "edge"] (toSp K (S_Network_plus_edge Ac)) :=
  fn_z F sc_Network_plus_edge (S_Network_plus_edge Ac) (fun ds M kk h => by unfold S_Network_plus_edge at h; first | (obtain ⟨_, rfl, _⟩ := h; rfl) | (obtain ⟨_, _, rfl, _⟩ := h; rfl) | (obtain ⟨_, _, _, rfl, _⟩ := h; rfl) | (obtain ⟨_, _, _, _, rfl, _⟩ := h; rfl) | (obtain ⟨_, _, _, _, _, rfl, _⟩ := h; rfl) | (obtain ⟨_, _, _, _, _, _, rfl, _⟩ := h; rfl) | (obtain ⟨_, _, _, _, _, _, _, rfl, _⟩ := h; rfl) | (obtain ⟨_, _, _, _, _, _, _, _, rfl, _⟩ := h; rfl) | (obtain ⟨_, _, _, _, _, _, _, _, _, rfl, _⟩ := h; rfl) | (obtain ⟨_, _, _, _, _, _, _, _, _, _, rfl, _⟩ := h; rfl) | (obtain ⟨_, _, _, _, _, _, _, _, _, _, _, rfl, _⟩ := h; rfl) | (obtain ⟨_, _, _, _, _, _, _, _, _, _, _, _, rfl, _⟩ := h; rfl) | (obtain ⟨_, _, _, _, _, _, _, _, _, _, _, _, _, rfl, _⟩ := h; rfl) | (obtain ⟨_, _, _, _, _, _, _, _, _, _, _, _, _, _, rfl, _⟩ := h; rfl) | (obtain ⟨_, _, _, _, _, _, _, _, _, _, _, _, _, _, _, rfl, _⟩ := h; rfl)) (t_Network_plus_edge K Ac (S_Network_init Ac)) (fun cdv A outer s H E hr => red_Network_plus_edge T (S_Network_init Ac) G_Network_init f cdv A outer s H E hr) (fun ds M kk h => z_Network_plus_edge T h)
theorem fn_Network_plus_edge {Ac : Cs} (T : Txt Ac K mg) (G_Network_init : MkZ P w K mg base "Network" Ac.c_Network 3 (S_Network_init Ac)) {f : Addr} {fd : FuncData} (F : FunD K "plus_edge" "Network.plus_edge" (defArgs s_Network_plus_edge) (defBody s_Network_plus_edge) (defScope s_Network_plus_edge) [] [] f fd) (cl : Cls K Ac.c_Network) (hm : Meth K Ac.c_Network "plus_edge" f) : MtZ P w K mg base Ac.c_Network "plus_edge" 5 (S_Network_plus_edge Ac) := mtz_of cl hm (fo_Network_plus_edge T G_Network_init F) (F.bindsN fun _ _ _ _ _ _ us hl => match us, hl with | [_, _], _ => rfl)
theorem Sn0_law_same {Ac : Cs} {ds : List D} {M : Mem} {kk : D → Mem → Prop} (h : Sn_law_same Ac 0 ds M kk) : False := by
  unfold Sn_law_same at h
  obtain ⟨_, _, _, _, _, _, hm, _⟩ := h
  cases hm
theorem fn_law_same {Ac : Cs} (T : Txt Ac K mg) {f : Addr} {fd : FuncData} (F : FunD K "_law_same" "_law_same" (defArgs s_law_same) (defBody s_law_same) (defScope s_law_same) [] [] f fd) (hm : mg "_law_same" = some (.ref f)) : ∀ n_ : Nat, FnZ P w K mg base "_law_same" (1 + n_) (Sn_law_same Ac n_)
  | 0 => (fnz_of F (fn_z (k := 0) F sc_law_same (Sn_law_same Ac 0) (fun ds M kk h => by unfold Sn_law_same at h; first | (obtain ⟨_, rfl, _⟩ := h; rfl) | (obtain ⟨_, _, rfl, _⟩ := h; rfl) | (obtain ⟨_, _, _, rfl, _⟩ := h; rfl) | (obtain ⟨_, _, _, _, rfl, _⟩ := h; rfl) | (obtain ⟨_, _, _, _, _, rfl, _⟩ := h; rfl) | (obtain ⟨_, _, _, _, _, _, rfl, _⟩ := h; rfl) | (obtain ⟨_, _, _, _, _, _, _, rfl, _⟩ := h; rfl) | (obtain ⟨_, _, _, _, _, _, _, _, rfl, _⟩ := h; rfl) | (obtain ⟨_, _, _, _, _, _, _, _, _, rfl, _⟩ := h; rfl) | (obtain ⟨_, _, _, _, _, _, _, _, _, _, rfl, _⟩ := h; rfl) | (obtain ⟨_, _, _, _, _, _, _, _, _, _, _, rfl, _⟩ := h; rfl) | (obtain ⟨_, _, _, _, _, _, _, _, _, _, _, _, rfl, _⟩ := h; rfl) | (obtain ⟨_, _, _, _, _, _, _, _, _, _, _, _, _, rfl, _⟩ := h; rfl) | (obtain ⟨_, _, _, _, _, _, _, _, _, _, _, _, _, _, rfl, _⟩ := h; rfl) | (obtain ⟨_, _, _, _, _, _, _, _, _, _, _, _, _, _, _, rfl, _⟩ := h; rfl)) tNever (fun cdv A outer s H E hr => pss_never) (fun ds M kk h => (Sn0_law_same h).elim)) hm (F.bindsN fun _ _ _ _ _ _ us hl => match us, hl with | [_, _], _ => rfl)).up (by omega)
  | n_ + 1 => (fnz_of F (fn_z (k := 1 + n_) F sc_law_same (Sn_law_same Ac (n_ + 1)) (fun ds M kk h => by unfold Sn_law_same at h; first | (obtain ⟨_, rfl, _⟩ := h; rfl) | (obtain ⟨_, _, rfl, _⟩ := h; rfl) | (obtain ⟨_, _, _, rfl, _⟩ := h; rfl) | (obtain ⟨_, _, _, _, rfl, _⟩ := h; rfl) | (obtain ⟨_, _, _, _, _, rfl, _⟩ := h; rfl) | (obtain ⟨_, _, _, _, _, _, rfl, _⟩ := h; rfl) | (obtain ⟨_, _, _, _, _, _, _, rfl, _⟩ := h; rfl) | (obtain ⟨_, _, _, _, _, _, _, _, rfl, _⟩ := h; rfl) | (obtain ⟨_, _, _, _, _, _, _, _, _, rfl, _⟩ := h; rfl) | (obtain ⟨_, _, _, _, _, _, _, _, _, _, rfl, _⟩ := h; rfl) | (obtain ⟨_, _, _, _, _, _, _, _, _, _, _, rfl, _⟩ := h; rfl) | (obtain ⟨_, _, _, _, _, _, _, _, _, _, _, _, rfl, _⟩ := h; rfl) | (obtain ⟨_, _, _, _, _, _, _, _, _, _, _, _, _, rfl, _⟩ := h; rfl) | (obtain ⟨_, _, _, _, _, _, _, _, _, _, _, _, _, _, rfl, _⟩ := h; rfl) | (obtain ⟨_, _, _, _, _, _, _, _, _, _, _, _, _, _, _, rfl, _⟩ := h; rfl)) (t_law_same K Ac (Sn_law_same Ac n_)) (fun cdv A outer s H E hr => red_law_same T n_ (Sn_law_same Ac n_) (fn_law_same T F hm n_) f cdv A outer s H E hr) (fun ds M kk h => z_law_same T h)) hm (F.bindsN fun _ _ _ _ _ _ us hl => match us, hl with | [_, _], _ => rfl)).up (by omega)
theorem fo_law_asked {Ac : Cs} (T : Txt Ac K mg) (G_Network_hanging : MtZ P w K mg base Ac.c_Network "hanging" 2 (S_Network_hanging Ac)) (G_law_reach : FnZ P w K mg base "_law_reach" 1 (S_law_reach Ac)) (G_law_same : FnZ P w K mg base "_law_same" 11 (S_law_same Ac)) (G_Network_edges_into : MtZ P w K mg base Ac.c_Network "edges_into" 1 (S_Network_edges_into Ac)) {f : Addr} {fd : FuncData} (F : FunD K "_law_asked" "_law_asked" (defArgs s_law_asked) (defBody s_law_asked) (defScope s_law_asked) [] [] f fd) : FnOk P w K mg base CX0 12 f fd ["_law_network", "_law_ties_here", "_law_given_here", "_law_count"] (toSp K (S_law_asked Ac)) :=
  fn_z F sc_law_asked (S_law_asked Ac) (fun ds M kk h => by unfold S_law_asked at h; first | (obtain ⟨_, rfl, _⟩ := h; rfl) | (obtain ⟨_, _, rfl, _⟩ := h; rfl) | (obtain ⟨_, _, _, rfl, _⟩ := h; rfl) | (obtain ⟨_, _, _, _, rfl, _⟩ := h; rfl) | (obtain ⟨_, _, _, _, _, rfl, _⟩ := h; rfl) | (obtain ⟨_, _, _, _, _, _, rfl, _⟩ := h; rfl) | (obtain ⟨_, _, _, _, _, _, _, rfl, _⟩ := h; rfl) | (obtain ⟨_, _, _, _, _, _, _, _, rfl, _⟩ := h; rfl) | (obtain ⟨_, _, _, _, _, _, _, _, _, rfl, _⟩ := h; rfl) | (obtain ⟨_, _, _, _, _, _, _, _, _, _, rfl, _⟩ := h; rfl) | (obtain ⟨_, _, _, _, _, _, _, _, _, _, _, rfl, _⟩ := h; rfl) | (obtain ⟨_, _, _, _, _, _, _, _, _, _, _, _, rfl, _⟩ := h; rfl) | (obtain ⟨_, _, _, _, _, _, _, _, _, _, _, _, _, rfl, _⟩ := h; rfl) | (obtain ⟨_, _, _, _, _, _, _, _, _, _, _, _, _, _, rfl, _⟩ := h; rfl) | (obtain ⟨_, _, _, _, _, _, _, _, _, _, _, _, _, _, _, rfl, _⟩ := h; rfl)) (t_law_asked K Ac (S_Network_hanging Ac) (S_law_reach Ac) (S_law_same Ac) (S_Network_edges_into Ac)) (fun cdv A outer s H E hr => red_law_asked T (S_Network_hanging Ac) (S_law_reach Ac) (S_law_same Ac) (S_Network_edges_into Ac) G_Network_hanging G_law_reach G_law_same G_Network_edges_into f cdv A outer s H E hr) (fun ds M kk h => z_law_asked T h)
theorem fn_law_asked {Ac : Cs} (T : Txt Ac K mg) (G_Network_hanging : MtZ P w K mg base Ac.c_Network "hanging" 2 (S_Network_hanging Ac)) (G_law_reach : FnZ P w K mg base "_law_reach" 1 (S_law_reach Ac)) (G_law_same : FnZ P w K mg base "_law_same" 11 (S_law_same Ac)) (G_Network_edges_into : MtZ P w K mg base Ac.c_Network "edges_into" 1 (S_Network_edges_into Ac)) {f : Addr} {fd : FuncData} (F : FunD K "_law_asked" "_law_asked" (defArgs s_law_asked) (defBody s_law_asked) (defScope s_law_asked) [] [] f fd) (hm : mg "_law_asked" = some (.ref f)) : FnZ P w K mg base "_law_asked" 12 (S_law_asked Ac) := fnz_of F (fo_law_asked T G_Network_hanging G_law_reach G_law_same G_Network_edges_into F) hm (F.bindsN fun _ _ _ _ _ _ us hl => match us, hl with | [_, _, _, _], _ => rfl)
theorem slaw_ok {Ac : Cs} {ds : List D} {M : Mem} {kk : D → Mem → Prop} (h : SLaw ds M kk) : S_law Ac ds M kk := by
  obtain ⟨ns, rfl, rfl, hl, hk⟩ := h
  exact ⟨_, _, rfl, law_ok ns hl, hk _⟩
theorem fo_law {Ac : Cs} (T : Txt Ac K mg) (G_law_purse : FnZ P w K mg base "_law_purse" 1 (S_law_purse Ac)) (G_Frame_init : MkZ P w K mg base "Frame" Ac.c_Frame 1 (S_Frame_init Ac)) (G_law_draw : FnZ P w K mg base "_law_draw" 1 (S_law_draw Ac)) (G_law_ties : FnZ P w K mg base "_law_ties" 3 (S_law_ties Ac)) (G_law_arc : FnZ P w K mg base "_law_arc" 3 (S_law_arc Ac)) (G_Network_init : MkZ P w K mg base "Network" Ac.c_Network 3 (S_Network_init Ac)) (G_law_given : FnZ P w K mg base "_law_given" 3 (S_law_given Ac)) (G_law_asked : FnZ P w K mg base "_law_asked" 12 (S_law_asked Ac)) (G_law_drawn : FnZ P w K mg base "_law_drawn" 2 (S_law_drawn Ac)) (G_Network_with_edge : MtZ P w K mg base Ac.c_Network "with_edge" 5 (S_Network_with_edge Ac)) (G_Network_plus_edge : MtZ P w K mg base Ac.c_Network "plus_edge" 5 (S_Network_plus_edge Ac)) {f : Addr} {fd : FuncData} (F : FunD K "law" "law" (defArgs s_law) (defBody s_law) (defScope s_law) [] [] f fd) : FnOk P w K mg base CX0 13 f fd ["_law_script"] (toSp K SLaw) :=
  fn_z F sc_law SLaw (fun ds M kk h => by unfold SLaw at h; first | (obtain ⟨_, rfl, _⟩ := h; rfl) | (obtain ⟨_, _, rfl, _⟩ := h; rfl) | (obtain ⟨_, _, _, rfl, _⟩ := h; rfl) | (obtain ⟨_, _, _, _, rfl, _⟩ := h; rfl) | (obtain ⟨_, _, _, _, _, rfl, _⟩ := h; rfl) | (obtain ⟨_, _, _, _, _, _, rfl, _⟩ := h; rfl) | (obtain ⟨_, _, _, _, _, _, _, rfl, _⟩ := h; rfl) | (obtain ⟨_, _, _, _, _, _, _, _, rfl, _⟩ := h; rfl) | (obtain ⟨_, _, _, _, _, _, _, _, _, rfl, _⟩ := h; rfl) | (obtain ⟨_, _, _, _, _, _, _, _, _, _, rfl, _⟩ := h; rfl) | (obtain ⟨_, _, _, _, _, _, _, _, _, _, _, rfl, _⟩ := h; rfl) | (obtain ⟨_, _, _, _, _, _, _, _, _, _, _, _, rfl, _⟩ := h; rfl) | (obtain ⟨_, _, _, _, _, _, _, _, _, _, _, _, _, rfl, _⟩ := h; rfl) | (obtain ⟨_, _, _, _, _, _, _, _, _, _, _, _, _, _, rfl, _⟩ := h; rfl) | (obtain ⟨_, _, _, _, _, _, _, _, _, _, _, _, _, _, _, rfl, _⟩ := h; rfl)) (t_law K Ac (S_law_purse Ac) (S_Frame_init Ac) (S_law_draw Ac) (S_law_ties Ac) (S_law_arc Ac) (S_Network_init Ac) (S_law_given Ac) (S_law_asked Ac) (S_law_drawn Ac) (S_Network_with_edge Ac) (S_Network_plus_edge Ac)) (fun cdv A outer s H E hr => red_law T (S_law_purse Ac) (S_Frame_init Ac) (S_law_draw Ac) (S_law_ties Ac) (S_law_arc Ac) (S_Network_init Ac) (S_law_given Ac) (S_law_asked Ac) (S_law_drawn Ac) (S_Network_with_edge Ac) (S_Network_plus_edge Ac) G_law_purse G_Frame_init G_law_draw G_law_ties G_law_arc G_Network_init G_law_given G_law_asked G_law_drawn G_Network_with_edge G_Network_plus_edge f cdv A outer s H E hr) (fun ds M kk h => z_law T (slaw_ok h))
end
def d_Frame_init : He.DefD := ⟨("Frame", some "__init__"), "__init__", "Frame.__init__", defArgs s_Frame_init, defBody s_Frame_init, defScope s_Frame_init, [], []⟩
def d_frame_fits : He.DefD := ⟨("frame_fits", none), "frame_fits", "frame_fits", defArgs s_frame_fits, defBody s_frame_fits, defScope s_frame_fits, [], []⟩
def d_Edge_init : He.DefD := ⟨("Edge", some "__init__"), "__init__", "Edge.__init__", defArgs s_Edge_init, defBody s_Edge_init, defScope s_Edge_init, [], [("sources", He.Dv.adr (kwdAt ("Edge", some "__init__") "sources")), ("guards", He.Dv.adr (kwdAt ("Edge", some "__init__") "guards")), ("effect", He.Dv.adr (kwdAt ("Edge", some "__init__") "effect")), ("label", .str "plain")]⟩
def d_Network_init : He.DefD := ⟨("Network", some "__init__"), "__init__", "Network.__init__", defArgs s_Network_init, defBody s_Network_init, defScope s_Network_init, [], []⟩
def d_Network_edge_fits : He.DefD := ⟨("Network", some "_edge_fits"), "_edge_fits", "Network._edge_fits", defArgs s_Network_edge_fits, defBody s_Network_edge_fits, defScope s_Network_edge_fits, [], []⟩
def d_Network_is_too_large : He.DefD := ⟨("Network", some "_is_too_large"), "_is_too_large", "Network._is_too_large", defArgs s_Network_is_too_large, defBody s_Network_is_too_large, defScope s_Network_is_too_large, [], []⟩
def d_Network_variables_of : He.DefD := ⟨("Network", some "variables_of"), "variables_of", "Network.variables_of", defArgs s_Network_variables_of, defBody s_Network_variables_of, defScope s_Network_variables_of, [], []⟩
def d_Network_forms_of : He.DefD := ⟨("Network", some "forms_of"), "forms_of", "Network.forms_of", defArgs s_Network_forms_of, defBody s_Network_forms_of, defScope s_Network_forms_of, [], []⟩
def d_Network_edges_into : He.DefD := ⟨("Network", some "edges_into"), "edges_into", "Network.edges_into", defArgs s_Network_edges_into, defBody s_Network_edges_into, defScope s_Network_edges_into, [], []⟩
def d_Network_hanging : He.DefD := ⟨("Network", some "hanging"), "hanging", "Network.hanging", defArgs s_Network_hanging, defBody s_Network_hanging, defScope s_Network_hanging, [], []⟩
def d_Network_targets_from : He.DefD := ⟨("Network", some "_targets_from"), "_targets_from", "Network._targets_from", defArgs s_Network_targets_from, defBody s_Network_targets_from, defScope s_Network_targets_from, [], []⟩
def d_Network_with_edge : He.DefD := ⟨("Network", some "with_edge"), "with_edge", "Network.with_edge", defArgs s_Network_with_edge, defBody s_Network_with_edge, defScope s_Network_with_edge, [], []⟩
def d_Network_plus_edge : He.DefD := ⟨("Network", some "plus_edge"), "plus_edge", "Network.plus_edge", defArgs s_Network_plus_edge, defBody s_Network_plus_edge, defScope s_Network_plus_edge, [], []⟩
def d_law_purse : He.DefD := ⟨("_law_purse", none), "_law_purse", "_law_purse", defArgs s_law_purse, defBody s_law_purse, defScope s_law_purse, [], []⟩
def d_law_draw : He.DefD := ⟨("_law_draw", none), "_law_draw", "_law_draw", defArgs s_law_draw, defBody s_law_draw, defScope s_law_draw, [], []⟩
def d_law_same : He.DefD := ⟨("_law_same", none), "_law_same", "_law_same", defArgs s_law_same, defBody s_law_same, defScope s_law_same, [], []⟩
def d_law_order : He.DefD := ⟨("_law_order", none), "_law_order", "_law_order", defArgs s_law_order, defBody s_law_order, defScope s_law_order, [], []⟩
def d_law_row : He.DefD := ⟨("_law_row", none), "_law_row", "_law_row", defArgs s_law_row, defBody s_law_row, defScope s_law_row, [], []⟩
def d_law_arc : He.DefD := ⟨("_law_arc", none), "_law_arc", "_law_arc", defArgs s_law_arc, defBody s_law_arc, defScope s_law_arc, [], []⟩
def d_law_drawn : He.DefD := ⟨("_law_drawn", none), "_law_drawn", "_law_drawn", defArgs s_law_drawn, defBody s_law_drawn, defScope s_law_drawn, [], []⟩
def d_law_ties : He.DefD := ⟨("_law_ties", none), "_law_ties", "_law_ties", defArgs s_law_ties, defBody s_law_ties, defScope s_law_ties, [], []⟩
def d_law_reach : He.DefD := ⟨("_law_reach", none), "_law_reach", "_law_reach", defArgs s_law_reach, defBody s_law_reach, defScope s_law_reach, [], []⟩
def d_law_asked : He.DefD := ⟨("_law_asked", none), "_law_asked", "_law_asked", defArgs s_law_asked, defBody s_law_asked, defScope s_law_asked, [], []⟩
def d_law_given : He.DefD := ⟨("_law_given", none), "_law_given", "_law_given", defArgs s_law_given, defBody s_law_given, defScope s_law_given, [], []⟩
def d_law : He.DefD := ⟨("law", none), "law", "law", defArgs s_law, defBody s_law, defScope s_law, [], []⟩
def fn_ : List He.DefD := [d_Frame_init, d_frame_fits, d_Edge_init, d_Network_init, d_Network_edge_fits, d_Network_is_too_large, d_Network_variables_of, d_Network_forms_of, d_Network_edges_into, d_Network_hanging, d_Network_targets_from, d_Network_with_edge, d_Network_plus_edge, d_law_purse, d_law_draw, d_law_same, d_law_order, d_law_row, d_law_arc, d_law_drawn, d_law_ties, d_law_reach, d_law_asked, d_law_given, d_law]
def fa_ : List He.Fa := [.glo "frame_fits", .glo "_law_purse", .glo "_law_draw", .glo "_law_same", .glo "_law_order", .glo "_law_row", .glo "_law_arc", .glo "_law_drawn", .glo "_law_ties", .glo "_law_reach", .glo "_law_asked", .glo "_law_given", .glo "law", .glo "Edge", .glo "Frame", .glo "Network", .cls "Edge", .cls "Frame", .cls "Network", .noat "Network" "edges", .noat "Edge" "effect", .noat "Frame" "forms", .noat "Network" "frames", .noat "Edge" "guards", .noat "Edge" "label", .noat "Frame" "name", .noat "Network" "places", .noat "Edge" "sources", .noat "Edge" "target", .noat "Edge" "unknowns", .noat "Frame" "variables", .meth "Network" "_edge_fits", .meth "Network" "_is_too_large", .meth "Network" "variables_of", .meth "Network" "forms_of", .meth "Network" "_targets_from", .meth "Network" "hanging", .meth "Network" "edges_into", .meth "Network" "with_edge", .meth "Network" "plus_edge", .mkr "Edge", .mkr "Frame", .mkr "Network", .free "abs", .free "all", .free "any", .free "bool", .free "enumerate", .free "int", .free "isinstance", .free "len", .free "list", .free "range", .free "set", .free "str", .free "tuple"]
def cconB (K : PySem.W.Frag) (x f : Str) (v : V) : Bool := PySem.W.readsIn K (He.ga K x) (.type "type") && (He.eqO (PySem.W.specialIn K (.ref (He.ga K x)) "__getattribute__") (some (some (.builtin "type.__getattribute__"))) && (match PySem.W.findCls K (.ref (He.ga K x)) (.type "type") f with
  | some (.val u) => He.relB v u
  | _ => false))
theorem ccon_ok {K : PySem.W.Frag} {mg : Str → Option Value} {x f : Str} {v : V} (hm : mg x = some (.ref (He.ga K x))) (h : cconB K x f v = true) : CCon K mg x (He.ga K x) f v := by
  obtain ⟨h1, h⟩ := He.ba h
  obtain ⟨h2, h⟩ := He.ba h
  cases e : PySem.W.findCls K (.ref (He.ga K x)) (.type "type") f with
  | none => rw [e] at h; cases h
  | some r =>
    rw [e] at h
    cases r with
    | val u => exact ⟨hm, .type "type", u, ⟨h1, He.eqO_ok h2⟩, ⟨e, He.relB_ok h⟩⟩
    | _ => cases h
def xs_ : List (PySem.W.Frag → Bool) := [(fun K => atB K (kwdAt ("Edge", some "__init__") "guards" K) (D.tup [])), (fun K => cconB K "Edge" "MOST_CONSTRAINTS" (V.int 20)), (fun K => cconB K "Edge" "MOST_UNKNOWNS" (V.int 5))]
def bs_ : List (Str × String) := []
def cs_ : List (Str × D) := []
abbrev R_ : PySem.W.OpenRow := PySem.W.OpenLaw.row PySem.Challenge.rw_leaprungs_k14_hanging_places
def names_ : List PySem.Str := (["_wall", "LeapError", "InvalidNetwork", "TooLarge", "unit_row", "Frame", "frame_fits", "Edge", "Network", "_law_purse", "_law_draw", "_law_same", "_law_order", "_law_row", "_law_arc", "_law_drawn"] : List PySem.Str) ++ (["_law_ties", "_law_reach", "_law_asked", "_law_given"] : List PySem.Str)
abbrev hk_ : PySem.W.Hook := hookX 8 fa_ fn_ bs_ cs_ xs_
def ob_ (s : PySem.W.SharedT) : He.AlD × Bool := obsXG 8 fa_ fn_ bs_ cs_ xs_ (HandSHeadRun.getT s)
theorem ob_eq_ (s : PySem.W.SharedT) : ob_ s = hk_.obs s.abs := obsXG_eq (HandSHeadRun.getT_eq s)
theorem run_ (w : World) : HandSHeadRun.RunEq R_ (PySem.W.view R_.prog [23]) hk_ ob_ 4000 names_ w := by
  intro os
  kernel_rfl
theorem facts_ {P : Program} {w : World} {K : PySem.W.Frag} {h : Heap} {mg : Str → Option Value} {f : Addr} (X : K.In h) (G : h.Ns mainGlobals mg) (hfa : mg ("law" : Str) = some (.ref f)) (c : He.SaysD fa_ fn_ K) (cb : ((bfOk bs_ K && csOk cs_ K) && xs_.all fun x => x K) = true) :
    ∃ fd : FuncData, (∀ (s : Shared) (v : Value), BindsTo s fd ⟨[v], []⟩ [("_law_script", v)]) ∧ ∀ base : Heap, K.In base → base.Ns mainGlobals mg → FnOk P w K mg base CX0 13 f fd ["_law_script"] (toSp K SLaw) := by
  obtain ⟨fd_Frame_init, F_Frame_init⟩ := c.def_ 0 (d := d_Frame_init) rfl
  obtain ⟨fd_frame_fits, F_frame_fits⟩ := c.def_ 1 (d := d_frame_fits) rfl
  have g_frame_fits := He.glo_ok X G (c.fact 0 (f := .glo "frame_fits") rfl)
  obtain ⟨fd_Edge_init, F_Edge_init⟩ := c.def_ 2 (d := d_Edge_init) rfl
  obtain ⟨fd_Network_init, F_Network_init⟩ := c.def_ 3 (d := d_Network_init) rfl
  obtain ⟨fd_Network_edge_fits, F_Network_edge_fits⟩ := c.def_ 4 (d := d_Network_edge_fits) rfl
  obtain ⟨fd_Network_is_too_large, F_Network_is_too_large⟩ := c.def_ 5 (d := d_Network_is_too_large) rfl
  obtain ⟨fd_Network_variables_of, F_Network_variables_of⟩ := c.def_ 6 (d := d_Network_variables_of) rfl
  obtain ⟨fd_Network_forms_of, F_Network_forms_of⟩ := c.def_ 7 (d := d_Network_forms_of) rfl
  obtain ⟨fd_Network_edges_into, F_Network_edges_into⟩ := c.def_ 8 (d := d_Network_edges_into) rfl
  obtain ⟨fd_Network_hanging, F_Network_hanging⟩ := c.def_ 9 (d := d_Network_hanging) rfl
  obtain ⟨fd_Network_targets_from, F_Network_targets_from⟩ := c.def_ 10 (d := d_Network_targets_from) rfl
  obtain ⟨fd_Network_with_edge, F_Network_with_edge⟩ := c.def_ 11 (d := d_Network_with_edge) rfl
  obtain ⟨fd_Network_plus_edge, F_Network_plus_edge⟩ := c.def_ 12 (d := d_Network_plus_edge) rfl
  obtain ⟨fd_law_purse, F_law_purse⟩ := c.def_ 13 (d := d_law_purse) rfl
  have g_law_purse := He.glo_ok X G (c.fact 1 (f := .glo "_law_purse") rfl)
  obtain ⟨fd_law_draw, F_law_draw⟩ := c.def_ 14 (d := d_law_draw) rfl
  have g_law_draw := He.glo_ok X G (c.fact 2 (f := .glo "_law_draw") rfl)
  obtain ⟨fd_law_same, F_law_same⟩ := c.def_ 15 (d := d_law_same) rfl
  have g_law_same := He.glo_ok X G (c.fact 3 (f := .glo "_law_same") rfl)
  obtain ⟨fd_law_order, F_law_order⟩ := c.def_ 16 (d := d_law_order) rfl
  have g_law_order := He.glo_ok X G (c.fact 4 (f := .glo "_law_order") rfl)
  obtain ⟨fd_law_row, F_law_row⟩ := c.def_ 17 (d := d_law_row) rfl
  have g_law_row := He.glo_ok X G (c.fact 5 (f := .glo "_law_row") rfl)
  obtain ⟨fd_law_arc, F_law_arc⟩ := c.def_ 18 (d := d_law_arc) rfl
  have g_law_arc := He.glo_ok X G (c.fact 6 (f := .glo "_law_arc") rfl)
  obtain ⟨fd_law_drawn, F_law_drawn⟩ := c.def_ 19 (d := d_law_drawn) rfl
  have g_law_drawn := He.glo_ok X G (c.fact 7 (f := .glo "_law_drawn") rfl)
  obtain ⟨fd_law_ties, F_law_ties⟩ := c.def_ 20 (d := d_law_ties) rfl
  have g_law_ties := He.glo_ok X G (c.fact 8 (f := .glo "_law_ties") rfl)
  obtain ⟨fd_law_reach, F_law_reach⟩ := c.def_ 21 (d := d_law_reach) rfl
  have g_law_reach := He.glo_ok X G (c.fact 9 (f := .glo "_law_reach") rfl)
  obtain ⟨fd_law_asked, F_law_asked⟩ := c.def_ 22 (d := d_law_asked) rfl
  have g_law_asked := He.glo_ok X G (c.fact 10 (f := .glo "_law_asked") rfl)
  obtain ⟨fd_law_given, F_law_given⟩ := c.def_ 23 (d := d_law_given) rfl
  have g_law_given := He.glo_ok X G (c.fact 11 (f := .glo "_law_given") rfl)
  obtain ⟨fd_law, F_law⟩ := c.def_ 24 (d := d_law) rfl
  have g_law := He.glo_ok X G (c.fact 12 (f := .glo "law") rfl)
  obtain ⟨cb, cx⟩ := (Bool.and_eq_true _ _).mp cb
  obtain ⟨cb, cc⟩ := (Bool.and_eq_true _ _).mp cb
  have T : Txt ⟨He.ga K "Edge", He.ga K "Frame", He.ga K "Network", .ref (kwdAt ("Edge", some "__init__") "guards" K)⟩ K mg := ⟨He.free_ok X G (c.fact 43 (f := .free "abs") rfl),
    He.free_ok X G (c.fact 44 (f := .free "all") rfl),
    He.free_ok X G (c.fact 45 (f := .free "any") rfl),
    He.free_ok X G (c.fact 46 (f := .free "bool") rfl),
    He.free_ok X G (c.fact 47 (f := .free "enumerate") rfl),
    He.free_ok X G (c.fact 48 (f := .free "int") rfl),
    He.free_ok X G (c.fact 49 (f := .free "isinstance") rfl),
    He.free_ok X G (c.fact 50 (f := .free "len") rfl),
    He.free_ok X G (c.fact 51 (f := .free "list") rfl),
    He.free_ok X G (c.fact 52 (f := .free "range") rfl),
    He.free_ok X G (c.fact 53 (f := .free "set") rfl),
    He.free_ok X G (c.fact 54 (f := .free "str") rfl),
    He.free_ok X G (c.fact 55 (f := .free "tuple") rfl),
    (by
      intro C hC
      simp only [List.mem_cons, List.not_mem_nil, or_false] at hC
      subst hC
      · exact ⟨He.cls_ok (c.fact 18 (f := .cls "Network") rfl), He.noat_ok (c.fact 19 (f := .noat "Network" "edges") rfl)⟩),
    (by
      intro C hC
      simp only [List.mem_cons, List.not_mem_nil, or_false] at hC
      subst hC
      · exact ⟨He.cls_ok (c.fact 16 (f := .cls "Edge") rfl), He.noat_ok (c.fact 20 (f := .noat "Edge" "effect") rfl)⟩),
    (by
      intro C hC
      simp only [List.mem_cons, List.not_mem_nil, or_false] at hC
      subst hC
      · exact ⟨He.cls_ok (c.fact 17 (f := .cls "Frame") rfl), He.noat_ok (c.fact 21 (f := .noat "Frame" "forms") rfl)⟩),
    (by
      intro C hC
      simp only [List.mem_cons, List.not_mem_nil, or_false] at hC
      subst hC
      · exact ⟨He.cls_ok (c.fact 18 (f := .cls "Network") rfl), He.noat_ok (c.fact 22 (f := .noat "Network" "frames") rfl)⟩),
    (by
      intro C hC
      simp only [List.mem_cons, List.not_mem_nil, or_false] at hC
      subst hC
      · exact ⟨He.cls_ok (c.fact 16 (f := .cls "Edge") rfl), He.noat_ok (c.fact 23 (f := .noat "Edge" "guards") rfl)⟩),
    (by
      intro C hC
      simp only [List.mem_cons, List.not_mem_nil, or_false] at hC
      subst hC
      · exact ⟨He.cls_ok (c.fact 16 (f := .cls "Edge") rfl), He.noat_ok (c.fact 24 (f := .noat "Edge" "label") rfl)⟩),
    (by
      intro C hC
      simp only [List.mem_cons, List.not_mem_nil, or_false] at hC
      subst hC
      · exact ⟨He.cls_ok (c.fact 17 (f := .cls "Frame") rfl), He.noat_ok (c.fact 25 (f := .noat "Frame" "name") rfl)⟩),
    (by
      intro C hC
      simp only [List.mem_cons, List.not_mem_nil, or_false] at hC
      subst hC
      · exact ⟨He.cls_ok (c.fact 18 (f := .cls "Network") rfl), He.noat_ok (c.fact 26 (f := .noat "Network" "places") rfl)⟩),
    (by
      intro C hC
      simp only [List.mem_cons, List.not_mem_nil, or_false] at hC
      subst hC
      · exact ⟨He.cls_ok (c.fact 16 (f := .cls "Edge") rfl), He.noat_ok (c.fact 27 (f := .noat "Edge" "sources") rfl)⟩),
    (by
      intro C hC
      simp only [List.mem_cons, List.not_mem_nil, or_false] at hC
      subst hC
      · exact ⟨He.cls_ok (c.fact 16 (f := .cls "Edge") rfl), He.noat_ok (c.fact 28 (f := .noat "Edge" "target") rfl)⟩),
    (by
      intro C hC
      simp only [List.mem_cons, List.not_mem_nil, or_false] at hC
      subst hC
      · exact ⟨He.cls_ok (c.fact 16 (f := .cls "Edge") rfl), He.noat_ok (c.fact 29 (f := .noat "Edge" "unknowns") rfl)⟩),
    (by
      intro C hC
      simp only [List.mem_cons, List.not_mem_nil, or_false] at hC
      subst hC
      · exact ⟨He.cls_ok (c.fact 17 (f := .cls "Frame") rfl), He.noat_ok (c.fact 30 (f := .noat "Frame" "variables") rfl)⟩),
    ccon_ok (He.glo_ok X G (c.fact 13 (f := .glo "Edge") rfl)) (List.all_eq_true.mp cx _ (List.mem_of_getElem? (i := 1) rfl)),
    ccon_ok (He.glo_ok X G (c.fact 13 (f := .glo "Edge") rfl)) (List.all_eq_true.mp cx _ (List.mem_of_getElem? (i := 2) rfl)),
    at_ok (List.all_eq_true.mp cx _ (List.mem_of_getElem? (i := 0) rfl))⟩
  have e := hfa.symm.trans g_law
  cases e
  have b := FunD.bindsA (ps := ["_law_script"]) F_law fun _ _ _ _ _ _ us hl => match us, hl with | [_], _ => rfl
  refine ⟨fd_law, fun s v => b s [v] rfl, fun base _ _ => ?_⟩
  have G_Frame_init := fn_Frame_init (P := P) (w := w) (base := base) T F_Frame_init (He.glo_ok X G (c.fact 14 (f := .glo "Frame") rfl)) (He.mkr_ok (c.fact 41 (f := .mkr "Frame") rfl))
  have G_frame_fits := fn_frame_fits (P := P) (w := w) (base := base) T F_frame_fits g_frame_fits
  have G_Edge_init_2_sources_effect := fn_Edge_init_2_sources_effect (P := P) (w := w) (base := base) T F_Edge_init (He.glo_ok X G (c.fact 13 (f := .glo "Edge") rfl)) (He.mkr_ok (c.fact 40 (f := .mkr "Edge") rfl))
  have G_Network_variables_of := fn_Network_variables_of (P := P) (w := w) (base := base) T F_Network_variables_of (He.cls_ok (c.fact 18 (f := .cls "Network") rfl)) (He.meth_ok (c.fact 33 (f := .meth "Network" "variables_of") rfl))
  have G_Network_forms_of := fn_Network_forms_of (P := P) (w := w) (base := base) T F_Network_forms_of (He.cls_ok (c.fact 18 (f := .cls "Network") rfl)) (He.meth_ok (c.fact 34 (f := .meth "Network" "forms_of") rfl))
  have G_Network_edges_into := fn_Network_edges_into (P := P) (w := w) (base := base) T F_Network_edges_into (He.cls_ok (c.fact 18 (f := .cls "Network") rfl)) (He.meth_ok (c.fact 37 (f := .meth "Network" "edges_into") rfl))
  have G_Network_targets_from := fn_Network_targets_from (P := P) (w := w) (base := base) T F_Network_targets_from (He.cls_ok (c.fact 18 (f := .cls "Network") rfl)) (He.meth_ok (c.fact 35 (f := .meth "Network" "_targets_from") rfl))
  have G_law_purse := fn_law_purse (P := P) (w := w) (base := base) T F_law_purse g_law_purse
  have G_law_draw := fn_law_draw (P := P) (w := w) (base := base) T F_law_draw g_law_draw
  have G_law_reach := fn_law_reach (P := P) (w := w) (base := base) T F_law_reach g_law_reach
  have G_Network_edge_fits := fn_Network_edge_fits (P := P) (w := w) (base := base) T G_Network_variables_of F_Network_edge_fits (He.cls_ok (c.fact 18 (f := .cls "Network") rfl)) (He.meth_ok (c.fact 31 (f := .meth "Network" "_edge_fits") rfl))
  have G_Network_is_too_large := fn_Network_is_too_large (P := P) (w := w) (base := base) T G_Network_forms_of F_Network_is_too_large (He.cls_ok (c.fact 18 (f := .cls "Network") rfl)) (He.meth_ok (c.fact 32 (f := .meth "Network" "_is_too_large") rfl))
  have G_Network_hanging := fn_Network_hanging (P := P) (w := w) (base := base) T G_Network_targets_from F_Network_hanging (He.cls_ok (c.fact 18 (f := .cls "Network") rfl)) (He.meth_ok (c.fact 36 (f := .meth "Network" "hanging") rfl))
  have G_law_order := fn_law_order (P := P) (w := w) (base := base) T G_law_draw F_law_order g_law_order
  have G_law_row := fn_law_row (P := P) (w := w) (base := base) T G_law_draw F_law_row g_law_row
  have G_law_drawn := fn_law_drawn (P := P) (w := w) (base := base) T G_law_draw F_law_drawn g_law_drawn
  have G_Network_init := fn_Network_init (P := P) (w := w) (base := base) T G_frame_fits G_Network_edge_fits G_Network_is_too_large F_Network_init (He.glo_ok X G (c.fact 15 (f := .glo "Network") rfl)) (He.mkr_ok (c.fact 42 (f := .mkr "Network") rfl))
  have G_law_arc := fn_law_arc (P := P) (w := w) (base := base) T G_law_draw G_law_row G_Edge_init_2_sources_effect F_law_arc g_law_arc
  have G_law_ties := fn_law_ties (P := P) (w := w) (base := base) T G_law_draw G_law_order G_law_drawn F_law_ties g_law_ties
  have G_law_given := fn_law_given (P := P) (w := w) (base := base) T G_law_order G_law_draw F_law_given g_law_given
  have G_Network_with_edge := fn_Network_with_edge (P := P) (w := w) (base := base) T G_Network_init F_Network_with_edge (He.cls_ok (c.fact 18 (f := .cls "Network") rfl)) (He.meth_ok (c.fact 38 (f := .meth "Network" "with_edge") rfl))
  have G_Network_plus_edge := fn_Network_plus_edge (P := P) (w := w) (base := base) T G_Network_init F_Network_plus_edge (He.cls_ok (c.fact 18 (f := .cls "Network") rfl)) (He.meth_ok (c.fact 39 (f := .meth "Network" "plus_edge") rfl))
  have G_law_same := fn_law_same (P := P) (w := w) (base := base) T F_law_same g_law_same 10
  have G_law_asked := fn_law_asked (P := P) (w := w) (base := base) T G_Network_hanging G_law_reach G_law_same G_Network_edges_into F_law_asked g_law_asked
  exact fo_law T G_law_purse G_Frame_init G_law_draw G_law_ties G_law_arc G_Network_init G_law_given G_law_asked G_law_drawn G_Network_with_edge G_Network_plus_edge F_law
end Qk14
open PySem PySem.W PySem.Calls PyProof.Rows
theorem PySem.Challenge.cw_leaprungs_k14_hanging_places_holds : PySem.Challenge.rw_leaprungs_k14_hanging_places.Holds := by
  w_on; o_law
  refine HandSHeadRun.head_any (r := OpenLaw.row PySem.Challenge.rw_leaprungs_k14_hanging_places) (q := view (OpenLaw.row PySem.Challenge.rw_leaprungs_k14_hanging_places).prog [23]) (H := Qk14.hk_) (ob := Qk14.ob_) (M := 4000) (loose := Qk14.names_) (d := HandSHeadRun.topDef (OpenLaw.row PySem.Challenge.rw_leaprungs_k14_hanging_places).prog 23) (kwd := []) Qk14.ob_eq_
    (by kernel_rfl) (fun s => by kernel_rfl) Qk14.run_ (by kernel_rfl) (by kernel_rfl) (by kernel_rfl) (by rfl) (by first | assumption | decide +kernel) (by decide +kernel) ⟨rfl, rfl, rfl, rfl, rfl, by decide +kernel⟩ ?hw ?hc
  case hw => w_witness2
  case hc =>
    refine L2.walk_ofE (l := PySem.Challenge.rw_leaprungs_k14_hanging_places) (n := 63) (k := 13) (x := "_law_script") (CX := L2.CX0) rfl (by decide) (by kernel_rfl) ⟨rfl, by decide, by decide⟩ ?F (fun _ _ _ _ z => z)
    intro w mg fa h Y G hmg0
    obtain ⟨K, KX, c, cb⟩ := Y
    have hmg : mg ("law" : PySem.Str) = some (.ref fa) := by
      have e : (HandSHeadRun.topDef (OpenLaw.row PySem.Challenge.rw_leaprungs_k14_hanging_places).prog 23).name = ("law" : PySem.Str) := by kernel_rfl
      rw [← e]
      exact hmg0
    obtain ⟨fd, hb, hF⟩ := Qk14.facts_ (P := (PySem.Challenge.rw_leaprungs_k14_hanging_places).prog) (w := w) KX G hmg c cb
    exact ⟨K, fd, Z.toSp K Z.SLaw, KX, hb, fun H a ns hl _ hS => Z.law_sp hl hS, hF⟩
