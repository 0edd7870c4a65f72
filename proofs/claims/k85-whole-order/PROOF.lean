import PyProof.Rows.All
import Wide.All
import OpenK.AllK
import Wide.FinOn
import HandS.ForMost
import HandS.Evl
import HandS.Walk
import HandS.Codes
import HandS.Flow
import HandS.Style
import HandS.DictComp
import HandS.SortInts
import HandS.SortRule
import HandS.IsInst
import HandS.Deep
import HandS.Defaults
import HandS.Wide
import HandS.Zip
import HandS.SortKw
import HandS.HeadHook1
import HandS.HeadHook2
import KE.GoesEnum
import KE.GoesEnumKw
import HandS.Iter
import KE.DataMinMax
import PyProof.ReprRoads
import KE.KDictZip
import KE.KDictItemsList
import HandS.ListItems
import HandS.Ends
import HandS.HeadEnd
import KE.KStateDown
import HandS.Head0
import HandS.Head1
import HandS.Head2
import PySem.Challenge.RW_growblind_k85_whole_order_of_least_polic
set_option Elab.async false
set_option linter.all false
set_option maxRecDepth 100000
set_option maxHeartbeats 4000000
/-! A layer of data: values by what they hold, worlds with a base that only grows and lists that are being built. -/
namespace GB
open PySem PySem.Spec PyProof.Rows L2
open Evl (Ex)

/-! ### data -/
mutual
inductive Da (K : PySem.W.Frag) (H : Hp) : V → PyData → Prop
  | non : Da K H .non .none
  | bl (b : Bool) : Da K H (.bl b) (.bool b)
  | int (i : Int) : Da K H (.int i) (.int i)
  | str (x : Str) : Da K H (.str x) (.str x)
  | lst {a : Addr} {xs : List V} {ds : List PyData} : H a = some (.lst xs) → DaL K H xs ds → Da K H (.ref a) (.list ds)
  | tup {a : Addr} {xs : List V} {ds : List PyData} : H a = some (.tup xs) → DaL K H xs ds → Da K H (.ref a) (.tuple ds)
  | endl {a : Addr} : (∀ H, SqT K H a [.str "endless"]) → Da K H (.ref a) (.tuple [.str "endless"])
inductive DaL (K : PySem.W.Frag) (H : Hp) : List V → List PyData → Prop
  | nil : DaL K H [] []
  | cons {v : V} {vs : List V} {d : PyData} {ds : List PyData} : Da K H v d → DaL K H vs ds → DaL K H (v :: vs) (d :: ds)
end
section
variable {K : PySem.W.Frag} {H H' : Hp}
mutual
theorem Da.mono (e : Ex H H') : ∀ {v : V} {d : PyData}, Da K H v d → Da K H' v d
  | _, _, .non => .non
  | _, _, .bl b => .bl b
  | _, _, .int i => .int i
  | _, _, .str x => .str x
  | _, _, .lst h r => .lst (e _ _ h) (DaL.mono e r)
  | _, _, .tup h r => .tup (e _ _ h) (DaL.mono e r)
  | _, _, .endl h => .endl h
theorem DaL.mono (e : Ex H H') : ∀ {vs : List V} {ds : List PyData}, DaL K H vs ds → DaL K H' vs ds
  | _, _, .nil => .nil
  | _, _, .cons h r => .cons (Da.mono e h) (DaL.mono e r)
end
mutual
theorem Da.dp : ∀ {v : V} {d : PyData}, Da K H v d → Dp K H v d
  | _, _, .non => .non
  | _, _, .bl b => .bl b
  | _, _, .int i => .int i
  | _, _, .str x => .str x
  | _, _, .lst h r => .lst (SqL.of h) (DaL.dp r)
  | _, _, .tup h r => .tup (SqT.of h) (DaL.dp r)
  | _, _, .endl h => .tup (h H) (.cons (.str _) .nil)
theorem DaL.dp : ∀ {vs : List V} {ds : List PyData}, DaL K H vs ds → DpAll K H vs ds
  | _, _, .nil => .nil
  | _, _, .cons h r => .cons (Da.dp h) (DaL.dp r)
end
theorem Da.int_eq {v : V} {i : Int} (h : Da K H v (.int i)) : v = .int i := by
  cases h
  rfl
theorem Da.bl_eq {v : V} {b : Bool} (h : Da K H v (.bool b)) : v = .bl b := by
  cases h
  rfl
theorem Da.str_eq {v : V} {x : Str} (h : Da K H v (.str x)) : v = .str x := by
  cases h
  rfl
theorem Da.non_eq {v : V} (h : Da K H v .none) : v = .non := by
  cases h
  rfl
theorem Da.lst_inv {v : V} {ds : List PyData} (h : Da K H v (.list ds)) : ∃ a xs, v = .ref a ∧ H a = some (.lst xs) ∧ DaL K H xs ds := by
  cases h with
  | lst h r => exact ⟨_, _, rfl, h, r⟩
theorem Da.tup_inv {v : V} {ds : List PyData} (h : Da K H v (.tuple ds)) : ∃ a xs, v = .ref a ∧ SqT K H a xs ∧ DaL K H xs ds := by
  cases h with
  | tup h r => exact ⟨_, _, rfl, SqT.of h, r⟩
  | endl h => exact ⟨_, _, rfl, h H, .cons (.str _) .nil⟩
/-- all tuples but the module's own are tracked -/
theorem Da.tup_tr {v : V} {ds : List PyData} (h : Da K H v (.tuple ds)) (ne : ds ≠ [.str "endless"]) : ∃ a xs, v = .ref a ∧ H a = some (.tup xs) ∧ DaL K H xs ds := by
  cases h with
  | tup h r => exact ⟨_, _, rfl, h, r⟩
  | endl h => exact absurd rfl ne
theorem DaL.nil_eq {vs : List V} (h : DaL K H vs []) : vs = [] := by
  cases h
  rfl
theorem DaL.cons_inv {vs : List V} {d : PyData} {ds : List PyData} (h : DaL K H vs (d :: ds)) : ∃ v r, vs = v :: r ∧ Da K H v d ∧ DaL K H r ds := by
  cases h with
  | cons h r => exact ⟨_, _, rfl, h, r⟩
theorem DaL.len : ∀ {vs : List V} {ds : List PyData}, DaL K H vs ds → vs.length = ds.length
  | _, _, .nil => rfl
  | _, _, .cons _ r => congrArg Nat.succ (DaL.len r)
theorem DaL.get : ∀ {vs : List V} {ds : List PyData} {i : Nat} {d : PyData}, DaL K H vs ds → ds[i]? = some d → ∃ v, vs[i]? = some v ∧ Da K H v d
  | _, _, _, _, .nil, h => by simp at h
  | _, _, 0, _, .cons h _, e => by
    cases e
    exact ⟨_, rfl, h⟩
  | _, _, i + 1, d, .cons _ r, e => DaL.get (i := i) r e
theorem DaL.get' : ∀ {vs : List V} {ds : List PyData} {i : Nat} {v : V}, DaL K H vs ds → vs[i]? = some v → ∃ d, ds[i]? = some d ∧ Da K H v d
  | _, _, _, _, .nil, h => by simp at h
  | _, _, 0, _, .cons h _, e => by
    cases e
    exact ⟨_, rfl, h⟩
  | _, _, i + 1, d, .cons _ r, e => DaL.get' (i := i) r e
theorem DaL.app : ∀ {vs ws : List V} {ds es : List PyData}, DaL K H vs ds → DaL K H ws es → DaL K H (vs ++ ws) (ds ++ es)
  | _, _, _, _, .nil, h => h
  | _, _, _, _, .cons h r, k => .cons h (DaL.app r k)
theorem DaL.one {v : V} {d : PyData} (h : Da K H v d) : DaL K H [v] [d] := .cons h .nil
theorem DaL.drop : ∀ {vs : List V} {ds : List PyData} (n : Nat), DaL K H vs ds → DaL K H (vs.drop n) (ds.drop n)
  | _, _, 0, h => h
  | _, _, _ + 1, .nil => .nil
  | _, _, n + 1, .cons _ r => DaL.drop n r
theorem DaL.take : ∀ {vs : List V} {ds : List PyData} (n : Nat), DaL K H vs ds → DaL K H (vs.take n) (ds.take n)
  | _, _, 0, _ => .nil
  | _, _, _ + 1, .nil => .nil
  | _, _, n + 1, .cons h r => .cons h (DaL.take n r)
theorem DaL.rev : ∀ {vs : List V} {ds : List PyData}, DaL K H vs ds → DaL K H vs.reverse ds.reverse
  | _, _, .nil => .nil
  | _, _, .cons h r => by
    rw [List.reverse_cons, List.reverse_cons]
    exact (DaL.rev r).app (.one h)
theorem DaL.ints : ∀ {vs : List V} {ns : List Int}, DaL K H vs (ns.map PyData.int) → vs = ns.map V.int
  | _, [], h => by
    rw [List.map_nil] at h
    exact h.nil_eq
  | _, n :: ns, h => by
    rw [List.map_cons] at h
    obtain ⟨v, r, rfl, h1, h2⟩ := h.cons_inv
    rw [h1.int_eq, DaL.ints h2]
    rfl
theorem DaL.of_ints : ∀ ns : List Int, DaL K H (ns.map V.int) (ns.map PyData.int)
  | [] => .nil
  | n :: ns => .cons (.int n) (DaL.of_ints ns)
theorem DaL.bools : ∀ {vs : List V} {ns : List Bool}, DaL K H vs (ns.map PyData.bool) → vs = ns.map V.bl
  | _, [], h => by
    rw [List.map_nil] at h
    exact h.nil_eq
  | _, n :: ns, h => by
    rw [List.map_cons] at h
    obtain ⟨v, r, rfl, h1, h2⟩ := h.cons_inv
    rw [h1.bl_eq, DaL.bools h2]
    rfl
theorem DaL.strs : ∀ {vs : List V} {ns : List Str}, DaL K H vs (ns.map PyData.str) → vs = ns.map V.str
  | _, [], h => by
    rw [List.map_nil] at h
    exact h.nil_eq
  | _, n :: ns, h => by
    rw [List.map_cons] at h
    obtain ⟨v, r, rfl, h1, h2⟩ := h.cons_inv
    rw [h1.str_eq, DaL.strs h2]
    rfl
theorem DaL.dropLast : ∀ {vs : List V} {ds : List PyData}, DaL K H vs ds → DaL K H vs.dropLast ds.dropLast
  | _, _, h => by
    rw [List.dropLast_eq_take, List.dropLast_eq_take, h.len]
    exact h.take _
end
/-! data without lists: it stands while tuples stand -/
mutual
def flatD : PyData → Bool
  | .list _ => false
  | .dict _ => false
  | .tuple xs => flatA xs
  | _ => true
def flatA : List PyData → Bool
  | [] => true
  | d :: ds => flatD d && flatA ds
end
theorem flatA_iff : ∀ {ds : List PyData}, flatA ds = true ↔ ∀ d, d ∈ ds → flatD d = true
  | [] => by simp [flatA]
  | d :: ds => by
    unfold flatA
    rw [Bool.and_eq_true, flatA_iff]
    simp
def Ut (H H' : Hp) : Prop := (∀ a xs, H a = some (.tup xs) → H' a = some (.tup xs)) ∧ ∀ a o xs, H a = some (.frz o (.tup xs)) → H' a = some (.frz o (.tup xs))
theorem ut_t {K : PySem.W.Frag} {H H' : Hp} {a : Addr} {xs : List V} (u : Ut H H') (h : SqT K H a xs) : SqT K H' a xs := by
  rcases h with (h | ⟨o, h⟩) | h
  · exact .inl (.inl (u.1 _ _ h))
  · exact .inl (.inr ⟨o, u.2 _ _ _ h⟩)
  · exact .inr h
section
variable {K : PySem.W.Frag} {H H' : Hp}
mutual
theorem Da.ut (u : Ut H H') : ∀ {v : V} {d : PyData}, flatD d = true → Da K H v d → Da K H' v d
  | _, _, _, .non => .non
  | _, _, _, .bl b => .bl b
  | _, _, _, .int i => .int i
  | _, _, _, .str x => .str x
  | _, _, f, .lst h r => by
    unfold flatD at f
    cases f
  | _, _, f, .tup h r => by
    unfold flatD at f
    exact .tup (u.1 _ _ h) (DaL.ut u f r)
  | _, _, f, .endl h => .endl h
theorem DaL.ut (u : Ut H H') : ∀ {vs : List V} {ds : List PyData}, flatA ds = true → DaL K H vs ds → DaL K H' vs ds
  | _, _, _, .nil => .nil
  | _, _, f, .cons h r => by
    unfold flatA at f
    rw [Bool.and_eq_true] at f
    exact .cons (Da.ut u f.1 h) (DaL.ut u f.2 r)
end
end

/-! ### worlds -/
/-- what stands at an address that may change -/
inductive Ct where
  /-- a list of data that is being built -/
  | l (ds : List PyData)
  /-- a list as it stands -/
  | raw (vs : List V)
  /-- a dict as it stands -/
  | dct (kvs : List (Key × V))
def CtOk (K : PySem.W.Frag) (B H : Hp) (a : Addr) : Ct → Prop
  | .l ds => ∃ vs, H a = some (.lst vs) ∧ DaL K B vs ds
  | .raw vs => H a = some (.lst vs)
  | .dct kvs => H a = some (.dK kvs)
theorem CtOk.there {K : PySem.W.Frag} {B H : Hp} {a : Addr} {c : Ct} (h : CtOk K B H a c) : H a ≠ none := by
  cases c with
  | l ds =>
    obtain ⟨vs, e, _⟩ := h
    rw [e]
    intro z
    cases z
  | raw vs =>
    have e : H a = some (.lst vs) := h
    rw [e]
    intro z
    cases z
  | dct kvs =>
    have e : H a = some (.dK kvs) := h
    rw [e]
    intro z
    cases z
theorem CtOk.mono {K : PySem.W.Frag} {B H B' H' : Hp} {a : Addr} {c : Ct} (h : CtOk K B H a c) (e1 : Ex B B') (e2 : H' a = H a) : CtOk K B' H' a c := by
  cases c with
  | l ds =>
    obtain ⟨vs, e, r⟩ := h
    exact ⟨vs, e2.trans e, r.mono e1⟩
  | raw vs => exact e2.trans (show H a = some (.lst vs) from h)
  | dct kvs => exact e2.trans (show H a = some (.dK kvs) from h)
/-- the law's draws: cells, the next place (at most n draws so far), the rest of a great cell -/
def DrOk (K : PySem.W.Frag) (B H : Hp) (a : Addr) (n : Nat) : Prop := ∃ (c : Addr) (ns : List Int) (place great : Nat), H a = some (.lst [.ref c, .int place, .int great]) ∧ B c = some (.lst (ns.map V.int)) ∧ place ≤ n
/-- the entry: base, heap, what may be changed -/
structure Ent where
  B : Hp
  H : Hp
  M : List Addr
structure Wd (K : PySem.W.Frag) (c : Ent) (dr : Option (Addr × Nat)) (ls : List (Addr × Ct)) (B H : Hp) : Prop where
  base : Ex c.B B
  inn : Ex B H
  fr : ∀ a, B a ≠ none → c.B a ≠ none ∨ c.H a = none
  old : ∀ a o, a ∉ c.M → c.H a = some o → H a = some o
  here : ∀ a, a ∈ c.M → H a ≠ none
  cts : ∀ q, q ∈ ls → B q.1 = none ∧ CtOk K B H q.1 q.2
  nd : (ls.map (·.1)).Nodup
  draw : ∀ q, dr = some q → DrOk K B H q.1 q.2 ∧ B q.1 = none ∧ q.1 ∉ ls.map (·.1)
section
variable {K : PySem.W.Frag} {c : Ent} {dr : Option (Addr × Nat)} {ls : List (Addr × Ct)} {B H H' : Hp} {p : Addr} {o : HO}
theorem Wd.fresh0 (w : Wd K c dr ls B H) (h : H p = none) : c.H p = none := by
  cases e : c.H p with
  | none => rfl
  | some u =>
    by_cases m : p ∈ c.M
    · exact absurd h (w.here p m)
    · rw [w.old p u m e] at h
      cases h
theorem Wd.freshB (w : Wd K c dr ls B H) (h : H p = none) : B p = none := by
  cases e : B p with
  | none => rfl
  | some u =>
    rw [w.inn p u e] at h
    cases h
theorem DrOk.mono {B' : Hp} {a : Addr} {n m : Nat} (h : DrOk K B H a n) (e1 : Ex B B') (e2 : H' a = H a) (l : n ≤ m) : DrOk K B' H' a m := by
  obtain ⟨c, ns, x, y, h1, h2, h3⟩ := h
  exact ⟨c, ns, x, y, e2.trans h1, e1 _ _ h2, Nat.le_trans h3 l⟩
theorem DrOk.there {a : Addr} {n : Nat} (h : DrOk K B H a n) : H a ≠ none := by
  obtain ⟨_, _, _, _, e, _⟩ := h
  rw [e]
  intro z
  cases z
theorem ex_some {H H' : Hp} (e : Ex H H') {a : Addr} (h : H a ≠ none) : H' a = H a := by
  cases q : H a with
  | none => exact absurd q h
  | some u => exact e a u q
/-- things that do not matter were made -/
theorem Wd.ext (w : Wd K c dr ls B H) (e : Ex H H') : Wd K c dr ls B H' := by
  refine ⟨w.base, w.inn.trans e, w.fr, fun a o m h => e a o (w.old a o m h), fun a m => ?_, fun q hq => ?_, w.nd, fun q hq => ?_⟩
  · rw [ex_some e (w.here a m)]
    exact w.here a m
  · obtain ⟨h1, h2⟩ := w.cts q hq
    exact ⟨h1, h2.mono (Ex.refl _) (ex_some e h2.there)⟩
  · obtain ⟨h1, h2, h3⟩ := w.draw q hq
    exact ⟨h1.mono (Ex.refl _) (ex_some e h1.there) (Nat.le_refl _), h2, h3⟩
/-- a new object of the base -/
theorem Wd.new (w : Wd K c dr ls B H) (h : H p = none) : Wd K c dr ls (upd B p o) (upd H p o) := by
  have e1 : Ex B (upd B p o) := Ex.new (w.freshB h)
  have e2 : Ex H (upd H p o) := Ex.new h
  have ne : ∀ {a : Addr}, H a ≠ none → a ≠ p := fun ha z => ha (z ▸ h)
  refine ⟨w.base.trans e1, fun a u q => ?_, fun a ha => ?_, fun a u m q => e2 a u (w.old a u m q), fun a m => ?_, fun q hq => ?_, w.nd, fun q hq => ?_⟩
  · by_cases z : a = p
    · rw [z, upd_same] at q
      rw [z, upd_same]
      exact q
    · rw [upd_ne z] at q ⊢
      exact w.inn a u q
  · by_cases z : a = p
    · rw [z]
      exact .inr (w.fresh0 h)
    · rw [upd_ne z] at ha
      exact w.fr a ha
  · rw [ex_some e2 (w.here a m)]
    exact w.here a m
  · obtain ⟨h1, h2⟩ := w.cts q hq
    refine ⟨?_, h2.mono e1 (ex_some e2 h2.there)⟩
    rw [upd_ne (ne h2.there)]
    exact h1
  · obtain ⟨h1, h2, h3⟩ := w.draw q hq
    refine ⟨h1.mono e1 (ex_some e2 h1.there) (Nat.le_refl _), ?_, h3⟩
    rw [upd_ne (ne h1.there)]
    exact h2
/-- a new thing that will be changed -/
theorem Wd.grow {ct : Ct} (w : Wd K c dr ls B H) (h : H p = none) (ho : CtOk K B (upd H p o) p ct) : Wd K c dr ((p, ct) :: ls) B (upd H p o) := by
  have e2 : Ex H (upd H p o) := Ex.new h
  have w2 := w.ext e2
  have nin : p ∉ ls.map (·.1) := fun z => by
    obtain ⟨q, hq, rfl⟩ := List.mem_map.mp z
    exact (w.cts q hq).2.there h
  refine ⟨w2.base, w2.inn, w2.fr, w2.old, w2.here, fun q hq => ?_, ?_, fun q hq => ?_⟩
  · rcases List.mem_cons.mp hq with z | z
    · rw [z]
      exact ⟨w.freshB h, ho⟩
    · exact w2.cts q z
  · rw [List.map_cons]
    exact List.nodup_cons.mpr ⟨nin, w.nd⟩
  · obtain ⟨h1, h2, h3⟩ := w2.draw q hq
    refine ⟨h1, h2, fun z => ?_⟩
    rw [List.map_cons] at z
    rcases List.mem_cons.mp z with r | r
    · exact (w.draw q hq).1.there (r ▸ h)
    · exact h3 r
/-- what was being built is done: it joins the base -/
theorem Wd.done {ds : List PyData} (w : Wd K c dr ((p, .l ds) :: ls) B H) (hp : c.H p = none) : ∃ B', Ex B B' ∧ Wd K c dr ls B' H ∧ Da K B' (.ref p) (.list ds) := by
  obtain ⟨hB, vs, hH, hd⟩ := w.cts (p, .l ds) List.mem_cons_self
  have e1 : Ex B (upd B p (.lst vs)) := Ex.new hB
  refine ⟨upd B p (.lst vs), e1, ⟨w.base.trans e1, fun a u q => ?_, fun a ha => ?_, w.old, w.here, fun q hq => ?_, ?_, fun q hq => ?_⟩, .lst upd_same (hd.mono e1)⟩
  · by_cases z : a = p
    · rw [z, upd_same] at q
      rw [z, ← q]
      exact hH
    · rw [upd_ne z] at q
      exact w.inn a u q
  · by_cases z : a = p
    · rw [z]
      exact .inr hp
    · rw [upd_ne z] at ha
      exact w.fr a ha
  · obtain ⟨h1, h2⟩ := w.cts q (List.mem_cons_of_mem _ hq)
    refine ⟨?_, h2.mono e1 rfl⟩
    have nd : p ∉ ls.map (·.1) := (List.nodup_cons.mp (show (p :: ls.map (·.1)).Nodup from w.nd)).1
    have ne : q.1 ≠ p := fun z => nd (by
      rw [← z]
      exact List.mem_map_of_mem hq)
    rw [upd_ne ne]
    exact h1
  · exact (List.nodup_cons.mp (show ((p, Ct.l ds).1 :: ls.map (·.1)).Nodup from w.nd)).2
  · obtain ⟨h1, h2, h3⟩ := w.draw q hq
    rw [List.map_cons] at h3
    refine ⟨h1.mono e1 rfl (Nat.le_refl _), ?_, fun z => h3 (List.mem_cons_of_mem _ z)⟩
    have ne : q.1 ≠ p := fun z => h3 (by
      rw [z]
      exact List.mem_cons_self)
    rw [upd_ne ne]
    exact h2
/-- the thing at p is changed -/
theorem Wd.set {ct ct' : Ct} (w : Wd K c dr ((p, ct) :: ls) B H) (ho : CtOk K B (upd H p o) p ct') (hp : c.H p = none ∨ p ∈ c.M) : Wd K c dr ((p, ct') :: ls) B (upd H p o) := by
  have h0 := w.cts (p, ct) List.mem_cons_self
  have nd := List.nodup_cons.mp (show (p :: ls.map (·.1)).Nodup from w.nd)
  refine ⟨w.base, fun a u q => ?_, w.fr, fun a u m q => ?_, fun a m => ?_, fun q hq => ?_, w.nd, fun q hq => ?_⟩
  · rw [upd_ne fun z => by rw [z, h0.1] at q; cases q]
    exact w.inn a u q
  · by_cases z : a = p
    · rw [z] at q m
      rcases hp with r | r
      · rw [r] at q
        cases q
      · exact absurd r m
    · rw [upd_ne z]
      exact w.old a u m q
  · by_cases z : a = p
    · rw [z, upd_same]
      intro r
      cases r
    · rw [upd_ne z]
      exact w.here a m
  · rcases List.mem_cons.mp hq with z | z
    · rw [z]
      exact ⟨h0.1, ho⟩
    · obtain ⟨h1, h2⟩ := w.cts q (List.mem_cons_of_mem _ z)
      exact ⟨h1, h2.mono (Ex.refl _) (upd_ne fun y => nd.1 (y ▸ List.mem_map_of_mem z))⟩
  · obtain ⟨h1, h2, h3⟩ := w.draw q hq
    rw [List.map_cons] at h3
    exact ⟨h1.mono (Ex.refl _) (upd_ne fun y => h3 (y ▸ List.mem_cons_self)) (Nat.le_refl _), h2, by rw [List.map_cons]; exact h3⟩
/-- the order of what is built does not matter -/
theorem Wd.perm {ls' : List (Addr × Ct)} (w : Wd K c dr ls B H) (h : ls'.Perm ls) : Wd K c dr ls' B H :=
  ⟨w.base, w.inn, w.fr, w.old, w.here, fun q hq => w.cts q (h.mem_iff.mp hq), (h.map _).nodup_iff.mpr w.nd, fun q hq => by
    obtain ⟨h1, h2, h3⟩ := w.draw q hq
    exact ⟨h1, h2, fun z => h3 ((h.map _).mem_iff.mp z)⟩⟩
/-- what is built is forgotten -/
theorem Wd.forget {q : Addr × Ct} (w : Wd K c dr (q :: ls) B H) : Wd K c dr ls B H :=
  ⟨w.base, w.inn, w.fr, w.old, w.here, fun r hr => w.cts r (List.mem_cons_of_mem _ hr), (List.nodup_cons.mp (show (q.1 :: ls.map (·.1)).Nodup from w.nd)).2, fun r hr => by
    obtain ⟨h1, h2, h3⟩ := w.draw r hr
    exact ⟨h1, h2, fun z => h3 (by rw [List.map_cons]; exact List.mem_cons_of_mem _ z)⟩⟩
theorem Wd.own (w : Wd K c dr ((p, o') :: ls) B H) : B p = none ∧ CtOk K B H p o' := w.cts (p, o') List.mem_cons_self
end
/-- a base that grew by steps -/
theorem exs3 {A B C D : Hp} (a : Ex A B) (b : Ex B C) (c : Ex C D) : Ex A D := (a.trans b).trans c
end GB
/-! Evaluation in worlds: expressions, tests, argument lists, calls, statements, loops. -/
namespace GB
open PySem PySem.Spec PyProof.Rows L2
open Evl (Ex)

section
variable (K : PySem.W.Frag) (c : Ent)
abbrev Dr := Option (Addr × Nat)
abbrev Ls := List (Addr × Ct)
/-- te evaluates to some v with Φ, the base grown, what is built as it was, the draws from dr to dr' -/
def EvB (dr dr' : Dr) (ls : Ls) (te : TE) (σ : L2.St) (B : Hp) (Φ : V → Hp → Prop) : Prop :=
  ∀ B1 H1, Ex B B1 → Wd K c dr ls B1 H1 → ∀ Q : VK, (∀ v B2 H2, Ex B1 B2 → Wd K c dr' ls B2 H2 → Φ v B2 → Q v H2) → te σ H1 Q
abbrev EvD (dr : Dr) (ls : Ls) (te : TE) (σ : L2.St) (B : Hp) (d : PyData) : Prop := EvB K c dr dr ls te σ B fun v B' => Da K B' v d
/-- .. to an int with P -/
abbrev EvI (dr dr' : Dr) (ls : Ls) (te : TE) (σ : L2.St) (B : Hp) (P : Int → Prop) : Prop := EvB K c dr dr' ls te σ B fun v _ => ∃ n, v = .int n ∧ P n
/-- .. to a new list, which may be built on -/
def EvN (dr dr' : Dr) (ls : Ls) (te : TE) (σ : L2.St) (B : Hp) (P : List PyData → Prop) : Prop :=
  ∀ B1 H1, Ex B B1 → Wd K c dr ls B1 H1 → ∀ Q : VK, (∀ p ds B2 H2, Ex B1 B2 → c.H p = none → Wd K c dr' ((p, .l ds) :: ls) B2 H2 → P ds → Q (.ref p) H2) → te σ H1 Q
abbrev EvL (dr : Dr) (ls : Ls) (te : TE) (σ : L2.St) (B : Hp) (ds : List PyData) : Prop := EvN K c dr dr ls te σ B fun es => es = ds
def EtB (dr dr' : Dr) (ls : Ls) (tt : TT) (σ : L2.St) (B : Hp) (Φ : Bool → Prop) : Prop :=
  ∀ B1 H1, Ex B B1 → Wd K c dr ls B1 H1 → ∀ Q : Bool → Hp → Prop, (∀ b B2 H2, Ex B1 B2 → Wd K c dr' ls B2 H2 → Φ b → Q b H2) → tt σ H1 Q
abbrev Et (dr : Dr) (ls : Ls) (tt : TT) (σ : L2.St) (B : Hp) (b : Bool) : Prop := EtB K c dr dr ls tt σ B fun k => k = b
def EaB (dr dr' : Dr) (ls : Ls) (ta : TA) (σ : L2.St) (B : Hp) (Φ : List V → Hp → Prop) : Prop :=
  ∀ B1 H1, Ex B B1 → Wd K c dr ls B1 H1 → ∀ Q : List V → Hp → Prop, (∀ vs B2 H2, Ex B1 B2 → Wd K c dr' ls B2 H2 → Φ vs B2 → Q vs H2) → ta σ H1 Q
abbrev EaD (dr : Dr) (ls : Ls) (ta : TA) (σ : L2.St) (B : Hp) (ds : List PyData) : Prop := EaB K c dr dr ls ta σ B fun vs B' => DaL K B' vs ds
/-- an operation on values -/
def RvB (dr : Dr) (ls : Ls) (r : Hp → VK → Prop) (B : Hp) (Φ : V → Hp → Prop) : Prop :=
  ∀ B1 H1, Ex B B1 → Wd K c dr ls B1 H1 → ∀ Q : VK, (∀ v B2 H2, Ex B1 B2 → Wd K c dr ls B2 H2 → Φ v B2 → Q v H2) → r H1 Q
end
section
variable {K : PySem.W.Frag} {c : Ent} {dr dr1 dr2 dr' : Dr} {ls : Ls} {σ : L2.St} {B B' H : Hp} {ta tb te tx : TE} {tt tu : TT} {Φ Ψ : V → Hp → Prop} {d d1 d2 : PyData} {ds es : List PyData}

/-! ### leaves -/
theorem EvB.mono (h : EvB K c dr dr' ls te σ B Φ) (e : Ex B B') : EvB K c dr dr' ls te σ B' Φ := fun B1 H1 e1 => h B1 H1 (e.trans e1)
theorem EvB.imp (h : EvB K c dr dr' ls te σ B Φ) (k : ∀ v B1, Ex B B1 → Φ v B1 → Ψ v B1) : EvB K c dr dr' ls te σ B Ψ := fun B1 H1 e1 w Q q => h B1 H1 e1 w Q fun v B2 H2 e2 w2 f => q v B2 H2 e2 w2 (k v B2 (e1.trans e2) f)
theorem EvB.to (h : EvD K c dr ls te σ B d) (e : d = d1) : EvD K c dr ls te σ B d1 := e ▸ h
theorem EvB.int (h : EvD K c dr ls te σ B (.int i)) {P : Int → Prop} (hp : P i) : EvI K c dr dr ls te σ B P := h.imp fun v _ _ f => ⟨i, f.int_eq, hp⟩
theorem e_of (h : ∀ B1 H1, Ex B B1 → Wd K c dr ls B1 H1 → ∀ Q : VK, (∀ v, Φ v B1 → Q v H1) → te σ H1 Q) : EvB K c dr dr ls te σ B Φ := fun B1 H1 e1 w Q q => h B1 H1 e1 w Q fun v f => q v B1 H1 (Ex.refl _) w f
theorem e_var {i : Nat} {v : V} {B0 : Hp} (f : Da K B0 v d) (h : σ[i]? = some (some v) := by rfl) (e : Ex B0 B := by (repeat (first | exact Evl.Ex.refl _ | assumption | refine Evl.Ex.trans ?_ (by assumption)))) : EvD K c dr ls (tVar i) σ B d :=
  e_of fun B1 H1 e1 w Q q => ⟨v, h, q v (f.mono (e.trans e1))⟩
theorem e_int {i : Nat} {n : Int} (h : σ[i]? = some (some (.int n)) := by rfl) : EvD K c dr ls (tVar i) σ B (.int n) := e_of fun B1 H1 e1 w Q q => ⟨_, h, q _ (.int n)⟩
theorem e_bl {i : Nat} {b : Bool} (h : σ[i]? = some (some (.bl b)) := by rfl) : EvD K c dr ls (tVar i) σ B (.bool b) := e_of fun B1 H1 e1 w Q q => ⟨_, h, q _ (.bl b)⟩
theorem e_str {i : Nat} {x : Str} (h : σ[i]? = some (some (.str x)) := by rfl) : EvD K c dr ls (tVar i) σ B (.str x) := e_of fun B1 H1 e1 w Q q => ⟨_, h, q _ (.str x)⟩
theorem e_cint {n : Int} : EvD K c dr ls (tC (.int n)) σ B (.int n) := e_of fun B1 H1 e1 w Q q => q _ (.int n)
theorem e_cstr {x : Str} : EvD K c dr ls (tC (.str x)) σ B (.str x) := e_of fun B1 H1 e1 w Q q => q _ (.str x)
theorem e_cbl {b : Bool} : EvD K c dr ls (tC (.bl b)) σ B (.bool b) := e_of fun B1 H1 e1 w Q q => q _ (.bl b)
theorem e_cnon : EvD K c dr ls (tC .non) σ B .none := e_of fun B1 H1 e1 w Q q => q _ .non
/-- a constant of the module -/
theorem e_con {v : V} {B0 : Hp} (f : Da K B0 v d) (e : Ex B0 B := by (repeat (first | exact Evl.Ex.refl _ | assumption | refine Evl.Ex.trans ?_ (by assumption)))) : EvD K c dr ls (tC v) σ B d := e_of fun B1 H1 e1 w Q q => q v (f.mono (e.trans e1))
/-- a list that is being built, by its name -/
theorem e_ref {i : Nat} {p : Addr} {P : V → Hp → Prop} (h : σ[i]? = some (some (.ref p))) (q : ∀ B1, Ex B B1 → P (.ref p) B1) : EvB K c dr dr ls (tVar i) σ B P := e_of fun B1 H1 e1 w Q k => ⟨_, h, k _ (q B1 e1)⟩

/-! ### operators -/
theorem EvB.op {r : R2} {Φa : V → Hp → Prop} (ha : EvB K c dr dr1 ls ta σ B Φa) (hb : ∀ x B1, Ex B B1 → Φa x B1 → EvB K c dr1 dr2 ls tb σ B1 fun y B2 => RvB K c dr2 ls (r x y) B2 Φ) : EvB K c dr dr2 ls (tOp r ta tb) σ B Φ :=
  fun B1 H1 e1 w Q q => ha B1 H1 e1 w _ fun x B2 H2 e2 w2 fx => hb x B2 (e1.trans e2) fx B2 H2 (Ex.refl _) w2 _ fun y B3 H3 e3 w3 fy => fy B3 H3 (Ex.refl _) w3 Q fun v B4 H4 e4 w4 f => q v B4 H4 ((e2.trans e3).trans e4) w4 f
theorem e_op {r : R2} (ha : EvD K c dr ls ta σ B d1) (hb : EvD K c dr ls tb σ B d2) (hr : ∀ x y B1, Ex B B1 → Da K B1 x d1 → Da K B1 y d2 → RvB K c dr ls (r x y) B1 Φ) : EvB K c dr dr ls (tOp r ta tb) σ B Φ :=
  ha.op fun x B1 e1 fx => (hb.mono e1).imp fun y B2 e2 fy => hr x y B2 (e1.trans e2) (fx.mono e2) fy
theorem rv_of {r : Hp → VK → Prop} (h : ∀ B1 H1, Ex B B1 → Wd K c dr ls B1 H1 → ∀ Q : VK, (∀ v, Φ v B1 → Q v H1) → r H1 Q) : RvB K c dr ls r B Φ := fun B1 H1 e1 w Q q => h B1 H1 e1 w Q fun v f => q v B1 H1 (Ex.refl _) w f
theorem e_ii {f : Int → Int → Int} {i j : Int} (ha : EvD K c dr ls ta σ B (.int i)) (hb : EvD K c dr ls tb σ B (.int j)) : EvD K c dr ls (tOp (rI0 fun i j => .int (f i j)) ta tb) σ B (.int (f i j)) :=
  e_op ha hb fun x y B1 _ fx fy => rv_of fun B2 H2 _ _ Q q => ⟨i, j, fx.int_eq, fy.int_eq, q _ (.int _)⟩
theorem e_iiC {C : Int → Int → Prop} {f : Int → Int → Int} {i j : Int} (ha : EvD K c dr ls ta σ B (.int i)) (hb : EvD K c dr ls tb σ B (.int j)) (hc : C i j) : EvD K c dr ls (tOp (rI C fun i j => .int (f i j)) ta tb) σ B (.int (f i j)) :=
  e_op ha hb fun x y B1 _ fx fy => rv_of fun B2 H2 _ _ Q q => ⟨i, j, fx.int_eq, fy.int_eq, hc, q _ (.int _)⟩
theorem e_ib {f : Int → Int → Bool} {i j : Int} (ha : EvD K c dr ls ta σ B (.int i)) (hb : EvD K c dr ls tb σ B (.int j)) : EvD K c dr ls (tOp (rI0 fun i j => .bl (f i j)) ta tb) σ B (.bool (f i j)) :=
  e_op ha hb fun x y B1 _ fx fy => rv_of fun B2 H2 _ _ Q q => ⟨i, j, fx.int_eq, fy.int_eq, q _ (.bl _)⟩
/-- ints that are not told exactly -/
theorem i_ii {f : Int → Int → Int} {P P' R : Int → Prop} (ha : EvI K c dr dr1 ls ta σ B P) (hb : EvI K c dr1 dr2 ls tb σ B P') (hr : ∀ i j, P i → P' j → R (f i j)) : EvI K c dr dr2 ls (tOp (rI0 fun i j => .int (f i j)) ta tb) σ B R :=
  EvB.op ha fun x B1 e1 fx => (EvB.mono hb e1).imp fun y B2 e2 fy => rv_of fun B3 H3 _ _ Q q => by
    obtain ⟨i, rfl, hi⟩ := fx
    obtain ⟨j, rfl, hj⟩ := fy
    exact ⟨i, j, rfl, rfl, q _ ⟨_, rfl, hr i j hi hj⟩⟩
theorem i_iiC {C : Int → Int → Prop} {f : Int → Int → Int} {P P' R : Int → Prop} (ha : EvI K c dr dr1 ls ta σ B P) (hb : EvI K c dr1 dr2 ls tb σ B P') (hc : ∀ i j, P i → P' j → C i j) (hr : ∀ i j, P i → P' j → R (f i j)) :
    EvI K c dr dr2 ls (tOp (rI C fun i j => .int (f i j)) ta tb) σ B R :=
  EvB.op ha fun x B1 e1 fx => (EvB.mono hb e1).imp fun y B2 e2 fy => rv_of fun B3 H3 _ _ Q q => by
    obtain ⟨i, rfl, hi⟩ := fx
    obtain ⟨j, rfl, hj⟩ := fy
    exact ⟨i, j, rfl, rfl, hc i j hi hj, q _ ⟨_, rfl, hr i j hi hj⟩⟩
theorem i_ib {f : Int → Int → Bool} {P P' : Int → Prop} {R : Bool → Prop} (ha : EvI K c dr dr1 ls ta σ B P) (hb : EvI K c dr1 dr2 ls tb σ B P') (hr : ∀ i j, P i → P' j → R (f i j)) :
    EvB K c dr dr2 ls (tOp (rI0 fun i j => .bl (f i j)) ta tb) σ B fun v _ => ∃ b, v = .bl b ∧ R b :=
  EvB.op ha fun x B1 e1 fx => (EvB.mono hb e1).imp fun y B2 e2 fy => rv_of fun B3 H3 _ _ Q q => by
    obtain ⟨i, rfl, hi⟩ := fx
    obtain ⟨j, rfl, hj⟩ := fy
    exact ⟨i, j, rfl, rfl, q _ ⟨_, rfl, hr i j hi hj⟩⟩
theorem e_eqI {i j : Int} (ha : EvD K c dr ls ta σ B (.int i)) (hb : EvD K c dr ls tb σ B (.int j)) : EvD K c dr ls (tOp rEq ta tb) σ B (.bool (decide (i = j))) :=
  e_op ha hb fun x y B1 _ fx fy => rv_of fun B2 H2 _ _ Q q => by
    rw [fx.int_eq, fy.int_eq]
    refine ⟨rfl, ?_⟩
    have e : decide (V.int i = V.int j) = decide (i = j) := by
      by_cases h : i = j
      · subst h
        simp
      · have : ¬ V.int i = V.int j := fun z => h (V.int.inj z)
        rw [decide_eq_false h, decide_eq_false this]
    rw [e]
    exact q _ (.bl _)
theorem e_neI {i j : Int} (ha : EvD K c dr ls ta σ B (.int i)) (hb : EvD K c dr ls tb σ B (.int j)) : EvD K c dr ls (tOp rNe ta tb) σ B (.bool (!decide (i = j))) :=
  e_op ha hb fun x y B1 _ fx fy => rv_of fun B2 H2 _ _ Q q => by
    rw [fx.int_eq, fy.int_eq]
    refine ⟨rfl, ?_⟩
    have e : decide (V.int i = V.int j) = decide (i = j) := by
      by_cases h : i = j
      · subst h
        simp
      · have : ¬ V.int i = V.int j := fun z => h (V.int.inj z)
        rw [decide_eq_false h, decide_eq_false this]
    rw [e]
    exact q _ (.bl _)
theorem e_eqS {i j : Str} (ha : EvD K c dr ls ta σ B (.str i)) (hb : EvD K c dr ls tb σ B (.str j)) : EvD K c dr ls (tOp rEq ta tb) σ B (.bool (decide (i = j))) :=
  e_op ha hb fun x y B1 _ fx fy => rv_of fun B2 H2 _ _ Q q => by
    rw [fx.str_eq, fy.str_eq]
    refine ⟨rfl, ?_⟩
    have e : decide (V.str i = V.str j) = decide (i = j) := by
      by_cases h : i = j
      · subst h
        simp
      · have : ¬ V.str i = V.str j := fun z => h (V.str.inj z)
        rw [decide_eq_false h, decide_eq_false this]
    rw [e]
    exact q _ (.bl _)
theorem e_neS {i j : Str} (ha : EvD K c dr ls ta σ B (.str i)) (hb : EvD K c dr ls tb σ B (.str j)) : EvD K c dr ls (tOp rNe ta tb) σ B (.bool (!decide (i = j))) :=
  e_op ha hb fun x y B1 _ fx fy => rv_of fun B2 H2 _ _ Q q => by
    rw [fx.str_eq, fy.str_eq]
    refine ⟨rfl, ?_⟩
    have e : decide (V.str i = V.str j) = decide (i = j) := by
      by_cases h : i = j
      · subst h
        simp
      · have : ¬ V.str i = V.str j := fun z => h (V.str.inj z)
        rw [decide_eq_false h, decide_eq_false this]
    rw [e]
    exact q _ (.bl _)
/-- == of data at any depth -/
theorem e_eqD (ha : EvD K c dr ls ta σ B d1) (hb : EvD K c dr ls tb σ B d2) (h1 : SeqAt.shaped d1 = true) (h2 : SeqAt.shaped d2 = true) : EvD K c dr ls (tOp (rEqD K) ta tb) σ B (.bool (PyData.eqv d1 d2)) :=
  e_op ha hb fun x y B1 _ fx fy => rv_of fun B2 H2 e w Q q => ⟨d1, d2, ((fx.mono e).mono w.inn).dp, ((fy.mono e).mono w.inn).dp, h1, h2, q _ (.bl _)⟩
theorem e_neD (ha : EvD K c dr ls ta σ B d1) (hb : EvD K c dr ls tb σ B d2) (h1 : SeqAt.shaped d1 = true) (h2 : SeqAt.shaped d2 = true) : EvD K c dr ls (tOp (rNeD K) ta tb) σ B (.bool (!PyData.eqv d1 d2)) :=
  e_op ha hb fun x y B1 _ fx fy => rv_of fun B2 H2 e w Q q => ⟨d1, d2, ((fx.mono e).mono w.inn).dp, ((fy.mono e).mono w.inn).dp, h1, h2, q _ (.bl _)⟩
/-! is None -/
def isN : PyData → Bool
  | .none => true
  | _ => false
theorem Da.isN {v : V} (h : Da K B v d) : decide (v = .non) = isN d := by
  cases h <;> rfl
theorem e_isN (ha : EvD K c dr ls ta σ B d) : EvD K c dr ls (tIsN ta) σ B (.bool (isN d)) := fun B1 H1 e1 w Q q => ha B1 H1 e1 w _ fun v B2 H2 e2 w2 f => by
  rw [f.isN]
  exact q _ B2 H2 e2 w2 (.bl _)
theorem e_notN (ha : EvD K c dr ls ta σ B d) : EvD K c dr ls (tNotN ta) σ B (.bool (!isN d)) := fun B1 H1 e1 w Q q => ha B1 H1 e1 w _ fun v B2 H2 e2 w2 f => by
  rw [f.isN]
  exact q _ B2 H2 e2 w2 (.bl _)
theorem e_neg {i : Int} (ha : EvD K c dr ls ta σ B (.int i)) : EvD K c dr ls (tUn (rU fun i => .int (-i)) ta) σ B (.int (-i)) := fun B1 H1 e1 w Q q => ha B1 H1 e1 w _ fun v B2 H2 e2 w2 f => ⟨i, f.int_eq, q _ B2 H2 e2 w2 (.int _)⟩
/-! subscripts -/
theorem DaL.at {xs : List V} {i : Int} (h : DaL K B xs ds) (e : atI ds i = some d) : ∃ v, atI xs i = some v ∧ Da K B v d := by
  unfold atI at e ⊢
  rw [h.len]
  cases q : ixN ds.length i with
  | none =>
    rw [q] at e
    cases e
  | some j =>
    rw [q] at e
    exact h.get e
theorem e_ixL {i : Int} (ha : EvD K c dr ls ta σ B (.list ds)) (hb : EvD K c dr ls tb σ B (.int i)) (h : atI ds i = some d) : EvD K c dr ls (tOp (rIxL K) ta tb) σ B d :=
  e_op ha hb fun x y B1 _ fx fy => rv_of fun B2 H2 e w Q q => by
    obtain ⟨a, xs, rfl, hx, hd⟩ := fx.lst_inv
    obtain ⟨v, hv, f⟩ := hd.at h
    exact ⟨a, xs, i, v, rfl, fy.int_eq, SqL.of (w.inn _ _ (e _ _ hx)), hv, q v (f.mono e)⟩
theorem e_ixT {i : Int} (ha : EvD K c dr ls ta σ B (.tuple ds)) (hb : EvD K c dr ls tb σ B (.int i)) (h : atI ds i = some d) : EvD K c dr ls (tOp (rIxT K) ta tb) σ B d :=
  e_op ha hb fun x y B1 _ fx fy => rv_of fun B2 H2 e w Q q => by
    obtain ⟨a, xs, rfl, hx, hd⟩ := fx.tup_inv
    obtain ⟨v, hv, f⟩ := hd.at h
    exact ⟨a, xs, i, v, rfl, fy.int_eq, Evl.ex_t (e.trans w.inn) hx, hv, q v (f.mono e)⟩
/-- an index that is not told exactly -/
theorem x_ixL {P : Int → Prop} (ha : EvD K c dr ls ta σ B (.list ds)) (hb : EvI K c dr dr2 ls tb σ B P) (h : ∀ i, P i → ∃ d, atI ds i = some d ∧ ∀ v B', Da K B' v d → Φ v B') : EvB K c dr dr2 ls (tOp (rIxL K) ta tb) σ B Φ :=
  EvB.op ha fun x B1 e1 fx => (EvB.mono hb e1).imp fun y B2 e2 fy => rv_of fun B3 H3 e w Q q => by
    obtain ⟨i, rfl, hi⟩ := fy
    obtain ⟨d, hd, hf⟩ := h i hi
    obtain ⟨a, xs, rfl, hx, hl⟩ := fx.lst_inv
    obtain ⟨v, hv, f⟩ := hl.at hd
    exact ⟨a, xs, i, v, rfl, rfl, SqL.of (w.inn _ _ (e _ _ (e2 _ _ hx))), hv, q v (hf v B3 ((f.mono e2).mono e))⟩
/-! in -/
theorem inV_int {i : Int} : ∀ ns : List Int, inV (.int i) (ns.map V.int) = decide (i ∈ ns)
  | [] => by simp [inV]
  | n :: ns => by
    have ih := inV_int (i := i) ns
    unfold inV at ih ⊢
    rw [List.map_cons, List.any_cons, ih]
    show ((n == i) || decide (i ∈ ns)) = decide (i ∈ n :: ns)
    by_cases h : n = i
    · subst h
      simp
    · have h2 : (n == i) = false := by simpa using h
      rw [h2, Bool.false_or]
      have h3 : i ≠ n := fun z => h z.symm
      simp [h3]
theorem flat_ints (ns : List Int) : (ns.map V.int).all flatV = true := by
  rw [List.all_map, List.all_eq_true]
  intro x _
  rfl
theorem inV_str {i : Str} : ∀ ns : List Str, inV (.str i) (ns.map V.str) = decide (i ∈ ns)
  | [] => by simp [inV]
  | n :: ns => by
    have ih := inV_str (i := i) ns
    unfold inV at ih ⊢
    rw [List.map_cons, List.any_cons, ih]
    show ((n == i) || decide (i ∈ ns)) = decide (i ∈ n :: ns)
    by_cases h : n = i
    · subst h
      simp
    · have h2 : (n == i) = false := by simpa using h
      rw [h2, Bool.false_or]
      have h3 : i ≠ n := fun z => h z.symm
      simp [h3]
theorem flat_strs (ns : List Str) : (ns.map V.str).all flatV = true := by
  rw [List.all_map, List.all_eq_true]
  intro x _
  rfl
theorem e_inI {i : Int} {ns : List Int} (ha : EvD K c dr ls ta σ B (.int i)) (hb : EvD K c dr ls tb σ B (.list (ns.map PyData.int))) : EvD K c dr ls (tOp (rIn K false) ta tb) σ B (.bool (decide (i ∈ ns))) :=
  e_op ha hb fun x y B1 _ fx fy => rv_of fun B2 H2 e w Q q => by
    obtain ⟨a, xs, rfl, hx, hd⟩ := fy.lst_inv
    rw [hd.ints] at hx
    refine ⟨a, _, rfl, .inl (SqL.of (w.inn _ _ (e _ _ hx))), by rw [fx.int_eq]; rfl, flat_ints ns, ?_⟩
    rw [fx.int_eq, inV_int]
    exact q _ (.bl _)
theorem e_inS {neg : Bool} {i : Str} {ns : List Str} (ha : EvD K c dr ls ta σ B (.str i)) (hb : EvD K c dr ls tb σ B (.tuple (ns.map PyData.str))) : EvD K c dr ls (tOp (rIn K neg) ta tb) σ B (.bool (if neg then !decide (i ∈ ns) else decide (i ∈ ns))) :=
  e_op ha hb fun x y B1 _ fx fy => rv_of fun B2 H2 e w Q q => by
    obtain ⟨a, xs, rfl, hx, hd⟩ := fy.tup_inv
    rw [hd.strs] at hx
    refine ⟨a, _, rfl, .inr (Evl.ex_t (e.trans w.inn) hx), by rw [fx.str_eq]; rfl, flat_strs ns, ?_⟩
    rw [fx.str_eq, inV_str]
    exact q _ (.bl _)

/-! ### and, or, not, if -/
theorem e_andV {a b : Bool} (h1 : EvD K c dr ls ta σ B (.bool a)) (h2 : a = true → EvD K c dr ls tb σ B (.bool b)) : EvD K c dr ls (tAndV ta tb) σ B (.bool (a && b)) := fun B1 H1 e1 w Q q => h1 B1 H1 e1 w _ fun v B2 H2 e2 w2 f => ⟨a, f.bl_eq, by
  cases a with
  | true =>
    show tb σ H2 Q
    exact h2 rfl B2 H2 (e1.trans e2) w2 Q fun v B3 H3 e3 w3 f => q v B3 H3 (e2.trans e3) w3 f
  | false =>
    show Q (.bl false) H2
    exact q _ B2 H2 e2 w2 (.bl _)⟩
theorem e_orV {a b : Bool} (h1 : EvD K c dr ls ta σ B (.bool a)) (h2 : a = false → EvD K c dr ls tb σ B (.bool b)) : EvD K c dr ls (tOrV ta tb) σ B (.bool (a || b)) := fun B1 H1 e1 w Q q => h1 B1 H1 e1 w _ fun v B2 H2 e2 w2 f => ⟨a, f.bl_eq, by
  cases a with
  | true =>
    show Q (.bl true) H2
    exact q _ B2 H2 e2 w2 (.bl _)
  | false =>
    show tb σ H2 Q
    exact h2 rfl B2 H2 (e1.trans e2) w2 Q fun v B3 H3 e3 w3 f => q v B3 H3 (e2.trans e3) w3 f⟩
theorem e_notV {a : Bool} (h1 : EvD K c dr ls ta σ B (.bool a)) : EvD K c dr ls (tNotV ta) σ B (.bool (!a)) := fun B1 H1 e1 w Q q => h1 B1 H1 e1 w _ fun v B2 H2 e2 w2 f => ⟨a, f.bl_eq, q _ B2 H2 e2 w2 (.bl _)⟩
/-- a op b op' c -/
theorem e_chain {r r' : R2} {tc : TE} {d3 : PyData} {a b : Bool} (ha : EvD K c dr ls ta σ B d1) (hb : EvD K c dr ls tb σ B d2) (h1 : ∀ x y B1, Ex B B1 → Da K B1 x d1 → Da K B1 y d2 → RvB K c dr ls (r x y) B1 fun v B' => Da K B' v (.bool a))
    (hc : EvD K c dr ls tc σ B d3) (h2 : ∀ y z B1, Ex B B1 → Da K B1 y d2 → Da K B1 z d3 → RvB K c dr ls (r' y z) B1 fun v B' => Da K B' v (.bool b)) : EvD K c dr ls (tChain r r' ta tb tc) σ B (.bool (a && b)) := fun B1 H1 e1 w Q q =>
  ha B1 H1 e1 w _ fun x B2 H2 e2 w2 fx => hb B2 H2 (e1.trans e2) w2 _ fun y B3 H3 e3 w3 fy => h1 x y B3 ((e1.trans e2).trans e3) (fx.mono e3) fy B3 H3 (Ex.refl _) w3 _ fun z B4 H4 e4 w4 fz => ⟨a, fz.bl_eq, by
    cases a with
    | true =>
      exact hc B4 H4 (((e1.trans e2).trans e3).trans e4) w4 _ fun z B5 H5 e5 w5 fz => h2 y z B5 ((((e1.trans e2).trans e3).trans e4).trans e5) ((fy.mono e4).mono e5) fz B5 H5 (Ex.refl _) w5 Q fun v B6 H6 e6 w6 f => q v B6 H6 ((((e2.trans e3).trans e4).trans e5).trans e6) w6 f
    | false => exact q _ B4 H4 ((e2.trans e3).trans e4) w4 (.bl _)⟩
theorem e_chainI {f g : Int → Int → Bool} {tc : TE} {i j k : Int} (ha : EvD K c dr ls ta σ B (.int i)) (hb : EvD K c dr ls tb σ B (.int j)) (hc : EvD K c dr ls tc σ B (.int k)) :
    EvD K c dr ls (tChain (rI0 fun i j => .bl (f i j)) (rI0 fun i j => .bl (g i j)) ta tb tc) σ B (.bool (f i j && g j k)) :=
  e_chain ha hb (fun x y B1 _ fx fy => rv_of fun B2 H2 _ _ Q q => ⟨i, j, fx.int_eq, fy.int_eq, q _ (.bl _)⟩) hc (fun x y B1 _ fx fy => rv_of fun B2 H2 _ _ Q q => ⟨j, k, fx.int_eq, fy.int_eq, q _ (.bl _)⟩)
theorem EtB.mono {P : Bool → Prop} (h : EtB K c dr dr' ls tt σ B P) (e : Ex B B') : EtB K c dr dr' ls tt σ B' P := fun B1 H1 e1 => h B1 H1 (e.trans e1)
theorem t_test {b : Bool} (h : EvD K c dr ls te σ B (.bool b)) : Et K c dr ls (tTest te) σ B b := fun B1 H1 e1 w _ q => h B1 H1 e1 w _ fun v B2 H2 e2 w2 f => ⟨b, f.bl_eq, q b B2 H2 e2 w2 rfl⟩
theorem t_B {b : Bool} (h : EvD K c dr ls te σ B (.bool b)) : Et K c dr ls (tB te) σ B b := fun B1 H1 e1 w _ q => h B1 H1 e1 w _ fun v B2 H2 e2 w2 f => ⟨b, f.bl_eq, q b B2 H2 e2 w2 rfl⟩
theorem t_testR {R : Bool → Prop} (h : EvB K c dr dr' ls te σ B fun v _ => ∃ b, v = .bl b ∧ R b) : EtB K c dr dr' ls (tTest te) σ B R := fun B1 H1 e1 w _ q => h B1 H1 e1 w _ fun v B2 H2 e2 w2 f => by
  obtain ⟨b, rfl, hb⟩ := f
  exact ⟨b, rfl, q b B2 H2 e2 w2 hb⟩
theorem t_to {a b : Bool} (h : Et K c dr ls tt σ B a) (e : a = b) : Et K c dr ls tt σ B b := e ▸ h
theorem t_and {a b : Bool} (h1 : Et K c dr ls tt σ B a) (h2 : a = true → Et K c dr ls tu σ B b) : Et K c dr ls (tAnd tt tu) σ B (a && b) := fun B1 H1 e1 w Q q => h1 B1 H1 e1 w _ fun k B2 H2 e2 w2 f => by
  subst f
  cases k with
  | true => exact h2 rfl B2 H2 (e1.trans e2) w2 Q fun v B3 H3 e3 w3 f => q v B3 H3 (e2.trans e3) w3 f
  | false => exact q _ B2 H2 e2 w2 rfl
theorem t_or {a b : Bool} (h1 : Et K c dr ls tt σ B a) (h2 : a = false → Et K c dr ls tu σ B b) : Et K c dr ls (tOr tt tu) σ B (a || b) := fun B1 H1 e1 w Q q => h1 B1 H1 e1 w _ fun k B2 H2 e2 w2 f => by
  subst f
  cases k with
  | true => exact q _ B2 H2 e2 w2 rfl
  | false => exact h2 rfl B2 H2 (e1.trans e2) w2 Q fun v B3 H3 e3 w3 f => q v B3 H3 (e2.trans e3) w3 f
theorem t_not {a : Bool} (h1 : Et K c dr ls tt σ B a) : Et K c dr ls (tNot tt) σ B (!a) := fun B1 H1 e1 w Q q => h1 B1 H1 e1 w _ fun k B2 H2 e2 w2 f => by
  subst f
  exact q _ B2 H2 e2 w2 rfl
theorem e_if {b : Bool} (h : Et K c dr ls tt σ B b) (h1 : b = true → EvB K c dr dr' ls ta σ B Φ) (h2 : b = false → EvB K c dr dr' ls tb σ B Φ) : EvB K c dr dr' ls (tIf tt ta tb) σ B Φ := fun B1 H1 e1 w Q q => h B1 H1 e1 w _ fun k B2 H2 e2 w2 f => by
  subst f
  cases k with
  | true => exact h1 rfl B2 H2 (e1.trans e2) w2 Q fun v B3 H3 e3 w3 f => q v B3 H3 (e2.trans e3) w3 f
  | false => exact h2 rfl B2 H2 (e1.trans e2) w2 Q fun v B3 H3 e3 w3 f => q v B3 H3 (e2.trans e3) w3 f

/-! ### argument lists, displays -/
theorem a_nil : EaD K c dr ls tNil σ B [] := fun B1 H1 e1 w Q q => q [] B1 H1 (Ex.refl _) w .nil
theorem a_cons {tr : TA} (h : EvD K c dr ls te σ B d) (hr : EaD K c dr ls tr σ B ds) : EaD K c dr ls (tCons te tr) σ B (d :: ds) := fun B1 H1 e1 w Q q =>
  h B1 H1 e1 w _ fun v B2 H2 e2 w2 f => hr B2 H2 (e1.trans e2) w2 _ fun vs B3 H3 e3 w3 g => q (v :: vs) B3 H3 (e2.trans e3) w3 (.cons (f.mono e3) g)
theorem a_consB {tr : TA} {Ψ' : List V → Hp → Prop} (h : EvB K c dr dr1 ls te σ B Φ) (hr : ∀ v B1, Ex B B1 → Φ v B1 → EaB K c dr1 dr2 ls tr σ B1 fun vs B2 => Ψ' (v :: vs) B2) : EaB K c dr dr2 ls (tCons te tr) σ B Ψ' := fun B1 H1 e1 w Q q =>
  h B1 H1 e1 w _ fun v B2 H2 e2 w2 f => hr v B2 (e1.trans e2) f B2 H2 (Ex.refl _) w2 _ fun vs B3 H3 e3 w3 g => q (v :: vs) B3 H3 (e2.trans e3) w3 g
theorem sz_le {n : Nat} (h : n ≤ 100000) : n ≤ sizeLine := Nat.le_trans h (by decide)
theorem e_tup {ta : TA} (h : EaD K c dr ls ta σ B ds) (hl : ds.length ≤ 100000) : EvD K c dr ls (tTup ta) σ B (.tuple ds) := fun B1 H1 e1 w Q q =>
  h B1 H1 e1 w _ fun vs B2 H2 e2 w2 f => ⟨sz_le (by rw [f.len]; exact hl), fun p hp => by
    have e3 : Ex B2 (upd B2 p (.tup vs)) := Ex.new (w2.freshB hp)
    exact q (.ref p) _ _ (e2.trans e3) (w2.new hp) (.tup upd_same (f.mono e3))⟩
theorem e_tupB {ta : TA} {P : List PyData → Prop} (h : EaB K c dr dr' ls ta σ B fun vs B' => ∃ ds, DaL K B' vs ds ∧ P ds) (hl : ∀ ds, P ds → ds.length ≤ 100000) : EvB K c dr dr' ls (tTup ta) σ B fun v B' => ∃ ds, Da K B' v (.tuple ds) ∧ P ds := fun B1 H1 e1 w Q q =>
  h B1 H1 e1 w _ fun vs B2 H2 e2 w2 ⟨ds, f, hp⟩ => ⟨sz_le (by rw [f.len]; exact hl ds hp), fun p hp' => by
    have e3 : Ex B2 (upd B2 p (.tup vs)) := Ex.new (w2.freshB hp')
    exact q (.ref p) _ _ (e2.trans e3) (w2.new hp') ⟨ds, .tup upd_same (f.mono e3), hp⟩⟩
theorem EvN.imp {P P' : List PyData → Prop} (h : EvN K c dr dr' ls te σ B P) (k : ∀ ds, P ds → P' ds) : EvN K c dr dr' ls te σ B P' := fun B1 H1 e1 w Q q => h B1 H1 e1 w Q fun p ds B2 H2 e2 h0 w2 hp => q p ds B2 H2 e2 h0 w2 (k ds hp)
theorem EvN.mono {P : List PyData → Prop} (h : EvN K c dr dr' ls te σ B P) (e : Ex B B') : EvN K c dr dr' ls te σ B' P := fun B1 H1 e1 => h B1 H1 (e.trans e1)
/-- a new list as data -/
theorem EvN.data (h : EvL K c dr ls te σ B ds) : EvD K c dr ls te σ B (.list ds) := fun B1 H1 e1 w Q q => h B1 H1 e1 w _ fun p es B2 H2 e2 h0 w2 hp => by
  subst hp
  obtain ⟨B3, e3, w3, f⟩ := w2.done h0
  exact q _ B3 H2 (e2.trans e3) w3 f
theorem EvN.dataB {P : List PyData → Prop} (h : EvN K c dr dr' ls te σ B P) : EvB K c dr dr' ls te σ B fun v B' => ∃ ds, Da K B' v (.list ds) ∧ P ds := fun B1 H1 e1 w Q q => h B1 H1 e1 w _ fun p es B2 H2 e2 h0 w2 hp => by
  obtain ⟨B3, e3, w3, f⟩ := w2.done h0
  exact q _ B3 H2 (e2.trans e3) w3 ⟨es, f, hp⟩
theorem l_lst {ta : TA} (h : EaD K c dr ls ta σ B ds) (hl : ds.length ≤ 100000) : EvL K c dr ls (tLst ta) σ B ds := fun B1 H1 e1 w Q q =>
  h B1 H1 e1 w _ fun vs B2 H2 e2 w2 f => ⟨sz_le (by rw [f.len]; exact hl), fun p hp => q p ds _ _ e2 (w2.fresh0 hp) (w2.grow hp ⟨vs, upd_same, f⟩) rfl⟩

/-! ### promises and calls -/
end
/-- a def hands back some v with Φ: nothing that stood is changed -/
def RB (B H : Hp) (Φ : V → Hp → Prop) (Q : VK) : Prop := ∀ v B' H', Ex B B' → Ex B' H' → Ex H H' → (∀ a, B' a ≠ none → B a ≠ none ∨ H a = none) → Φ v B' → Q v H'
abbrev RD (K : PySem.W.Frag) (B H : Hp) (d : PyData) (Q : VK) : Prop := RB B H (fun v B' => Da K B' v d) Q
/-- .. a new list, which the caller may change -/
def RN (K : PySem.W.Frag) (B H : Hp) (P : List PyData → Prop) (Q : VK) : Prop :=
  ∀ p ds B' H', Ex B B' → Ex B' H' → Ex H H' → (∀ a, B' a ≠ none → B a ≠ none ∨ H a = none) → H p = none → B' p = none → CtOk K B' H' p (.l ds) → P ds → Q (.ref p) H'
abbrev RL (K : PySem.W.Frag) (B H : Hp) (ds : List PyData) (Q : VK) : Prop := RN K B H (fun es => es = ds) Q
section
variable {K : PySem.W.Frag} {c : Ent} {dr dr1 dr2 dr' : Dr} {ls : Ls} {σ : L2.St} {B B' H H' : Hp} {ta tb te tx : TE} {tt tu : TT} {Φ Ψ : V → Hp → Prop} {d d1 d2 : PyData} {ds es : List PyData}
theorem Wd.after (w : Wd K c dr ls B H) (e1 : Ex B B') (e2 : Ex B' H') (e3 : Ex H H') (fr : ∀ a, B' a ≠ none → B a ≠ none ∨ H a = none) : Wd K c dr ls B' H' := by
  have out : ∀ a, B a = none → H a ≠ none → B' a = none := fun a h1 h2 => by
    cases q : B' a with
    | none => rfl
    | some u =>
      rcases fr a (by rw [q]; intro z; cases z) with r | r
      · exact absurd h1 r
      · exact absurd r h2
  refine ⟨w.base.trans e1, e2, fun a ha => ?_, fun a o m h => e3 a o (w.old a o m h), fun a m => ?_, fun q hq => ?_, w.nd, fun q hq => ?_⟩
  · rcases fr a ha with r | r
    · exact w.fr a r
    · exact .inr (w.fresh0 r)
  · rw [ex_some e3 (w.here a m)]
    exact w.here a m
  · obtain ⟨h1, h2⟩ := w.cts q hq
    exact ⟨out _ h1 h2.there, h2.mono e1 (ex_some e3 h2.there)⟩
  · obtain ⟨h1, h2, h3⟩ := w.draw q hq
    exact ⟨h1.mono e1 (ex_some e3 h1.there) (Nat.le_refl _), out _ h2 h1.there, h3⟩
theorem Wd.afterN {p : Addr} (w : Wd K c dr ls B H) (e1 : Ex B B') (e2 : Ex B' H') (e3 : Ex H H') (fr : ∀ a, B' a ≠ none → B a ≠ none ∨ H a = none) (h1 : H p = none) (h2 : B' p = none) {ct : Ct} (h3 : CtOk K B' H' p ct) : Wd K c dr ((p, ct) :: ls) B' H' := by
  have w2 := w.after e1 e2 e3 fr
  have nin : p ∉ ls.map (·.1) := fun z => by
    obtain ⟨q, hq, rfl⟩ := List.mem_map.mp z
    exact (w.cts q hq).2.there h1
  refine ⟨w2.base, w2.inn, w2.fr, w2.old, w2.here, fun q hq => ?_, ?_, fun q hq => ?_⟩
  · rcases List.mem_cons.mp hq with z | z
    · rw [z]
      exact ⟨h2, h3⟩
    · exact w2.cts q z
  · rw [List.map_cons]
    exact List.nodup_cons.mpr ⟨nin, w.nd⟩
  · obtain ⟨k1, k2, k3⟩ := w2.draw q hq
    refine ⟨k1, k2, fun z => ?_⟩
    rw [List.map_cons] at z
    rcases List.mem_cons.mp z with r | r
    · exact (w.draw q hq).1.there (r ▸ h1)
    · exact k3 r
theorem e_callB {sp : Sp} {dvs : List V} {ta : TA} {Ψ' : List V → Hp → Prop} (ha : EaB K c dr dr' ls ta σ B Ψ') (hs : ∀ vs B1 H1 Q, Ex B B1 → Ex B1 H1 → Ψ' vs B1 → RB B1 H1 Φ Q → sp (vs ++ dvs) H1 Q E0) : EvB K c dr dr' ls (tCall sp dvs E0 ta) σ B Φ := fun B1 H1 e1 w Q q =>
  ha B1 H1 e1 w _ fun vs B2 H2 e2 w2 f => hs vs B2 H2 Q (e1.trans e2) w2.inn f fun v B3 H3 e3 i3 x3 fr fv => q v B3 H3 (e2.trans e3) (w2.after e3 i3 x3 fr) fv
theorem e_call {sp : Sp} {dvs : List V} {ta : TA} (ha : EaD K c dr ls ta σ B ds) (hs : ∀ vs B1 H1 Q, Ex B B1 → Ex B1 H1 → DaL K B1 vs ds → RB B1 H1 Φ Q → sp (vs ++ dvs) H1 Q E0) : EvB K c dr dr ls (tCall sp dvs E0 ta) σ B Φ := e_callB ha hs
theorem l_callB {sp : Sp} {dvs : List V} {ta : TA} {Ψ' : List V → Hp → Prop} {P : List PyData → Prop} (ha : EaB K c dr dr' ls ta σ B Ψ') (hs : ∀ vs B1 H1 Q, Ex B B1 → Ex B1 H1 → Ψ' vs B1 → RN K B1 H1 P Q → sp (vs ++ dvs) H1 Q E0) : EvN K c dr dr' ls (tCall sp dvs E0 ta) σ B P := fun B1 H1 e1 w Q q =>
  ha B1 H1 e1 w _ fun vs B2 H2 e2 w2 f => hs vs B2 H2 Q (e1.trans e2) w2.inn f fun p es B3 H3 e3 i3 x3 fr h1 h2 h3 hp => q p es B3 H3 (e2.trans e3) (w2.fresh0 h1) (w2.afterN e3 i3 x3 fr h1 h2 h3) hp
theorem l_call {sp : Sp} {dvs : List V} {ta : TA} {P : List PyData → Prop} (ha : EaD K c dr ls ta σ B ds) (hs : ∀ vs B1 H1 Q, Ex B B1 → Ex B1 H1 → DaL K B1 vs ds → RN K B1 H1 P Q → sp (vs ++ dvs) H1 Q E0) : EvN K c dr dr ls (tCall sp dvs E0 ta) σ B P := l_callB ha hs
/-- a call of a built-in -/
theorem e_cb {r : List V → Hp → VK → Prop} {ta : TA} (ha : EaD K c dr ls ta σ B ds) (hr : ∀ vs B1, Ex B B1 → DaL K B1 vs ds → RvB K c dr ls (r vs) B1 Φ) : EvB K c dr dr ls (tCB r ta) σ B Φ := fun B1 H1 e1 w Q q =>
  ha B1 H1 e1 w _ fun vs B2 H2 e2 w2 f => hr vs B2 (e1.trans e2) f B2 H2 (Ex.refl _) w2 Q fun v B3 H3 e3 w3 g => q v B3 H3 (e2.trans e3) w3 g

/-! ### statements -/
variable {D : Ends} {tz t1 t2 : TS} {g : TG}
theorem q_set {i : Nat} (w : Wd K c dr ls B H) (h : EvB K c dr dr' ls te σ B Φ) (k : ∀ v B1 H1, Ex B B1 → Wd K c dr' ls B1 H1 → Φ v B1 → tz D (σ.set i (some v)) H1) : tSeq (tAsg te (gName i)) tz D σ H :=
  h B H (Ex.refl _) w _ fun v B1 H1 e1 w1 f => k v B1 H1 e1 w1 f
theorem s_set {i : Nat} (w : Wd K c dr ls B H) (h : EvB K c dr dr' ls te σ B Φ) (k : ∀ v B1 H1, Ex B B1 → Wd K c dr' ls B1 H1 → Φ v B1 → D.nx (σ.set i (some v)) H1) : tAsg te (gName i) D σ H :=
  h B H (Ex.refl _) w _ fun v B1 H1 e1 w1 f => k v B1 H1 e1 w1 f
theorem q_setN {i : Nat} {P : List PyData → Prop} (w : Wd K c dr ls B H) (h : EvN K c dr dr' ls te σ B P) (k : ∀ p ds B1 H1, Ex B B1 → c.H p = none → Wd K c dr' ((p, .l ds) :: ls) B1 H1 → P ds → tz D (σ.set i (some (.ref p))) H1) : tSeq (tAsg te (gName i)) tz D σ H :=
  h B H (Ex.refl _) w _ fun p ds B1 H1 e1 h0 w1 f => k p ds B1 H1 e1 h0 w1 f
/-- into any target -/
theorem q_asg (w : Wd K c dr ls B H) (h : EvB K c dr dr' ls te σ B Φ) (k : ∀ v B1 H1, Ex B B1 → Wd K c dr' ls B1 H1 → Φ v B1 → g v σ H1 (tz D)) : tSeq (tAsg te g) tz D σ H :=
  h B H (Ex.refl _) w _ fun v B1 H1 e1 w1 f => k v B1 H1 e1 w1 f
theorem q_ifE {b : Bool} (w : Wd K c dr ls B H) (h : Et K c dr ls tt σ B b) (h1 : b = true → ∀ B1 H1, Ex B B1 → Wd K c dr ls B1 H1 → t1 { D with nx := tz D } σ H1) (h2 : b = false → ∀ B1 H1, Ex B B1 → Wd K c dr ls B1 H1 → t2 { D with nx := tz D } σ H1) : tSeq (tIfS tt t1 t2) tz D σ H :=
  h B H (Ex.refl _) w _ fun k B1 H1 e1 w1 f => by
    subst f
    cases k with
    | true => exact h1 rfl B1 H1 e1 w1
    | false => exact h2 rfl B1 H1 e1 w1
theorem q_if {b : Bool} (w : Wd K c dr ls B H) (h : Et K c dr ls tt σ B b) (h1 : b = true → ∀ B1 H1, Ex B B1 → Wd K c dr ls B1 H1 → t1 { D with nx := tz D } σ H1) (h2 : b = false → ∀ B1 H1, Ex B B1 → Wd K c dr ls B1 H1 → tz D σ H1) : tSeq (tIfS tt t1 tNext) tz D σ H := q_ifE w h h1 h2
theorem s_if {b : Bool} (w : Wd K c dr ls B H) (h : Et K c dr ls tt σ B b) (h1 : b = true → ∀ B1 H1, Ex B B1 → Wd K c dr ls B1 H1 → t1 D σ H1) (h2 : b = false → ∀ B1 H1, Ex B B1 → Wd K c dr ls B1 H1 → t2 D σ H1) : tIfS tt t1 t2 D σ H :=
  h B H (Ex.refl _) w _ fun k B1 H1 e1 w1 f => by
    subst f
    cases k with
    | true => exact h1 rfl B1 H1 e1 w1
    | false => exact h2 rfl B1 H1 e1 w1
theorem q_ifBE {P : Bool → Prop} (w : Wd K c dr ls B H) (h : EtB K c dr dr' ls tt σ B P) (h1 : P true → ∀ B1 H1, Ex B B1 → Wd K c dr' ls B1 H1 → t1 { D with nx := tz D } σ H1) (h2 : P false → ∀ B1 H1, Ex B B1 → Wd K c dr' ls B1 H1 → t2 { D with nx := tz D } σ H1) : tSeq (tIfS tt t1 t2) tz D σ H :=
  h B H (Ex.refl _) w _ fun k B1 H1 e1 w1 f => by
    cases k with
    | true => exact h1 f B1 H1 e1 w1
    | false => exact h2 f B1 H1 e1 w1
theorem q_ifB {P : Bool → Prop} (w : Wd K c dr ls B H) (h : EtB K c dr dr' ls tt σ B P) (h1 : P true → ∀ B1 H1, Ex B B1 → Wd K c dr' ls B1 H1 → t1 { D with nx := tz D } σ H1) (h2 : P false → ∀ B1 H1, Ex B B1 → Wd K c dr' ls B1 H1 → tz D σ H1) : tSeq (tIfS tt t1 tNext) tz D σ H := q_ifBE w h h1 h2
theorem s_ifB {P : Bool → Prop} (w : Wd K c dr ls B H) (h : EtB K c dr dr' ls tt σ B P) (h1 : P true → ∀ B1 H1, Ex B B1 → Wd K c dr' ls B1 H1 → t1 D σ H1) (h2 : P false → ∀ B1 H1, Ex B B1 → Wd K c dr' ls B1 H1 → t2 D σ H1) : tIfS tt t1 t2 D σ H :=
  h B H (Ex.refl _) w _ fun k B1 H1 e1 w1 f => by
    cases k with
    | true => exact h1 f B1 H1 e1 w1
    | false => exact h2 f B1 H1 e1 w1
theorem s_retB (w : Wd K c dr ls B H) (h : EvB K c dr dr' ls te σ B Φ) (k : ∀ v B1 H1, Ex B B1 → Wd K c dr' ls B1 H1 → Φ v B1 → D.rt v H1) : tRet te D σ H := h B H (Ex.refl _) w _ k
/-- what a body hands back keeps the promise -/
theorem Wd.back {Q : VK} {v : V} (w : Wd K c dr ls B H) (hM : c.M = []) (q : RB c.B c.H Φ Q) (f : Φ v B) : Q v H :=
  q v B H w.base w.inn (fun a o h => w.old a o (by rw [hM]; exact List.not_mem_nil) h) w.fr f
theorem Wd.backN {Q : VK} {p : Addr} {P : List PyData → Prop} (w : Wd K c dr ((p, .l ds) :: ls) B H) (hM : c.M = []) (h0 : c.H p = none) (q : RN K c.B c.H P Q) (f : P ds) : Q (.ref p) H :=
  q p ds B H w.base w.inn (fun a o h => w.old a o (by rw [hM]; exact List.not_mem_nil) h) w.fr h0 w.own.1 w.own.2 f
theorem s_ret {nx : L2.St → Hp → Prop} {Q : VK} (w : Wd K c dr ls B H) (h : EvB K c dr dr ls te σ B Φ) (hM : c.M = []) (q : RB c.B c.H Φ Q) : tRet te { nx := nx, rt := Q } σ H := s_retB w h fun v B1 H1 _ w1 f => w1.back hM q f
theorem s_retN {nx : L2.St → Hp → Prop} {Q : VK} {P : List PyData → Prop} (w : Wd K c dr ls B H) (h : EvN K c dr dr ls te σ B P) (hM : c.M = []) (q : RN K c.B c.H P Q) : tRet te { nx := nx, rt := Q } σ H :=
  h B H (Ex.refl _) w _ fun p ds B1 H1 _ h0 w1 f => w1.backN hM h0 q f
/-- x.append(e), x being built -/
theorem q_app {i : Nat} {p : Addr} (w : Wd K c dr ((p, .l ds) :: ls) B H) (h0 : c.H p = none ∨ p ∈ c.M) (h : EvB K c dr dr' ((p, .l ds) :: ls) te σ B Φ) (hl : ds.length < 100000) (k : ∀ v d B1 H1, Ex B B1 → Φ v B1 → Da K B1 v d → Wd K c dr' ((p, .l (ds ++ [d])) :: ls) B1 H1 → tz D σ H1)
    (hf : ∀ v B1, Φ v B1 → ∃ d, Da K B1 v d) (hi : σ[i]? = some (some (.ref p)) := by rfl) : tSeq (tDrop (tBM K "list" rAppend (tVar i) (tCons te tNil))) tz D σ H := by
  obtain ⟨_, vs, hH, _⟩ := w.own
  refine ⟨.ref p, hi, Or.inl ⟨rfl, vs, SqL.of hH⟩, h B H (Ex.refl _) w _ fun v B1 H1 e1 w1 f => ?_⟩
  obtain ⟨_, ws, hW, hd⟩ := w1.own
  obtain ⟨d, fd⟩ := hf v B1 f
  exact ⟨p, ws, v, rfl, rfl, hW, Nat.lt_of_lt_of_le (by rw [hd.len]; exact hl) (by decide), k v d B1 _ e1 f fd (w1.set ⟨ws ++ [v], upd_same, hd.app (.one fd)⟩ h0)⟩
theorem q_appD {i : Nat} {p : Addr} (w : Wd K c dr ((p, .l ds) :: ls) B H) (h0 : c.H p = none ∨ p ∈ c.M) (h : EvD K c dr ((p, .l ds) :: ls) te σ B d) (hl : ds.length < 100000) (k : ∀ B1 H1, Ex B B1 → Wd K c dr ((p, .l (ds ++ [d])) :: ls) B1 H1 → tz D σ H1)
    (hi : σ[i]? = some (some (.ref p)) := by rfl) : tSeq (tDrop (tBM K "list" rAppend (tVar i) (tCons te tNil))) tz D σ H := by
  obtain ⟨_, vs, hH, _⟩ := w.own
  refine ⟨.ref p, hi, Or.inl ⟨rfl, vs, SqL.of hH⟩, h B H (Ex.refl _) w _ fun v B1 H1 e1 w1 f => ?_⟩
  obtain ⟨_, ws, hW, hd⟩ := w1.own
  exact ⟨p, ws, v, rfl, rfl, hW, Nat.lt_of_lt_of_le (by rw [hd.len]; exact hl) (by decide), k B1 _ e1 (w1.set ⟨ws ++ [v], upd_same, hd.app (.one f)⟩ h0)⟩
theorem s_appD {i : Nat} {p : Addr} (w : Wd K c dr ((p, .l ds) :: ls) B H) (h0 : c.H p = none ∨ p ∈ c.M) (h : EvD K c dr ((p, .l ds) :: ls) te σ B d) (hl : ds.length < 100000) (k : ∀ B1 H1, Ex B B1 → Wd K c dr ((p, .l (ds ++ [d])) :: ls) B1 H1 → D.nx σ H1)
    (hi : σ[i]? = some (some (.ref p)) := by rfl) : tDrop (tBM K "list" rAppend (tVar i) (tCons te tNil)) D σ H := q_appD (tz := fun D => D.nx) w h0 h hl k hi

/-! ### targets -/
theorem g_tup {n : Nat} {t : TGs} {v : V} {Q : L2.St → Hp → Prop} (f : Da K B v (.tuple ds)) (e : Ex B H) (hn : ds.length = n) (k : ∀ vs, DaL K B vs ds → t vs σ H Q) : gTup K n t v σ H Q := by
  obtain ⟨a, xs, rfl, hx, hd⟩ := f.tup_inv
  exact ⟨a, xs, rfl, Evl.ex_t e hx, by rw [hd.len]; exact hn, k xs hd⟩
theorem g_cons {t : TG} {u : TGs} {vs : List V} {Q : L2.St → Hp → Prop} (f : DaL K B vs (d :: ds)) (k : ∀ v r, Da K B v d → DaL K B r ds → t v σ H fun σ' H' => u r σ' H' Q) : gCons t u vs σ H Q := by
  obtain ⟨v, r, rfl, h1, h2⟩ := f.cons_inv
  exact ⟨v, r, rfl, k v r h1 h2⟩
theorem g_nil {vs : List V} {Q : L2.St → Hp → Prop} (f : DaL K B vs []) (k : Q σ H) : gNil vs σ H Q := ⟨f.nil_eq, k⟩

/-! ### loops -/
/-- what a walk gives at each turn: the base may grow by the pair that is made -/
def Yd (K : PySem.W.Frag) (c : Ent) (B : Hp) (f : Nat → PyData) : Nat → Hp → V → Hp → Prop := fun i H x H' =>
  ∀ B1, Ex B B1 → Ex B1 H → ∃ B2, Ex B1 B2 ∧ (∀ dr ls, Wd K c dr ls B1 H → Wd K c dr ls B2 H') ∧ Da K B2 x (f i)
def EiB (K : PySem.W.Frag) (c : Ent) (dr : Dr) (ls : Ls) (wi : TI) (σ : L2.St) (B : Hp) (n : Nat) (f : Nat → PyData) : Prop :=
  ∀ B1 H1, Ex B B1 → Wd K c dr ls B1 H1 → ∀ R : It → Hp → Prop, (∀ J B2 H2, Ex B1 B2 → Wd K c dr ls B2 H2 → Walk J n (fun H' => Ex B2 H') (Yd K c B2 f) → R J H2) → wi σ H1 R
theorem q_for {wi : TI} {tb : TS} {n : Nat} {f : Nat → PyData} (w : Wd K c dr ls B H) (h : EiB K c dr ls wi σ B n f) (Iv : Nat → L2.St → Hp → Hp → Prop) (h0 : ∀ B1 H1, Ex B B1 → Wd K c dr ls B1 H1 → Iv 0 σ B1 H1) (hi : ∀ i σ' B' H', Iv i σ' B' H' → Ex B' H')
    (hs : ∀ i x σ' B0 B1 H1 B2 H2, i < n → Ex B B0 → Ex B0 B1 → Iv i σ' B1 H1 → Ex B1 B2 → (∀ dr ls, Wd K c dr ls B1 H1 → Wd K c dr ls B2 H2) → Da K B2 x (f i) →
      g x σ' H2 fun σ2 H3 => tb { D with nx := fun σ3 H4 => ∃ B4, Ex B0 B4 ∧ Iv (i + 1) σ3 B4 H4, ct := fun σ3 H4 => ∃ B4, Ex B0 B4 ∧ Iv (i + 1) σ3 B4 H4, bk := tz D } σ2 H3)
    (hd : ∀ σ' B1 H1, Ex B B1 → Iv n σ' B1 H1 → tz D σ' H1) : tSeq (tFor wi g tb) tz D σ H :=
  h B H (Ex.refl _) w _ fun J B2 H2 e2 w2 wk => by
    refine for_it wk (D := { D with nx := tz D }) (fun i σ' H' => ∃ B', Ex B2 B' ∧ Iv i σ' B' H') ⟨B2, Ex.refl _, h0 B2 H2 e2 w2⟩ (fun i σ' H' _ ⟨B', e', iv⟩ => e'.trans (hi i σ' B' H' iv)) (fun i x σ' H' H'' hlt ⟨B', e', iv⟩ y => ?_) fun σ' H' ⟨B', e', iv⟩ => hd σ' B' H' (e2.trans e') iv
    obtain ⟨B3, e3, up, fx⟩ := y B' e' (hi i σ' B' H' iv)
    exact hs i x σ' B2 B' H' B3 H'' hlt e2 e' iv e3 up fx
/-- while, by a word that falls -/
theorem q_while {tb : TS} (w : Wd K c dr ls B H) (Iv : Nat → L2.St → Hp → Hp → Prop) {m0 : Nat} (h0 : Iv m0 σ B H)
    (hs : ∀ m σ' B1 H1, Ex B B1 → Iv m σ' B1 H1 → ∃ (dr : Dr) (ls : Ls) (b : Bool), Wd K c dr ls B1 H1 ∧ Et K c dr ls tt σ' B1 b ∧
      (b = true → ∀ B2 H2, Ex B1 B2 → Wd K c dr ls B2 H2 → tb { D with nx := fun σ3 H4 => ∃ m' B4, m' < m ∧ Ex B B4 ∧ Iv m' σ3 B4 H4, ct := fun σ3 H4 => ∃ m' B4, m' < m ∧ Ex B B4 ∧ Iv m' σ3 B4 H4, bk := tz D } σ' H2) ∧
      (b = false → ∀ B2 H2, Ex B1 B2 → Wd K c dr ls B2 H2 → tz D σ' H2)) : tSeq (tWhile tt tb) tz D σ H := by
  refine ⟨fun m σ' H' => ∃ B', Ex B B' ∧ Iv m σ' B' H', ⟨m0, B, Ex.refl _, h0⟩, fun m σ' H' ⟨B1, e1, iv⟩ => ?_⟩
  obtain ⟨dr, ls, b, w1, ht, ht1, ht2⟩ := hs m σ' B1 H' e1 iv
  refine ht B1 H' (Ex.refl _) w1 _ fun k B2 H2 e2 w2 f => ?_
  subst f
  cases k with
  | true => exact ⟨_, fun σ3 H4 ⟨m', B4, l, e4, iv4⟩ => ⟨m', l, B4, e4, iv4⟩, ht1 rfl B2 H2 e2 w2⟩
  | false => exact ht2 rfl B2 H2 e2 w2

/-! ### walks -/
theorem getD_data {l : List PyData} {i : Nat} {z d : PyData} (h : l[i]? = some d) : l.getD i z = d := by
  rw [List.getD_eq_getElem?_getD, h]
  rfl
theorem i_list {tl : TE} (h : EvD K c dr ls tl σ B (.list ds)) : EiB K c dr ls (iList K tl) σ B ds.length fun i => ds.getD i .none := fun B1 H1 e1 w R q => h B1 H1 e1 w _ fun v B2 H2 e2 w2 f => by
  obtain ⟨a, xs, rfl, hx, hd⟩ := f.lst_inv
  refine ⟨a, rfl, ⟨xs, SqL.of (w2.inn _ _ hx)⟩, q _ B2 H2 e2 w2 ?_⟩
  have wl := walk_list (K := K) (a := a) (xs := xs)
  rw [hd.len] at wl
  refine wl.mono (fun H' e => SqL.of (e _ _ hx)) fun i H' x H'' hi e y => ?_
  obtain ⟨rfl, hxi⟩ := y
  obtain ⟨d, hdi, fx⟩ := hd.get' hxi
  intro B3 e3 i3
  refine ⟨B3, Ex.refl _, fun _ _ w => w, ?_⟩
  show Da K B3 x (ds.getD i .none)
  rw [getD_data hdi]
  exact fx.mono e3
theorem i_tup {tl : TE} (h : EvD K c dr ls tl σ B (.tuple ds)) : EiB K c dr ls (iTup K tl) σ B ds.length fun i => ds.getD i .none := fun B1 H1 e1 w R q => h B1 H1 e1 w _ fun v B2 H2 e2 w2 f => by
  obtain ⟨a, xs, rfl, hx, hd⟩ := f.tup_inv
  refine ⟨a, rfl, ⟨xs, Evl.ex_t w2.inn hx⟩, q _ B2 H2 e2 w2 ?_⟩
  have wl := walk_tup (K := K) (a := a) (xs := xs)
  rw [hd.len] at wl
  refine wl.mono (fun H' e => Evl.ex_t e hx) fun i H' x H'' hi e y => ?_
  obtain ⟨rfl, hxi⟩ := y
  obtain ⟨d, hdi, fx⟩ := hd.get' hxi
  intro B3 e3 i3
  refine ⟨B3, Ex.refl _, fun _ _ w => w, ?_⟩
  show Da K B3 x (ds.getD i .none)
  rw [getD_data hdi]
  exact fx.mono e3
/-- a pair made at a turn -/
theorem yd_pair {B2 B3 : Hp} {T : Addr} {x y : V} {d1 d2 : PyData} {H' : Hp} (e3 : Ex B2 B3) (i3 : Ex B3 H') (hT : H' T = none) (fx : Da K B3 x d1) (fy : Da K B3 y d2) :
    ∃ B4, Ex B3 B4 ∧ (∀ dr ls, Wd K c dr ls B3 H' → Wd K c dr ls B4 (upd H' T (.tup [x, y]))) ∧ Da K B4 (.ref T) (.tuple [d1, d2]) := by
  have hB : B3 T = none := by
    cases q : B3 T with
    | none => rfl
    | some u =>
      rw [i3 _ _ q] at hT
      cases hT
  have e4 : Ex B3 (upd B3 T (.tup [x, y])) := Ex.new hB
  exact ⟨_, e4, fun _ _ w => w.new hT, .tup upd_same (.cons (fx.mono e4) (.cons (fy.mono e4) .nil))⟩
theorem i_enum {ta : TA} (h : EaD K c dr ls ta σ B [.list ds]) : EiB K c dr ls (iEnum K ta) σ B ds.length fun i => .tuple [.int (i : Nat), ds.getD i .none] := fun B1 H1 e1 w R q => h B1 H1 e1 w _ fun vs B2 H2 e2 w2 f => by
  obtain ⟨v, r, rfl, fv, fr⟩ := f.cons_inv
  rw [fr.nil_eq]
  obtain ⟨a, xs, rfl, hx, hd⟩ := fv.lst_inv
  refine ⟨a, xs, rfl, SqL.of (w2.inn _ _ hx), q _ B2 H2 e2 w2 ?_⟩
  have wl := walk_enum (K := K) (a := a) (xs := xs)
  rw [hd.len] at wl
  refine wl.mono (fun H' e => SqL.of (e _ _ hx)) fun i H' x H'' hi e y => ?_
  obtain ⟨T, x1, x2, rfl, hT, rfl, h1, h2⟩ := y
  cases h1
  obtain ⟨d, hdi, fx⟩ := hd.get' h2
  intro B3 e3 i3
  show ∃ B2, _ ∧ _ ∧ Da K B2 (.ref T) (.tuple [.int (i : Nat), ds.getD i .none])
  rw [getD_data hdi]
  exact yd_pair e3 i3 hT (.int _) (fx.mono e3)
theorem i_zip {ta : TA} (h : EaD K c dr ls ta σ B [.list ds, .list es]) : EiB K c dr ls (iZip K ta) σ B (min ds.length es.length) fun i => .tuple [ds.getD i .none, es.getD i .none] := fun B1 H1 e1 w R q => h B1 H1 e1 w _ fun vs B2 H2 e2 w2 f => by
  obtain ⟨v, r, rfl, fv, fr⟩ := f.cons_inv
  obtain ⟨v2, r2, rfl, fv2, fr2⟩ := fr.cons_inv
  rw [fr2.nil_eq]
  obtain ⟨a, xs, rfl, hx, hd⟩ := fv.lst_inv
  obtain ⟨a2, xs2, rfl, hx2, hd2⟩ := fv2.lst_inv
  refine ⟨a, a2, xs, xs2, rfl, SqL.of (w2.inn _ _ hx), SqL.of (w2.inn _ _ hx2), q _ B2 H2 e2 w2 ?_⟩
  have wl := walk_zip (K := K) (a := a) (b := a2) (xs := xs) (ys := xs2) (n := min ds.length es.length) (by rw [hd.len, hd2.len])
  refine wl.mono (fun H' e => ⟨SqL.of (e _ _ hx), SqL.of (e _ _ hx2)⟩) fun i H' x H'' hi e y => ?_
  obtain ⟨T, x1, x2, rfl, hT, rfl, h1, h2⟩ := y
  obtain ⟨d, hdi, fx⟩ := hd.get' h1
  obtain ⟨d2, hdi2, fx2⟩ := hd2.get' h2
  intro B3 e3 i3
  show ∃ B2, _ ∧ _ ∧ Da K B2 (.ref T) (.tuple [ds.getD i .none, es.getD i .none])
  rw [getD_data hdi, getD_data hdi2]
  exact yd_pair e3 i3 hT (fx.mono e3) (fx2.mono e3)
theorem i_rng1 {ta : TA} {n : Int} (h : EaD K c dr ls ta σ B [.int n]) (hn : n ≤ 100000 := by omega) (hn0 : -100000 ≤ n := by omega) : EiB K c dr ls (iRng1 ta) σ B n.toNat fun i => .int (i : Nat) := fun B1 H1 e1 w R q => h B1 H1 e1 w _ fun vs B2 H2 e2 w2 f => by
  obtain ⟨v, r, rfl, fv, fr⟩ := f.cons_inv
  rw [fr.nil_eq, fv.int_eq]
  refine ⟨n, rfl, by omega, by omega, q _ B2 H2 e2 w2 ?_⟩
  refine (walk_range (lo := 0) (n := n.toNat)).mono (fun _ _ => True.intro) fun i H' x H'' hi e y => ?_
  obtain ⟨rfl, rfl⟩ := y
  intro B3 e3 i3
  refine ⟨B3, Ex.refl _, fun _ _ w => w, ?_⟩
  show Da K B3 (.int (0 + (i : Int))) (.int (i : Nat))
  rw [Int.zero_add]
  exact .int _
theorem i_rng2 {ta : TA} {lo n : Int} (h : EaD K c dr ls ta σ B [.int lo, .int n]) (hn : -100000 ≤ lo ∧ lo ≤ 100000 ∧ -100000 ≤ n ∧ n ≤ 100000 := by omega) : EiB K c dr ls (iRng2 ta) σ B (n - lo).toNat fun i => .int (lo + (i : Nat)) := fun B1 H1 e1 w R q => h B1 H1 e1 w _ fun vs B2 H2 e2 w2 f => by
  obtain ⟨v, r, rfl, fv, fr⟩ := f.cons_inv
  obtain ⟨v2, r2, rfl, fv2, fr2⟩ := fr.cons_inv
  rw [fr2.nil_eq, fv.int_eq, fv2.int_eq]
  refine ⟨lo, n, rfl, ⟨by omega, by omega, by omega, by omega⟩, q _ B2 H2 e2 w2 ?_⟩
  refine (walk_range (lo := lo) (n := (n - lo).toNat)).mono (fun _ _ => True.intro) fun i H' x H'' hi e y => ?_
  obtain ⟨rfl, rfl⟩ := y
  intro B3 e3 i3
  exact ⟨B3, Ex.refl _, fun _ _ w => w, .int _⟩

/-! ### comprehensions -/
/-- which turns give, and what -/
def given (n : Nat) (f : Nat → Bool) (v : Nat → PyData) : List PyData := ((List.range n).filter f).map v
theorem given_yes {n : Nat} {f : Nat → Bool} {v : Nat → PyData} (h : f n = true) : given (n + 1) f v = given n f v ++ [v n] := by
  unfold given
  rw [List.range_succ, List.filter_append, List.map_append, List.filter_cons, if_pos h] <;> rfl
theorem given_no {n : Nat} {f : Nat → Bool} {v : Nat → PyData} (h : f n = false) : given (n + 1) f v = given n f v := by
  unfold given
  rw [List.range_succ, List.filter_append, List.map_append, List.filter_cons, if_neg (by rw [h]; decide)]
  show _ ++ [] = _
  rw [List.append_nil]
theorem given_len (n : Nat) (f : Nat → Bool) (v : Nat → PyData) : (given n f v).length ≤ n := by
  unfold given
  rw [List.length_map]
  have h := List.length_filter_le f (List.range n)
  rw [List.length_range] at h
  exact h
/-- a comprehension: each turn's test is told, and what it gives -/
theorem l_lc {wi : TI} {te : TE} {vs : List Nat} {n : Nat} {f : Nat → PyData} (b : Nat → Bool) (v : Nat → PyData) (h : EiB K c dr ls wi σ B n f) (hn : n ≤ 50000)
    (hs : ∀ i x D acc B1 H1, i < n → Ex B B1 → Ex B1 H1 → Da K B1 x (f i) → ∀ R : L2.St → Hp → Prop,
      (∀ σ2, wipe σ2 vs = wipe σ vs → Et K c dr ((D, .l acc) :: ls) tt σ2 B1 (b i) → (b i = true → EvD K c dr ((D, .l acc) :: ls) te σ2 B1 (v i)) → R σ2 H1) → g x (wipe σ vs) H1 R) : EvL K c dr ls (tLc wi g tt te vs) σ B (given n b v) := fun B1 H1 e1 w Q q => by
  refine h B1 H1 e1 w _ fun J B2 H2 e2 w2 wk => fun D hD => ?_
  refine lc_it wk (fun i H' => ∃ B', Ex B2 B' ∧ Wd K c dr ((D, .l (given i b v)) :: ls) B' H') ⟨B2, Ex.refl _, w2.grow hD ⟨[], upd_same, .nil⟩⟩ (fun i H' _ ⟨B', e', w'⟩ => e'.trans w'.inn) (fun i x H' H'' hlt ⟨B', e', w'⟩ y => ?_) fun H' ⟨B', e', w'⟩ => q D (given n b v) B' H' (e2.trans e') (w2.fresh0 hD) w' rfl
  obtain ⟨B3, e3, up, fx⟩ := y B' e' w'.inn
  have w3 := up _ _ w'
  refine hs i x D (given i b v) B3 H'' hlt ((e1.trans e2).trans (e'.trans e3)) w3.inn fx _ fun σ2 hw ht he => ⟨hw, ?_⟩
  refine ht B3 H'' (Ex.refl _) w3 _ fun k B4 H4 e4 w4 hk => ?_
  subst hk
  cases hb : b i with
  | true =>
    show te σ2 H4 _
    refine he hb B4 H4 e4 w4 _ fun y B5 H5 e5 w5 fy => ?_
    obtain ⟨_, acc, hacc, hd⟩ := w5.own
    refine ⟨acc, hacc, Nat.lt_of_lt_of_le (by rw [hd.len]; exact Nat.lt_of_le_of_lt (given_len i b v) (by omega)) (show 50000 ≤ sizeLine by decide), B5, ((e'.trans e3).trans e4).trans e5, ?_⟩
    rw [given_yes hb]
    exact w5.set ⟨acc ++ [y], upd_same, hd.app (.one fy)⟩ (.inl (w2.fresh0 hD))
  | false =>
    show ∃ B', _
    rw [given_no hb]
    exact ⟨B4, (e'.trans e3).trans e4, w4⟩
theorem t_yes : Et K c dr ls tYes σ B true := fun B1 H1 _ w Q q => q true B1 H1 (Ex.refl _) w rfl
end
end GB
/-! The text, the facts of its top, calls by name. -/
namespace GB
open PySem PySem.Spec PyProof.Rows L2
open Evl (Ex)
def top (i : Nat) : Stmt := PySem.Challenge.pw_growblind_k85_whole_order_of_least_polic.main.body.getD i (.Pass ⟨0, 0, 0, 0⟩)
abbrev FnP (K : PySem.W.Frag) (x : Str) (st : Stmt) (kws : List (Str × V)) (f : Addr) (fd : FuncData) : Prop := FunD K x x (defArgs st) (defBody st) (defScope st) [] kws f fd
/-- a def stands under its name -/
def Df (K : PySem.W.Frag) (mg : Str → Option Value) (x : Str) (st : Stmt) (kws : List (Str × V) := []) : Prop := ∃ f fd, FnP K x st kws f fd ∧ mg x = some (.ref f)
/-- what else stands in the top -/
structure Tx (K : PySem.W.Frag) (mg : Str → Option Value) : Prop where
  len : mg "len" = none
  isinstance : mg "isinstance" = none
  abs : mg "abs" = none
  any : mg "any" = none
  repr : mg "repr" = none
  max : mg "max" = none
  sorted : mg "sorted" = none
  tuple : mg "tuple" = none
  list : mg "list" = none
  int : mg "int" = none
  bool : mg "bool" = none
  dict : mg "dict" = none
  range : mg "range" = none
  enumerate : mg "enumerate" = none
  zip : mg "zip" = none
  endless : ∃ a, mg "ENDLESS" = some (.ref a) ∧ ∀ H, SqT K H a [.str "endless"]
/-- a def that may be called -/
def Cl (P : Program) (w : World) (K : PySem.W.Frag) (mg : Str → Option Value) (base : Heap) (k : Nat) (x : Str) (sp : Sp) (dvs : List V) : Prop :=
  ∃ (f : Addr) (fd : FuncData) (ps : List Str) (ds : List Value), FnOk P w K mg base CX0 k f fd ps sp ∧ mg x = some (.ref f) ∧ PySem.W.keepIn K (.ref f) = true ∧ Binds K fd ps ds ∧ Vals dvs ds
section
variable {P : Program} {w : World} {K : PySem.W.Frag} {mg : Str → Option Value} {base : Heap}
theorem cl_of {x : Str} {st : Stmt} {N ps : List Str} {k : Nat} {sp : Sp} (d : Df K mg x st) (S : FnScope N ps (defScope st)) (b : ∀ f fd, FnP K x st [] f fd → Binds K fd ps []) (len : ∀ vs H Q E, sp vs H Q E → vs.length = ps.length)
    (hbody : ∀ (cdv : Value) (f : Addr) (A : Around) (outer : List Env) (s : Shared) (H : Hp) (vs : List V) (Q : VK) (E : XK), Room k (A.deeper (envOfC x (defScope st) s.heap.objs.size f cdv)) → sp vs H Q E →
      ∃ t, PSs (cxOf CX0 P w K mg base N x (defScope st) f cdv A outer s H E).nox (defBody st) t ∧ t { nx := fun _ H' => Q .non H', rt := Q } (start N vs) H) : Cl P w K mg base (k + 1) x sp [] := by
  obtain ⟨f, fd, F, gm⟩ := d
  refine ⟨f, fd, ps, [], F.ok S len fun cdv A outer s H vs Q E hr h => ?_, gm, F.kp, b f fd F, .nil⟩
  obtain ⟨t, ht, q⟩ := hbody cdv f A outer s H vs Q E hr h
  exact ⟨t, PSs.nox ht, q⟩
end
section
variable {X : Cx} {k j : Nat} {x : Str} {sp : Sp} {dvs : List V} {p pos : Pos} {e : Expr} {es : List Expr} {t : TA}
theorem pe_cl (c : Cl X.prog X.w X.K X.mg X.base k x sp dvs) (hr : Room j X.A) (hk : k ≤ j) (hg : Gl X x) (ha : PA X (e :: es) t)
    (hdb : (x == ("__debug__" : Str)) = false := by decide) (he : starEach (e :: es) X.env = (false, eval e X.env) :: starEach es X.env := by rfl) (hpl : (backTo pos (starEach es X.env)).any (·.1) = false := by rfl) :
    PE X (.Call (.Name x p) (e :: es) [] pos) (tCall sp dvs E0 t) := by
  obtain ⟨f, fd, ps, ds, F, hm, kp, b, d⟩ := c
  exact pe_call F (hr.mono hk) hg hm kp b d pass0 ha hdb he hpl
/-- a tuple of the module's top, by its name -/
theorem pe_gt (hg : Gl X x) {a : Addr} (h : X.mg x = some (.ref a)) (hd : (x == ("__debug__" : Str)) = false := by decide) : PE X (.Name x pos) (tC (.ref a)) := pe_glob hg h rfl hd
theorem pe_gc (hg : Gl X x) {vs : List V} (h : ∃ a, X.mg x = some (.ref a) ∧ ∀ H, SqT X.K H a vs) (hd : (x == ("__debug__" : Str)) = false := by decide) : PE X (.Name x pos) (tC (.ref h.choose)) := pe_gt hg h.choose_spec.1 hd
theorem ixT {X : Cx} (K : PySem.W.Frag) (h : X.K = K := by rfl) : IxR X (rIxT K) := h ▸ ix_tup
theorem ixL {X : Cx} (K : PySem.W.Frag) (h : X.K = K := by rfl) : IxR X (rIxL K) := h ▸ ix_list
theorem slT {X : Cx} (K : PySem.W.Frag) (h : X.K = K := by rfl) : SlR X (rSlT K) := h ▸ sl_tup
theorem slL {X : Cx} (K : PySem.W.Frag) (h : X.K = K := by rfl) : SlR X (rSlL K) := h ▸ sl_list
theorem opCatT {X : Cx} (K : PySem.W.Frag) (h : X.K = K := by rfl) : OpR X (binaryOp .Add) (rCatT K) := h ▸ op_catT
theorem opIn {X : Cx} (K : PySem.W.Frag) (h : X.K = K := by rfl) : OpR X (compareOp .In) (rIn K false) := h ▸ op_in_seq
theorem opNotIn {X : Cx} (K : PySem.W.Frag) (h : X.K = K := by rfl) : OpR X (compareOp .NotIn) (rIn K true) := h ▸ op_notIn_seq
theorem opEqD {X : Cx} (K : PySem.W.Frag) (hu : X.A.units + 64 < cLine) (h : X.K = K := by rfl) : OpR X (compareOp .Eq) (rEqD K) := h ▸ op_eqD hu
theorem opNeD {X : Cx} (K : PySem.W.Frag) (hu : X.A.units + 64 < cLine) (h : X.K = K := by rfl) : OpR X (compareOp .NotEq) (rNeD K) := h ▸ op_neD hu
theorem opInD {X : Cx} (K : PySem.W.Frag) (hu : X.A.units + 65 < cLine) (h : X.K = K := by rfl) : OpR X (compareOp .In) (rInD K) := h ▸ op_inD hu
theorem pgTup {X : Cx} (K : PySem.W.Frag) {es : List Expr} {k : Nat} {t : TGs} {n : Nat} {pos : Pos} (h : PGs X es t) (hK : X.K = K := by rfl) (hc : X.calm = true := by rfl)
    (hn : (assignEach es X.env).length = n := by rfl) (hst : (assignEach es X.env).findIdx? (·.1) = none := by rfl) : PG X (.Tuple es k pos) (gTup K n t) := hK ▸ pg_tup hc h hn hst
theorem room65 {A : Around} (hr : Room k A) : A.units + 65 < cLine := by
  have := hr.un
  omega
theorem pip_op {op : Operator} {r : R2} (h : OpR X (inplaceOp op) r) : PIp X op (fun v w => r v w) := by
  exact h
end
theorem scC_by {N P : List Str} {sc : Scope} (h : C8.scC N P sc = true) : FnScope N P sc := C8.fnScope_by h
end GB
/-! Own rules: pairs that are made turn by turn; the rest. -/
namespace GB
open PySem PySem.Spec PyProof.Rows L2
open Evl (Ex)
/-- an iterator of new pairs: S tells which -/
def itP (S : Hp → List (V × V) → Prop) : It where
  go i H := ∃ zs, S H zs ∧ i < zs.length
  yld i H v H' := ∃ T, v = .ref T ∧ H T = none ∧ ∀ zs, S H zs → ∃ z, zs[i]? = some z ∧ H' = upd H T (.tup [z.1, z.2])
  stop i H := ∃ zs, S H zs ∧ zs.length ≤ i
def numb (xs : List V) : List (V × V) := xs.zipIdx.map fun e => (.int ((e.2 : Nat) : Int), e.1)
def enumT (K : PySem.W.Frag) (a : Addr) (H : Hp) (zs : List (V × V)) : Prop := ∃ xs, SqT K H a xs ∧ zs = numb xs
def zipped (S1 S2 : Hp → List V → Prop) (H : Hp) (zs : List (V × V)) : Prop := ∃ xs ys, S1 H xs ∧ S2 H ys ∧ xs.length = ys.length ∧ zs = xs.zip ys
def iEnumT (K : PySem.W.Frag) (ta : TA) : TI := fun σ H R => ta σ H fun vs H1 => ∃ a xs, vs = [.ref a] ∧ SqT K H1 a xs ∧ R (itP (enumT K a)) H1
def iEnumE (K : PySem.W.Frag) (ta : TA) : TI := fun σ H R => ta σ H fun vs H1 => ∃ a, vs = [.ref a] ∧ ((∃ xs, SqL K H1 a xs ∧ R (Ite K a) H1) ∨ ∃ xs, SqT K H1 a xs ∧ R (itP (enumT K a)) H1)
def iZipS (K : PySem.W.Frag) (ta : TA) : TI := fun σ H R => ta σ H fun vs H1 => ∃ a b xs ys, vs = [.ref a, .ref b] ∧ SqL K H1 a xs ∧ SqL K H1 b ys ∧ R (itP (zipped (fun H => SqL K H a) fun H => SqL K H b)) H1
def iZipM (K : PySem.W.Frag) (ta : TA) : TI := fun σ H R => ta σ H fun vs H1 => ∃ a b xs ys, vs = [.ref a, .ref b] ∧ SqL K H1 a xs ∧ SqT K H1 b ys ∧ R (itP (zipped (fun H => SqL K H a) fun H => SqT K H b)) H1
/-- the items of a dict that nobody else holds: it is locked from then on -/
def iItemsN (td : TE) : TI := fun σ H R => td σ H fun x H1 => ∃ d kvs, x = .ref d ∧ H1 d = some (.dK kvs) ∧ ∀ o, R (Iti d o kvs) (upd H1 d (.frz o (.dK kvs)))
/-- list(enumerate(xs)) -/
def tListEnum (K : PySem.W.Frag) (ta : TA) : TE := fun σ H Q => ta σ H fun vs H1 => ∃ a xs, vs = [.ref a] ∧ SqL K H1 a xs ∧
  ∀ (ts : List Addr) (p : Addr) (H2 : Hp), (∀ b o, H1 b = some o → H2 b = some o) → H1 p = none → p ∉ ts → H2 p = some (.lst (ts.map V.ref)) → ts.length = xs.length →
    (∀ i t x, ts[i]? = some t → xs[i]? = some x → H1 t = none ∧ H2 t = some (.tup [.int (i : Nat), x])) → Q (.ref p) H2
/-- max(xs, default=d) of ints -/
def rMaxd (K : PySem.W.Frag) : List V → List V → Hp → VK → Prop := fun vs ws H Q => ∃ (a : Addr) (ns : List Int) (d : Int), vs = [.ref a] ∧ ws = [.int d] ∧ SqL K H a (ns.map V.int) ∧
  ∀ m, (ns = [] → m = d) → (ns ≠ [] → m ∈ ns ∧ ∀ y, y ∈ ns → y ≤ m) → Q (.int m) H
def rReprD (K : PySem.W.Frag) : List V → Hp → VK → Prop := fun vs H Q => ∃ x d, vs = [x] ∧ Dp K H x d ∧ (∃ a, x = .ref a) ∧ d.showable = true ∧ d.hasDict = false ∧ d.shown.length ≤ sizeLine ∧ d.depth ≤ 60 ∧ Q (.str d.shown) H
end GB
/-! enumerate over a tuple. -/
namespace GB
open PySem PySem.Spec PyProof.Rows L2
open Evl (Ex)
theorem numb_len0 {xs : List V} : (numb xs).length = xs.length := by
  unfold numb
  rw [List.length_map, List.length_zipIdx]
theorem numb_at0 {xs : List V} {i : Nat} : (numb xs)[i]? = xs[i]?.map fun x => (.int (i : Nat), x) := by
  unfold numb
  rw [List.getElem?_map, List.getElem?_zipIdx]
  cases xs[i]? <;> simp
/-- what enumerate(v) leaves: the iterator of v, then the counter -/
def cnt0 (o : Obj) (h : Heap) : Heap := (h.push o).push { cls := .type "enumerate", data := .fields #[.none, .bool false, .ref h.objs.size, rawInt 0, .none, .none] }
theorem en_new {v : Value} {o : Obj} {S : Heap → Prop} (B : Begins v o S) :
    Meets (Builtin.«enumerate.__new__» ⟨[.type "enumerate", v], []⟩) fun _ R s => S s.heap ∧ R (.ok (.ret (.ref (s.heap.push o).objs.size))) { s with heap := cnt0 o s.heap } :=
  .of_wp fun prog w A R s hh => by
    obtain ⟨hp, g, d, tk, os⟩ := s
    obtain ⟨hS, hR⟩ := hh
    have hsub := sub_enumerate
    have begin_ : ∀ {A1 : Around} {E1 Q1 : Value → Shared → Prop}, Q1 (.ref hp.objs.size) ⟨hp.push o, g, d, tk, os⟩ → wpAny (model prog w) A1 (pyIter v) Q1 E1 ⟨hp, g, d, tk, os⟩ := fun k => B.iter prog w _ _ ⟨hp, g, d, tk, os⟩ _ hS k
    wp_walk using begin_
    refine wpAny_stack_any fun _ => wpAny_pure ?_
    split
    · rename_i kk _ _ _ _ _
      cases (kk == Value.type "enumerate") <;> (wp_walk using begin_; exact ⟨_, rfl, hR⟩)
    · wp_walk using begin_
      exact ⟨_, rfl, hR⟩
theorem en_call {prog : Program} {w : World} {A : Around} {E Q : Value → Shared → Prop} {s : Shared} {v : Value} {o : Obj} {S : Heap → Prop} (B : Begins v o S) (hS : S s.heap)
    (k : Q (.ref (s.heap.objs.size + 1)) { s with heap := cnt0 o s.heap }) : wpAny (model prog w) A (call (.type "enumerate") [v]) Q E s := by
  refine callType_new F.called_enumerate (by decide) (F.typeCall_enumerate_1 _) (F.newCall_enumerate_1 _) (fun ob => F.args_object_init_2 ob _) F.entry_enumerate_new (en_new B) ⟨hS, ?_⟩
  have z : (s.heap.push o).objs.size = s.heap.objs.size + 1 := Heap.size_push ..
  show _ ∧ _
  rw [z]
  have g := Heap.get?_push_size (s.heap.push o) (o := { cls := .type "enumerate", data := .fields #[.none, .bool false, .ref s.heap.objs.size, rawInt 0, .none, .none] }) rfl
  rw [z] at g
  exact ⟨⟨_, g, rfl⟩, k⟩
theorem cnt0_is {o : Obj} {h : Heap} : IsEnum (cnt0 o h) (h.objs.size + 1) h.objs.size 0 .none := by
  have z : (h.push o).objs.size = h.objs.size + 1 := Heap.size_push ..
  have g := Heap.get?_push_size (h.push o) (o := { cls := .type "enumerate", data := .fields #[.none, .bool false, .ref h.objs.size, rawInt 0, .none, .none] }) rfl
  rw [z] at g
  exact g
theorem cnt0_keep {o : Obj} {h : Heap} {b : Addr} {u : Obj} (e : h.get? b = some u) : (cnt0 o h).get? b = some u := Heap.get?_push_of_some _ (Heap.get?_push_of_some _ e)
theorem cnt0_it {o : Obj} {h : Heap} (f : o.isFreed = false) : (cnt0 o h).get? h.objs.size = some o := Heap.get?_push_of_some _ (Heap.get?_push_size _ f)
/-- where enumerate of the tuple at a stands at turn i -/
def EnTu (a c it : Addr) (i : Nat) (h : Heap) : Prop := (∃ old, IsEnum h c it ((i : Nat) : Int) old) ∧ h.IsTupleIter it a i ∧ c ≠ it ∧ c ≠ a ∧ it ≠ a
theorem turn_enT {P : Program} {w : World} {K : PySem.W.Frag} {elts : List Expr} {kk : Nat} {tpos : Pos} (a c it : Addr) : Turn P w K (.Tuple elts kk tpos) (itP (enumT K a)) [c, it] c (EnTu a c it) where
  mem := List.mem_cons_self
  obj := fun i h st b hb => by
    obtain ⟨⟨_, h1⟩, ⟨u, h2, _, h3⟩, _⟩ := st
    rcases List.mem_cons.mp hb with z | z
    · subst z
      exact ⟨_, h1, fun _ => nofun⟩
    · rw [List.mem_singleton.mp z]
      exact ⟨u, h2, fun _ y => by rw [h3] at y; cases y⟩
  keep := fun i h h' st k => by
    obtain ⟨⟨old, h1⟩, h2, h3⟩ := st
    exact ⟨⟨old, k c List.mem_cons_self _ h1⟩, h2.at fun u y => k it (List.mem_cons_of_mem _ List.mem_cons_self) u y, h3⟩
  item := by
    rintro X rfl rfl rfl hc i pins s σ H E I own st ⟨zs, ⟨xs, hq, rfl⟩, hi⟩
    obtain ⟨⟨old, hcn⟩, hit, n1, n2, n3⟩ := st
    rw [numb_len0] at hi
    obtain ⟨us, ru, pt, _⟩ := I.tuple hq
    have hul : us.length = xs.length := ru.length.symm
    have hx : xs[i]? = some xs[i] := List.getElem?_eq_getElem hi
    obtain ⟨u, hu, rxu⟩ := ru.get hx
    have lc : c < s.heap.objs.size := Heap.lt_size hcn
    have li : it < s.heap.objs.size := by
      obtain ⟨_, y, _⟩ := hit
      exact Heap.lt_size y
    have D := Draws.tuple (prog := X.prog) (w := X.w) (A := X.A.in1) (I.ok.hd hc) it a n3.symm us.toArray
    refine wpAny_pyNext_enum_itemC D hcn ⟨hit, pt⟩ (by rw [List.size_toArray]; omega) n1 (by simp [n1, n2]) fun y h' tk hy out st' hT hz hk => ?_
    have hyu : y = u := by
      have hy : us.toArray[i]? = some y := hy
      rw [List.getElem?_toArray, hu] at hy
      exact (Option.some.inj hy).symm
    subst hyu
    refine ⟨_, rfl, wpAny_letOwnedTupleGo_enum (s := { s with heap := h', toks := tk + 1 }) out fun h2 hc2 sb => ?_⟩
    have hT2 : h2.get? s.heap.objs.size = some { cls := .type "tuple", data := .seq #[.int i tk, y] } := (sb.2 _ (Nat.ne_of_gt lc)).trans hT
    have ob : ObjOk X.prog X.w (upd H s.heap.objs.size (.tup [.int (i : Nat), xs[i]])) h2 s.heap.objs.size (.tup [.int (i : Nat), xs[i]]) :=
      ⟨by show 2 ≤ sizeLine; decide, [.int i tk, y], .cons ⟨_, rfl⟩ (.cons rxu .nil), ⟨_, hT2, rfl, _, rfl⟩⟩
    have J : Inv X pins σ (upd H s.heap.objs.size (.tup [.int (i : Nat), xs[i]])) { s with heap := h2, toks := tk + 1 } :=
      I.turnedNew (ch := [c, it]) (fun b o hb q => (sb.2 b fun z => hb (z ▸ List.mem_cons_self)).trans (hk b o (fun z => hb (z ▸ List.mem_cons_self)) (fun z => hb (z ▸ List.mem_cons_of_mem _ List.mem_cons_self)) q)) own (Nat.le_refl _) ob
    refine ⟨.ref s.heap.objs.size, _, J, rfl, ⟨_, rfl, I.hok.fresh (Nat.le_refl _), ?_⟩, ⟨⟨y, ?_⟩, st'.1.at fun o q => (sb.2 it n1.symm).trans q, n1, n2, n3⟩, fun b hb => ?_⟩
    · rintro zs ⟨ys, hy, rfl⟩
      have : ys = xs := I.tuple_inj hy hq
      subst this
      exact ⟨(.int (i : Nat), ys[i]), by rw [numb_at0, hx]; rfl, rfl⟩
    · have e1 : ((i + 1 : Nat) : Int) = (i : Int) + 1 := Int.natCast_succ i
      rw [e1]
      exact hc2
    · have lb : b < s.heap.objs.size := by
        rcases List.mem_cons.mp hb with z | z
        · rw [z]; exact lc
        · rw [List.mem_singleton.mp z]; exact li
      rw [upd_ne (Nat.ne_of_lt lb)]
      exact (own b hb).1
  done := by
    rintro X rfl rfl rfl hc i pins s σ H E I own st ⟨zs, ⟨xs, hq, rfl⟩, hi⟩
    obtain ⟨⟨old, hcn⟩, hit, n1, n2, n3⟩ := st
    rw [numb_len0] at hi
    obtain ⟨us, ru, pt, _⟩ := I.tuple hq
    have hul : us.length = xs.length := ru.length.symm
    obtain ⟨g0, g1, g2, g3, g4, g5⟩ := own it (List.mem_cons_of_mem _ List.mem_cons_self)
    have D : Draws X.prog X.w X.A.in1 it [it, a] i (fun _ _ => True) (fun j h => j = i ∧ h.IsTupleIter it a i ∧ h.IsTuple a us.toArray) :=
      { live := fun _ _ st => let ⟨o, ho, _⟩ := st.2.1; ⟨o, ho⟩
        frame := fun _ _ _ st hk => ⟨st.1, st.2.1.at fun o e => hk it (by simp) o e, st.2.2.at fun o e => hk a (by simp) o e⟩
        item := fun j s Q E hj st _ => absurd st.1 (Nat.ne_of_lt hj)
        done := fun s Q E st hE => wpAny_nextOf_tuple_end (I.ok.hd hc) st.2.1 st.2.2 (by rw [List.getElem?_toArray]; exact List.getElem?_eq_none (by omega)) hE }
    exact wpAny_pyNext_enum_endD D hcn ⟨rfl, hit, pt⟩ fun h' eb => ⟨rfl, I.turned (t' := s.toks) (fun b o hb q => eb b o hb q) g0 g1 g3 g4 g5⟩
  self := fun A i s Q E st h => wpAny_pyIter_enum st.1.choose_spec h
section
variable {X : Cx} {e : Expr} {ta : TA} {p pos tpos : Pos} {elts : List Expr} {kk : Nat}
theorem pi_enumE (hg : Gl X "enumerate") (hm : X.mg "enumerate" = none) (ha : PA X [e] ta) (hs : starEach [e] X.env = [(false, eval e X.env)] := by rfl) :
    PI X (.Tuple elts kk tpos) (.Call (.Name "enumerate" p) [e] [] pos) (iEnumE X.K ta) := by
  refine ⟨fun pins s σ H R I h => ?_⟩
  refine Call_ (ld_blt I hg hm boot_enumerate (PyProof.Rows.callWith_type1 (thn (ha.run pos pins s σ H _ I h) fun us s1 ⟨vs, H1, I1, r1, q1⟩ => ?_) hs rfl))
  obtain ⟨a, ex, q⟩ := q1
  subst ex
  cases r1 with
  | cons r rr =>
    cases rr
    cases r
    have own1 : ∀ b, b = s1.heap.objs.size + 1 ∨ b = s1.heap.objs.size → s1.heap.objs.size ≤ b := fun b hb => by
      rcases hb with z | z
      · rw [z]; exact Nat.le_add_right _ _
      · rw [z]; exact Nat.le_refl _
    rcases q with ⟨xs, hq, q⟩ | ⟨xs, hq, q⟩
    · obtain ⟨us, ru, pl, _⟩ := I1.list hq
      refine call_enumerate_list pl.isList fun h' he hit _ hk => wpAny_pyIter_enum he ?_
      refine ⟨s1.heap.objs.size + 1, [s1.heap.objs.size + 1, s1.heap.objs.size], _, _, H1, rfl, I1.kept (t' := s1.toks) hk, turn_enum a (s1.heap.objs.size + 1) s1.heap.objs.size, ⟨⟨.none, he⟩, hit, Nat.succ_ne_self _⟩, fun b hb => ?_, q⟩
      have hle := own1 b (by simpa using hb)
      exact I1.fpOk hle (I1.hok.fresh hle)
    · obtain ⟨us, ru, pt, _⟩ := I1.tuple hq
      refine en_call (begins_tuple a us.toArray) pt (wpAny_pyIter_enum cnt0_is ?_)
      have la : a < s1.heap.objs.size := pt.lt
      refine ⟨s1.heap.objs.size + 1, [s1.heap.objs.size + 1, s1.heap.objs.size], EnTu a (s1.heap.objs.size + 1) s1.heap.objs.size, _, H1, rfl, I1.kept (t' := s1.toks) (fun b o y => cnt0_keep y), turn_enT a _ _, ⟨⟨.none, cnt0_is⟩, ⟨_, cnt0_it rfl, rfl, rfl⟩, Nat.succ_ne_self _, Nat.ne_of_gt (Nat.lt_succ_of_lt la), Nat.ne_of_gt la⟩, fun b hb => ?_, q⟩
      have hle := own1 b (by simpa using hb)
      exact I1.fpOk hle (I1.hok.fresh hle)
theorem pi_enumT (hg : Gl X "enumerate") (hm : X.mg "enumerate" = none) (ha : PA X [e] ta) (hs : starEach [e] X.env = [(false, eval e X.env)] := by rfl) :
    PI X (.Tuple elts kk tpos) (.Call (.Name "enumerate" p) [e] [] pos) (iEnumT X.K ta) := by
  refine ⟨fun pins s σ H R I h => ?_⟩
  refine Call_ (ld_blt I hg hm boot_enumerate (PyProof.Rows.callWith_type1 (thn (ha.run pos pins s σ H _ I h) fun us s1 ⟨vs, H1, I1, r1, q1⟩ => ?_) hs rfl))
  obtain ⟨a, xs, ex, hq, q⟩ := q1
  subst ex
  cases r1 with
  | cons r rr =>
    cases rr
    cases r
    obtain ⟨us, ru, pt, _⟩ := I1.tuple hq
    refine en_call (begins_tuple a us.toArray) pt (wpAny_pyIter_enum cnt0_is ?_)
    have la : a < s1.heap.objs.size := pt.lt
    refine ⟨s1.heap.objs.size + 1, [s1.heap.objs.size + 1, s1.heap.objs.size], EnTu a (s1.heap.objs.size + 1) s1.heap.objs.size, _, H1, rfl, I1.kept (t' := s1.toks) (fun b o y => cnt0_keep y), turn_enT a _ _, ⟨⟨.none, cnt0_is⟩, ⟨_, cnt0_it rfl, rfl, rfl⟩, Nat.succ_ne_self _, Nat.ne_of_gt (Nat.lt_succ_of_lt la), Nat.ne_of_gt la⟩, fun b hb => ?_, q⟩
    have hb : b = s1.heap.objs.size + 1 ∨ b = s1.heap.objs.size := by simpa using hb
    have hle : s1.heap.objs.size ≤ b := by
      rcases hb with z | z
      · rw [z]; exact Nat.le_add_right _ _
      · rw [z]; exact Nat.le_refl _
    exact I1.fpOk hle (I1.hok.fresh hle)
end
end GB
/-! zip of two rows, drawn by whatever draws them. -/
namespace GB
open PySem PySem.Spec PyProof.Rows L2
open Evl (Ex)
/-- S tells what stands at a; the iterator at it draws it. Sg: where the iterator stands -/
structure Drw (K : PySem.W.Frag) (S : Hp → List V → Prop) (a it : Addr) (Sg : Nat → Heap → Prop) : Prop where
  cell : ∀ i h, Sg i h → ∃ o, h.get? it = some o ∧ ∀ v, o.data ≠ .cell v
  keep : ∀ i h h', Sg i h → (∀ o, h.get? it = some o → h'.get? it = some o) → Sg i h'
  draw : ∀ {X : Cx} {pins : List (Addr × Obj)} {σ : L2.St} {H : Hp} {s : Shared} {xs : List V}, X.K = K → X.calm = true → Inv X pins σ H s → S H xs →
    ∃ (us : List Value) (Pl : Heap → Prop), us.length = xs.length ∧ (∀ (i : Nat) x, xs[i]? = some x → ∃ u, us[i]? = some u ∧ RelV x u) ∧ Pl s.heap ∧
      Draws X.prog X.w X.A.in1 it [it, a] us.length (fun i v => us[i]? = some v) (fun i h => Sg i h ∧ Pl h) ∧
      ∀ k, us.length ≤ k → Draws X.prog X.w X.A.in1 it [it, a] k (fun _ _ => False) fun j h => (j = k ∧ Sg k h) ∧ Pl h
  inj : ∀ {X : Cx} {pins : List (Addr × Obj)} {σ : L2.St} {H : Hp} {s : Shared} {xs ys : List V}, X.K = K → Inv X pins σ H s → S H xs → S H ys → xs = ys
theorem drwL {K : PySem.W.Frag} {a it : Addr} (ne : a ≠ it) : Drw K (fun H => SqL K H a) a it fun i h => h.IsListIter it a i where
  cell := fun i h ⟨u, h2, _, h3⟩ => ⟨u, h2, fun _ y => by rw [h3] at y; cases y⟩
  keep := fun i h h' st k => st.at fun u y => k u y
  draw := by
    rintro X pins σ H s xs rfl hc I hq
    obtain ⟨us, ru, pl, _⟩ := I.list hq
    refine ⟨us, fun h => h.IsList a us.toArray, ru.length.symm, fun i x hx => ru.get hx, pl.isList, ?_, fun k hk => ?_⟩
    · have D := Draws.list (prog := X.prog) (w := X.w) (A := X.A.in1) (I.ok.hd hc) it a ne us.toArray
      have e1 : us.toArray.size = us.length := List.size_toArray ..
      rw [e1] at D
      have e2 : (fun i v => us.toArray[i]? = some v) = fun (i : Nat) (v : Value) => us[i]? = some v := funext fun i => funext fun v => by rw [List.getElem?_toArray]
      rw [e2] at D
      exact D
    · exact { live := fun _ _ st => let ⟨o, ho, _⟩ := st.1.2; ⟨o, ho⟩
              frame := fun _ _ _ st kk => ⟨⟨st.1.1, st.1.2.at fun o e => kk it (by simp) o e⟩, st.2.at fun o e => kk a (by simp) o e⟩
              item := fun j s Q E hj st _ => absurd st.1.1 (Nat.ne_of_lt hj)
              done := fun s Q E st hE => wpAny_nextOf_list_end (I.ok.hd hc) st.1.2 st.2 (by rw [List.getElem?_toArray]; exact List.getElem?_eq_none hk) hE }
  inj := by
    rintro X pins σ H s xs ys rfl I h1 h2
    exact I.list_inj h1 h2
theorem drwT {K : PySem.W.Frag} {a it : Addr} (ne : a ≠ it) : Drw K (fun H => SqT K H a) a it fun i h => h.IsTupleIter it a i where
  cell := fun i h ⟨u, h2, _, h3⟩ => ⟨u, h2, fun _ y => by rw [h3] at y; cases y⟩
  keep := fun i h h' st k => st.at fun u y => k u y
  draw := by
    rintro X pins σ H s xs rfl hc I hq
    obtain ⟨us, ru, pt, _⟩ := I.tuple hq
    refine ⟨us, fun h => h.IsTuple a us.toArray, ru.length.symm, fun i x hx => ru.get hx, pt, ?_, fun k hk => ?_⟩
    · have D := Draws.tuple (prog := X.prog) (w := X.w) (A := X.A.in1) (I.ok.hd hc) it a ne us.toArray
      have e1 : us.toArray.size = us.length := List.size_toArray ..
      rw [e1] at D
      have e2 : (fun i v => us.toArray[i]? = some v) = fun (i : Nat) (v : Value) => us[i]? = some v := funext fun i => funext fun v => by rw [List.getElem?_toArray]
      rw [e2] at D
      exact D
    · exact { live := fun _ _ st => let ⟨o, ho, _⟩ := st.1.2; ⟨o, ho⟩
              frame := fun _ _ _ st kk => ⟨⟨st.1.1, st.1.2.at fun o e => kk it (by simp) o e⟩, st.2.at fun o e => kk a (by simp) o e⟩
              item := fun j s Q E hj st _ => absurd st.1.1 (Nat.ne_of_lt hj)
              done := fun s Q E st hE => wpAny_nextOf_tuple_end (I.ok.hd hc) st.1.2 st.2 (by rw [List.getElem?_toArray]; exact List.getElem?_eq_none hk) hE }
  inj := by
    rintro X pins σ H s xs ys rfl I h1 h2
    exact I.tuple_inj h1 h2
/-- a zip at z: strict by b; what it hands out stands in f -/
def ZipAt (b : Bool) (h : Heap) (z m o : Addr) (f : Value) : Prop := h.get? z = some { cls := .type "zip", dict := none, data := .fields #[f, .bool false, .bool b, .ref m, .ref o], slots := #[] }
def Two (h : Heap) (t : Addr) (x y : Value) : Prop := h.get? t = some { cls := .type "tuple", data := .seq #[x, y] }
/-- the two steps of a zip over what draws -/
structure ZipGo (b : Bool) : Prop where
  item : ∀ {prog : Program} {w : World} {A : Around} {E : Value → Shared → Prop} {Q : Option Value → Shared → Prop} {s : Shared} {z m o i1 i2 : Addr} {f1 f2 : List Addr} {n1 n2 i : Nat} {P1 P2 : Nat → Value → Prop} {S1 S2 : Nat → Heap → Prop} {a1 a2 : Value},
    ZipSep2 z m o i1 i2 f1 f2 → Draws prog w A.in1 i1 f1 n1 P1 S1 → Draws prog w A.in1 i2 f2 n2 P2 S2 → ZipAt b s.heap z m o .none → Two s.heap m (.ref i1) (.ref i2) → Two s.heap o a1 a2 → S1 i s.heap → S2 i s.heap → i < n1 → i < n2 →
    (∀ x y h' tk, P1 i x → P2 i y → ZipAt b h' z m o (rawInt s.heap.objs.size) → Two h' o x y → S1 (i + 1) h' → S2 (i + 1) h' → Two h' s.heap.objs.size x y → h'.objs.size = s.heap.objs.size + 1 →
      (∀ c u, c ≠ z → c ≠ o → c ≠ i1 → c ≠ i2 → s.heap.get? c = some u → h'.get? c = some u) → Q (some (.ref s.heap.objs.size)) { s with heap := h', toks := tk }) →
    wpAny (model prog w) A (pyNext (.ref z)) Q E s
  last : ∀ {prog : Program} {w : World} {A : Around} {E : Value → Shared → Prop} {Q : Option Value → Shared → Prop} {s : Shared} {z m o i1 i2 : Addr} {f1 f2 : List Addr} {i : Nat} {P1 P2 : Nat → Value → Prop} {S1 S2 : Nat → Heap → Prop} {a1 a2 : Value},
    ZipSep2 z m o i1 i2 f1 f2 → Draws prog w A.in1 i1 f1 i P1 S1 → Draws prog w A.in1 i2 f2 i P2 S2 → ZipAt b s.heap z m o .none → Two s.heap m (.ref i1) (.ref i2) → Two s.heap o a1 a2 → S1 i s.heap → S2 i s.heap → A.handled = none →
    (∀ h' tk, (∀ c u, c ≠ z → c ≠ o → c ≠ i1 → c ≠ i2 → s.heap.get? c = some u → h'.get? c = some u) → Q none { s with heap := h', toks := tk }) →
    wpAny (model prog w) A (pyNext (.ref z)) Q E s
  hand : ∀ {prog : Program} {w : World} {A : Around} {E : Value → Shared → Prop} {s : Shared} {elts : List Expr} {kk : Nat} {pos : Pos} {z m o T : Addr} {Q : Unit → Shared → Prop}, ZipAt b s.heap z m o (rawInt T) →
    (∀ h', ZipAt b h' z m o .none → Heap.SameBut z s.heap h' → Q () { s with heap := h' }) → wpAny (model prog w) A (letOwnedTupleGo (.Tuple elts kk pos) (.ref z) (.ref T)) Q E s
  self : ∀ {prog : Program} {w : World} {A : Around} {E Q : Value → Shared → Prop} {s : Shared} {z m o : Addr} {f : Value}, ZipAt b s.heap z m o f → Q (.ref z) s → wpAny (model prog w) A (pyIter (.ref z)) Q E s
theorem zipGo_lax : ZipGo false where
  item := fun S D1 D2 hz hm ho s1 s2 l1 l2 k => wpAny_pyNext_zipD2_item S D1 D2 hz hm ho s1 s2 l1 l2 k
  last := fun S D1 D2 hz hm ho s1 s2 _ k => wpAny_pyNext_zipD2_end S D1 D2 hz hm ho s1 s2 (Nat.le_refl _) (Nat.le_refl _) (.inl rfl) k
  hand := fun hz k => wpAny_letOwnedTupleGo_zip hz k
  self := fun hz k => wpAny_pyIter_zip hz k
theorem turn_zipO {P : Program} {w : World} {K : PySem.W.Frag} {elts : List Expr} {kk : Nat} {tpos : Pos} {b : Bool} (G : ZipGo b) {S1 S2 : Hp → List V → Prop} {a1 a2 z m o i1 i2 : Addr} {g1 g2 : Nat → Heap → Prop}
    (D1 : Drw K S1 a1 i1 g1) (D2 : Drw K S2 a2 i2 g2) (Z : ZipSep2 z m o i1 i2 [i1, a1] [i2, a2]) :
    Turn P w K (.Tuple elts kk tpos) (itP (zipped S1 S2)) [z, m, o, i1, i2] z fun i h => ZipAt b h z m o .none ∧ Two h m (.ref i1) (.ref i2) ∧ (∃ x y, Two h o x y) ∧ g1 i h ∧ g2 i h where
  mem := List.mem_cons_self
  obj := fun i h ⟨h1, h2, ⟨_, _, h3⟩, h4, h5⟩ c hc => by
    have hc : c = z ∨ c = m ∨ c = o ∨ c = i1 ∨ c = i2 := by simpa using hc
    rcases hc with y | y | y | y | y
    · rw [y]; exact ⟨_, h1, fun _ => nofun⟩
    · rw [y]; exact ⟨_, h2, fun _ => nofun⟩
    · rw [y]; exact ⟨_, h3, fun _ => nofun⟩
    · rw [y]; exact D1.cell _ _ h4
    · rw [y]; exact D2.cell _ _ h5
  keep := fun i h h' ⟨h1, h2, ⟨x, y, h3⟩, h4, h5⟩ k =>
    ⟨k z (by simp) _ h1, k m (by simp) _ h2, ⟨x, y, k o (by simp) _ h3⟩, D1.keep _ _ _ h4 (k i1 (by simp)), D2.keep _ _ _ h5 (k i2 (by simp))⟩
  item := by
    rintro X rfl rfl eK hc i pins s σ H E I own ⟨h1, h2, ⟨x0, y0, h3⟩, h4, h5⟩ ⟨zs, ⟨xs, ys, q1, q2, el, rfl⟩, hi⟩
    rw [List.length_zip] at hi
    obtain ⟨us, p1, lu, ru, pu, du, _⟩ := D1.draw eK hc I q1
    obtain ⟨vs, p2, lv, rv, pv, dv, _⟩ := D2.draw eK hc I q2
    have lx : xs[i]? = some xs[i] := List.getElem?_eq_getElem (by omega)
    have ly : ys[i]? = some ys[i] := List.getElem?_eq_getElem (by omega)
    obtain ⟨u, hu, rxu⟩ := ru i _ lx
    obtain ⟨v, hv, ryv⟩ := rv i _ ly
    have lz : z < s.heap.objs.size := Heap.lt_size h1
    refine G.item Z du dv h1 h2 h3 ⟨h4, pu⟩ ⟨h5, pv⟩ (by omega) (by omega) fun x y h' tk ex ey z1 o1 s1 s2 t1 _ kp => ?_
    have ex : x = u := Option.some.inj (ex.symm.trans hu)
    have ey : y = v := Option.some.inj (ey.symm.trans hv)
    subst ex ey
    refine ⟨_, rfl, G.hand (s := { s with heap := h', toks := tk }) z1 fun h2' z2 sb => ?_⟩
    have ob : ObjOk X.prog X.w (upd H s.heap.objs.size (.tup [xs[i], ys[i]])) h2' s.heap.objs.size (.tup [xs[i], ys[i]]) :=
      ⟨by show 2 ≤ sizeLine; decide, [x, y], .cons rxu (.cons ryv .nil), ⟨_, (sb.2 _ (Nat.ne_of_gt lz)).trans t1, rfl, _, rfl⟩⟩
    have J : Inv X pins σ (upd H s.heap.objs.size (.tup [xs[i], ys[i]])) { s with heap := h2', toks := tk } :=
      I.turnedNew (ch := [z, m, o, i1, i2]) (fun c u' hb y' => (sb.2 c (fun e => hb (by simp [e]))).trans (kp c u' (fun e => hb (by simp [e])) (fun e => hb (by simp [e])) (fun e => hb (by simp [e])) (fun e => hb (by simp [e])) y')) own (Nat.le_refl _) ob
    refine ⟨.ref s.heap.objs.size, _, J, rfl, ⟨_, rfl, I.hok.fresh (Nat.le_refl _), ?_⟩, ⟨z2, (sb.2 _ Z.TIz).trans (kp _ _ Z.TIz Z.TITO Z.TIi1 Z.TIi2 h2), ⟨x, y, (sb.2 _ Z.TOz).trans o1⟩, D1.keep _ _ _ s1.1 fun u' e => (sb.2 _ Z.zi1.symm).trans e, D2.keep _ _ _ s2.1 fun u' e => (sb.2 _ Z.zi2.symm).trans e⟩, fun c hcm => ?_⟩
    · rintro zs ⟨xs', ys', q1', q2', _, rfl⟩
      have e1 : xs' = xs := D1.inj eK I q1' q1
      have e2 : ys' = ys := D2.inj eK I q2' q2
      subst e1 e2
      exact ⟨(xs'[i], ys'[i]), by rw [List.getElem?_zip_eq_some]; exact ⟨lx, ly⟩, rfl⟩
    · have lt : c < s.heap.objs.size := by
        have hcm : c = z ∨ c = m ∨ c = o ∨ c = i1 ∨ c = i2 := by simpa using hcm
        rcases hcm with y' | y' | y' | y' | y'
        · rw [y']; exact lz
        · rw [y']; exact Heap.lt_size h2
        · rw [y']; exact Heap.lt_size h3
        · rw [y']; exact Heap.lt_size (D1.cell _ _ h4).choose_spec.1
        · rw [y']; exact Heap.lt_size (D2.cell _ _ h5).choose_spec.1
      rw [upd_ne (Nat.ne_of_lt lt)]
      exact (own c hcm).1
  done := by
    rintro X rfl rfl eK hc i pins s σ H E I own ⟨h1, h2, ⟨x0, y0, h3⟩, h4, h5⟩ ⟨zs, ⟨xs, ys, q1, q2, el, rfl⟩, hi⟩
    rw [List.length_zip] at hi
    obtain ⟨us, p1, lu, ru, pu, _, du⟩ := D1.draw eK hc I q1
    obtain ⟨vs, p2, lv, rv, pv, _, dv⟩ := D2.draw eK hc I q2
    refine G.last Z (du i (by omega)) (dv i (by omega)) h1 h2 h3 ⟨⟨rfl, h4⟩, pu⟩ ⟨⟨rfl, h5⟩, pv⟩ (I.ok.hd hc) fun h' tk kp => ⟨rfl, I.turnedL (t' := tk) (ch := [z, m, o, i1, i2]) (fun c u' hb y' =>
      kp c u' (fun e => hb (by simp [e])) (fun e => hb (by simp [e])) (fun e => hb (by simp [e])) (fun e => hb (by simp [e])) y') own⟩
  self := fun A i s Q E st h => G.self st.1 h
end GB
/-! zip over two rows: the calls. -/
namespace GB
open PySem PySem.Spec PyProof.Rows L2
open Evl (Ex)
theorem zipSep {N a b : Nat} (la : a < N) (lb : b < N) : ZipSep2 (N + 4) (N + 2) (N + 3) N (N + 1) [N, a] [N + 1, b] :=
  zip_sep2 (by intro c hc; rw [List.mem_singleton.mp hc]; exact la) (by intro c hc; rw [List.mem_singleton.mp hc]; exact lb)
theorem zip_own {X : Cx} {pins : List (Addr × Obj)} {σ : L2.St} {H : Hp} {s : Shared} (I : Inv X pins σ H s) :
    ∀ c ∈ [s.heap.objs.size + 4, s.heap.objs.size + 2, s.heap.objs.size + 3, s.heap.objs.size, s.heap.objs.size + 1], FpOk X pins H c := fun c hc => by
  have le : s.heap.objs.size ≤ c := by
    have hc : c = s.heap.objs.size + 4 ∨ c = s.heap.objs.size + 2 ∨ c = s.heap.objs.size + 3 ∨ c = s.heap.objs.size ∨ c = s.heap.objs.size + 1 := by simpa using hc
    rcases hc with y | y | y | y | y
    · rw [y]; exact Nat.le_add_right _ _
    · rw [y]; exact Nat.le_add_right _ _
    · rw [y]; exact Nat.le_add_right _ _
    · rw [y]; exact Nat.le_refl _
    · rw [y]; exact Nat.le_add_right _ _
  exact I.fpOk le (I.hok.fresh le)
section
variable {X : Cx} {e e2 : Expr} {ta : TA} {p pos tpos p2 p3 : Pos} {elts : List Expr} {kk kc : Nat}
theorem pi_zipLT (hg : Gl X "zip") (hm : X.mg "zip" = none) (ha : PA X [e, e2] ta)
    (hs : starEach [e, e2] X.env = (false, eval e X.env) :: starEach [e2] X.env := by rfl) (hpl : (backTo pos (starEach [e2] X.env)).any (·.1) = false := by rfl) :
    PI X (.Tuple elts kk tpos) (.Call (.Name "zip" p) [e, e2] [] pos) (iZipM X.K ta) := by
  refine ⟨fun pins s σ H R I h => ?_⟩
  refine Call_ (ld_blt I hg hm PyProof.Rows.boot_zip (PyProof.Rows.callWith_type1 (thn (ha.run pos pins s σ H _ I h) fun us s1 ⟨vs, H1, I1, r1, q1⟩ => ?_) hs hpl))
  obtain ⟨a, b, xs, ys, ex, hqx, hqy, q⟩ := q1
  subst ex
  cases r1 with
  | cons r rr =>
    cases rr with
    | cons r' rr =>
      cases rr
      cases r
      cases r'
      obtain ⟨us, ru, pl, _⟩ := I1.list hqx
      obtain ⟨vs, rv, pt, _⟩ := I1.tuple hqy
      have la : a < s1.heap.objs.size := pl.lt
      have lb : b < s1.heap.objs.size := pt.lt
      refine zip_begins2 (begins_list a us.toArray) (begins_tuple b vs.toArray) pl.isList pt fun h' hz hm ho g1 g2 hsz hk => zipGo_lax.self hz ?_
      exact ⟨s1.heap.objs.size + 4, _, _, _, H1, rfl, I1.kept (t' := s1.toks) hk, turn_zipO zipGo_lax (drwL (Nat.ne_of_lt la)) (drwT (Nat.ne_of_lt (Nat.lt_succ_of_lt lb))) (zipSep la lb), ⟨hz, hm, ⟨_, _, ho⟩, ⟨_, g1, rfl, rfl⟩, ⟨_, g2, rfl, rfl⟩⟩, zip_own I1, q⟩
end
end GB
/-! a strict zip. -/
namespace GB
open PySem PySem.Spec PyProof.Rows L2
open Evl (Ex)
section
variable {prog : Program} {w : World} {A : Around} {E : Value → Shared → Prop} {s : Shared} {it : Addr} {fp : List Addr} {n i : Nat} {P : Nat → Value → Prop} {S : Nat → Heap → Prop}
theorem ne_item {Q : Option Value → Shared → Prop} (D : Draws prog w A it fp n P S) (hi : i < n) (hs : S i s.heap)
    (k : ∀ x h' tk, P i x → S (i + 1) h' → Heap.SameBut it s.heap h' → Q (some x) { s with heap := h', toks := tk }) : wpAny (model prog w) A (Builtin.SmallTypes.nextOrEnd (.ref it)) Q E s := by
  unfold Builtin.SmallTypes.nextOrEnd
  exact wpAny_bind (wpAny_attempt (D.item i s _ _ hi hs fun x h' tk hx h1 h2 => wpAny_pure (k x h' tk hx h1 h2)))
theorem ne_end {Q : Option Value → Shared → Prop} (D : Draws prog w A it fp n P S) (hs : S n s.heap)
    (k : ∀ h', Heap.ExtBut it s.heap h' → Q none { s with heap := h' }) : wpAny (model prog w) A (Builtin.SmallTypes.nextOrEnd (.ref it)) Q E s := by
  unfold Builtin.SmallTypes.nextOrEnd
  refine wpAny_bind (wpAny_attempt (D.done s _ _ hs fun h' e h1 ⟨o, ho, hc⟩ => ?_))
  refine wpAny_bind (wpAny_isInstance (T := "StopIteration") (b := true) ⟨o, ho, hc⟩ isSubtype_stop ?_)
  exact wpAny_pure (k _ h1)
theorem raise_stop {α : Type} {Q : α → Shared → Prop} (hh : A.handled = none)
    (k : ∀ h' e, (∀ c u, s.heap.get? c = some u → h'.get? c = some u) → (∃ o, h'.get? e = some o ∧ o.cls = .type "StopIteration") → E (.ref e) { s with heap := h' }) :
    wpAny (model prog w) A (Builtin.SmallTypes.stopIteration (α := α)) Q E s := by
  unfold Builtin.SmallTypes.stopIteration
  refine wpAny_bind ?_
  simp only [newExc, newTuple]
  refine wpAny_bind (wpAny_newObj_type ?_ (by size_fits))
  refine wpAny_bind (m := firstArgMember _ _) (wpAny_of_eq (a := Value.none) (by first | rfl | (simp only [firstArgMember]; rfl)) ?_)
  refine wpAny_newObj_type ?_ (by size_fits)
  simp only [raiseNew]
  refine wpAny_bind (wpAny_handled ?_)
  rw [hh]
  refine wpAny_bind (wpAny_pure (wpAny_throw ?_))
  exact k _ _ (fun c u y => Heap.get?_push_of_some _ (Heap.get?_push_of_some _ y)) ⟨_, Heap.get?_push_size _ rfl, rfl⟩
end
section
variable {prog : Program} {w : World} {A : Around} {E : Value → Shared → Prop} {s : Shared} {z m o i1 i2 : Addr} {f1 f2 : List Addr} {n1 n2 i : Nat} {P1 P2 : Nat → Value → Prop} {S1 S2 : Nat → Heap → Prop} {a1 a2 : Value}
theorem two_put {t : Addr} {x : Value} {k : Nat} {Q : Unit → Shared → Prop} (ht : Two s.heap t a1 a2)
    (q : ∀ h', h'.get? t = some { cls := .type "tuple", data := .seq ((#[a1, a2] : Array Value).setIfInBounds k x) } → Heap.SameBut t s.heap h' → Q () { s with heap := h' }) :
    wpAny (model prog w) A (updateSeq t (·.setIfInBounds k x)) Q E s :=
  wpAny_updateSeq ht rfl (q _ (by rw [Heap.get?_update_self _ ht rfl]; simp [Obj.mapSeq]) (Heap.SameBut.update ..))
theorem zs_item {Q : Value → Shared → Prop} (Z : ZipSep2 z m o i1 i2 f1 f2) (D1 : Draws prog w A i1 f1 n1 P1 S1) (D2 : Draws prog w A i2 f2 n2 P2 S2)
    (hz : ZipAt true s.heap z m o .none) (hm : Two s.heap m (.ref i1) (.ref i2)) (ho : Two s.heap o a1 a2) (s1 : S1 i s.heap) (s2 : S2 i s.heap) (l1 : i < n1) (l2 : i < n2)
    (k : ∀ x y h' tk, P1 i x → P2 i y → ZipAt true h' z m o (rawInt s.heap.objs.size) → Two h' o x y → S1 (i + 1) h' → S2 (i + 1) h' → Two h' s.heap.objs.size x y → h'.objs.size = s.heap.objs.size + 1 →
      (∀ c u, c ≠ z → c ≠ o → c ≠ i1 → c ≠ i2 → s.heap.get? c = some u → h'.get? c = some u) → Q (.ref s.heap.objs.size) { s with heap := h', toks := tk }) :
    wpAny (model prog w) A (Builtin.«zip.__next__» ⟨[.ref z], []⟩) (fun fin s' => ∃ v, fin = .done (.ret v) ∧ Q v s') E s := by
  obtain ⟨hp, gs, dr, t0, os⟩ := s
  show wpAny _ _ (field (.ref z) 2 >>= _) _ _ _
  refine wpAny_bind (wpAny_field hz rfl (x := .bool true) rfl ?_)
  show wpAny _ _ (field (.ref z) 3 >>= _) _ _ _
  refine wpAny_bind (wpAny_field hz rfl (x := .ref m) rfl ?_)
  refine wpAny_bind (wpAny_seqItems hm rfl ?_)
  show wpAny _ _ (Builtin.SmallTypes.ownedTupleIsFree (.ref z) >>= _) _ _ _
  refine wpAny_bind ?_
  unfold Builtin.SmallTypes.ownedTupleIsFree
  refine wpAny_bind (wpAny_field hz rfl (x := .none) rfl (wpAny_pure ?_))
  simp only [if_true]
  refine wpAny_bind (wpAny_rule ?_)
  refine wpAny_bind (wpAny_field hz rfl (x := .ref o) rfl ?_)
  refine wpAny_bind (wpAny_setField_rec hz (by simp) fun ha za (wa : Heap.SameBut z hp ha) => ?_)
  have za : ZipAt true ha z m o .ellipsis := za
  refine wpAny_bind ?_
  simp only [List.zipIdx_cons, List.zipIdx_nil, List.forIn_cons, List.forIn_nil]
  refine wpAny_bind (wpAny_bind (wpAny_onRaise ?_))
  show wpAny _ _ (Builtin.SmallTypes.nextOrEnd (.ref i1)) _ _ ⟨ha, gs, dr, t0, os⟩
  refine ne_item (s := ⟨ha, gs, dr, t0, os⟩) D1 l1 (D1.over s1 wa Z.zf1) fun x hb ta px sb (wb : Heap.SameBut i1 ha hb) => ?_
  have ob : Two hb o a1 a2 := wb.extBut _ _ Z.Ti1 (wa.extBut _ _ Z.TOz ho)
  refine wpAny_bind (wpAny_seqItems (s := ⟨hb, gs, dr, ta, os⟩) ob rfl ?_)
  refine wpAny_bind (two_put (s := ⟨hb, gs, dr, ta, os⟩) ob fun hc oc (wc : Heap.SameBut o hb hc) => ?_)
  have oc : Two hc o x a2 := oc
  refine wpAny_bind (wpAny_letGo (wpAny_pure ?_))
  refine wpAny_bind (wpAny_bind (wpAny_onRaise ?_))
  show wpAny _ _ (Builtin.SmallTypes.nextOrEnd (.ref i2)) _ _ ⟨hc, gs, dr, ta, os⟩
  refine ne_item (s := ⟨hc, gs, dr, ta, os⟩) D2 l2 (D2.over (D2.over (D2.over s2 wa Z.zf2) wb Z.sep1_2) wc Z.Tf2) fun y hd tb py sd (wd : Heap.SameBut i2 hc hd) => ?_
  have od : Two hd o x a2 := wd.extBut _ _ Z.Ti2 oc
  refine wpAny_bind (wpAny_seqItems (s := ⟨hd, gs, dr, tb, os⟩) od rfl ?_)
  refine wpAny_bind (two_put (s := ⟨hd, gs, dr, tb, os⟩) od fun he oe (we : Heap.SameBut o hd he) => ?_)
  have oe : Two he o x y := oe
  refine wpAny_bind (wpAny_letGo (wpAny_pure (wpAny_pure ?_)))
  refine wpAny_bind (wpAny_seqItems (s := ⟨he, gs, dr, tb, os⟩) oe rfl ?_)
  refine wpAny_bind (wpAny_newTuple ?_)
  have ez : he.objs.size = hp.objs.size := by rw [we.1, wd.1, wc.1, wb.1, wa.1]
  have ze : ZipAt true he z m o .ellipsis := we.extBut _ _ Z.TOz.symm (wd.extBut _ _ Z.zi2 (wc.extBut _ _ Z.TOz.symm (wb.extBut _ _ Z.zi1 za)))
  have ke : ∀ c u, c ≠ z → c ≠ o → c ≠ i1 → c ≠ i2 → hp.get? c = some u → he.get? c = some u := fun c u nz no n1 n2 q =>
    we.extBut _ _ no (wd.extBut _ _ n2 (wc.extBut _ _ no (wb.extBut _ _ n1 (wa.extBut _ _ nz q))))
  have e1 : S1 (i + 1) he := D1.over (D1.over (D1.over sb wc Z.Tf1) wd Z.sep2_1) we Z.Tf1
  have e2 : S2 (i + 1) he := D2.over sd we Z.Tf2
  have lz : z < he.objs.size := Heap.lt_size ze
  show wpAny _ _ (Builtin.SmallTypes.ownedTupleHandOut (.ref z) (.ref he.objs.size) >>= _) _ _ ⟨he.push { cls := .type "tuple", data := .seq #[x, y] }, gs, dr, tb, os⟩
  refine wpAny_bind ?_
  unfold Builtin.SmallTypes.ownedTupleHandOut
  have zf : ZipAt true (he.push { cls := .type "tuple", data := .seq #[x, y] }) z m o .ellipsis := Heap.get?_push_of_some _ ze
  refine wpAny_bind (wpAny_setField_rec zf (by simp) fun hg zg (wg : Heap.SameBut z (he.push _) hg) => ?_)
  have zg : ZipAt true hg z m o (rawInt he.objs.size) := zg
  refine wpAny_setField_rec zg (by simp) fun hh zh (wh : Heap.SameBut z hg hh) => ?_
  have zh : ZipAt true hh z m o (rawInt he.objs.size) := zh
  have up : ∀ c u, c ≠ z → he.get? c = some u → hh.get? c = some u := fun c u nz q => wh.extBut _ _ nz (wg.extBut _ _ nz (Heap.get?_push_of_some _ q))
  have th : Two hh he.objs.size x y := wh.extBut _ _ (Nat.ne_of_gt lz) (wg.extBut _ _ (Nat.ne_of_gt lz) (Heap.get?_push_size _ rfl))
  have eh : hh.objs.size = he.objs.size + 1 := by rw [wh.1, wg.1, Heap.size_push]
  rw [ez] at zh th eh
  refine wpAny_pure ⟨_, rfl, ?_⟩
  show Q (.ref he.objs.size) ⟨hh, gs, dr, tb, os⟩
  rw [ez]
  exact k x y hh tb px py zh (up _ _ Z.TOz oe) (D1.frame _ _ _ e1 fun c hc u q => up c u (fun y => Z.zf1 (y ▸ hc)) q) (D2.frame _ _ _ e2 fun c hc u q => up c u (fun y => Z.zf2 (y ▸ hc)) q) th eh fun c u nz no n1 n2 q => up c u nz (ke c u nz no n1 n2 q)
theorem zs_last {Q : Fin → Shared → Prop} (Z : ZipSep2 z m o i1 i2 f1 f2) (D1 : Draws prog w A i1 f1 i P1 S1) (D2 : Draws prog w A i2 f2 i P2 S2) (hh : A.handled = none)
    (hz : ZipAt true s.heap z m o .none) (hm : Two s.heap m (.ref i1) (.ref i2)) (ho : Two s.heap o a1 a2) (s1 : S1 i s.heap) (s2 : S2 i s.heap)
    (k : ∀ h' e, (∀ c u, c ≠ z → c ≠ o → c ≠ i1 → c ≠ i2 → s.heap.get? c = some u → h'.get? c = some u) → (∃ u, h'.get? e = some u ∧ u.cls = .type "StopIteration") → E (.ref e) { s with heap := h' }) :
    wpAny (model prog w) A (Builtin.«zip.__next__» ⟨[.ref z], []⟩) Q E s := by
  obtain ⟨hp, gs, dr, t0, os⟩ := s
  show wpAny _ _ (field (.ref z) 2 >>= _) _ _ _
  refine wpAny_bind (wpAny_field hz rfl (x := .bool true) rfl ?_)
  show wpAny _ _ (field (.ref z) 3 >>= _) _ _ _
  refine wpAny_bind (wpAny_field hz rfl (x := .ref m) rfl ?_)
  refine wpAny_bind (wpAny_seqItems hm rfl ?_)
  show wpAny _ _ (Builtin.SmallTypes.ownedTupleIsFree (.ref z) >>= _) _ _ _
  refine wpAny_bind ?_
  unfold Builtin.SmallTypes.ownedTupleIsFree
  refine wpAny_bind (wpAny_field hz rfl (x := .none) rfl (wpAny_pure ?_))
  simp only [if_true]
  refine wpAny_bind (wpAny_rule ?_)
  refine wpAny_bind (wpAny_field hz rfl (x := .ref o) rfl ?_)
  refine wpAny_bind (wpAny_setField_rec hz (by simp) fun ha za (wa : Heap.SameBut z hp ha) => ?_)
  have za : ZipAt true ha z m o .ellipsis := za
  refine wpAny_bind ?_
  simp only [List.zipIdx_cons, List.zipIdx_nil, List.forIn_cons, List.forIn_nil]
  refine wpAny_bind (wpAny_bind (wpAny_onRaise ?_))
  show wpAny _ _ (Builtin.SmallTypes.nextOrEnd (.ref i1)) _ _ ⟨ha, gs, dr, t0, os⟩
  refine ne_end (s := ⟨ha, gs, dr, t0, os⟩) D1 (D1.over s1 wa Z.zf1) fun hb (wb : Heap.ExtBut i1 ha hb) => ?_
  have zb : ZipAt true hb z m o .ellipsis := wb _ _ Z.zi1 za
  refine wpAny_bind (wpAny_setField_rec (s := ⟨hb, gs, dr, t0, os⟩) zb (by simp) fun hc zc (wc : Heap.SameBut z hb hc) => ?_)
  have t2 : S2 i hc := D2.over (D2.frame _ _ _ (D2.over s2 wa Z.zf2) fun c hc u q => wb c u (fun y => Z.sep1_2 (y ▸ hc)) q) wc Z.zf2
  refine wpAny_bind ?_
  show wpAny _ _ (forIn (([Value.ref i1, Value.ref i2].drop 1).zipIdx 1) PUnit.unit _ >>= _) _ _ _
  simp only [List.drop_succ_cons, List.drop_zero, List.zipIdx_cons, List.zipIdx_nil, List.forIn_cons, List.forIn_nil]
  refine wpAny_bind (wpAny_bind ?_)
  refine wpAny_bind (ne_end (s := ⟨hc, gs, dr, t0, os⟩) D2 t2 fun hd (wd : Heap.ExtBut i2 hc hd) => ?_)
  rw [if_neg (show ¬ ((none : Option Value).isSome = true) from Bool.false_ne_true)]
  refine wpAny_pure (wpAny_pure ?_)
  refine wpAny_bind (wpAny_rule ?_)
  refine raise_stop (s := ⟨hd, gs, dr, t0, os⟩) hh fun he e (ke : ∀ c u, hd.get? c = some u → he.get? c = some u) hs => ?_
  exact k he e (fun c u nz no n1 n2 q => ke _ _ (wd _ _ n2 (wc.extBut _ _ nz (wb _ _ n1 (wa.extBut _ _ nz q))))) hs
end
theorem zipGo_strict : ZipGo true where
  item := fun {_ _ _ _ _ s z _ _ _ _ _ _ _ _ _ _ _ _ _ _ _} Z D1 D2 hz hm ho s1 s2 l1 l2 k => by
    have ty : s.TypeIs (.ref z) "zip" := ⟨_, hz, rfl⟩
    unfold pyNext
    exact wpAny_bind (wpAny_attempt (wpAny_callSpecial?_slot (name := Str.ofString "__next__") ty F.slot_zip_next (wpAny_call_entry F.slot_zip_next ty F.entry_zip_next
      (zs_item Z D1 D2 hz hm ho s1 s2 l1 l2 fun x y h' tk a b c d e f g h i => wpAny_pure (k x y h' tk a b c d e f g h i)) (F.args_zip_next_1 _))))
  last := fun {_ _ _ _ _ s z _ _ _ _ _ _ _ _ _ _ _ _ _} Z D1 D2 hz hm ho s1 s2 hh k => by
    have ty : s.TypeIs (.ref z) "zip" := ⟨_, hz, rfl⟩
    unfold pyNext
    refine wpAny_bind (wpAny_attempt (wpAny_callSpecial?_slot (name := Str.ofString "__next__") ty F.slot_zip_next (wpAny_call_entry F.slot_zip_next ty F.entry_zip_next
      (zs_last Z D1 D2 hh hz hm ho s1 s2 fun h' e kp ⟨u, hu, hc⟩ => ?_) (F.args_zip_next_1 _))))
    exact wpAny_bind (wpAny_isInstance (T := "StopIteration") (b := true) ⟨u, hu, hc⟩ isSubtype_stop (wpAny_pure (k _ _ kp)))
  hand := fun {_ _ _ _ _ _ _ _ z m o T _} hz k => by
    unfold letOwnedTupleGo
    refine wpAny_bind (wpAny_load hz ?_)
    show wpAny _ _ (if (["enumerate", "zip", "dict_itemiterator", "dict_reverseitemiterator", "odict_iterator", "itertools.zip_longest", "itertools.pairwise"].contains "zip" && (#[rawInt T, .bool false, .bool true, .ref m, .ref o] : Array Value)[0]? == some (rawInt T)) = true then _ else _) _ _ _
    rw [if_pos (by simp)]
    refine wpAny_bind (wpAny_rule ?_)
    show wpAny _ _ (setField (.ref z) 0 .none) _ _ _
    exact wpAny_setField_rec hz (by simp) fun h' a b => k h' a b
  self := fun {_ _ _ _ _ s z _ _ _} hz k => by
    have ty : s.TypeIs (.ref z) "zip" := ⟨_, hz, rfl⟩
    exact wpAny_pyIter_slot ty F.slot_zip_iter (wpAny_call_entry F.slot_zip_iter ty F.entry_zip_iter (wpAny_pure ⟨_, rfl, "zip", _, ty, F.slot_zip_next.lookup, k⟩) (F.args_zip_iter_1 _))
theorem zst_type (a b : Value) : checkTypeCall "zip" ⟨[a, b], [(Str.ofString "strict", .bool true)]⟩ = pure () := by kernel_rfl
theorem zst_new (a b : Value) : checkBuiltinCall "zip.__new__" ⟨[.type "zip", a, b], [(Str.ofString "strict", .bool true)]⟩ = pure () := by kernel_rfl
theorem zst_init (x a b : Value) : argsOk "object.__init__" ⟨[x, a, b], [(Str.ofString "strict", .bool true)]⟩ := by unfold argsOk; kernel_rfl
def zhA (h : Heap) (o1 o2 : Obj) : Heap := (h.push o1).push o2
def zhB (h : Heap) (o1 o2 : Obj) : Heap := (zhA h o1 o2).push { cls := .type "tuple", data := .seq #[.ref h.objs.size, .ref (h.push o1).objs.size] }
def zhC (h : Heap) (o1 o2 : Obj) : Heap := (zhB h o1 o2).push { cls := .type "tuple", data := .seq #[.none, .none] }
def zhD (h : Heap) (o1 o2 : Obj) : Heap := (zhC h o1 o2).push { cls := .type "zip", data := .fields #[.none, .bool false, .bool true, .ref (zhA h o1 o2).objs.size, .ref (zhB h o1 o2).objs.size] }
theorem zst_made {v1 v2 : Value} {o1 o2 : Obj} {H1 H2 : Heap → Prop} (B1 : Begins v1 o1 H1) (B2 : Begins v2 o2 H2) :
    Meets (Builtin.«zip.__new__» ⟨[.type "zip", v1, v2], [(Str.ofString "strict", .bool true)]⟩) fun _ R s => (H1 s.heap ∧ H2 s.heap) ∧ R (.ok (.ret (.ref (zhC s.heap o1 o2).objs.size))) { s with heap := zhD s.heap o1 o2 } :=
  .of_wp fun prog w A R s hh => by
    obtain ⟨hp, g, d, tk, os⟩ := s
    obtain ⟨⟨h1, h2⟩, hR⟩ := hh
    have hsub := sub_zip
    have e2 : (Str.ofString "strict" != ("strict" : Str)) = false := by decide +kernel
    have b1 : ∀ {A1 : Around} {E1 Q1 : Value → Shared → Prop}, Q1 (.ref hp.objs.size) ⟨hp.push o1, g, d, tk, os⟩ → wpAny (model prog w) A1 (pyIter v1) Q1 E1 ⟨hp, g, d, tk, os⟩ := fun k => B1.iter prog w _ _ ⟨hp, g, d, tk, os⟩ _ h1 k
    have b2 : ∀ {A1 : Around} {E1 Q1 : Value → Shared → Prop}, Q1 (.ref (hp.push o1).objs.size) ⟨(hp.push o1).push o2, g, d, tk, os⟩ → wpAny (model prog w) A1 (pyIter v2) Q1 E1 ⟨hp.push o1, g, d, tk, os⟩ :=
      fun k => B2.iter prog w _ _ ⟨hp.push o1, g, d, tk, os⟩ _ (B2.keeps _ _ h2 fun b u y => Heap.get?_push_of_some _ y) k
    wp_walk using b1, b2
    exact ⟨_, rfl, hR⟩
end GB
/-! zip(.., strict=True): the call. -/
namespace GB
open PySem PySem.Spec PyProof.Rows L2
open Evl (Ex)
section
variable {prog : Program} {w : World} {A : Around} {E Q : Value → Shared → Prop} {s : Shared}
theorem zst_call {v1 v2 : Value} {o1 o2 : Obj} {H1 H2 : Heap → Prop} (B1 : Begins v1 o1 H1) (B2 : Begins v2 o2 H2) (h1 : H1 s.heap) (h2 : H2 s.heap)
    (k : ∀ h', ZipAt true h' (s.heap.objs.size + 4) (s.heap.objs.size + 2) (s.heap.objs.size + 3) .none → Two h' (s.heap.objs.size + 2) (.ref s.heap.objs.size) (.ref (s.heap.objs.size + 1)) →
      Two h' (s.heap.objs.size + 3) .none .none → h'.get? s.heap.objs.size = some o1 → h'.get? (s.heap.objs.size + 1) = some o2 → (∀ c u, s.heap.get? c = some u → h'.get? c = some u) → Q (.ref (s.heap.objs.size + 4)) { s with heap := h' }) :
    wpAny (model prog w) A (call (.type "zip") [v1, v2] [(Str.ofString "strict", .bool true)]) Q E s := by
  refine callType_newKw F.called_zip (by decide) (zst_type _ _) (zst_new _ _) (fun ob => zst_init ob _ _) F.entry_zip_new (zst_made B1 B2) ⟨⟨h1, h2⟩, ?_⟩
  have n1 : (s.heap.push o1).objs.size = s.heap.objs.size + 1 := Heap.size_push ..
  have nA : (zhA s.heap o1 o2).objs.size = s.heap.objs.size + 2 := by rw [zhA, Heap.size_push, n1]
  have nB : (zhB s.heap o1 o2).objs.size = s.heap.objs.size + 3 := by rw [zhB, Heap.size_push, nA]
  have nC : (zhC s.heap o1 o2).objs.size = s.heap.objs.size + 4 := by rw [zhC, Heap.size_push, nB]
  have up1 : ∀ c u, (zhA s.heap o1 o2).get? c = some u → (zhD s.heap o1 o2).get? c = some u := fun c u y => Heap.get?_push_of_some _ (Heap.get?_push_of_some _ (Heap.get?_push_of_some _ y))
  have gD : (zhD s.heap o1 o2).get? (zhC s.heap o1 o2).objs.size = some { cls := .type "zip", data := .fields #[.none, .bool false, .bool true, .ref (zhA s.heap o1 o2).objs.size, .ref (zhB s.heap o1 o2).objs.size] } := Heap.get?_push_size _ rfl
  have gC : (zhD s.heap o1 o2).get? (zhB s.heap o1 o2).objs.size = some { cls := .type "tuple", data := .seq #[.none, .none] } := Heap.get?_push_of_some _ (Heap.get?_push_size _ rfl)
  have gB : (zhD s.heap o1 o2).get? (zhA s.heap o1 o2).objs.size = some { cls := .type "tuple", data := .seq #[.ref s.heap.objs.size, .ref (s.heap.push o1).objs.size] } := Heap.get?_push_of_some _ (Heap.get?_push_of_some _ (Heap.get?_push_size _ rfl))
  have g1 : (zhD s.heap o1 o2).get? s.heap.objs.size = some o1 := up1 _ _ (Heap.get?_push_of_some _ (Heap.get?_push_size _ B1.free))
  have g2 : (zhD s.heap o1 o2).get? (s.heap.push o1).objs.size = some o2 := up1 _ _ (Heap.get?_push_size _ B2.free)
  rw [nC, nB, nA] at gD
  rw [nB] at gC
  rw [nA, n1] at gB
  rw [n1] at g2
  show _ ∧ _
  rw [nC]
  exact ⟨⟨_, gD, rfl⟩, k _ gD gB gC g1 g2 fun c u y => up1 _ _ (Heap.get?_push_of_some _ (Heap.get?_push_of_some _ y))⟩
end
section
variable {prog : Program} {w : World} {A : Around} {E Q : Value → Shared → Prop} {s : Shared}
/-- a call of a type with plain arguments, then keywords -/
theorem callTyKw {env : Env} {pos : Pos} {T : String} {e : Expr} {rest : List Expr} {kws : List Keyword}
    (k : wpAny (model prog w) A (spliced (backTo pos (starEach (e :: rest) env))) (fun vs s1 => wpAny (model prog w) A (evalAll ((backToKw pos (keywordEach kws env)).map (·.2)))
      (fun kvs s2 => wpAny (model prog w) A (call (.type T) vs (((backToKw pos (keywordEach kws env)).filterMap (·.1)).zip kvs)) Q E s2) E s1) E s)
    (he : backTo pos (starEach (e :: rest) env) = (false, eval e env) :: backTo pos (starEach rest env)) (hp : (backTo pos (starEach (e :: rest) env)).any (·.1) = false)
    (ha : (backToKw pos (keywordEach kws env)).all (·.1.isSome) = true) (hn : (backToKw pos (keywordEach kws env)).any (·.1.isNone) = false) :
    wpAny (model prog w) A (callWith pos (.type T) [] (backTo pos (starEach (e :: rest) env)) (backToKw pos (keywordEach kws env))) Q E s := by
  unfold callWith
  rw [he] at k hp ⊢
  refine wpAny_bind (wpAny_holding (wpAny_mono (evalArgs_kwB (f := .type T) (Q := fun a s1 => wpAny (model prog w) A (call (.type T) a.pos a.kw) Q E s1) ha k) (fun a s1 h1 => wpAny_bind (wpAny_standAt ?_)) fun _ _ x => x))
  simp only [hp, hn, Bool.or_false]
  refine wpAny_bind (wpAny_pure ?_)
  exact wpAny_bind (wpAny_mono h1 (fun r s2 hr => wpAny_bind (wpAny_holding (wpAny_point (wpAny_pure hr)))) fun _ _ x => x)
end
section
variable {X : Cx} {e e2 : Expr} {ta : TA} {p pos tpos p2 p3 : Pos} {elts : List Expr} {kk kc : Nat}
theorem pi_zipS (hg : Gl X "zip") (hm : X.mg "zip" = none) (ha : PA X [e, e2] ta)
    (hs : starEach [e, e2] X.env = (false, eval e X.env) :: starEach [e2] X.env := by rfl) (hpl : (backTo pos (starEach [e2] X.env)).any (·.1) = false := by rfl) :
    PI X (.Tuple elts kk tpos) (.Call (.Name "zip" p) [e, e2] [⟨some "strict", .Constant (.bool true) kc p2, p3⟩] pos) (iZipS X.K ta) := by
  refine ⟨fun pins s σ H R I h => ?_⟩
  refine wpAny_Call_Name_kw (ld_blt I hg hm PyProof.Rows.boot_zip ?_)
  refine callTyKw (thn (ha.run pos pins s σ H _ I h) fun us s1 ⟨vs, H1, I1, r1, q1⟩ => ?_) (by rw [hs]; rfl) (by rw [hs]; show (false || (backTo pos (starEach [e2] X.env)).any (·.1)) = false; rw [hpl]; rfl) rfl rfl
  refine evalAll_cons (wpAny_bind (wpAny_pure (wpAny_bind (wpAny_standAt (wpAny_pure (wpAny_evalAll_nil ?_))))))
  obtain ⟨a, b, xs, ys, ex, hqx, hqy, q⟩ := q1
  subst ex
  cases r1 with
  | cons r rr =>
    cases rr with
    | cons r' rr =>
      cases rr
      cases r
      cases r'
      obtain ⟨us, ru, pl, _⟩ := I1.list hqx
      obtain ⟨vs, rv, pt, _⟩ := I1.list hqy
      have la : a < s1.heap.objs.size := pl.lt
      have lb : b < s1.heap.objs.size := pt.lt
      refine zst_call (begins_list a us.toArray) (begins_list b vs.toArray) pl.isList pt.isList fun h' hz hm ho g1 g2 hk => zipGo_strict.self hz ?_
      exact ⟨s1.heap.objs.size + 4, _, _, _, H1, rfl, I1.kept (t' := s1.toks) hk, turn_zipO zipGo_strict (drwL (Nat.ne_of_lt la)) (drwL (Nat.ne_of_lt (Nat.lt_succ_of_lt lb))) (zipSep la lb), ⟨hz, hm, ⟨_, _, ho⟩, ⟨_, g1, rfl, rfl⟩, ⟨_, g2, rfl, rfl⟩⟩, zip_own I1, q⟩
end
end GB
/-! the items of a dict that is locked here. -/
namespace GB
open PySem PySem.Spec PyProof.Rows L2
open Evl (Ex)
section
variable {X : Cx} {e : Expr} {td : TE} {tpos apos cpos : Pos} {elts : List Expr} {kk : Nat}
def tLck (td : TE) : TE := fun σ H Q => ∃ R : It → Hp → Prop, iItemsN td σ H R ∧ ∀ x H1, (∃ d o kvs, x = .ref d ∧ H1 d = some (.frz o (.dK kvs)) ∧ R (Iti d o kvs) H1) → Q x H1
theorem pe_lck (he : PE X e td) : PE X e (tLck td) := by
  refine ⟨fun pins s σ H Q I ⟨R, h, imp⟩ => thn (he.run pins s σ H _ I h) fun u s1 ⟨x, H1, I1, rx, d, kvs, ex, hd, q⟩ => ?_⟩
  subst ex
  obtain ⟨o, I2⟩ := I1.lock hd trivial
  exact ⟨_, _, I2, rx, imp _ _ ⟨d, o, kvs, rfl, upd_same, q o⟩⟩
theorem pi_itemsN (he : PE X e td) (hbase : attributeBase e "items" X.env (eval e X.env) = eval e X.env := by rfl) (hline : (apos.endLine == cpos.line) = true := by rfl) :
    PI X (.Tuple elts kk tpos) (.Call (.Attribute e "items" apos) [] [] cpos) (iItemsN td) :=
  ⟨fun pins s σ H R I h => (pi_items (pe_lck he) hbase hline).run pins s σ H R I ⟨R, h, fun _ _ y => y⟩⟩
end
end GB
/-! max with a default. -/
namespace GB
open PySem PySem.Spec PyProof.Rows L2 PySem.W
open Evl (Ex)
theorem mxf (l : List Int) : ∀ x : Int, (l.foldl (fun a y => if decide (a < y) = true then y else a) x) ∈ x :: l ∧ ∀ y, y ∈ x :: l → y ≤ l.foldl (fun a y => if decide (a < y) = true then y else a) x := by
  induction l with
  | nil => exact fun x => ⟨List.mem_cons_self, fun y hy => by rw [List.mem_singleton.mp hy]; exact Int.le_refl _⟩
  | cons z l ih =>
    intro x
    rw [List.foldl_cons]
    obtain ⟨h1, h2⟩ := ih (if decide (x < z) = true then z else x)
    refine ⟨?_, fun y hy => ?_⟩
    · rcases List.mem_cons.mp h1 with e | e
      · rw [e]
        split
        · exact List.mem_cons_of_mem _ List.mem_cons_self
        · exact List.mem_cons_self
      · exact List.mem_cons_of_mem _ (List.mem_cons_of_mem _ e)
    · have h3 := h2 _ List.mem_cons_self
      rcases List.mem_cons.mp hy with e | e
      · rw [e]
        refine Int.le_trans ?_ h3
        split
        · rename_i c; have := of_decide_eq_true c; omega
        · exact Int.le_refl _
      · rcases List.mem_cons.mp e with e | e
        · rw [e]
          refine Int.le_trans ?_ h3
          split
          · exact Int.le_refl _
          · rename_i c; have : ¬ x < z := fun k => c (decide_eq_true k); omega
        · exact h2 _ (List.mem_cons_of_mem _ e)
theorem cr_maxd {X : Cx} (hc : X.calm = true) : CallRK X (.builtin "max") ["default"] (rMaxd X.K) := by
  intro pins s σ H vs zs us ws Q I r1 r2 h
  obtain ⟨a, ns, d, rfl, rfl, hq, q⟩ := h
  obtain ⟨its, rv, pl, _⟩ := I.list hq
  rw [Vals.ref1 r1]
  cases r2 with
  | cons rd rr =>
    cases rr
    obtain ⟨td, rfl⟩ := rd
    have at_ : ∀ (i : Nat) (v : Value), its.toArray[i]? = some v → ∃ n t, ns[i]? = some n ∧ v = .int n t := fun i v hv => by
      rw [List.getElem?_toArray] at hv
      have li : i < its.length := (List.getElem?_eq_some_iff.mp hv).1
      have ln : its.length = ns.length := by rw [← rv.length, List.length_map]
      have en : ns[i]? = some ns[i] := List.getElem?_eq_getElem (by omega)
      obtain ⟨u, hu, t, e⟩ := rv.get (i := i) (x := .int ns[i]) (by rw [List.getElem?_map, en]; rfl)
      exact ⟨ns[i], t, en, by rw [← e]; exact Option.some.inj (hv.symm.trans hu)⟩
    have ln : its.toArray.size = ns.length := by rw [List.size_toArray, ← rv.length, List.length_map]
    refine call_max_walkD (iter_listW (A := X.A.in1) (I.ok.hd hc) pl.isList fun s2 e W st hfp hw hk => ?_)
    refine ⟨_, _, _, _, _, _, _, s.heap, (fun i j => decide (ns.getD j 0 < ns.getD i 0)), rfl, W, st, hfp, hw, hk, fun hz s' m => ?_, fun hp => ⟨fun i j vi vj s' Q' E' _ hi hj hq' => ?_, fun v s' hP m => ?_⟩⟩
    · obtain ⟨h', tk, rfl, hk'⟩ := moved_old e rfl m
      exact ⟨.int d, H, I.kept (t' := tk) hk', ⟨td, rfl⟩, q d (fun _ => rfl) fun ne => absurd (List.eq_nil_of_length_eq_zero (by omega)) ne⟩
    · obtain ⟨n1, t1, e1, rfl⟩ := at_ i vi hi
      obtain ⟨n2, t2, e2, rfl⟩ := at_ j vj hj
      refine Flt.gt_num (.int n1 t1) (.int n2 t2) ?_
      have hq' : Q' (.bool (decide (ns.getD j 0 < ns.getD i 0))) s' := hq'
      rw [List.getD_eq_getElem?_getD, List.getD_eq_getElem?_getD, e1, e2] at hq'
      exact hq'
    · obtain ⟨h', tk, rfl, hk'⟩ := moved_old e rfl m
      obtain ⟨n, t, en, rfl⟩ := at_ _ v hP
      cases ns with
      | nil => exact absurd hp (by rw [ln]; exact Nat.lt_irrefl 0)
      | cons y ys =>
        have e1 : its.toArray.size - 1 = ys.length := by rw [ln]; rfl
        have e2 := (argBest_fold (fun a b => decide (b < a)) (0 : Int) y ys ys.length (Nat.le_refl _)).2
        rw [List.take_length] at e2
        rw [e1] at en
        rw [List.getD_eq_getElem?_getD, en] at e2
        obtain ⟨f1, f2⟩ := mxf ys y
        have e3 : n = ys.foldl (fun a y => if decide (a < y) = true then y else a) y := e2
        exact ⟨.int n, H, I.kept (t' := tk) hk', ⟨t, rfl⟩, q n nofun fun _ => ⟨by rw [e3]; exact f1, by rw [e3]; exact f2⟩⟩
end GB
/-! repr of data. -/
namespace GB
open PySem PySem.Spec PyProof.Rows L2
open Evl (Ex)
theorem call_reprD {X : Cx} (hg : X.A.guards = some []) (hu : X.A.units + 65 < cLine) : CallR X (.builtin "repr") (rReprD X.K) := by
  intro pins s σ H vs us Q I r h
  obtain ⟨x, d, rfl, hd, ⟨a, rfl⟩, h1, h2, h3, h4, q⟩ := h
  rw [Vals.ref1 r]
  obtain ⟨as, rd⟩ := Dp.reads I d (.ref a) (.ref a) hd rfl
  exact repr_of_reads' rd h1 (fun y => by rw [h2] at y; cases y) hg (by omega) (fun _ _ y => y) (fun h' u tk hk => ⟨.str d.shown, H, I.kept (t' := tk) hk, ⟨u, rfl⟩, q⟩) h3
end GB
/-! list(enumerate(..)). -/
namespace GB
open PySem PySem.Spec PyProof.Rows L2 PySem.W
open Evl (Ex)
/-- an enumerate at c over the list at a, whatever its own tuple does; S: the list that grows -/
def EnSt (h : Heap) (c it a S : Addr) (i : Nat) : Prop :=
  ((∃ u, IsEnum h c it ((i : Nat) : Int) u) ∨ ∃ u T f oT, IsEnumHeld h c it ((i : Nat) : Int) u T f ∧ h.get? T = some oT ∧ T ≠ c ∧ T ≠ it ∧ T ≠ S) ∧ h.IsListIter it a i
theorem EnSt.keep {h h' : Heap} {c it a S : Addr} {i : Nat} (e : EnSt h c it a S i) (nc : c ≠ S) (ni : it ≠ S) (k : ∀ b o, b ≠ S → h.get? b = some o → h'.get? b = some o) : EnSt h' c it a S i := by
  obtain ⟨⟨u, h1⟩ | ⟨u, T, f, oT, h1, h2, h3, h4, h5⟩, g⟩ := e
  · exact ⟨.inl ⟨u, k _ _ nc h1⟩, g.at fun o y => k _ o ni y⟩
  · exact ⟨.inr ⟨u, T, f, oT, k _ _ nc h1, k _ _ h5 h2, h3, h4, h5⟩, g.at fun o y => k _ o ni y⟩
section
variable {prog : Program} {w : World} {A : Around} {E : Value → Shared → Prop} {s : Shared} {c it a S : Addr} {us : Array Value} {i : Nat}
theorem es_item {x : Value} {Q : Option Value → Shared → Prop} (e : EnSt s.heap c it a S i) (hl : s.heap.IsList a us) (hx : us[i]? = some x) (ne : c ≠ it) (lS : S < s.heap.objs.size)
    (q : ∀ h' t, EnSt h' c it a S (i + 1) → h'.get? s.heap.objs.size = some { cls := .type "tuple", data := .seq #[.int i t, x] } → h'.objs.size = s.heap.objs.size + 1 →
      (∀ b o, b ≠ c → b ≠ it → s.heap.get? b = some o → h'.get? b = some o) → Q (some (.ref s.heap.objs.size)) { s with heap := h', toks := s.toks + 1 }) : wpAny (model prog w) A (pyNext (.ref c)) Q E s := by
  have e1 : ((i + 1 : Nat) : Int) = (i : Int) + 1 := Int.natCast_succ i
  obtain ⟨⟨u, h1⟩ | ⟨u, T, f, oT, h1, h2, h3, h4, h5⟩, g⟩ := e
  · have lc : c < s.heap.objs.size := Heap.lt_size h1
    have li : it < s.heap.objs.size := let ⟨_, y, _⟩ := g; Heap.lt_size y
    refine wpAny_pyNext_enum_item h1 g hl hx ne fun h' a1 a2 a3 a4 a5 => q h' _ ⟨.inr ⟨x, _, false, _, ?_, a3, Nat.ne_of_gt lc, Nat.ne_of_gt li, Nat.ne_of_gt lS⟩, a2⟩ a3 a4 a5
    rw [e1]
    exact a1
  · refine wpAny_pyNext_enum_item_held h1 h2 h3 h4 g hl hx ne fun h' a1 a2 a3 a4 a5 => q h' _ ⟨.inr ⟨u, T, true, oT, ?_, a5 _ _ h3 h4 h2, h3, h4, h5⟩, a2⟩ a3 a4 a5
    rw [e1]
    exact a1
theorem es_end {Q : Option Value → Shared → Prop} (hh : A.handled = none) (e : EnSt s.heap c it a S i) (hl : s.heap.IsList a us) (hx : us[i]? = none)
    (q : ∀ h', Heap.ExtBut it s.heap h' → Q none { s with heap := h' }) : wpAny (model prog w) A (pyNext (.ref c)) Q E s := by
  obtain ⟨⟨u, h1⟩ | ⟨u, T, f, oT, h1, _⟩, g⟩ := e
  · exact wpAny_pyNext_enum_end hh h1 g hl hx q
  · exact wpAny_pyNext_enum_end_held hh h1 g hl hx q
end
/-- the tuples made so far -/
structure EnG (us : Array Value) (lo : Addr) (h : Heap) (ts : List Addr) : Prop where
  rise : ts.Pairwise (· < ·)
  above : ∀ b ∈ ts, lo < b
  at_ : ∀ (j : Nat) b, ts[j]? = some b → ∃ u t, us[j]? = some u ∧ h.get? b = some { cls := .type "tuple", data := .seq #[.int j t, u] }
theorem en_no_len : typeLookup (.type "enumerate") "__len__" = pure none := by rw [typeLookup_type, builtinLookup_eq_fast]; kernel_rfl
theorem en_no_hint : typeLookup (.type "enumerate") "__length_hint__" = pure none := by rw [typeLookup_type, builtinLookup_eq_fast]; kernel_rfl
section
variable {prog : Program} {w : World} {A : Around} {s : Shared} {c it a S : Addr} {us : Array Value} {R : Result → Shared → Prop}
theorem en_loop (hh : A.handled = none) (nS : c ≠ S) (mS : it ≠ S) (aS : a ≠ S) (ci : c ≠ it) (ac : a ≠ c) (ai : a ≠ it) (cS : c < S) (iS : it < S) (hn : us.size ≤ sizeLine) (res : Value) {h1 : Heap}
    (q : ∀ h' tk acc m ts, (∀ b o, b ≠ S → b ≠ c → b ≠ it → h1.get? b = some o → h'.get? b = some o) → h'.get? S = some { cls := .type "list", dict := none, data := .seq acc m, slots := #[] } → ts.length = us.size → EnG us S h' ts →
      acc.toList = ts.map Value.ref → R (.ok (.ret res)) { s with heap := h', toks := tk }) :
    ∀ (k i : Nat) (h : Heap) (tk m : Nat) (acc : Array Value) (ts : List Addr), us.size - i = k → i ≤ us.size → EnSt h c it a S i → h.IsList a us → (∀ b o, b ≠ S → b ≠ c → b ≠ it → h1.get? b = some o → h.get? b = some o) →
      h.get? S = some { cls := .type "list", dict := none, data := .seq acc m, slots := #[] } → acc.toList = ts.map Value.ref → ts.length = i → EnG us S h ts →
      codeAny (model prog w) A (.builtin "list.extend.loop" ⟨[.ref S, .ref c, res], []⟩) R { s with heap := h, toks := tk } := by
  intro k
  induction k with
  | zero =>
    intro i h tk m acc ts ek hi st hl kp hS ea el G
    refine codeAny_builtin PySem.F.entry_extend_loop ?_
    rw [Around.under_plainId PySem.F.plain_extend_loop _]
    show wpAny _ A.in1 (pyNext (.ref c) >>= _) _ _ _
    refine wpAny_bind (es_end (s := { s with heap := h, toks := tk }) (A := A.in1) hh st hl (Array.getElem?_eq_none (by omega)) fun h' eb => ?_)
    refine wpAny_pure (q h' tk acc m ts (fun b o n1 n2 n3 y => eb b o n3 (kp b o n1 n2 n3 y)) (eb S _ mS.symm hS) (by omega) ⟨G.rise, G.above, fun j b hb => ?_⟩ ea)
    obtain ⟨u, t, g1, g2⟩ := G.at_ j b hb
    exact ⟨u, t, g1, eb b _ (Nat.ne_of_gt (Nat.lt_trans iS (G.above b (List.mem_of_getElem? hb)))) g2⟩
  | succ k ih =>
    intro i h tk m acc ts ek hi st hl kp hS ea el G
    have lt : i < us.size := by omega
    have sz : acc.size = i := by rw [← Array.length_toList, ea, List.length_map, el]
    have lS : S < h.objs.size := Heap.lt_size hS
    refine codeAny_builtin PySem.F.entry_extend_loop ?_
    rw [Around.under_plainId PySem.F.plain_extend_loop _]
    show wpAny _ A.in1 (pyNext (.ref c) >>= _) _ _ _
    refine wpAny_bind (es_item (s := { s with heap := h, toks := tk }) (x := us[i]) st hl (Array.getElem?_eq_getElem lt) ci lS fun h' t st' ht hz hk => ?_)
    dsimp only at ht hz hk ⊢
    have hS' := hk S _ nS.symm mS.symm hS
    have up : ∀ b o, b ≠ S → h'.get? b = some o → (h'.update S (Obj.mapSeq (·.push (Value.ref h.objs.size)))).get? b = some o := fun b o nb y => (Heap.get?_update_other _ _ (Ne.symm nb)).trans y
    show wpAny _ A.in1 (updateSeq S (·.push (Value.ref h.objs.size)) >>= _) _ _ _
    refine wpAny_bind (wpAny_updateSeq hS' rfl (wpAny_pure ⟨plainId_quiet PySem.F.plain_extend_loop _, ih (i + 1) _ (tk + 1) _ (acc.push (Value.ref h.objs.size)) (ts ++ [h.objs.size]) (by omega) lt (st'.keep nS mS up) (hl.at fun o y => up a o aS (hk a o ac ai y))
      (fun b o n1 n2 n3 y => up b o n1 (hk b o n2 n3 (kp b o n1 n2 n3 y))) (Heap.get?_update_self _ hS' rfl) (by rw [Array.toList_push, ea, List.map_append]; rfl) (by rw [List.length_append, el]; rfl) ⟨?_, ?_, ?_⟩⟩) (by rw [sz]; omega) (by show (acc.push (Value.ref h.objs.size)).size ≤ sizeLine + 1; rw [Array.size_push, sz]; omega))
    · refine List.pairwise_append.mpr ⟨G.rise, List.pairwise_singleton _ _, fun b hb d hd => ?_⟩
      rw [List.mem_singleton.mp hd]
      obtain ⟨j, hj⟩ := List.mem_iff_getElem?.mp hb
      obtain ⟨_, _, _, g⟩ := G.at_ j b hj
      exact Heap.lt_size g
    · intro b hb
      rcases List.mem_append.mp hb with hb | hb
      · exact G.above b hb
      · rw [List.mem_singleton.mp hb]; exact lS
    · intro j b hb
      by_cases lj : j < ts.length
      · rw [List.getElem?_append_left lj] at hb
        obtain ⟨u, t', g1, g2⟩ := G.at_ j b hb
        have lb := G.above b (List.mem_of_getElem? hb)
        exact ⟨u, t', g1, up b _ (Nat.ne_of_gt lb) (hk b _ (Nat.ne_of_gt (Nat.lt_trans cS lb)) (Nat.ne_of_gt (Nat.lt_trans iS lb)) g2)⟩
      · have ej : j = ts.length := by
          have := (List.getElem?_eq_some_iff.mp hb).1
          rw [List.length_append, List.length_singleton] at this
          omega
        subst ej
        have eb : h.objs.size = b := by simpa using hb
        subst eb
        subst el
        exact ⟨us[ts.length], t, Array.getElem?_eq_getElem lt, up _ _ (Nat.ne_of_gt lS) ht⟩
end
section
variable {prog : Program} {w : World} {A : Around} {E : Value → Shared → Prop} {s : Shared} {c it a S : Addr} {us : Array Value}
theorem en_extend {R : Result → Shared → Prop} (hh : A.handled = none) (st : EnSt s.heap c it a S 0) (ty : s.TypeIs (.ref c) "enumerate") (hl : s.heap.IsList a us) (nS : c ≠ S) (mS : it ≠ S) (aS : a ≠ S) (ci : c ≠ it) (ac : a ≠ c) (ai : a ≠ it) (cS : c < S) (iS : it < S)
    (hn : us.size ≤ sizeLine) (res : Value) (m0 : Nat) (hS : s.heap.get? S = some { cls := .type "list", data := .seq #[] m0 })
    (q : ∀ h' tk acc m ts, (∀ b o, b ≠ S → b ≠ c → b ≠ it → s.heap.get? b = some o → h'.get? b = some o) → h'.get? S = some { cls := .type "list", dict := none, data := .seq acc m, slots := #[] } → ts.length = us.size → EnG us S h' ts →
      acc.toList = ts.map Value.ref → R (.ok (.ret res)) { s with heap := h', toks := tk }) :
    wpAny (model prog w) A.in1 (Builtin.List.listExtendWith (.ref S) (.ref c) res)
      (fun fin s' => match fin with | .done f => R (.ok f) s' | .again c' => c'.quiet = true ∧ codeAny (model prog w) A c' R s') (fun e s' => R (.error e) s') s := by
  unfold Builtin.List.listExtendWith
  refine wpAny_bind (wpAny_typeOf (T := "enumerate") ty ?_)
  have y1 : Builtin.List.listSameRef (.ref S) (.ref c) = false := by simp [Builtin.List.listSameRef, nS.symm]
  have y2 : (Value.type "enumerate" == Value.type "list") = false := by decide
  have y3 : (Value.type "enumerate" == Value.type "tuple") = false := by decide
  simp only [y1, y2, y3, Bool.or_false, Bool.false_eq_true, if_false]
  have itr : ∀ (Q : Value → Shared → Prop) (E : Value → Shared → Prop), Q (.ref c) s → wpAny (model prog w) A.in1 (pyIter (.ref c)) Q E s := fun Q E h => by
    obtain ⟨⟨u, g1⟩ | ⟨u, T, f, oT, g1, _⟩, _⟩ := st
    · exact wpAny_pyIter_enum g1 h
    · exact wpAny_pyIter_slot ty F.slot_enumerate_iter (wpAny_call_entry F.slot_enumerate_iter ty F.entry_enumerate_iter (wpAny_pure ⟨_, rfl, "enumerate", _, ty, F.slot_enumerate_next.lookup, h⟩) (F.args_enumerate_iter_1 _))
  refine wpAny_bind (itr _ _ (wpAny_bind (wpAny_holding ?_)))
  unfold Builtin.List.listLengthHint
  refine wpAny_bind (wpAny_specialOf ty en_no_len ?_)
  show wpAny _ A.in1 (specialOf (Value.ref c) (Str.ofString "__length_hint__") >>= _) _ _ _
  refine wpAny_bind (wpAny_specialOf ty en_no_hint ?_)
  refine wpAny_pure ?_
  show wpAny _ A.in1 (rule "list.extend.makes-room" >>= fun _ => Builtin.List.listTouch (.ref S) >>= fun _ => again (.builtin "list.extend.loop" ⟨[.ref S, .ref c, res], []⟩)) _ _ _
  refine wpAny_bind (wpAny_rule ?_)
  refine wpAny_bind ?_
  show wpAny _ A.in1 (updateSeq S (·.push .none) >>= fun _ => updateSeq S (·.pop)) _ _ _
  refine wpAny_bind (wpAny_updateSeq hS rfl ?_)
  have hS2 := Heap.get?_update_self (Obj.mapSeq (·.push Value.none)) hS rfl
  refine wpAny_updateSeq (hz := by seq_fits) hS2 rfl ?_
  have hS3 := Heap.get?_update_self (Obj.mapSeq (·.pop)) hS2 rfl
  have old : ∀ b o, b ≠ S → s.heap.get? b = some o → ((s.heap.update S (Obj.mapSeq (·.push Value.none))).update S (Obj.mapSeq (·.pop))).get? b = some o :=
    fun b o nb y => (Heap.get?_update_other _ _ (Ne.symm nb)).trans ((Heap.get?_update_other _ _ (Ne.symm nb)).trans y)
  refine wpAny_pure ⟨plainId_quiet PySem.F.plain_extend_loop _, ?_⟩
  exact en_loop (s := s) hh nS mS aS ci ac ai cS iS hn res q us.size 0 _ _ _ #[] [] (Nat.sub_zero _) (Nat.zero_le _) (st.keep nS mS old) (hl.at fun o y => old a o aS y) (fun b o n1 _ _ y => old b o n1 y) hS3 rfl rfl
    ⟨.nil, fun b hb => (nomatch hb), fun j b hb => by simp at hb⟩
theorem en_init {R : Result → Shared → Prop} (hh : A.handled = none) (st : EnSt s.heap c it a S 0) (ty : s.TypeIs (.ref c) "enumerate") (hl : s.heap.IsList a us) (nS : c ≠ S) (mS : it ≠ S) (aS : a ≠ S) (ci : c ≠ it) (ac : a ≠ c) (ai : a ≠ it) (cS : c < S) (iS : it < S)
    (hn : us.size ≤ sizeLine) (hS : s.heap.get? S = some { cls := .type "list", data := .seq #[] })
    (q : ∀ h' tk acc m ts, (∀ b o, b ≠ S → b ≠ c → b ≠ it → s.heap.get? b = some o → h'.get? b = some o) → h'.get? S = some { cls := .type "list", dict := none, data := .seq acc m, slots := #[] } → ts.length = us.size → EnG us S h' ts →
      acc.toList = ts.map Value.ref → R (.ok (.ret .none)) { s with heap := h', toks := tk }) :
    wpAny (model prog w) A.in1 (Builtin.«list.__init__» ⟨[.ref S, .ref c], []⟩)
      (fun fin s' => match fin with | .done f => R (.ok f) s' | .again c' => c'.quiet = true ∧ codeAny (model prog w) A c' R s') (fun e s' => R (.error e) s') s := by
  show wpAny _ _ (do let old ← Builtin.List.listItems (.ref S); Builtin.List.listUpdate (.ref S) (fun _ => #[]); letGo old.toList.reverse; Builtin.List.listExtendWith (.ref S) (.ref c) .none) _ _ s
  refine wpAny_bind ?_
  unfold Builtin.List.listItems
  refine wpAny_bind (wpAny_seqItems hS rfl (wpAny_pure ?_))
  show wpAny _ _ (updateSeq S (fun _ => #[]) >>= fun _ => letGo (#[] : Array Value).toList.reverse >>= fun _ => Builtin.List.listExtendWith (.ref S) (.ref c) .none) _ _ s
  refine wpAny_bind (wpAny_updateSeq hS rfl ?_)
  have hS2 := Heap.get?_update_self (Obj.mapSeq (fun _ => (#[] : Array Value))) hS rfl
  have old : ∀ b o, b ≠ S → s.heap.get? b = some o → (s.heap.update S (Obj.mapSeq (fun _ => (#[] : Array Value)))).get? b = some o := fun b o nb y => (Heap.get?_update_other _ _ (Ne.symm nb)).trans y
  refine wpAny_bind (wpAny_letGo ?_)
  obtain ⟨oc, hc1, hc2⟩ := ty
  exact en_extend hh (st.keep nS mS old) ⟨oc, old c _ nS hc1, hc2⟩ (hl.at fun o y => old a o aS y) nS mS aS ci ac ai cS iS hn .none _ hS2 fun h' tk acc m ts kp g1 g2 g3 g4 => q h' tk acc m ts (fun b o n1 n2 n3 y => kp b o n1 n2 n3 (old b o n1 y)) g1 g2 g3 g4
end
end GB
/-! list(enumerate(xs)): the call. -/
namespace GB
open PySem PySem.Spec PyProof.Rows L2 PySem.W
open Evl (Ex)
def ptN : Hp → List Addr → List V → Nat → Hp
  | H, t :: ts, x :: xs, i => ptN (upd H t (.tup [.int (i : Nat), x])) ts xs (i + 1)
  | H, _, _, _ => H
theorem ptN_off {b : Addr} : ∀ (ts : List Addr) (xs : List V) (H : Hp) (i : Nat), b ∉ ts → ptN H ts xs i b = H b
  | [], xs, H, i, _ => by cases xs <;> rfl
  | t :: ts, [], H, i, _ => rfl
  | t :: ts, x :: xs, H, i, n => by
    show ptN (upd H t _) ts xs (i + 1) b = H b
    rw [ptN_off ts xs _ _ fun z => n (List.mem_cons_of_mem _ z)]
    exact upd_ne fun z => n (by rw [z]; exact List.mem_cons_self)
theorem ptN_at : ∀ (ts : List Addr) (xs : List V) (H : Hp) (i j : Nat) (t : Addr) (x : V), ts.Nodup → ts[j]? = some t → xs[j]? = some x → ptN H ts xs i t = some (.tup [.int ((i + j : Nat) : Int), x])
  | [], _, _, _, j, _, _, _, h, _ => by simp at h
  | _ :: _, [], _, _, j, _, _, _, _, h => by simp at h
  | t0 :: ts, x0 :: xs, H, i, 0, t, x, nd, h1, h2 => by
    have e1 : t0 = t := Option.some.inj h1
    have e2 : x0 = x := Option.some.inj h2
    subst e1 e2
    show ptN (upd H t0 _) ts xs (i + 1) t0 = _
    rw [ptN_off ts xs _ _ (List.nodup_cons.mp nd).1, upd_same]
    rfl
  | t0 :: ts, x0 :: xs, H, i, j + 1, t, x, nd, h1, h2 => by
    show ptN (upd H t0 _) ts xs (i + 1) t = _
    rw [ptN_at ts xs _ (i + 1) j t x (List.nodup_cons.mp nd).2 h1 h2]
    have e : i + 1 + j = i + (j + 1) := by omega
    rw [e]
section
variable {X : Cx} {p p2 pos cpos : Pos} {e : Expr} {ta : TA}
theorem pe_listEnum (hc : X.calm = true) (hg1 : Gl X "list") (hm1 : X.mg "list" = none) (hg : Gl X "enumerate") (hm : X.mg "enumerate" = none) (ha : PA X [e] ta) (hs : starEach [e] X.env = [(false, eval e X.env)] := by rfl)
    (hs2 : starEach [.Call (.Name "enumerate" p2) [e] [] cpos] X.env = (false, eval (.Call (.Name "enumerate" p2) [e] [] cpos) X.env) :: starEach [] X.env := by rfl) :
    PE X (.Call (.Name "list" p) [.Call (.Name "enumerate" p2) [e] [] cpos] [] pos) (tListEnum X.K ta) := by
  refine ⟨fun pins s σ H Q I hq => ?_⟩
  refine wpAny_Call_Name_kw (ld_blt I hg1 hm1 PyProof.Rows.boot_list ?_)
  refine PyProof.Rows.callWith_type1 ?_ hs2 rfl
  rw [hs2]
  show wpAny _ _ (spliced ((false, eval (.Call (.Name "enumerate" p2) [e] [] cpos) X.env) :: backTo pos (starEach [] X.env))) _ _ s
  refine Calls.spliced_cons ?_
  refine Call_ (ld_blt I hg hm boot_enumerate (PyProof.Rows.callWith_type1 (thn (ha.run cpos pins s σ H _ I hq) fun us s1 ⟨vs, H1, I1, r1, q1⟩ => ?_) hs rfl))
  obtain ⟨a, xs, ex, hqx, q⟩ := q1
  subst ex
  rw [Vals.ref1 r1]
  obtain ⟨us, ru, pl, hz⟩ := I1.list hqx
  have ul : us.length = xs.length := ru.length.symm
  have la : a < s1.heap.objs.size := pl.lt
  refine call_enumerate_list pl.isList fun h' he hit hsz hk => Calls.spliced_nil ?_
  refine callType_codes (Q₁ := fun ob t1 => ob = .ref h'.objs.size ∧ t1 = { s1 with heap := h'.push { cls := .type "list", data := .seq #[] } }) PySem.F.called_list (PySem.F.typeCall_list_1 _) PySem.F.entry_list_init (code_list_new _ ⟨rfl, rfl⟩) fun ob t1 ht => ?_
  obtain ⟨rfl, rfl⟩ := ht
  have gS : (h'.push { cls := .type "list", data := .seq #[] }).get? h'.objs.size = some { cls := .type "list", data := .seq #[] } := Heap.get?_push_size _ rfl
  have up : ∀ b o, h'.get? b = some o → (h'.push { cls := .type "list", data := .seq #[] }).get? b = some o := fun b o y => Heap.get?_push_of_some _ y
  have lc : s1.heap.objs.size + 1 < h'.objs.size := by rw [hsz]; exact Nat.lt_succ_self _
  have li : s1.heap.objs.size < h'.objs.size := Nat.lt_of_succ_lt lc
  refine ⟨⟨_, gS, rfl⟩, PySem.F.args_list_init_2 _ _, en_init (A := X.A.in1) (c := s1.heap.objs.size + 1) (it := s1.heap.objs.size) (a := a) (us := us.toArray) (I1.ok.hd hc) ⟨.inl ⟨.none, up _ _ he⟩, hit.at fun o y => up _ o y⟩ ⟨_, up _ _ he, rfl⟩ (pl.isList.at fun o y => up _ o (hk _ o y))
    (Nat.ne_of_lt lc) (Nat.ne_of_lt li) (Nat.ne_of_lt (Nat.lt_trans la li)) (Nat.succ_ne_self _) (Nat.ne_of_lt (Nat.lt_succ_of_lt la)) (Nat.ne_of_lt la) lc li (by rw [List.size_toArray, ul]; exact hz) gS fun h2 tk acc m ts kp g1 g2 G g4 => ⟨rfl, ?_⟩⟩
  have lN : ∀ b o, s1.heap.get? b = some o → b < s1.heap.objs.size := fun b o y => Heap.lt_size y
  have old : ∀ b o, s1.heap.get? b = some o → h2.get? b = some o := fun b o y => by
    have l := lN b o y
    exact kp b o (Nat.ne_of_lt (Nat.lt_trans l li)) (Nat.ne_of_lt (Nat.lt_succ_of_lt l)) (Nat.ne_of_lt l) (up _ o (hk b o y))
  have nd : ts.Nodup := List.Pairwise.imp (fun {x y} (h : x < y) => Nat.ne_of_lt h) G.rise
  have tl : ts.length = xs.length := by rw [g2, List.size_toArray, ul]
  have hi : ∀ b, b ∈ ts → s1.heap.objs.size ≤ b := fun b hb => Nat.le_of_lt (Nat.lt_trans li (G.above b hb))
  have newT : ∀ b, b ∈ ts → H1 b = none := fun b hb => I1.hok.fresh (hi b hb)
  have newS : H1 h'.objs.size = none := I1.hok.fresh (Nat.le_of_lt li)
  have sT : h'.objs.size ∉ ts := fun z => Nat.lt_irrefl _ (G.above _ z)
  obtain ⟨H2, e2⟩ : ∃ H2, H2 = ptN (upd H1 h'.objs.size (.lst (ts.map V.ref))) ts xs 0 := ⟨_, rfl⟩
  have atS : H2 h'.objs.size = some (.lst (ts.map V.ref)) := by rw [e2, ptN_off ts xs _ _ sT, upd_same]
  have atT : ∀ (i : Nat) t x, ts[i]? = some t → xs[i]? = some x → H2 t = some (.tup [.int (i : Nat), x]) := fun i t x h3 h4 => by
    rw [e2, ptN_at ts xs _ 0 i t x nd h3 h4, Nat.zero_add]
  have off : ∀ b, b ∉ ts → b ≠ h'.objs.size → H2 b = H1 b := fun b h3 h4 => by rw [e2, ptN_off ts xs _ _ h3, upd_ne h4]
  have kpH : ∀ b o, H1 b = some o → H2 b = some o := fun b o y => by
    rw [off b (fun z => by rw [newT b z] at y; cases y) (fun z => by rw [z, newS] at y; cases y)]
    exact y
  refine ⟨.ref h'.objs.size, H2, ?_, rfl, q ts h'.objs.size H2 kpH newS sT atS tl fun i t x h3 h4 => ⟨newT t (List.mem_of_getElem? h3), atT i t x h3 h4⟩⟩
  refine I1.call' (ch := []) rfl ⟨fun b o y _ _ _ => old b o y, fun b o y _ _ _ => ⟨o.slots, old b o y⟩, fun b o y n _ => ?_, fun b o y _ => ⟨o, old b o y⟩, fun b ys y => kpH b _ y, fun b o u y => kpH b _ y, fun b ps y => ⟨#[], by rw [kpH b _ y]; simp⟩⟩ (fun b u y => ?_) I1.bare fun b z => by simp at z
  · have l := lN b o y
    rw [off b (fun z => absurd l (Nat.not_lt.mpr (hi b z))) (Nat.ne_of_lt (Nat.lt_trans l li))]
    exact n
  · by_cases hb : b ∈ ts
    · obtain ⟨j, hj⟩ := List.mem_iff_getElem?.mp hb
      have lj : j < xs.length := by rw [← tl]; exact (List.getElem?_eq_some_iff.mp hj).1
      have hx : xs[j]? = some xs[j] := List.getElem?_eq_getElem lj
      rw [atT j b _ hj hx] at y
      cases y
      obtain ⟨v, t, v1, v2⟩ := G.at_ j b hj
      obtain ⟨v', v3, v4⟩ := ru.get hx
      rw [List.getElem?_toArray, v3] at v1
      cases v1
      exact ⟨by show 2 ≤ sizeLine; decide, [.int (j : Nat) t, v], .cons ⟨t, rfl⟩ (.cons v4 .nil), ⟨_, v2, rfl, _, rfl⟩⟩
    · by_cases hb2 : b = h'.objs.size
      · rw [hb2] at y ⊢
        rw [atS] at y
        cases y
        refine ⟨by rw [List.length_map, tl]; exact hz, acc.toList, m, by rw [g4]; exact LiI.vals_refs ts, ?_⟩
        rw [Array.toArray_toList]
        exact g1
      · rw [off b hb hb2] at y
        exact (I1.hok b u y).stay (fun d v _ z => old d v z) (fun d z => kpH d _ z) fun d ys z => kpH d _ z
end
end GB
/-! More rules of evaluation in worlds; promises in data. -/
namespace GB
open PySem PySem.Spec PyProof.Rows L2
open Evl (Ex)
section
variable {K : PySem.W.Frag} {c : Ent} {dr dr1 dr2 dr' : Dr} {ls : Ls} {σ : L2.St} {B B' H H' : Hp} {ta tb te tx : TE} {tt tu : TT} {Φ Ψ : V → Hp → Prop} {d d1 d2 : PyData} {ds es : List PyData}
/-! ### promises in data -/
def SpB (K : PySem.W.Frag) {α : Type} (args : α → List PyData) (pre : α → Prop) (Φ : α → V → Hp → Prop) : Sp := fun vs H Q _ => ∃ (B : Hp) (a : α), Ex B H ∧ DaL K B vs (args a) ∧ pre a ∧ RB B H (Φ a) Q
abbrev SpD (K : PySem.W.Frag) {α : Type} (args : α → List PyData) (pre : α → Prop) (res : α → PyData) : Sp := SpB K args pre fun a v B' => Da K B' v (res a)
def SpN (K : PySem.W.Frag) {α : Type} (args : α → List PyData) (pre : α → Prop) (P : α → List PyData → Prop) : Sp := fun vs H Q _ => ∃ (B : Hp) (a : α), Ex B H ∧ DaL K B vs (args a) ∧ pre a ∧ RN K B H (P a) Q
theorem SpB.len {α : Type} {args : α → List PyData} {pre : α → Prop} {Φ : α → V → Hp → Prop} {n : Nat} (hn : ∀ a, (args a).length = n) (vs : List V) (H : Hp) (Q : VK) (E : XK) (h : SpB K args pre Φ vs H Q E) : vs.length = n := by
  obtain ⟨B, a, _, d, _⟩ := h
  exact d.len.trans (hn a)
theorem SpN.len {α : Type} {args : α → List PyData} {pre : α → Prop} {P : α → List PyData → Prop} {n : Nat} (hn : ∀ a, (args a).length = n) (vs : List V) (H : Hp) (Q : VK) (E : XK) (h : SpN K args pre P vs H Q E) : vs.length = n := by
  obtain ⟨B, a, _, d, _⟩ := h
  exact d.len.trans (hn a)
theorem Wd.start (e : Ex B H) : Wd K ⟨B, H, []⟩ none [] B H :=
  ⟨Ex.refl _, e, fun a h => .inl h, fun a o _ h => h, fun a m => absurd m List.not_mem_nil, fun q m => absurd m List.not_mem_nil, List.nodup_nil, fun q h => nomatch h⟩
theorem c_B {α : Type} {args : α → List PyData} {pre : α → Prop} {Φ : α → V → Hp → Prop} {t : TA} {a : α} (ha : EaD K c dr ls t σ B (args a)) (hp : pre a) : EvB K c dr dr ls (tCall (SpB K args pre Φ) [] E0 t) σ B (Φ a) :=
  e_call ha fun vs B1 H1 Q _ e2 d q => ⟨B1, a, e2, by rw [List.append_nil]; exact d, hp, q⟩
theorem c_D {α : Type} {args : α → List PyData} {pre : α → Prop} {res : α → PyData} {t : TA} {a : α} (ha : EaD K c dr ls t σ B (args a)) (hp : pre a) : EvD K c dr ls (tCall (SpD K args pre res) [] E0 t) σ B (res a) := c_B ha hp
theorem c_N {α : Type} {args : α → List PyData} {pre : α → Prop} {P : α → List PyData → Prop} {t : TA} {a : α} (ha : EaD K c dr ls t σ B (args a)) (hp : pre a) : EvN K c dr dr ls (tCall (SpN K args pre P) [] E0 t) σ B (P a) :=
  l_call ha fun vs B1 H1 Q _ e2 d q => ⟨B1, a, e2, by rw [List.append_nil]; exact d, hp, q⟩
/-! ### is None by the operators' rules -/
theorem e_opIsN (ha : EvD K c dr ls ta σ B d) : EvD K c dr ls (tOp (fun x y H Q => y = .non ∧ Q (.bl (decide (x = .non))) H) ta (tC .non)) σ B (.bool (isN d)) :=
  e_op ha e_cnon fun x y B1 _ fx fy => rv_of fun B2 H2 _ _ Q q => ⟨fy.non_eq, by
    rw [fx.isN]
    exact q _ (.bl _)⟩
theorem e_opNotN (ha : EvD K c dr ls ta σ B d) : EvD K c dr ls (tOp (fun x y H Q => y = .non ∧ Q (.bl (!decide (x = .non))) H) ta (tC .non)) σ B (.bool (!isN d)) :=
  e_op ha e_cnon fun x y B1 _ fx fy => rv_of fun B2 H2 _ _ Q q => ⟨fy.non_eq, by
    rw [fx.isN]
    exact q _ (.bl _)⟩
theorem e_bool {a b : Bool} (h : EvD K c dr ls te σ B (.bool a)) (e : a = b) : EvD K c dr ls te σ B (.bool b) := e ▸ h
/-! ### known ways of an if -/
variable {D : Ends} {tz t1 t2 : TS} {g : TG}
theorem q_ifT (w : Wd K c dr ls B H) (h : Et K c dr ls tt σ B true) (k : ∀ B1 H1, Ex B B1 → Wd K c dr ls B1 H1 → t1 { D with nx := tz D } σ H1) : tSeq (tIfS tt t1 t2) tz D σ H :=
  q_ifE w h (fun _ => k) fun z => nomatch z
theorem q_ifF (w : Wd K c dr ls B H) (h : Et K c dr ls tt σ B false) (k : ∀ B1 H1, Ex B B1 → Wd K c dr ls B1 H1 → tz D σ H1) : tSeq (tIfS tt t1 tNext) tz D σ H :=
  q_if w h (fun z => nomatch z) fun _ => k
theorem q_ifFE (w : Wd K c dr ls B H) (h : Et K c dr ls tt σ B false) (k : ∀ B1 H1, Ex B B1 → Wd K c dr ls B1 H1 → t2 { D with nx := tz D } σ H1) : tSeq (tIfS tt t1 t2) tz D σ H :=
  q_ifE w h (fun z => nomatch z) fun _ => k
theorem s_ifT (w : Wd K c dr ls B H) (h : Et K c dr ls tt σ B true) (k : ∀ B1 H1, Ex B B1 → Wd K c dr ls B1 H1 → t1 D σ H1) : tIfS tt t1 t2 D σ H :=
  s_if w h (fun _ => k) fun z => nomatch z
theorem s_ifF (w : Wd K c dr ls B H) (h : Et K c dr ls tt σ B false) (k : ∀ B1 H1, Ex B B1 → Wd K c dr ls B1 H1 → t2 D σ H1) : tIfS tt t1 t2 D σ H :=
  s_if w h (fun z => nomatch z) fun _ => k
/-! ### slices -/
theorem DaL.sub {xs : List V} (h : DaL K B xs ds) (i j : Nat) : DaL K B ((xs.drop i).take j) ((ds.drop i).take j) := (h.drop i).take j
/-- the data that a slice takes -/
def cutD (ds : List PyData) (lo hi : Option Int) : List PyData := (ds.drop (HT.sIx ds.length 0 lo)).take (HT.sIx ds.length ds.length hi - HT.sIx ds.length 0 lo)
theorem DaL.cut {xs : List V} (h : DaL K B xs ds) (lo hi : Option Int) : DaL K B (cutV xs lo hi) (cutD ds lo hi) := by
  unfold cutV cutD
  rw [h.len]
  exact h.sub _ _
/-- a part of a slice -/
def EoD (K : PySem.W.Frag) (c : Ent) (dr : Dr) (ls : Ls) (tp : TO) (σ : L2.St) (B : Hp) (o : Option Int) : Prop :=
  ∀ B1 H1, Ex B B1 → Wd K c dr ls B1 H1 → ∀ Q : Option Int → Hp → Prop, (∀ B2 H2, Ex B1 B2 → Wd K c dr ls B2 H2 → Q o H2) → tp σ H1 Q
theorem o_some {i : Int} (h : EvD K c dr ls te σ B (.int i)) : EoD K c dr ls (tPart te) σ B (some i) := fun B1 H1 e1 w Q q => h B1 H1 e1 w _ fun v B2 H2 e2 w2 f => ⟨i, f.int_eq, q B2 H2 e2 w2⟩
theorem o_none : EoD K c dr ls (fun σ H Q => Q none H) σ B none := fun B1 H1 _ w Q q => q B1 H1 (Ex.refl _) w
theorem e_slT {lo hi : Option Int} {tl th : TO} (h : EvD K c dr ls te σ B (.tuple ds)) (h1 : EoD K c dr ls tl σ B lo) (h2 : EoD K c dr ls th σ B hi) (hw : ¬ (HT.sIx ds.length 0 lo = 0 ∧ HT.sIx ds.length ds.length hi = ds.length)) :
    EvD K c dr ls (L2.tSl (rSlT K) te tl th) σ B (.tuple (cutD ds lo hi)) := fun B1 H1 e1 w Q q => h B1 H1 e1 w _ fun v B2 H2 e2 w2 f => h1 B2 H2 (e1.trans e2) w2 _ fun B3 H3 e3 w3 => h2 B3 H3 ((e1.trans e2).trans e3) w3 _ fun B4 H4 e4 w4 => by
  obtain ⟨a, xs, rfl, hx, hd⟩ := (f.mono (e3.trans e4)).tup_inv
  refine ⟨a, xs, rfl, Evl.ex_t w4.inn hx, by rw [hd.len]; exact hw, fun p hp => ?_⟩
  have e5 : Ex B4 (upd B4 p (.tup (cutV xs lo hi))) := Ex.new (w4.freshB hp)
  exact q _ _ _ (((e2.trans e3).trans e4).trans e5) (w4.new hp) (.tup upd_same ((hd.cut lo hi).mono e5))
theorem l_slL {lo hi : Option Int} {tl th : TO} (h : EvD K c dr ls te σ B (.list ds)) (h1 : EoD K c dr ls tl σ B lo) (h2 : EoD K c dr ls th σ B hi) :
    EvL K c dr ls (L2.tSl (rSlL K) te tl th) σ B (cutD ds lo hi) := fun B1 H1 e1 w Q q => h B1 H1 e1 w _ fun v B2 H2 e2 w2 f => h1 B2 H2 (e1.trans e2) w2 _ fun B3 H3 e3 w3 => h2 B3 H3 ((e1.trans e2).trans e3) w3 _ fun B4 H4 e4 w4 => by
  obtain ⟨a, xs, rfl, hx, hd⟩ := (f.mono (e3.trans e4)).lst_inv
  refine ⟨a, xs, rfl, SqL.of (w4.inn _ _ hx), fun p hp => ?_⟩
  exact q p _ _ _ ((e2.trans e3).trans e4) (w4.fresh0 hp) (w4.grow hp ⟨_, upd_same, hd.cut lo hi⟩) rfl
theorem l_rev (h : EvD K c dr ls te σ B (.list ds)) : EvL K c dr ls (tRevL K te) σ B ds.reverse := fun B1 H1 e1 w Q q => h B1 H1 e1 w _ fun v B2 H2 e2 w2 f => by
  obtain ⟨a, xs, rfl, hx, hd⟩ := f.lst_inv
  exact ⟨a, xs, rfl, SqL.of (w2.inn _ _ hx), fun p hp => q p _ _ _ e2 (w2.fresh0 hp) (w2.grow hp ⟨_, upd_same, hd.rev⟩) rfl⟩
/-! ### + of tuples and of lists -/
theorem e_catT (ha : EvD K c dr ls ta σ B (.tuple ds)) (hb : EvD K c dr ls tb σ B (.tuple es)) (h0 : ds ≠ []) (h1 : es ≠ []) (hl : ds.length + es.length ≤ 100000) : EvD K c dr ls (tOp (rCatT K) ta tb) σ B (.tuple (ds ++ es)) :=
  e_op ha hb fun x y B1 _ fx fy B2 H2 e w Q q => by
    obtain ⟨a, xs, rfl, hx, hd⟩ := fx.tup_inv
    obtain ⟨b, ys, rfl, hy, hd2⟩ := fy.tup_inv
    refine ⟨a, b, xs, ys, rfl, rfl, Evl.ex_t (e.trans w.inn) hx, Evl.ex_t (e.trans w.inn) hy, fun z => h0 ?_, sz_le (by rw [hd.len, hd2.len]; exact hl), fun z => absurd ?_ h1, fun _ p hp => ?_⟩
    · subst z
      cases hd
      rfl
    · subst z
      cases hd2
      rfl
    · have e5 : Ex B2 (upd B2 p (.tup (xs ++ ys))) := Ex.new (w.freshB hp)
      exact q _ _ _ e5 (w.new hp) (.tup upd_same ((hd.app hd2).mono (e.trans e5)))
theorem l_cat (ha : EvD K c dr ls ta σ B (.list ds)) (hb : EvD K c dr ls tb σ B (.list es)) (hl : ds.length + es.length ≤ 100000) : EvL K c dr ls (tOp rCat ta tb) σ B (ds ++ es) := fun B0 H0 e0 w0 Q q =>
  ha B0 H0 e0 w0 _ fun x B1 H1 e1 w1 fx => hb B1 H1 (e0.trans e1) w1 _ fun y B2 H2 e2 w2 fy => by
    obtain ⟨a, xs, rfl, hx, hd⟩ := (fx.mono e2).lst_inv
    obtain ⟨b, ys, rfl, hy, hd2⟩ := fy.lst_inv
    refine ⟨a, b, xs, ys, rfl, rfl, w2.inn _ _ hx, w2.inn _ _ hy, sz_le (by rw [hd.len, hd2.len]; exact hl), fun p hp => ?_⟩
    exact q p _ _ _ (e1.trans e2) (w2.fresh0 hp) (w2.grow hp ⟨_, upd_same, hd.app hd2⟩) rfl
/-! ### built-ins -/
theorem e_any {bs : List Bool} {t : TA} (ha : EaD K c dr ls t σ B [.list (bs.map PyData.bool)]) : EvD K c dr ls (tCB (rAny K) t) σ B (.bool (bs.any id)) :=
  e_cb ha fun vs B1 _ f => rv_of fun B2 H2 e w Q q => by
    obtain ⟨v, r, rfl, fv, fr⟩ := f.cons_inv
    rw [fr.nil_eq]
    obtain ⟨a, xs, rfl, hx, hd⟩ := fv.lst_inv
    rw [hd.bools] at hx
    exact ⟨a, bs, rfl, SqL.of (w.inn _ _ (e _ _ hx)), q _ (.bl _)⟩
theorem e_lenL {t : TA} (ha : EaD K c dr ls t σ B [.list ds]) : EvD K c dr ls (tCB (fun xs H Q => ∃ p ys, xs = [.ref p] ∧ (SqL K H p ys ∨ SqT K H p ys) ∧ Q (.int ys.length) H) t) σ B (.int ds.length) :=
  e_cb ha fun vs B1 _ f => rv_of fun B2 H2 e w Q q => by
    obtain ⟨v, r, rfl, fv, fr⟩ := f.cons_inv
    rw [fr.nil_eq]
    obtain ⟨a, xs, rfl, hx, hd⟩ := fv.lst_inv
    refine ⟨a, xs, rfl, .inl (SqL.of (w.inn _ _ (e _ _ hx))), ?_⟩
    rw [hd.len]
    exact q _ (.int _)
theorem e_lenT {t : TA} (ha : EaD K c dr ls t σ B [.tuple ds]) : EvD K c dr ls (tCB (fun xs H Q => ∃ p ys, xs = [.ref p] ∧ (SqL K H p ys ∨ SqT K H p ys) ∧ Q (.int ys.length) H) t) σ B (.int ds.length) :=
  e_cb ha fun vs B1 _ f => rv_of fun B2 H2 e w Q q => by
    obtain ⟨v, r, rfl, fv, fr⟩ := f.cons_inv
    rw [fr.nil_eq]
    obtain ⟨a, xs, rfl, hx, hd⟩ := fv.tup_inv
    refine ⟨a, xs, rfl, .inr (Evl.ex_t (e.trans w.inn) hx), ?_⟩
    rw [hd.len]
    exact q _ (.int _)
theorem e_tupL {t : TA} (ha : EaD K c dr ls t σ B [.list ds]) : EvD K c dr ls (tCB (fun xs H Q => ∃ p ys, xs = [.ref p] ∧ ((SqL K H p ys ∧ ∀ l, H l = none → Q (.ref l) (upd H l (.tup ys))) ∨ (SqT K H p ys ∧ Q (.ref p) H))) t) σ B (.tuple ds) :=
  e_cb ha fun vs B1 _ f B2 H2 e w Q q => by
    obtain ⟨v, r, rfl, fv, fr⟩ := f.cons_inv
    rw [fr.nil_eq]
    obtain ⟨a, xs, rfl, hx, hd⟩ := fv.lst_inv
    refine ⟨a, xs, rfl, .inl ⟨SqL.of (w.inn _ _ (e _ _ hx)), fun p hp => ?_⟩⟩
    have e5 : Ex B2 (upd B2 p (.tup xs)) := Ex.new (w.freshB hp)
    exact q _ _ _ e5 (w.new hp) (.tup upd_same (hd.mono (e.trans e5)))
/-- sorted(xs), ints -/
theorem l_sortI {ns : List Int} {t : TA} (ha : EaD K c dr ls t σ B [.list (ns.map PyData.int)]) : EvN K c dr dr ls (tCB (rSortedI K) t) σ B fun ds => ∃ ms : List Int, ms.Perm ns ∧ ms.Pairwise (· ≤ ·) ∧ ds = ms.map PyData.int := fun B1 H1 e1 w Q q =>
  ha B1 H1 e1 w _ fun vs B2 H2 e2 w2 f => by
    obtain ⟨v, r, rfl, fv, fr⟩ := f.cons_inv
    rw [fr.nil_eq]
    obtain ⟨a, xs, rfl, hx, hd⟩ := fv.lst_inv
    rw [hd.ints] at hx
    refine ⟨a, ns, rfl, SqL.of (w2.inn _ _ hx), fun ms p pm so hp => ?_⟩
    exact q p _ _ _ e2 (w2.fresh0 hp) (w2.grow hp ⟨_, upd_same, DaL.of_ints ms⟩) ⟨ms, pm, so, rfl⟩
theorem e_abs {i : Int} {t : TA} (ha : EaD K c dr ls t σ B [.int i]) : EvD K c dr ls (tCB (fun xs H Q => ∃ i, xs = [.int i] ∧ Q (.int (if i < 0 then -i else i)) H) t) σ B (.int (if i < 0 then -i else i)) :=
  e_cb ha fun vs B1 _ f => rv_of fun B2 H2 e w Q q => by
    obtain ⟨v, r, rfl, fv, fr⟩ := f.cons_inv
    rw [fr.nil_eq, fv.int_eq]
    exact ⟨i, rfl, q _ (.int _)⟩
/-- max(xs), xs not empty, ints -/
theorem e_max {ns : List Int} {m : Int} {t : TA} (ha : EaD K c dr ls t σ B [.list (ns.map PyData.int)]) (hm : m ∈ ns) (hx : ∀ y, y ∈ ns → y ≤ m) : EvD K c dr ls (tCB (rMax K) t) σ B (.int m) :=
  e_cb ha fun vs B1 _ f => rv_of fun B2 H2 e w Q q => by
    obtain ⟨v, r, rfl, fv, fr⟩ := f.cons_inv
    rw [fr.nil_eq]
    obtain ⟨a, xs, rfl, hxs, hd⟩ := fv.lst_inv
    rw [hd.ints] at hxs
    refine ⟨a, ns, rfl, SqL.of (w.inn _ _ (e _ _ hxs)), List.length_pos_of_mem hm, fun k k1 k2 => ?_⟩
    have : k = m := by
      have h1 := hx k k1
      have h2 := k2 m hm
      omega
    rw [this]
    exact q _ (.int _)
end
end GB
/-! The abstract tree of views: ancestors, runs under a policy, dominance, raises. -/
namespace GB

/-! ### ancestors -/
section
variable (par : Nat → Option Nat)
def anc (i : Nat) : List Nat :=
  match par i with
  | none => [i]
  | some j => if j < i then anc j ++ [i] else [i]
termination_by i
end
section
variable {par : Nat → Option Nat}
theorem anc_none {i : Nat} (h : par i = none) : anc par i = [i] := by
  rw [anc, h]
theorem anc_some {i j : Nat} (h : par i = some j) (hl : j < i) : anc par i = anc par j ++ [i] := by
  rw [anc, h]
  exact if_pos hl
theorem anc_self (i : Nat) : i ∈ anc par i := by
  rw [anc]
  cases par i with
  | none => simp
  | some j =>
    show i ∈ (if j < i then anc par j ++ [i] else [i])
    split <;> simp
theorem anc_le : ∀ (n i : Nat), i < n → ∀ u, u ∈ anc par i → u ≤ i
  | 0, i, h, _, _ => by omega
  | n + 1, i, h, u, hu => by
    rw [anc] at hu
    cases hp : par i with
    | none =>
      rw [hp] at hu
      simp at hu
      omega
    | some j =>
      rw [hp] at hu
      have hu' : u ∈ (if j < i then anc par j ++ [i] else [i]) := hu
      by_cases hj : j < i
      · rw [if_pos hj] at hu'
        rcases List.mem_append.mp hu' with q | q
        · have := anc_le n j (by omega) u q
          omega
        · simp at q
          omega
      · rw [if_neg hj] at hu'
        simp at hu'
        omega
theorem mem_anc_le {u i : Nat} (h : u ∈ anc par i) : u ≤ i := anc_le (i + 1) i (by omega) u h
theorem mem_anc_some {u i j : Nat} (h : par i = some j) (hl : j < i) : u ∈ anc par i ↔ u ∈ anc par j ∨ u = i := by
  rw [anc_some h hl, List.mem_append]
  simp
theorem mem_anc_none {u i : Nat} (h : par i = none) : u ∈ anc par i ↔ u = i := by
  rw [anc_none h]
  simp
theorem anc_sorted (pl : ∀ i j, par i = some j → j < i) : ∀ n i, i < n → (anc par i).Pairwise (· < ·)
  | 0, _, h => by omega
  | n + 1, i, h => by
    cases hp : par i with
    | none =>
      rw [anc_none hp]
      simp
    | some j =>
      have hj := pl i j hp
      rw [anc_some hp hj, List.pairwise_append]
      refine ⟨anc_sorted pl n j (by omega), by simp, fun a ha b hb => ?_⟩
      have := mem_anc_le ha
      simp at hb
      omega
theorem anc_trans (pl : ∀ i j, par i = some j → j < i) {u v : Nat} : ∀ n i, i < n → u ∈ anc par v → v ∈ anc par i → u ∈ anc par i
  | 0, _, h, _, _ => by omega
  | n + 1, i, h, hu, hv => by
    cases hp : par i with
    | none =>
      rw [mem_anc_none hp] at hv
      rw [← hv]
      exact hu
    | some j =>
      have hj := pl i j hp
      rcases (mem_anc_some hp hj).mp hv with q | q
      · exact (mem_anc_some hp hj).mpr (.inl (anc_trans pl n j (by omega) hu q))
      · rw [← q]
        exact hu
theorem anc_linear (pl : ∀ i j, par i = some j → j < i) {u v : Nat} : ∀ n i, i < n → u ∈ anc par i → v ∈ anc par i → u ≤ v → u ∈ anc par v
  | 0, _, h, _, _, _ => by omega
  | n + 1, i, h, hu, hv, hle => by
    cases hp : par i with
    | none =>
      rw [mem_anc_none hp] at hu hv
      rw [hu, hv]
      exact anc_self i
    | some j =>
      have hj := pl i j hp
      rcases (mem_anc_some hp hj).mp hv with q | q
      · rcases (mem_anc_some hp hj).mp hu with r | r
        · exact anc_linear pl n j (by omega) r q hle
        · have := mem_anc_le q
          omega
      · rw [q]
        exact hu
/-- the first ancestor -/
def rootOf (par : Nat → Option Nat) (i : Nat) : Nat := (anc par i).headD 0
theorem root_none {i : Nat} (h : par i = none) : rootOf par i = i := by
  unfold rootOf
  rw [anc_none h]
  rfl
theorem anc_ne (i : Nat) : anc par i ≠ [] := fun h => by
  have := anc_self (par := par) i
  rw [h] at this
  cases this
theorem root_some {i j : Nat} (h : par i = some j) (hl : j < i) : rootOf par i = rootOf par j := by
  unfold rootOf
  rw [anc_some h hl]
  cases e : anc par j with
  | nil => exact absurd e (anc_ne j)
  | cons x r => rfl
theorem root_mem (i : Nat) : rootOf par i ∈ anc par i := by
  unfold rootOf
  cases e : anc par i with
  | nil => exact absurd e (anc_ne i)
  | cons x r => simp
theorem root_of_mem (pl : ∀ i j, par i = some j → j < i) {u : Nat} : ∀ n i, i < n → u ∈ anc par i → rootOf par u = rootOf par i
  | 0, _, h, _ => by omega
  | n + 1, i, h, hu => by
    cases hp : par i with
    | none =>
      rw [mem_anc_none hp] at hu
      rw [hu]
    | some j =>
      have hj := pl i j hp
      rcases (mem_anc_some hp hj).mp hu with q | q
      · rw [root_some hp hj]
        exact root_of_mem pl n j (by omega) q
      · rw [q]
end
/-- the last view on both paths -/
def meet (par : Nat → Option Nat) (v o : Nat) : Option Nat := ((anc par v).filter fun x => decide (x ∈ anc par o)).getLast?
theorem last_max {l : List Nat} (hs : l.Pairwise (· < ·)) {a : Nat} (h : l.getLast? = some a) : a ∈ l ∧ ∀ u ∈ l, u ≤ a := by
  have hm : a ∈ l := List.mem_of_getLast? h
  refine ⟨hm, fun u hu => ?_⟩
  obtain ⟨ys, e⟩ := List.getLast?_eq_some_iff.mp h
  rw [e] at hs hu
  rcases List.mem_append.mp hu with q | q
  · have := (List.pairwise_append.mp hs).2.2 u q a (by simp)
    omega
  · simp at q
    omega
theorem meet_some {par : Nat → Option Nat} (pl : ∀ i j, par i = some j → j < i) {v o : Nat} (h : rootOf par v = rootOf par o) :
    ∃ a, meet par v o = some a ∧ a ∈ anc par v ∧ a ∈ anc par o ∧ ∀ u, u ∈ anc par v → u ∈ anc par o → u ≤ a := by
  have hr : rootOf par v ∈ (anc par v).filter fun x => decide (x ∈ anc par o) := by
    rw [List.mem_filter]
    refine ⟨root_mem v, ?_⟩
    rw [h]
    exact decide_eq_true (root_mem o)
  cases e : meet par v o with
  | none =>
    unfold meet at e
    rw [List.getLast?_eq_none_iff] at e
    rw [e] at hr
    cases hr
  | some a =>
    have hs : ((anc par v).filter fun x => decide (x ∈ anc par o)).Pairwise (· < ·) := (anc_sorted pl (v + 1) v (by omega)).filter _
    obtain ⟨h1, h2⟩ := last_max hs e
    rw [List.mem_filter] at h1
    refine ⟨a, rfl, h1.1, of_decide_eq_true h1.2, fun u hu hu2 => h2 u ?_⟩
    rw [List.mem_filter]
    exact ⟨hu, decide_eq_true hu2⟩

/-! ### capacities, none the greatest -/
def leO (a b : Option Nat) : Prop := ∀ y, b = some y → ∃ x, a = some x ∧ x ≤ y
theorem leO.refl (a : Option Nat) : leO a a := fun y e => ⟨y, e, Nat.le_refl y⟩
theorem leO.none (a : Option Nat) : leO a none := fun y e => by cases e
theorem leO.trans {a b c : Option Nat} (h : leO a b) (k : leO b c) : leO a c := fun z e => by
  obtain ⟨y, e1, l1⟩ := k z e
  obtain ⟨x, e2, l2⟩ := h y e1
  exact ⟨x, e2, by omega⟩
theorem leO_some {x y : Nat} : leO (some x) (some y) ↔ x ≤ y := ⟨fun h => by
  obtain ⟨z, e, l⟩ := h y rfl
  cases e
  exact l, fun h z e => by
  cases e
  exact ⟨x, rfl, h⟩⟩
theorem leO.of_le {x y : Nat} {b : Option Nat} (l : x ≤ y) (h : leO (some y) b) : leO (some x) b := (leO_some.mpr l).trans h
theorem leO.add {a b : Option Nat} (h : leO a b) (k : Nat) : leO (a.map (· + k)) (b.map (· + k)) := fun y e => by
  cases b with
  | none => cases e
  | some z =>
    obtain ⟨x, e1, l⟩ := h z rfl
    cases e
    exact ⟨x + k, by rw [e1]; rfl, by show x + k ≤ z + k; omega⟩
theorem leO.sub {a b : Option Nat} (h : leO a b) (k : Nat) : leO (a.map (· - k)) (b.map (· - k)) := fun y e => by
  cases b with
  | none => cases e
  | some z =>
    obtain ⟨x, e1, l⟩ := h z rfl
    cases e
    exact ⟨x - k, by rw [e1]; rfl, by show x - k ≤ z - k; omega⟩
theorem leO.of_add {x k : Nat} {b : Option Nat} (h : leO (some x) (b.map (· + k))) : leO (some (x - k)) b := fun y e => by
  subst e
  obtain ⟨z, e1, l⟩ := h (y + k) rfl
  cases e1
  exact ⟨x - k, rfl, by omega⟩
theorem leO.anti {a b : Option Nat} (h : leO a b) (k : leO b a) : a = b := by
  cases a with
  | none =>
    cases b with
    | none => rfl
    | some y =>
      obtain ⟨x, e, _⟩ := h y rfl
      cases e
  | some x =>
    cases b with
    | none =>
      obtain ⟨z, e, _⟩ := k x rfl
      cases e
    | some y =>
      have h1 := leO_some.mp h
      have h2 := leO_some.mp k
      rw [show x = y by omega]
theorem not_leO {x : Nat} {b : Option Nat} (h : ¬ leO (some x) b) : ∃ y, b = some y ∧ y < x := by
  cases b with
  | none => exact absurd (leO.none _) h
  | some y =>
    refine ⟨y, rfl, ?_⟩
    by_cases l : x ≤ y
    · exact absurd (leO_some.mpr l) h
    · omega

/-! ### trees of views and runs -/
inductive Kind where
  | mk (c : Nat) | slice (lo : Nat) | clip | app (g : Bool)
def Kind.isApp : Kind → Bool
  | .app _ => true
  | _ => false
structure Sys where
  m : Nat
  st : Nat → Nat
  par : Nat → Option Nat
  start : Nat → Nat
  len : Nat → Nat
  kind : Nat → Kind
  plt : ∀ i j, par i = some j → j < i
  stm : ∀ i j, i < j → j < m → st i < st j
  shape : ∀ i, i < m → match kind i with
    | .mk c => par i = none ∧ start i = 0 ∧ len i ≤ c
    | .slice lo => ∃ j, par i = some j ∧ start i = start j + lo ∧ lo + len i ≤ len j
    | .clip => ∃ j, par i = some j ∧ start i = start j ∧ len i = len j
    | .app _ => ∃ j, par i = some j ∧ start i = start j ∧ len j < len i
def Sys.end_ (S : Sys) (i : Nat) : Nat := S.start i + S.len i
theorem Sys.st_inj (S : Sys) {i j : Nat} (hi : i < S.m) (hj : j < S.m) (h : S.st i = S.st j) : i = j := by
  rcases Nat.lt_trichotomy i j with l | l | l
  · have := S.stm i j l hj
    omega
  · exact l
  · have := S.stm j i l hi
    omega
theorem Sys.st_lt (S : Sys) {i j : Nat} (hi : i < S.m) (hj : j < S.m) : S.st i < S.st j ↔ i < j := by
  refine ⟨fun h => ?_, fun h => S.stm i j h hj⟩
  rcases Nat.lt_trichotomy i j with l | l | l
  · exact l
  · subst l
    omega
  · have := S.stm j i l hi
    omega
structure Run (S : Sys) where
  ch : Nat → Nat → Option Nat
  cap : Nat → Option Nat
  cp : Nat → Bool
  ge : ∀ s n, leO (some n) (ch s n)
  law : ∀ i, i < S.m → match S.kind i with
    | .mk c => cap i = some c ∧ cp i = false
    | .slice lo => ∀ j, S.par i = some j → cap i = (cap j).map (· - lo) ∧ cp i = false
    | .clip => cap i = some (S.len i) ∧ cp i = false
    | .app g => ∀ j, S.par i = some j → ((g = false ∧ leO (some (S.len i)) (cap j)) → cap i = cap j ∧ cp i = false) ∧ (¬ (g = false ∧ leO (some (S.len i)) (cap j)) → cap i = ch (S.st i) (S.len i) ∧ cp i = true)
section
variable {S : Sys}
theorem Run.cap_ge (R : Run S) : ∀ n i, i < n → i < S.m → leO (some (S.len i)) (R.cap i)
  | 0, _, h, _ => by omega
  | n + 1, i, h, hm => by
    have hl := R.law i hm
    have hs := S.shape i hm
    cases hk : S.kind i with
    | mk c =>
      rw [hk] at hl hs
      rw [hl.1]
      exact leO_some.mpr hs.2.2
    | slice lo =>
      rw [hk] at hl hs
      obtain ⟨j, hp, _, h2⟩ := hs
      have hj := S.plt i j hp
      rw [(hl j hp).1]
      have ih := R.cap_ge n j (by omega) (by omega)
      refine leO.trans ?_ (ih.sub lo)
      exact leO_some.mpr (show S.len i ≤ S.len j - lo by omega)
    | clip =>
      rw [hk] at hl
      rw [hl.1]
      exact leO.refl _
    | app g =>
      rw [hk] at hl hs
      obtain ⟨j, hp, _, h2⟩ := hs
      by_cases c : g = false ∧ leO (some (S.len i)) (R.cap j)
      · rw [((hl j hp).1 c).1]
        exact c.2
      · rw [((hl j hp).2 c).1]
        exact R.ge _ _
theorem Run.ge_cap (R : Run S) {i : Nat} (hm : i < S.m) : leO (some (S.len i)) (R.cap i) := R.cap_ge (i + 1) i (by omega) hm
theorem Run.cp_app (R : Run S) {i : Nat} (hm : i < S.m) (h : R.cp i = true) : ∃ g, S.kind i = .app g := by
  have hl := R.law i hm
  cases hk : S.kind i with
  | mk c =>
    rw [hk] at hl
    rw [hl.2] at h
    cases h
  | slice lo =>
    have hs := S.shape i hm
    rw [hk] at hl hs
    obtain ⟨j, hp, _⟩ := hs
    rw [(hl j hp).2] at h
    cases h
  | clip =>
    rw [hk] at hl
    rw [hl.2] at h
    cases h
  | app g => exact ⟨g, rfl⟩
/-- how an append answers -/
theorem Run.app_law (R : Run S) {i : Nat} {g : Bool} (hm : i < S.m) (hk : S.kind i = .app g) :
    ∃ j, S.par i = some j ∧ j < i ∧ S.start i = S.start j ∧ S.len j < S.len i ∧
      ((g = false ∧ leO (some (S.len i)) (R.cap j)) → R.cap i = R.cap j ∧ R.cp i = false) ∧ (¬ (g = false ∧ leO (some (S.len i)) (R.cap j)) → R.cap i = R.ch (S.st i) (S.len i) ∧ R.cp i = true) := by
  have hl := R.law i hm
  have hs := S.shape i hm
  rw [hk] at hl hs
  obtain ⟨j, hp, h1, h2⟩ := hs
  exact ⟨j, hp, S.plt i j hp, h1, h2, hl j hp⟩
theorem Run.copied_cap (R : Run S) {i : Nat} (hm : i < S.m) (h : R.cp i = true) : R.cap i = R.ch (S.st i) (S.len i) := by
  obtain ⟨g, hk⟩ := R.cp_app hm h
  obtain ⟨j, _, _, _, _, h1, h2⟩ := R.app_law hm hk
  by_cases c : g = false ∧ leO (some (S.len i)) (R.cap j)
  · rw [(h1 c).2] at h
    cases h
  · exact (h2 c).1

/-! ### dominance -/
/-- what R chooses is no more than P has -/
def Dom (R P : Run S) : Prop := ∀ i, i < S.m → R.cp i = true → leO (R.ch (S.st i) (S.len i)) (P.cap i)
theorem dom_all {R P : Run S} (D : Dom R P) : ∀ n i, i < n → i < S.m → leO (R.cap i) (P.cap i) ∧ (P.cp i = true → R.cp i = true)
  | 0, _, h, _ => by omega
  | n + 1, i, h, hm => by
    have hl := R.law i hm
    have hl' := P.law i hm
    have hs := S.shape i hm
    cases hk : S.kind i with
    | mk c =>
      rw [hk] at hl hl'
      rw [hl.1, hl'.1, hl'.2]
      exact ⟨leO.refl _, fun z => by cases z⟩
    | slice lo =>
      rw [hk] at hl hl' hs
      obtain ⟨j, hp, _, _⟩ := hs
      have hj := S.plt i j hp
      rw [(hl j hp).1, (hl' j hp).1, (hl' j hp).2]
      exact ⟨(dom_all D n j (by omega) (by omega)).1.sub lo, fun z => by cases z⟩
    | clip =>
      rw [hk] at hl hl'
      rw [hl.1, hl'.1, hl'.2]
      exact ⟨leO.refl _, fun z => by cases z⟩
    | app g =>
      rw [hk] at hl hl' hs
      obtain ⟨j, hp, _, _⟩ := hs
      have hj := S.plt i j hp
      have ih := (dom_all D n j (by omega) (by omega)).1
      by_cases c : g = false ∧ leO (some (S.len i)) (R.cap j)
      · have c' : g = false ∧ leO (some (S.len i)) (P.cap j) := ⟨c.1, c.2.trans ih⟩
        rw [((hl j hp).1 c).1, ((hl' j hp).1 c').1, ((hl' j hp).1 c').2]
        exact ⟨ih, fun z => by cases z⟩
      · have q := (hl j hp).2 c
        refine ⟨?_, fun _ => q.2⟩
        rw [q.1]
        exact D i hm q.2
theorem Dom.cap {R P : Run S} (D : Dom R P) {i : Nat} (hm : i < S.m) : leO (R.cap i) (P.cap i) := (dom_all D (i + 1) i (by omega) hm).1
theorem Dom.cp {R P : Run S} (D : Dom R P) {i : Nat} (hm : i < S.m) (h : P.cp i = true) : R.cp i = true := (dom_all D (i + 1) i (by omega) hm).2 h
/-- capacities that are no greater copy at least as often -/
theorem cp_of_caps {R P : Run S} (h : ∀ i, i < S.m → leO (R.cap i) (P.cap i)) {i : Nat} (hm : i < S.m) (hc : P.cp i = true) : R.cp i = true := by
  obtain ⟨g, hk⟩ := P.cp_app hm hc
  obtain ⟨j, hp, hj, _, _, h1, h2⟩ := R.app_law hm hk
  obtain ⟨j', hp', _, _, _, h1', h2'⟩ := P.app_law hm hk
  rw [hp] at hp'
  cases hp'
  by_cases c : g = false ∧ leO (some (S.len i)) (R.cap j)
  · have c' : g = false ∧ leO (some (S.len i)) (P.cap j) := ⟨c.1, c.2.trans (h j (by omega))⟩
    rw [(h1' c').2] at hc
    cases hc
  · exact (h2 c).2

/-! ### the room at a view, counted from coordinate 0 -/
def Run.ce (R : Run S) (i : Nat) : Option Nat := (R.cap i).map (· + S.start i)
theorem Run.ce_step (R : Run S) {i j : Nat} (hm : i < S.m) (hp : S.par i = some j) (hc : R.cp i = false) : leO (R.ce i) (R.ce j) := by
  have hl := R.law i hm
  have hs := S.shape i hm
  have hj := S.plt i j hp
  have gj := R.ge_cap (i := j) (by omega)
  unfold Run.ce
  cases hk : S.kind i with
  | mk c =>
    rw [hk] at hs
    rw [hs.1] at hp
    cases hp
  | slice lo =>
    rw [hk] at hl hs
    obtain ⟨j', hp', h1, h2⟩ := hs
    rw [hp] at hp'
    cases hp'
    rw [(hl j hp).1, h1]
    intro y e
    cases hc : R.cap j with
    | none =>
      rw [hc] at e
      cases e
    | some z =>
      rw [hc] at e gj
      have gz := leO_some.mp gj
      cases e
      exact ⟨z - lo + (S.start j + lo), rfl, by simp; omega⟩
  | clip =>
    rw [hk] at hl hs
    obtain ⟨j', hp', h1, h2⟩ := hs
    rw [hp] at hp'
    cases hp'
    rw [hl.1, h1, h2]
    exact gj.add (S.start j)
  | app g =>
    obtain ⟨j', hp', _, h1, _, q1, q2⟩ := R.app_law hm hk
    rw [hp] at hp'
    cases hp'
    by_cases c : g = false ∧ leO (some (S.len i)) (R.cap j)
    · rw [(q1 c).1, h1]
      exact leO.refl _
    · rw [(q2 c).2] at hc
      cases hc
theorem Run.ce_path (R : Run S) {a : Nat} : ∀ n i, i < n → i < S.m → a ∈ anc S.par i → (∀ x, x ∈ anc S.par i → a < x → R.cp x = false) → leO (R.ce i) (R.ce a)
  | 0, _, h, _, _, _ => by omega
  | n + 1, i, h, hm, ha, hc => by
    by_cases e : a = i
    · rw [e]
      exact leO.refl _
    · cases hp : S.par i with
      | none =>
        rw [mem_anc_none hp] at ha
        exact absurd ha e
      | some j =>
        have hj := S.plt i j hp
        have hai := mem_anc_le ha
        have haj : a ∈ anc S.par j := ((mem_anc_some hp hj).mp ha).resolve_right e
        have ih := R.ce_path n j (by omega) (by omega) haj fun x hx hl => hc x ((mem_anc_some hp hj).mpr (.inl hx)) hl
        exact (R.ce_step hm hp (hc i (anc_self i) (by omega))).trans ih
theorem Run.end_ce (R : Run S) {i : Nat} (hm : i < S.m) : leO (some (S.end_ i)) (R.ce i) := by
  have h := (R.ge_cap hm).add (S.start i)
  unfold Run.ce Sys.end_
  rw [Nat.add_comm (S.start i)]
  exact h

/-! ### links and raises -/
/-- a set of append views behind a, closed towards a -/
structure Links (S : Sys) (a : Nat) (L : Nat → Prop) : Prop where
  lt : ∀ u, L u → u < S.m
  app : ∀ u, L u → ∃ g, S.kind u = .app g
  mem : ∀ u, L u → a ∈ anc S.par u
  gt : ∀ u, L u → a < u
  closed : ∀ u x g, L u → x ∈ anc S.par u → a < x → S.kind x = .app g → L x
theorem Links.calm {a : Nat} {L : Nat → Prop} (K : Links S a L) (R : Run S) {u x : Nat} (hn : ∀ u, L u → R.cp u = false) (hu : L u) (hx : x ∈ anc S.par u) (hl : a < x) : R.cp x = false := by
  cases hc : R.cp x with
  | false => rfl
  | true =>
    have hm : x < S.m := Nat.lt_of_le_of_lt (mem_anc_le hx) (K.lt u hu)
    obtain ⟨g, hk⟩ := R.cp_app hm hc
    rw [hn x (K.closed u x g hu hx hl hk)] at hc
    cases hc
theorem Links.room {a : Nat} {L : Nat → Prop} (K : Links S a L) (P : Run S) (hn : ∀ u, L u → P.cp u = false) {u : Nat} (hu : L u) : leO (some (S.end_ u)) (P.ce a) :=
  (P.end_ce (K.lt u hu)).trans (P.ce_path (u + 1) u (by omega) (K.lt u hu) (K.mem u hu) fun x hx hl => K.calm P hn hu hx hl)
/-- the forced entry is within what P has -/
theorem raise_le {R P : Run S} {a h E : Nat} {L : Nat → Prop} (K : Links S a L) (D : Dom R P) (hn : ∀ u, L u → P.cp u = false) (ham : a < S.m) (hh : h ∈ anc S.par a) (hg : ∀ x, x ∈ anc S.par a → h < x → R.cp x = false)
    (hE : ∃ u, L u ∧ S.end_ u = E) : leO (some (E - S.start h)) (P.cap h) := by
  obtain ⟨u, hu, rfl⟩ := hE
  have h1 := K.room P hn hu
  have h2 : leO (P.ce a) (P.ce h) := P.ce_path (a + 1) a (by omega) ham hh fun x hx hl => by
    cases hc : P.cp x with
    | false => rfl
    | true =>
      have := D.cp (Nat.lt_of_le_of_lt (mem_anc_le hx) ham) hc
      rw [hg x hx hl] at this
      cases this
  exact (h1.trans h2).of_add
/-- where neither copies both have the same capacity -/
theorem same_cap {R N : Run S} : ∀ n i, i < n → i < S.m → (∀ x, x ∈ anc S.par i → R.cp x = false) → (∀ x, x ∈ anc S.par i → N.cp x = false) → R.cap i = N.cap i
  | 0, _, h, _, _, _ => by omega
  | n + 1, i, h, hm, hr, hN => by
    have hl := R.law i hm
    have hl' := N.law i hm
    have hs := S.shape i hm
    cases hk : S.kind i with
    | mk c =>
      rw [hk] at hl hl'
      rw [hl.1, hl'.1]
    | slice lo =>
      rw [hk] at hl hl' hs
      obtain ⟨j, hp, _, _⟩ := hs
      have hj := S.plt i j hp
      rw [(hl j hp).1, (hl' j hp).1, same_cap n j (by omega) (by omega) (fun x hx => hr x ((mem_anc_some hp hj).mpr (.inl hx))) fun x hx => hN x ((mem_anc_some hp hj).mpr (.inl hx))]
    | clip =>
      rw [hk] at hl hl'
      rw [hl.1, hl'.1]
    | app g =>
      obtain ⟨j, hp, hj, _, _, q1, q2⟩ := R.app_law hm hk
      obtain ⟨j', hp', _, _, _, r1, r2⟩ := N.app_law hm hk
      rw [hp] at hp'
      cases hp'
      have ih := same_cap n j (by omega) (by omega) (fun x hx => hr x ((mem_anc_some hp hj).mpr (.inl hx))) fun x hx => hN x ((mem_anc_some hp hj).mpr (.inl hx))
      by_cases c : g = false ∧ leO (some (S.len i)) (R.cap j)
      · by_cases c' : g = false ∧ leO (some (S.len i)) (N.cap j)
        · rw [(q1 c).1, (r1 c').1, ih]
        · have := (r2 c').2
          rw [hN i (anc_self i)] at this
          cases this
      · have := (q2 c).2
        rw [hr i (anc_self i)] at this
        cases this
/-- the first copying link -/
theorem first_link {R : Run S} {a : Nat} {L : Nat → Prop} (K : Links S a L) : ∀ n u, u < n → L u → R.cp u = true → ∃ v, L v ∧ R.cp v = true ∧ ∀ x, x ∈ anc S.par v → a < x → x < v → R.cp x = false
  | 0, _, h, _, _ => by omega
  | n + 1, u, h, hu, hc => by
    by_cases q : ∃ x, x ∈ anc S.par u ∧ a < x ∧ x < u ∧ R.cp x = true
    · obtain ⟨x, hx, hl, hlt, hcx⟩ := q
      have hm : x < S.m := by
        have := K.lt u hu
        omega
      obtain ⟨g, hk⟩ := R.cp_app hm hcx
      exact first_link K n x (by omega) (K.closed u x g hu hx hl hk) hcx
    · refine ⟨u, hu, hc, fun x hx hl hlt => ?_⟩
      cases e : R.cp x with
      | false => rfl
      | true => exact absurd ⟨x, hx, hl, hlt, e⟩ q
/-- a link that copies under R and not under N, where R is below N: an ancestor of a copies under R -/
theorem raise_above {R N : Run S} {a : Nat} {L : Nat → Prop} (K : Links S a L) (D : Dom R N) (hn : ∀ u, L u → N.cp u = false) {u : Nat} (hu : L u) (hc : R.cp u = true) : ∃ h, h ∈ anc S.par a ∧ R.cp h = true := by
  obtain ⟨v, hv, hcv, hfirst⟩ := first_link K (u + 1) u (by omega) hu hc
  have hvm := K.lt v hv
  have hav := K.mem v hv
  have hgt := K.gt v hv
  obtain ⟨g, hk⟩ := K.app v hv
  obtain ⟨j, hp, hj, _, _, q1, q2⟩ := R.app_law hvm hk
  obtain ⟨j', hp', _, _, _, r1, r2⟩ := N.app_law hvm hk
  rw [hp] at hp'
  cases hp'
  by_cases q : ∃ h, h ∈ anc S.par a ∧ R.cp h = true
  · exact q
  · exfalso
    have up : ∀ x, x ∈ anc S.par j → x ∈ anc S.par v := fun x hx => (mem_anc_some hp hj).mpr (.inl hx)
    have inA : ∀ x, x ∈ anc S.par j → x ≤ a → x ∈ anc S.par a := fun x hx hl => anc_linear S.plt (v + 1) v (by omega) (up x hx) hav hl
    have hr : ∀ x, x ∈ anc S.par j → R.cp x = false := fun x hx => by
      have hxj := mem_anc_le hx
      by_cases l : x ≤ a
      · cases e : R.cp x with
        | false => rfl
        | true => exact absurd ⟨x, inA x hx l, e⟩ q
      · exact hfirst x (up x hx) (by omega) (by omega)
    have hN : ∀ x, x ∈ anc S.par j → N.cp x = false := fun x hx => by
      have hxj := mem_anc_le hx
      cases e : N.cp x with
      | false => rfl
      | true =>
        have := D.cp (by omega) e
        rw [hr x hx] at this
        cases this
    have ec := same_cap (j + 1) j (by omega) (by omega) hr hN
    have c' : g = false ∧ leO (some (S.len v)) (N.cap j) := by
      by_cases c : g = false ∧ leO (some (S.len v)) (N.cap j)
      · exact c
      · have := (r2 c).2
        rw [hn v hv] at this
        cases this
    rw [← ec] at c'
    rw [(q1 c').2] at hcv
    cases hcv
/-- below the nearest copying ancestor R has its room, or what N has -/
theorem path_alt {R N : Run S} {h c : Nat} (hcap : R.cap h = some c) : ∀ n x, x < n → x < S.m → h ∈ anc S.par x → (∀ y, y ∈ anc S.par x → h < y → R.cp y = false) → (∀ y, y ∈ anc S.par x → h < y → N.cp y = false) →
    R.cap x = N.cap x ∨ R.ce x = some (c + S.start h)
  | 0, _, hh, _, _, _, _ => by omega
  | n + 1, x, hh, hm, ha, hr, hN => by
    by_cases e : h = x
    · subst e
      right
      unfold Run.ce
      rw [hcap]
      rfl
    · cases hp : S.par x with
      | none =>
        rw [mem_anc_none hp] at ha
        exact absurd ha e
      | some j =>
        have hj := S.plt x j hp
        have hax := mem_anc_le ha
        have haj : h ∈ anc S.par j := ((mem_anc_some hp hj).mp ha).resolve_right e
        have ih := path_alt hcap n j (by omega) (by omega) haj (fun y hy hl => hr y ((mem_anc_some hp hj).mpr (.inl hy)) hl) fun y hy hl => hN y ((mem_anc_some hp hj).mpr (.inl hy)) hl
        have hl := R.law x hm
        have hl' := N.law x hm
        have hs := S.shape x hm
        have rx := hr x (anc_self x) (by omega)
        have nx := hN x (anc_self x) (by omega)
        cases hk : S.kind x with
        | mk c =>
          rw [hk] at hs
          rw [hs.1] at hp
          cases hp
        | slice lo =>
          rw [hk] at hl hl' hs
          obtain ⟨j', hp', h1, h2⟩ := hs
          rw [hp] at hp'
          cases hp'
          rcases ih with q | q
          · left
            rw [(hl j hp).1, (hl' j hp).1, q]
          · right
            have gj := R.ge_cap (i := j) (by omega)
            unfold Run.ce at q ⊢
            rw [(hl j hp).1, h1]
            cases hc : R.cap j with
            | none =>
              rw [hc] at q
              cases q
            | some z =>
              rw [hc] at q gj
              have gz := leO_some.mp gj
              have qz : z + S.start j = c + S.start h := Option.some.inj q
              show some (z - lo + (S.start j + lo)) = some (c + S.start h)
              congr 1
              omega
        | clip =>
          rw [hk] at hl hl'
          left
          rw [hl.1, hl'.1]
        | app g =>
          obtain ⟨j', hp', _, h1, _, q1, q2⟩ := R.app_law hm hk
          rw [hp] at hp'
          cases hp'
          obtain ⟨j', hp', _, _, _, r1, r2⟩ := N.app_law hm hk
          rw [hp] at hp'
          cases hp'
          have c1 : g = false ∧ leO (some (S.len x)) (R.cap j) := by
            by_cases c : g = false ∧ leO (some (S.len x)) (R.cap j)
            · exact c
            · rw [(q2 c).2] at rx
              cases rx
          have c2 : g = false ∧ leO (some (S.len x)) (N.cap j) := by
            by_cases c : g = false ∧ leO (some (S.len x)) (N.cap j)
            · exact c
            · rw [(r2 c).2] at nx
              cases nx
          rcases ih with q | q
          · left
            rw [(q1 c1).1, (r1 c2).1, q]
          · right
            unfold Run.ce at q ⊢
            rw [(q1 c1).1, h1]
            exact q
/-- a raise makes the capacity greater -/
theorem raise_gt {R N : Run S} {a h c E : Nat} {L : Nat → Prop} (K : Links S a L) (D : Dom R N) (hn : ∀ u, L u → N.cp u = false) {u : Nat} (hu : L u) (hc : R.cp u = true) (ham : a < S.m)
    (hh : h ∈ anc S.par a) (hg : ∀ x, x ∈ anc S.par a → h < x → R.cp x = false) (hcap : R.cap h = some c) (hE : ∀ u, L u → S.end_ u ≤ E) : c + S.start h < E := by
  obtain ⟨v, hv, hcv, hfirst⟩ := first_link K (u + 1) u (by omega) hu hc
  have hvm := K.lt v hv
  have hav := K.mem v hv
  have hgt := K.gt v hv
  obtain ⟨g, hk⟩ := K.app v hv
  obtain ⟨j, hp, hj, hst, _, q1, q2⟩ := R.app_law hvm hk
  obtain ⟨j', hp', _, _, _, r1, r2⟩ := N.app_law hvm hk
  rw [hp] at hp'
  cases hp'
  have up : ∀ x, x ∈ anc S.par j → x ∈ anc S.par v := fun x hx => (mem_anc_some hp hj).mpr (.inl hx)
  have inA : ∀ x, x ∈ anc S.par j → x ≤ a → x ∈ anc S.par a := fun x hx hl => anc_linear S.plt (v + 1) v (by omega) (up x hx) hav hl
  have haj : a ∈ anc S.par j := ((mem_anc_some hp hj).mp hav).resolve_right (by omega)
  have hhj : h ∈ anc S.par j := anc_trans S.plt (j + 1) j (by omega) hh haj
  have hr : ∀ x, x ∈ anc S.par j → h < x → R.cp x = false := fun x hx hl => by
    have hxj := mem_anc_le hx
    by_cases l : x ≤ a
    · exact hg x (inA x hx l) hl
    · exact hfirst x (up x hx) (by omega) (by omega)
  have hN : ∀ x, x ∈ anc S.par j → h < x → N.cp x = false := fun x hx hl => by
    have hxj := mem_anc_le hx
    cases e : N.cp x with
    | false => rfl
    | true =>
      have := D.cp (by omega) e
      rw [hr x hx hl] at this
      cases this
  have c' : g = false ∧ leO (some (S.len v)) (N.cap j) := by
    by_cases c : g = false ∧ leO (some (S.len v)) (N.cap j)
    · exact c
    · have := (r2 c).2
      rw [hn v hv] at this
      cases this
  have nc : ¬ leO (some (S.len v)) (R.cap j) := fun z => by
    rw [(q1 ⟨c'.1, z⟩).2] at hcv
    cases hcv
  rcases path_alt hcap (j + 1) j (by omega) (by omega) hhj hr hN with q | q
  · rw [q] at nc
    exact absurd c'.2 nc
  · obtain ⟨y, ey, ly⟩ := not_leO nc
    have hEv := hE v hv
    unfold Run.ce at q
    rw [ey] at q
    have qz : y + S.start j = c + S.start h := Option.some.inj q
    unfold Sys.end_ at hEv
    omega
end
end GB
/-! Tables, goals, the loop of raises, the least table. -/
namespace GB

/-! ### tables -/
abbrev Tab := List (Nat × Nat)
/-- the capacity that a table gives -/
def tabCap : Tab → Nat → Nat → Nat
  | [], _, n => n
  | e :: T, s, n => if e.1 = s then max e.2 (tabCap T s n) else tabCap T s n
theorem tabCap_le {s y : Nat} : ∀ {T : Tab} {n : Nat}, tabCap T s n ≤ y ↔ n ≤ y ∧ ∀ e, e ∈ T → e.1 = s → e.2 ≤ y
  | [], n => by simp [tabCap]
  | e :: T, n => by
    unfold tabCap
    have ih := tabCap_le (s := s) (y := y) (T := T) (n := n)
    split
    · rename_i h
      constructor
      · intro q
        have q2 : e.2 ≤ y ∧ tabCap T s n ≤ y := by omega
        refine ⟨(ih.mp q2.2).1, fun d hd he => ?_⟩
        rcases List.mem_cons.mp hd with r | r
        · rw [r]
          exact q2.1
        · exact (ih.mp q2.2).2 d r he
      · rintro ⟨q1, q2⟩
        have a := q2 e List.mem_cons_self h
        have b := ih.mpr ⟨q1, fun d hd he => q2 d (List.mem_cons_of_mem _ hd) he⟩
        omega
    · rename_i h
      rw [ih]
      refine ⟨fun ⟨a, b⟩ => ⟨a, fun d hd he => ?_⟩, fun ⟨a, b⟩ => ⟨a, fun d hd he => b d (List.mem_cons_of_mem _ hd) he⟩⟩
      rcases List.mem_cons.mp hd with r | r
      · rw [r] at he
        exact absurd he h
      · exact b d r he
theorem tabCap_ge (T : Tab) (s n : Nat) : n ≤ tabCap T s n := (tabCap_le.mp (Nat.le_refl (tabCap T s n))).1
theorem tabCap_mem_le {T : Tab} {s n c : Nat} (h : (s, c) ∈ T) : c ≤ tabCap T s n := (tabCap_le.mp (Nat.le_refl (tabCap T s n))).2 _ h rfl
theorem tabCap_eq {T T' : Tab} {s n : Nat} (h : ∀ c, (s, c) ∈ T ↔ (s, c) ∈ T') : tabCap T s n = tabCap T' s n := by
  apply Nat.le_antisymm
  · rw [tabCap_le]
    refine ⟨tabCap_ge _ _ _, fun e he hs => ?_⟩
    obtain ⟨a, b⟩ := e
    simp only at hs
    subst hs
    exact tabCap_mem_le ((h b).mp he)
  · rw [tabCap_le]
    refine ⟨tabCap_ge _ _ _, fun e he hs => ?_⟩
    obtain ⟨a, b⟩ := e
    simp only at hs
    subst hs
    exact tabCap_mem_le ((h b).mpr he)
theorem tabCap_mono {T : Tab} {s n k : Nat} (h : n ≤ k) : tabCap T s n ≤ tabCap T s k := by
  rw [tabCap_le]
  exact ⟨Nat.le_trans h (tabCap_ge _ _ _), fun e he hs => by
    obtain ⟨a, b⟩ := e
    simp only at hs
    subst hs
    exact tabCap_mem_le he⟩
theorem tabCap_or : ∀ (T : Tab) (s n : Nat), tabCap T s n = n ∨ (s, tabCap T s n) ∈ T
  | [], _, _ => .inl rfl
  | e :: T, s, n => by
    unfold tabCap
    split
    · rename_i h
      rcases tabCap_or T s n with q | q
      · by_cases l : e.2 ≤ tabCap T s n
        · left
          rw [q] at l ⊢
          omega
        · right
          have : max e.2 (tabCap T s n) = e.2 := by omega
          rw [this]
          obtain ⟨a, b⟩ := e
          simp only at h
          subst h
          exact List.mem_cons_self
      · by_cases l : e.2 ≤ tabCap T s n
        · right
          have : max e.2 (tabCap T s n) = tabCap T s n := by omega
          rw [this]
          exact List.mem_cons_of_mem _ q
        · right
          have : max e.2 (tabCap T s n) = e.2 := by omega
          rw [this]
          obtain ⟨a, b⟩ := e
          simp only at h
          subst h
          exact List.mem_cons_self
    · rename_i h
      rcases tabCap_or T s n with q | q
      · exact .inl q
      · exact .inr (List.mem_cons_of_mem _ q)
/-- sorted by statement, no statement twice -/
def Srt (T : Tab) : Prop := T.Pairwise fun a b => a.1 < b.1
theorem Srt.uniq {T : Tab} (h : Srt T) {s c d : Nat} (h1 : (s, c) ∈ T) (h2 : (s, d) ∈ T) : c = d := by
  induction T with
  | nil => cases h1
  | cons e T ih =>
    have hs := List.pairwise_cons.mp h
    rcases List.mem_cons.mp h1 with r | r
    · rcases List.mem_cons.mp h2 with q | q
      · rw [← r] at q
        cases q
        rfl
      · have := hs.1 _ q
        rw [← r] at this
        simp at this
    · rcases List.mem_cons.mp h2 with q | q
      · have := hs.1 _ r
        rw [← q] at this
        simp at this
      · exact ih hs.2 r q
/-- two sorted tables of the same entries are one -/
theorem Srt.ext : ∀ {T U : Tab}, Srt T → Srt U → (∀ e, e ∈ T ↔ e ∈ U) → T = U
  | [], [], _, _, _ => rfl
  | [], u :: U, _, _, h => by
    have := (h u).mpr List.mem_cons_self
    cases this
  | t :: T, [], _, _, h => by
    have := (h t).mp List.mem_cons_self
    cases this
  | t :: T, u :: U, ht, hu, h => by
    have h1 := List.pairwise_cons.mp ht
    have h2 := List.pairwise_cons.mp hu
    have e : t = u := by
      rcases List.mem_cons.mp ((h t).mp List.mem_cons_self) with q | q
      · exact q
      · rcases List.mem_cons.mp ((h u).mpr List.mem_cons_self) with r | r
        · exact r.symm
        · have a := h1.1 _ r
          have b := h2.1 _ q
          omega
    subst e
    congr 1
    refine Srt.ext h1.2 h2.2 fun e => ⟨fun q => ?_, fun q => ?_⟩
    · rcases List.mem_cons.mp ((h e).mp (List.mem_cons_of_mem _ q)) with r | r
      · have := h1.1 _ q
        rw [r] at this
        omega
      · exact r
    · rcases List.mem_cons.mp ((h e).mpr (List.mem_cons_of_mem _ q)) with r | r
      · have := h2.1 _ q
        rw [r] at this
        omega
      · exact r
/-- an entry put in its place; the old one of that statement goes -/
def putE (s c : Nat) : Tab → Tab
  | [] => [(s, c)]
  | e :: T => if e.1 < s then e :: putE s c T else if e.1 = s then (s, c) :: T else (s, c) :: e :: T
theorem putE_fst {s c : Nat} : ∀ {T : Tab} {e : Nat × Nat}, e ∈ putE s c T → e = (s, c) ∨ e ∈ T
  | [], e, h => by
    unfold putE at h
    simp at h
    exact .inl h
  | d :: T, e, h => by
    unfold putE at h
    split at h
    · rcases List.mem_cons.mp h with q | q
      · exact .inr (by rw [q]; exact List.mem_cons_self)
      · rcases putE_fst q with r | r
        · exact .inl r
        · exact .inr (List.mem_cons_of_mem _ r)
    · split at h
      · rcases List.mem_cons.mp h with q | q
        · exact .inl q
        · exact .inr (List.mem_cons_of_mem _ q)
      · rcases List.mem_cons.mp h with q | q
        · exact .inl q
        · exact .inr q
theorem putE_srt {s c : Nat} : ∀ {T : Tab}, Srt T → Srt (putE s c T)
  | [], _ => by
    unfold putE Srt
    simp
  | d :: T, h => by
    have h1 := List.pairwise_cons.mp h
    unfold putE
    split
    · rename_i l
      refine List.pairwise_cons.mpr ⟨fun e he => ?_, putE_srt h1.2⟩
      rcases putE_fst he with q | q
      · rw [q]
        exact l
      · exact h1.1 e q
    · split
      · rename_i e
        refine List.pairwise_cons.mpr ⟨fun x hx => ?_, h1.2⟩
        have := h1.1 x hx
        simp only
        omega
      · refine List.pairwise_cons.mpr ⟨fun x hx => ?_, h⟩
        rcases List.mem_cons.mp hx with q | q
        · rw [q]
          simp only
          omega
        · have := h1.1 x q
          simp only
          omega
theorem putE_mem {s c : Nat} : ∀ {T : Tab}, Srt T → ∀ e, e ∈ putE s c T ↔ e = (s, c) ∨ (e ∈ T ∧ e.1 ≠ s)
  | [], _, e => by
    unfold putE
    simp
  | d :: T, h, e => by
    have h1 := List.pairwise_cons.mp h
    unfold putE
    split
    · rename_i l
      rw [List.mem_cons, putE_mem h1.2 e, List.mem_cons]
      constructor
      · rintro (q | q | q)
        · exact .inr ⟨.inl q, by rw [q]; omega⟩
        · exact .inl q
        · exact .inr ⟨.inr q.1, q.2⟩
      · rintro (q | ⟨q | q, r⟩)
        · exact .inr (.inl q)
        · exact .inl q
        · exact .inr (.inr ⟨q, r⟩)
    · split
      · rename_i l
        rw [List.mem_cons, List.mem_cons]
        constructor
        · rintro (q | q)
          · exact .inl q
          · have := h1.1 e q
            exact .inr ⟨.inr q, by omega⟩
        · rintro (q | ⟨q | q, r⟩)
          · exact .inl q
          · rw [q] at r
            exact absurd l r
          · exact .inr q
      · rename_i l1 l2
        rw [List.mem_cons, List.mem_cons]
        constructor
        · rintro (q | q | q)
          · exact .inl q
          · exact .inr ⟨.inl q, by rw [q]; exact l2⟩
          · have := h1.1 e q
            exact .inr ⟨.inr q, by omega⟩
        · rintro (q | ⟨q | q, r⟩)
          · exact .inl q
          · exact .inr (.inl q)
          · exact .inr (.inr q)
theorem tabCap_put {T : Tab} (h : Srt T) (s c s' n : Nat) : tabCap (putE s c T) s' n = if s' = s then max n c else tabCap T s' n := by
  split
  · rename_i e
    subst e
    apply Nat.le_antisymm
    · rw [tabCap_le]
      refine ⟨by omega, fun e he hs => ?_⟩
      rcases (putE_mem h e).mp he with q | q
      · rw [q]
        omega
      · exact absurd hs q.2
    · have a := tabCap_ge (putE s' c T) s' n
      have b : c ≤ tabCap (putE s' c T) s' n := tabCap_mem_le ((putE_mem h _).mpr (.inl rfl))
      omega
  · rename_i e
    refine tabCap_eq fun d => ?_
    rw [putE_mem h]
    constructor
    · rintro (q | q)
      · cases q
        exact absurd rfl e
      · exact q.1
    · intro q
      exact .inr ⟨q, e⟩

/-! ### sums that fall -/
def sumTo (f : Nat → Nat) : Nat → Nat
  | 0 => 0
  | n + 1 => sumTo f n + f n
theorem sumTo_le {f g : Nat → Nat} (h : ∀ i, f i ≤ g i) : ∀ n, sumTo f n ≤ sumTo g n
  | 0 => Nat.le_refl _
  | n + 1 => by
    have := sumTo_le h n
    have := h n
    unfold sumTo
    omega
theorem sumTo_lt {f g : Nat → Nat} (h : ∀ i, f i ≤ g i) {s : Nat} (l : f s < g s) : ∀ n, s < n → sumTo f n < sumTo g n
  | 0, hs => by omega
  | n + 1, hs => by
    have a := sumTo_le h n
    have b := h n
    unfold sumTo
    by_cases e : s = n
    · subst e
      omega
    · have := sumTo_lt h l n (by omega)
      omega
theorem sumTo_bound {f : Nat → Nat} {B : Nat} (h : ∀ i, f i ≤ B) : ∀ n, sumTo f n ≤ n * B
  | 0 => by simp [sumTo]
  | n + 1 => by
    have a := sumTo_bound h n
    have b := h n
    unfold sumTo
    rw [Nat.add_mul, Nat.one_mul]
    omega

/-! ### goals and raises -/
structure Goal where
  a : Nat
  ls : List Nat
  e : Nat
structure GoalOk (S : Sys) (g : Goal) (L : Nat → Prop) : Prop where
  am : g.a < S.m
  links : Links S g.a L
  mem : ∀ s, s ∈ g.ls ↔ ∃ u, L u ∧ S.st u = s
  top : ∀ u, L u → S.end_ u ≤ g.e
  att : g.ls ≠ [] → ∃ u, L u ∧ S.end_ u = g.e
/-- the statements that copy -/
def copied (S : Sys) (cp : Nat → Bool) : List Nat := ((List.range S.m).filter cp).map S.st
theorem mem_copied {S : Sys} {cp : Nat → Bool} {s : Nat} : s ∈ copied S cp ↔ ∃ u, u < S.m ∧ cp u = true ∧ S.st u = s := by
  unfold copied
  rw [List.mem_map]
  constructor
  · rintro ⟨u, hu, e⟩
    rw [List.mem_filter, List.mem_range] at hu
    exact ⟨u, hu.1, hu.2, e⟩
  · rintro ⟨u, h1, h2, e⟩
    exact ⟨u, by rw [List.mem_filter, List.mem_range]; exact ⟨h1, h2⟩, e⟩
theorem st_copied {S : Sys} {cp : Nat → Bool} {u : Nat} (hu : u < S.m) : S.st u ∈ copied S cp ↔ cp u = true := by
  rw [mem_copied]
  constructor
  · rintro ⟨v, h1, h2, e⟩
    rw [← S.st_inj h1 hu e]
    exact h2
  · intro h
    exact ⟨u, hu, h, rfl⟩
/-- some link copies -/
def hit (cs : List Nat) (g : Goal) : Bool := g.ls.any fun s => decide (s ∈ cs)
theorem hit_false {cs : List Nat} {g : Goal} : hit cs g = false ↔ ∀ s, s ∈ g.ls → s ∉ cs := by
  unfold hit
  rw [List.any_eq_false]
  constructor
  · intro h s hs hc
    have := h s hs
    exact this (decide_eq_true hc)
  · intro h s hs hc
    exact h s hs (of_decide_eq_true hc)
theorem hit_true {cs : List Nat} {g : Goal} : hit cs g = true ↔ ∃ s, s ∈ g.ls ∧ s ∈ cs := by
  unfold hit
  rw [List.any_eq_true]
  constructor
  · rintro ⟨s, hs, hc⟩
    exact ⟨s, hs, of_decide_eq_true hc⟩
  · rintro ⟨s, hs, hc⟩
    exact ⟨s, hs, decide_eq_true hc⟩
/-- the ancestors that copy -/
def above (S : Sys) (cs : List Nat) (g : Goal) : List Nat := (anc S.par g.a).filter fun v => decide (S.st v ∈ cs)
def raiseA (S : Sys) (cs : List Nat) (g : Goal) : Option (Nat × Nat) :=
  if hit cs g = true then (above S cs g).getLast?.map fun h => (S.st h, g.e - S.start h) else none
/-- the first goal that is not linked: its number, the statement, the capacity -/
def nextR (S : Sys) (cs : List Nat) : List Goal → Nat → Option (Nat × Nat × Nat)
  | [], _ => none
  | g :: gs, i => match raiseA S cs g with
    | some r => some (i, r)
    | none => nextR S cs gs (i + 1)
section
variable {S : Sys}
theorem above_last {cs : List Nat} {cp : Nat → Bool} (hc : cs = copied S cp) {g : Goal} {h : Nat} (am : g.a < S.m) (e : (above S cs g).getLast? = some h) :
    h ∈ anc S.par g.a ∧ h < S.m ∧ cp h = true ∧ ∀ x, x ∈ anc S.par g.a → h < x → cp x = false := by
  have hs : (above S cs g).Pairwise (· < ·) := (anc_sorted S.plt (g.a + 1) g.a (by omega)).filter _
  obtain ⟨h1, h2⟩ := last_max hs e
  unfold above at h1 h2
  rw [List.mem_filter] at h1
  have hm : h < S.m := Nat.lt_of_le_of_lt (mem_anc_le h1.1) am
  have hst := of_decide_eq_true h1.2
  rw [hc, st_copied hm] at hst
  refine ⟨h1.1, hm, hst, fun x hx hl => ?_⟩
  cases q : cp x with
  | false => rfl
  | true =>
    have hxm : x < S.m := Nat.lt_of_le_of_lt (mem_anc_le hx) am
    have := h2 x (by
      rw [List.mem_filter]
      refine ⟨hx, decide_eq_true ?_⟩
      rw [hc, st_copied hxm]
      exact q)
    omega
theorem GoalOk.linked {g : Goal} {L : Nat → Prop} (G : GoalOk S g L) {cp : Nat → Bool} : hit (copied S cp) g = false ↔ ∀ u, L u → cp u = false := by
  rw [hit_false]
  constructor
  · intro h u hu
    cases e : cp u with
    | false => rfl
    | true => exact absurd ((st_copied (G.links.lt u hu)).mpr e) (h _ ((G.mem _).mpr ⟨u, hu, rfl⟩))
  · intro h s hs hc
    obtain ⟨u, hu, rfl⟩ := (G.mem s).mp hs
    rw [st_copied (G.links.lt u hu), h u hu] at hc
    cases hc
theorem nextR_some {cs : List Nat} : ∀ {gs : List Goal} {i k s c : Nat}, nextR S cs gs i = some (k, s, c) → ∃ g, g ∈ gs ∧ raiseA S cs g = some (s, c)
  | [], _, _, _, _, h => by cases h
  | g :: gs, i, k, s, c, h => by
    unfold nextR at h
    cases e : raiseA S cs g with
    | none =>
      rw [e] at h
      obtain ⟨g', h1, h2⟩ := nextR_some h
      exact ⟨g', List.mem_cons_of_mem _ h1, h2⟩
    | some r =>
      rw [e] at h
      cases h
      exact ⟨g, List.mem_cons_self, e⟩
theorem nextR_none {cs : List Nat} : ∀ {gs : List Goal} {i : Nat}, nextR S cs gs i = none → ∀ g, g ∈ gs → raiseA S cs g = none
  | [], _, _, _, h => by cases h
  | g :: gs, i, h, g', hg => by
    unfold nextR at h
    cases e : raiseA S cs g with
    | none =>
      rw [e] at h
      rcases List.mem_cons.mp hg with q | q
      · rw [q]
        exact e
      · exact nextR_none h g' q
    | some r =>
      rw [e] at h
      cases h

/-! ### the least table -/
variable (S) in
structure Tabs where
  run : Tab → Run S
  ch : ∀ T s n, (run T).ch s n = some (tabCap T s n)
  /-- the endless run -/
  inf : Run S
  infCh : ∀ s n, inf.ch s n = none
variable {R : Tabs S}
/-- each goal with its links -/
def GoalsOk (S : Sys) (gs : List Goal) : Prop := ∀ g, g ∈ gs → ∃ L, GoalOk S g L
/-- no link of a goal copies -/
def Lk (P : Run S) (gs : List Goal) : Prop := ∀ g, g ∈ gs → hit (copied S P.cp) g = false
inductive Reach (R : Tabs S) (gs : List Goal) : Tab → Prop where
  | nil : Reach R gs []
  | put {T : Tab} {k s c : Nat} : Reach R gs T → nextR S (copied S (R.run T).cp) gs 0 = some (k, s, c) → Reach R gs (putE s c T)
theorem Reach.srt {gs : List Goal} {T : Tab} (h : Reach R gs T) : Srt T := by
  induction h with
  | nil => exact List.Pairwise.nil
  | put _ _ ih => exact putE_srt ih
def InvT (T : Tab) (P : Run S) : Prop := ∀ e, e ∈ T → ∃ h, h < S.m ∧ S.st h = e.1 ∧ leO (some e.2) (P.cap h)
theorem InvT.dom {T : Tab} {P : Run S} (h : InvT T P) : Dom (R.run T) P := fun i hi _ => by
  rw [R.ch]
  intro y e
  refine ⟨_, rfl, ?_⟩
  rw [tabCap_le]
  have g := P.ge_cap hi
  rw [e] at g
  refine ⟨leO_some.mp g, fun d hd hs => ?_⟩
  obtain ⟨j, hj, ej, l⟩ := h d hd
  rw [hs] at ej
  have := S.st_inj hj hi ej
  subst this
  rw [e] at l
  exact leO_some.mp l
/-- what a raise is -/
theorem raiseA_some {gs : List Goal} {T : Tab} {g : Goal} {s c : Nat} {L : Nat → Prop} (G : GoalOk S g L) (e : raiseA S (copied S (R.run T).cp) g = some (s, c)) :
    ∃ h, h ∈ anc S.par g.a ∧ h < S.m ∧ (R.run T).cp h = true ∧ (∀ x, x ∈ anc S.par g.a → h < x → (R.run T).cp x = false) ∧ S.st h = s ∧ c = g.e - S.start h ∧ ∃ u, L u ∧ (R.run T).cp u = true := by
  unfold raiseA at e
  split at e
  · rename_i hh
    cases q : (above S (copied S (R.run T).cp) g).getLast? with
    | none =>
      rw [q] at e
      cases e
    | some h =>
      rw [q] at e
      cases e
      obtain ⟨h1, h2, h3, h4⟩ := above_last rfl G.am q
      obtain ⟨s, hs, hc⟩ := hit_true.mp hh
      obtain ⟨u, hu, rfl⟩ := (G.mem s).mp hs
      exact ⟨h, h1, h2, h3, h4, rfl, rfl, u, hu, (st_copied (G.links.lt u hu)).mp hc⟩
  · cases e
theorem Reach.inv {gs : List Goal} {T : Tab} (h : Reach R gs T) (ok : GoalsOk S gs) {P : Run S} (lk : Lk P gs) : InvT T P := by
  induction h with
  | nil =>
    intro e he
    cases he
  | @put T k s c hr hn ih =>
    intro e he
    rcases (putE_mem hr.srt e).mp he with q | q
    · obtain ⟨g, hg, er⟩ := nextR_some hn
      obtain ⟨L, G⟩ := ok g hg
      obtain ⟨h, h1, h2, h3, h4, h5, h6, u, hu, hcu⟩ := raiseA_some (gs := gs) G er
      have D : Dom (R.run T) P := ih.dom
      have ne : g.ls ≠ [] := fun z => by
        have := (G.mem _).mpr ⟨u, hu, rfl⟩
        rw [z] at this
        cases this
      refine ⟨h, h2, by rw [q]; exact h5, ?_⟩
      rw [q]
      show leO (some c) (P.cap h)
      rw [h6]
      exact raise_le G.links D (G.linked.mp (lk g hg)) G.am h1 h4 (G.att ne)
    · exact ih e q.1
/-- the endless run links the goals: no goal is barred; then a raise exists where a goal is not linked, and it raises -/
theorem raise_there {gs : List Goal} {T : Tab} (h : Reach R gs T) (ok : GoalsOk S gs) {N : Run S} (lk : Lk N gs) {g : Goal} (hg : g ∈ gs) (hh : hit (copied S (R.run T).cp) g = true) :
    above S (copied S (R.run T).cp) g ≠ [] := by
  obtain ⟨L, G⟩ := ok g hg
  have D : Dom (R.run T) N := (h.inv ok lk).dom
  obtain ⟨s, hs, hc⟩ := hit_true.mp hh
  obtain ⟨u, hu, rfl⟩ := (G.mem s).mp hs
  obtain ⟨x, hx, hcx⟩ := raise_above G.links D (G.linked.mp (lk g hg)) hu ((st_copied (G.links.lt u hu)).mp hc)
  intro z
  have : x ∈ above S (copied S (R.run T).cp) g := by
    unfold above
    rw [List.mem_filter]
    exact ⟨hx, decide_eq_true ((st_copied (Nat.lt_of_le_of_lt (mem_anc_le hx) G.am)).mpr hcx)⟩
  rw [z] at this
  cases this
theorem raise_more {gs : List Goal} {T : Tab} (h : Reach R gs T) (ok : GoalsOk S gs) {N : Run S} (lk : Lk N gs) {g : Goal} (hg : g ∈ gs) {x : Nat} (hh : hit (copied S (R.run T).cp) g = true)
    (hx : (above S (copied S (R.run T).cp) g).getLast? = some x) : tabCap T (S.st x) 0 + S.start x < g.e ∧ x < S.m := by
  obtain ⟨L, G⟩ := ok g hg
  have D : Dom (R.run T) N := (h.inv ok lk).dom
  obtain ⟨s, hs, hc⟩ := hit_true.mp hh
  obtain ⟨u, hu, rfl⟩ := (G.mem s).mp hs
  obtain ⟨h1, h2, h3, h4⟩ := above_last rfl G.am hx
  have hcap : (R.run T).cap x = some (tabCap T (S.st x) (S.len x)) := by
    rw [(R.run T).copied_cap h2 h3, R.ch]
  have := raise_gt G.links D (G.linked.mp (lk g hg)) hu ((st_copied (G.links.lt u hu)).mp hc) G.am h1 h4 hcap fun u hu => G.top u hu
  have := tabCap_mono (T := T) (s := S.st x) (Nat.zero_le (S.len x))
  exact ⟨by omega, h2⟩
/-- how far a table is from its bound -/
def far (B n : Nat) (T : Tab) : Nat := sumTo (fun s => B - tabCap T s 0) n
theorem far_falls {gs : List Goal} {T : Tab} (h : Reach R gs T) (ok : GoalsOk S gs) {N : Run S} (lk : Lk N gs) {B n k s c : Nat} (hB : ∀ g, g ∈ gs → g.e ≤ B) (hn : ∀ u, u < S.m → S.st u < n)
    (e : nextR S (copied S (R.run T).cp) gs 0 = some (k, s, c)) : far B n (putE s c T) < far B n T ∧ c ≤ B := by
  obtain ⟨g, hg, er⟩ := nextR_some e
  unfold raiseA at er
  split at er
  · rename_i hh
    cases q : (above S (copied S (R.run T).cp) g).getLast? with
    | none =>
      rw [q] at er
      cases er
    | some x =>
      rw [q] at er
      cases er
      obtain ⟨h1, h2⟩ := raise_more h ok lk hg hh q
      have hb := hB g hg
      refine ⟨sumTo_lt (s := S.st x) (fun i => ?_) ?_ n (hn x h2), by omega⟩
      · show B - tabCap (putE (S.st x) (g.e - S.start x) T) i 0 ≤ B - tabCap T i 0
        rw [tabCap_put h.srt]
        split
        · rename_i ei
          subst ei
          omega
        · omega
      · show B - tabCap (putE (S.st x) (g.e - S.start x) T) (S.st x) 0 < B - tabCap T (S.st x) 0
        rw [tabCap_put h.srt, if_pos rfl]
        omega
  · cases er
/-- the loop's end: all are linked -/
theorem end_linked {gs : List Goal} {T : Tab} (h : Reach R gs T) (ok : GoalsOk S gs) {N : Run S} (lk : Lk N gs) (e : nextR S (copied S (R.run T).cp) gs 0 = none) : Lk (R.run T) gs := fun g hg => by
  have r := nextR_none e g hg
  cases q : hit (copied S (R.run T).cp) g with
  | false => rfl
  | true =>
    exfalso
    unfold raiseA at r
    rw [if_pos q] at r
    have ne := raise_there h ok lk hg q
    cases z : (above S (copied S (R.run T).cp) g).getLast? with
    | none => exact ne (List.getLast?_eq_none_iff.mp z)
    | some x =>
      rw [z] at r
      cases r
theorem Reach.only_nil {gs : List Goal} {T : Tab} (h : Reach R gs T) (e : nextR S (copied S (R.run []).cp) gs 0 = none) : T = [] := by
  induction h with
  | nil => rfl
  | put _ hn ih =>
    rw [ih, e] at hn
    cases hn

/-! ### entries without effect left out -/
def trimB (S : Sys) (R : Run S) (e : Nat × Nat) : Bool := (List.range S.m).any fun h => R.cp h && decide (S.st h = e.1) && decide (S.len h < e.2)
theorem trimB_true {R : Run S} {e : Nat × Nat} : trimB S R e = true ↔ ∃ h, h < S.m ∧ R.cp h = true ∧ S.st h = e.1 ∧ S.len h < e.2 := by
  unfold trimB
  rw [List.any_eq_true]
  constructor
  · rintro ⟨h, hm, q⟩
    rw [Bool.and_eq_true, Bool.and_eq_true] at q
    exact ⟨h, List.mem_range.mp hm, q.1.1, of_decide_eq_true q.1.2, of_decide_eq_true q.2⟩
  · rintro ⟨h, hm, h1, h2, h3⟩
    refine ⟨h, List.mem_range.mpr hm, ?_⟩
    rw [h1, decide_eq_true h2, decide_eq_true h3]
    rfl
variable (R) in
def trim (T : Tab) : Tab := T.filter (trimB S (R.run T))
/-- two runs that choose alike where the first copies are one -/
theorem run_same {A B : Run S} (h : ∀ i, i < S.m → A.cp i = true → A.ch (S.st i) (S.len i) = B.ch (S.st i) (S.len i)) : ∀ n i, i < n → i < S.m → A.cap i = B.cap i ∧ A.cp i = B.cp i
  | 0, _, hn, _ => by omega
  | n + 1, i, hn, hm => by
    have hl := A.law i hm
    have hl' := B.law i hm
    have hs := S.shape i hm
    cases hk : S.kind i with
    | mk c =>
      rw [hk] at hl hl'
      rw [hl.1, hl'.1, hl.2, hl'.2]
      exact ⟨rfl, rfl⟩
    | slice lo =>
      rw [hk] at hl hl' hs
      obtain ⟨j, hp, _, _⟩ := hs
      have hj := S.plt i j hp
      rw [(hl j hp).1, (hl' j hp).1, (hl j hp).2, (hl' j hp).2, (run_same h n j (by omega) (by omega)).1]
      exact ⟨rfl, rfl⟩
    | clip =>
      rw [hk] at hl hl'
      rw [hl.1, hl'.1, hl.2, hl'.2]
      exact ⟨rfl, rfl⟩
    | app g =>
      rw [hk] at hl hl' hs
      obtain ⟨j, hp, _, _⟩ := hs
      have hj := S.plt i j hp
      have ih := (run_same h n j (by omega) (by omega)).1
      by_cases c : g = false ∧ leO (some (S.len i)) (A.cap j)
      · have c' := c
        rw [ih] at c'
        rw [((hl j hp).1 c).1, ((hl j hp).1 c).2, ((hl' j hp).1 c').1, ((hl' j hp).1 c').2]
        exact ⟨ih, rfl⟩
      · have c' := c
        rw [ih] at c'
        have q := (hl j hp).2 c
        rw [q.1, q.2, ((hl' j hp).2 c').1, ((hl' j hp).2 c').2]
        exact ⟨h i hm q.2, rfl⟩
theorem trim_run {T : Tab} {i : Nat} (hm : i < S.m) : (R.run T).cap i = (R.run (trim R T)).cap i ∧ (R.run T).cp i = (R.run (trim R T)).cp i := by
  refine run_same (fun i hi hc => ?_) (i + 1) i (by omega) hm
  rw [R.ch, R.ch]
  congr 1
  apply Nat.le_antisymm
  · rw [tabCap_le]
    refine ⟨tabCap_ge _ _ _, fun e he hs => ?_⟩
    by_cases l : S.len i < e.2
    · obtain ⟨a, b⟩ := e
      simp only at hs
      subst hs
      apply tabCap_mem_le
      unfold trim
      rw [List.mem_filter]
      exact ⟨he, trimB_true.mpr ⟨i, hi, hc, rfl, l⟩⟩
    · have := tabCap_ge (trim R T) (S.st i) (S.len i)
      omega
  · rw [tabCap_le]
    refine ⟨tabCap_ge _ _ _, fun e he hs => ?_⟩
    unfold trim at he
    rw [List.mem_filter] at he
    obtain ⟨a, b⟩ := e
    simp only at hs
    subst hs
    exact tabCap_mem_le he.1
theorem trim_mem {T : Tab} (hs : Srt T) (e : Nat × Nat) : e ∈ trim R T ↔ ∃ h, h < S.m ∧ (R.run T).cp h = true ∧ S.st h = e.1 ∧ (R.run T).cap h = some e.2 ∧ S.len h < e.2 := by
  unfold trim
  rw [List.mem_filter, trimB_true]
  constructor
  · rintro ⟨he, h, h1, h2, h3, h4⟩
    refine ⟨h, h1, h2, h3, ?_, h4⟩
    rw [(R.run T).copied_cap h1 h2, R.ch, h3]
    congr 1
    apply Nat.le_antisymm
    · rw [tabCap_le]
      refine ⟨by omega, fun d hd hs' => ?_⟩
      obtain ⟨a, b⟩ := d
      obtain ⟨a', b'⟩ := e
      simp only at hs'
      subst hs'
      rw [hs.uniq hd he]
      exact Nat.le_refl _
    · exact tabCap_mem_le he
  · rintro ⟨h, h1, h2, h3, h4, h5⟩
    refine ⟨?_, h, h1, h2, h3, h5⟩
    rw [(R.run T).copied_cap h1 h2, R.ch, h3] at h4
    have h4' := Option.some.inj h4
    rcases tabCap_or T e.1 (S.len h) with q | q
    · omega
    · rw [h4'] at q
      exact q
theorem trim_srt {T : Tab} (hs : Srt T) : Srt (trim R T) := List.Pairwise.filter _ hs
/-- equal capacities, equal tables -/
theorem trim_eq {T U : Tab} (hT : Srt T) (hU : Srt U) (h : ∀ i, i < S.m → (R.run T).cap i = (R.run U).cap i) : trim R T = trim R U := by
  have hc : ∀ i, i < S.m → (R.run T).cp i = (R.run U).cp i := fun i hi => by
    cases a : (R.run T).cp i with
    | true =>
      exact (cp_of_caps (fun j hj => by rw [h j hj]; exact leO.refl _) hi a).symm
    | false =>
      cases b : (R.run U).cp i with
      | false => rfl
      | true =>
        have := cp_of_caps (R := R.run T) (P := R.run U) (fun j hj => by rw [h j hj]; exact leO.refl _) hi b
        rw [a] at this
        cases this
  refine Srt.ext (trim_srt hT) (trim_srt hU) fun e => ?_
  rw [trim_mem hT, trim_mem hU]
  constructor
  · rintro ⟨x, h1, h2, h3, h4, h5⟩
    exact ⟨x, h1, by rw [← hc x h1]; exact h2, h3, by rw [← h x h1]; exact h4, h5⟩
  · rintro ⟨x, h1, h2, h3, h4, h5⟩
    exact ⟨x, h1, by rw [hc x h1]; exact h2, h3, by rw [h x h1]; exact h4, h5⟩
end
end GB
/-! Programs: statements, rows of views, allotments; the tree of a program. -/
namespace GB

inductive Stm where
  | make (l c : Nat)
  | slice (v lo hi : Nat)
  | clip (v : Nat)
  | app (g : Bool) (v : Nat) (xs : List Int)
  | write (v i : Nat) (x : Int)
  | move (v i w q : Nat)
  | read (v i : Nat)
abbrev Prog := List Stm
structure Row where
  st : Nat
  par : Option Nat
  start : Nat
  len : Nat
def Row.end_ (r : Row) : Nat := r.start + r.len
def row0 : Row := ⟨0, none, 0, 0⟩
/-- the view that a statement creates -/
def rowOf (R : List Row) (n : Nat) : Stm → Option Row
  | .make l _ => some ⟨n, none, 0, l⟩
  | .slice v lo hi => some ⟨n, some v, (R.getD v row0).start + lo, hi - lo⟩
  | .clip v => some ⟨n, some v, (R.getD v row0).start, (R.getD v row0).len⟩
  | .app _ v xs => some ⟨n, some v, (R.getD v row0).start, (R.getD v row0).len + xs.length⟩
  | _ => none
/-- the views of the first n statements -/
def rowsN (p : Prog) : Nat → List Row
  | 0 => []
  | n + 1 => match p[n]? with
    | some s => (match rowOf (rowsN p n) n s with
      | some r => rowsN p n ++ [r]
      | none => rowsN p n)
    | none => rowsN p n
def rows (p : Prog) : List Row := rowsN p p.length
def IsCell (R : List Row) (v i : Nat) : Prop := v < R.length ∧ i < (R.getD v row0).len
def StmOk (R : List Row) : Stm → Prop
  | .make l c => l ≤ c
  | .slice v lo hi => v < R.length ∧ lo ≤ hi ∧ hi ≤ (R.getD v row0).len
  | .clip v => v < R.length
  | .app _ v xs => v < R.length ∧ 1 ≤ xs.length
  | .write v i _ => IsCell R v i
  | .move v i w q => IsCell R v i ∧ IsCell R w q
  | .read v i => IsCell R v i
def Valid (p : Prog) : Prop := ∀ n s, p[n]? = some s → StmOk (rowsN p n) s

/-! ### rows -/
theorem rowsN_succ {p : Prog} {n : Nat} {s : Stm} (h : p[n]? = some s) : rowsN p (n + 1) = rowsN p n ++ (rowOf (rowsN p n) n s).toList := by
  show (match p[n]? with
    | some s => (match rowOf (rowsN p n) n s with
      | some r => rowsN p n ++ [r]
      | none => rowsN p n)
    | none => rowsN p n) = _
  rw [h]
  show (match rowOf (rowsN p n) n s with
      | some r => rowsN p n ++ [r]
      | none => rowsN p n) = _
  cases rowOf (rowsN p n) n s with
  | none => simp
  | some r => rfl
theorem rowsN_out {p : Prog} {n : Nat} (h : p[n]? = none) : rowsN p (n + 1) = rowsN p n := by
  show (match p[n]? with
    | some s => (match rowOf (rowsN p n) n s with
      | some r => rowsN p n ++ [r]
      | none => rowsN p n)
    | none => rowsN p n) = _
  rw [h]
theorem rowsN_pre (p : Prog) (n k : Nat) : ∃ t, rowsN p (n + k) = rowsN p n ++ t := by
  induction k with
  | zero => exact ⟨[], by simp⟩
  | succ k ih =>
    obtain ⟨t, e⟩ := ih
    cases h : p[n + k]? with
    | none => exact ⟨t, by rw [← Nat.add_assoc, rowsN_out h, e]⟩
    | some s => exact ⟨t ++ (rowOf (rowsN p (n + k)) (n + k) s).toList, by rw [← Nat.add_assoc, rowsN_succ h, e, List.append_assoc]⟩
theorem rowsN_le {p : Prog} {n k : Nat} (h : n ≤ k) : ∃ t, rowsN p k = rowsN p n ++ t := by
  obtain ⟨t, e⟩ := rowsN_pre p n (k - n)
  rw [show n + (k - n) = k by omega] at e
  exact ⟨t, e⟩
theorem rowsN_len_le {p : Prog} {n k : Nat} (h : n ≤ k) : (rowsN p n).length ≤ (rowsN p k).length := by
  obtain ⟨t, e⟩ := rowsN_le (p := p) h
  rw [e, List.length_append]
  omega
theorem rowsN_getD {p : Prog} {n k v : Nat} (h : n ≤ k) (hv : v < (rowsN p n).length) : (rowsN p k).getD v row0 = (rowsN p n).getD v row0 := by
  obtain ⟨t, e⟩ := rowsN_le (p := p) h
  rw [e, List.getD_eq_getElem?_getD, List.getD_eq_getElem?_getD, List.getElem?_append_left hv]
theorem rowsN_get {p : Prog} {n k v : Nat} (h : n ≤ k) {r : Row} (hv : (rowsN p n)[v]? = some r) : (rowsN p k)[v]? = some r := by
  obtain ⟨t, e⟩ := rowsN_le (p := p) h
  rw [e, List.getElem?_append_left (List.getElem?_eq_some_iff.mp hv).1]
  exact hv
theorem rowOf_st {R : List Row} {n : Nat} {s : Stm} {r : Row} (h : rowOf R n s = some r) : r.st = n := by
  cases s <;> simp [rowOf] at h <;> rw [← h]
/-- where a row comes from -/
theorem rows_from {p : Prog} : ∀ n {i : Nat} {r : Row}, (rowsN p n)[i]? = some r → ∃ s, p[r.st]? = some s ∧ r.st < n ∧ rowOf (rowsN p r.st) r.st s = some r ∧ (rowsN p r.st).length = i
  | 0, i, r, h => by simp [rowsN] at h
  | n + 1, i, r, h => by
    cases e : p[n]? with
    | none =>
      rw [rowsN_out e] at h
      obtain ⟨s, h1, h2, h3⟩ := rows_from n h
      exact ⟨s, h1, by omega, h3⟩
    | some s =>
      rw [rowsN_succ e] at h
      by_cases l : i < (rowsN p n).length
      · rw [List.getElem?_append_left l] at h
        obtain ⟨s, h1, h2, h3⟩ := rows_from n h
        exact ⟨s, h1, by omega, h3⟩
      · rw [List.getElem?_append_right (by omega)] at h
        cases q : rowOf (rowsN p n) n s with
        | none =>
          rw [q] at h
          simp at h
        | some r' =>
          rw [q] at h
          have hi : i = (rowsN p n).length := by
            by_cases z : i - (rowsN p n).length = 0
            · omega
            · rw [List.getElem?_eq_none (by simp; omega)] at h
              cases h
          have hr : r' = r := by
            rw [hi] at h
            simpa using h
          subst hr
          have hst := rowOf_st q
          rw [hst]
          exact ⟨s, e, by omega, q, hi.symm⟩
theorem rows_at {p : Prog} {n : Nat} {s : Stm} {r : Row} (h : p[n]? = some s) (hr : rowOf (rowsN p n) n s = some r) : (rowsN p (n + 1))[(rowsN p n).length]? = some r := by
  rw [rowsN_succ h, hr]
  simp
theorem getD_of {l : List Row} {i : Nat} {r : Row} (h : l[i]? = some r) : l.getD i row0 = r := by
  rw [List.getD_eq_getElem?_getD, h]
  rfl
theorem get_of {l : List Row} {i : Nat} (h : i < l.length) : l[i]? = some (l.getD i row0) := by
  rw [List.getD_eq_getElem?_getD, List.getElem?_eq_getElem h]
  rfl

/-! ### the tree of a program -/
def stm0 : Stm := .make 0 0
def kindOf : Stm → Kind
  | .make _ c => .mk c
  | .slice _ lo _ => .slice lo
  | .app g _ _ => .app g
  | _ => .clip
def vst (p : Prog) (i : Nat) : Nat := ((rows p).getD i row0).st
def vpar (p : Prog) (i : Nat) : Option Nat := ((rows p).getD i row0).par
def vstart (p : Prog) (i : Nat) : Nat := ((rows p).getD i row0).start
def vlen (p : Prog) (i : Nat) : Nat := ((rows p).getD i row0).len
def vend (p : Prog) (i : Nat) : Nat := vstart p i + vlen p i
def vkind (p : Prog) (i : Nat) : Kind := kindOf (p.getD (vst p i) stm0)
def nv (p : Prog) : Nat := (rows p).length
theorem view_from {p : Prog} {i : Nat} (h : i < nv p) : ∃ s, p[vst p i]? = some s ∧ p.getD (vst p i) stm0 = s ∧ vst p i < p.length ∧ rowOf (rowsN p (vst p i)) (vst p i) s = some ((rows p).getD i row0) ∧ (rowsN p (vst p i)).length = i := by
  obtain ⟨s, h1, h2, h3, h4⟩ := rows_from p.length (get_of (l := rows p) h)
  refine ⟨s, h1, ?_, h2, h3, h4⟩
  rw [List.getD_eq_getElem?_getD]
  show (p[((rows p).getD i row0).st]?).getD stm0 = s
  rw [h1]
  rfl
theorem view_made {p : Prog} {n : Nat} {s : Stm} {r : Row} (h : p[n]? = some s) (hr : rowOf (rowsN p n) n s = some r) : (rowsN p n).length < nv p ∧ (rows p).getD (rowsN p n).length row0 = r := by
  have hn : n < p.length := (List.getElem?_eq_some_iff.mp h).1
  have q := rowsN_get (p := p) (n := n + 1) (k := p.length) (by omega) (rows_at h hr)
  exact ⟨(List.getElem?_eq_some_iff.mp q).1, getD_of q⟩
/-- the rows that a statement sees are those of the whole program -/
theorem seen_row {p : Prog} {n v : Nat} (hn : n ≤ p.length) (hv : v < (rowsN p n).length) : (rowsN p n).getD v row0 = (rows p).getD v row0 := (rowsN_getD hn hv).symm
theorem seen_lt {p : Prog} {n v : Nat} (hn : n ≤ p.length) (hv : v < (rowsN p n).length) : v < nv p := Nat.lt_of_lt_of_le hv (rowsN_len_le hn)
theorem st_below {p : Prog} {n v : Nat} (hn : n ≤ p.length) (hv : v < (rowsN p n).length) : vst p v < n := by
  obtain ⟨s, _, h2, _⟩ := rows_from n (get_of (l := rowsN p n) hv)
  rw [seen_row hn hv] at h2
  exact h2
theorem below_st {p : Prog} {n v : Nat} (hv : v < nv p) (h : vst p v < n) : v < (rowsN p n).length := by
  obtain ⟨s, h1, h2, h3, h4, h5⟩ := view_from hv
  have := rows_at h1 h4
  have q := (List.getElem?_eq_some_iff.mp this).1
  rw [h5] at q
  have := rowsN_len_le (p := p) (n := vst p v + 1) (k := n) (by omega)
  omega
section
variable {p : Prog}
theorem vplt (ok : Valid p) {i j : Nat} (h : vpar p i = some j) : j < i := by
  by_cases hi : i < nv p
  · obtain ⟨s, h1, _, _, h4, h5⟩ := view_from hi
    have o := ok _ _ h1
    have hp : ((rows p).getD i row0).par = some j := h
    cases s with
    | make l c =>
      simp only [rowOf, Option.some.injEq] at h4
      rw [← h4] at hp
      cases hp
    | slice v lo hi =>
      simp only [rowOf, Option.some.injEq] at h4
      rw [← h4] at hp
      cases hp
      rw [← h5]
      exact o.1
    | clip v =>
      simp only [rowOf, Option.some.injEq] at h4
      rw [← h4] at hp
      cases hp
      rw [← h5]
      exact o
    | app g v xs =>
      simp only [rowOf, Option.some.injEq] at h4
      rw [← h4] at hp
      cases hp
      rw [← h5]
      exact o.1
    | write v i x => simp [rowOf] at h4
    | move v i w q => simp [rowOf] at h4
    | read v i => simp [rowOf] at h4
  · have e : vpar p i = none := by
      show ((rows p).getD i row0).par = none
      rw [List.getD_eq_getElem?_getD, List.getElem?_eq_none (by unfold nv at hi; omega)]
      rfl
    rw [e] at h
    cases h
theorem vstm {i j : Nat} (h : i < j) (hj : j < nv p) : vst p i < vst p j := by
  obtain ⟨_, _, _, _, _, h5⟩ := view_from (p := p) (i := i) (by omega)
  obtain ⟨_, _, _, _, _, h5'⟩ := view_from hj
  rcases Nat.lt_or_ge (vst p i) (vst p j) with l | l
  · exact l
  · have := rowsN_len_le (p := p) l
    omega
/-- the shape of a view, by its statement -/
theorem view_shape (ok : Valid p) {i : Nat} (hi : i < nv p) : match p.getD (vst p i) stm0 with
    | .make l c => vpar p i = none ∧ vstart p i = 0 ∧ vlen p i = l ∧ l ≤ c
    | .slice v lo hi => vpar p i = some v ∧ v < i ∧ vstart p i = vstart p v + lo ∧ vlen p i = hi - lo ∧ lo ≤ hi ∧ hi ≤ vlen p v
    | .clip v => vpar p i = some v ∧ v < i ∧ vstart p i = vstart p v ∧ vlen p i = vlen p v
    | .app _ v xs => vpar p i = some v ∧ v < i ∧ vstart p i = vstart p v ∧ vlen p i = vlen p v + xs.length ∧ 1 ≤ xs.length
    | _ => False := by
  obtain ⟨s, h1, h2, h3, h4, h5⟩ := view_from hi
  have o := ok _ _ h1
  rw [h2]
  have sr : ∀ v, v < i → (rowsN p (vst p i)).getD v row0 = (rows p).getD v row0 := fun v hv => seen_row (by omega) (by omega)
  cases s with
  | make l c =>
    simp only [rowOf, Option.some.injEq] at h4
    refine ⟨?_, ?_, ?_, o⟩
    · show ((rows p).getD i row0).par = _
      rw [← h4]
    · show ((rows p).getD i row0).start = _
      rw [← h4]
    · show ((rows p).getD i row0).len = _
      rw [← h4]
  | slice v lo hi =>
    simp only [rowOf, Option.some.injEq] at h4
    obtain ⟨o1, o2, o3⟩ := o
    have hv : v < i := by omega
    rw [sr v hv] at h4 o3
    refine ⟨?_, hv, ?_, ?_, o2, o3⟩
    · show ((rows p).getD i row0).par = _
      rw [← h4]
    · show ((rows p).getD i row0).start = _
      rw [← h4]
      rfl
    · show ((rows p).getD i row0).len = _
      rw [← h4]
  | clip v =>
    simp only [rowOf, Option.some.injEq] at h4
    have o1 : v < (rowsN p (vst p i)).length := o
    have hv : v < i := by omega
    rw [sr v hv] at h4
    refine ⟨?_, hv, ?_, ?_⟩
    · show ((rows p).getD i row0).par = _
      rw [← h4]
    · show ((rows p).getD i row0).start = _
      rw [← h4]
      rfl
    · show ((rows p).getD i row0).len = _
      rw [← h4]
      rfl
  | app g v xs =>
    simp only [rowOf, Option.some.injEq] at h4
    obtain ⟨o1, o2⟩ := o
    have hv : v < i := by omega
    rw [sr v hv] at h4
    refine ⟨?_, hv, ?_, ?_, o2⟩
    · show ((rows p).getD i row0).par = _
      rw [← h4]
    · show ((rows p).getD i row0).start = _
      rw [← h4]
      rfl
    · show ((rows p).getD i row0).len = _
      rw [← h4]
      rfl
  | write v i x => simp [rowOf] at h4
  | move v i w q => simp [rowOf] at h4
  | read v i => simp [rowOf] at h4
def sysOf (p : Prog) (ok : Valid p) : Sys where
  m := nv p
  st := vst p
  par := vpar p
  start := vstart p
  len := vlen p
  kind := vkind p
  plt := fun _ _ h => vplt ok h
  stm := fun _ _ h hj => vstm h hj
  shape := fun i hi => by
    have h := view_shape ok hi
    unfold vkind
    cases e : p.getD (vst p i) stm0 with
    | make l c =>
      rw [e] at h
      exact ⟨h.1, h.2.1, by have := h.2.2; omega⟩
    | slice v lo hi =>
      rw [e] at h
      exact ⟨v, h.1, h.2.2.1, by have := h.2.2.2; omega⟩
    | clip v =>
      rw [e] at h
      exact ⟨v, h.1, h.2.2.1, h.2.2.2⟩
    | app g v xs =>
      rw [e] at h
      exact ⟨v, h.1, h.2.2.1, by have := h.2.2.2; omega⟩
    | write v i x =>
      rw [e] at h
      exact h.elim
    | move v i w q =>
      rw [e] at h
      exact h.elim
    | read v i =>
      rw [e] at h
      exact h.elim

/-! ### allotments -/
abbrev Ch := Nat → Nat → Option Nat
abbrev Alt := Option Nat × Nat × Bool
def alt0 : Alt := (none, 0, false)
/-- an append stays in place -/
def fits (len : Nat) : Option Nat → Bool
  | none => true
  | some c => decide (len ≤ c)
def allot1 (p : Prog) (ch : Ch) (F : List Alt) (r : Row) : Alt :=
  match p.getD r.st stm0 with
  | .make _ c => (some c, r.st, false)
  | .slice v lo _ => ((F.getD v alt0).1.map (· - lo), (F.getD v alt0).2.1, false)
  | .app g v _ => if (!g && fits r.len (F.getD v alt0).1) = true then ((F.getD v alt0).1, (F.getD v alt0).2.1, false) else (ch r.st r.len, r.st, true)
  | _ => (some r.len, (F.getD (r.par.getD 0) alt0).2.1, false)
def allN (p : Prog) (ch : Ch) : Nat → List Alt
  | 0 => []
  | i + 1 => allN p ch i ++ [allot1 p ch (allN p ch i) ((rows p).getD i row0)]
theorem allN_len (ch : Ch) : ∀ n, (allN p ch n).length = n
  | 0 => rfl
  | n + 1 => by
    show (allN p ch n ++ [_]).length = n + 1
    rw [List.length_append, allN_len ch n]
    rfl
def altOf (p : Prog) (ch : Ch) (i : Nat) : Alt := (allN p ch (i + 1)).getD i alt0
theorem allN_getD (ch : Ch) {n i : Nat} (h : i < n) : (allN p ch n).getD i alt0 = altOf p ch i := by
  induction n with
  | zero => omega
  | succ n ih =>
    by_cases e : i = n
    · subst e
      rfl
    · show (allN p ch n ++ [_]).getD i alt0 = _
      rw [List.getD_eq_getElem?_getD, List.getElem?_append_left (by rw [allN_len]; omega), ← List.getD_eq_getElem?_getD]
      exact ih (by omega)
theorem altOf_eq (ch : Ch) (i : Nat) : altOf p ch i = allot1 p ch (allN p ch i) ((rows p).getD i row0) := by
  unfold altOf
  show (allN p ch i ++ [_]).getD i alt0 = _
  rw [List.getD_eq_getElem?_getD, List.getElem?_append_right (by rw [allN_len]; omega), allN_len]
  simp
def capOf (p : Prog) (ch : Ch) (i : Nat) : Option Nat := (altOf p ch i).1
def cpOf (p : Prog) (ch : Ch) (i : Nat) : Bool := (altOf p ch i).2.2
theorem leO_fits {len : Nat} {c : Option Nat} : fits len c = true ↔ leO (some len) c := by
  cases c with
  | none => exact ⟨fun _ => leO.none _, fun _ => rfl⟩
  | some c =>
    rw [leO_some]
    unfold fits
    exact decide_eq_true_iff
theorem alt_law (ok : Valid p) (ch : Ch) {i : Nat} (hi : i < nv p) : match p.getD (vst p i) stm0 with
    | .make _ c => capOf p ch i = some c ∧ cpOf p ch i = false
    | .slice v lo _ => capOf p ch i = (capOf p ch v).map (· - lo) ∧ cpOf p ch i = false
    | .clip _ => capOf p ch i = some (vlen p i) ∧ cpOf p ch i = false
    | .app g v _ => ((g = false ∧ leO (some (vlen p i)) (capOf p ch v)) → capOf p ch i = capOf p ch v ∧ cpOf p ch i = false) ∧ (¬ (g = false ∧ leO (some (vlen p i)) (capOf p ch v)) → capOf p ch i = ch (vst p i) (vlen p i) ∧ cpOf p ch i = true)
    | _ => False := by
  have h := view_shape ok hi
  have e : altOf p ch i = match p.getD (vst p i) stm0 with
      | .make _ c => (some c, vst p i, false)
      | .slice v lo _ => (((allN p ch i).getD v alt0).1.map (· - lo), ((allN p ch i).getD v alt0).2.1, false)
      | .app g v _ => if (!g && fits (vlen p i) ((allN p ch i).getD v alt0).1) = true then (((allN p ch i).getD v alt0).1, ((allN p ch i).getD v alt0).2.1, false) else (ch (vst p i) (vlen p i), vst p i, true)
      | _ => (some (vlen p i), ((allN p ch i).getD ((vpar p i).getD 0) alt0).2.1, false) := altOf_eq ch i
  unfold capOf cpOf
  cases k : p.getD (vst p i) stm0 with
  | make l c =>
    rw [k] at e
    rw [e]
    exact ⟨rfl, rfl⟩
  | slice v lo hi =>
    rw [k] at e h
    dsimp only at e h ⊢
    rw [allN_getD ch h.2.1] at e
    rw [e]
    exact ⟨rfl, rfl⟩
  | clip v =>
    rw [k] at e
    rw [e]
    exact ⟨rfl, rfl⟩
  | app g v xs =>
    rw [k] at e h
    dsimp only at e h ⊢
    rw [allN_getD ch h.2.1] at e
    have ef : (!g && fits (vlen p i) (altOf p ch v).1) = true ↔ (g = false ∧ leO (some (vlen p i)) (altOf p ch v).1) := by
      rw [Bool.and_eq_true, leO_fits]
      cases g <;> simp
    constructor
    · intro c
      rw [e]
      rw [if_pos (ef.mpr c)]
      exact ⟨rfl, rfl⟩
    · intro c
      rw [e]
      rw [if_neg fun z => c (ef.mp z)]
      exact ⟨rfl, rfl⟩
  | write v i x =>
    rw [k] at h
    exact h
  | move v i w q =>
    rw [k] at h
    exact h
  | read v i =>
    rw [k] at h
    exact h
def runOf (p : Prog) (ok : Valid p) (ch : Ch) (ge : ∀ s n, leO (some n) (ch s n)) : Run (sysOf p ok) where
  ch := ch
  cap := capOf p ch
  cp := cpOf p ch
  ge := ge
  law := fun i hi => by
    have h := alt_law ok ch (i := i) hi
    have hs := view_shape ok (i := i) hi
    show match kindOf (p.getD (vst p i) stm0) with
      | .mk c => _
      | .slice lo => _
      | .clip => _
      | .app g => _
    cases k : p.getD (vst p i) stm0 with
    | make l c =>
      rw [k] at h
      exact h
    | slice v lo hi =>
      rw [k] at h hs
      intro j hj
      have hj' : vpar p i = some j := hj
      rw [hs.1] at hj'
      cases hj'
      exact h
    | clip v =>
      rw [k] at h
      exact h
    | app g v xs =>
      rw [k] at h hs
      intro j hj
      have hj' : vpar p i = some j := hj
      rw [hs.1] at hj'
      cases hj'
      exact h
    | write v i x =>
      rw [k] at h
      exact h.elim
    | move v i w q =>
      rw [k] at h
      exact h.elim
    | read v i =>
      rw [k] at h
      exact h.elim
end
end GB
/-! Blocks, candidates, visibility; a run by blocks reads the greatest visible candidate. -/
namespace GB

/-! ### the view that made a view's block -/
section
variable {par : Nat → Option Nat} {cp : Nat → Bool}
def blk (par : Nat → Option Nat) (cp : Nat → Bool) (i : Nat) : Nat := (((anc par i).filter cp).getLast?).getD (rootOf par i)
theorem blk_self {i : Nat} (pl : ∀ i j, par i = some j → j < i) (h : cp i = true) : blk par cp i = i := by
  unfold blk
  have e : (anc par i).filter cp ≠ [] := fun z => by
    have : i ∈ (anc par i).filter cp := List.mem_filter.mpr ⟨anc_self i, h⟩
    rw [z] at this
    cases this
  cases q : ((anc par i).filter cp).getLast? with
  | none => exact absurd (List.getLast?_eq_none_iff.mp q) e
  | some a =>
    obtain ⟨h1, h2⟩ := last_max ((anc_sorted pl (i + 1) i (by omega)).filter cp) q
    have a1 := mem_anc_le (List.mem_filter.mp h1).1
    have a2 := h2 i (List.mem_filter.mpr ⟨anc_self i, h⟩)
    show a = i
    omega
theorem blk_par {i j : Nat} (hp : par i = some j) (hj : j < i) (h : cp i = false) : blk par cp i = blk par cp j := by
  unfold blk
  rw [anc_some hp hj, root_some hp hj, List.filter_append]
  have : List.filter cp [i] = [] := by simp [h]
  rw [this, List.append_nil]
theorem blk_none {i : Nat} (hp : par i = none) : blk par cp i = i := by
  unfold blk
  rw [anc_none hp, root_none hp]
  cases h : cp i <;> simp [h]
theorem blk_mem (i : Nat) : blk par cp i ∈ anc par i := by
  unfold blk
  cases q : ((anc par i).filter cp).getLast? with
  | none => exact root_mem i
  | some a => exact (List.mem_filter.mp (List.mem_of_getLast? q)).1
theorem blk_le (i : Nat) : blk par cp i ≤ i := mem_anc_le (blk_mem i)
theorem blk_max (pl : ∀ i j, par i = some j → j < i) {i x : Nat} (hx : x ∈ anc par i) (hl : blk par cp i < x) : cp x = false := by
  unfold blk at hl
  cases e : cp x with
  | false => rfl
  | true =>
    have hm : x ∈ (anc par i).filter cp := List.mem_filter.mpr ⟨hx, e⟩
    cases q : ((anc par i).filter cp).getLast? with
    | none =>
      rw [List.getLast?_eq_none_iff.mp q] at hm
      cases hm
    | some a =>
      rw [q] at hl
      have := (last_max ((anc_sorted pl (i + 1) i (by omega)).filter cp) q).2 x hm
      have hl' : a < x := hl
      omega
theorem blk_path (pl : ∀ i j, par i = some j → j < i) {a : Nat} : ∀ n i, i < n → a ∈ anc par i → (∀ x, x ∈ anc par i → a < x → cp x = false) → blk par cp i = blk par cp a
  | 0, _, h, _, _ => by omega
  | n + 1, i, h, ha, hc => by
    by_cases e : a = i
    · rw [e]
    · cases hp : par i with
      | none =>
        rw [mem_anc_none hp] at ha
        exact absurd ha e
      | some j =>
        have hj := pl i j hp
        have hai := mem_anc_le ha
        have haj : a ∈ anc par j := ((mem_anc_some hp hj).mp ha).resolve_right e
        rw [blk_par hp hj (hc i (anc_self i) (by omega))]
        exact blk_path pl n j (by omega) haj fun x hx hl => hc x ((mem_anc_some hp hj).mpr (.inl hx)) hl
theorem blk_root (pl : ∀ i j, par i = some j → j < i) (i : Nat) : rootOf par (blk par cp i) = rootOf par i := root_of_mem pl (i + 1) i (by omega) (blk_mem i)
theorem blk_iff (pl : ∀ i j, par i = some j → j < i) {i j a : Nat} (h1 : a ∈ anc par i) (h2 : a ∈ anc par j) (hm : ∀ u, u ∈ anc par i → u ∈ anc par j → u ≤ a) :
    blk par cp i = blk par cp j ↔ (∀ x, x ∈ anc par i → a < x → cp x = false) ∧ ∀ x, x ∈ anc par j → a < x → cp x = false := by
  constructor
  · intro e
    have hb : blk par cp i ≤ a := hm _ (blk_mem i) (by rw [e]; exact blk_mem j)
    refine ⟨fun x hx hl => blk_max pl hx (by omega), fun x hx hl => blk_max pl hx (by rw [← e]; omega)⟩
  · rintro ⟨q1, q2⟩
    rw [blk_path pl (i + 1) i (by omega) h1 q1, blk_path pl (j + 1) j (by omega) h2 q2]
end

/-! ### writers, candidates, visibility -/
variable (p : Prog)
/-- the writing view of a statement, the coordinates that it writes -/
def wr (c : Nat) : Option (Nat × Nat × Nat) :=
  match p[c]? with
  | some (.make _ k) => some ((rowsN p c).length, 0, k)
  | some (.app _ v xs) => some ((rowsN p c).length, vend p v, vend p v + xs.length)
  | some (.write v i _) => some (v, vstart p v + i, vstart p v + i + 1)
  | some (.move v i _ _) => some (v, vstart p v + i, vstart p v + i + 1)
  | _ => none
abbrev vanc (i : Nat) : List Nat := anc (vpar p) i
abbrev vroot (i : Nat) : Nat := rootOf (vpar p) i
structure Cand (n v x c w : Nat) : Prop where
  lt : c < n
  root : vroot p w = vroot p v
  at_ : ∃ lo hi, wr p c = some (w, lo, hi) ∧ lo ≤ x ∧ x < hi
/-- no link copies -/
def Vis (cp : Nat → Bool) (w v c : Nat) : Prop := ∀ a, meet (vpar p) w v = some a → ∀ u, (u ∈ vanc p w ∨ (u ∈ vanc p v ∧ vst p u < c)) → a < u → cp u = false
structure Org (cp : Nat → Bool) (n v x c : Nat) : Prop where
  there : ∃ w, Cand p n v x c w ∧ Vis p cp w v c
  top : ∀ c' w', Cand p n v x c' w' → Vis p cp w' v c' → c' ≤ c
/-- the reads of the first n statements: statement, view, index -/
def readsN : Nat → List (Nat × Nat × Nat)
  | 0 => []
  | n + 1 => match p[n]? with
    | some (.read v i) => readsN n ++ [(n, v, i)]
    | some (.move _ _ w q) => readsN n ++ [(n, w, q)]
    | _ => readsN n
def reads : List (Nat × Nat × Nat) := readsN p p.length
variable {p}
theorem Org.uniq {cp : Nat → Bool} {n v x c d : Nat} (h : Org p cp n v x c) (k : Org p cp n v x d) : c = d := by
  obtain ⟨w, h1, h2⟩ := h.there
  obtain ⟨w', k1, k2⟩ := k.there
  have := h.top _ _ k1 k2
  have := k.top _ _ h1 h2
  omega
/-- the writing view stands when its statement is done -/
theorem wr_view (ok : Valid p) {c w lo hi : Nat} (h : wr p c = some (w, lo, hi)) : w < nv p ∧ vst p w ≤ c ∧ c < p.length := by
  unfold wr at h
  cases e : p[c]? with
  | none =>
    rw [e] at h
    cases h
  | some s =>
    have hc : c < p.length := (List.getElem?_eq_some_iff.mp e).1
    have o := ok _ _ e
    have made : ∀ r, rowOf (rowsN p c) c s = some r → (rowsN p c).length < nv p ∧ vst p (rowsN p c).length ≤ c := fun r hr => by
      obtain ⟨h1, h2⟩ := view_made e hr
      refine ⟨h1, ?_⟩
      unfold vst
      rw [h2, rowOf_st hr]
      exact Nat.le_refl _
    have old : ∀ v, v < (rowsN p c).length → v < nv p ∧ vst p v ≤ c := fun v hv => ⟨seen_lt (by omega) hv, by have := st_below (p := p) (by omega) hv; omega⟩
    rw [e] at h
    cases s with
    | make l k =>
      simp only [Option.some.injEq, Prod.mk.injEq] at h
      have := made _ rfl
      rw [← h.1]
      exact ⟨this.1, this.2, hc⟩
    | app g v xs =>
      simp only [Option.some.injEq, Prod.mk.injEq] at h
      have := made _ rfl
      rw [← h.1]
      exact ⟨this.1, this.2, hc⟩
    | write v i x =>
      simp only [Option.some.injEq, Prod.mk.injEq] at h
      have := old v o.1
      rw [← h.1]
      exact ⟨this.1, this.2, hc⟩
    | move v i a b =>
      simp only [Option.some.injEq, Prod.mk.injEq] at h
      have := old v o.1.1
      rw [← h.1]
      exact ⟨this.1, this.2, hc⟩
    | slice v lo hi => cases h
    | clip v => cases h
    | read v i => cases h
theorem Org.keep {cp : Nat → Bool} {n v x c : Nat} (h : Org p cp n v x c) (hn : ∀ w, Cand p (n + 1) v x n w → ¬ Vis p cp w v n) : Org p cp (n + 1) v x c := by
  obtain ⟨w, h1, h2⟩ := h.there
  refine ⟨⟨w, ⟨by have := h1.lt; omega, h1.root, h1.at_⟩, h2⟩, fun c' w' k1 k2 => ?_⟩
  by_cases e : c' = n
  · subst e
    exact absurd k2 (hn w' k1)
  · exact h.top c' w' ⟨by have := k1.lt; omega, k1.root, k1.at_⟩ k2
theorem Org.now {cp : Nat → Bool} {n v x w : Nat} (h : Cand p (n + 1) v x n w) (k : Vis p cp w v n) : Org p cp (n + 1) v x n :=
  ⟨⟨w, h, k⟩, fun c' _ k1 _ => by have := k1.lt; omega⟩
/-- a view made now sees of older candidates what its parent sees -/
theorem vis_child (ok : Valid p) {cp : Nat → Bool} {w m u c : Nat} (hp : vpar p m = some u) (hm : m < nv p) (hw : w < m) (hc : c ≤ vst p m) : Vis p cp w m c ↔ Vis p cp w u c := by
  have hu := vplt ok hp
  have em : meet (vpar p) w m = meet (vpar p) w u := by
    unfold meet
    congr 1
    apply List.filter_congr
    intro x hx
    have hxw := mem_anc_le hx
    have : x ∈ anc (vpar p) m ↔ x ∈ anc (vpar p) u := by
      rw [mem_anc_some hp hu]
      constructor
      · rintro (q | q)
        · exact q
        · omega
      · exact .inl
    simp [this]
  unfold Vis
  rw [em]
  constructor
  · intro h a ha x hx hl
    refine h a ha x ?_ hl
    rcases hx with q | q
    · exact .inl q
    · exact .inr ⟨(mem_anc_some hp hu).mpr (.inl q.1), q.2⟩
  · intro h a ha x hx hl
    refine h a ha x ?_ hl
    rcases hx with q | q
    · exact .inl q
    · rcases (mem_anc_some hp hu).mp q.1 with r | r
      · exact .inr ⟨r, q.2⟩
      · rw [r] at q
        omega
theorem Org.child (ok : Valid p) {cp : Nat → Bool} {n v x c m : Nat} (hp : vpar p m = some v) (hm : m < nv p) (hn : vst p m = n) (h : Org p cp n v x c) : Org p cp n m x c := by
  have hv := vplt ok hp
  have er : vroot p m = vroot p v := root_some hp hv
  have wlt : ∀ {c w}, Cand p n v x c w → w < m := fun {c w} k => by
    obtain ⟨lo, hi, e, _⟩ := k.at_
    obtain ⟨h1, h2, _⟩ := wr_view ok e
    have := k.lt
    rcases Nat.lt_or_ge w m with q | q
    · exact q
    · by_cases e : m = w
      · subst e
        omega
      · have := vstm (p := p) (i := m) (j := w) (by omega) h1
        omega
  obtain ⟨w, h1, h2⟩ := h.there
  refine ⟨⟨w, ⟨h1.lt, by rw [er]; exact h1.root, h1.at_⟩, ?_⟩, fun c' w' k1 k2 => ?_⟩
  · exact (vis_child ok hp hm (wlt h1) (by have := h1.lt; omega)).mpr h2
  · have k1' : Cand p n v x c' w' := ⟨k1.lt, by rw [← er]; exact k1.root, k1.at_⟩
    exact h.top c' w' k1' ((vis_child ok hp hm (wlt k1') (by have := k1.lt; omega)).mp k2)
/-- of the newest statement one sees what is in the same block -/
theorem vis_now (ok : Valid p) {cp : Nat → Bool} {w i n : Nat} (hr : vroot p w = vroot p i) (hi : i < nv p) (hn : vst p i < n) : Vis p cp w i n ↔ blk (vpar p) cp w = blk (vpar p) cp i := by
  have pl : ∀ i j, vpar p i = some j → j < i := fun _ _ h => vplt ok h
  obtain ⟨a, e, h1, h2, h3⟩ := meet_some pl hr
  rw [blk_iff pl h1 h2 h3]
  unfold Vis
  rw [e]
  constructor
  · intro h
    refine ⟨fun x hx hl => h a rfl x (.inl hx) hl, fun x hx hl => h a rfl x (.inr ⟨hx, ?_⟩) hl⟩
    have hxi := mem_anc_le hx
    by_cases q : x = i
    · rw [q]
      exact hn
    · have := vstm (p := p) (i := x) (j := i) (by omega) hi
      omega
  · rintro ⟨q1, q2⟩ b hb x hx hl
    cases hb
    rcases hx with r | r
    · exact q1 x r hl
    · exact q2 x r.1 hl
theorem vis_self (cp : Nat → Bool) (ok : Valid p) (i n : Nat) : Vis p cp i i n := by
  have pl : ∀ i j, vpar p i = some j → j < i := fun _ _ h => vplt ok h
  intro a ha u hu hl
  obtain ⟨b, e, h1, h2, h3⟩ := meet_some pl (v := i) (o := i) rfl
  rw [e] at ha
  cases ha
  have := h3 u (hu.elim id fun q => q.1) (hu.elim id fun q => q.1)
  omega

/-! ### a run by blocks -/
abbrev Blk := Option Nat × (Nat → Option (Option Nat))
def blk0 : Blk := (none, fun _ => none)
def bget (b : Blk) (x : Nat) : Option Nat := (b.2 x).getD b.1
/-- n written to the coordinates from lo below hi -/
def bput (b : Blk) (lo hi n : Nat) : Blk := (b.1, fun x => if lo ≤ x ∧ x < hi then some (some n) else b.2 x)
/-- a new block with the cells from lo below hi -/
def bcut (b : Blk) (lo hi : Nat) : Blk := (none, fun x => if lo ≤ x ∧ x < hi then some (bget b x) else none)
theorem bget_put (b : Blk) (lo hi n x : Nat) : bget (bput b lo hi n) x = if lo ≤ x ∧ x < hi then some n else bget b x := by
  unfold bget bput
  by_cases h : lo ≤ x ∧ x < hi
  · simp [h]
  · simp [h]
theorem bget_cut (b : Blk) (lo hi x : Nat) : bget (bcut b lo hi) x = if lo ≤ x ∧ x < hi then bget b x else none := by
  unfold bcut
  show (if lo ≤ x ∧ x < hi then some (bget b x) else none).getD none = _
  split <;> rfl
structure RS where
  caps : List (Option Nat)
  homes : List Nat
  blks : List Blk
  cops : List Nat
  seen : List (Option Nat)
def rs0 : RS := ⟨[], [], [], [], []⟩
def RS.cap (r : RS) (v : Nat) : Option Nat := r.caps.getD v none
def RS.home (r : RS) (v : Nat) : Nat := r.homes.getD v 0
def RS.blkAt (r : RS) (v : Nat) : Blk := r.blks.getD (r.home v) blk0
/-- n written through a view -/
def RS.put (r : RS) (v lo hi n : Nat) : RS := { r with blks := r.blks.set (r.home v) (bput (r.blkAt v) lo hi n) }
def RS.look (r : RS) (v x : Nat) : RS := { r with seen := r.seen ++ [bget (r.blkAt v) x] }
variable (p) in
def stepR (ch : Ch) (n : Nat) (r : RS) : Stm → RS
  | .make _ c => { r with caps := r.caps ++ [some c], homes := r.homes ++ [r.blks.length], blks := r.blks ++ [(some n, fun _ => none)] }
  | .slice v lo _ => { r with caps := r.caps ++ [(r.cap v).map (· - lo)], homes := r.homes ++ [r.home v] }
  | .clip v => { r with caps := r.caps ++ [some (vlen p v)], homes := r.homes ++ [r.home v] }
  | .app g v xs =>
    if (!g && fits (vlen p v + xs.length) (r.cap v)) = true then
      { r with caps := r.caps ++ [r.cap v], homes := r.homes ++ [r.home v], blks := r.blks.set (r.home v) (bput (r.blkAt v) (vend p v) (vend p v + xs.length) n) }
    else
      { r with caps := r.caps ++ [ch n (vlen p v + xs.length)], homes := r.homes ++ [r.blks.length], cops := r.cops ++ [n],
               blks := r.blks ++ [bput (bcut (r.blkAt v) (vstart p v) (vend p v)) (vend p v) (vend p v + xs.length) n] }
  | .write v i _ => r.put v (vstart p v + i) (vstart p v + i + 1) n
  | .move v i w q => (r.look w (vstart p w + q)).put v (vstart p v + i) (vstart p v + i + 1) n
  | .read v i => r.look v (vstart p v + i)
variable (p) in
def runN (ch : Ch) : Nat → RS
  | 0 => rs0
  | n + 1 => match p[n]? with
    | some s => stepR p ch n (runN ch n) s
    | none => runN ch n
theorem runN_succ {ch : Ch} {n : Nat} {s : Stm} (h : p[n]? = some s) : runN p ch (n + 1) = stepR p ch n (runN p ch n) s := by
  show (match p[n]? with
    | some s => stepR p ch n (runN p ch n) s
    | none => runN p ch n) = _
  rw [h]

/-- what holds of a run behind n statements -/
structure Good (p : Prog) (ch : Ch) (cp : Nat → Bool) (n : Nat) (r : RS) : Prop where
  cl : r.caps.length = (rowsN p n).length
  caps : ∀ i, i < (rowsN p n).length → r.cap i = capOf p ch i
  hl : r.homes.length = (rowsN p n).length
  hb : ∀ i, i < (rowsN p n).length → r.home i < r.blks.length
  same : ∀ i j, i < (rowsN p n).length → j < (rowsN p n).length → (r.home i = r.home j ↔ blk (vpar p) cp i = blk (vpar p) cp j)
  cont : ∀ i x, i < (rowsN p n).length → vstart p i ≤ x → x < vend p i → ∃ c, bget (r.blkAt i) x = some c ∧ Org p cp n i x c
  sl : r.seen.length = (readsN p n).length
  seen : ∀ (k : Nat) (q : Nat × Nat × Nat), (readsN p n)[k]? = some q → ∃ c, r.seen[k]? = some (some c) ∧ Org p cp q.1 q.2.1 (vstart p q.2.1 + q.2.2) c
theorem getD_app_lt {α : Type} {l : List α} {a d : α} {i : Nat} (h : i < l.length) : (l ++ [a]).getD i d = l.getD i d := by
  rw [List.getD_eq_getElem?_getD, List.getD_eq_getElem?_getD, List.getElem?_append_left h]
theorem getD_app_eq {α : Type} {l : List α} {a d : α} : (l ++ [a]).getD l.length d = a := by
  rw [List.getD_eq_getElem?_getD, List.getElem?_append_right (Nat.le_refl _)]
  simp
theorem getD_set {α : Type} {l : List α} {a d : α} {i j : Nat} (h : i < l.length) : (l.set i a).getD j d = if j = i then a else l.getD j d := by
  rw [List.getD_eq_getElem?_getD, List.getD_eq_getElem?_getD]
  by_cases e : j = i
  · subst e
    rw [List.getElem?_set_self h, if_pos rfl]
    rfl
  · rw [List.getElem?_set_ne (fun z => e z.symm), if_neg e]
/-- the room after a put through w: contents by blocks -/
theorem put_cont {ch : Ch} {cp : Nat → Bool} (ok : Valid p) {n w lo up : Nat} {r : RS} (G : Good p ch cp n r) (hw : w < (rowsN p n).length) (hn : n ≤ p.length) (ew : wr p n = some (w, lo, up)) :
    ∀ i x, i < (rowsN p n).length → vstart p i ≤ x → x < vend p i → ∃ c, bget ((r.put w lo up n).blkAt i) x = some c ∧ Org p cp (n + 1) i x c := by
  intro i x hi h1 h2
  obtain ⟨c, e, O⟩ := G.cont i x hi h1 h2
  have hi' := seen_lt hn hi
  have hst := st_below hn hi
  have eb : (r.put w lo up n).blkAt i = if r.home i = r.home w then bput (r.blkAt w) lo up n else r.blkAt i := by
    show (r.blks.set (r.home w) (bput (r.blkAt w) lo up n)).getD (r.home i) blk0 = _
    rw [getD_set (G.hb w hw)]
    rfl
  rw [eb]
  by_cases hs : r.home i = r.home w
  · rw [if_pos hs, bget_put]
    have hbk := ((G.same i w hi hw).mp hs)
    have hroot : vroot p w = vroot p i := by
      have a := blk_root (cp := cp) (fun _ _ h => vplt ok h) i
      have b := blk_root (cp := cp) (fun _ _ h => vplt ok h) w
      rw [hbk] at a
      exact b.symm.trans a
    by_cases hx : lo ≤ x ∧ x < up
    · rw [if_pos hx]
      exact ⟨n, rfl, Org.now ⟨by omega, hroot, lo, up, ew, hx.1, hx.2⟩ ((vis_now ok hroot hi' hst).mpr hbk.symm)⟩
    · rw [if_neg hx]
      have ebw : r.blkAt w = r.blkAt i := by
        unfold RS.blkAt
        rw [hs]
      rw [ebw]
      refine ⟨c, e, O.keep fun w' k _ => ?_⟩
      obtain ⟨lo', hi', e', l1, l2⟩ := k.at_
      rw [ew] at e'
      cases e'
      exact hx ⟨l1, l2⟩
  · rw [if_neg hs]
    refine ⟨c, e, O.keep fun w' k v => ?_⟩
    obtain ⟨lo', hi', e', l1, l2⟩ := k.at_
    rw [ew] at e'
    cases e'
    have := (vis_now ok k.root hi' hst).mp v
    exact hs ((G.same i w hi hw).mpr this.symm)
theorem Good.put {ch : Ch} {cp : Nat → Bool} (ok : Valid p) {n w lo hi : Nat} {r : RS} {s : Stm} (G : Good p ch cp n r) (hw : w < (rowsN p n).length) (hn : n ≤ p.length) (ew : wr p n = some (w, lo, hi))
    (es : p[n]? = some s) (er : rowOf (rowsN p n) n s = none) (hsl : r.seen.length = (readsN p (n + 1)).length)
    (hseen : ∀ (k : Nat) (q : Nat × Nat × Nat), (readsN p (n + 1))[k]? = some q → ∃ c, r.seen[k]? = some (some c) ∧ Org p cp q.1 q.2.1 (vstart p q.2.1 + q.2.2) c) : Good p ch cp (n + 1) (r.put w lo hi n) := by
  have e : rowsN p (n + 1) = rowsN p n := by
    rw [rowsN_succ es, er]
    simp
  refine ⟨?_, ?_, ?_, ?_, ?_, ?_, hsl, hseen⟩
  · rw [e]
    exact G.cl
  · rw [e]
    exact G.caps
  · rw [e]
    exact G.hl
  · rw [e]
    intro i hi
    show r.home i < (r.blks.set _ _).length
    rw [List.length_set]
    exact G.hb i hi
  · rw [e]
    exact G.same
  · rw [e]
    exact put_cont ok G hw hn ew
theorem readsN_none {n : Nat} (h : ∀ v i, p[n]? ≠ some (.read v i)) (h' : ∀ v i w q, p[n]? ≠ some (.move v i w q)) : readsN p (n + 1) = readsN p n := by
  show (match p[n]? with
    | some (.read v i) => readsN p n ++ [(n, v, i)]
    | some (.move _ _ w q) => readsN p n ++ [(n, w, q)]
    | _ => readsN p n) = _
  cases e : p[n]? with
  | none => rfl
  | some s =>
    cases s with
    | read v i => exact absurd e (h v i)
    | move v i w q => exact absurd e (h' v i w q)
    | _ => rfl
/-- what is read now -/
theorem Good.looked {ch : Ch} {cp : Nat → Bool} {n v x : Nat} {r : RS} {i : Nat} (G : Good p ch cp n r) (hn : n ≤ p.length) (hc : IsCell (rowsN p n) v i) (e : readsN p (n + 1) = readsN p n ++ [(n, v, i)]) (hx : x = vstart p v + i) :
    (r.look v x).seen.length = (readsN p (n + 1)).length ∧ ∀ (k : Nat) (q : Nat × Nat × Nat), (readsN p (n + 1))[k]? = some q → ∃ c, (r.look v x).seen[k]? = some (some c) ∧ Org p cp q.1 q.2.1 (vstart p q.2.1 + q.2.2) c := by
  subst hx
  have hv := hc.1
  have hi := hc.2
  rw [seen_row hn hv] at hi
  obtain ⟨c, ec, O⟩ := G.cont v (vstart p v + i) hv (by omega) (by
    show vstart p v + i < vstart p v + vlen p v
    have : i < vlen p v := hi
    omega)
  have es : (r.look v (vstart p v + i)).seen = r.seen ++ [some c] := by
    show r.seen ++ [bget (r.blkAt v) (vstart p v + i)] = _
    rw [ec]
  rw [es, e]
  refine ⟨by rw [List.length_append, List.length_append, G.sl]; rfl, fun k q hk => ?_⟩
  by_cases l : k < (readsN p n).length
  · rw [List.getElem?_append_left l] at hk
    obtain ⟨c', e1, e2⟩ := G.seen k q hk
    exact ⟨c', by rw [List.getElem?_append_left (by rw [G.sl]; exact l)]; exact e1, e2⟩
  · rw [List.getElem?_append_right (by omega)] at hk
    have hk0 : k - (readsN p n).length = 0 := by
      by_cases z : k - (readsN p n).length = 0
      · exact z
      · rw [List.getElem?_eq_none (by simp; omega)] at hk
        cases hk
    have hkl : k = r.seen.length := by
      rw [G.sl]
      omega
    rw [hk0] at hk
    cases hk
    refine ⟨c, ?_, O⟩
    rw [hkl, List.getElem?_append_right (Nat.le_refl _)]
    simp
/-- a new view: what must be shown -/
theorem Good.view {ch : Ch} {cp : Nat → Bool} {n : Nat} {r r' : RS} {s : Stm} {row : Row} {k : Option Nat} {h : Nat} (G : Good p ch cp n r) (es : p[n]? = some s) (er : rowOf (rowsN p n) n s = some row)
    (ec : r'.caps = r.caps ++ [k]) (hk : k = capOf p ch (rowsN p n).length) (eh : r'.homes = r.homes ++ [h]) (hb : r.blks.length ≤ r'.blks.length) (hh : h < r'.blks.length)
    (hs : ∀ i, i < (rowsN p n).length → (r.home i = h ↔ blk (vpar p) cp i = blk (vpar p) cp (rowsN p n).length)) (esn : r'.seen = r.seen) (hr : readsN p (n + 1) = readsN p n)
    (cont : ∀ i x, i < (rowsN p n).length + 1 → vstart p i ≤ x → x < vend p i → ∃ c, bget (r'.blkAt i) x = some c ∧ Org p cp (n + 1) i x c) : Good p ch cp (n + 1) r' := by
  have e : rowsN p (n + 1) = rowsN p n ++ [row] := by
    rw [rowsN_succ es, er]
    rfl
  have el : (rowsN p (n + 1)).length = (rowsN p n).length + 1 := by
    rw [e, List.length_append]
    rfl
  have home_lt : ∀ i, i < (rowsN p n).length → r'.home i = r.home i := fun i hi => by
    unfold RS.home
    rw [eh]
    exact getD_app_lt (by rw [G.hl]; exact hi)
  have home_eq : r'.home (rowsN p n).length = h := by
    unfold RS.home
    rw [eh, ← G.hl]
    exact getD_app_eq
  refine ⟨?_, ?_, ?_, ?_, ?_, ?_, ?_, ?_⟩
  · rw [ec, List.length_append, G.cl, el]
    rfl
  · intro i hi
    unfold RS.cap
    rw [ec]
    by_cases l : i < (rowsN p n).length
    · rw [getD_app_lt (by rw [G.cl]; exact l)]
      exact G.caps i l
    · have : i = (rowsN p n).length := by omega
      rw [this, ← G.cl, getD_app_eq, hk, G.cl]
  · rw [eh, List.length_append, G.hl, el]
    rfl
  · intro i hi
    by_cases l : i < (rowsN p n).length
    · rw [home_lt i l]
      exact Nat.lt_of_lt_of_le (G.hb i l) hb
    · have : i = (rowsN p n).length := by omega
      rw [this, home_eq]
      exact hh
  · intro i j hi hj
    by_cases li : i < (rowsN p n).length
    · rw [home_lt i li]
      by_cases lj : j < (rowsN p n).length
      · rw [home_lt j lj]
        exact G.same i j li lj
      · have : j = (rowsN p n).length := by omega
        rw [this, home_eq]
        exact hs i li
    · have ei : i = (rowsN p n).length := by omega
      rw [ei, home_eq]
      by_cases lj : j < (rowsN p n).length
      · rw [home_lt j lj]
        constructor
        · intro q
          exact ((hs j lj).mp q.symm).symm
        · intro q
          exact ((hs j lj).mpr q.symm).symm
      · have : j = (rowsN p n).length := by omega
        rw [this, home_eq]
        exact ⟨fun _ => rfl, fun _ => rfl⟩
  · intro i x hi h1 h2
    exact cont i x (by omega) h1 h2
  · rw [esn, hr]
    exact G.sl
  · rw [esn, hr]
    exact G.seen
/-- one statement more -/
theorem good_step (ok : Valid p) {ch : Ch} {n : Nat} {s : Stm} {r : RS} (es : p[n]? = some s) (G : Good p ch (cpOf p ch) n r) : Good p ch (cpOf p ch) (n + 1) (stepR p ch n r s) := by
  have hn : n < p.length := (List.getElem?_eq_some_iff.mp es).1
  have hn' : n ≤ p.length := by omega
  have pl : ∀ i j, vpar p i = some j → j < i := fun _ _ h => vplt ok h
  have o := ok n s es
  -- a new view's facts
  have fresh : ∀ row, rowOf (rowsN p n) n s = some row → (rowsN p n).length < nv p ∧ vst p (rowsN p n).length = n ∧ p.getD (vst p (rowsN p n).length) stm0 = s := fun row hr => by
    obtain ⟨h1, h2⟩ := view_made es hr
    have h3 : vst p (rowsN p n).length = n := by
      unfold vst
      rw [h2, rowOf_st hr]
    refine ⟨h1, h3, ?_⟩
    rw [h3, List.getD_eq_getElem?_getD, es]
    rfl
  have keepAll : wr p n = none → ∀ i x c, Org p (cpOf p ch) n i x c → Org p (cpOf p ch) (n + 1) i x c := fun hw i x c O => O.keep fun w' k _ => by
    obtain ⟨_, _, e', _⟩ := k.at_
    rw [hw] at e'
    cases e'
  cases s with
  | make l c =>
    obtain ⟨f1, f2, f3⟩ := fresh _ rfl
    have sh := view_shape ok f1
    have al := alt_law ok ch f1
    rw [f3] at sh al
    have hw : wr p n = some ((rowsN p n).length, 0, c) := by
      unfold wr
      rw [es]
    refine G.view (k := some c) (h := r.blks.length) es rfl rfl al.1.symm rfl (by show r.blks.length ≤ (r.blks ++ [_]).length; rw [List.length_append]; omega)
      (by show r.blks.length < (r.blks ++ [_]).length; rw [List.length_append]; exact Nat.lt_succ_self _) (fun i hi => ?_) rfl (readsN_none (by intro v i z; rw [es] at z; cases z) (by intro v i w q z; rw [es] at z; cases z)) fun i x hi h1 h2 => ?_
    · rw [blk_none sh.1]
      have a := G.hb i hi
      have b := blk_le (par := vpar p) (cp := cpOf p ch) i
      constructor
      · intro z
        omega
      · intro z
        omega
    · by_cases li : i < (rowsN p n).length
      · obtain ⟨c', e1, O⟩ := G.cont i x li h1 h2
        refine ⟨c', ?_, O.keep fun w' k _ => ?_⟩
        · show bget ((r.blks ++ [_]).getD ((r.homes ++ [_]).getD i 0) blk0) x = _
          rw [getD_app_lt (l := r.homes) (by rw [G.hl]; exact li), getD_app_lt (show r.homes.getD i 0 < r.blks.length from G.hb i li)]
          exact e1
        · obtain ⟨_, _, e', _⟩ := k.at_
          rw [hw] at e'
          cases e'
          have hr := k.root
          rw [show vroot p (rowsN p n).length = (rowsN p n).length from root_none sh.1] at hr
          have := mem_anc_le (root_mem (par := vpar p) i)
          unfold vroot at hr
          omega
      · have ei : i = (rowsN p n).length := by omega
        subst ei
        refine ⟨n, ?_, Org.now (w := (rowsN p n).length) ⟨by omega, rfl, 0, c, hw, by omega, ?_⟩ (vis_self _ ok _ _)⟩
        · show bget ((r.blks ++ [_]).getD ((r.homes ++ [_]).getD (rowsN p n).length 0) blk0) x = _
          rw [← G.hl, getD_app_eq, getD_app_eq]
          rfl
        · unfold vend at h2
          omega
  | slice v lo hi =>
    obtain ⟨f1, f2, f3⟩ := fresh _ rfl
    have sh := view_shape ok f1
    have al := alt_law ok ch f1
    rw [f3] at sh al
    dsimp only at sh al
    have hv : v < (rowsN p n).length := sh.2.1
    have hw : wr p n = none := by
      unfold wr
      rw [es]
    have ebk : blk (vpar p) (cpOf p ch) (rowsN p n).length = blk (vpar p) (cpOf p ch) v := blk_par sh.1 hv al.2
    refine G.view (k := (r.cap v).map (· - lo)) (h := r.home v) es rfl rfl (by rw [al.1, G.caps v hv]) rfl (Nat.le_refl _) (G.hb v hv) (fun i hi => ?_) rfl (readsN_none (by intro v i z; rw [es] at z; cases z) (by intro v i w q z; rw [es] at z; cases z)) fun i x hi h1 h2 => ?_
    · rw [ebk]
      exact G.same i v hi hv
    · by_cases li : i < (rowsN p n).length
      · obtain ⟨c', e1, O⟩ := G.cont i x li h1 h2
        refine ⟨c', ?_, keepAll hw _ _ _ O⟩
        show bget (r.blks.getD ((r.homes ++ [_]).getD i 0) blk0) x = _
        rw [getD_app_lt (by rw [G.hl]; exact li)]
        exact e1
      · have ei : i = (rowsN p n).length := by omega
        subst ei
        obtain ⟨c', e1, O⟩ := G.cont v x hv (by omega) (by unfold vend at h2 ⊢; omega)
        refine ⟨c', ?_, keepAll hw _ _ _ (O.child ok sh.1 f1 f2)⟩
        show bget (r.blks.getD ((r.homes ++ [_]).getD (rowsN p n).length 0) blk0) x = _
        rw [← G.hl, getD_app_eq]
        exact e1
  | clip v =>
    obtain ⟨f1, f2, f3⟩ := fresh _ rfl
    have sh := view_shape ok f1
    have al := alt_law ok ch f1
    rw [f3] at sh al
    dsimp only at sh al
    have hv : v < (rowsN p n).length := sh.2.1
    have hw : wr p n = none := by
      unfold wr
      rw [es]
    have ebk : blk (vpar p) (cpOf p ch) (rowsN p n).length = blk (vpar p) (cpOf p ch) v := blk_par sh.1 hv al.2
    refine G.view (k := some (vlen p v)) (h := r.home v) es rfl rfl (by rw [al.1, sh.2.2.2]) rfl (Nat.le_refl _) (G.hb v hv) (fun i hi => ?_) rfl (readsN_none (by intro v i z; rw [es] at z; cases z) (by intro v i w q z; rw [es] at z; cases z)) fun i x hi h1 h2 => ?_
    · rw [ebk]
      exact G.same i v hi hv
    · by_cases li : i < (rowsN p n).length
      · obtain ⟨c', e1, O⟩ := G.cont i x li h1 h2
        refine ⟨c', ?_, keepAll hw _ _ _ O⟩
        show bget (r.blks.getD ((r.homes ++ [_]).getD i 0) blk0) x = _
        rw [getD_app_lt (by rw [G.hl]; exact li)]
        exact e1
      · have ei : i = (rowsN p n).length := by omega
        subst ei
        obtain ⟨c', e1, O⟩ := G.cont v x hv (by omega) (by unfold vend at h2 ⊢; omega)
        refine ⟨c', ?_, keepAll hw _ _ _ (O.child ok sh.1 f1 f2)⟩
        show bget (r.blks.getD ((r.homes ++ [_]).getD (rowsN p n).length 0) blk0) x = _
        rw [← G.hl, getD_app_eq]
        exact e1
  | app g v xs =>
    obtain ⟨f1, f2, f3⟩ := fresh _ rfl
    have sh := view_shape ok f1
    have al := alt_law ok ch f1
    rw [f3] at sh al
    dsimp only at sh al
    have hv : v < (rowsN p n).length := sh.2.1
    have hw : wr p n = some ((rowsN p n).length, vend p v, vend p v + xs.length) := by
      unfold wr
      rw [es]
    have ev : vend p (rowsN p n).length = vend p v + xs.length := by
      unfold vend
      omega
    have er1 : readsN p (n + 1) = readsN p n := readsN_none (by intro v i z; rw [es] at z; cases z) (by intro v i w q z; rw [es] at z; cases z)
    have ecap := G.caps v hv
    have efit : (!g && fits (vlen p v + xs.length) (r.cap v)) = true ↔ (g = false ∧ leO (some (vlen p (rowsN p n).length)) (capOf p ch v)) := by
      rw [ecap, sh.2.2.2.1, Bool.and_eq_true, leO_fits]
      cases g <;> simp
    show Good p ch (cpOf p ch) (n + 1) (if (!g && fits (vlen p v + xs.length) (r.cap v)) = true then _ else _)
    by_cases cnd : (!g && fits (vlen p v + xs.length) (r.cap v)) = true
    · rw [if_pos cnd]
      have q := al.1 (efit.mp cnd)
      have ebk : blk (vpar p) (cpOf p ch) (rowsN p n).length = blk (vpar p) (cpOf p ch) v := blk_par sh.1 hv q.2
      refine G.view (k := r.cap v) (h := r.home v) es rfl rfl (by rw [q.1, ecap]) rfl (by show r.blks.length ≤ (r.blks.set _ _).length; rw [List.length_set]; exact Nat.le_refl _) (by show r.home v < (r.blks.set _ _).length; rw [List.length_set]; exact G.hb v hv) (fun i hi => ?_) rfl er1 fun i x hi h1 h2 => ?_
      · rw [ebk]
        exact G.same i v hi hv
      · have getb : ∀ j, (r.blks.set (r.home v) (bput (r.blkAt v) (vend p v) (vend p v + xs.length) n)).getD j blk0 = if j = r.home v then bput (r.blkAt v) (vend p v) (vend p v + xs.length) n else r.blks.getD j blk0 := fun j => getD_set (G.hb v hv)
        have hroot : vroot p (rowsN p n).length = vroot p v := root_some sh.1 hv
        by_cases li : i < (rowsN p n).length
        · obtain ⟨c', e1, O⟩ := G.cont i x li h1 h2
          have hi' := seen_lt hn' li
          have hst := st_below hn' li
          have eb : bget ((r.blks.set (r.home v) (bput (r.blkAt v) (vend p v) (vend p v + xs.length) n)).getD ((r.homes ++ [r.home v]).getD i 0) blk0) x = if r.home i = r.home v ∧ vend p v ≤ x ∧ x < vend p v + xs.length then some n else bget (r.blkAt i) x := by
            rw [getD_app_lt (by rw [G.hl]; exact li), getb]
            by_cases z : r.homes.getD i 0 = r.home v
            · rw [if_pos z, bget_put]
              have z' : r.home i = r.home v := z
              have zb : r.blkAt i = r.blkAt v := by
                unfold RS.blkAt
                rw [z']
              by_cases zx : vend p v ≤ x ∧ x < vend p v + xs.length
              · rw [if_pos zx, if_pos ⟨z', zx⟩]
              · rw [if_neg zx, if_neg (fun y => zx y.2), zb]
            · rw [if_neg z, if_neg (fun y => z y.1)]
              rfl
          show ∃ c, bget ((r.blks.set (r.home v) (bput (r.blkAt v) (vend p v) (vend p v + xs.length) n)).getD ((r.homes ++ [r.home v]).getD i 0) blk0) x = some c ∧ _
          rw [eb]
          by_cases z : r.home i = r.home v ∧ vend p v ≤ x ∧ x < vend p v + xs.length
          · rw [if_pos z]
            have hbk := (G.same i v li hv).mp z.1
            have hr : vroot p (rowsN p n).length = vroot p i := by
              have a := blk_root (cp := cpOf p ch) pl i
              have b := blk_root (cp := cpOf p ch) pl v
              rw [hbk] at a
              rw [hroot]
              exact b.symm.trans a
            exact ⟨n, rfl, Org.now ⟨by omega, hr, _, _, hw, z.2.1, z.2.2⟩ ((vis_now ok hr hi' hst).mpr (by rw [ebk, hbk]))⟩
          · rw [if_neg z]
            refine ⟨c', e1, O.keep fun w' k vz => ?_⟩
            obtain ⟨lo', hi', e', l1, l2⟩ := k.at_
            rw [hw] at e'
            cases e'
            have := (vis_now ok k.root (seen_lt hn' li) hst).mp vz
            rw [ebk] at this
            exact z ⟨(G.same i v li hv).mpr this.symm, l1, l2⟩
        · have ei : i = (rowsN p n).length := by omega
          subst ei
          have eb : bget ((r.blks.set (r.home v) (bput (r.blkAt v) (vend p v) (vend p v + xs.length) n)).getD ((r.homes ++ [r.home v]).getD (rowsN p n).length 0) blk0) x = if vend p v ≤ x ∧ x < vend p v + xs.length then some n else bget (r.blkAt v) x := by
            rw [← G.hl, getD_app_eq, getb, if_pos rfl, bget_put]
          show ∃ c, bget ((r.blks.set (r.home v) (bput (r.blkAt v) (vend p v) (vend p v + xs.length) n)).getD ((r.homes ++ [r.home v]).getD (rowsN p n).length 0) blk0) x = some c ∧ _
          rw [eb]
          by_cases z : vend p v ≤ x ∧ x < vend p v + xs.length
          · rw [if_pos z]
            exact ⟨n, rfl, Org.now ⟨by omega, rfl, _, _, hw, z.1, z.2⟩ (vis_self _ ok _ _)⟩
          · rw [if_neg z]
            obtain ⟨c', e1, O⟩ := G.cont v x hv (by omega) (by omega)
            refine ⟨c', e1, (O.child ok sh.1 f1 f2).keep fun w' k _ => ?_⟩
            obtain ⟨lo', hi', e', l1, l2⟩ := k.at_
            rw [hw] at e'
            cases e'
            exact z ⟨l1, l2⟩
    · rw [if_neg cnd]
      have q := al.2 fun z => cnd (efit.mpr z)
      have ebk : blk (vpar p) (cpOf p ch) (rowsN p n).length = (rowsN p n).length := blk_self pl q.2
      refine G.view (k := ch n (vlen p v + xs.length)) (h := r.blks.length) es rfl rfl (by rw [q.1, f2, sh.2.2.2.1]) rfl (by show r.blks.length ≤ (r.blks ++ [_]).length; rw [List.length_append]; omega)
        (by show r.blks.length < (r.blks ++ [_]).length; rw [List.length_append]; exact Nat.lt_succ_self _) (fun i hi => ?_) rfl er1 fun i x hi h1 h2 => ?_
      · rw [ebk]
        have a := G.hb i hi
        have b := blk_le (par := vpar p) (cp := cpOf p ch) i
        constructor
        · intro z
          omega
        · intro z
          omega
      · by_cases li : i < (rowsN p n).length
        · obtain ⟨c', e1, O⟩ := G.cont i x li h1 h2
          refine ⟨c', ?_, O.keep fun w' k vz => ?_⟩
          · show bget ((r.blks ++ [_]).getD ((r.homes ++ [_]).getD i 0) blk0) x = _
            rw [getD_app_lt (l := r.homes) (by rw [G.hl]; exact li), getD_app_lt (show r.homes.getD i 0 < r.blks.length from G.hb i li)]
            exact e1
          · obtain ⟨lo', hi', e', l1, l2⟩ := k.at_
            rw [hw] at e'
            cases e'
            have := (vis_now ok k.root (seen_lt hn' li) (st_below hn' li)).mp vz
            rw [ebk] at this
            have b := blk_le (par := vpar p) (cp := cpOf p ch) i
            omega
        · have ei : i = (rowsN p n).length := by omega
          subst ei
          have eb : bget ((r.blks ++ [bput (bcut (r.blkAt v) (vstart p v) (vend p v)) (vend p v) (vend p v + xs.length) n]).getD ((r.homes ++ [r.blks.length]).getD (rowsN p n).length 0) blk0) x = if vend p v ≤ x ∧ x < vend p v + xs.length then some n else if vstart p v ≤ x ∧ x < vend p v then bget (r.blkAt v) x else none := by
            rw [← G.hl, getD_app_eq, getD_app_eq, bget_put, bget_cut]
          show ∃ c, bget ((r.blks ++ [bput (bcut (r.blkAt v) (vstart p v) (vend p v)) (vend p v) (vend p v + xs.length) n]).getD ((r.homes ++ [r.blks.length]).getD (rowsN p n).length 0) blk0) x = some c ∧ _
          rw [eb]
          by_cases z : vend p v ≤ x ∧ x < vend p v + xs.length
          · rw [if_pos z]
            exact ⟨n, rfl, Org.now ⟨by omega, rfl, _, _, hw, z.1, z.2⟩ (vis_self _ ok _ _)⟩
          · rw [if_neg z, if_pos (by omega)]
            obtain ⟨c', e1, O⟩ := G.cont v x hv (by omega) (by omega)
            refine ⟨c', e1, (O.child ok sh.1 f1 f2).keep fun w' k _ => ?_⟩
            obtain ⟨lo', hi', e', l1, l2⟩ := k.at_
            rw [hw] at e'
            cases e'
            exact z ⟨l1, l2⟩
  | write v i x =>
    have hw : wr p n = some (v, vstart p v + i, vstart p v + i + 1) := by
      unfold wr
      rw [es]
    have er1 : readsN p (n + 1) = readsN p n := readsN_none (by intro v i z; rw [es] at z; cases z) (by intro v i w q z; rw [es] at z; cases z)
    exact G.put ok o.1 hn' hw es rfl (by rw [er1]; exact G.sl) (by rw [er1]; exact G.seen)
  | move v i w q =>
    have hw : wr p n = some (v, vstart p v + i, vstart p v + i + 1) := by
      unfold wr
      rw [es]
    have er1 : readsN p (n + 1) = readsN p n ++ [(n, w, q)] := by
      show (match p[n]? with
        | some (.read v i) => readsN p n ++ [(n, v, i)]
        | some (.move _ _ w q) => readsN p n ++ [(n, w, q)]
        | _ => readsN p n) = _
      rw [es]
    obtain ⟨l1, l2⟩ := G.looked hn' o.2 er1 rfl
    have G' : Good p ch (cpOf p ch) n { r with seen := r.seen } := G
    have P := put_cont ok G o.1.1 hn' hw
    have e : rowsN p (n + 1) = rowsN p n := by
      rw [rowsN_succ es]
      simp [rowOf]
    refine ⟨?_, ?_, ?_, ?_, ?_, ?_, l1, l2⟩
    · rw [e]
      exact G.cl
    · rw [e]
      exact G.caps
    · rw [e]
      exact G.hl
    · rw [e]
      intro i hi
      show r.home i < (r.blks.set _ _).length
      rw [List.length_set]
      exact G.hb i hi
    · rw [e]
      exact G.same
    · rw [e]
      exact P
  | read v i =>
    have hw : wr p n = none := by
      unfold wr
      rw [es]
    have er1 : readsN p (n + 1) = readsN p n ++ [(n, v, i)] := by
      show (match p[n]? with
        | some (.read v i) => readsN p n ++ [(n, v, i)]
        | some (.move _ _ w q) => readsN p n ++ [(n, w, q)]
        | _ => readsN p n) = _
      rw [es]
    obtain ⟨l1, l2⟩ := G.looked hn' o er1 rfl
    have e : rowsN p (n + 1) = rowsN p n := by
      rw [rowsN_succ es]
      simp [rowOf]
    refine ⟨?_, ?_, ?_, ?_, ?_, ?_, l1, l2⟩
    · rw [e]
      exact G.cl
    · rw [e]
      exact G.caps
    · rw [e]
      exact G.hl
    · rw [e]
      exact G.hb
    · rw [e]
      exact G.same
    · rw [e]
      intro i x hi h1 h2
      obtain ⟨c', e1, O⟩ := G.cont i x hi h1 h2
      exact ⟨c', e1, keepAll hw _ _ _ O⟩
theorem good_run (ok : Valid p) (ch : Ch) : ∀ n, n ≤ p.length → Good p ch (cpOf p ch) n (runN p ch n)
  | 0, _ => by
    refine ⟨rfl, ?_, rfl, ?_, ?_, ?_, rfl, ?_⟩
    · intro i hi
      cases hi
    · intro i hi
      cases hi
    · intro i j hi _
      cases hi
    · intro i x hi _ _
      cases hi
    · intro k q hk
      simp [readsN] at hk
  | n + 1, hn => by
    have hl : n < p.length := hn
    have es : p[n]? = some p[n] := List.getElem?_eq_getElem hl
    rw [runN_succ es]
    exact good_step ok es (good_run ok ch n (by omega))
end GB
/-! Origins, demands, the least policy: what the law asks, in plain words of lists. -/
namespace GB
variable {p : Prog}

theorem reads_ok (ok : Valid p) : ∀ n (k : Nat) (q : Nat × Nat × Nat), n ≤ p.length → (readsN p n)[k]? = some q → q.1 < n ∧ q.2.1 < (rowsN p q.1).length ∧ q.2.2 < vlen p q.2.1
  | 0, k, q, _, h => by simp [readsN] at h
  | n + 1, k, q, hn, h => by
    have hl : n < p.length := hn
    have es : p[n]? = some p[n] := List.getElem?_eq_getElem hl
    have o := ok n _ es
    have cell : ∀ v i, IsCell (rowsN p n) v i → v < (rowsN p n).length ∧ i < vlen p v := fun v i hc => by
      refine ⟨hc.1, ?_⟩
      have := hc.2
      rw [seen_row (by omega) hc.1] at this
      exact this
    have go : ∀ v i, IsCell (rowsN p n) v i → readsN p (n + 1) = readsN p n ++ [(n, v, i)] → q.1 < n + 1 ∧ q.2.1 < (rowsN p q.1).length ∧ q.2.2 < vlen p q.2.1 := fun v i hc e => by
      rw [e] at h
      by_cases l : k < (readsN p n).length
      · rw [List.getElem?_append_left l] at h
        obtain ⟨h1, h2⟩ := reads_ok ok n k q (by omega) h
        exact ⟨by omega, h2⟩
      · rw [List.getElem?_append_right (by omega)] at h
        have hk0 : k - (readsN p n).length = 0 := by
          by_cases z : k - (readsN p n).length = 0
          · exact z
          · rw [List.getElem?_eq_none (by simp; omega)] at h
            cases h
        rw [hk0] at h
        cases h
        exact ⟨by show n < n + 1; omega, cell v i hc⟩
    cases e : p[n] with
    | read v i =>
      rw [e] at es o
      refine go v i o ?_
      show (match p[n]? with
        | some (.read v i) => readsN p n ++ [(n, v, i)]
        | some (.move _ _ w q) => readsN p n ++ [(n, w, q)]
        | _ => readsN p n) = _
      rw [es]
    | move v i w r =>
      rw [e] at es o
      refine go w r o.2 ?_
      show (match p[n]? with
        | some (.read v i) => readsN p n ++ [(n, v, i)]
        | some (.move _ _ w q) => readsN p n ++ [(n, w, q)]
        | _ => readsN p n) = _
      rw [es]
    | make l c =>
      rw [e] at es
      rw [readsN_none (by intro v i z; rw [es] at z; cases z) (by intro v i w q z; rw [es] at z; cases z)] at h
      obtain ⟨h1, h2⟩ := reads_ok ok n k q (by omega) h
      exact ⟨by omega, h2⟩
    | slice v lo hi =>
      rw [e] at es
      rw [readsN_none (by intro v i z; rw [es] at z; cases z) (by intro v i w q z; rw [es] at z; cases z)] at h
      obtain ⟨h1, h2⟩ := reads_ok ok n k q (by omega) h
      exact ⟨by omega, h2⟩
    | clip v =>
      rw [e] at es
      rw [readsN_none (by intro v i z; rw [es] at z; cases z) (by intro v i w q z; rw [es] at z; cases z)] at h
      obtain ⟨h1, h2⟩ := reads_ok ok n k q (by omega) h
      exact ⟨by omega, h2⟩
    | app g v xs =>
      rw [e] at es
      rw [readsN_none (by intro v i z; rw [es] at z; cases z) (by intro v i w q z; rw [es] at z; cases z)] at h
      obtain ⟨h1, h2⟩ := reads_ok ok n k q (by omega) h
      exact ⟨by omega, h2⟩
    | write v i x =>
      rw [e] at es
      rw [readsN_none (by intro v i z; rw [es] at z; cases z) (by intro v i w q z; rw [es] at z; cases z)] at h
      obtain ⟨h1, h2⟩ := reads_ok ok n k q (by omega) h
      exact ⟨by omega, h2⟩

/-! ### candidates as a list -/
variable (p) in
def candAt (v x c : Nat) : Option (Nat × Nat) :=
  match wr p c with
  | some (w, lo, hi) => if lo ≤ x ∧ x < hi ∧ vroot p w = vroot p v then some (c, w) else none
  | none => none
variable (p) in
def candL (n v x : Nat) : Tab := (List.range n).filterMap (candAt p v x)
theorem candAt_some {v x c : Nat} {e : Nat × Nat} (h : candAt p v x c = some e) : e.1 = c := by
  unfold candAt at h
  split at h
  · split at h
    · cases h
      rfl
    · cases h
  · cases h
theorem candL_mem {n v x c w : Nat} : (c, w) ∈ candL p n v x ↔ Cand p n v x c w := by
  unfold candL
  rw [List.mem_filterMap]
  constructor
  · rintro ⟨c', h1, h2⟩
    have e := candAt_some h2
    simp only at e
    subst e
    unfold candAt at h2
    split at h2
    · rename_i w' lo hi ew
      split at h2
      · rename_i hh
        cases h2
        exact ⟨List.mem_range.mp h1, hh.2.2, lo, hi, ew, hh.1, hh.2.1⟩
      · cases h2
    · cases h2
  · rintro ⟨h1, h2, lo, hi, ew, l1, l2⟩
    refine ⟨c, List.mem_range.mpr h1, ?_⟩
    unfold candAt
    rw [ew]
    exact if_pos ⟨l1, l2, h2⟩
theorem filterMap_srt {f : Nat → Option (Nat × Nat)} (hf : ∀ c e, f c = some e → e.1 = c) : ∀ n, Srt ((List.range n).filterMap f)
  | 0 => by
    show ([] : Tab).Pairwise _
    exact List.Pairwise.nil
  | n + 1 => by
    rw [List.range_succ, List.filterMap_append]
    refine List.pairwise_append.mpr ⟨filterMap_srt hf n, ?_, fun a ha b hb => ?_⟩
    · cases e : f n with
      | none => simp [e]
      | some y => simp [e]
    · rw [List.mem_filterMap] at ha hb
      obtain ⟨c, h1, h2⟩ := ha
      obtain ⟨d, h3, h4⟩ := hb
      rw [hf c a h2, hf d b h4]
      have := List.mem_range.mp h1
      simp at h3
      omega
theorem candL_srt {n v x : Nat} : Srt (candL p n v x) := filterMap_srt (fun _ _ h => candAt_some h) n
theorem candL_len {n v x : Nat} : (candL p n v x).length ≤ n := by
  unfold candL
  have h := List.length_filterMap_le (candAt p v x) (List.range n)
  rw [List.length_range] at h
  exact h

/-! ### visible, origin -/
variable (p) in
/-- the views whose statements are the links, behind a -/
def LinkV (w v a c u : Nat) : Prop := (∃ g, vkind p u = .app g) ∧ a < u ∧ (u ∈ vanc p w ∨ (u ∈ vanc p v ∧ vst p u < c))
variable (p) in
def visB (cp : Nat → Bool) (w v c : Nat) : Bool :=
  match meet (vpar p) w v with
  | none => true
  | some a => (vanc p w).all (fun u => !(decide (a < u) && cp u)) && (vanc p v).all fun u => !(decide (a < u) && decide (vst p u < c) && cp u)
theorem visB_iff {cp : Nat → Bool} {w v c : Nat} : visB p cp w v c = true ↔ Vis p cp w v c := by
  unfold visB Vis
  cases e : meet (vpar p) w v with
  | none => simp
  | some a =>
    simp only [Bool.and_eq_true, List.all_eq_true]
    constructor
    · rintro ⟨h1, h2⟩ b hb u hu hl
      cases hb
      rcases hu with q | q
      · have := h1 u q
        rw [decide_eq_true hl] at this
        simpa using this
      · have := h2 u q.1
        rw [decide_eq_true hl, decide_eq_true q.2] at this
        simpa using this
    · intro h
      refine ⟨fun u hu => ?_, fun u hu => ?_⟩
      · by_cases l : a < u
        · rw [h a rfl u (.inl hu) l]
          simp
        · rw [decide_eq_false l]
          rfl
      · by_cases l : a < u
        · by_cases l2 : vst p u < c
          · rw [h a rfl u (.inr ⟨hu, l2⟩) l]
            simp
          · rw [decide_eq_false l2]
            simp
        · rw [decide_eq_false l]
          rfl
variable (p) in
/-- the origin of a read under the statements that copy -/
def orig (cp : Nat → Bool) (q : Nat × Nat × Nat) : Nat := ((((candL p q.1 q.2.1 (vstart p q.2.1 + q.2.2)).filter fun e => visB p cp e.2 q.2.1 e.1).getLast?).getD (0, 0)).1
variable (p) in
def originsL (cp : Nat → Bool) : List Nat := (reads p).map (orig p cp)
theorem srt_last {T : Tab} (h : Srt T) {e : Nat × Nat} (hl : T.getLast? = some e) : e ∈ T ∧ ∀ d, d ∈ T → d.1 ≤ e.1 := by
  refine ⟨List.mem_of_getLast? hl, fun d hd => ?_⟩
  obtain ⟨ys, ey⟩ := List.getLast?_eq_some_iff.mp hl
  rw [ey] at h hd
  rcases List.mem_append.mp hd with q | q
  · have := (List.pairwise_append.mp h).2.2 d q e (by simp)
    omega
  · simp at q
    rw [q]
    exact Nat.le_refl _
theorem orig_org {cp : Nat → Bool} {q : Nat × Nat × Nat} {c : Nat} (h : Org p cp q.1 q.2.1 (vstart p q.2.1 + q.2.2) c) : orig p cp q = c := by
  obtain ⟨w, h1, h2⟩ := h.there
  have hm : (c, w) ∈ (candL p q.1 q.2.1 (vstart p q.2.1 + q.2.2)).filter fun e => visB p cp e.2 q.2.1 e.1 := List.mem_filter.mpr ⟨candL_mem.mpr h1, visB_iff.mpr h2⟩
  unfold orig
  cases e : ((candL p q.1 q.2.1 (vstart p q.2.1 + q.2.2)).filter fun e => visB p cp e.2 q.2.1 e.1).getLast? with
  | none =>
    rw [List.getLast?_eq_none_iff.mp e] at hm
    cases hm
  | some d =>
    obtain ⟨m1, m2⟩ := srt_last (List.Pairwise.filter _ candL_srt) e
    have a := m2 _ hm
    rw [List.mem_filter] at m1
    obtain ⟨d1, d2⟩ := d
    have b := h.top d1 d2 (candL_mem.mp m1.1) (visB_iff.mp m1.2)
    show d1 = c
    simp only at a
    omega
/-- each read has an origin, and the run sees it -/
theorem run_seen (ok : Valid p) (ch : Ch) : (runN p ch p.length).seen = (originsL p (cpOf p ch)).map some := by
  have G := good_run ok ch p.length (Nat.le_refl _)
  apply List.ext_getElem?
  intro k
  unfold originsL
  rw [List.getElem?_map, List.getElem?_map]
  cases e : (reads p)[k]? with
  | none =>
    have : (readsN p p.length).length ≤ k := List.getElem?_eq_none_iff.mp e
    rw [List.getElem?_eq_none (by rw [G.sl]; exact this)]
    rfl
  | some q =>
    obtain ⟨c, h1, h2⟩ := G.seen k q e
    rw [h1]
    show some (some c) = some (some (orig p (cpOf p ch) q))
    rw [orig_org h2]
theorem org_of (ok : Valid p) (ch : Ch) {k : Nat} {q : Nat × Nat × Nat} (h : (reads p)[k]? = some q) : Org p (cpOf p ch) q.1 q.2.1 (vstart p q.2.1 + q.2.2) (orig p (cpOf p ch) q) := by
  obtain ⟨c, _, h2⟩ := (good_run ok ch p.length (Nat.le_refl _)).seen k q h
  rw [orig_org h2]
  exact h2
theorem run_caps (ok : Valid p) (ch : Ch) : (runN p ch p.length).caps = (List.range (nv p)).map (capOf p ch) := by
  have G := good_run ok ch p.length (Nat.le_refl _)
  apply List.ext_getElem?
  intro k
  rw [List.getElem?_map]
  by_cases h : k < nv p
  · rw [List.getElem?_range h]
    have := G.caps k h
    unfold RS.cap at this
    rw [List.getD_eq_getElem?_getD] at this
    have l : k < (runN p ch p.length).caps.length := by
      rw [G.cl]
      exact h
    rw [List.getElem?_eq_getElem l] at this ⊢
    show some _ = some (capOf p ch k)
    rw [← this]
    rfl
  · rw [List.getElem?_eq_none (by rw [G.cl]; unfold nv rows at h; omega), List.getElem?_eq_none (by rw [List.length_range]; omega)]
    rfl

/-! ### demands -/
abbrev Dem := Nat × Nat
/-- a read and one of its candidates -/
def DemOk (p : Prog) (d : Dem) : Prop := ∃ q w, (reads p)[d.1]? = some q ∧ Cand p q.1 q.2.1 (vstart p q.2.1 + q.2.2) d.2 w
structure GoalFor (p : Prog) (d : Dem) (g : Goal) : Prop where
  ex : ∃ q w, (reads p)[d.1]? = some q ∧ Cand p q.1 q.2.1 (vstart p q.2.1 + q.2.2) d.2 w ∧ meet (vpar p) w q.2.1 = some g.a ∧ (∀ s, s ∈ g.ls ↔ ∃ u, LinkV p w q.2.1 g.a d.2 u ∧ vst p u = s) ∧
    (∀ u, LinkV p w q.2.1 g.a d.2 u → vend p u ≤ g.e) ∧ (g.ls ≠ [] → ∃ u, LinkV p w q.2.1 g.a d.2 u ∧ vend p u = g.e)
theorem GoalFor.ok {d : Dem} {g : Goal} (ok : Valid p) (h : GoalFor p d g) : ∃ L, GoalOk (sysOf p ok) g L ∧ ∃ q w, (reads p)[d.1]? = some q ∧ Cand p q.1 q.2.1 (vstart p q.2.1 + q.2.2) d.2 w ∧ meet (vpar p) w q.2.1 = some g.a ∧ L = LinkV p w q.2.1 g.a d.2 := by
  obtain ⟨q, w, h1, h2, h3, h4, h5, h6⟩ := h.ex
  have pl : ∀ i j, vpar p i = some j → j < i := fun _ _ h => vplt ok h
  obtain ⟨r1, r2, r3⟩ := reads_ok ok p.length d.1 q (Nat.le_refl _) h1
  have hv : q.2.1 < nv p := seen_lt (by omega) r2
  obtain ⟨lo, hi, ew, l1, l2⟩ := h2.at_
  obtain ⟨w1, w2, w3⟩ := wr_view ok ew
  obtain ⟨a, ea, m1, m2, m3⟩ := meet_some pl h2.root
  rw [h3] at ea
  cases ea
  have below : ∀ u, LinkV p w q.2.1 g.a d.2 u → u < nv p ∧ g.a ∈ vanc p u := fun u hu => by
    rcases hu.2.2 with z | z
    · have := mem_anc_le z
      exact ⟨by omega, anc_linear pl (w + 1) w (by omega) m1 z (by have := hu.2.1; omega)⟩
    · have := mem_anc_le z.1
      exact ⟨by omega, anc_linear pl (q.2.1 + 1) q.2.1 (by omega) m2 z.1 (by have := hu.2.1; omega)⟩
  refine ⟨LinkV p w q.2.1 g.a d.2, ⟨?_, ⟨fun u hu => (below u hu).1, fun u hu => hu.1, fun u hu => (below u hu).2, fun u hu => hu.2.1, fun u x k hu hx hl hk => ?_⟩, h4, h5, h6⟩, q, w, h1, h2, h3, rfl⟩
  · have := mem_anc_le m1
    show g.a < nv p
    omega
  · refine ⟨⟨k, hk⟩, hl, ?_⟩
    rcases hu.2.2 with z | z
    · exact .inl (anc_trans pl (w + 1) w (by omega) hx z)
    · refine .inr ⟨anc_trans pl (q.2.1 + 1) q.2.1 (by omega) hx z.1, ?_⟩
      have hxu := mem_anc_le hx
      by_cases e : x = u
      · rw [e]
        exact z.2
      · have := vstm (p := p) (i := x) (j := u) (by omega) (below u hu).1
        omega
/-- each demand has its origin -/
def Met (p : Prog) (cp : Nat → Bool) (D : List Dem) : Prop := ∀ d, d ∈ D → (originsL p cp)[d.1]? = some d.2
theorem origins_at {cp : Nat → Bool} {k : Nat} {q : Nat × Nat × Nat} (h : (reads p)[k]? = some q) : (originsL p cp)[k]? = some (orig p cp q) := by
  unfold originsL
  rw [List.getElem?_map, h]
  rfl
/-- goals of demands, one for each -/
inductive GoalsFor (p : Prog) : List Dem → List Goal → Prop where
  | nil : GoalsFor p [] []
  | cons {d : Dem} {g : Goal} {D : List Dem} {gs : List Goal} : GoalFor p d g → GoalsFor p D gs → GoalsFor p (d :: D) (g :: gs)
theorem GoalsFor.goal {D : List Dem} {gs : List Goal} (h : GoalsFor p D gs) : ∀ g, g ∈ gs → ∃ d, d ∈ D ∧ GoalFor p d g := by
  induction h with
  | nil =>
    intro g hg
    cases hg
  | cons h1 _ ih =>
    intro g hg
    rcases List.mem_cons.mp hg with q | q
    · rw [q]
      exact ⟨_, List.mem_cons_self, h1⟩
    · obtain ⟨d, hd, e⟩ := ih g q
      exact ⟨d, List.mem_cons_of_mem _ hd, e⟩
theorem GoalsFor.dem {D : List Dem} {gs : List Goal} (h : GoalsFor p D gs) : ∀ d, d ∈ D → ∃ g, g ∈ gs ∧ GoalFor p d g := by
  induction h with
  | nil =>
    intro g hg
    cases hg
  | cons h1 _ ih =>
    intro d hd
    rcases List.mem_cons.mp hd with q | q
    · rw [q]
      exact ⟨_, List.mem_cons_self, h1⟩
    · obtain ⟨g, hg, e⟩ := ih d q
      exact ⟨g, List.mem_cons_of_mem _ hg, e⟩
theorem GoalsFor.ok {D : List Dem} {gs : List Goal} (ok : Valid p) (h : GoalsFor p D gs) : GoalsOk (sysOf p ok) gs := fun g hg => by
  obtain ⟨d, _, hd⟩ := h.goal g hg
  obtain ⟨L, hL, _⟩ := hd.ok ok
  exact ⟨L, hL⟩
abbrev Ge (ch : Ch) : Prop := ∀ s n, leO (some n) (ch s n)
/-- what meets the demands links the goals -/
theorem met_linked (ok : Valid p) {ch : Ch} (ge : Ge ch) {D : List Dem} {gs : List Goal} (h : GoalsFor p D gs) (m : Met p (cpOf p ch) D) : Lk (runOf p ok ch ge) gs := fun g hg => by
  obtain ⟨d, hd, hf⟩ := h.goal g hg
  obtain ⟨L, hL, q, w, h1, h2, h3, rfl⟩ := hf.ok ok
  rw [hL.linked]
  have O := org_of ok ch h1
  have e := m d hd
  rw [origins_at h1] at e
  have e' := Option.some.inj e
  rw [e'] at O
  obtain ⟨w', k1, k2⟩ := O.there
  obtain ⟨_, _, ew, _⟩ := h2.at_
  obtain ⟨_, _, ew', _⟩ := k1.at_
  rw [ew] at ew'
  cases ew'
  intro u hu
  exact k2 g.a h3 u hu.2.2 hu.2.1
/-- linked goals, no more capacity than a policy that meets the demands: they are met -/
theorem linked_met (ok : Valid p) {ch ch' : Ch} (ge : Ge ch) (ge' : Ge ch') {D : List Dem} {gs : List Goal} (h : GoalsFor p D gs) (lk : Lk (runOf p ok ch ge) gs) (m : Met p (cpOf p ch') D)
    (le : ∀ i, i < nv p → leO (capOf p ch i) (capOf p ch' i)) : Met p (cpOf p ch) D := fun d hd => by
  obtain ⟨g, hg, hf⟩ := h.dem d hd
  obtain ⟨L, hL, q, w, h1, h2, h3, rfl⟩ := hf.ok ok
  have hlk := hL.linked.mp (lk g hg)
  have cpm : ∀ i, i < nv p → cpOf p ch' i = true → cpOf p ch i = true := fun i hi hc => cp_of_caps (S := sysOf p ok) (R := runOf p ok ch ge) (P := runOf p ok ch' ge') le hi hc
  obtain ⟨r1, r2, r3⟩ := reads_ok ok p.length d.1 q (Nat.le_refl _) h1
  have hv : q.2.1 < nv p := seen_lt (by omega) r2
  rw [origins_at h1]
  congr 1
  have O' := org_of ok ch' h1
  have e := m d hd
  rw [origins_at h1] at e
  rw [Option.some.inj e] at O'
  apply orig_org
  refine ⟨⟨w, h2, fun a ha u hu hl => ?_⟩, fun c' w' k1 k2 => O'.top c' w' k1 fun a ha u hu hl => ?_⟩
  · rw [h3] at ha
    cases ha
    cases q' : cpOf p ch u with
    | false => rfl
    | true =>
      obtain ⟨lo, hi, ew, _⟩ := h2.at_
      obtain ⟨w1, _, _⟩ := wr_view ok ew
      have hum : u < nv p := by
        rcases hu with z | z
        · have := mem_anc_le z
          omega
        · have := mem_anc_le z.1
          omega
      obtain ⟨k, hk⟩ := (runOf p ok ch ge).cp_app hum q'
      have := hlk u ⟨⟨k, hk⟩, hl, hu⟩
      have q'' : (runOf p ok ch ge).cp u = true := q'
      rw [this] at q''
      cases q''
  · cases q' : cpOf p ch' u with
    | false => rfl
    | true =>
      obtain ⟨lo, hi, ew, _⟩ := k1.at_
      obtain ⟨w1, _, _⟩ := wr_view ok ew
      have hum : u < nv p := by
        rcases hu with z | z
        · have := mem_anc_le z
          omega
        · have := mem_anc_le z.1
          omega
      have := cpm u hum q'
      rw [k2 a ha u hu hl] at this
      cases this

/-! ### the least policy -/
def tch (T : Tab) : Ch := fun s n => some (tabCap T s n)
def infc : Ch := fun _ _ => none
theorem tch_ge (T : Tab) : Ge (tch T) := fun s n => leO_some.mpr (tabCap_ge T s n)
theorem infc_ge : Ge infc := fun _ _ => leO.none _
def tabs (p : Prog) (ok : Valid p) : Tabs (sysOf p ok) := ⟨fun T => runOf p ok (tch T) (tch_ge T), fun _ _ _ => rfl, runOf p ok infc infc_ge, fun _ _ => rfl⟩
/-- the statements that copy, as a list -/
def copying (p : Prog) (ch : Ch) : List Nat := ((List.range (nv p)).filter (cpOf p ch)).map (vst p)
theorem copying_eq (ok : Valid p) (ch : Ch) (ge : Ge ch) : copying p ch = copied (sysOf p ok) (runOf p ok ch ge).cp := rfl
def nextRaise (p : Prog) (ok : Valid p) (T : Tab) (gs : List Goal) : Option (Nat × Nat × Nat) := nextR (sysOf p ok) (copying p (tch T)) gs 0
structure Linked (p : Prog) (ok : Valid p) (D : List Dem) (T : Tab) : Prop where
  ex : ∃ gs, GoalsFor p D gs ∧ Lk (runOf p ok infc infc_ge) gs ∧ Reach (tabs p ok) gs T ∧ nextRaise p ok T gs = none
def trimT (p : Prog) (T : Tab) : Tab := T.filter fun e => (List.range (nv p)).any fun h => cpOf p (tch T) h && decide (vst p h = e.1) && decide (vlen p h < e.2)
theorem Linked.srt {ok : Valid p} {D : List Dem} {T : Tab} (h : Linked p ok D T) : Srt T := by
  obtain ⟨gs, _, _, h3, _⟩ := h.ex
  exact h3.srt
theorem Linked.lk {ok : Valid p} {D : List Dem} {T : Tab} (h : Linked p ok D T) : ∃ gs, GoalsFor p D gs ∧ Lk (runOf p ok (tch T) (tch_ge T)) gs ∧ Reach (tabs p ok) gs T := by
  obtain ⟨gs, h1, h2, h3, h4⟩ := h.ex
  exact ⟨gs, h1, end_linked h3 (h1.ok ok) h2 h4, h3⟩
/-- it has no more than any policy that meets the demands -/
theorem Linked.least {ok : Valid p} {D : List Dem} {T : Tab} (h : Linked p ok D T) {ch : Ch} (ge : Ge ch) (m : Met p (cpOf p ch) D) : ∀ i, i < nv p → leO (capOf p (tch T) i) (capOf p ch i) := fun i hi => by
  obtain ⟨gs, h1, h2, h3⟩ := h.lk
  have D : Dom ((tabs p ok).run T) (runOf p ok ch ge) := (h3.inv (h1.ok ok) (met_linked ok ge h1 m)).dom
  exact D.cap hi
theorem Linked.met {ok : Valid p} {D : List Dem} {T : Tab} (h : Linked p ok D T) {ch : Ch} (ge : Ge ch) (m : Met p (cpOf p ch) D) : Met p (cpOf p (tch T)) D := by
  obtain ⟨gs, h1, h2, h3⟩ := h.lk
  exact linked_met ok (tch_ge T) ge h1 h2 m (h.least ge m)
theorem trim_cap {ok : Valid p} {T : Tab} {i : Nat} (hi : i < nv p) : capOf p (tch T) i = capOf p (tch (trimT p T)) i ∧ cpOf p (tch T) i = cpOf p (tch (trimT p T)) i := trim_run (S := sysOf p ok) (R := tabs p ok) hi
theorem origins_congr {cp cp' : Nat → Bool} (ok : Valid p) (h : ∀ i, i < nv p → cp i = cp' i) : originsL p cp = originsL p cp' := by
  unfold originsL
  apply List.map_congr_left
  intro q hq
  obtain ⟨k, hk⟩ := List.getElem?_of_mem hq
  obtain ⟨r1, r2, r3⟩ := reads_ok ok p.length k q (Nat.le_refl _) hk
  have hv : q.2.1 < nv p := seen_lt (by omega) r2
  unfold orig
  congr 3
  apply List.filter_congr
  intro e he
  obtain ⟨c, w⟩ := e
  obtain ⟨_, _, ew, _⟩ := (candL_mem.mp he).at_
  obtain ⟨w1, _, _⟩ := wr_view ok ew
  have : ∀ u, (u ∈ vanc p w ∨ u ∈ vanc p q.2.1) → cp u = cp' u := fun u hu => by
    rcases hu with z | z
    · have := mem_anc_le z
      exact h u (by omega)
    · have := mem_anc_le z
      exact h u (by omega)
  have e1 : visB p cp w q.2.1 c = true ↔ visB p cp' w q.2.1 c = true := by
    rw [visB_iff, visB_iff]
    constructor
    · intro v a ha u hu hl
      rw [← this u (hu.elim .inl fun z => .inr z.1)]
      exact v a ha u hu hl
    · intro v a ha u hu hl
      rw [this u (hu.elim .inl fun z => .inr z.1)]
      exact v a ha u hu hl
  show visB p cp w q.2.1 c = visB p cp' w q.2.1 c
  cases a : visB p cp w q.2.1 c with
  | true => exact (e1.mp a).symm
  | false =>
    cases b : visB p cp' w q.2.1 c with
    | false => rfl
    | true =>
      rw [e1.mpr b] at a
      cases a
/-- what least_policy answers: a table, or nothing -/
def IsLeast (p : Prog) (ok : Valid p) (D : List Dem) : Option Tab → Prop
  | some U => ∃ T, Linked p ok D T ∧ Met p (cpOf p (tch T)) D ∧ U = trimT p T
  | none => ∀ ch, Ge ch → ¬ Met p (cpOf p ch) D
section
variable {ok : Valid p} {D : List Dem} {U : Tab}
theorem IsLeast.meets (h : IsLeast p ok D (some U)) : Met p (cpOf p (tch U)) D := by
  obtain ⟨T, h1, h2, rfl⟩ := h
  have := origins_congr ok (cp := cpOf p (tch T)) (cp' := cpOf p (tch (trimT p T))) fun i hi => (trim_cap (ok := ok) hi).2
  unfold Met at h2 ⊢
  rw [← this]
  exact h2
theorem IsLeast.le (h : IsLeast p ok D (some U)) {ch : Ch} (ge : Ge ch) (m : Met p (cpOf p ch) D) : ∀ i, i < nv p → leO (capOf p (tch U) i) (capOf p ch i) := fun i hi => by
  obtain ⟨T, h1, h2, rfl⟩ := h
  rw [← (trim_cap (ok := ok) hi).1]
  exact h1.least ge m i hi
theorem IsLeast.eq {D' : List Dem} {U' : Tab} (h : IsLeast p ok D (some U)) (h' : IsLeast p ok D' (some U')) (e : ∀ i, i < nv p → capOf p (tch U) i = capOf p (tch U') i) : U = U' := by
  obtain ⟨T, h1, h2, rfl⟩ := h
  obtain ⟨T', h1', h2', rfl⟩ := h'
  refine trim_eq (R := tabs p ok) h1.srt h1'.srt fun i hi => ?_
  have a := (trim_cap (ok := ok) (T := T) hi).1
  have b := (trim_cap (ok := ok) (T := T') hi).1
  show capOf p (tch T) i = capOf p (tch T') i
  rw [a, b]
  exact e i hi
/-- all origins of a run, in order -/
def allDem (p : Prog) (cp : Nat → Bool) : List Dem := (originsL p cp).zipIdx.map fun e => (e.2, e.1)
theorem mem_allDem {cp : Nat → Bool} {d : Dem} : d ∈ allDem p cp ↔ (originsL p cp)[d.1]? = some d.2 := by
  unfold allDem
  rw [List.mem_map]
  constructor
  · rintro ⟨⟨a, b⟩, h, e⟩
    have := List.mem_zipIdx_iff_getElem?.mp h
    rw [← e]
    exact this
  · intro h
    exact ⟨(d.2, d.1), List.mem_zipIdx_iff_getElem?.mpr h, rfl⟩
theorem allDem_met (cp : Nat → Bool) : Met p cp (allDem p cp) := fun d hd => mem_allDem.mp hd
/-- asked anew for all origins of its run it is the same -/
theorem IsLeast.again (h : IsLeast p ok D (some U)) : ¬ IsLeast p ok (allDem p (cpOf p (tch U))) none ∧ ∀ U', IsLeast p ok (allDem p (cpOf p (tch U))) (some U') → U' = U := by
  refine ⟨fun z => z (tch U) (tch_ge U) (allDem_met _), fun U' h' => ?_⟩
  have m' := h'.meets
  have mD : Met p (cpOf p (tch U')) D := fun d hd => m' d (mem_allDem.mpr (h.meets d hd))
  refine h'.eq h fun i hi => ?_
  exact leO.anti (h'.le (tch_ge U) (allDem_met _) i hi) (h.le (tch_ge U') mD i hi)
/-- nothing is raised where the empty table meets all -/
theorem Linked.nil {T : Tab} (h : Linked p ok D T) (m : Met p (cpOf p (tch [])) D) : T = [] := by
  obtain ⟨gs, h1, h2, h3, h4⟩ := h.ex
  refine h3.only_nil ?_
  have lk := met_linked ok (tch_ge []) h1 m
  have : ∀ (l : List Goal) (i : Nat), (∀ g, g ∈ l → hit (copied (sysOf p ok) ((tabs p ok).run []).cp) g = false) → nextR (sysOf p ok) (copied (sysOf p ok) ((tabs p ok).run []).cp) l i = none := by
    intro l
    induction l with
    | nil =>
      intro i _
      rfl
    | cons g l ih =>
      intro i hl
      unfold nextR raiseA
      rw [if_neg (by rw [hl g List.mem_cons_self]; exact Bool.false_ne_true)]
      exact ih (i + 1) fun g' hg' => hl g' (List.mem_cons_of_mem _ hg')
  exact this gs 0 lk
theorem IsLeast.nil (h : IsLeast p ok D (some U)) (m : Met p (cpOf p (tch [])) D) : U = [] := by
  obtain ⟨T, h1, h2, rfl⟩ := h
  rw [h1.nil m]
  rfl
end
end GB
/-! How programs, views, tables, rules, demands stand as data. -/
namespace GB
open PySem PySem.Spec PyProof.Rows L2
open Evl (Ex)
abbrev nI (n : Nat) : PyData := .int (n : Int)
def dO : Option Nat → PyData
  | none => .none
  | some n => nI n
def dPair (e : Nat × Nat) : PyData := .tuple [nI e.1, nI e.2]
def dTab (T : Tab) : PyData := .tuple (T.map dPair)
def wordS : Stm → Str
  | .make _ _ => "make"
  | .slice _ _ _ => "slice"
  | .clip _ => "clip"
  | .app g _ _ => if g then "grow" else "append"
  | .write _ _ _ => "write"
  | .move _ _ _ _ => "move"
  | .read _ _ => "read"
def restS : Stm → List PyData
  | .make l c => [nI l, nI c]
  | .slice v lo hi => [nI v, nI lo, nI hi]
  | .clip v => [nI v]
  | .app _ v xs => [nI v, .tuple (xs.map PyData.int)]
  | .write v i x => [nI v, nI i, .int x]
  | .move v i w q => [nI v, nI i, nI w, nI q]
  | .read v i => [nI v, nI i]
def dStm (s : Stm) : PyData := .tuple (.str (wordS s) :: restS s)
def dProg (p : Prog) : PyData := .tuple (p.map dStm)
def dRow (r : Row) : PyData := .tuple [nI r.st, dO r.par, nI r.start, nI r.len]
def dRows (R : List Row) : PyData := .list (R.map dRow)
def dSpan (r : Row) : PyData := .tuple [nI r.start, nI r.len]
def dAlt (a : Alt) : PyData := .tuple [dO a.1, nI a.2.1, .bool a.2.2]
def dRead (q : Nat × Nat × Nat) : PyData := .tuple [nI q.1, nI q.2.1, nI q.2.2]
def dNats (ns : List Nat) : PyData := .list (ns.map nI)
def dGoal (g : Goal) : PyData := .tuple [nI g.a, dNats g.ls, nI g.e]
def dDem (d : Dem) : PyData := dPair d
def dDems (D : List Dem) : PyData := .list (D.map dPair)
inductive Rule where
  | exact
  | endless
  | step (k : Nat)
  | factor (a b : Nat)
  | table (T : Tab)
def dRule : Rule → PyData
  | .exact => .tuple [.str "exact"]
  | .endless => .tuple [.str "endless"]
  | .step k => .tuple [.str "step", nI k]
  | .factor a b => .tuple [.str "factor", nI a, nI b]
  | .table T => .tuple [.str "table", dTab T]
def chOf : Rule → Ch
  | .exact => fun _ n => some n
  | .endless => fun _ _ => none
  | .step k => fun _ n => some (n + k)
  | .factor a b => fun _ n => some ((n * a + b - 1) / b)
  | .table T => tch T
def RuleOk : Rule → Prop
  | .factor a b => 1 ≤ b ∧ b ≤ a ∧ a ≤ 1000
  | .table T => T.length ≤ 1000
  | _ => True
theorem chOf_ge {r : Rule} (h : RuleOk r) : Ge (chOf r) := by
  cases r with
  | exact => exact fun s n => leO_some.mpr (Nat.le_refl n)
  | endless => exact fun s n => leO.none _
  | step k => exact fun s n => leO_some.mpr (Nat.le_add_right n k)
  | factor a b =>
    intro s n
    obtain ⟨h1, h2, _⟩ := h
    refine leO_some.mpr ?_
    have h3 : n * b ≤ n * a := Nat.mul_le_mul_left n h2
    exact (Nat.le_div_iff_mul_le (by omega)).mpr (by omega)
  | table T => exact tch_ge T
theorem chOf_exact : chOf .exact = tch [] := rfl
/-- statements are small -/
def smS : Stm → Prop
  | .make l _ => l ≤ 10
  | .app _ _ xs => xs.length ≤ 10
  | _ => True
structure PgOk (p : Prog) : Prop where
  ok : Valid p
  len : p.length ≤ 40
  sm : ∀ (n : Nat) (s : Stm), p[n]? = some s → smS s
theorem getD_mem_or {R : List Row} {v : Nat} : R.getD v row0 ∈ R ∨ R.getD v row0 = row0 := by
  rw [List.getD_eq_getElem?_getD]
  cases e : R[v]? with
  | none => exact .inr rfl
  | some r => exact .inl (List.mem_of_getElem? e)
theorem rows_small {p : Prog} (ok : Valid p) (sm : ∀ (n : Nat) (s : Stm), p[n]? = some s → smS s) : ∀ n r, r ∈ rowsN p n → r.start + r.len ≤ 10 * n
  | 0, r, h => by simp [rowsN] at h
  | n + 1, r, h => by
    cases e : p[n]? with
    | none =>
      rw [rowsN_out e] at h
      have := rows_small ok sm n r h
      omega
    | some s =>
      rw [rowsN_succ e] at h
      rcases List.mem_append.mp h with h | h
      · have := rows_small ok sm n r h
        omega
      · have hs := sm n s e
        have ho := ok n s e
        have ih : ∀ v, ((rowsN p n).getD v row0).start + ((rowsN p n).getD v row0).len ≤ 10 * n := fun v => by
          rcases getD_mem_or (R := rowsN p n) (v := v) with z | z
          · exact rows_small ok sm n _ z
          · rw [z]
            show 0 + 0 ≤ _
            omega
        cases s with
        | make l c =>
          simp [rowOf] at h
          subst h
          have : l ≤ 10 := hs
          simp only
          omega
        | slice v lo hi =>
          simp [rowOf] at h
          subst h
          have := ih v
          have h1 : v < (rowsN p n).length ∧ lo ≤ hi ∧ hi ≤ ((rowsN p n).getD v row0).len := ho
          simp only [List.getD_eq_getElem?_getD] at *
          omega
        | clip v =>
          simp [rowOf] at h
          subst h
          have := ih v
          simp only [List.getD_eq_getElem?_getD] at *
          omega
        | app g v xs =>
          simp [rowOf] at h
          subst h
          have := ih v
          have h1 : xs.length ≤ 10 := hs
          simp only [List.getD_eq_getElem?_getD] at *
          omega
        | write v i x => simp [rowOf] at h
        | move v i w q => simp [rowOf] at h
        | read v i => simp [rowOf] at h
theorem PgOk.vend {p : Prog} (h : PgOk p) (v : Nat) : vstart p v + vlen p v ≤ 400 := by
  unfold vstart vlen
  rcases getD_mem_or (R := rows p) (v := v) with z | z
  · have := rows_small h.ok h.sm p.length _ z
    have := h.len
    omega
  · rw [z]
    show 0 + 0 ≤ 400
    omega
/-! ### places of data in lists -/
theorem atI_map {α : Type} {f : α → PyData} {l : List α} {i : Nat} {a : α} (h : l[i]? = some a) : atI (l.map f) (i : Int) = some (f a) := by
  have hl : i < l.length := (List.getElem?_eq_some_iff.mp h).1
  have e : (l.map f)[i]? = some (f a) := by rw [List.getElem?_map, h] <;> rfl
  exact atI_nat e
theorem getD_map {α : Type} {f : α → PyData} {l : List α} {i : Nat} {a : α} (h : l[i]? = some a) : (l.map f).getD i .none = f a := getD_data (by rw [List.getElem?_map, h] <;> rfl)
theorem atI_lastM {α : Type} {f : α → PyData} {l : List α} {a : α} (h : l.getLast? = some a) : atI (l.map f) (-1) = some (f a) := by
  obtain ⟨ys, e⟩ := List.getLast?_eq_some_iff.mp h
  subst e
  rw [List.map_append]
  exact atI_last _ _
theorem Da.pgt {K : PySem.W.Frag} {B : Hp} {v : V} {p : Prog} (h : Da K B v (dProg p)) : Da K B v (.tuple (p.map dStm)) := h
end GB
/-! Walks over the own iterators, in worlds; more rules. -/
namespace GB
open PySem PySem.Spec PyProof.Rows L2
open Evl (Ex)
theorem numb_at {xs : List V} {i : Nat} : (numb xs)[i]? = xs[i]?.map fun x => (.int (i : Nat), x) := by
  unfold numb
  rw [List.getElem?_map, List.getElem?_zipIdx]
  cases xs[i]? <;> simp
theorem numb_len {xs : List V} : (numb xs).length = xs.length := by
  unfold numb
  rw [List.length_map, List.length_zipIdx]
theorem walk_P {S : Hp → List (V × V) → Prop} {zs : List (V × V)} : Walk (itP S) zs.length (fun H => S H zs) (fun i H v H' => ∃ T z, v = .ref T ∧ H T = none ∧ zs[i]? = some z ∧ H' = upd H T (.tup [z.1, z.2])) :=
  ⟨fun i H hi q => ⟨zs, q, hi⟩, fun H q => ⟨zs, q, Nat.le_refl _⟩, fun i H v H' hi q ⟨T, h1, h2, h3⟩ => by
    obtain ⟨z, e1, e2⟩ := h3 zs q
    exact ⟨T, z, h1, h2, e1, e2⟩⟩
section
variable {K : PySem.W.Frag} {c : Ent} {dr dr1 dr2 dr' : Dr} {ls : Ls} {σ : L2.St} {B B' H H' : Hp} {ta tb te tx : TE} {tt tu : TT} {Φ Ψ : V → Hp → Prop} {d d1 d2 : PyData} {ds es : List PyData}
/-- any walk of new pairs of data -/
theorem yd_P {zs : List (V × V)} {f g : Nat → PyData} {B : Hp} (h : ∀ i z, zs[i]? = some z → Da K B z.1 (f i) ∧ Da K B z.2 (g i)) (i : Nat) (H : Hp) (v : V) (H' : Hp) (y : ∃ T z, v = .ref T ∧ H T = none ∧ zs[i]? = some z ∧ H' = upd H T (.tup [z.1, z.2])) :
    Yd K c B (fun i => .tuple [f i, g i]) i H v H' := by
  obtain ⟨T, z, rfl, hT, hz, rfl⟩ := y
  obtain ⟨h1, h2⟩ := h i z hz
  intro B3 e3 i3
  exact yd_pair e3 i3 hT (h1.mono e3) (h2.mono e3)
theorem i_enumT {t : TA} (h : EaD K c dr ls t σ B [.tuple ds]) : EiB K c dr ls (iEnumT K t) σ B ds.length fun i => .tuple [.int (i : Nat), ds.getD i .none] := fun B1 H1 e1 w R q => h B1 H1 e1 w _ fun vs B2 H2 e2 w2 f => by
  obtain ⟨v, r, rfl, fv, fr⟩ := f.cons_inv
  rw [fr.nil_eq]
  obtain ⟨a, xs, rfl, hx, hd⟩ := fv.tup_inv
  refine ⟨a, xs, rfl, Evl.ex_t w2.inn hx, q _ B2 H2 e2 w2 ?_⟩
  have wl := walk_P (S := enumT K a) (zs := numb xs)
  rw [numb_len, hd.len] at wl
  refine wl.mono (fun H' e => ⟨xs, Evl.ex_t e hx, rfl⟩) fun i H' x H'' hi e y => yd_P (f := fun i => .int (i : Nat)) (g := fun i => ds.getD i .none) (fun i z hz => ?_) i H' x H'' y
  rw [numb_at] at hz
  cases hxi : xs[i]? with
  | none =>
    rw [hxi] at hz
    cases hz
  | some u =>
    rw [hxi] at hz
    cases hz
    obtain ⟨d, hdi, fx⟩ := hd.get' hxi
    exact ⟨.int _, by rw [getD_data hdi]; exact fx⟩
theorem i_enumEL {t : TA} (h : EaD K c dr ls t σ B [.list ds]) : EiB K c dr ls (iEnumE K t) σ B ds.length fun i => .tuple [.int (i : Nat), ds.getD i .none] := fun B1 H1 e1 w R q => h B1 H1 e1 w _ fun vs B2 H2 e2 w2 f => by
  have wf := i_enum (K := K) (c := c) (dr := dr) (ls := ls) (ta := fun σ H Q => Q vs H) (σ := σ) (B := B2) (ds := ds) (fun B3 H3 e3 w3 Q q => q vs B3 H3 (Ex.refl _) w3 (f.mono e3)) B2 H2 (Ex.refl _) w2 R fun J B3 H3 e3 w3 wk => q J B3 H3 (e2.trans e3) w3 wk
  obtain ⟨a, xs, rfl, hx, hq⟩ := wf
  exact ⟨a, rfl, .inl ⟨xs, hx, hq⟩⟩
theorem i_enumET {t : TA} (h : EaD K c dr ls t σ B [.tuple ds]) : EiB K c dr ls (iEnumE K t) σ B ds.length fun i => .tuple [.int (i : Nat), ds.getD i .none] := fun B1 H1 e1 w R q => h B1 H1 e1 w _ fun vs B2 H2 e2 w2 f => by
  have wf := i_enumT (K := K) (c := c) (dr := dr) (ls := ls) (t := fun σ H Q => Q vs H) (σ := σ) (B := B2) (ds := ds) (fun B3 H3 e3 w3 Q q => q vs B3 H3 (Ex.refl _) w3 (f.mono e3)) B2 H2 (Ex.refl _) w2 R fun J B3 H3 e3 w3 wk => q J B3 H3 (e2.trans e3) w3 wk
  obtain ⟨a, xs, rfl, hx, hq⟩ := wf
  exact ⟨a, rfl, .inr ⟨xs, hx, hq⟩⟩
theorem zip_at {α β : Type} {xs : List α} {ys : List β} {i : Nat} {z : α × β} (h : (xs.zip ys)[i]? = some z) : xs[i]? = some z.1 ∧ ys[i]? = some z.2 := by
  rw [List.getElem?_zip_eq_some] at h
  exact h
theorem i_zipS {t : TA} (h : EaD K c dr ls t σ B [.list ds, .list es]) (hl : ds.length = es.length) : EiB K c dr ls (iZipS K t) σ B ds.length fun i => .tuple [ds.getD i .none, es.getD i .none] := fun B1 H1 e1 w R q => h B1 H1 e1 w _ fun vs B2 H2 e2 w2 f => by
  obtain ⟨v, r, rfl, fv, fr⟩ := f.cons_inv
  obtain ⟨v2, r2, rfl, fv2, fr2⟩ := fr.cons_inv
  rw [fr2.nil_eq]
  obtain ⟨a, xs, rfl, hx, hd⟩ := fv.lst_inv
  obtain ⟨b, ys, rfl, hy, hd2⟩ := fv2.lst_inv
  refine ⟨a, b, xs, ys, rfl, SqL.of (w2.inn _ _ hx), SqL.of (w2.inn _ _ hy), q _ B2 H2 e2 w2 ?_⟩
  have l1 := hd.len
  have l2 := hd2.len
  have wl := walk_P (S := zipped (fun H => SqL K H a) fun H => SqL K H b) (zs := xs.zip ys)
  rw [List.length_zip, l1, l2, ← hl, Nat.min_self] at wl
  refine wl.mono (fun H' e => ⟨xs, ys, SqL.of (e _ _ hx), SqL.of (e _ _ hy), by omega, rfl⟩) fun i H' x H'' hi e y => yd_P (f := fun i => ds.getD i .none) (g := fun i => es.getD i .none) (fun i z hz => ?_) i H' x H'' y
  obtain ⟨z1, z2⟩ := zip_at hz
  obtain ⟨d, hdi, fx⟩ := hd.get' z1
  obtain ⟨d2, hdi2, fx2⟩ := hd2.get' z2
  rw [getD_data hdi, getD_data hdi2]
  exact ⟨fx, fx2⟩
theorem i_zipM {t : TA} (h : EaD K c dr ls t σ B [.list ds, .tuple es]) (hl : ds.length = es.length) : EiB K c dr ls (iZipM K t) σ B ds.length fun i => .tuple [ds.getD i .none, es.getD i .none] := fun B1 H1 e1 w R q => h B1 H1 e1 w _ fun vs B2 H2 e2 w2 f => by
  obtain ⟨v, r, rfl, fv, fr⟩ := f.cons_inv
  obtain ⟨v2, r2, rfl, fv2, fr2⟩ := fr.cons_inv
  rw [fr2.nil_eq]
  obtain ⟨a, xs, rfl, hx, hd⟩ := fv.lst_inv
  obtain ⟨b, ys, rfl, hy, hd2⟩ := fv2.tup_inv
  refine ⟨a, b, xs, ys, rfl, SqL.of (w2.inn _ _ hx), Evl.ex_t w2.inn hy, q _ B2 H2 e2 w2 ?_⟩
  have l1 := hd.len
  have l2 := hd2.len
  have wl := walk_P (S := zipped (fun H => SqL K H a) fun H => SqT K H b) (zs := xs.zip ys)
  rw [List.length_zip, l1, l2, ← hl, Nat.min_self] at wl
  refine wl.mono (fun H' e => ⟨xs, ys, SqL.of (e _ _ hx), Evl.ex_t e hy, by omega, rfl⟩) fun i H' x H'' hi e y => yd_P (f := fun i => ds.getD i .none) (g := fun i => es.getD i .none) (fun i z hz => ?_) i H' x H'' y
  obtain ⟨z1, z2⟩ := zip_at hz
  obtain ⟨d, hdi, fx⟩ := hd.get' z1
  obtain ⟨d2, hdi2, fx2⟩ := hd2.get' z2
  rw [getD_data hdi, getD_data hdi2]
  exact ⟨fx, fx2⟩
/-- a program's statement at a turn -/
theorem turn_stm {p : Prog} {i : Nat} (h : i < (p.map dStm).length) : ∃ s, p[i]? = some s ∧ (p.map dStm).getD i .none = dStm s := by
  rw [List.length_map] at h
  exact ⟨p[i], List.getElem?_eq_getElem h, getD_map (List.getElem?_eq_getElem h)⟩
theorem turn_map {α : Type} {f : α → PyData} {l : List α} {i : Nat} (h : i < (l.map f).length) : ∃ s, l[i]? = some s ∧ (l.map f).getD i .none = f s := by
  rw [List.length_map] at h
  exact ⟨l[i], List.getElem?_eq_getElem h, getD_map (List.getElem?_eq_getElem h)⟩
end
end GB
/-! Calls that are handed a list that is being built. -/
namespace GB
open PySem PySem.Spec PyProof.Rows L2
open Evl (Ex)
/-- data, or the list that is being built at p -/
def DF (K : PySem.W.Frag) (p : Addr) (ds : List PyData) (B : Hp) (v : V) (d : PyData) : Prop := Da K B v d ∨ (v = .ref p ∧ d = .list ds)
inductive DFL (K : PySem.W.Frag) (p : Addr) (ds : List PyData) (B : Hp) : List V → List PyData → Prop where
  | nil : DFL K p ds B [] []
  | cons {v : V} {vs : List V} {d : PyData} {es : List PyData} : DF K p ds B v d → DFL K p ds B vs es → DFL K p ds B (v :: vs) (d :: es)
section
variable {K : PySem.W.Frag} {c : Ent} {dr dr1 dr2 dr' : Dr} {ls : Ls} {σ : L2.St} {B B' H H' : Hp} {ta tb te tx : TE} {tt tu : TT} {Φ Ψ : V → Hp → Prop} {d d1 d2 : PyData} {ds es : List PyData} {p : Addr}
theorem DF.mono {v : V} (h : DF K p ds B v d) (e : Ex B B') : DF K p ds B' v d := h.imp (fun z => z.mono e) id
theorem DFL.all {vs ws : List V} (h : DFL K p ds B vs es) (n : B p = none) (hd : DaL K B ws ds) : DaL K (upd B p (.lst ws)) vs es := by
  have e : Ex B (upd B p (.lst ws)) := Ex.new n
  induction h with
  | nil => exact .nil
  | cons h _ ih =>
    refine .cons ?_ ih
    rcases h with h | ⟨rfl, rfl⟩
    · exact h.mono e
    · exact .lst upd_same (hd.mono e)
abbrev EaF (K : PySem.W.Frag) (c : Ent) (dr : Dr) (ls : Ls) (p : Addr) (ds : List PyData) (t : TA) (σ : L2.St) (B : Hp) (es : List PyData) : Prop := EaB K c dr dr ((p, .l ds) :: ls) t σ B fun vs B' => DFL K p ds B' vs es
theorem f_nil : EaF K c dr ls p ds tNil σ B [] := fun B1 H1 e1 w Q q => q [] B1 H1 (Ex.refl _) w .nil
theorem f_cons {tr : TA} (h : EvD K c dr ((p, .l ds) :: ls) te σ B d) (hr : EaF K c dr ls p ds tr σ B es) : EaF K c dr ls p ds (tCons te tr) σ B (d :: es) := fun B1 H1 e1 w Q q =>
  h B1 H1 e1 w _ fun v B2 H2 e2 w2 f => hr B2 H2 (e1.trans e2) w2 _ fun vs B3 H3 e3 w3 g => q (v :: vs) B3 H3 (e2.trans e3) w3 (.cons (.inl (f.mono e3)) g)
theorem f_ref {tr : TA} {i : Nat} (hr : EaF K c dr ls p ds tr σ B es) (h : σ[i]? = some (some (.ref p)) := by rfl) : EaF K c dr ls p ds (tCons (tVar i) tr) σ B (.list ds :: es) := fun B1 H1 e1 w Q q =>
  ⟨.ref p, h, hr B1 H1 e1 w _ fun vs B3 H3 e3 w3 g => q (.ref p :: vs) B3 H3 e3 w3 (.cons (.inr ⟨rfl, rfl⟩) g)⟩
/-- the base without p -/
def out (p : Addr) (B : Hp) : Hp := fun a => if a = p then none else B a
theorem out_ne {a : Addr} (h : a ≠ p) : out p B a = B a := if_neg h
theorem out_same : out p B p = none := if_pos rfl
theorem ut_out {ws : List V} (h : B p = some (.lst ws)) : Ut B (out p B) := by
  refine ⟨fun a xs e => ?_, fun a o xs e => ?_⟩
  · rw [out_ne fun z => by rw [z, h] at e; cases e]
    exact e
  · rw [out_ne fun z => by rw [z, h] at e; cases e]
    exact e
/-- behind a call that was handed the list at p -/
theorem Wd.afterF {ws : List V} (w : Wd K c dr ((p, .l ds) :: ls) B H) (hH : H p = some (.lst ws)) (e1 : Ex (upd B p (.lst ws)) B') (e2 : Ex B' H') (e3 : Ex H H') (fr : ∀ a, B' a ≠ none → upd B p (.lst ws) a ≠ none ∨ H a = none) :
    Ex B (out p B') ∧ Ex (out p B') H' ∧ (∀ a, out p B' a ≠ none → B a ≠ none ∨ H a = none) ∧ Ut B' (out p B') ∧ B' p = some (.lst ws) := by
  have nB := w.own.1
  have hp : B' p = some (.lst ws) := e1 _ _ upd_same
  refine ⟨fun a u h => ?_, fun a u h => ?_, fun a h => ?_, ut_out hp, hp⟩
  · have ne : a ≠ p := fun z => by
      rw [z, nB] at h
      cases h
    rw [out_ne ne]
    exact e1 a u (by rw [upd_ne ne]; exact h)
  · by_cases z : a = p
    · rw [z, out_same] at h
      cases h
    · rw [out_ne z] at h
      exact e2 a u h
  · by_cases z : a = p
    · rw [z, out_same] at h
      exact absurd rfl h
    · rw [out_ne z] at h
      rcases fr a h with r | r
      · rw [upd_ne z] at r
        exact .inl r
      · exact .inr r
theorem c_DF {α : Type} {args : α → List PyData} {pre : α → Prop} {res : α → PyData} {t : TA} {a : α} (ha : EaF K c dr ls p ds t σ B (args a)) (hp : pre a) (hf : flatD (res a) = true) :
    EvD K c dr ((p, .l ds) :: ls) (tCall (SpD K args pre res) [] E0 t) σ B (res a) := fun B1 H1 e1 w Q q =>
  ha B1 H1 e1 w _ fun vs B2 H2 e2 w2 f => by
    obtain ⟨nB, ws, hH, hd⟩ := w2.own
    have i2 : Ex (upd B2 p (.lst ws)) H2 := fun b u h => by
      by_cases z : b = p
      · rw [z, upd_same] at h
        rw [z, ← h]
        exact hH
      · rw [upd_ne z] at h
        exact w2.inn b u h
    refine ⟨upd B2 p (.lst ws), a, i2, by rw [List.append_nil]; exact f.all nB hd, hp, fun v B3 H3 k1 k2 k3 fr fv => ?_⟩
    obtain ⟨g1, g2, g3, g4, _⟩ := w2.afterF hH k1 k2 k3 fr
    exact q v (out p B3) H3 (e2.trans g1) (w2.after g1 g2 k3 g3) (fv.ut g4 hf)
theorem c_NF {α : Type} {args : α → List PyData} {pre : α → Prop} {P : α → List PyData → Prop} {t : TA} {a : α} (ha : EaF K c dr ls p ds t σ B (args a)) (hp : pre a) (hf : ∀ es, P a es → flatA es = true) :
    EvN K c dr dr ((p, .l ds) :: ls) (tCall (SpN K args pre P) [] E0 t) σ B (P a) := fun B1 H1 e1 w Q q =>
  ha B1 H1 e1 w _ fun vs B2 H2 e2 w2 f => by
    obtain ⟨nB, ws, hH, hd⟩ := w2.own
    have i2 : Ex (upd B2 p (.lst ws)) H2 := fun b u h => by
      by_cases z : b = p
      · rw [z, upd_same] at h
        rw [z, ← h]
        exact hH
      · rw [upd_ne z] at h
        exact w2.inn b u h
    refine ⟨upd B2 p (.lst ws), a, i2, by rw [List.append_nil]; exact f.all nB hd, hp, fun r es B3 H3 k1 k2 k3 fr n1 n2 n3 hP => ?_⟩
    obtain ⟨g1, g2, g3, g4, _⟩ := w2.afterF hH k1 k2 k3 fr
    have ne : r ≠ p := fun z => by
      rw [z, hH] at n1
      cases n1
    obtain ⟨us, hu, hus⟩ := n3
    exact q r es (out p B3) H3 (e2.trans g1) (w2.fresh0 n1) (w2.afterN g1 g2 k3 g3 n1 (by rw [out_ne ne]; exact n2) (ct := .l es) ⟨us, hu, hus.ut g4 (hf es hP)⟩) hP
theorem e_ifT (h : Et K c dr ls tt σ B true) (h1 : EvB K c dr dr' ls ta σ B Φ) : EvB K c dr dr' ls (tIf tt ta tb) σ B Φ := e_if h (fun _ => h1) fun z => nomatch z
theorem e_ifF (h : Et K c dr ls tt σ B false) (h1 : EvB K c dr dr' ls tb σ B Φ) : EvB K c dr dr' ls (tIf tt ta tb) σ B Φ := e_if h (fun z => nomatch z) fun _ => h1
/-- return of a list that was built -/
theorem s_retP {nx : L2.St → Hp → Prop} {Q : VK} {i : Nat} {P : List PyData → Prop} (w : Wd K c dr ((p, .l ds) :: ls) B H) (h0 : c.H p = none) (hM : c.M = []) (q : RN K c.B c.H P Q) (f : P ds) (hi : σ[i]? = some (some (.ref p)) := by rfl) : tRet (tVar i) { nx := nx, rt := Q } σ H :=
  ⟨_, hi, w.backN hM h0 q f⟩
theorem s_retPD {nx : L2.St → Hp → Prop} {Q : VK} {i : Nat} {Φ : V → Hp → Prop} (w : Wd K c dr ((p, .l ds) :: ls) B H) (h0 : c.H p = none) (hM : c.M = []) (q : RB c.B c.H Φ Q) (f : ∀ v B', Da K B' v (.list ds) → Φ v B') (hi : σ[i]? = some (some (.ref p)) := by rfl) : tRet (tVar i) { nx := nx, rt := Q } σ H := by
  obtain ⟨B', _, w', fd⟩ := w.done h0
  exact ⟨_, hi, w'.back hM q (f _ _ fd)⟩
theorem g_name {i : Nat} {v : V} {σ : L2.St} {H : Hp} {Q : L2.St → Hp → Prop} (k : Q (σ.set i (some v)) H) : gName i v σ H Q := k
theorem flat_row (r : Row) : flatD (dRow r) = true := by
  obtain ⟨a, b, c, d⟩ := r
  cases b <;> rfl
theorem flat_span (r : Row) : flatD (dSpan r) = true := rfl
theorem flat_alt (a : Alt) : flatD (dAlt a) = true := by
  obtain ⟨a, b, c⟩ := a
  cases a <;> rfl
theorem flat_map {α : Type} {f : α → PyData} (h : ∀ a, flatD (f a) = true) (l : List α) : flatA (l.map f) = true := flatA_iff.mpr fun d hd => by
  obtain ⟨a, _, rfl⟩ := List.mem_map.mp hd
  exact h a
end
/-! ### comparing with the empty list -/
/-- data that can be compared -/
def plainL (ds : List PyData) : Prop := SeqAt.shaped (.list ds) = true
theorem shaped_flat {ds : List PyData} (h : ∀ d, d ∈ ds → d.canLay0 = true ∧ d.depth ≤ 60) : PyData.canLayAll0 ds = true ∧ PyData.depthAll ds ≤ 60 := by
  induction ds with
  | nil => exact ⟨rfl, Nat.zero_le _⟩
  | cons d ds ih =>
    obtain ⟨h1, h2⟩ := h d List.mem_cons_self
    obtain ⟨h3, h4⟩ := ih fun e he => h e (List.mem_cons_of_mem _ he)
    refine ⟨by rw [PyData.canLayAll0, h1, h3]; rfl, ?_⟩
    rw [PyData.depthAll]
    omega
theorem plainL_of {ds : List PyData} (h : ∀ d, d ∈ ds → d.canLay0 = true ∧ d.depth ≤ 60) : plainL ds := by
  obtain ⟨h1, h2⟩ := shaped_flat h
  have e : (PyData.list ds).canLay0 = true := h1
  have f : (PyData.list ds).depth ≤ 64 := by
    rw [PyData.depth]
    omega
  exact Bool.and_eq_true_iff.mpr ⟨e, decide_eq_true f⟩
theorem sc_int (i : Int) : (PyData.int i).canLay0 = true ∧ (PyData.int i).depth ≤ 60 := ⟨rfl, by rw [PyData.depth]; omega⟩
theorem plain_nats (ns : List Nat) : plainL (ns.map nI) := plainL_of fun d hd => by
  obtain ⟨n, _, rfl⟩ := List.mem_map.mp hd
  exact sc_int _
theorem plain_ints (ns : List Int) : plainL (ns.map PyData.int) := plainL_of fun d hd => by
  obtain ⟨n, _, rfl⟩ := List.mem_map.mp hd
  exact sc_int _
theorem eqv_nil (ds : List PyData) : PyData.eqv (.list ds) (.list []) = ds.isEmpty := by
  cases ds with
  | nil => simp [PyData.eqv, PyData.eqvAll]
  | cons d ds => simp [PyData.eqv, PyData.eqvAll]
section
variable {K : PySem.W.Frag} {c : Ent} {dr : Dr} {ls : Ls} {σ : L2.St} {B : Hp} {ta tb : TE} {ds : List PyData}
theorem e_neNil (ha : EvD K c dr ls ta σ B (.list ds)) (hp : plainL ds) : EvD K c dr ls (tOp (rNeD K) ta (tLst tNil)) σ B (.bool (!ds.isEmpty)) :=
  e_bool (e_neD ha (EvN.data (l_lst a_nil (Nat.zero_le _))) hp (plainL_of fun _ h => nomatch h)) (by rw [eqv_nil])
theorem e_eqNil (ha : EvD K c dr ls ta σ B (.list ds)) (hp : plainL ds) : EvD K c dr ls (tOp (rEqD K) ta (tLst tNil)) σ B (.bool ds.isEmpty) :=
  e_bool (e_eqD ha (EvN.data (l_lst a_nil (Nat.zero_le _))) hp (plainL_of fun _ h => nomatch h)) (by rw [eqv_nil])
end
theorem rowsN_le_len (p : Prog) : ∀ n, (rowsN p n).length ≤ n
  | 0 => Nat.le_refl 0
  | n + 1 => by
    have ih := rowsN_le_len p n
    cases h : p[n]? with
    | none =>
      rw [rowsN_out h]
      omega
    | some s =>
      rw [rowsN_succ h, List.length_append]
      cases rowOf (rowsN p n) n s <;> simp <;> omega
theorem anc_len {par : Nat → Option Nat} (pl : ∀ i j, par i = some j → j < i) : ∀ n i, i < n → (anc par i).length ≤ i + 1
  | 0, i, h => by omega
  | n + 1, i, h => by
    cases e : par i with
    | none =>
      rw [anc_none e]
      exact Nat.succ_le_succ (Nat.zero_le _)
    | some j =>
      have hj := pl i j e
      rw [anc_some e hj, List.length_append, List.length_singleton]
      have := anc_len pl n j (by omega)
      omega
theorem PgOk.nv {p : Prog} (h : PgOk p) : nv p ≤ 40 := Nat.le_trans (rowsN_le_len p p.length) h.len
theorem row_at {p : Prog} {i : Nat} (h : i < nv p) : (rows p)[i]? = some ((rows p).getD i row0) := get_of h
theorem given_filter {α : Type} (l : List α) (d : α) (f : α → Bool) (g : α → PyData) : given l.length (fun i => f (l.getD i d)) (fun i => g (l.getD i d)) = (l.filter f).map g := by
  have e : l = (List.range l.length).map fun i => l.getD i d := by
    refine List.ext_getElem (by simp) fun i h1 h2 => ?_
    rw [List.getElem_map, List.getElem_range, List.getD_eq_getElem?_getD, List.getElem?_eq_getElem h1]
    rfl
  unfold given
  conv => rhs; rw [e]
  rw [List.filter_map, List.map_map]
  rfl
theorem getD_mem' {α : Type} {l : List α} {i : Nat} {a d : α} (h : l[i]? = some a) : l.getD i d = a := by
  rw [List.getD_eq_getElem?_getD, h]
  rfl
theorem mem_natsI {n : Nat} {ns : List Nat} : decide ((n : Int) ∈ ns.map fun k : Nat => (k : Int)) = decide (n ∈ ns) := by
  by_cases h : n ∈ ns
  · rw [decide_eq_true h, decide_eq_true (List.mem_map.mpr ⟨n, h, rfl⟩)]
  · rw [decide_eq_false h, decide_eq_false fun z => by
      obtain ⟨k, hk, e⟩ := List.mem_map.mp z
      exact h (by rw [← Int.ofNat_inj.mp e]; exact hk)]
theorem nats_ints (ns : List Nat) : ns.map nI = (ns.map fun k : Nat => (k : Int)).map PyData.int := by
  rw [List.map_map]
  rfl
section
variable {K : PySem.W.Frag} {c : Ent} {dr : Dr} {ls : Ls} {σ : L2.St} {B : Hp} {ta tb : TE}
theorem e_inN {n : Nat} {ns : List Nat} (ha : EvD K c dr ls ta σ B (nI n)) (hb : EvD K c dr ls tb σ B (.list (ns.map nI))) : EvD K c dr ls (tOp (rIn K false) ta tb) σ B (.bool (decide (n ∈ ns))) := by
  rw [nats_ints] at hb
  exact e_bool (e_inI ha hb) mem_natsI
theorem e_eqN {a b : Nat} (ha : EvD K c dr ls ta σ B (nI a)) (hb : EvD K c dr ls tb σ B (nI b)) : EvD K c dr ls (tOp rEq ta tb) σ B (.bool (decide (a = b))) := e_bool (e_eqI ha hb) (by
  by_cases h : a = b
  · rw [decide_eq_true h, decide_eq_true (congrArg _ h)]
  · rw [decide_eq_false h, decide_eq_false fun z => h (Int.ofNat_inj.mp z)])
theorem e_neN {a b : Nat} (ha : EvD K c dr ls ta σ B (nI a)) (hb : EvD K c dr ls tb σ B (nI b)) : EvD K c dr ls (tOp rNe ta tb) σ B (.bool (!decide (a = b))) := e_bool (e_neI ha hb) (by
  by_cases h : a = b
  · rw [decide_eq_true h, decide_eq_true (congrArg _ h)]
  · rw [decide_eq_false h, decide_eq_false fun z => h (Int.ofNat_inj.mp z)])
theorem e_ltN {a b : Nat} (ha : EvD K c dr ls ta σ B (nI a)) (hb : EvD K c dr ls tb σ B (nI b)) : EvD K c dr ls (tOp (rI0 fun i j => .bl (decide (i < j))) ta tb) σ B (.bool (decide (a < b))) := e_bool (e_ib ha hb) (by
  by_cases h : a < b
  · rw [decide_eq_true h, decide_eq_true (Int.ofNat_lt.mpr h)]
  · rw [decide_eq_false h, decide_eq_false fun z => h (Int.ofNat_lt.mp z)])
theorem e_gtN {a b : Nat} (ha : EvD K c dr ls ta σ B (nI a)) (hb : EvD K c dr ls tb σ B (nI b)) : EvD K c dr ls (tOp (rI0 fun i j => .bl (decide (j < i))) ta tb) σ B (.bool (decide (b < a))) := e_bool (e_ib ha hb) (by
  by_cases h : b < a
  · rw [decide_eq_true h, decide_eq_true (Int.ofNat_lt.mpr h)]
  · rw [decide_eq_false h, decide_eq_false fun z => h (Int.ofNat_lt.mp z)])
theorem e_addN {a b : Nat} (ha : EvD K c dr ls ta σ B (nI a)) (hb : EvD K c dr ls tb σ B (nI b)) : EvD K c dr ls (tOp (rI0 fun i j => .int (i + j)) ta tb) σ B (nI (a + b)) := EvB.to (e_ii ha hb) rfl
theorem e_subN {a b : Nat} (ha : EvD K c dr ls ta σ B (nI a)) (hb : EvD K c dr ls tb σ B (nI b)) (h : b ≤ a) : EvD K c dr ls (tOp (rI0 fun i j => .int (i - j)) ta tb) σ B (nI (a - b)) := EvB.to (e_ii ha hb) (by
  show PyData.int _ = PyData.int _
  rw [Int.natCast_sub h])
/-- a place of a list of data from a list of things -/
theorem e_atL {α : Type} {f : α → PyData} {l : List α} {i : Nat} {a : α} (ha : EvD K c dr ls ta σ B (.list (l.map f))) (hb : EvD K c dr ls tb σ B (nI i)) (h : l[i]? = some a) : EvD K c dr ls (tOp (rIxL K) ta tb) σ B (f a) := e_ixL ha hb (atI_map h)
theorem e_atT {α : Type} {f : α → PyData} {l : List α} {i : Nat} {a : α} (ha : EvD K c dr ls ta σ B (.tuple (l.map f))) (hb : EvD K c dr ls tb σ B (nI i)) (h : l[i]? = some a) : EvD K c dr ls (tOp (rIxT K) ta tb) σ B (f a) := e_ixT ha hb (atI_map h)
theorem e_lastL {α : Type} {f : α → PyData} {l : List α} {a : α} (ha : EvD K c dr ls ta σ B (.list (l.map f))) (h : l.getLast? = some a) : EvD K c dr ls (tOp (rIxL K) ta (tUn (rU fun i => .int (-i)) (tC (.int 1)))) σ B (f a) := e_ixL ha (e_neg e_cint) (atI_lastM h)
end
end GB
/-! Sorted pairs, +=, dicts. -/
namespace GB
open PySem PySem.Spec PyProof.Rows L2
open Evl (Ex)
theorem readsN_len (p : Prog) : ∀ n, (readsN p n).length ≤ n
  | 0 => Nat.le_refl 0
  | n + 1 => by
    have ih := readsN_len p n
    unfold readsN
    split <;> simp <;> omega
theorem atI_0 {α : Type} {x : α} {xs : List α} : atI (x :: xs) 0 = some x := atI_nat (j := 0) rfl
theorem perm_map {α β : Type} {f : α → β} : ∀ {l m : List β}, l.Perm m → ∀ {T : List α}, m = T.map f → ∃ U : List α, U.Perm T ∧ l = U.map f := by
  intro l m h
  induction h with
  | nil =>
    intro T e
    cases T with
    | nil => exact ⟨[], List.Perm.refl _, rfl⟩
    | cons a T => cases e
  | cons x h ih =>
    intro T e
    cases T with
    | nil => cases e
    | cons a T =>
      rw [List.map_cons] at e
      injection e with e1 e2
      obtain ⟨U, h1, h2⟩ := ih e2
      exact ⟨a :: U, h1.cons a, by rw [List.map_cons, ← e1, h2]⟩
  | swap x y l =>
    intro T e
    cases T with
    | nil => cases e
    | cons a T =>
      cases T with
      | nil => cases e
      | cons b T =>
        rw [List.map_cons, List.map_cons] at e
        injection e with e1 e2
        injection e2 with e2 e3
        exact ⟨b :: a :: T, List.Perm.swap _ _ _, by rw [List.map_cons, List.map_cons, ← e1, ← e2, ← e3]⟩
  | trans h1 h2 ih1 ih2 =>
    intro T e
    obtain ⟨U, k1, k2⟩ := ih2 e
    obtain ⟨W, l1, l2⟩ := ih1 k2
    exact ⟨W, l1.trans k1, l2⟩
theorem DaL.perm {K : PySem.W.Frag} {B : Hp} {ys xs : List V} (h : ys.Perm xs) : ∀ {ds : List PyData}, DaL K B xs ds → ∃ es, es.Perm ds ∧ DaL K B ys es := by
  induction h with
  | nil => exact fun {ds} d => ⟨ds, List.Perm.refl _, d⟩
  | cons x h ih =>
    intro ds d
    cases d with
    | cons h1 h2 =>
      obtain ⟨es, p1, p2⟩ := ih h2
      exact ⟨_ :: es, p1.cons _, .cons h1 p2⟩
  | swap x y l =>
    intro ds d
    cases d with
    | cons h1 h2 =>
      cases h2 with
      | cons h2 h3 => exact ⟨_, List.Perm.swap _ _ _, .cons h2 (.cons h1 h3)⟩
  | trans h1 h2 ih1 ih2 =>
    intro ds d
    obtain ⟨es, p1, p2⟩ := ih2 d
    obtain ⟨fs, q1, q2⟩ := ih1 p2
    exact ⟨fs, q1.trans p1, q2⟩
/-- the two ints of a pair -/
def pairAt (H : Hp) (v : V) : Int × Int := match v with
  | .ref t => (match H t with
    | some (.tup [.int i, .int j]) => (i, j)
    | _ => (0, 0))
  | _ => (0, 0)
theorem pair_at {K : PySem.W.Frag} {H : Hp} {v : V} {e : Nat × Nat} (h : Da K H v (dPair e)) : ∃ t, v = .ref t ∧ H t = some (.tup [.int (pairAt H v).1, .int (pairAt H v).2]) ∧ pairAt H v = ((e.1 : Int), (e.2 : Int)) := by
  obtain ⟨a, xs, rfl, ha, hd⟩ := h.tup_tr (by intro z; cases z)
  obtain ⟨x, r, rfl, h1, h2⟩ := hd.cons_inv
  obtain ⟨y, r, rfl, h3, h4⟩ := h2.cons_inv
  cases h4
  rw [h1.int_eq, h3.int_eq] at ha
  have e0 : pairAt H (.ref a) = ((e.1 : Int), (e.2 : Int)) := by
    show (match H a with | some (.tup [.int i, .int j]) => (i, j) | _ => (0, 0)) = _
    rw [ha]
  exact ⟨a, rfl, by rw [e0]; exact ha, e0⟩
theorem pairs_keys {K : PySem.W.Frag} {H : Hp} : ∀ {U : Tab} {ys : List V}, DaL K H ys (U.map dPair) → ys.map (pairAt H) = U.map fun e => ((e.1 : Int), (e.2 : Int))
  | [], ys, h => by
    cases h
    rfl
  | e :: U, ys, h => by
    rw [List.map_cons] at h
    obtain ⟨y, r, rfl, h1, h2⟩ := h.cons_inv
    obtain ⟨_, _, _, hk⟩ := pair_at h1
    rw [List.map_cons, List.map_cons, hk, pairs_keys h2]
/-- not after -/
def befP (a b : Nat × Nat) : Prop := a.1 < b.1 ∨ (a.1 = b.1 ∧ a.2 ≤ b.2)
section
variable {K : PySem.W.Frag} {c : Ent} {dr dr1 dr2 dr' : Dr} {ls : Ls} {σ : L2.St} {B B' H H' : Hp} {ta tb te tx : TE} {tt tu : TT} {Φ Ψ : V → Hp → Prop} {d d1 d2 : PyData} {ds es : List PyData} {p : Addr}
theorem l_sortP {T : Tab} {t : TA} (ha : EaD K c dr ls t σ B [.list (T.map dPair)]) : EvN K c dr dr ls (tCB (rSortedPO K) t) σ B fun ds => ∃ U : Tab, U.Perm T ∧ U.Pairwise befP ∧ ds = U.map dPair := fun B1 H1 e1 w Q q =>
  ha B1 H1 e1 w _ fun vs B2 H2 e2 w2 f => by
    obtain ⟨v, r, rfl, fv, fr⟩ := f.cons_inv
    rw [fr.nil_eq]
    obtain ⟨a, xs, rfl, hx, hd⟩ := fv.lst_inv
    refine ⟨a, xs, pairAt H2, rfl, SqL.of (w2.inn _ _ hx), fun x hxm => ?_, fun ys r so sb hr => ?_⟩
    · obtain ⟨i, hi⟩ := List.getElem?_of_mem hxm
      obtain ⟨d, hd1, hd2⟩ := hd.get' hi
      rw [List.getElem?_map] at hd1
      cases he : T[i]? with
      | none =>
        rw [he] at hd1
        cases hd1
      | some e =>
        rw [he] at hd1
        cases hd1
        obtain ⟨t, h1, h2, _⟩ := pair_at (hd2.mono w2.inn)
        exact ⟨t, h1, h2⟩
    · obtain ⟨es, p1, p2⟩ := hd.perm sb.perm
      obtain ⟨U, u1, rfl⟩ := perm_map p1 rfl
      refine q r _ _ _ e2 (w2.fresh0 hr) (w2.grow hr ⟨ys, upd_same, p2⟩) ⟨U, u1, ?_, rfl⟩
      have hk := pairs_keys (p2.mono w2.inn)
      have so : (ys.map (pairAt H2)).Pairwise fun x y => SrtO.lexB y x = false := List.pairwise_map.mpr so
      rw [hk] at so
      refine (List.pairwise_map.mp so).imp fun {x y} h => ?_
      have h := SrtO.lexB_no.mp h
      unfold befP
      simp only at h
      omega
/-- x += e, x being built -/
theorem q_aug {D : Ends} {tz : TS} {i : Nat} (w : Wd K c dr ((p, .l ds) :: ls) B H) (h0 : c.H p = none ∨ p ∈ c.M) (h : EvD K c dr ((p, .l ds) :: ls) te σ B (.list es)) (hl : ds.length + es.length ≤ 100000) (k : ∀ B1 H1, Ex B B1 → Wd K c dr ((p, .l (ds ++ es)) :: ls) B1 H1 → tz D (σ.set i (some (.ref p))) H1)
    (hi : σ[i]? = some (some (.ref p)) := by rfl) : tSeq (tAug i te fun x y => rExt2 x y) tz D σ H := by
  refine ⟨.ref p, hi, h B H (Ex.refl _) w _ fun v B1 H1 e1 w1 f => ?_⟩
  obtain ⟨_, ws, hW, hd⟩ := w1.own
  obtain ⟨b, ys, rfl, hy, hd2⟩ := f.lst_inv
  exact ⟨p, b, ws, ys, rfl, rfl, hW, w1.inn _ _ hy, sz_le (by rw [hd.len, hd2.len]; exact hl), k B1 _ e1 (w1.set ⟨ws ++ ys, upd_same, hd.app hd2⟩ h0)⟩
end
theorem srt_of_perm {U T : Tab} (h : U.Perm T) (hb : U.Pairwise befP) (nd : (T.map (·.1)).Nodup) : Srt U := by
  have nu : (U.map (·.1)).Nodup := (h.map _).nodup_iff.mpr nd
  have nu : U.Pairwise fun a b => a.1 ≠ b.1 := List.pairwise_map.mp nu
  have hh := hb.and nu
  refine hh.imp fun {a b} z => ?_
  rcases z.1 with q | ⟨q, _⟩
  · exact q
  · exact absurd q z.2
theorem Srt.nodup {T : Tab} (h : Srt T) : (T.map (·.1)).Nodup := List.pairwise_map.mpr (h.imp fun {a b} z => Nat.ne_of_lt z)
/-! ### dicts -/
section
variable {K : PySem.W.Frag} {c : Ent} {dr dr1 dr2 dr' : Dr} {ls : Ls} {σ : L2.St} {B B' H H' : Hp} {ta tb td te tx : TE} {tt tu : TT} {Φ Ψ : V → Hp → Prop} {d d1 d2 : PyData} {ds es : List PyData} {p : Addr}
/-- te evaluates to a new dict -/
def EvK (K : PySem.W.Frag) (c : Ent) (dr : Dr) (ls : Ls) (te : TE) (σ : L2.St) (B : Hp) (P : Hp → List (Key × V) → Prop) : Prop :=
  ∀ B1 H1, Ex B B1 → Wd K c dr ls B1 H1 → ∀ Q : VK, (∀ p kvs B2 H2, Ex B1 B2 → c.H p = none → Wd K c dr ((p, .dct kvs) :: ls) B2 H2 → P B2 kvs → Q (.ref p) H2) → te σ H1 Q
theorem k_new : EvK K c dr ls tDNewK σ B fun _ kvs => kvs = [] := fun B1 H1 e1 w Q q => fun p hp => q p [] B1 _ (Ex.refl _) (w.fresh0 hp) (w.grow hp (show upd H1 p (.dK []) p = _ from upd_same)) rfl
theorem q_setK {D : Ends} {tz : TS} {i : Nat} {P : Hp → List (Key × V) → Prop} (w : Wd K c dr ls B H) (h : EvK K c dr ls te σ B P) (k : ∀ p kvs B1 H1, Ex B B1 → c.H p = none → Wd K c dr ((p, .dct kvs) :: ls) B1 H1 → P B1 kvs → tz D (σ.set i (some (.ref p))) H1) : tSeq (tAsg te (gName i)) tz D σ H :=
  h B H (Ex.refl _) w _ fun p kvs B1 H1 e1 h0 w1 f => k p kvs B1 H1 e1 h0 w1 f
theorem mergeK_new : ∀ (more kvs : List (Key × V)), (∀ q, q ∈ more → valV kvs q.1 = none) → (more.map (·.1)).Nodup → mergeK kvs more = kvs ++ more
  | [], kvs, _, _ => (List.append_nil _).symm
  | q :: more, kvs, h, nd => by
    rw [List.map_cons, List.nodup_cons] at nd
    show mergeK (putK kvs q.1 q.2) more = _
    rw [putK_new _ (h q List.mem_cons_self), mergeK_new more _ (fun r hr => ?_) nd.2, List.append_assoc]
    · rfl
    · have hne : ¬ r.1 = q.1 := fun z => nd.1 (by rw [← z]; exact List.mem_map_of_mem hr)
      rw [valV_snoc _ _ _ _ (h q List.mem_cons_self), if_neg hne]
      exact h r (List.mem_cons_of_mem _ hr)
def kvN (L : Tab) : List (Key × V) := L.map fun e => (.inl (e.1 : Int), .int (e.2 : Int))
theorem kvN_nodup {L : Tab} (h : (L.map (·.1)).Nodup) : ((kvN L).map (·.1)).Nodup := by
  unfold kvN
  rw [List.map_map]
  have e : (fun e : Nat × Nat => ((.inl (e.1 : Int) : Key), (V.int (e.2 : Int)))) = fun e => (.inl (e.1 : Int), .int (e.2 : Int)) := rfl
  have h2 : ((L.map (·.1)).map fun n : Nat => (Sum.inl (n : Int) : Key)).Nodup := List.pairwise_map.mpr (h.imp fun {a b} z y => z (Int.ofNat_inj.mp (Sum.inl.inj y)))
  rw [List.map_map] at h2
  exact h2
theorem kvN_get {L : Tab} (h : (L.map (·.1)).Nodup) {a b : Nat} (m : (a, b) ∈ L) : valV (kvN L) (.inl (a : Int)) = some (.int (b : Int)) := by
  induction L with
  | nil => cases m
  | cons e L ih =>
    rw [List.map_cons, List.nodup_cons] at h
    rcases List.mem_cons.mp m with z | z
    · subst z
      exact valV_pos rfl
    · have ne : ¬ (Sum.inl (e.1 : Int) : Key) = .inl (a : Int) := fun y => h.1 (by
        rw [Int.ofNat_inj.mp (Sum.inl.inj y)]
        exact List.mem_map_of_mem z)
      show valV ((.inl (e.1 : Int), .int (e.2 : Int)) :: kvN L) _ = _
      rw [valV_neg ne]
      exact ih h.2 z
/-- dict of pairs -/
theorem k_dictP {L : Tab} {t : TA} (ha : EaD K c dr ls t σ B [.list (L.map dPair)]) (nd : (L.map (·.1)).Nodup) : EvK K c dr ls (tCB (fun xs H Q => ∃ (a : Addr) (ps : List Addr) (kvs : List (Key × V)), xs = [.ref a] ∧ SqL K H a (ps.map V.ref) ∧ Paired (fun p kv => SqT K H p [kV kv.1, kv.2]) ps kvs ∧
    ∀ p, H p = none → Q (.ref p) (upd H p (.dK (mergeK [] kvs)))) t) σ B fun _ kvs => kvs = kvN L := fun B1 H1 e1 w Q q =>
  ha B1 H1 e1 w _ fun vs B2 H2 e2 w2 f => by
    obtain ⟨v, r, rfl, fv, fr⟩ := f.cons_inv
    rw [fr.nil_eq]
    obtain ⟨a, xs, rfl, hx, hd⟩ := fv.lst_inv
    have go : ∀ {L : Tab} {xs : List V}, DaL K H2 xs (L.map dPair) → ∃ ps : List Addr, xs = ps.map V.ref ∧ Paired (fun p kv => SqT K H2 p [kV kv.1, kv.2]) ps (kvN L) := by
      intro L
      induction L with
      | nil =>
        intro xs h
        cases h
        exact ⟨[], rfl, .nil⟩
      | cons e L ih =>
        intro xs h
        rw [List.map_cons] at h
        obtain ⟨x, r, rfl, h1, h2⟩ := h.cons_inv
        obtain ⟨ps, rfl, hp⟩ := ih h2
        obtain ⟨t, us, rfl, ht, hu⟩ := h1.tup_inv
        obtain ⟨y, r, rfl, k1, k2⟩ := hu.cons_inv
        obtain ⟨z, r, rfl, k3, k4⟩ := k2.cons_inv
        cases k4
        rw [k1.int_eq, k3.int_eq] at ht
        exact ⟨t :: ps, rfl, .cons ht hp⟩
    obtain ⟨ps, rfl, hp⟩ := go (hd.mono w2.inn)
    refine ⟨a, ps, kvN L, rfl, SqL.of (w2.inn _ _ hx), hp, fun p hn => ?_⟩
    rw [mergeK_new (kvN L) [] (fun _ _ => rfl) (kvN_nodup nd), List.nil_append]
    exact q p _ B2 _ e2 (w2.fresh0 hn) (w2.grow hn (show upd H2 p (.dK (kvN L)) p = _ from upd_same)) rfl
/-- a dict comprehension of ints -/
theorem k_dc {wi : TI} {g : TG} {tk tv : TE} {vs : List Nat} {n : Nat} {f : Nat → PyData} (key val : Nat → Nat) (h : EiB K c dr ls wi σ B n f) (hn : n ≤ 50000)
    (hs : ∀ i x D kv0 B1 H1, i < n → Ex B B1 → Ex B1 H1 → Da K B1 x (f i) → ∀ R : L2.St → Hp → Prop,
      (∀ σ2, wipe σ2 vs = wipe σ vs → EvD K c dr ((D, .dct kv0) :: ls) tk σ2 B1 (nI (key i)) → (∀ B6, Ex B1 B6 → EvD K c dr ((D, .dct kv0) :: ls) tv σ2 B6 (nI (val i))) → R σ2 H1) → g x (wipe σ vs) H1 R) :
    EvK K c dr ls (tDc wi g tYes tk tv vs) σ B fun _ kvs => ∀ u, u < n → (∀ v, v < n → key v = key u → val v = val u) → valV kvs (.inl ((key u : Nat) : Int)) = some (.int ((val u : Nat) : Int)) := fun B1 H1 e1 w Q q => by
  refine h B1 H1 e1 w _ fun J B2 H2 e2 w2 wk => fun D hD => ?_
  refine ⟨fun i m H => m = n - i ∧ i ≤ n ∧ ∃ B' kvs, Ex B2 B' ∧ Wd K c dr ((D, .dct kvs) :: ls) B' H ∧ kvs.length ≤ i ∧ ∀ u, u < i → ∃ v, v < i ∧ key v = key u ∧ valV kvs (.inl ((key u : Nat) : Int)) = some (.int ((val v : Nat) : Int)),
    ⟨n, by omega, Nat.zero_le _, B2, [], Ex.refl _, w2.grow hD (show upd H2 D (.dK []) D = _ from upd_same), Nat.le_refl _, fun u hu => absurd hu (Nat.not_lt_zero _)⟩, ?_⟩
  rintro i m H ⟨rfl, hi, B', kvs, e', w', hl, hkv⟩
  by_cases hlt : i < n
  · refine .inr ⟨wk.goes i H hlt (e'.trans w'.inn), fun H' => ∃ B' kvs, Ex B2 B' ∧ Wd K c dr ((D, .dct kvs) :: ls) B' H' ∧ kvs.length ≤ i + 1 ∧ ∀ u, u < i + 1 → ∃ v, v < i + 1 ∧ key v = key u ∧ valV kvs (.inl ((key u : Nat) : Int)) = some (.int ((val v : Nat) : Int)),
      fun H' p => ⟨n - (i + 1), by omega, rfl, hlt, p⟩, fun x H' y => ?_⟩
    obtain ⟨B3, e3, up, fx⟩ := wk.yields i H x H' hlt (e'.trans w'.inn) y B' e' w'.inn
    have w3 := up _ _ w'
    refine hs i x D kvs B3 H' hlt ((e1.trans e2).trans (e'.trans e3)) w3.inn fx _ fun σ2 hw hk hv => ⟨hw, ?_⟩
    refine (hk B3 H' (Ex.refl _) w3 _ fun y B4 H4 e4 w4 fy => hv B4 e4 B4 H4 (Ex.refl _) w4 _ fun z B5 H5 e5 w5 fz => ?_ : tk σ2 H' _)
    refine ⟨kvs, .inl ((key i : Nat) : Int), fy.int_eq, w5.own.2, Nat.lt_of_le_of_lt hl (Nat.lt_of_lt_of_le hlt (Nat.le_trans hn (by decide))), B5, _, ((e'.trans e3).trans e4).trans e5, w5.set (ct' := .dct (putK kvs (.inl ((key i : Nat) : Int)) z)) (show upd H5 D _ D = _ from upd_same) (.inl (w2.fresh0 hD)), ?_, fun u hu => ?_⟩
    · have := length_putK kvs (.inl ((key i : Nat) : Int)) z
      omega
    · rw [valV_put]
      by_cases hku : key u = key i
      · refine ⟨i, Nat.lt_succ_self i, hku.symm, ?_⟩
        rw [if_pos (by rw [hku]), fz.int_eq]
      · have hui : u < i := by
          by_cases z : u = i
          · exact absurd (by rw [z]) hku
          · omega
        obtain ⟨v, v1, v2, v3⟩ := hkv u hui
        refine ⟨v, by omega, v2, ?_⟩
        rw [if_neg fun z => hku (Int.ofNat_inj.mp (Sum.inl.inj z))]
        exact v3
  · have e : i = n := by omega
    subst e
    refine .inl ⟨wk.stops H (e'.trans w'.inn), q D kvs B' H (e2.trans e') (w2.fresh0 hD) w' fun u hu hx => ?_⟩
    obtain ⟨v, v1, v2, v3⟩ := hkv u hu
    rw [v3, hx v v1 v2]
/-- f(..)[k] of a new dict -/
theorem e_dAt {P : Hp → List (Key × V) → Prop} {n : Int} (h : EvK K c dr ls td σ B P) (hb : ∀ p kvs B1, Ex B B1 → EvD K c dr ((p, .dct kvs) :: ls) tb σ B1 (.int n)) (hv : ∀ kvs B1, Ex B B1 → P B1 kvs → ∃ v, valV kvs (.inl n) = some v ∧ Da K B1 v d) : EvD K c dr ls (tDGet td tb) σ B d := fun B1 H1 e1 w Q q =>
  h B1 H1 e1 w _ fun p kvs B2 H2 e2 h0 w2 hp => hb p kvs B2 (e1.trans e2) B2 H2 (Ex.refl _) w2 _ fun y B3 H3 e3 w3 fy => by
    obtain ⟨v, hv1, hv2⟩ := hv kvs B2 (e1.trans e2) hp
    have hd : H3 p = some (.dK kvs) := w3.own.2
    refine ⟨p, v, rfl, ?_, q v B3 H3 (e2.trans e3) w3.forget (hv2.mono e3)⟩
    rw [fy.int_eq]
    have g := DGet.k (k := Sum.inl n) hd
    rw [hv1] at g
    exact g
/-- d[k], d a dict that is being built -/
theorem e_dGet {kvs : List (Key × V)} {i : Nat} {n : Int} {v : V} (hm : (p, Ct.dct kvs) ∈ ls) (hb : EvD K c dr ls tb σ B (.int n)) (hv : valV kvs (.inl n) = some v) (fv : Da K B v d) (hi : σ[i]? = some (some (.ref p)) := by rfl) : EvD K c dr ls (tDGet (tVar i) tb) σ B d := fun B1 H1 e1 w Q q =>
  ⟨.ref p, hi, hb B1 H1 e1 w _ fun y B2 H2 e2 w2 fy => by
    have hd : H2 p = some (.dK kvs) := (w2.cts _ hm).2
    refine ⟨p, v, rfl, ?_, q v B2 H2 e2 w2 (fv.mono (e1.trans e2))⟩
    rw [fy.int_eq]
    have g := DGet.k (k := Sum.inl n) hd
    rw [hv] at g
    exact g⟩
/-- d[k] = v, d a dict that is being built -/
theorem s_dput {D : Ends} {kvs : List (Key × V)} {i : Nat} {n : Int} {tv : TE} (w : Wd K c dr ((p, .dct kvs) :: ls) B H) (h0 : c.H p = none ∨ p ∈ c.M) (hv : EvD K c dr ((p, .dct kvs) :: ls) tv σ B d) (hk : ∀ B1, Ex B B1 → EvD K c dr ((p, .dct kvs) :: ls) tb σ B1 (.int n)) (hl : kvs.length < 100000)
    (k : ∀ v B1 H1, Ex B B1 → Da K B1 v d → Wd K c dr ((p, .dct (putK kvs (.inl n) v)) :: ls) B1 H1 → D.nx σ H1) (hi : σ[i]? = some (some (.ref p)) := by rfl) : sDPut (tVar i) tb tv D σ H :=
  hv B H (Ex.refl _) w _ fun v B1 H1 e1 w1 fv => ⟨.ref p, hi, hk B1 e1 B1 H1 (Ex.refl _) w1 _ fun y B2 H2 e2 w2 fy => by
    have hd : H2 p = some (.dK kvs) := w2.own.2
    refine ⟨p, _, rfl, ?_, k v B2 _ (e1.trans e2) (fv.mono e2) (w2.set (ct' := .dct (putK kvs (.inl n) v)) (show upd H2 p _ p = _ from upd_same) h0)⟩
    rw [fy.int_eq]
    exact DPut.k (k := Sum.inl n) hd (Nat.lt_of_lt_of_le hl (by decide))⟩
/-- what was being built joins the base, changed to o -/
theorem Wd.doneAs {ct : Ct} {o : HO} (w : Wd K c dr ((p, ct) :: ls) B H) (hp : c.H p = none) : Ex B (upd B p o) ∧ Wd K c dr ls (upd B p o) (upd H p o) := by
  have hB := w.own.1
  have e1 : Ex B (upd B p o) := Ex.new hB
  have nd := List.nodup_cons.mp (show (p :: ls.map (·.1)).Nodup from w.nd)
  refine ⟨e1, ⟨w.base.trans e1, fun a u q => ?_, fun a ha => ?_, fun a u m q => ?_, fun a m => ?_, fun q hq => ?_, nd.2, fun q hq => ?_⟩⟩
  · by_cases z : a = p
    · rw [z, upd_same] at q ⊢
      exact q
    · rw [upd_ne z] at q ⊢
      exact w.inn a u q
  · by_cases z : a = p
    · rw [z]
      exact .inr hp
    · rw [upd_ne z] at ha
      exact w.fr a ha
  · by_cases z : a = p
    · rw [z, hp] at q
      cases q
    · rw [upd_ne z]
      exact w.old a u m q
  · by_cases z : a = p
    · rw [z, upd_same]
      intro r
      cases r
    · rw [upd_ne z]
      exact w.here a m
  · obtain ⟨h1, h2⟩ := w.cts q (List.mem_cons_of_mem _ hq)
    have ne : q.1 ≠ p := fun y => nd.1 (y ▸ List.mem_map_of_mem hq)
    refine ⟨?_, h2.mono e1 (upd_ne ne)⟩
    rw [upd_ne ne]
    exact h1
  · obtain ⟨h1, h2, h3⟩ := w.draw q hq
    rw [List.map_cons] at h3
    have ne : q.1 ≠ p := fun y => h3 (y ▸ List.mem_cons_self)
    refine ⟨h1.mono e1 (upd_ne ne) (Nat.le_refl _), ?_, fun z => h3 (List.mem_cons_of_mem _ z)⟩
    rw [upd_ne ne]
    exact h2
/-- for .. in f(..).items(), the dict new -/
theorem q_forK {D : Ends} {tz tb : TS} {g : TG} {P : Hp → List (Key × V) → Prop} (w : Wd K c dr ls B H) (h : EvK K c dr ls td σ B P)
    (k : ∀ p kvs o B1 B2 H2, Ex B B1 → Ex B1 B2 → P B1 kvs → B2 p = some (.frz o (.dK kvs)) → Wd K c dr ls B2 H2 → tSeq (tFor (fun _ H R => R (Iti p o kvs) H) g tb) tz D σ H2) : tSeq (tFor (iItemsN td) g tb) tz D σ H :=
  h B H (Ex.refl _) w _ fun p kvs B1 H1 e1 h0 w1 hp => ⟨p, kvs, rfl, w1.own.2, fun o => by
    obtain ⟨e2, w2⟩ := w1.doneAs (o := .frz o (.dK kvs)) h0
    exact k p kvs o B1 _ _ e1 e2 hp upd_same w2⟩
theorem i_items {kvs : List (Key × V)} {o : Obj} {f : Nat → PyData} (hp : B p = some (.frz o (.dK kvs))) (hd : ∀ i k v, kvs[i]? = some (k, v) → ∃ d1 d2, f i = .tuple [d1, d2] ∧ Da K B (kV k) d1 ∧ Da K B v d2) :
    EiB K c dr ls (fun _ H R => R (Iti p o kvs) H) σ B kvs.length f := fun B1 H1 e1 w R q => by
  refine q _ B1 H1 (Ex.refl _) w ?_
  refine (walk_items (d := p) (o := o) (kvs := kvs)).mono (fun H' e => e _ _ (e1 _ _ hp)) fun i H' x H'' hi e y => ?_
  obtain ⟨T, x1, x2, rfl, hT, rfl, h1, h2⟩ := y
  intro B3 e3 i3
  have hk : kvs[i]? = some kvs[i] := List.getElem?_eq_getElem hi
  have h1 : kvs[i]?.map (fun kv => kV kv.1) = some x1 := h1
  have h2 : kvs[i]?.map Prod.snd = some x2 := h2
  generalize kvs[i] = kv at hk
  obtain ⟨k, v⟩ := kv
  rw [hk] at h1 h2
  cases h1
  cases h2
  obtain ⟨d1, d2, ef, g1, g2⟩ := hd i k v hk
  show ∃ B2, _ ∧ _ ∧ Da K B2 (.ref T) (f i)
  rw [ef]
  exact yd_pair e3 i3 hT ((g1.mono e1).mono e3) ((g2.mono e1).mono e3)
end
theorem at_ {t : TS} {D : Ends} {σ σ' : L2.St} {H : Hp} (e : σ = σ') (h : t D σ' H) : t D σ H := e ▸ h
theorem s_for {K : PySem.W.Frag} {c : Ent} {dr : Dr} {ls : Ls} {σ : L2.St} {B H : Hp} {g : TG} {D : Ends} {wi : TI} {tb : TS} {n : Nat} {f : Nat → PyData} (w : Wd K c dr ls B H) (h : EiB K c dr ls wi σ B n f) (Iv : Nat → L2.St → Hp → Hp → Prop) (h0 : ∀ B1 H1, Ex B B1 → Wd K c dr ls B1 H1 → Iv 0 σ B1 H1) (hi : ∀ i σ' B' H', Iv i σ' B' H' → Ex B' H')
    (hs : ∀ i x σ' B0 B1 H1 B2 H2, i < n → Ex B B0 → Ex B0 B1 → Iv i σ' B1 H1 → Ex B1 B2 → (∀ dr ls, Wd K c dr ls B1 H1 → Wd K c dr ls B2 H2) → Da K B2 x (f i) →
      g x σ' H2 fun σ2 H3 => tb { D with nx := fun σ3 H4 => ∃ B4, Ex B0 B4 ∧ Iv (i + 1) σ3 B4 H4, ct := fun σ3 H4 => ∃ B4, Ex B0 B4 ∧ Iv (i + 1) σ3 B4 H4, bk := D.nx } σ2 H3)
    (hd : ∀ σ' B1 H1, Ex B B1 → Iv n σ' B1 H1 → D.nx σ' H1) : tFor wi g tb D σ H := q_for (tz := fun D => D.nx) w h Iv h0 hi hs hd
/-! ### lists that are told by a property -/
section
variable {K : PySem.W.Frag} {c : Ent} {dr dr1 dr2 dr' : Dr} {ls : Ls} {σ : L2.St} {B B' H H' : Hp} {ta tb td te tl tx : TE} {tt tu : TT} {g : TG} {Φ Ψ : V → Hp → Prop} {d d1 d2 : PyData} {ds es : List PyData} {p : Addr}
theorem l_lcR {P : List PyData → Prop} {vs : List Nat} (b : List PyData → Nat → Bool) (v : List PyData → Nat → PyData) (h : EvB K c dr dr ls tl σ B fun v B' => ∃ ds, Da K B' v (.list ds) ∧ P ds) (hn : ∀ ds, P ds → ds.length ≤ 50000)
    (hs : ∀ ds, P ds → ∀ i x D acc B1 H1, i < ds.length → Ex B B1 → Ex B1 H1 → Da K B1 x (ds.getD i .none) → ∀ R : L2.St → Hp → Prop,
      (∀ σ2, wipe σ2 vs = wipe σ vs → Et K c dr ((D, .l acc) :: ls) tt σ2 B1 (b ds i) → (b ds i = true → EvD K c dr ((D, .l acc) :: ls) te σ2 B1 (v ds i)) → R σ2 H1) → g x (wipe σ vs) H1 R) :
    EvN K c dr dr ls (tLc (iList K tl) g tt te vs) σ B fun es => ∃ ds, P ds ∧ es = given ds.length (b ds) (v ds) := fun B1 H1 e1 w Q q =>
  h B1 H1 e1 w _ fun x B2 H2 e2 w2 ⟨ds, fd, hp⟩ =>
    l_lc (wi := iList K fun _ H Q => Q x H) (f := fun i => ds.getD i .none) (b ds) (v ds) (i_list (e_of fun B3 H3 e3 _ Q q => q x (fd.mono e3))) (hn ds hp) (fun i x D acc B3 H3 hi e3 i3 fx R k => hs ds hp i x D acc B3 H3 hi ((e1.trans e2).trans e3) i3 fx R k) B2 H2 (Ex.refl _) w2 Q
      fun r es B3 H3 e3 h0 w3 he => q r es B3 H3 (e2.trans e3) h0 w3 ⟨ds, hp, he⟩
theorem e_anyR {b : Bool} (ha : EvB K c dr dr ls ta σ B fun v B' => ∃ ds, Da K B' v (.list ds) ∧ ∃ bs : List Bool, ds = bs.map PyData.bool ∧ bs.any id = b) : EvD K c dr ls (tCB (rAny K) (tCons ta tNil)) σ B (.bool b) := fun B1 H1 e1 w Q q =>
  ha B1 H1 e1 w _ fun v B2 H2 e2 w2 ⟨ds, fd, bs, hb, he⟩ => by
    subst hb
    obtain ⟨a, xs, rfl, hx, hd⟩ := fd.lst_inv
    rw [hd.bools] at hx
    refine ⟨a, bs, rfl, SqL.of (w2.inn _ _ hx), ?_⟩
    rw [he]
    exact q _ B2 H2 e2 w2 (.bl _)
/-- xs[j], xs being built -/
theorem e_ixB {i : Nat} {j : Int} (hm : (p, Ct.l ds) ∈ ls) (hb : EvD K c dr ls tb σ B (.int j)) (h : atI ds j = some d) (hi : σ[i]? = some (some (.ref p)) := by rfl) : EvD K c dr ls (tOp (rIxL K) (tVar i) tb) σ B d := fun B1 H1 e1 w Q q =>
  ⟨.ref p, hi, hb B1 H1 e1 w _ fun y B2 H2 e2 w2 fy => by
    obtain ⟨_, vs, hv, hd⟩ := w2.cts _ hm
    obtain ⟨v, hv2, fv⟩ := hd.at h
    exact ⟨p, vs, j, v, rfl, fy.int_eq, SqL.of hv, hv2, q v B2 H2 e2 w2 fv⟩⟩
theorem DaL.last {xs : List V} (h : DaL K B xs ds) (ne : ds ≠ []) : ∃ v, xs[xs.length - 1]? = some v := by
  have hl := h.len
  have : 0 < ds.length := List.length_pos_iff.mpr ne
  exact ⟨xs[xs.length - 1]'(by omega), List.getElem?_eq_getElem _⟩
/-- x.pop() -/
theorem s_pop {D : Ends} {i : Nat} (w : Wd K c dr ((p, .l ds) :: ls) B H) (h0 : c.H p = none ∨ p ∈ c.M) (ne : ds ≠ []) (k : ∀ H1, Wd K c dr ((p, .l ds.dropLast) :: ls) B H1 → D.nx σ H1) (hi : σ[i]? = some (some (.ref p)) := by rfl) : tDrop (tBM0 K "list" rPop (tVar i)) D σ H := by
  obtain ⟨_, vs, hH, hd⟩ := w.own
  obtain ⟨y, hy⟩ := hd.last ne
  exact ⟨.ref p, hi, Or.inl ⟨rfl, vs, SqL.of hH⟩, p, vs, y, rfl, rfl, hH, hy, k _ (w.set ⟨vs.dropLast, upd_same, hd.dropLast⟩ h0)⟩
def maxN (L : List Nat) : Nat := L.foldl max 0
theorem maxN_le : ∀ (L : List Nat) (a : Nat), a ≤ L.foldl max a ∧ (∀ y, y ∈ L → y ≤ L.foldl max a) ∧ (L.foldl max a = a ∨ L.foldl max a ∈ L)
  | [], a => ⟨Nat.le_refl _, fun y (h : y ∈ ([] : List Nat)) => absurd h List.not_mem_nil, Or.inl rfl⟩
  | x :: L, a => by
    obtain ⟨h1, h2, h3⟩ := maxN_le L (max a x)
    refine ⟨by show a ≤ L.foldl max (max a x); omega, fun y hy => ?_, ?_⟩
    · show y ≤ L.foldl max (max a x)
      rcases List.mem_cons.mp hy with z | z
      · rw [z]
        omega
      · exact h2 y z
    · show L.foldl max (max a x) = a ∨ L.foldl max (max a x) ∈ x :: L
      rcases h3 with z | z
      · rw [z]
        by_cases l : x ≤ a
        · exact .inl (Nat.max_eq_left l)
        · refine .inr ?_
          rw [Nat.max_eq_right (by omega)]
          exact List.mem_cons_self
      · exact .inr (List.mem_cons_of_mem _ z)
theorem maxN_mem {L : List Nat} (h : L ≠ []) : maxN L ∈ L := by
  obtain ⟨h1, h2, h3⟩ := maxN_le L 0
  rcases h3 with z | z
  · cases L with
    | nil => exact absurd rfl h
    | cons x L =>
      have := h2 x List.mem_cons_self
      rw [z] at this
      unfold maxN
      rw [z]
      have : x = 0 := by omega
      rw [this]
      exact List.mem_cons_self
  · exact z
/-- max(xs, default=0) -/
theorem e_maxd {L : List Nat} {t tk : TA} (ha : EaD K c dr ls t σ B [.list (L.map nI)]) (hk : ∀ B1, Ex B B1 → EaD K c dr ls tk σ B1 [.int 0]) : EvD K c dr ls (tCKw (rMaxd K) t tk) σ B (nI (maxN L)) := fun B1 H1 e1 w Q q =>
  ha B1 H1 e1 w _ fun vs B2 H2 e2 w2 f => hk B2 (e1.trans e2) B2 H2 (Ex.refl _) w2 _ fun ws B3 H3 e3 w3 g => by
    obtain ⟨v, r, rfl, fv, fr⟩ := f.cons_inv
    rw [fr.nil_eq]
    obtain ⟨z, r, rfl, fz, fr⟩ := g.cons_inv
    rw [fr.nil_eq, fz.int_eq]
    obtain ⟨a, xs, rfl, hx, hd⟩ := fv.lst_inv
    rw [nats_ints] at hd
    rw [hd.ints] at hx
    refine ⟨a, _, 0, rfl, rfl, SqL.of (w3.inn _ _ (e3 _ _ hx)), fun m m1 m2 => ?_⟩
    have e : m = ((maxN L : Nat) : Int) := by
      by_cases h : L = []
      · subst h
        exact m1 rfl
      · obtain ⟨k1, k2⟩ := m2 (by intro z; exact h (List.map_eq_nil_iff.mp z))
        obtain ⟨n, n1, n2⟩ := List.mem_map.mp k1
        have h1 := (maxN_le L 0).2.1 n n1
        have h2 := k2 _ (List.mem_map.mpr ⟨_, maxN_mem h, rfl⟩)
        have h3 : ((maxN L : Nat) : Int) = ((L.foldl max 0 : Nat) : Int) := rfl
        omega
    rw [e]
    exact q _ B3 H3 (e2.trans e3) w3 (.int _)
end
section
variable {K : PySem.W.Frag} {c : Ent} {dr dr1 dr2 dr' : Dr} {ls : Ls} {σ : L2.St} {B B' H H' : Hp} {ta tb td te tl tx : TE} {Φ Ψ : V → Hp → Prop} {d d1 d2 : PyData} {ds es fs : List PyData} {p : Addr}
theorem q_drop {D : Ends} {tz : TS} (w : Wd K c dr ls B H) (h : EvB K c dr dr' ls te σ B Φ) (k : ∀ B1 H1, Ex B B1 → Wd K c dr' ls B1 H1 → tz D σ H1) : tSeq (tDrop te) tz D σ H := h B H (Ex.refl _) w _ fun v B1 H1 e1 w1 _ => k B1 H1 e1 w1
/-- a call with defaults -/
theorem c_Ddv {α : Type} {args : α → List PyData} {pre : α → Prop} {res : α → PyData} {dvs : List V} {t : TA} {a : α} (ha : EaD K c dr ls t σ B es) (hd : ∀ B, DaL K B dvs fs) (ea : args a = es ++ fs) (hp : pre a) : EvD K c dr ls (tCall (SpD K args pre res) dvs E0 t) σ B (res a) :=
  e_call ha fun vs B1 H1 Q _ e2 d q => ⟨B1, a, e2, by rw [ea]; exact d.app (hd B1), hp, q⟩
end
/-- a comprehension whose items are told by a property; the draws go on -/
theorem l_lcP {K : PySem.W.Frag} {c : Ent} {ls : Ls} {σ : L2.St} {B : Hp} {wi : TI} {g : TG} {te : TE} {vs : List Nat} {n : Nat} {f : Nat → PyData} (drs : Nat → Dr) (P : Nat → PyData → Prop) (h : EiB K c (drs 0) ls wi σ B n f) (hn : n ≤ 50000)
    (hs : ∀ i x D acc B1 H1, i < n → Ex B B1 → Ex B1 H1 → Da K B1 x (f i) → ∀ R : L2.St → Hp → Prop,
      (∀ σ2, wipe σ2 vs = wipe σ vs → EvB K c (drs i) (drs (i + 1)) ((D, .l acc) :: ls) te σ2 B1 (fun v B' => ∃ d, Da K B' v d ∧ P i d) → R σ2 H1) → g x (wipe σ vs) H1 R) :
    EvN K c (drs 0) (drs n) ls (tLc wi g tYes te vs) σ B fun ds => ds.length = n ∧ ∀ i d, ds[i]? = some d → P i d := fun B1 H1 e1 w Q q => by
  refine h B1 H1 e1 w _ fun J B2 H2 e2 w2 wk => fun D hD => ?_
  refine lc_it wk (fun i H' => ∃ B' acc, Ex B2 B' ∧ Wd K c (drs i) ((D, .l acc) :: ls) B' H' ∧ acc.length = i ∧ ∀ j d, acc[j]? = some d → P j d) ⟨B2, [], Ex.refl _, w2.grow hD ⟨[], upd_same, .nil⟩, rfl, fun j d hj => by simp at hj⟩ (fun i H' _ ⟨B', acc, e', w', _⟩ => e'.trans w'.inn)
    (fun i x H' H'' hlt ⟨B', acc, e', w', hl, hp⟩ y => ?_) fun H' ⟨B', acc, e', w', hl, hp⟩ => q D acc B' H' (e2.trans e') (w2.fresh0 hD) w' ⟨hl, hp⟩
  obtain ⟨B3, e3, up, fx⟩ := y B' e' w'.inn
  have w3 := up _ _ w'
  refine hs i x D acc B3 H'' hlt ((e1.trans e2).trans (e'.trans e3)) w3.inn fx _ fun σ2 hw he => ⟨hw, ?_⟩
  refine (he B3 H'' (Ex.refl _) w3 _ fun y B5 H5 e5 w5 ⟨d, fy, hpd⟩ => ?_ : te σ2 H'' _)
  obtain ⟨_, us, hacc, hd⟩ := w5.own
  refine ⟨us, hacc, Nat.lt_of_le_of_lt (by rw [hd.len, hl]; exact Nat.le_refl i) (Nat.lt_of_lt_of_le hlt (Nat.le_trans hn (by decide))), B5, acc ++ [d], (e'.trans e3).trans e5, w5.set ⟨us ++ [y], upd_same, hd.app (.one fy)⟩ (.inl (w2.fresh0 hD)), by rw [List.length_append, hl]; rfl, fun j d' hj => ?_⟩
  by_cases z : j < i
  · rw [List.getElem?_append_left (by omega)] at hj
    exact hp j d' hj
  · rw [List.getElem?_append_right (by omega)] at hj
    have hj0 : j - acc.length = 0 := by
      by_cases z2 : j - acc.length = 0
      · exact z2
      · rw [List.getElem?_eq_none (by simp; omega)] at hj
        cases hj
    rw [hj0] at hj
    cases hj
    have : j = i := by omega
    rw [this]
    exact hpd
section
variable {K : PySem.W.Frag} {c : Ent} {dr dr1 dr2 dr' : Dr} {ls : Ls} {σ : L2.St} {B B' H H' : Hp} {ta tb td te tl tx : TE} {t : TA} {Φ Ψ : V → Hp → Prop} {d d1 d2 : PyData} {ds es fs : List PyData} {p : Addr}
/-- a, b = x, y -/
theorem s_par {D : Ends} {i j : Nat} (w : Wd K c dr ls B H) (h : EaD K c dr ls t σ B [d1, d2]) (k : ∀ v1 v2 B1 H1, Ex B B1 → Wd K c dr ls B1 H1 → Da K B1 v1 d1 → Da K B1 v2 d2 → D.nx ((σ.set i (some v1)).set j (some v2)) H1) : tPar i j t D σ H :=
  h B H (Ex.refl _) w _ fun vs B1 H1 e1 w1 f => by
    obtain ⟨v1, r, rfl, f1, fr⟩ := f.cons_inv
    obtain ⟨v2, r, rfl, f2, fr⟩ := fr.cons_inv
    cases fr
    exact ⟨v1, v2, rfl, k v1 v2 B1 H1 e1 w1 f1 f2⟩
end
end GB
namespace GB
open PySem PySem.Spec PyProof.Rows L2
open Evl (Ex)
variable {P : Program} {w : World} {K : PySem.W.Frag} {mg : Str → Option Value} {base : Heap}

theorem lk {n : Nat} (h : Nat.ble n 100000 = true := by rfl) : n ≤ 100000 := Nat.le_of_ble_eq_true h
abbrev s_is_integer : Stmt := top 5
abbrev N_is_integer : List Str := ["thing"]
abbrev P_is_integer : List Str := ["thing"]
theorem sc_is_integer : FnScope N_is_integer P_is_integer (defScope s_is_integer) := scC_by (by decide +kernel)

abbrev s_is_between : Stmt := top 6
abbrev N_is_between : List Str := ["thing", "least", "most"]
abbrev P_is_between : List Str := ["thing", "least", "most"]
theorem sc_is_between : FnScope N_is_between P_is_between (defScope s_is_between) := scC_by (by decide +kernel)

abbrev s_span_of : Stmt := top 8
abbrev N_span_of : List Str := ["statement", "spans", "word", "start", "length"]
abbrev P_span_of : List Str := ["statement", "spans"]
theorem sc_span_of : FnScope N_span_of P_span_of (defScope s_span_of) := scC_by (by decide +kernel)

abbrev s_views : Stmt := top 9
abbrev N_views : List Str := ["program", "spans", "found", "number", "statement", "span", "parent"]
abbrev P_views : List Str := ["program"]
theorem sc_views : FnScope N_views P_views (defScope s_views) := scC_by (by decide +kernel)

abbrev s_reads : Stmt := top 10
abbrev N_reads : List Str := ["program", "found", "number", "statement"]
abbrev P_reads : List Str := ["program"]
theorem sc_reads : FnScope N_reads P_reads (defScope s_reads) := scC_by (by decide +kernel)

abbrev s_chosen : Stmt := top 12
abbrev N_chosen : List Str := ["policy", "statement", "need", "number", "capacity"]
abbrev P_chosen : List Str := ["policy", "statement", "need"]
theorem sc_chosen : FnScope N_chosen P_chosen (defScope s_chosen) := scC_by (by decide +kernel)

abbrev s_allotted : Stmt := top 14
abbrev N_allotted : List Str := ["program", "policy", "found", "row", "statement", "parent", "start", "length", "word", "capacity", "block", "copied"]
abbrev P_allotted : List Str := ["program", "policy", "found", "row"]
theorem sc_allotted : FnScope N_allotted P_allotted (defScope s_allotted) := scC_by (by decide +kernel)

abbrev s_allotments : Stmt := top 15
abbrev N_allotments : List Str := ["program", "policy", "found", "row"]
abbrev P_allotments : List Str := ["program", "policy"]
theorem sc_allotments : FnScope N_allotments P_allotments (defScope s_allotments) := scC_by (by decide +kernel)

abbrev s_copying : Stmt := top 16
abbrev N_copying : List Str := ["program", "policy", "found", "row", "capacity", "block", "copied"]
abbrev P_copying : List Str := ["program", "policy"]
theorem sc_copying : FnScope N_copying P_copying (defScope s_copying) := scC_by (by decide +kernel)

abbrev s_path_in : Stmt := top 18
abbrev N_path_in : List Str := ["known", "view", "found"]
abbrev P_path_in : List Str := ["known", "view"]
theorem sc_path_in : FnScope N_path_in P_path_in (defScope s_path_in) := scC_by (by decide +kernel)

abbrev s_meeting : Stmt := top 19
abbrev N_meeting : List Str := ["known", "view", "other", "others", "shared", "one"]
abbrev P_meeting : List Str := ["known", "view", "other"]
theorem sc_meeting : FnScope N_meeting P_meeting (defScope s_meeting) := scC_by (by decide +kernel)

abbrev s_need_read : Stmt := top 20
abbrev N_need_read : List Str := ["program", "read", "some"]
abbrev P_need_read : List Str := ["program", "read"]
theorem sc_need_read : FnScope N_need_read P_need_read (defScope s_need_read) := scC_by (by decide +kernel)

abbrev s_writes : Stmt := top 21
abbrev N_writes : List Str := ["program", "known", "found", "view", "number", "parent", "start", "length", "statement", "place"]
abbrev P_writes : List Str := ["program", "known"]
theorem sc_writes : FnScope N_writes P_writes (defScope s_writes) := scC_by (by decide +kernel)

abbrev s_candidates_in : Stmt := top 22
abbrev N_candidates_in : List Str := ["program", "known", "number", "view", "index", "place", "root", "found", "writer", "other", "low", "high"]
abbrev P_candidates_in : List Str := ["program", "known", "number", "view", "index"]
theorem sc_candidates_in : FnScope N_candidates_in P_candidates_in (defScope s_candidates_in) := scC_by (by decide +kernel)

abbrev s_links_between : Stmt := top 23
abbrev N_links_between : List Str := ["program", "known", "writer", "view", "candidate", "shared", "found", "one"]
abbrev P_links_between : List Str := ["program", "known", "writer", "view", "candidate"]
theorem sc_links_between : FnScope N_links_between P_links_between (defScope s_links_between) := scC_by (by decide +kernel)

abbrev s_candidates : Stmt := top 24
abbrev N_candidates : List Str := ["program", "read", "number", "view", "index", "candidate", "writer"]
abbrev P_candidates : List Str := ["program", "read"]
theorem sc_candidates : FnScope N_candidates P_candidates (defScope s_candidates) := scC_by (by decide +kernel)

abbrev s_table_policy : Stmt := top 27
abbrev N_table_policy : List Str := ["entries"]
abbrev P_table_policy : List Str := ["entries"]
theorem sc_table_policy : FnScope N_table_policy P_table_policy (defScope s_table_policy) := scC_by (by decide +kernel)

abbrev s_with_entry : Stmt := top 28
abbrev N_with_entry : List Str := ["entries", "statement", "capacity", "others", "entry"]
abbrev P_with_entry : List Str := ["entries", "statement", "capacity"]
theorem sc_with_entry : FnScope N_with_entry P_with_entry (defScope s_with_entry) := scC_by (by decide +kernel)

abbrev s_goal_of : Stmt := top 29
abbrev N_goal_of : List Str := ["program", "demand", "read", "candidate", "number", "view", "index", "known", "writer", "between", "ends", "statement", "parent", "start", "length"]
abbrev P_goal_of : List Str := ["program", "demand"]
theorem sc_goal_of : FnScope N_goal_of P_goal_of (defScope s_goal_of) := scC_by (by decide +kernel)

abbrev s_first_barred : Stmt := top 30
abbrev N_first_barred : List Str := ["program", "goals", "always", "index", "goal", "barred", "statement"]
abbrev P_first_barred : List Str := ["program", "goals"]
theorem sc_first_barred : FnScope N_first_barred P_first_barred (defScope s_first_barred) := scC_by (by decide +kernel)

abbrev s_raise_among : Stmt := top 31
abbrev N_raise_among : List Str := ["known", "copied", "goal", "shared", "between", "end", "above", "statement", "parent", "start", "length", "view"]
abbrev P_raise_among : List Str := ["known", "copied", "goal"]
theorem sc_raise_among : FnScope N_raise_among P_raise_among (defScope s_raise_among) := scC_by (by decide +kernel)

abbrev s_next_raise : Stmt := top 32
abbrev N_next_raise : List Str := ["program", "entries", "goals", "known", "copied", "index", "goal", "due"]
abbrev P_next_raise : List Str := ["program", "entries", "goals"]
theorem sc_next_raise : FnScope N_next_raise P_next_raise (defScope s_next_raise) := scC_by (by decide +kernel)

abbrev s_linked_table : Stmt := top 33
abbrev N_linked_table : List Str := ["program", "goals", "raises", "entries", "found"]
abbrev P_linked_table : List Str := ["program", "goals"]
theorem sc_linked_table : FnScope N_linked_table P_linked_table (defScope s_linked_table) := scC_by (by decide +kernel)

abbrev s_is_visible : Stmt := top 35
abbrev N_is_visible : List Str := ["program", "known", "copied", "view", "row", "candidate", "writer", "link"]
abbrev P_is_visible : List Str := ["program", "known", "copied", "view", "row"]
theorem sc_is_visible : FnScope N_is_visible P_is_visible (defScope s_is_visible) := scC_by (by decide +kernel)

abbrev s_origins : Stmt := top 36
abbrev N_origins : List Str := ["program", "policy", "known", "copied", "found", "statement", "view", "index", "rows"]
abbrev P_origins : List Str := ["program", "policy"]
theorem sc_origins : FnScope N_origins P_origins (defScope s_origins) := scC_by (by decide +kernel)

abbrev s_is_demand : Stmt := top 39
abbrev N_is_demand : List Str := ["program", "thing"]
abbrev P_is_demand : List Str := ["program", "thing"]
theorem sc_is_demand : FnScope N_is_demand P_is_demand (defScope s_is_demand) := scC_by (by decide +kernel)

abbrev s_need_demands : Stmt := top 40
abbrev N_need_demands : List Str := ["program", "demands", "most", "index", "thing"]
abbrev P_need_demands : List Str := ["program", "demands", "most"]
theorem sc_need_demands : FnScope N_need_demands P_need_demands (defScope s_need_demands) := scC_by (by decide +kernel)

abbrev s_goals_of : Stmt := top 41
abbrev N_goals_of : List Str := ["program", "demands", "demand"]
abbrev P_goals_of : List Str := ["program", "demands"]
theorem sc_goals_of : FnScope N_goals_of P_goals_of (defScope s_goals_of) := scC_by (by decide +kernel)

abbrev s_trimmed : Stmt := top 42
abbrev N_trimmed : List Str := ["program", "entries", "copied", "needs", "statement", "parent", "start", "length", "entry"]
abbrev P_trimmed : List Str := ["program", "entries"]
theorem sc_trimmed : FnScope N_trimmed P_trimmed (defScope s_trimmed) := scC_by (by decide +kernel)

abbrev s_first_unmet : Stmt := top 43
abbrev N_first_unmet : List Str := ["program", "demands", "entries", "found", "index", "read", "origin"]
abbrev P_first_unmet : List Str := ["program", "demands", "entries"]
theorem sc_first_unmet : FnScope N_first_unmet P_first_unmet (defScope s_first_unmet) := scC_by (by decide +kernel)

abbrev s_least_policy : Stmt := top 44
abbrev N_least_policy : List Str := ["program", "demands", "goals", "barred", "entries", "raises", "unmet"]
abbrev P_least_policy : List Str := ["program", "demands"]
theorem sc_least_policy : FnScope N_least_policy P_least_policy (defScope s_least_policy) := scC_by (by decide +kernel)

abbrev s_law_start : Stmt := top 46
abbrev N_law_start : List Str := ["_law_script"]
abbrev P_law_start : List Str := ["_law_script"]
theorem sc_law_start : FnScope N_law_start P_law_start (defScope s_law_start) := scC_by (by decide +kernel)

abbrev s_law_draw : Stmt := top 47
abbrev N_law_draw : List Str := ["_law_state", "_law_bound", "_law_digit", "_law_place_here", "_law_cell", "_law_great", "_law_mixed"]
abbrev P_law_draw : List Str := ["_law_state", "_law_bound"]
theorem sc_law_draw : FnScope N_law_draw P_law_draw (defScope s_law_draw) := scC_by (by decide +kernel)

abbrev s_law_place : Stmt := top 48
abbrev N_law_place : List Str := ["_law_state", "_law_sizes", "_law_least_size", "_law_some", "_law_view"]
abbrev P_law_place : List Str := ["_law_state", "_law_sizes", "_law_least_size"]
theorem sc_law_place : FnScope N_law_place P_law_place (defScope s_law_place) := scC_by (by decide +kernel)

abbrev s_law_index : Stmt := top 49
abbrev N_law_index : List Str := ["_law_state", "_law_size", "_law_way_here"]
abbrev P_law_index : List Str := ["_law_state", "_law_size"]
theorem sc_law_index : FnScope N_law_index P_law_index (defScope s_law_index) := scC_by (by decide +kernel)

abbrev s_law_values : Stmt := top 50
abbrev N_law_values : List Str := ["_law_state", "_law_many", "_law_k"]
abbrev P_law_values : List Str := ["_law_state"]
theorem sc_law_values : FnScope N_law_values P_law_values (defScope s_law_values) := scC_by (by decide +kernel)

abbrev s_law_statement : Stmt := top 51
abbrev N_law_statement : List Str := ["_law_state", "_law_sizes", "_law_way_here", "_law_size", "_law_view", "_law_low", "_law_other", "_law_place_here"]
abbrev P_law_statement : List Str := ["_law_state", "_law_sizes"]
theorem sc_law_statement : FnScope N_law_statement P_law_statement (defScope s_law_statement) := scC_by (by decide +kernel)

abbrev s_law_code : Stmt := top 52
abbrev N_law_code : List Str := ["_law_state", "_law_upto", "_law_found", "_law_k", "_law_sizes", "_law_view", "_law_row"]
abbrev P_law_code : List Str := ["_law_state", "_law_upto"]
theorem sc_law_code : FnScope N_law_code P_law_code (defScope s_law_code) := scC_by (by decide +kernel)

abbrev s_law_rows : Stmt := top 53
abbrev N_law_rows : List Str := ["_law_code_here", "_law_found", "_law_number", "_law_statement_here", "_law_word", "_law_start_here", "_law_size"]
abbrev P_law_rows : List Str := ["_law_code_here"]
theorem sc_law_rows : FnScope N_law_rows P_law_rows (defScope s_law_rows) := scC_by (by decide +kernel)

abbrev s_law_looks : Stmt := top 54
abbrev N_law_looks : List Str := ["_law_code_here", "_law_rows_here", "_law_found", "_law_number", "_law_statement_here"]
abbrev P_law_looks : List Str := ["_law_code_here", "_law_rows_here"]
theorem sc_law_looks : FnScope N_law_looks P_law_looks (defScope s_law_looks) := scC_by (by decide +kernel)

abbrev s_law_chosen : Stmt := top 55
abbrev N_law_chosen : List Str := ["_law_rule_here", "_law_number", "_law_need", "_law_entry"]
abbrev P_law_chosen : List Str := ["_law_rule_here", "_law_number", "_law_need"]
theorem sc_law_chosen : FnScope N_law_chosen P_law_chosen (defScope s_law_chosen) := scC_by (by decide +kernel)

abbrev s_law_new_block : Stmt := top 56
abbrev N_law_new_block : List Str := ["_law_block", "_law_start_here", "_law_size", "_law_cells", "_law_spot"]
abbrev P_law_new_block : List Str := ["_law_block", "_law_start_here", "_law_size"]
theorem sc_law_new_block : FnScope N_law_new_block P_law_new_block (defScope s_law_new_block) := scC_by (by decide +kernel)

abbrev s_law_appended : Stmt := top 57
abbrev N_law_appended : List Str := ["_law_state", "_law_rows_here", "_law_number", "_law_statement_here", "_law_rule_here", "_law_caps_here", "_law_homes", "_law_copied", "_law_parent", "_law_start_here", "_law_size", "_law_need", "_law_block", "_law_room", "_law_spot"]
abbrev P_law_appended : List Str := ["_law_state", "_law_rows_here", "_law_number", "_law_statement_here", "_law_rule_here"]
theorem sc_law_appended : FnScope N_law_appended P_law_appended (defScope s_law_appended) := scC_by (by decide +kernel)

abbrev s_law_run : Stmt := top 58
abbrev N_law_run : List Str := ["_law_code_here", "_law_rule_here", "_law_rows_here", "_law_caps_here", "_law_homes", "_law_copied", "_law_seen", "_law_number", "_law_statement_here", "_law_word", "_law_room", "_law_view", "_law_index_here", "_law_block"]
abbrev P_law_run : List Str := ["_law_code_here", "_law_rule_here"]
theorem sc_law_run : FnScope N_law_run P_law_run (defScope s_law_run) := scC_by (by decide +kernel)

abbrev s_law_writes : Stmt := top 59
abbrev N_law_writes : List Str := ["_law_code_here", "_law_rows_here", "_law_found", "_law_made", "_law_number", "_law_statement_here", "_law_word", "_law_row", "_law_end", "_law_spot", "_law_view"]
abbrev P_law_writes : List Str := ["_law_code_here", "_law_rows_here"]
theorem sc_law_writes : FnScope N_law_writes P_law_writes (defScope s_law_writes) := scC_by (by decide +kernel)

abbrev s_law_way : Stmt := top 60
abbrev N_law_way : List Str := ["_law_rows_here", "_law_view", "_law_found"]
abbrev P_law_way : List Str := ["_law_rows_here", "_law_view"]
theorem sc_law_way : FnScope N_law_way P_law_way (defScope s_law_way) := scC_by (by decide +kernel)

abbrev s_law_writers : Stmt := top 61
abbrev N_law_writers : List Str := ["_law_code_here", "_law_rows_here", "_law_look", "_law_root", "_law_found", "_law_number", "_law_view", "_law_low", "_law_end", "_law_is_near"]
abbrev P_law_writers : List Str := ["_law_code_here", "_law_rows_here", "_law_look"]
theorem sc_law_writers : FnScope N_law_writers P_law_writers (defScope s_law_writers) := scC_by (by decide +kernel)

abbrev s_law_rule : Stmt := top 62
abbrev N_law_rule : List Str := ["_law_state", "_law_code_here", "_law_way_here", "_law_below", "_law_found", "_law_number", "_law_room"]
abbrev P_law_rule : List Str := ["_law_state", "_law_code_here"]
theorem sc_law_rule : FnScope N_law_rule P_law_rule (defScope s_law_rule) := scC_by (by decide +kernel)

abbrev s_law_is_at_most : Stmt := top 63
abbrev N_law_is_at_most : List Str := ["_law_caps_here", "_law_others", "_law_one", "_law_other"]
abbrev P_law_is_at_most : List Str := ["_law_caps_here", "_law_others"]
theorem sc_law_is_at_most : FnScope N_law_is_at_most P_law_is_at_most (defScope s_law_is_at_most) := scC_by (by decide +kernel)

abbrev s_law_is_met : Stmt := top 64
abbrev N_law_is_met : List Str := ["_law_code_here", "_law_rule_here", "_law_wanted_here", "_law_seen", "_law_one"]
abbrev P_law_is_met : List Str := ["_law_code_here", "_law_rule_here", "_law_wanted_here"]
theorem sc_law_is_met : FnScope N_law_is_met P_law_is_met (defScope s_law_is_met) := scC_by (by decide +kernel)

abbrev s_law_wanted : Stmt := top 65
abbrev N_law_wanted : List Str := ["_law_state", "_law_code_here", "_law_rows_here", "_law_upto", "_law_rule_here", "_law_way_here", "_law_seen", "_law_looks_here", "_law_found", "_law_k", "_law_at", "_law_some"]
abbrev P_law_wanted : List Str := ["_law_state", "_law_code_here", "_law_rows_here", "_law_upto", "_law_rule_here"]
theorem sc_law_wanted : FnScope N_law_wanted P_law_wanted (defScope s_law_wanted) := scC_by (by decide +kernel)

abbrev s_law_caps : Stmt := top 66
abbrev N_law_caps : List Str := ["_law_code_here", "_law_wanted_here", "_law_found"]
abbrev P_law_caps : List Str := ["_law_code_here", "_law_wanted_here"]
theorem sc_law_caps : FnScope N_law_caps P_law_caps (defScope s_law_caps) := scC_by (by decide +kernel)

abbrev s_law_again : Stmt := top 67
abbrev N_law_again : List Str := ["_law_code_here", "_law_rule_here", "_law_seen", "_law_found"]
abbrev P_law_again : List Str := ["_law_code_here", "_law_rule_here"]
theorem sc_law_again : FnScope N_law_again P_law_again (defScope s_law_again) := scC_by (by decide +kernel)

abbrev s_law_is_right : Stmt := top 68
abbrev N_law_is_right : List Str := ["_law_code_here", "_law_drawn", "_law_mine", "_law_yours", "_law_both", "_law_parts", "_law_caps_here", "_law_some"]
abbrev P_law_is_right : List Str := ["_law_code_here", "_law_drawn", "_law_mine", "_law_yours"]
theorem sc_law_is_right : FnScope N_law_is_right P_law_is_right (defScope s_law_is_right) := scC_by (by decide +kernel)

abbrev s_law : Stmt := top 69
abbrev N_law : List Str := ["_law_script", "_law_state", "_law_turn", "_law_code_here", "_law_rows_here", "_law_drawn", "_law_mine", "_law_yours"]
abbrev P_law : List Str := ["_law_script"]
theorem sc_law : FnScope N_law P_law (defScope s_law) := scC_by (by decide +kernel)

/-! ### promises of the program's defs -/
abbrev sp_is_integer (K : PySem.W.Frag) : Sp := SpD K (fun a : Int => [.int a]) (fun _ => True) fun _ => .bool true
abbrev sp_is_between (K : PySem.W.Frag) : Sp := SpD K (fun a : Int × Int × Int => [.int a.1, .int a.2.1, .int a.2.2]) (fun _ => True) fun a => .bool (decide (a.2.1 ≤ a.1) && decide (a.1 ≤ a.2.2))
abbrev sp_span_of (K : PySem.W.Frag) : Sp := SpD K (fun a : Stm × List Row × Nat => [dStm a.1, .list (a.2.1.map dSpan)]) (fun a => StmOk a.2.1 a.1) fun a => match rowOf a.2.1 a.2.2 a.1 with | some r => dSpan r | none => .none
abbrev sp_views (K : PySem.W.Frag) : Sp := SpN K (fun p : Prog => [dProg p]) PgOk fun p ds => ds = (rows p).map dRow
abbrev sp_reads (K : PySem.W.Frag) : Sp := SpN K (fun p : Prog => [dProg p]) PgOk fun p ds => ds = (reads p).map dRead
abbrev sp_chosen (K : PySem.W.Frag) : Sp := SpD K (fun a : Rule × Nat × Nat => [dRule a.1, nI a.2.1, nI a.2.2]) (fun a => RuleOk a.1 ∧ a.2.2 ≤ 100000) fun a => dO (chOf a.1 a.2.1 a.2.2)
abbrev sp_allotted (K : PySem.W.Frag) : Sp := SpD K (fun a : Prog × Rule × Nat => [dProg a.1, dRule a.2.1, .list ((allN a.1 (chOf a.2.1) a.2.2).map dAlt), dRow ((rows a.1).getD a.2.2 row0)]) (fun a => PgOk a.1 ∧ RuleOk a.2.1 ∧ a.2.2 < nv a.1) fun a =>
  dAlt (allot1 a.1 (chOf a.2.1) (allN a.1 (chOf a.2.1) a.2.2) ((rows a.1).getD a.2.2 row0))
abbrev sp_allotments (K : PySem.W.Frag) : Sp := SpN K (fun a : Prog × Rule => [dProg a.1, dRule a.2]) (fun a => PgOk a.1 ∧ RuleOk a.2) fun a ds => ds = (allN a.1 (chOf a.2) (nv a.1)).map dAlt
abbrev sp_copying (K : PySem.W.Frag) : Sp := SpN K (fun a : Prog × Rule => [dProg a.1, dRule a.2]) (fun a => PgOk a.1 ∧ RuleOk a.2) fun a ds => ds = (copying a.1 (chOf a.2)).map nI
abbrev sp_path_in (K : PySem.W.Frag) : Sp := SpN K (fun a : Prog × Nat => [dRows (rows a.1), nI a.2]) (fun a => PgOk a.1 ∧ a.2 < nv a.1) fun a ds => ds = (vanc a.1 a.2).map nI
abbrev sp_meeting (K : PySem.W.Frag) : Sp := SpD K (fun a : Prog × Nat × Nat => [dRows (rows a.1), nI a.2.1, nI a.2.2]) (fun a => PgOk a.1 ∧ a.2.1 < nv a.1 ∧ a.2.2 < nv a.1) fun a => dO (meet (vpar a.1) a.2.1 a.2.2)
abbrev sp_need_read (K : PySem.W.Frag) : Sp := SpD K (fun a : Prog × Nat × (Nat × Nat × Nat) => [dProg a.1, nI a.2.1]) (fun a => PgOk a.1 ∧ (reads a.1)[a.2.1]? = some a.2.2) fun a => dRead a.2.2
/-- a new dict: its pairs are told -/
def RC (K : PySem.W.Frag) (B H : Hp) (P : Hp → List (Key × V) → Prop) (Q : VK) : Prop :=
  ∀ p kvs B' H', Ex B B' → Ex B' H' → Ex H H' → (∀ a, B' a ≠ none → B a ≠ none ∨ H a = none) → H p = none → B' p = none → H' p = some (.dK kvs) → P B' kvs → Q (.ref p) H'
abbrev Wr := Nat × Nat × Nat × Nat
/-- who writes where, as pairs of a dict -/
def WrD (K : PySem.W.Frag) (B : Hp) : List (Key × V) → List Wr → Prop
  | [], [] => True
  | kv :: kvs, e :: es => kv.1 = .inl (e.1 : Int) ∧ Da K B kv.2 (.tuple [nI e.2.1, nI e.2.2.1, .int ((e.2.2.2 : Int) - 1)]) ∧ WrD K B kvs es
  | _, _ => False
structure WrAll (p : Prog) (E : List Wr) : Prop where
  nd : (E.map (·.1)).Nodup
  iff : ∀ e, e ∈ E ↔ wr p e.1 = some e.2
def sp_writes (K : PySem.W.Frag) : Sp := fun vs H Q _ => ∃ (B : Hp) (p : Prog), Ex B H ∧ DaL K B vs [dProg p, dRows (rows p)] ∧ PgOk p ∧ RC K B H (fun B' kvs => ∃ E, WrAll p E ∧ WrD K B' kvs E) Q
abbrev sp_candidates_in (K : PySem.W.Frag) : Sp := SpN K (fun a : Prog × Nat × Nat × Nat => [dProg a.1, dRows (rows a.1), nI a.2.1, nI a.2.2.1, nI a.2.2.2]) (fun a => PgOk a.1 ∧ a.2.2.1 < nv a.1) fun a ds => ds = (candL a.1 a.2.1 a.2.2.1 (vstart a.1 a.2.2.1 + a.2.2.2)).map dPair
abbrev sp_links_between (K : PySem.W.Frag) : Sp := SpN K (fun a : Prog × Nat × Nat × Nat × Nat => [dProg a.1, dRows (rows a.1), nI a.2.1, nI a.2.2.1, nI a.2.2.2.1])
  (fun a => PgOk a.1 ∧ a.2.1 < nv a.1 ∧ a.2.2.1 < nv a.1 ∧ meet (vpar a.1) a.2.1 a.2.2.1 = some a.2.2.2.2) fun a ds => ∃ ns : List Nat, ds = ns.map nI ∧ ns.length ≤ 1000 ∧ ∀ s, s ∈ ns ↔ ∃ u, LinkV a.1 a.2.1 a.2.2.1 a.2.2.2.2 a.2.2.2.1 u ∧ vst a.1 u = s
abbrev sp_candidates (K : PySem.W.Frag) : Sp := SpN K (fun a : Prog × Nat × (Nat × Nat × Nat) => [dProg a.1, nI a.2.1]) (fun a => PgOk a.1 ∧ (reads a.1)[a.2.1]? = some a.2.2) fun a ds =>
  ds = (candL a.1 a.2.2.1 a.2.2.2.1 (vstart a.1 a.2.2.2.1 + a.2.2.2.2)).map fun e => nI e.1
abbrev sp_table_policy (K : PySem.W.Frag) : Sp := SpD K (fun T : Tab => [dTab T]) (fun _ => True) fun T => dRule (.table T)
abbrev sp_with_entry (K : PySem.W.Frag) : Sp := SpD K (fun a : Tab × Nat × Nat => [dTab a.1, nI a.2.1, nI a.2.2]) (fun a => Srt a.1 ∧ a.1.length ≤ 1000) fun a => dTab (putE a.2.1 a.2.2 a.1)
abbrev sp_goal_of (K : PySem.W.Frag) : Sp := SpB K (fun a : Prog × Dem => [dProg a.1, dPair a.2]) (fun a => PgOk a.1 ∧ DemOk a.1 a.2) fun a v B' => ∃ g, GoalFor a.1 a.2 g ∧ g.e ≤ 1000 ∧ g.ls.length ≤ 1000 ∧ Da K B' v (dGoal g)
abbrev GoalsB (gs : List Goal) : Prop := ∀ g, g ∈ gs → g.e ≤ 1000 ∧ g.ls.length ≤ 1000
abbrev sp_goals_of (K : PySem.W.Frag) : Sp := SpN K (fun a : Prog × List Dem => [dProg a.1, dDems a.2]) (fun a => PgOk a.1 ∧ (∀ d, d ∈ a.2 → DemOk a.1 d) ∧ a.2.length ≤ 1000) fun a ds => ∃ gs, GoalsFor a.1 a.2 gs ∧ GoalsB gs ∧ ds = gs.map dGoal
def dO2 : Option (Nat × Nat) → PyData
  | none => .none
  | some e => dPair e
def dO3 : Option (Nat × Nat × Nat) → PyData
  | none => .none
  | some e => dRead e
abbrev sp_first_barred (K : PySem.W.Frag) : Sp := SpB K (fun a : Prog × List Goal => [dProg a.1, .list (a.2.map dGoal)]) (fun a => PgOk a.1 ∧ a.2.length ≤ 1000 ∧ GoalsB a.2) fun a v B' =>
  ∃ o : Option (Nat × Nat), (o = none ↔ ∀ g, g ∈ a.2 → hit (copying a.1 infc) g = false) ∧ Da K B' v (dO2 o)
def raiseP (p : Prog) (cs : List Nat) (g : Goal) : Option (Nat × Nat) :=
  if hit cs g = true then ((vanc p g.a).filter fun v => decide (vst p v ∈ cs)).getLast?.map fun h => (vst p h, g.e - vstart p h) else none
/-- a goal that is not linked has a copy above, which ends ahead of it -/
def RaiseOk (p : Prog) (cs : List Nat) (g : Goal) : Prop := g.a < nv p ∧ (hit cs g = true → ∃ h, ((vanc p g.a).filter fun v => decide (vst p v ∈ cs)).getLast? = some h ∧ vstart p h ≤ g.e)
abbrev sp_raise_among (K : PySem.W.Frag) : Sp := SpD K (fun a : Prog × List Nat × Goal => [dRows (rows a.1), dNats a.2.1, dGoal a.2.2]) (fun a => PgOk a.1 ∧ RaiseOk a.1 a.2.1 a.2.2 ∧ a.2.2.ls.length ≤ 1000) fun a => dO2 (raiseP a.1 a.2.1 a.2.2)
abbrev Pg := { p : Prog // PgOk p }
abbrev sp_next_raise (K : PySem.W.Frag) : Sp := SpD K (fun a : Pg × Tab × List Goal => [dProg a.1.1, dTab a.2.1, .list (a.2.2.map dGoal)])
  (fun a => a.2.1.length ≤ 1000 ∧ a.2.2.length ≤ 1000 ∧ GoalsB a.2.2 ∧ ∀ g, g ∈ a.2.2 → RaiseOk a.1.1 (copying a.1.1 (tch a.2.1)) g) fun a => dO3 (nextRaise a.1.1 a.1.2.ok a.2.1 a.2.2)
abbrev sp_linked_table (K : PySem.W.Frag) : Sp := SpB K (fun a : Pg × List Dem × List Goal => [dProg a.1.1, .list (a.2.2.map dGoal)])
  (fun a => a.2.2.length ≤ 1000 ∧ GoalsB a.2.2 ∧ GoalsFor a.1.1 a.2.1 a.2.2 ∧ ∀ g, g ∈ a.2.2 → hit (copying a.1.1 infc) g = false) fun a v B' =>
  ∃ T rs, Reach (tabs a.1.1 a.1.2.ok) a.2.2 T ∧ T.length ≤ 1000 ∧ nextRaise a.1.1 a.1.2.ok T a.2.2 = none ∧ Da K B' v (.tuple [dTab T, .list rs])
abbrev sp_is_visible (K : PySem.W.Frag) : Sp := SpD K (fun a : Prog × Rule × Nat × Nat × Nat => [dProg a.1, dRows (rows a.1), dNats (copying a.1 (chOf a.2.1)), nI a.2.2.1, dPair a.2.2.2])
  (fun a => PgOk a.1 ∧ RuleOk a.2.1 ∧ a.2.2.1 < nv a.1 ∧ a.2.2.2.2 < nv a.1 ∧ vroot a.1 a.2.2.2.2 = vroot a.1 a.2.2.1) fun a => .bool (visB a.1 (cpOf a.1 (chOf a.2.1)) a.2.2.2.2 a.2.2.1 a.2.2.2.1)
abbrev sp_origins (K : PySem.W.Frag) : Sp := SpN K (fun a : Prog × Rule => [dProg a.1, dRule a.2]) (fun a => PgOk a.1 ∧ RuleOk a.2) fun a ds => ds = (originsL a.1 (cpOf a.1 (chOf a.2))).map nI
abbrev sp_is_demand (K : PySem.W.Frag) : Sp := SpD K (fun a : Prog × Dem => [dProg a.1, dPair a.2]) (fun a => PgOk a.1 ∧ DemOk a.1 a.2) fun _ => .bool true
abbrev sp_need_demands (K : PySem.W.Frag) : Sp := SpD K (fun a : Prog × List Dem => [dProg a.1, dDems a.2, .int 60]) (fun a => PgOk a.1 ∧ a.2.length ≤ 60 ∧ ∀ d, d ∈ a.2 → DemOk a.1 d) fun _ => .none
abbrev sp_trimmed (K : PySem.W.Frag) : Sp := SpD K (fun a : Prog × Tab => [dProg a.1, dTab a.2]) (fun a => PgOk a.1 ∧ a.2.length ≤ 1000) fun a => dTab (trimT a.1 a.2)
abbrev sp_first_unmet (K : PySem.W.Frag) : Sp := SpB K (fun a : Prog × List Dem × Tab => [dProg a.1, dDems a.2.1, dTab a.2.2]) (fun a => PgOk a.1 ∧ a.2.1.length ≤ 1000 ∧ (∀ d, d ∈ a.2.1 → DemOk a.1 d) ∧ a.2.2.length ≤ 1000) fun a v B' =>
  ∃ o : Option (Nat × Nat), (o = none ↔ Met a.1 (cpOf a.1 (tch a.2.2)) a.2.1) ∧ Da K B' v (dO2 o)
/-- how the least policy is told -/
def LeastD (o : Option Tab) (d : PyData) : Prop := match o with
  | some U => ∃ rs, d = .tuple [.str "policy", dRule (.table U), .list rs]
  | none => ∃ (x : Str) (r : List PyData), d = .tuple (.str x :: r) ∧ 2 ≤ r.length ∧ x ≠ "policy"
abbrev sp_least_policy (K : PySem.W.Frag) : Sp := SpB K (fun a : Pg × List Dem => [dProg a.1.1, dDems a.2]) (fun a => a.2.length ≤ 60 ∧ ∀ d, d ∈ a.2 → DemOk a.1.1 d) fun a v B' =>
  ∃ o d, IsLeast a.1.1 a.1.2.ok a.2 o ∧ (∀ U, o = some U → U.length ≤ 1000) ∧ LeastD o d ∧ Da K B' v d
end GB
/-! Blocks of the law's run: a list [base, dict], the dict under way. -/
namespace GB
open PySem PySem.Spec PyProof.Rows L2
open Evl (Ex)
section
variable {K : PySem.W.Frag} {c : Ent} {dr dr' : Dr} {ls l1 l2 : Ls} {σ : L2.St} {B B' H H' : Hp} {te tb tk tv : TE} {d : PyData} {ds es : List PyData} {p : Addr} {o : HO} {ct ct' : Ct} {D : Ends} {tz : TS} {i : Nat}
theorem Wd.setM (w : Wd K c dr (l1 ++ (p, ct) :: l2) B H) (ho : CtOk K B (upd H p o) p ct') (hp : c.H p = none ∨ p ∈ c.M) : Wd K c dr (l1 ++ (p, ct') :: l2) B (upd H p o) :=
  ((w.perm (List.perm_middle.symm)).set ho hp).perm List.perm_middle
theorem Wd.ownM (w : Wd K c dr (l1 ++ (p, ct) :: l2) B H) : B p = none ∧ CtOk K B H p ct := w.cts (p, ct) (List.mem_append_right _ List.mem_cons_self)
/-- data appended to a list in the middle -/
theorem q_appM (w : Wd K c dr (l1 ++ (p, .l ds) :: l2) B H) (h0 : c.H p = none ∨ p ∈ c.M) (h : EvD K c dr (l1 ++ (p, .l ds) :: l2) te σ B d) (hl : ds.length < 100000) (k : ∀ B1 H1, Ex B B1 → Wd K c dr (l1 ++ (p, .l (ds ++ [d])) :: l2) B1 H1 → tz D σ H1)
    (hi : σ[i]? = some (some (.ref p)) := by rfl) : tSeq (tDrop (tBM K "list" rAppend (tVar i) (tCons te tNil))) tz D σ H := by
  obtain ⟨_, vs, hH, _⟩ := w.ownM
  refine ⟨.ref p, hi, Or.inl ⟨rfl, vs, SqL.of hH⟩, h B H (Ex.refl _) w _ fun v B1 H1 e1 w1 f => ?_⟩
  obtain ⟨_, ws, hW, hd⟩ := w1.ownM
  exact ⟨p, ws, v, rfl, rfl, hW, Nat.lt_of_lt_of_le (by rw [hd.len]; exact hl) (by decide), k B1 _ e1 (w1.setM ⟨ws ++ [v], upd_same, hd.app (.one f)⟩ h0)⟩
/-- any value appended to a raw list in the middle -/
theorem q_appRM {vs : List V} {Φ : V → Hp → Prop} (w : Wd K c dr (l1 ++ (p, .raw vs) :: l2) B H) (h0 : c.H p = none ∨ p ∈ c.M) (h : EvB K c dr dr' (l1 ++ (p, .raw vs) :: l2) te σ B Φ) (hl : vs.length < 100000) (k : ∀ v B1 H1, Ex B B1 → Φ v B1 → Wd K c dr' (l1 ++ (p, .raw (vs ++ [v])) :: l2) B1 H1 → tz D σ H1)
    (hi : σ[i]? = some (some (.ref p)) := by rfl) : tSeq (tDrop (tBM K "list" rAppend (tVar i) (tCons te tNil))) tz D σ H := by
  have hH : H p = some (.lst vs) := w.ownM.2
  refine ⟨.ref p, hi, Or.inl ⟨rfl, vs, SqL.of hH⟩, h B H (Ex.refl _) w _ fun v B1 H1 e1 w1 f => ?_⟩
  have hW : H1 p = some (.lst vs) := w1.ownM.2
  exact ⟨p, vs, v, rfl, rfl, hW, Nat.lt_of_lt_of_le hl (by decide), k v B1 _ e1 f (w1.setM (ct' := .raw (vs ++ [v])) (show upd H1 p _ p = _ from upd_same) h0)⟩
/-- an item of a raw list -/
theorem e_ixRM {vs : List V} {j : Nat} {v : V} (hm : (p, Ct.raw vs) ∈ ls) (hb : EvD K c dr ls tb σ B (nI j)) (h : vs[j]? = some v) (hi : σ[i]? = some (some (.ref p)) := by rfl) : EvB K c dr dr ls (tOp (rIxL K) (tVar i) tb) σ B fun x _ => x = v := fun B1 H1 e1 w Q q =>
  ⟨.ref p, hi, hb B1 H1 e1 w _ fun y B2 H2 e2 w2 fy => by
    have hv : H2 p = some (.lst vs) := (w2.cts _ hm).2
    exact ⟨p, vs, (j : Int), v, rfl, fy.int_eq, SqL.of hv, atI_nat h, q v B2 H2 e2 w2 rfl⟩⟩
end
def vO : Option Nat → V
  | none => .non
  | some n => .int (n : Int)
theorem da_vO {K : PySem.W.Frag} {B : Hp} (o : Option Nat) : Da K B (vO o) (dO o) := by
  cases o with
  | none => exact .non
  | some n => exact .int _
/-- a dict tells f -/
def KvR (kvs : List (Key × V)) (f : Nat → Option (Option Nat)) : Prop := ∀ x : Nat, valV kvs (.inl (x : Int)) = (f x).map vO
theorem KvR.nil : KvR [] fun _ => none := fun _ => rfl
theorem KvR.put {kvs : List (Key × V)} {f : Nat → Option (Option Nat)} (h : KvR kvs f) (x : Nat) (o : Option Nat) : KvR (putK kvs (.inl (x : Int)) (vO o)) fun y => if y = x then some o else f y := fun y => by
  rw [valV_put]
  by_cases e : y = x
  · subst e
    rw [if_pos rfl]
    show _ = Option.map vO (if y = y then some o else f y)
    rw [if_pos rfl]
    rfl
  · rw [if_neg (fun z : (Sum.inl (y : Int) : Key) = Sum.inl (x : Int) => e (Int.ofNat.inj (Sum.inl.inj z)))]
    show _ = Option.map vO (if y = x then some o else f y)
    rw [if_neg e]
    exact h y
section
variable {K : PySem.W.Frag} {c : Ent} {dr : Dr} {ls l1 l2 : Ls} {σ : L2.St} {B B' H H' : Hp} {te tb tk tv : TE} {d : PyData} {D : Ends} {i : Nat} {a q : Addr} {kvs : List (Key × V)} {bk : Blk}
/-- the block at a: its base and its dict -/
def BAt (B : Hp) (a q : Addr) (b : Option Nat) : Prop := B a = some (.lst [vO b, .ref q])
theorem BAt.mono {b : Option Nat} (h : BAt B a q b) (e : Ex B B') : BAt B' a q b := e _ _ h
/-- block[1].get(x, block[0]) -/
theorem e_get2 {x : Nat} (hb : BAt B a q bk.1) (hm : (q, Ct.dct kvs) ∈ ls) (hk : KvR kvs bk.2) (ht : EvD K c dr ls tk σ B (nI x)) (hi : σ[i]? = some (some (.ref a)) := by rfl) :
    EvD K c dr ls (tDGet2 (tOp (rIxL K) (tVar i) (tC (.int 1))) tk (tOp (rIxL K) (tVar i) (tC (.int 0)))) σ B (dO (bget bk x)) := fun B1 H1 e1 w Q k => by
  have h1 : H1 a = some (.lst [vO bk.1, .ref q]) := w.inn _ _ (hb.mono e1)
  have hd1 : H1 q = some (.dK kvs) := (w.cts _ hm).2
  refine ⟨.ref a, hi, a, [vO bk.1, .ref q], 1, .ref q, rfl, rfl, SqL.of h1, atI_nat (j := 1) rfl, q, rfl, .inl ⟨kvs, .inl hd1⟩, ht B1 H1 e1 w _ fun y B2 H2 e2 w2 fy => ?_⟩
  have h2 : H2 a = some (.lst [vO bk.1, .ref q]) := w2.inn _ _ ((hb.mono e1).mono e2)
  have hd2 : H2 q = some (.dK kvs) := (w2.cts _ hm).2
  refine ⟨.ref a, hi, a, [vO bk.1, .ref q], 0, vO bk.1, rfl, rfl, SqL.of h2, atI_nat (j := 0) rfl, valV kvs (.inl (x : Int)), ?_, k _ B2 H2 e2 w2 ?_⟩
  · rw [fy.int_eq]
    exact DGet.k (k := Sum.inl (x : Int)) hd2
  · rw [hk x]
    have e : ((bk.2 x).map vO).getD (vO bk.1) = vO (bget bk x) := by
      unfold bget
      cases bk.2 x <;> rfl
    rw [e]
    exact da_vO _
/-- block[1][x] = n -/
theorem s_bput {x : Nat} {o : Option Nat} (w : Wd K c dr (l1 ++ (q, .dct kvs) :: l2) B H) (h0 : c.H q = none ∨ q ∈ c.M) (b : Option Nat) (hb : BAt B a q b) (hv : EvD K c dr (l1 ++ (q, .dct kvs) :: l2) tv σ B (dO o)) (hk : ∀ B1, Ex B B1 → EvD K c dr (l1 ++ (q, .dct kvs) :: l2) tk σ B1 (nI x)) (hl : kvs.length < 100000)
    (k : ∀ B1 H1, Ex B B1 → Wd K c dr (l1 ++ (q, .dct (putK kvs (.inl (x : Int)) (vO o))) :: l2) B1 H1 → D.nx σ H1) (hi : σ[i]? = some (some (.ref a)) := by rfl) : sDPut (tOp (rIxL K) (tVar i) (tC (.int 1))) tk tv D σ H :=
  hv B H (Ex.refl _) w _ fun v B1 H1 e1 w1 fv => by
    have h1 : H1 a = some (.lst [vO b, .ref q]) := w1.inn _ _ (hb.mono e1)
    refine ⟨.ref a, hi, a, [vO b, .ref q], 1, .ref q, rfl, rfl, SqL.of h1, atI_nat (j := 1) rfl, hk B1 e1 B1 H1 (Ex.refl _) w1 _ fun y B2 H2 e2 w2 fy => ?_⟩
    have hd : H2 q = some (.dK kvs) := w2.ownM.2
    have ev : v = vO o := by
      cases o with
      | none => exact fv.non_eq
      | some n => exact fv.int_eq
    subst ev
    refine ⟨q, _, rfl, ?_, k B2 _ (e1.trans e2) (w2.setM (ct' := .dct (putK kvs (.inl (x : Int)) (vO o))) (show upd H2 q _ q = _ from upd_same) h0)⟩
    rw [fy.int_eq]
    exact DPut.k (k := Sum.inl (x : Int)) hd (Nat.lt_of_lt_of_le hl (by decide))
end
end GB
/-! Defs that are called where nothing is being shown; the law's own end. -/
namespace GB
open PySem PySem.Spec PyProof.Rows L2
open Evl (Ex)
/-- nothing is being shown -/
abbrev Qt (A : Around) : Prop := A.guards = some []
structure FnG (P : Program) (w : World) (K : PySem.W.Frag) (mg : Str → Option Value) (base : Heap) (k : Nat) (f : Addr) (fd : FuncData) (ps : List Str) (sp : Sp) : Prop where
  siz : ∀ vs H Q E, sp vs H Q E → vs.length = ps.length
  go : ∀ (A : Around) (o : List Env) (s : Shared) (H : Hp) (g : Args) (us : List Value) (vs : List V) (Q : VK) (E : XK), Qt A → Room k A → Env0 P w K mg base A o s H → BindsTo s fd g (ps.zip us) → Vals vs us → sp vs H Q E → codeAny (model P w) A (.call (.ref f) g) (CR CX0 o P w H s Q E) s
def ClG (P : Program) (w : World) (K : PySem.W.Frag) (mg : Str → Option Value) (base : Heap) (k : Nat) (x : Str) (sp : Sp) : Prop :=
  ∃ (f : Addr) (fd : FuncData) (ps : List Str), FnG P w K mg base k f fd ps sp ∧ mg x = some (.ref f) ∧ PySem.W.keepIn K (.ref f) = true ∧ Binds K fd ps []
section
variable {P : Program} {w : World} {K : PySem.W.Frag} {mg : Str → Option Value} {base : Heap}
theorem fnG_of {x : Str} {st : Stmt} {N ps : List Str} {k : Nat} {sp : Sp} {f : Addr} {fd : FuncData} (F : FnP K x st [] f fd) (S : FnScope N ps (defScope st)) (siz : ∀ vs H Q E, sp vs H Q E → vs.length = ps.length)
    (bd : ∀ (cdv : Value) (A : Around) (o : List Env) (s : Shared) (H : Hp) (vs : List V) (Q : VK) (E : XK), Qt (A.deeper (envOfC x (defScope st) s.heap.objs.size f cdv)) → Room k (A.deeper (envOfC x (defScope st) s.heap.objs.size f cdv)) → sp vs H Q E →
      ∃ t, PSs (cxOf CX0 P w K mg base N x (defScope st) f cdv A o s H E).nox (defBody st) t ∧ t { nx := fun _ H' => Q .non H', rt := Q } (start N vs) H) : FnG P w K mg base (k + 1) f fd ps sp := by
  obtain ⟨c1, c2, c3, c4, c5, c6, c7, cdv, c9, c10, rfl, at_, hcode, _, _⟩ := F.ex
  refine ⟨siz, fun A o s H g us vs Q E hq hr e0 hb rel hs => ?_⟩
  have old : ∀ b u, base.get? b = some u → s.heap.get? b = some u := fun b u h => (e0.bs b u h).1
  have hlen := siz _ _ _ _ hs
  refine Att.call_fn (e0.mod.kin.keeps old) (e0.mod.nolimit.keeps old) at_ hcode hr.depth hb ?_ (fun s1 inn => ?_) S.co S.gen S.kind
  · rw [List.all_eq_true]
    rintro ⟨n, v⟩ hy
    rcases S.par n (List.of_mem_zip hy).1 with h | h
    · simp [h]
    · simp [h]
  · obtain ⟨t, ht, hd⟩ := bd cdv A o s H vs Q E hq (hr.deeper _) hs
    have I := inv_start (CX := CX0) (P := P) (w := w) (K := K) (N := N) (E := E) S hr.hd e0 hlen rel inn
    refine wpAny_mono ((PSs.nox ht).run [] s1 (start N vs) H _ I hd) (fun e s' h => ?_) fun e s' h => h
    cases e with
    | ret u =>
      obtain ⟨v, σ', H', J, rv, q⟩ := h
      exact ⟨v, H', J.os, J.bare, J.base, J.hok, rv, q⟩
    | next =>
      obtain ⟨σ', H', J, q⟩ := h
      exact ⟨.non, H', J.os, J.bare, J.base, J.hok, rfl, q⟩
    | brk =>
      obtain ⟨_, _, _, z⟩ := h
      exact z.elim
    | cont =>
      obtain ⟨_, _, _, z⟩ := h
      exact z.elim
theorem clG_of {x : Str} {st : Stmt} {N ps : List Str} {k : Nat} {sp : Sp} (d : Df K mg x st) (S : FnScope N ps (defScope st)) (b : ∀ f fd, FnP K x st [] f fd → Binds K fd ps []) (siz : ∀ vs H Q E, sp vs H Q E → vs.length = ps.length)
    (bd : ∀ (cdv : Value) (f : Addr) (A : Around) (o : List Env) (s : Shared) (H : Hp) (vs : List V) (Q : VK) (E : XK), Qt (A.deeper (envOfC x (defScope st) s.heap.objs.size f cdv)) → Room k (A.deeper (envOfC x (defScope st) s.heap.objs.size f cdv)) → sp vs H Q E →
      ∃ t, PSs (cxOf CX0 P w K mg base N x (defScope st) f cdv A o s H E).nox (defBody st) t ∧ t { nx := fun _ H' => Q .non H', rt := Q } (start N vs) H) : ClG P w K mg base (k + 1) x sp := by
  obtain ⟨f, fd, F, gm⟩ := d
  exact ⟨f, fd, ps, fnG_of F S siz fun cdv A o s H vs Q E => bd cdv f A o s H vs Q E, gm, F.kp, b f fd F⟩
end
section
variable {X : Cx} {k j : Nat} {x : Str} {sp : Sp} {p pos : Pos} {e : Expr} {es : List Expr} {t : TA}
/-- the call of such a def by its name -/
theorem pe_clG (c : ClG X.prog X.w X.K X.mg X.base k x sp) (hq : Qt X.A) (hr : Room j X.A) (hk : k ≤ j) (hg : Gl X x) (ha : PA X (e :: es) t)
    (hdb : (x == ("__debug__" : Str)) = false := by decide) (he : starEach (e :: es) X.env = (false, eval e X.env) :: starEach es X.env := by rfl) (hpl : (backTo pos (starEach es X.env)).any (·.1) = false := by rfl) :
    PE X (.Call (.Name x p) (e :: es) [] pos) (tCall sp [] E0 t) := by
  obtain ⟨f, fd, ps, F, hm, kp, b⟩ := c
  constructor
  intro pins s σ H Q I h
  apply wpAny_Call_Name_kw
  apply ld_glob I hg hm _ hdb
  refine PySem.W.callWith_K (h₀ := X.base) I.ok.mod.kin kp (thn (ha.run pos pins s σ H _ I h) ?_) he hpl
  rintro us s2 ⟨vs, H2, I2, rel, hs⟩
  rw [List.append_nil] at hs
  have hlen : (us ++ []).length = ps.length := by
    rw [List.append_nil, ← rel.length]
    exact F.siz _ _ _ _ hs
  have hb := b s2 us I2.kIn hlen
  rw [List.append_nil] at hb
  refine ⟨I2.kIn, wpAny_call (codeAny_mono (F.go X.A X.stack s2 H2 ⟨us, []⟩ us vs Q E0 hq (hr.mono hk) I2.env0 hb rel hs) ?_)⟩
  rintro (err | fin) s3 hc
  · exact hc.elim
  · cases fin with
    | ret u => exact I2.after hc
    | next => exact hc.elim
    | brk => exact hc.elim
    | cont => exact hc.elim
end
/-! ### the law's end -/
section
variable {P : Program} {w : World} {K : PySem.W.Frag} {mg mb : Str → Option Value} {s₁ : Shared} {a : Addr} {vs : List Value} {ns : List Int}
/-- where the law begins: the module's heap without the script, the script alone -/
theorem law_start0 (KX : K.In s₁.heap) (hns : s₁.heap.Ns mainGlobals mg) (hb : s₁.heap.Ns builtinsNs mb) (hbb : ∀ x : Str, x ≠ "__name__" → mb x = bootBuiltins x) (hlim : s₁.heap.NoLimit) (hg : s₁.gens = #[])
    (ha : s₁.heap.get? a = some { cls := .type "list", data := .seq vs.toArray }) (hi : IntsAre vs ns) (hl : ns.length ≤ sizeLine) :
    ∃ (base : Heap) (H : Hp), K.In base ∧ base.Ns mainGlobals mg ∧ SqL K H a (ns.map V.int) ∧ Env0 P w K mg base callerA [] s₁ H ∧ ∀ b, H b ≠ none → ∃ o u, H b = some (.frz o u) := by
  have rel := vals_ints hi
  have fin : ∀ H : Hp, (∀ b, H b ≠ none → b = a ∧ K.lookup a = none) → SqL K H a (ns.map V.int) → HOk P w H s₁.heap → (∀ b, H b ≠ none → ∃ o u, H b = some (.frz o u)) →
      ∃ (base : Heap) (H : Hp), K.In base ∧ base.Ns mainGlobals mg ∧ SqL K H a (ns.map V.int) ∧ Env0 P w K mg base callerA [] s₁ H ∧ ∀ b, H b ≠ none → ∃ o u, H b = some (.frz o u) := fun H h1 h2 h3 h4 => by
    have fr : ∀ {b : Addr} {o : Obj}, s₁.heap.get? b = some o → (b = a → False) → (hidT s₁.heap H).get? b = some o := fun {b o} e ne => hidT_get e (by
      by_cases z : H b = none
      · exact z
      · exact absurd (h1 b z).1 ne)
    have isD : ∀ {b : Addr} {o : Obj} {es : Array DictEntry} {ep : Nat}, s₁.heap.get? b = some o → o.data = .dict es ep → b = a → False := fun {b o es ep} e d z => by
      rw [z, ha] at e
      have e := Option.some.inj e
      rw [← e] at d
      cases d
    have nsT : ∀ {b : Addr} {m : Str → Option Value}, s₁.heap.Ns b m → (hidT s₁.heap H).Ns b m := fun h => by
      obtain ⟨o, es, ep, e, d, r⟩ := h
      exact ⟨o, es, ep, fr e (isD e d), d, r⟩
    have kin : K.In (hidT s₁.heap H) := fun b o e => hidT_get (KX b o e) (by
      by_cases z : H b = none
      · exact z
      · obtain ⟨z1, z2⟩ := h1 b z
        rw [z1, z2] at e
        cases e)
    obtain ⟨mc, l1, l2⟩ := hlim
    refine ⟨_, H, kin, nsT hns, h2, ?_, h4⟩
    exact { frames := rfl, mod := { kin := kin, glob := nsT hns, blt := ⟨mb, nsT hb, hbb⟩, nolimit := ⟨mc, nsT l1, l2⟩ }, bs := fun b o e => of_hidT e, bsz := Nat.le_of_eq (hidT_size _ _), funs := trivial, frf := fun b m => absurd m List.not_mem_nil, hok := h3, bare := .of_eq hg }
  cases kl : K.lookup a with
  | some o =>
    have e := KX a o kl
    rw [ha] at e
    cases e
    refine fin (fun _ => none) (fun b z => absurd rfl z) (.inr ⟨_, vs.toArray, _, kl, rfl, rfl, rfl, ?_, by simpa using rel⟩) (fun b u z => nomatch z) fun b z => absurd rfl z
    rw [List.size_toArray, hi.length]
    exact hl
  | none =>
    have only : ∀ b, upd (fun _ => none) a (.frz { cls := .type "list", data := .seq vs.toArray } (.lst (ns.map V.int))) b ≠ none → b = a := fun b z => by
      by_cases y : b = a
      · exact y
      · rw [upd_ne y] at z
        exact absurd rfl z
    refine fin (upd (fun _ => none) a (.frz { cls := .type "list", data := .seq vs.toArray } (.lst (ns.map V.int)))) (fun b z => ⟨only b z, kl⟩) (.inl (.inr ⟨_, upd_same⟩)) (fun b u z => ?_) fun b z => ?_
    · have y : b = a := only b (by rw [z]; intro q; cases q)
      rw [y, upd_same] at z
      cases z
      rw [y]
      exact ⟨ha, by rw [List.length_map]; exact hl, vs, _, rel, ha⟩
    · rw [only b z]
      exact ⟨_, _, upd_same⟩
/-- the law called by the claim: it ends in True, what stood before stands -/
theorem law_callG {k : Nat} {fa : Addr} {fd : FuncData} {x : Str} {sp : Sp} (KX : K.In s₁.heap) (hns : s₁.heap.Ns mainGlobals mg) (hb : s₁.heap.Ns builtinsNs mb) (hbb : ∀ x : Str, x ≠ "__name__" → mb x = bootBuiltins x) (hlim : s₁.heap.NoLimit) (hg : s₁.gens = #[])
    (ha : s₁.heap.get? a = some { cls := .type "list", data := .seq vs.toArray }) (hi : IntsAre vs ns) (hl : ns.length ≤ sizeLine) (hr : Room k callerA)
    (F : ∀ base : Heap, K.In base → base.Ns mainGlobals mg → FnG P w K mg base k fa fd [x] sp) (hbind : ∀ (s : Shared) (u : Value), BindsTo s fd ⟨[u], []⟩ [(x, u)]) (hsp : ∀ H : Hp, SqL K H a (ns.map V.int) → sp [.ref a] H (fun v _ => v = .bl true) E0) :
    codeAny (model P w) callerA (.call (.ref fa) ⟨[.ref a], []⟩) (fun r s' => r = .ok (.ret (.bool true)) ∧ OldK s₁.heap s'.heap ∧ s'.os = s₁.os ∧ AllBare s'.gens) s₁ := by
  obtain ⟨base, H, b1, b2, sq, e0, frz⟩ := law_start0 (P := P) (w := w) KX hns hb hbb hlim hg ha hi hl
  refine codeAny_mono ((F base b1 b2).go callerA [] s₁ H _ [.ref a] [.ref a] _ _ rfl hr e0 (hbind s₁ (.ref a)) (.cons rfl .nil) (hsp H sq)) ?_
  rintro (err | fl) s' h
  · exact h.elim
  · cases fl with
    | next => exact h.elim
    | brk => exact h.elim
    | cont => exact h.elim
    | ret u =>
      obtain ⟨v, H', os, bare, un, ok', rv, hv⟩ := h
      have hv : v = .bl true := hv
      rw [hv] at rv
      have eu : u = .bool true := rv
      rw [eu]
      refine ⟨rfl, OldK.of_keep fun b o e => ?_, os, bare⟩
      by_cases z : H b = none
      · exact un.keep b o e z (fun m => absurd m List.not_mem_nil) List.not_mem_nil
      · obtain ⟨ob, y, hy⟩ := frz b z
        have g1 := (e0.hok b _ hy).1
        have g2 := (ok' b _ (un.frzs b ob y hy)).1
        rw [e] at g1
        rw [Option.some.inj g1]
        exact g2
end
end GB
namespace GB
open PySem PySem.Spec PyProof.Rows L2
open Evl (Ex)
variable {P : Program} {w : World} {K : PySem.W.Frag} {mg : Str → Option Value} {base : Heap}

/-! ### the head: what stands behind the top -/
namespace Hd
def d_is_integer : He.DefD := ⟨("is_integer", none), "is_integer", "is_integer", defArgs s_is_integer, defBody s_is_integer, defScope s_is_integer, [], []⟩
def d_is_between : He.DefD := ⟨("is_between", none), "is_between", "is_between", defArgs s_is_between, defBody s_is_between, defScope s_is_between, [], []⟩
def d_span_of : He.DefD := ⟨("span_of", none), "span_of", "span_of", defArgs s_span_of, defBody s_span_of, defScope s_span_of, [], []⟩
def d_views : He.DefD := ⟨("views", none), "views", "views", defArgs s_views, defBody s_views, defScope s_views, [], []⟩
def d_reads : He.DefD := ⟨("reads", none), "reads", "reads", defArgs s_reads, defBody s_reads, defScope s_reads, [], []⟩
def d_chosen : He.DefD := ⟨("chosen", none), "chosen", "chosen", defArgs s_chosen, defBody s_chosen, defScope s_chosen, [], []⟩
def d_allotted : He.DefD := ⟨("allotted", none), "allotted", "allotted", defArgs s_allotted, defBody s_allotted, defScope s_allotted, [], []⟩
def d_allotments : He.DefD := ⟨("allotments", none), "allotments", "allotments", defArgs s_allotments, defBody s_allotments, defScope s_allotments, [], []⟩
def d_copying : He.DefD := ⟨("copying", none), "copying", "copying", defArgs s_copying, defBody s_copying, defScope s_copying, [], []⟩
def d_path_in : He.DefD := ⟨("path_in", none), "path_in", "path_in", defArgs s_path_in, defBody s_path_in, defScope s_path_in, [], []⟩
def d_meeting : He.DefD := ⟨("meeting", none), "meeting", "meeting", defArgs s_meeting, defBody s_meeting, defScope s_meeting, [], []⟩
def d_need_read : He.DefD := ⟨("need_read", none), "need_read", "need_read", defArgs s_need_read, defBody s_need_read, defScope s_need_read, [], []⟩
def d_writes : He.DefD := ⟨("writes", none), "writes", "writes", defArgs s_writes, defBody s_writes, defScope s_writes, [], []⟩
def d_candidates_in : He.DefD := ⟨("candidates_in", none), "candidates_in", "candidates_in", defArgs s_candidates_in, defBody s_candidates_in, defScope s_candidates_in, [], []⟩
def d_links_between : He.DefD := ⟨("links_between", none), "links_between", "links_between", defArgs s_links_between, defBody s_links_between, defScope s_links_between, [], []⟩
def d_candidates : He.DefD := ⟨("candidates", none), "candidates", "candidates", defArgs s_candidates, defBody s_candidates, defScope s_candidates, [], []⟩
def d_table_policy : He.DefD := ⟨("table_policy", none), "table_policy", "table_policy", defArgs s_table_policy, defBody s_table_policy, defScope s_table_policy, [], []⟩
def d_with_entry : He.DefD := ⟨("with_entry", none), "with_entry", "with_entry", defArgs s_with_entry, defBody s_with_entry, defScope s_with_entry, [], []⟩
def d_goal_of : He.DefD := ⟨("goal_of", none), "goal_of", "goal_of", defArgs s_goal_of, defBody s_goal_of, defScope s_goal_of, [], []⟩
def d_first_barred : He.DefD := ⟨("first_barred", none), "first_barred", "first_barred", defArgs s_first_barred, defBody s_first_barred, defScope s_first_barred, [], []⟩
def d_raise_among : He.DefD := ⟨("raise_among", none), "raise_among", "raise_among", defArgs s_raise_among, defBody s_raise_among, defScope s_raise_among, [], []⟩
def d_next_raise : He.DefD := ⟨("next_raise", none), "next_raise", "next_raise", defArgs s_next_raise, defBody s_next_raise, defScope s_next_raise, [], []⟩
def d_linked_table : He.DefD := ⟨("linked_table", none), "linked_table", "linked_table", defArgs s_linked_table, defBody s_linked_table, defScope s_linked_table, [], []⟩
def d_is_visible : He.DefD := ⟨("is_visible", none), "is_visible", "is_visible", defArgs s_is_visible, defBody s_is_visible, defScope s_is_visible, [], []⟩
def d_origins : He.DefD := ⟨("origins", none), "origins", "origins", defArgs s_origins, defBody s_origins, defScope s_origins, [], []⟩
def d_is_demand : He.DefD := ⟨("is_demand", none), "is_demand", "is_demand", defArgs s_is_demand, defBody s_is_demand, defScope s_is_demand, [], []⟩
def d_need_demands : He.DefD := ⟨("need_demands", none), "need_demands", "need_demands", defArgs s_need_demands, defBody s_need_demands, defScope s_need_demands, [], [("most", .int 60)]⟩
def d_goals_of : He.DefD := ⟨("goals_of", none), "goals_of", "goals_of", defArgs s_goals_of, defBody s_goals_of, defScope s_goals_of, [], []⟩
def d_trimmed : He.DefD := ⟨("trimmed", none), "trimmed", "trimmed", defArgs s_trimmed, defBody s_trimmed, defScope s_trimmed, [], []⟩
def d_first_unmet : He.DefD := ⟨("first_unmet", none), "first_unmet", "first_unmet", defArgs s_first_unmet, defBody s_first_unmet, defScope s_first_unmet, [], []⟩
def d_least_policy : He.DefD := ⟨("least_policy", none), "least_policy", "least_policy", defArgs s_least_policy, defBody s_least_policy, defScope s_least_policy, [], []⟩
def d_law_start : He.DefD := ⟨("_law_start", none), "_law_start", "_law_start", defArgs s_law_start, defBody s_law_start, defScope s_law_start, [], []⟩
def d_law_draw : He.DefD := ⟨("_law_draw", none), "_law_draw", "_law_draw", defArgs s_law_draw, defBody s_law_draw, defScope s_law_draw, [], []⟩
def d_law_place : He.DefD := ⟨("_law_place", none), "_law_place", "_law_place", defArgs s_law_place, defBody s_law_place, defScope s_law_place, [], []⟩
def d_law_index : He.DefD := ⟨("_law_index", none), "_law_index", "_law_index", defArgs s_law_index, defBody s_law_index, defScope s_law_index, [], []⟩
def d_law_values : He.DefD := ⟨("_law_values", none), "_law_values", "_law_values", defArgs s_law_values, defBody s_law_values, defScope s_law_values, [], []⟩
def d_law_statement : He.DefD := ⟨("_law_statement", none), "_law_statement", "_law_statement", defArgs s_law_statement, defBody s_law_statement, defScope s_law_statement, [], []⟩
def d_law_code : He.DefD := ⟨("_law_code", none), "_law_code", "_law_code", defArgs s_law_code, defBody s_law_code, defScope s_law_code, [], []⟩
def d_law_rows : He.DefD := ⟨("_law_rows", none), "_law_rows", "_law_rows", defArgs s_law_rows, defBody s_law_rows, defScope s_law_rows, [], []⟩
def d_law_looks : He.DefD := ⟨("_law_looks", none), "_law_looks", "_law_looks", defArgs s_law_looks, defBody s_law_looks, defScope s_law_looks, [], []⟩
def d_law_chosen : He.DefD := ⟨("_law_chosen", none), "_law_chosen", "_law_chosen", defArgs s_law_chosen, defBody s_law_chosen, defScope s_law_chosen, [], []⟩
def d_law_new_block : He.DefD := ⟨("_law_new_block", none), "_law_new_block", "_law_new_block", defArgs s_law_new_block, defBody s_law_new_block, defScope s_law_new_block, [], []⟩
def d_law_appended : He.DefD := ⟨("_law_appended", none), "_law_appended", "_law_appended", defArgs s_law_appended, defBody s_law_appended, defScope s_law_appended, [], []⟩
def d_law_run : He.DefD := ⟨("_law_run", none), "_law_run", "_law_run", defArgs s_law_run, defBody s_law_run, defScope s_law_run, [], []⟩
def d_law_writes : He.DefD := ⟨("_law_writes", none), "_law_writes", "_law_writes", defArgs s_law_writes, defBody s_law_writes, defScope s_law_writes, [], []⟩
def d_law_way : He.DefD := ⟨("_law_way", none), "_law_way", "_law_way", defArgs s_law_way, defBody s_law_way, defScope s_law_way, [], []⟩
def d_law_writers : He.DefD := ⟨("_law_writers", none), "_law_writers", "_law_writers", defArgs s_law_writers, defBody s_law_writers, defScope s_law_writers, [], []⟩
def d_law_rule : He.DefD := ⟨("_law_rule", none), "_law_rule", "_law_rule", defArgs s_law_rule, defBody s_law_rule, defScope s_law_rule, [], []⟩
def d_law_is_at_most : He.DefD := ⟨("_law_is_at_most", none), "_law_is_at_most", "_law_is_at_most", defArgs s_law_is_at_most, defBody s_law_is_at_most, defScope s_law_is_at_most, [], []⟩
def d_law_is_met : He.DefD := ⟨("_law_is_met", none), "_law_is_met", "_law_is_met", defArgs s_law_is_met, defBody s_law_is_met, defScope s_law_is_met, [], []⟩
def d_law_wanted : He.DefD := ⟨("_law_wanted", none), "_law_wanted", "_law_wanted", defArgs s_law_wanted, defBody s_law_wanted, defScope s_law_wanted, [], []⟩
def d_law_caps : He.DefD := ⟨("_law_caps", none), "_law_caps", "_law_caps", defArgs s_law_caps, defBody s_law_caps, defScope s_law_caps, [], []⟩
def d_law_again : He.DefD := ⟨("_law_again", none), "_law_again", "_law_again", defArgs s_law_again, defBody s_law_again, defScope s_law_again, [], []⟩
def d_law_is_right : He.DefD := ⟨("_law_is_right", none), "_law_is_right", "_law_is_right", defArgs s_law_is_right, defBody s_law_is_right, defScope s_law_is_right, [], []⟩
def d_law : He.DefD := ⟨("law", none), "law", "law", defArgs s_law, defBody s_law, defScope s_law, [], []⟩
def fn0 : List He.DefD := [d_is_integer, d_is_between, d_span_of, d_views, d_reads, d_chosen, d_allotted, d_allotments, d_copying, d_path_in, d_meeting, d_need_read, d_writes, d_candidates_in, d_links_between, d_candidates, d_table_policy, d_with_entry, d_goal_of, d_first_barred, d_raise_among, d_next_raise, d_linked_table, d_is_visible, d_origins, d_is_demand, d_need_demands, d_goals_of, d_trimmed, d_first_unmet]
def fn1 : List He.DefD := [d_least_policy, d_law_start, d_law_draw, d_law_place, d_law_index, d_law_values, d_law_statement, d_law_code, d_law_rows, d_law_looks, d_law_chosen, d_law_new_block, d_law_appended, d_law_run, d_law_writes, d_law_way, d_law_writers, d_law_rule, d_law_is_at_most, d_law_is_met, d_law_wanted, d_law_caps, d_law_again, d_law_is_right, d_law]
def fn : List He.DefD := fn0 ++ fn1
def fa0 : List He.Fa := [.glo "is_integer", .glo "is_between", .glo "span_of", .glo "views", .glo "reads", .glo "chosen", .glo "allotted", .glo "allotments", .glo "copying", .glo "path_in", .glo "meeting", .glo "need_read", .glo "writes", .glo "candidates_in", .glo "links_between", .glo "candidates", .glo "table_policy", .glo "with_entry", .glo "goal_of", .glo "first_barred", .glo "raise_among", .glo "next_raise", .glo "linked_table", .glo "is_visible", .glo "origins", .glo "is_demand", .glo "need_demands", .glo "goals_of", .glo "trimmed", .glo "first_unmet"]
def fa1 : List He.Fa := [.glo "least_policy", .glo "_law_start", .glo "_law_draw", .glo "_law_place", .glo "_law_index", .glo "_law_values", .glo "_law_statement", .glo "_law_code", .glo "_law_rows", .glo "_law_looks", .glo "_law_chosen", .glo "_law_new_block", .glo "_law_appended", .glo "_law_run", .glo "_law_writes", .glo "_law_way", .glo "_law_writers", .glo "_law_rule", .glo "_law_is_at_most", .glo "_law_is_met", .glo "_law_wanted", .glo "_law_caps", .glo "_law_again", .glo "_law_is_right", .glo "law"]
def faF : List He.Fa := [.glo "ENDLESS", .free "len", .free "isinstance", .free "abs", .free "any", .free "repr", .free "max", .free "sorted", .free "tuple", .free "list", .free "int", .free "bool", .free "dict", .free "range", .free "enumerate", .free "zip"]
def fa : List He.Fa := fa0 ++ fa1 ++ faF
def nm0 : List Str := ["GrowError", "InvalidDemand", "NoRead", "ENDLESS", "MOST_DEMANDS", "is_integer", "is_between", "span_of", "views", "reads", "chosen", "allotted", "allotments", "copying", "path_in", "meeting", "need_read", "writes", "candidates_in", "links_between", "candidates", "table_policy", "with_entry", "goal_of", "first_barred", "raise_among", "next_raise", "linked_table", "is_visible", "origins"]
def nm1 : List Str := ["is_demand", "need_demands", "goals_of", "trimmed", "first_unmet", "least_policy", "_law_start", "_law_draw", "_law_place", "_law_index", "_law_values", "_law_statement", "_law_code", "_law_rows", "_law_looks", "_law_chosen", "_law_new_block", "_law_appended", "_law_run", "_law_writes", "_law_way", "_law_writers", "_law_rule", "_law_is_at_most", "_law_is_met", "_law_wanted", "_law_caps", "_law_again", "_law_is_right"]
def nm : List Str := nm0 ++ nm1
def exB (K : PySem.W.Frag) : Bool := He.tupB K "ENDLESS" [.str "endless"]
abbrev AlK : Type := He.AlD × Bool
def obsK (n : Nat) (g : Addr → Option Obj) : AlK := (He.obsD fa fn (He.frG g (He.asD g n)), exB (He.frG g (He.asD g n)))
def valK : AlK := (He.valD fn, true)
def hk : PySem.W.Hook where
  α := AlK
  obs := fun s => obsK 3 s.heap.get?
  val := fun _ => valK
  says := fun _ h => ∃ K : PySem.W.Frag, K.In h ∧ (He.obsD fa fn K, exB K) = valK
  of := fun _ _ e => ⟨_, He.frG_in, e⟩
  keeps := fun _ _ _ h k => by
    obtain ⟨K, hK, c⟩ := h
    exact ⟨K, PySem.W.Frag.In.keeps hK k, c⟩
abbrev R : PySem.W.OpenRow := PySem.W.OpenLaw.row PySem.Challenge.rw_growblind_k85_whole_order_of_least_polic
abbrev qv : Program := PySem.W.view R.prog [69]
def ob (s : PySem.W.SharedT) : AlK := obsK 3 (HandSHeadRun.getT s)
theorem ob_eq (s : PySem.W.SharedT) : ob s = hk.obs s.abs := by
  have e : HandSHeadRun.getT s = s.abs.heap.get? := funext (HandSHeadRun.getT_eq s)
  show obsK 3 (HandSHeadRun.getT s) = obsK 3 s.abs.heap.get?
  rw [e]
theorem run (w : World) : HandSHeadRun.RunEq R qv hk ob 6000 nm w := by
  intro os
  kernel_rfl
abbrev dLaw := HandSHeadRun.topDef R.prog 69
theorem law_name : dLaw.name = ("law" : Str) := by kernel_rfl
theorem law_dfl : dLaw.params.defaults = [] := by kernel_rfl
end Hd
end GB
open PySem PySem.W PySem.Calls PyProof.Rows in
/-- what is left of the law is the walk -/
theorem GB.Hd.holds_by (call : WalkO GB.Hd.qv GB.Hd.nm (XL GB.Hd.qv []) GB.Hd.hk.says GB.Hd.R.toRowW GB.Hd.dLaw [] fun f vs => PySem.call f vs) : PySem.Challenge.rw_growblind_k85_whole_order_of_least_polic.Holds := by
  w_on; o_law
  refine HandSHeadRun.head_any (r := GB.Hd.R) (q := GB.Hd.qv) (H := GB.Hd.hk) (ob := GB.Hd.ob) (M := 6000) (loose := GB.Hd.nm) (d := GB.Hd.dLaw) (kwd := []) GB.Hd.ob_eq
    (by kernel_rfl) (fun s => by kernel_rfl) GB.Hd.run (by kernel_rfl) (by kernel_rfl) (by kernel_rfl) (by rfl) (by decide +kernel) (by decide +kernel) ⟨rfl, rfl, rfl, rfl, rfl, by decide +kernel⟩ ?hw call
  case hw => w_witness2
namespace GB
open PySem PySem.Spec PyProof.Rows L2
open Evl (Ex)
variable {P : Program} {w : World} {K : PySem.W.Frag} {mg : Str → Option Value} {base : Heap}

/-! ### the law's state: draws -/
abbrev LIM : Nat := 1000000
/-- a def that draws: v is handed back, the state goes on -/
def RW (K : PySem.W.Frag) (B H : Hp) (st : Addr) (m : Nat) (Φ : V → Hp → Prop) (Q : VK) : Prop :=
  ∀ v B' H', Ex B B' → Ex B' H' → (∀ a o, a ≠ st → H a = some o → H' a = some o) → (∀ a, B' a ≠ none → B a ≠ none ∨ H a = none) → DrOk K B' H' st m → B' st = none → Φ v B' → Q v H'
def SpW (K : PySem.W.Frag) {α : Type} (args : α → List PyData) (pre : α → Prop) (cnt : Nat) (Φ : α → V → Hp → Prop) : Sp := fun vs H Q _ =>
  ∃ (B : Hp) (a : α) (st : Addr) (n : Nat) (rest : List V), vs = .ref st :: rest ∧ Ex B H ∧ DaL K B rest (args a) ∧ pre a ∧ DrOk K B H st n ∧ B st = none ∧ n + cnt ≤ LIM ∧ RW K B H st (n + cnt) (Φ a) Q
theorem SpW.len {α : Type} {args : α → List PyData} {pre : α → Prop} {cnt : Nat} {Φ : α → V → Hp → Prop} {n : Nat} (hn : ∀ a, (args a).length + 1 = n) (vs : List V) (H : Hp) (Q : VK) (E : XK) (h : SpW K args pre cnt Φ vs H Q E) : vs.length = n := by
  obtain ⟨B, a, st, m, rest, rfl, _, d, _⟩ := h
  rw [List.length_cons, d.len]
  exact hn a
section
variable {c : Ent} {dr dr1 dr2 dr' : Dr} {ls : Ls} {σ : L2.St} {B B' H H' : Hp} {ta tb te tx : TE} {Φ Ψ : V → Hp → Prop} {d : PyData} {ds es : List PyData} {st : Addr} {n m k : Nat}
theorem Wd.startW (e : Ex B H) (h : DrOk K B H st n) (hb : B st = none) : Wd K ⟨B, H, [st]⟩ (some (st, n)) [] B H :=
  ⟨Ex.refl _, e, fun a h => .inl h, fun a o _ h => h, fun a m => by
    rw [List.mem_singleton.mp m]
    exact h.there, fun q m => absurd m List.not_mem_nil, List.nodup_nil, fun q hq => by
    cases hq
    exact ⟨h, hb, List.not_mem_nil⟩⟩
theorem Wd.up (w : Wd K c (some (st, n)) ls B H) (h : n ≤ m) : Wd K c (some (st, m)) ls B H :=
  ⟨w.base, w.inn, w.fr, w.old, w.here, w.cts, w.nd, fun q hq => by
    cases hq
    obtain ⟨h1, h2, h3⟩ := w.draw _ rfl
    exact ⟨h1.mono (Ex.refl _) rfl h, h2, h3⟩⟩
theorem Wd.backW {Q : VK} {v : V} (w : Wd K c (some (st, m)) ls B H) (hM : c.M = [st]) (q : RW K c.B c.H st k Φ Q) (hm : m ≤ k) (f : Φ v B) : Q v H := by
  obtain ⟨h1, h2, h3⟩ := w.draw _ rfl
  exact q v B H w.base w.inn (fun a o ne h => w.old a o (by rw [hM]; exact fun z => ne (List.mem_singleton.mp z)) h) w.fr (h1.mono (Ex.refl _) rfl hm) h2 f
/-- behind a call that drew -/
theorem Wd.afterW (w : Wd K c (some (st, n)) ls B H) (hs : st ∈ c.M ∨ c.H st = none) (e1 : Ex B B') (e2 : Ex B' H') (e3 : ∀ a o, a ≠ st → H a = some o → H' a = some o) (fr : ∀ a, B' a ≠ none → B a ≠ none ∨ H a = none) (hd : DrOk K B' H' st m) (hb : B' st = none) : Wd K c (some (st, m)) ls B' H' := by
  obtain ⟨k1, k2, k3⟩ := w.draw _ rfl
  have out : ∀ a, B a = none → H a ≠ none → B' a = none := fun a h1 h2 => by
    cases q : B' a with
    | none => rfl
    | some u =>
      rcases fr a (by rw [q]; intro z; cases z) with r | r
      · exact absurd h1 r
      · exact absurd r h2
  have same : ∀ a, a ≠ st → H a ≠ none → H' a = H a := fun a ne h => by
    cases q : H a with
    | none => exact absurd q h
    | some u => exact e3 a u ne q
  refine ⟨w.base.trans e1, e2, fun a ha => ?_, fun a o mm h => ?_, fun a mm => ?_, fun q hq => ?_, w.nd, fun q hq => ?_⟩
  · rcases fr a ha with r | r
    · exact w.fr a r
    · exact .inr (w.fresh0 r)
  · by_cases z : a = st
    · rcases hs with r | r
      · exact absurd (by rw [z]; exact r) mm
      · rw [z, r] at h
        cases h
    · exact e3 a o z (w.old a o mm h)
  · by_cases z : a = st
    · rw [z]
      exact hd.there
    · rw [same a z (w.here a mm)]
      exact w.here a mm
  · obtain ⟨h1, h2⟩ := w.cts q hq
    have ne : q.1 ≠ st := fun z => k3 (by rw [← z]; exact List.mem_map_of_mem hq)
    exact ⟨out _ h1 h2.there, h2.mono e1 (same _ ne h2.there)⟩
  · cases hq
    exact ⟨hd, hb, k3⟩
/-- a call that draws -/
theorem c_W {α : Type} {args : α → List PyData} {pre : α → Prop} {cnt i : Nat} {Φ : α → V → Hp → Prop} {t : TA} (P : α → Prop) (hi : σ[i]? = some (some (.ref st))) (hs : st ∈ c.M ∨ c.H st = none) (hn : m + cnt ≤ LIM)
    (ha : EaB K c (some (st, n)) (some (st, m)) ls t σ B fun vs B' => ∃ a, DaL K B' vs (args a) ∧ pre a ∧ P a) : EvB K c (some (st, n)) (some (st, m + cnt)) ls (tCall (SpW K args pre cnt Φ) [] E0 (tCons (tVar i) t)) σ B fun v B' => ∃ a, pre a ∧ P a ∧ Φ a v B' := fun B1 H1 e1 w Q q =>
  ⟨.ref st, hi, ha B1 H1 e1 w _ fun vs B2 H2 e2 w2 ⟨a, fd, hp, hP⟩ => by
    obtain ⟨k1, k2, k3⟩ := w2.draw _ rfl
    refine ⟨B2, a, st, m, vs, by rw [List.append_nil], w2.inn, fd, hp, k1, k2, hn, fun v B3 H3 g1 g2 g3 g4 g5 g6 fv => ?_⟩
    exact q v B3 H3 (e2.trans g1) (w2.afterW hs g1 g2 g3 g4 g5 g6) ⟨a, hp, hP, fv⟩⟩
/-- .. its other arguments draw nothing -/
theorem c_W1 {α : Type} {args : α → List PyData} {pre : α → Prop} {cnt i : Nat} {Φ : α → V → Hp → Prop} {t : TA} {a : α} (hi : σ[i]? = some (some (.ref st))) (hs : st ∈ c.M ∨ c.H st = none) (hn : n + cnt ≤ LIM) (ha : EaD K c (some (st, n)) ls t σ B (args a)) (hp : pre a) :
    EvB K c (some (st, n)) (some (st, n + cnt)) ls (tCall (SpW K args pre cnt Φ) [] E0 (tCons (tVar i) t)) σ B (Φ a) := fun B1 H1 e1 w Q q =>
  c_W (args := args) (pre := pre) (Φ := Φ) (P := fun x => x = a) hi hs hn (fun B2 H2 e2 w2 Q q => ha B2 H2 e2 w2 Q fun vs B3 H3 e3 w3 f => q vs B3 H3 e3 w3 ⟨a, f, hp, rfl⟩) B1 H1 e1 w Q fun v B2 H2 e2 w2 ⟨a', _, z, f⟩ => q v B2 H2 e2 w2 (z ▸ f)
theorem s_retW {nx : L2.St → Hp → Prop} {Q : VK} (w : Wd K c dr ls B H) (h : EvB K c dr (some (st, m)) ls te σ B Φ) (hM : c.M = [st]) (q : RW K c.B c.H st k Φ Q) (hm : m ≤ k) : tRet te { nx := nx, rt := Q } σ H := s_retB w h fun v B1 H1 _ w1 f => w1.backW hM q hm f
end
/-! ### promises of the law's defs -/
abbrev ΦN (b : Nat) : V → Hp → Prop := fun v _ => ∃ n : Nat, v = .int (n : Int) ∧ n < b
abbrev sp_law_draw (K : PySem.W.Frag) : Sp := SpW K (fun b : Nat => [nI b]) (fun b => 1 ≤ b ∧ b ≤ 10 ^ 40) 1 fun b => ΦN b
abbrev sp_law_place (K : PySem.W.Frag) : Sp := SpW K (fun a : List Nat × Nat => [dNats a.1, nI a.2]) (fun a => a.1.length ≤ 1000) 2 fun a v _ => (v = .non ∧ ∀ s, s ∈ a.1 → s < a.2) ∨ ∃ (i s : Nat), v = .int (i : Int) ∧ a.1[i]? = some s ∧ a.2 ≤ s
abbrev sp_law_index (K : PySem.W.Frag) : Sp := SpW K (fun b : Nat => [nI b]) (fun b => 1 ≤ b ∧ b ≤ 100000) 2 fun b => ΦN b
abbrev sp_law_values (K : PySem.W.Frag) : Sp := SpW K (fun _ : Unit => []) (fun _ => True) 8 fun _ v B' => ∃ xs : List Int, 1 ≤ xs.length ∧ xs.length ≤ 6 ∧ Da K B' v (.tuple (xs.map PyData.int))
abbrev sp_law_statement (K : PySem.W.Frag) : Sp := SpW K (fun R : List Row => [.list (R.map fun r => nI r.len)]) (fun R => R.length ≤ 1000 ∧ ∀ r, r ∈ R → r.len ≤ 1000) 20 fun R v B' => ∃ s, StmOk R s ∧ smS s ∧ Da K B' v (dStm s)
abbrev sp_law_code (K : PySem.W.Frag) : Sp := SpW K (fun _ : Unit => [.int 24]) (fun _ => True) 700 fun _ v B' => ∃ p, PgOk p ∧ Da K B' v (dProg p)
def seqD (b : Bool) (ds : List PyData) : PyData := if b then .tuple ds else .list ds
abbrev sp_law_rows (K : PySem.W.Frag) : Sp := SpN K (fun a : Prog × Bool => [seqD a.2 (a.1.map dStm)]) (fun a => Valid a.1 ∧ a.1.length ≤ 1000) fun a ds => ds = (rows a.1).map dRow
abbrev sp_law_looks (K : PySem.W.Frag) : Sp := SpN K (fun p : Prog => [dProg p, dRows (rows p)]) PgOk fun p ds => ds = (reads p).map fun q => dRead (q.1, q.2.1, vstart p q.2.1 + q.2.2)
abbrev sp_law_chosen (K : PySem.W.Frag) : Sp := SpD K (fun a : Rule × Nat × Nat => [dRule a.1, nI a.2.1, nI a.2.2]) (fun a => RuleOk a.1 ∧ a.2.2 ≤ 100000) fun a => dO (chOf a.1 a.2.1 a.2.2)
def runD (p : Prog) (ch : Ch) (cops : List PyData) : PyData := .tuple [.list (((List.range (nv p)).map (capOf p ch)).map dO), .list cops, dNats (originsL p (cpOf p ch))]
abbrev sp_law_run (K : PySem.W.Frag) : Sp := SpB K (fun a : Prog × Rule => [dProg a.1, dRule a.2]) (fun a => PgOk a.1 ∧ RuleOk a.2) fun a v B' => ∃ cops, Da K B' v (runD a.1 (chOf a.2) cops)
def wrL (p : Prog) : List Wr := (List.range p.length).filterMap fun c => (wr p c).map fun x => (c, x)
def dW4 (e : Wr) : PyData := .tuple [nI e.1, nI e.2.1, nI e.2.2.1, nI e.2.2.2]
abbrev sp_law_writes (K : PySem.W.Frag) : Sp := SpN K (fun p : Prog => [dProg p, dRows (rows p)]) PgOk fun p ds => ds = (wrL p).map dW4
abbrev sp_law_way (K : PySem.W.Frag) : Sp := SpD K (fun a : Prog × Nat => [dRows (rows a.1), nI a.2]) (fun a => PgOk a.1 ∧ a.2 < nv a.1) fun a => dNats (vanc a.1 a.2)
abbrev sp_law_writers (K : PySem.W.Frag) : Sp := SpN K (fun a : Prog × Nat × Nat × Nat => [dProg a.1, dRows (rows a.1), dRead a.2]) (fun a => PgOk a.1 ∧ a.2.2.1 < nv a.1) fun a ds => ds = (candL a.1 a.2.1 a.2.2.1 a.2.2.2).map dPair
abbrev sp_law_rule (K : PySem.W.Frag) : Sp := SpW K (fun p : Prog => [dProg p]) PgOk 200 fun _ v B' => ∃ r, RuleOk r ∧ Da K B' v (dRule r)
/-- a finite capacity is at most another, ∞ at most ∞ -/
def atM : Option Nat → Option Nat → Bool
  | _, none => true
  | none, some _ => false
  | some x, some y => decide (x ≤ y)
abbrev sp_law_is_at_most (K : PySem.W.Frag) : Sp := SpD K (fun a : List (Option Nat) × List (Option Nat) => [.list (a.1.map dO), .list (a.2.map dO)]) (fun a => a.1.length ≤ 1000 ∧ a.1.length = a.2.length) fun a => .bool ((a.1.zip a.2).all fun e => atM e.1 e.2)
def metB (p : Prog) (cp : Nat → Bool) (D : List Dem) : Bool := D.all fun d => decide ((originsL p cp)[d.1]? = some d.2)
theorem metB_iff {p : Prog} {cp : Nat → Bool} {D : List Dem} : metB p cp D = true ↔ Met p cp D := by
  unfold metB Met
  rw [List.all_eq_true]
  simp only [decide_eq_true_eq]
abbrev DemsOk (p : Prog) (D : List Dem) : Prop := ∀ d, d ∈ D → DemOk p d
abbrev sp_law_is_met (K : PySem.W.Frag) : Sp := SpD K (fun a : Prog × Rule × List Dem => [dProg a.1, dRule a.2.1, dDems a.2.2]) (fun a => PgOk a.1 ∧ RuleOk a.2.1 ∧ DemsOk a.1 a.2.2 ∧ a.2.2.length ≤ 1000) fun a => .bool (metB a.1 (cpOf a.1 (chOf a.2.1)) a.2.2)
abbrev sp_law_wanted (K : PySem.W.Frag) : Sp := SpW K (fun a : Prog × Rule => [dProg a.1, dRows (rows a.1), .int 4, dRule a.2]) (fun a => PgOk a.1 ∧ RuleOk a.2) 40 fun a v B' => ∃ D, DemsOk a.1 D ∧ D.length ≤ 4 ∧ Da K B' v (dDems D)
def capsD (p : Prog) : Option Tab → PyData
  | none => .list []
  | some U => .list [.list (((List.range (nv p)).map (capOf p (tch U))).map dO)]
abbrev sp_law_caps (K : PySem.W.Frag) : Sp := SpB K (fun a : Pg × List Dem => [dProg a.1.1, dDems a.2]) (fun a => a.2.length ≤ 60 ∧ DemsOk a.1.1 a.2) fun a v B' => ∃ o, IsLeast a.1.1 a.1.2.ok a.2 o ∧ Da K B' v (capsD a.1.1 o)
/-- the same least table is told anew -/
def AgainOk (p : Prog) (ok : Valid p) (T : Tab) : Prop := ∀ o, IsLeast p ok (allDem p (cpOf p (tch T))) o → o = some T
abbrev sp_law_again (K : PySem.W.Frag) : Sp := SpD K (fun a : Pg × Tab => [dProg a.1.1, dRule (.table a.2)]) (fun a => a.2.length ≤ 1000 ∧ AgainOk a.1.1 a.1.2.ok a.2) fun _ => .bool true
abbrev sp_law_is_right (K : PySem.W.Frag) : Sp := SpD K (fun a : Pg × Rule × List Dem × List Dem => [dProg a.1.1, dRule a.2.1, dDems a.2.2.1, dDems a.2.2.2])
  (fun a => RuleOk a.2.1 ∧ DemsOk a.1.1 a.2.2.1 ∧ DemsOk a.1.1 a.2.2.2 ∧ a.2.2.1.length ≤ 4 ∧ a.2.2.2.length ≤ 4) fun _ => .bool true
end GB
namespace GB
open PySem PySem.Spec PyProof.Rows L2
open Evl (Ex)
variable {P : Program} {w : World} {K : PySem.W.Frag} {mg : Str → Option Value} {base : Heap}

/-! is_at_most, is_met, caps -/
theorem zip_all_take {l : List (Option Nat × Option Nat)} {i : Nat} {e : Option Nat × Option Nat} (h : l[i]? = some e) (hb : atM e.1 e.2 = false) : l.all (fun e => atM e.1 e.2) = false := by
  rw [List.all_eq_false]
  exact ⟨e, List.mem_of_getElem? h, by rw [hb]; decide⟩
theorem cl_law_is_at_most (d : Df K mg "_law_is_at_most" s_law_is_at_most) (T : Tx K mg)  : Cl P w K mg base 1 "_law_is_at_most" (sp_law_is_at_most K) [] := by
  refine cl_of d sc_law_is_at_most (fun f fd F => F.bindsN fun _ _ _ _ _ _ us hl => match us, hl with | [_, _], _ => rfl) (SpB.len fun _ => rfl) fun cdv f A outer s H vs Q E hr h => ?_
  have hu := hu_of hr
  refine ⟨_, (pss_cons (ps_for PassesOwn.never rfl (pi_zip (by rfl) T.zip (pa_cons (pv 0) (pa_cons (pv 1) pa_nil))) (pgTup (n := 2) K (pgs_cons (pg_name (i := 2) sc_law_is_at_most.nd rfl (Or.inl rfl)) (pgs_cons (pg_name (i := 3) sc_law_is_at_most.nd rfl (Or.inl rfl)) pgs_nil))) (pss_one (ps_if (PW.pt (pw_and (pt_cmpR op_notN (pv 3) pe_non (nomark _)) (pw_and1 (PW.pt (pw_or (pt_cmpR op_isN (pv 2) pe_non (nomark _)) (pw_or1 (pt_cmpR op_gt (pv 2) (pv 3) (nomark _)))))))) (pss_one (ps_ret pe_bl)) pss_nil)))
      (pss_one (ps_ret pe_bl))), ?_⟩
  obtain ⟨B, ⟨L1, L2⟩, e0, dl, pre, q⟩ := h
  have W := Wd.start (K := K) e0
  obtain ⟨v1, r1, rfl, f1, dl⟩ := dl.cons_inv
  obtain ⟨v2, r2, rfl, f2, dl⟩ := dl.cons_inv
  cases dl
  obtain ⟨hl1, hl2⟩ := pre
  have hl1 : L1.length ≤ 1000 := hl1
  have hl2 : L1.length = L2.length := hl2
  have f1 : Da K B v1 (.list (L1.map dO)) := f1
  have f2 : Da K B v2 (.list (L2.map dO)) := f2
  have q : RD K B H (.bool ((L1.zip L2).all fun e => atM e.1 e.2)) Q := q
  refine q_for W (i_zip (a_cons (e_var f1) (a_cons (e_var f2) a_nil))) (fun i σ B' H' => ∃ a b, σ = [some v1, some v2, a, b] ∧ (∀ j e, j < i → (L1.zip L2)[j]? = some e → atM e.1 e.2 = true) ∧ Wd K ⟨B, H, []⟩ none [] B' H')
    (fun B4 H4 e4 W4 => ⟨_, _, rfl, fun j e h => absurd h (Nat.not_lt_zero _), W4⟩) (fun i σ' B' H' iv => by obtain ⟨_, _, _, _, h⟩ := iv; exact h.inn) ?_ ?_
  · rintro i x σ' B0 B4 H4 B5 H5 hi e4 e5 ⟨xa, xb, rfl, hno, W4⟩ e6 up fx
    have W5 := up _ _ W4
    have hi : i < L1.length := by rw [List.length_map, List.length_map] at hi; omega
    have h1 : L1[i]? = some L1[i] := List.getElem?_eq_getElem hi
    have h2 : L2[i]? = some (L2[i]'(by omega)) := List.getElem?_eq_getElem (by omega)
    have hz : (L1.zip L2)[i]? = some (L1[i], L2[i]'(by omega)) := by rw [List.getElem?_zip_eq_some]; exact ⟨h1, h2⟩
    have hz0 := hz
    have fx : Da K B5 x (.tuple [(L1.map dO).getD i .none, (L2.map dO).getD i .none]) := fx
    rw [getD_map (f := dO) h1, getD_map (f := dO) h2] at fx
    generalize L1[i] = a at fx hz
    generalize (L2[i]'(by omega)) = b at fx hz
    clear h1 h2 hz0
    refine g_tup fx W5.inn rfl fun vs fv => g_cons fv fun va r fa fr => g_cons fr fun vb r fb fr => g_nil fr ?_
    have tst : Et K ⟨B, H, []⟩ none [] (tAnd (tTest (tOp (fun x y H Q => y = .non ∧ Q (.bl (!decide (x = .non))) H) (tVar 3) (tC .non))) (tOr (tTest (tOp (fun x y H Q => y = .non ∧ Q (.bl (decide (x = .non))) H) (tVar 2) (tC .non))) (tTest (tOp (rI0 fun i j => .bl (decide (j < i))) (tVar 2) (tVar 3))))) [some v1, some v2, some va, some vb] B5 (!atM a b) := by
      cases b with
      | none =>
        refine t_to (t_and (a := false) (b := true) (t_to (t_test (e_opNotN (e_var fb))) rfl) fun z => nomatch z) ?_
        cases a <;> rfl
      | some y =>
        cases a with
        | none => exact t_to (t_and (t_to (t_test (e_opNotN (e_var fb))) rfl) fun _ => t_or (a := true) (b := true) (t_to (t_test (e_opIsN (e_var fa))) rfl) fun z => nomatch z) rfl
        | some z =>
          refine t_to (t_and (t_to (t_test (e_opNotN (e_var fb))) rfl) fun _ => t_or (t_to (t_test (e_opIsN (e_var fa))) rfl) fun _ => t_test (e_gtN (a := z) (b := y) (e_var fa) (e_var fb))) ?_
          show (true && (false || decide (y < z))) = !decide (z ≤ y)
          rw [Bool.true_and, Bool.false_or]
          by_cases h : z ≤ y
          · rw [decide_eq_true h, decide_eq_false (by omega)]
            rfl
          · rw [decide_eq_false h, decide_eq_true (by omega)]
            rfl
    refine s_if W5 tst (fun hb B6 H6 e7 W6 => ?_) fun hb B6 H6 e7 W6 => ?_
    · have ha : atM a b = false := by simpa using hb
      refine s_retB W6 e_cbl fun v B7 H7 e8 W7 fv => W7.back rfl q ?_
      show Da K B7 v (.bool ((L1.zip L2).all fun e => atM e.1 e.2))
      rw [zip_all_take hz ha]
      exact fv
    · have ha : atM a b = true := by simpa using hb
      refine ⟨B6, (e5.trans e6).trans e7, _, _, rfl, fun j e hj he => ?_, W6⟩
      by_cases z : j < i
      · exact hno j e z he
      · have z : j = i := by omega
        rw [z, hz] at he
        cases he
        exact ha
  · rintro σ' B4 H4 e4 ⟨xa, xb, rfl, hno, W4⟩
    have hall : (L1.zip L2).all (fun e => atM e.1 e.2) = true := by
      rw [List.all_eq_true]
      intro e he
      obtain ⟨j, hj⟩ := List.getElem?_of_mem he
      have hjl := (List.getElem?_eq_some_iff.mp hj).1
      rw [List.length_zip] at hjl
      refine hno j e ?_ hj
      rw [List.length_map, List.length_map]
      exact hjl
    rw [hall] at q
    exact s_ret W4 e_cbl rfl q
/-- a part of a run's answer -/
theorem e_runAt {c : Ent} {dr : Dr} {ls : Ls} {σ : L2.St} {B : Hp} {t : TA} {p : Prog} {ru : Rule} {i : Int} {d : PyData} (ha : EaD K c dr ls t σ B [dProg p, dRule ru]) (pg : PgOk p) (rok : RuleOk ru) (hd : ∀ cops, atI [.list (((List.range (nv p)).map (capOf p (chOf ru))).map dO), .list cops, dNats (originsL p (cpOf p (chOf ru)))] i = some d) :
    EvD K c dr ls (tOp (rIxT K) (tCall (sp_law_run K) [] E0 t) (tC (.int i))) σ B d :=
  EvB.op (c_B (a := (p, ru)) ha ⟨pg, rok⟩) fun x B2 ex ⟨cops, fx⟩ => EvB.imp (Ψ := fun y B2 => RvB K c dr ls (rIxT K x y) B2 fun v B' => Da K B' v d) (e_cint (n := i)) fun y B3 e3 fy => rv_of fun B4 H4 e4 w4 Q q => by
    obtain ⟨a, xs, rfl, hx, hl⟩ := (fx.mono (e3.trans e4)).tup_inv
    obtain ⟨v, hv, fv⟩ := hl.at (hd cops)
    exact ⟨a, xs, i, v, rfl, fy.int_eq, Evl.ex_t w4.inn hx, hv, q v fv⟩
theorem cl_law_is_met (d : Df K mg "_law_is_met" s_law_is_met) (T : Tx K mg) (c_law_run : Cl P w K mg base 3 "_law_run" (sp_law_run K) []) : Cl P w K mg base 4 "_law_is_met" (sp_law_is_met K) [] := by
  refine cl_of d sc_law_is_met (fun f fd F => F.bindsN fun _ _ _ _ _ _ us hl => match us, hl with | [_, _, _], _ => rfl) (SpB.len fun _ => rfl) fun cdv f A outer s H vs Q E hr h => ?_
  have hu := hu_of hr
  refine ⟨_, (pss_cons (ps_set (i := 3) sc_law_is_met.nd rfl (Or.inr rfl) (pe_ix (ixT K) (pe_cl c_law_run hr (by decide) rfl (pa_cons (pv 0) (pa_cons (pv 1) pa_nil))) pe_int (fun _ _ => rfl)))
      (pss_one (ps_ret (pe_cmpR (opEqD K hr.units) (pe_lc (own := [("_law_one", 4)]) (by rfl) sc_law_is_met.nd (pi_list (pv 2)) (blkOk_by (own := [("_law_one", 4)]) (N := N_law_is_met) (sc := defScope s_law_is_met) (by decide +kernel)) (fun _ _ _ _ _ => (pg_name (i := 4) sc_law_is_met.nd rfl (Or.inl rfl))) (fun _ _ _ _ _ => (pts_one (pt_cmpR op_ne (pe_ix (ixL K) (pv 3) (pe_ix (ixT K) (pv 4) pe_int (fun _ _ => rfl)) (fun _ _ => rfl)) (pe_ix (ixT K) (pv 4) pe_int (fun _ _ => rfl)) (nomark _)))) (fun _ _ _ _ _ => pe_int)) (pe_lst pa_nil) (nomark _))))), ?_⟩
  obtain ⟨B, ⟨p, ru, D⟩, e0, dl, pre, q⟩ := h
  have W := Wd.start (K := K) e0
  obtain ⟨v1, r1, rfl, f1, dl⟩ := dl.cons_inv
  obtain ⟨v2, r2, rfl, f2, dl⟩ := dl.cons_inv
  obtain ⟨v3, r3, rfl, f3, dl⟩ := dl.cons_inv
  cases dl
  obtain ⟨pg, rok, hD, hDl⟩ := pre
  have pg : PgOk p := pg
  have rok : RuleOk ru := rok
  have hD : DemsOk p D := hD
  have hDl : D.length ≤ 1000 := hDl
  have f1 : Da K B v1 (dProg p) := f1
  have f2 : Da K B v2 (dRule ru) := f2
  have f3 : Da K B v3 (.list (D.map dPair)) := f3
  have q : RD K B H (.bool (metB p (cpOf p (chOf ru)) D)) Q := q
  refine q_set W (e_runAt (d := .list ((originsL p (cpOf p (chOf ru))).map nI)) (a_cons (e_var f1) (a_cons (e_var f2) a_nil)) pg rok fun _ => rfl) fun vs B1 H1 e1 W1 fs => ?_
  have hor : ∀ d, d ∈ D → ∃ o, (originsL p (cpOf p (chOf ru)))[d.1]? = some o := fun d hd => by
    obtain ⟨qr, w0, hq, _⟩ := hD d hd
    exact ⟨_, origins_at hq⟩
  unfold metB at q
  generalize originsL p (cpOf p (chOf ru)) = O at fs hor q
  refine s_ret (Φ := fun v B' => Da K B' v (.bool (D.all fun d => decide (O[d.1]? = some d.2)))) W1 (EvB.to (e_eqNil (EvN.data (l_lc (n := (D.map dPair).length) (f := fun i => (D.map dPair).getD i .none) (fun i => !decide (O[(D.getD i (0, 0)).1]? = some (D.getD i (0, 0)).2)) (fun _ => .int 1) (i_list (e_var f3)) (by rw [List.length_map]; omega) ?_)) ?_) ?_) rfl q
  · intro i x D0 acc B5 H5 hi e5 i5 fx R k
    obtain ⟨s, hs, e⟩ := turn_map hi
    have fx : Da K B5 x (.tuple [nI s.1, nI s.2]) := by
      have fx : Da K B5 x ((D.map dPair).getD i .none) := fx
      rw [e] at fx
      exact fx
    obtain ⟨o, ho⟩ := hor s (List.mem_of_getElem? hs)
    refine k _ rfl ?_ fun _ => e_cint
    rw [getD_mem' hs, ho]
    refine t_to (t_test (e_neN (e_atL (f := nI) (e_var fs) (e_ixT (e_var fx) e_cint (d := nI s.1) rfl) ho) (e_ixT (e_var fx) e_cint (d := nI s.2) rfl))) ?_
    by_cases z : o = s.2
    · rw [decide_eq_true z, decide_eq_true (congrArg some z)]
    · rw [decide_eq_false z, decide_eq_false fun y => z (Option.some.inj y)]
  · refine plainL_of fun d hd => ?_
    unfold given at hd
    obtain ⟨_, _, rfl⟩ := List.mem_map.mp hd
    exact sc_int 1
  · rw [List.length_map]
    have h := given_filter D (0, 0) (fun d => !decide (O[d.1]? = some d.2)) (fun _ => PyData.int 1)
    rw [h, List.isEmpty_map]
    congr 1
    cases hf : D.filter (fun d => !decide (O[d.1]? = some d.2)) with
    | nil =>
      symm
      show _ = true
      rw [List.all_eq_true]
      intro d hd
      have := List.filter_eq_nil_iff.mp hf d hd
      simpa using this
    | cons a l =>
      symm
      show _ = false
      rw [List.all_eq_false]
      have hm : a ∈ D.filter (fun d => !decide (O[d.1]? = some d.2)) := by rw [hf]; exact List.mem_cons_self
      obtain ⟨m1, m2⟩ := List.mem_filter.mp hm
      exact ⟨a, m1, by simpa using m2⟩
theorem cl_law_caps (d : Df K mg "_law_caps" s_law_caps) (T : Tx K mg) (c_least_policy : Cl P w K mg base 7 "least_policy" (sp_least_policy K) []) (c_law_run : Cl P w K mg base 3 "_law_run" (sp_law_run K) []) : Cl P w K mg base 8 "_law_caps" (sp_law_caps K) [] := by
  refine cl_of d sc_law_caps (fun f fd F => F.bindsN fun _ _ _ _ _ _ us hl => match us, hl with | [_, _], _ => rfl) (SpB.len fun _ => rfl) fun cdv f A outer s H vs Q E hr h => ?_
  have hu := hu_of hr
  refine ⟨_, (pss_cons (ps_set (i := 2) sc_law_caps.nd rfl (Or.inl rfl) (pe_cl c_least_policy hr (by decide) rfl (pa_cons (pv 0) (pa_cons (pv 1) pa_nil))))
      (pss_cons (ps_if (pt_cmpR op_ne (pe_ix (ixT K) (pv 2) pe_int (fun _ _ => rfl)) pe_str (nomark _)) (pss_one (ps_ret (pe_lst pa_nil))) pss_nil)
      (pss_one (ps_ret (pe_lst (pa_cons (pe_ix (ixT K) (pe_cl c_law_run hr (by decide) rfl (pa_cons (pv 0) (pa_cons (pe_ix (ixT K) (pv 2) pe_int (fun _ _ => rfl)) pa_nil))) pe_int (fun _ _ => rfl)) pa_nil)))))), ?_⟩
  obtain ⟨B, ⟨⟨p, pg⟩, D⟩, e0, dl, pre, q⟩ := h
  have W := Wd.start (K := K) e0
  obtain ⟨v1, r1, rfl, f1, dl⟩ := dl.cons_inv
  obtain ⟨v2, r2, rfl, f2, dl⟩ := dl.cons_inv
  cases dl
  obtain ⟨hDl, hD⟩ := pre
  have f1 : Da K B v1 (dProg p) := f1
  have f2 : Da K B v2 (dDems D) := f2
  have q : RB B H (fun v B' => ∃ o, IsLeast p pg.ok D o ∧ Da K B' v (capsD p o)) Q := q
  refine q_set W (c_B (a := ((⟨p, pg⟩ : Pg), D)) (a_cons (e_var f1) (a_cons (e_var f2) a_nil)) ⟨hDl, hD⟩) fun vf B1 H1 e1 W1 ff => ?_
  obtain ⟨o, d, hL, hU, hd, ff⟩ := ff
  have hL : IsLeast p pg.ok D o := hL
  cases o with
  | some U =>
    obtain ⟨rs, rfl⟩ := hd
    refine q_ifF W1 (t_to (t_test (e_neS (e_ixT (e_var ff) e_cint rfl) e_cstr)) (by show (!decide (("policy" : Str) = "policy")) = false; decide +kernel)) fun B2 H2 e2 W2 => ?_
    exact s_ret (Φ := fun v B' => ∃ o, IsLeast p pg.ok D o ∧ Da K B' v (capsD p o)) W2 (EvB.imp (EvN.data (l_lst (a_cons (e_runAt (d := .list (((List.range (nv p)).map (capOf p (tch U))).map dO)) (a_cons (e_var f1) (a_cons (e_ixT (e_var ff) e_cint (d := dRule (.table U)) rfl) a_nil)) pg (hU U rfl) fun _ => rfl) a_nil) lk)) fun v B3 e3 fv => ⟨some U, hL, fv⟩) rfl q
  | none =>
    obtain ⟨x, r, rfl, hr, hx⟩ := hd
    refine q_ifT W1 (t_to (t_test (e_neS (e_ixT (e_var ff) e_cint atI_0) e_cstr)) (by rw [decide_eq_false hx] <;> rfl)) fun B2 H2 e2 W2 => ?_
    exact s_ret (Φ := fun v B' => ∃ o, IsLeast p pg.ok D o ∧ Da K B' v (capsD p o)) W2 (EvB.imp (EvN.data (l_lst a_nil lk)) fun v B3 e3 fv => ⟨none, hL, fv⟩) rfl q
end GB
namespace GB
open PySem PySem.Spec PyProof.Rows L2
open Evl (Ex)
variable {P : Program} {w : World} {K : PySem.W.Frag} {mg : Str → Option Value} {base : Heap}

/-! ### the law's run by blocks: a new block -/
/-- what a new block is told, and what it gives back -/
def sp_law_new_block (K : PySem.W.Frag) : Sp := fun vs H Q _ => ∃ (c : Ent) (ls : Ls) (B : Hp) (a q : Addr) (bk : Blk) (kvs : List (Key × V)) (st sz : Nat),
  vs = [.ref a, .int (st : Int), .int (sz : Int)] ∧ Wd K c none ls B H ∧ BAt B a q bk.1 ∧ (q, Ct.dct kvs) ∈ ls ∧ KvR kvs bk.2 ∧ st ≤ 1000 ∧ sz ≤ 1000 ∧
  ∀ B' H' a' q' kvs', Ex B B' → c.H q' = none → Wd K c none ((q', .dct kvs') :: ls) B' H' → BAt B' a' q' none → KvR kvs' (bcut bk st (st + sz)).2 → kvs'.length ≤ sz → Q (.ref a') H'
theorem cl_law_new_block (d : Df K mg "_law_new_block" s_law_new_block) (T : Tx K mg)  : Cl P w K mg base 1 "_law_new_block" (sp_law_new_block K) [] := by
  refine cl_of d sc_law_new_block (fun f fd F => F.bindsN fun _ _ _ _ _ _ us hl => match us, hl with | [_, _, _], _ => rfl) (fun vs H Q E h => by obtain ⟨c, ls, B, a, q, bk, kvs, st, sz, rfl, _⟩ := h; rfl) fun cdv f A outer s H vs Q E hr h => ?_
  have hu := hu_of hr
  refine ⟨_, (pss_cons (ps_set (i := 3) sc_law_new_block.nd rfl (Or.inl rfl) pe_dnewK)
      (pss_cons (ps_for PassesOwn.never rfl (pi_range2 (by rfl) T.range (pa_cons (pv 1) (pa_cons (pe_op op_add (pv 1) (pv 2)) pa_nil))) (pg_name (i := 4) sc_law_new_block.nd rfl (Or.inl rfl)) (pss_one (ps_dput hu (pv 3) (pv 4) (pe_dget2 hu (pe_ix (ixL K) (pv 0) pe_int (fun _ _ => rfl)) (pv 4) (pe_ix (ixL K) (pv 0) pe_int (fun _ _ => rfl)) (by exact ⟨rfl, rfl, rfl, rfl⟩)) rfl)))
      (pss_one (ps_ret (pe_lst (pa_cons pe_non (pa_cons (pv 3) pa_nil))))))), ?_⟩
  obtain ⟨c, ls, B, a, q, bk, kvs, st, sz, rfl, W, hb, hm, hk, l1, l2, k⟩ := h
  refine q_setK W k_new fun p kvs0 B1 H1 e1 hp W1 ek => ?_
  subst ek
  refine q_for W1 (i_rng2 (a_cons (e_int (n := (st : Int))) (a_cons (e_ii (i := (st : Int)) (j := (sz : Int)) e_int e_int) a_nil))) (fun i σ B' H' => ∃ x kv, σ = [some (.ref a), some (.int (st : Int)), some (.int (sz : Int)), some (.ref p), x] ∧ Ex B B' ∧ Wd K c none ((p, .dct kv) :: ls) B' H' ∧ kv.length ≤ i ∧ KvR kv fun x => if st ≤ x ∧ x < st + i then some (bget bk x) else none)
    ?_ ?_ ?_ ?_
  · exact fun B2 H2 e2 W2 => ⟨_, _, rfl, e1.trans e2, W2, Nat.le_refl _, fun x => by
      show none = Option.map vO (if st ≤ x ∧ x < st + 0 then _ else none)
      rw [if_neg (by omega)]
      rfl⟩
  · rintro i σ' B' H' ⟨_, _, _, _, W2, _⟩
    exact W2.inn
  · rintro i x σ' B0 B2 H2 B3 H3 hi e2 e3 ⟨xv, kv, rfl, e4, W2, hl, hv⟩ e5 up fx
    have W3 := up _ _ W2
    have hi : i < sz := by omega
    have fx : Da K B3 x (nI (st + i)) := by
      have fx : Da K B3 x (.int ((st : Int) + (i : Nat))) := fx
      have ei : (st : Int) + (i : Nat) = ((st + i : Nat) : Int) := by omega
      rw [ei] at fx
      exact fx
    have ex : x = .int ((st + i : Nat) : Int) := fx.int_eq
    subst ex
    have hb3 : BAt B3 a q bk.1 := hb.mono (e4.trans e5)
    refine s_dput (p := p) W3 (.inl hp) (d := dO (bget bk (st + i))) (e_get2 (x := st + i) hb3 (List.mem_cons_of_mem _ hm) hk e_int) (fun B4 e6 => e_int (n := ((st + i : Nat) : Int))) (by omega) fun v B4 H4 e6 fv W4 => ?_
    have ev : v = vO (bget bk (st + i)) := by
      cases ho : bget bk (st + i) with
      | none =>
        rw [ho] at fv
        exact fv.non_eq
      | some n =>
        rw [ho] at fv
        exact fv.int_eq
    subst ev
    refine ⟨B4, ((e3.trans e5).trans e6), _, _, rfl, (e4.trans e5).trans e6, W4, Nat.le_trans (length_putK _ _ _) (by omega), ?_⟩
    intro y
    have z := hv.put (st + i) (bget bk (st + i)) y
    rw [z]
    by_cases ey : y = st + i
    · show Option.map vO (if y = st + i then some (bget bk (st + i)) else _) = Option.map vO (if st ≤ y ∧ y < st + (i + 1) then some (bget bk y) else none)
      rw [if_pos ey, if_pos (by omega), ey]
    · show Option.map vO (if y = st + i then some (bget bk (st + i)) else if st ≤ y ∧ y < st + i then some (bget bk y) else none) = Option.map vO (if st ≤ y ∧ y < st + (i + 1) then some (bget bk y) else none)
      rw [if_neg ey]
      by_cases h2 : st ≤ y ∧ y < st + i
      · rw [if_pos h2, if_pos (by omega)]
      · rw [if_neg h2, if_neg (by omega)]
  · rintro σ' B2 H2 e2 ⟨xv, kv, rfl, e4, W2, hl, hv⟩
    have en : ((st : Int) + (sz : Int) - (st : Int)).toNat = sz := by omega
    rw [en] at hl hv
    refine ⟨.ref p, rfl, by show 2 ≤ sizeLine; decide, fun p2 h2 => ?_⟩
    have W3 := W2.new (o := .lst [.non, .ref p]) h2
    have nB := W2.freshB h2
    have e5 : Ex B2 (upd B2 p2 (.lst [.non, .ref p])) := fun b o h => by
      rw [upd_ne (fun z => by rw [z, nB] at h; cases h)]
      exact h
    exact k _ _ p2 p kv (e4.trans e5) hp W3 upd_same hv hl
end GB
namespace GB
open PySem PySem.Spec PyProof.Rows L2
open Evl (Ex)
variable {P : Program} {w : World} {K : PySem.W.Frag} {mg : Str → Option Value} {base : Heap}

/-! ### the law's run by blocks: the state, an append -/
abbrev lsD (ds : List (Addr × List (Key × V))) : Ls := ds.map fun d => (d.1, Ct.dct d.2)
abbrev hmV (as : List Addr) (hs : List Nat) : List V := hs.map fun h => V.ref (as.getD h 0)
abbrev lsR (cp hm cop : Addr) (r : RS) (as : List Addr) (ds : List (Addr × List (Key × V))) (X : Ls) : Ls := (cp, .l (r.caps.map dO)) :: (hm, .raw (hmV as r.homes)) :: (cop, .l (r.cops.map nI)) :: (lsD ds ++ X)
theorem s_appM {K : PySem.W.Frag} {c : Ent} {dr : Dr} {l1 l2 : Ls} {σ : L2.St} {B H : Hp} {te : TE} {d : PyData} {ds : List PyData} {p : Addr} {D : Ends} {i : Nat} (w : Wd K c dr (l1 ++ (p, .l ds) :: l2) B H) (h0 : c.H p = none ∨ p ∈ c.M) (h : EvD K c dr (l1 ++ (p, .l ds) :: l2) te σ B d) (hl : ds.length < 100000) (k : ∀ B1 H1, Ex B B1 → Wd K c dr (l1 ++ (p, .l (ds ++ [d])) :: l2) B1 H1 → D.nx σ H1)
    (hi : σ[i]? = some (some (.ref p)) := by rfl) : tDrop (tBM K "list" rAppend (tVar i) (tCons te tNil)) D σ H := q_appM (tz := fun D => D.nx) w h0 h hl k hi
theorem s_appRM {K : PySem.W.Frag} {c : Ent} {dr dr' : Dr} {l1 l2 : Ls} {σ : L2.St} {B H : Hp} {te : TE} {p : Addr} {D : Ends} {i : Nat} {vs : List V} {Φ : V → Hp → Prop} (w : Wd K c dr (l1 ++ (p, .raw vs) :: l2) B H) (h0 : c.H p = none ∨ p ∈ c.M) (h : EvB K c dr dr' (l1 ++ (p, .raw vs) :: l2) te σ B Φ) (hl : vs.length < 100000)
    (k : ∀ v B1 H1, Ex B B1 → Φ v B1 → Wd K c dr' (l1 ++ (p, .raw (vs ++ [v])) :: l2) B1 H1 → D.nx σ H1) (hi : σ[i]? = some (some (.ref p)) := by rfl) : tDrop (tBM K "list" rAppend (tVar i) (tCons te tNil)) D σ H := q_appRM (tz := fun D => D.nx) w h0 h hl k hi
structure StA (K : PySem.W.Frag) (c : Ent) (cp hm cop : Addr) (X : Ls) (m : Nat) (r : RS) (as : List Addr) (ds : List (Addr × List (Key × V))) (B H : Hp) : Prop where
  wd : Wd K c none (lsR cp hm cop r as ds X) B H
  la : as.length = r.blks.length
  ld : ds.length = r.blks.length
  blk : ∀ (k : Nat) (a : Addr) (d : Addr × List (Key × V)) (bk : Blk), as[k]? = some a → ds[k]? = some d → r.blks[k]? = some bk → BAt B a d.1 bk.1 ∧ KvR d.2 bk.2 ∧ d.2.length ≤ m ∧ c.H d.1 = none
  hs : ∀ h, h ∈ r.homes → h < r.blks.length
  h1 : c.H cp = none
  h2 : c.H hm = none
  h3 : c.H cop = none
def sp_law_appended (K : PySem.W.Frag) : Sp := fun vs H Q _ => ∃ (c : Ent) (X : Ls) (B : Hp) (cp hm cop t : Addr) (m : Nat) (r : RS) (as : List Addr) (ds : List (Addr × List (Key × V))) (p : Prog) (ru : Rule) (n : Nat) (g : Bool) (v : Nat) (xs : List Int) (w1 w2 w3 : V),
  vs = [.ref t, w1, .int (n : Int), w2, w3] ∧ StA K c cp hm cop X m r as ds B H ∧ B t = some (.tup [.ref cp, .ref hm, .ref cop]) ∧ Da K B w1 (dRows (rows p)) ∧ Da K B w2 (dStm (.app g v xs)) ∧ Da K B w3 (dRule ru) ∧
  PgOk p ∧ RuleOk ru ∧ xs.length ≤ 10 ∧ v < nv p ∧ v < r.homes.length ∧ r.caps.length = r.homes.length ∧ r.homes.length ≤ 1000 ∧ r.cops.length ≤ 1000 ∧ m ≤ 50000 ∧
  ∀ B' H' as' ds', Ex B B' → StA K c cp hm cop X (m + 500) (stepR p (chOf ru) n r (.app g v xs)) as' ds' B' H' → Q .non H'
section
variable {c : Ent} {X : Ls} {B B' H H' : Hp} {cp hm cop : Addr} {m : Nat} {r : RS} {as : List Addr} {ds : List (Addr × List (Key × V))}
theorem StA.to (S : StA K c cp hm cop X m r as ds B H) (e : Ex B B') (w : Wd K c none (lsR cp hm cop r as ds X) B' H') : StA K c cp hm cop X m r as ds B' H' :=
  ⟨w, S.la, S.ld, fun k a d bk h1 h2 h3 => let ⟨x1, x2⟩ := S.blk k a d bk h1 h2 h3; ⟨x1.mono e, x2⟩, S.hs, S.h1, S.h2, S.h3⟩
/-- the block of a view -/
theorem StA.at_ (S : StA K c cp hm cop X m r as ds B H) {v : Nat} (hv : v < r.homes.length) : ∃ a d, as[r.home v]? = some a ∧ ds[r.home v]? = some d ∧ r.blks[r.home v]? = some (r.blkAt v) ∧ (hmV as r.homes)[v]? = some (.ref a) ∧ BAt B a d.1 (r.blkAt v).1 ∧ KvR d.2 (r.blkAt v).2 ∧ d.2.length ≤ m ∧ c.H d.1 = none ∧ (d.1, Ct.dct d.2) ∈ lsR cp hm cop r as ds X := by
  have e0 : r.homes[v]? = some r.homes[v] := List.getElem?_eq_getElem hv
  have eh : r.home v = r.homes[v] := by
    unfold RS.home
    rw [List.getD_eq_getElem?_getD, e0]
    rfl
  have hl : r.home v < r.blks.length := by
    rw [eh]
    exact S.hs _ (List.getElem_mem hv)
  have e1 : as[r.home v]? = some (as[r.home v]'(by rw [S.la]; exact hl)) := List.getElem?_eq_getElem _
  have e2 : ds[r.home v]? = some (ds[r.home v]'(by rw [S.ld]; exact hl)) := List.getElem?_eq_getElem _
  have e3 : r.blks[r.home v]? = some (r.blkAt v) := by
    unfold RS.blkAt
    rw [List.getD_eq_getElem?_getD, List.getElem?_eq_getElem hl]
    rfl
  obtain ⟨x1, x2, x3, x4⟩ := S.blk _ _ _ _ e1 e2 e3
  refine ⟨_, _, e1, e2, e3, ?_, x1, x2, x3, x4, ?_⟩
  · show (r.homes.map fun h => V.ref (as.getD h 0))[v]? = _
    rw [List.getElem?_map, e0]
    show some (V.ref (as.getD r.homes[v] 0)) = _
    rw [← eh, List.getD_eq_getElem?_getD, e1]
    rfl
  · refine List.mem_cons_of_mem _ (List.mem_cons_of_mem _ (List.mem_cons_of_mem _ (List.mem_append_left _ ?_)))
    exact List.mem_map_of_mem (f := fun d : Addr × List (Key × V) => (d.1, Ct.dct d.2)) (List.mem_of_getElem? e2)
end
section
variable {c : Ent} {X : Ls} {B B' H H' : Hp} {cp hm cop : Addr} {m : Nat} {r : RS} {as : List Addr} {ds : List (Addr × List (Key × V))}
theorem lsR_set {kb : Nat} {q : Addr} {kv : List (Key × V)} (h : kb < ds.length) :
    lsR cp hm cop r as (ds.set kb (q, kv)) X = ((cp, .l (r.caps.map dO)) :: (hm, .raw (hmV as r.homes)) :: (cop, .l (r.cops.map nI)) :: lsD (ds.take kb)) ++ (q, .dct kv) :: (lsD (ds.drop (kb + 1)) ++ X) := by
  show (cp, _) :: (hm, _) :: (cop, _) :: (lsD (ds.set kb (q, kv)) ++ X) = _
  rw [List.set_eq_take_append_cons_drop, if_pos h]
  show (cp, _) :: (hm, _) :: (cop, _) :: ((ds.take kb ++ (q, kv) :: ds.drop (kb + 1)).map _ ++ X) = _
  rw [List.map_append, List.append_assoc]
  rfl
/-- the dict of block kb is changed -/
theorem StA.put (S : StA K c cp hm cop X m r as ds B H) {kb m' : Nat} {a : Addr} {d : Addr × List (Key × V)} {bk bk' : Blk} {kv : List (Key × V)} (ha : as[kb]? = some a) (hd : ds[kb]? = some d) (hb : r.blks[kb]? = some bk) (e : Ex B B')
    (w : Wd K c none (lsR cp hm cop r as (ds.set kb (d.1, kv)) X) B' H') (eb : bk'.1 = bk.1) (hk : KvR kv bk'.2) (hl : kv.length ≤ m') (hm' : m ≤ m') : StA K c cp hm cop X m' { r with blks := r.blks.set kb bk' } as (ds.set kb (d.1, kv)) B' H' := by
  have lb : kb < r.blks.length := (List.getElem?_eq_some_iff.mp hb).1
  have ld : kb < ds.length := (List.getElem?_eq_some_iff.mp hd).1
  refine ⟨w, ?_, ?_, fun k a2 d2 bk2 h1 h2 h3 => ?_, fun h hh => ?_, S.h1, S.h2, S.h3⟩
  · show as.length = (r.blks.set kb bk').length
    rw [List.length_set]
    exact S.la
  · show (ds.set kb (d.1, kv)).length = (r.blks.set kb bk').length
    rw [List.length_set, List.length_set]
    exact S.ld
  · have h3 : (r.blks.set kb bk')[k]? = some bk2 := h3
    by_cases ek : k = kb
    · subst ek
      rw [List.getElem?_set_self ld] at h2
      rw [List.getElem?_set_self lb] at h3
      cases h2
      cases h3
      rw [ha] at h1
      cases h1
      obtain ⟨x1, x2, x3, x4⟩ := S.blk k a d bk ha hd hb
      exact ⟨by rw [eb]; exact x1.mono e, hk, hl, x4⟩
    · rw [List.getElem?_set_ne (fun z => ek z.symm)] at h2 h3
      obtain ⟨x1, x2, x3, x4⟩ := S.blk k a2 d2 bk2 h1 h2 h3
      exact ⟨x1.mono e, x2, Nat.le_trans x3 hm', x4⟩
  · show h < (r.blks.set kb bk').length
    rw [List.length_set]
    exact S.hs h hh
theorem StA.up (S : StA K c cp hm cop X m r as ds B H) {m' : Nat} (h : m ≤ m') : StA K c cp hm cop X m' r as ds B H :=
  ⟨S.wd, S.la, S.ld, fun k a d bk h1 h2 h3 => let ⟨x1, x2, x3, x4⟩ := S.blk k a d bk h1 h2 h3; ⟨x1, x2, Nat.le_trans x3 h, x4⟩, S.hs, S.h1, S.h2, S.h3⟩
theorem hmV_more {hs : List Nat} (a : Addr) (h : ∀ x, x ∈ hs → x < as.length) : hmV (as ++ [a]) hs = hmV as hs :=
  List.map_congr_left fun x hx => by
    show V.ref ((as ++ [a]).getD x 0) = V.ref (as.getD x 0)
    rw [getD_app_lt (h x hx)]
/-- a block joins -/
theorem StA.join (S : StA K c cp hm cop X m r as ds B H) {m' : Nat} {a : Addr} {q : Addr} {kv : List (Key × V)} {bk : Blk} {co : List Nat} (e : Ex B B') (w : Wd K c none (lsR cp hm cop { r with cops := co } as ((q, kv) :: ds) X) B' H') (hb : BAt B' a q bk.1) (hk : KvR kv bk.2) (hl : kv.length ≤ m') (hq : c.H q = none) (hm' : m ≤ m') :
    StA K c cp hm cop X m' { r with cops := co, blks := r.blks ++ [bk] } (as ++ [a]) (ds ++ [(q, kv)]) B' H' := by
  refine ⟨?_, by rw [List.length_append, List.length_append, S.la]; rfl, by rw [List.length_append, List.length_append, S.ld]; rfl, fun k a2 d2 bk2 h1 h2 h3 => ?_, fun h hh => ?_, S.h1, S.h2, S.h3⟩
  · have eh : hmV (as ++ [a]) r.homes = hmV as r.homes := hmV_more a fun x hx => by rw [S.la]; exact S.hs x hx
    show Wd K c none ((cp, .l (r.caps.map dO)) :: (hm, .raw (hmV (as ++ [a]) r.homes)) :: (cop, .l (co.map nI)) :: (lsD (ds ++ [(q, kv)]) ++ X)) B' H'
    rw [eh]
    refine w.perm ?_
    refine .cons _ (.cons _ (.cons _ (List.Perm.append_right X ?_)))
    exact (List.perm_append_singleton (q, kv) ds).map _
  · by_cases l : k < as.length
    · rw [List.getElem?_append_left l] at h1
      rw [List.getElem?_append_left (by rw [S.ld, ← S.la]; exact l)] at h2
      have h3 : (r.blks ++ [bk])[k]? = some bk2 := h3
      rw [List.getElem?_append_left (by rw [← S.la]; exact l)] at h3
      obtain ⟨x1, x2, x3, x4⟩ := S.blk k a2 d2 bk2 h1 h2 h3
      exact ⟨x1.mono e, x2, Nat.le_trans x3 hm', x4⟩
    · have h3 : (r.blks ++ [bk])[k]? = some bk2 := h3
      have ek : k = as.length := by
        have := (List.getElem?_eq_some_iff.mp h1).1
        rw [List.length_append] at this
        simp at this
        omega
      have e2 : k = ds.length := by rw [S.ld, ← S.la]; exact ek
      have e3 : k = r.blks.length := by rw [← S.la]; exact ek
      rw [ek, List.getElem?_concat_length] at h1
      rw [e2, List.getElem?_concat_length] at h2
      rw [e3, List.getElem?_concat_length] at h3
      cases h1
      cases h2
      cases h3
      exact ⟨hb, hk, hl, hq⟩
  · show h < (r.blks ++ [bk]).length
    rw [List.length_append]
    exact Nat.lt_add_right _ (S.hs h hh)
theorem q_newblk {D : Ends} {tz : TS} {σ : L2.St} {ls : Ls} {a q : Addr} {bk : Blk} {kvs : List (Key × V)} {st sz : Nat} {va vb : V} (w : Wd K c none ls B H) (hb : BAt B a q bk.1) (hm : (q, Ct.dct kvs) ∈ ls) (hk : KvR kvs bk.2) (l1 : st ≤ 1000) (l2 : sz ≤ 1000) (fa : Da K B va (nI st)) (fb : Da K B vb (nI sz))
    (k : ∀ B' H' a' q' kvs', Ex B B' → c.H q' = none → Wd K c none ((q', .dct kvs') :: ls) B' H' → BAt B' a' q' none → KvR kvs' (bcut bk st (st + sz)).2 → kvs'.length ≤ sz → tz D (σ.set 12 (some (.ref a'))) H')
    (g12 : σ[12]? = some (some (.ref a)) := by rfl) (g9 : σ[9]? = some (some va) := by rfl) (g10 : σ[10]? = some (some vb) := by rfl) :
    tSeq (tAsg (tCall (sp_law_new_block K) [] E0 (tCons (tVar 12) (tCons (tVar 9) (tCons (tVar 10) tNil)))) (gName 12)) tz D σ H := by
  have ea := fa.int_eq
  have eb := fb.int_eq
  subst ea
  subst eb
  exact ⟨_, g12, _, g9, _, g10, c, ls, B, a, q, bk, kvs, st, sz, rfl, w, hb, hm, hk, l1, l2, k⟩
theorem app_tail {D : Ends} {kb st ln k n : Nat} {a : Addr} {d : Addr × List (Key × V)} {bk : Blk} {rc : Option Nat} {t : Addr} {w1 w2 w3 vp vsa vsb vn vr : V} (S : StA K c cp hm cop X m r as ds B H) (ha : as[kb]? = some a) (hd : ds[kb]? = some d) (hb : r.blks[kb]? = some bk)
    (f1 : Da K B vsa (nI st)) (f2 : Da K B vsb (nI ln)) (f3 : Da K B vn (nI (ln + k))) (f4 : Da K B vr (dO rc)) (lk : k ≤ 10) (lst : st + ln ≤ 400) (lm : m ≤ 60000) (lc : r.caps.length ≤ 1000) (lh : r.homes.length ≤ 1000)
    (q : ∀ σ' B' H' kv, Ex B B' → StA K c cp hm cop X (m + 10) { r with caps := r.caps ++ [rc], homes := r.homes ++ [kb], blks := r.blks.set kb (bput bk (st + ln) (st + ln + k) n) } as (ds.set kb (d.1, kv)) B' H' → D.nx σ' H') :
    tSeq (tFor (iRng2 (tCons (tOp (rI0 fun i j => V.int (i + j)) (tVar 9) (tVar 10)) (tCons (tOp (rI0 fun i j => V.int (i + j)) (tVar 9) (tVar 11)) tNil))) (gName 14) (sDPut (tOp (rIxL K) (tVar 12) (tC (V.int 1))) (tVar 14) (tVar 2)))
      (tSeq (tDrop (tBM K "list" rAppend (tVar 5) (tCons (tVar 13) tNil))) (tDrop (tBM K "list" rAppend (tVar 6) (tCons (tVar 12) tNil)))) D
      [some (.ref t), some w1, some (.int (n : Int)), some w2, some w3, some (.ref cp), some (.ref hm), some (.ref cop), some vp, some vsa, some vsb, some vn, some (.ref a), some vr, none] H := by
  have ld : kb < ds.length := (List.getElem?_eq_some_iff.mp hd).1
  obtain ⟨hbat, hkv, hkl, hnew⟩ := S.blk kb a d bk ha hd hb
  have self : ds.set kb (d.1, d.2) = ds := by
    have e : (ds[kb]'ld) = d := Option.some.inj ((List.getElem?_eq_getElem ld).symm.trans hd)
    show ds.set kb d = ds
    rw [← e]
    exact List.set_getElem_self ld
  refine q_for S.wd (i_rng2 (a_cons (EvB.to (e_ii (e_var f1) (e_var f2)) (d1 := nI (st + ln)) rfl) (a_cons (EvB.to (e_ii (e_var f1) (e_var f3)) (d1 := nI (st + (ln + k))) rfl) a_nil)))
    (fun i σ B' H' => ∃ x kv, σ = [some (.ref t), some w1, some (.int (n : Int)), some w2, some w3, some (.ref cp), some (.ref hm), some (.ref cop), some vp, some vsa, some vsb, some vn, some (.ref a), some vr, x] ∧ Ex B B' ∧
      Wd K c none (lsR cp hm cop r as (ds.set kb (d.1, kv)) X) B' H' ∧ kv.length ≤ m + i ∧ KvR kv (bput bk (st + ln) (st + ln + i) n).2) ?_ ?_ ?_ ?_
  · intro B1 H1 e1 W1
    refine ⟨_, d.2, rfl, e1, by rw [self]; exact W1, hkl, fun x => ?_⟩
    show _ = Option.map vO (if st + ln ≤ x ∧ x < st + ln + 0 then _ else bk.2 x)
    rw [if_neg (by omega)]
    exact hkv x
  · rintro i σ' B' H' ⟨_, _, _, _, W, _⟩
    exact W.inn
  · rintro i x σ' B0 B1 H1 B2 H2 hi e0 e1 ⟨xv, kv, rfl, e2, W1, hl, hv⟩ e3 up fx
    have hi : i < k := by omega
    have W2 := up _ _ W1
    have fx : Da K B2 x (nI (st + ln + i)) := by
      have fx : Da K B2 x (.int (((st + ln : Nat) : Int) + (i : Nat))) := fx
      have ei : ((st + ln : Nat) : Int) + (i : Nat) = ((st + ln + i : Nat) : Int) := by omega
      rw [ei] at fx
      exact fx
    have ex := fx.int_eq
    subst ex
    rw [lsR_set ld] at W2
    refine s_bput (x := st + ln + i) (o := some n) W2 (.inl hnew) bk.1 (hbat.mono (e2.trans e3)) e_int (fun B4 e6 => e_int (n := ((st + ln + i : Nat) : Int))) (by omega) fun B3 H3 e4 W3 => ?_
    rw [← lsR_set ld] at W3
    refine ⟨B3, (e1.trans e3).trans e4, _, _, rfl, (e2.trans e3).trans e4, W3, Nat.le_trans (length_putK _ _ _) (by omega), fun y => ?_⟩
    have z := hv.put (st + ln + i) (some n) y
    rw [z]
    by_cases ey : y = st + ln + i
    · show Option.map vO (if y = st + ln + i then some (some n) else _) = Option.map vO (if st + ln ≤ y ∧ y < st + ln + (i + 1) then some (some n) else bk.2 y)
      rw [if_pos ey, if_pos (by omega)]
    · show Option.map vO (if y = st + ln + i then some (some n) else if st + ln ≤ y ∧ y < st + ln + i then some (some n) else bk.2 y) = Option.map vO (if st + ln ≤ y ∧ y < st + ln + (i + 1) then some (some n) else bk.2 y)
      rw [if_neg ey]
      by_cases h2 : st + ln ≤ y ∧ y < st + ln + i
      · rw [if_pos h2, if_pos (by omega)]
      · rw [if_neg h2, if_neg (by omega)]
  · rintro σ' B1 H1 e1 ⟨xv, kv, rfl, e2, W1, hl, hv⟩
    have en : (((st + (ln + k) : Nat) : Int) - ((st + ln : Nat) : Int)).toNat = k := by omega
    rw [en] at hl hv
    refine q_appM (l1 := []) (p := cp) W1 (.inl S.h1) (d := dO rc) (e_var f4) (by rw [List.length_map]; omega) fun B2 H2 e3 W2 => ?_
    refine s_appRM (l1 := [(cp, .l (r.caps.map dO ++ [dO rc]))]) (p := hm) W2 (.inl S.h2) (e_ref (p := a) (P := fun v _ => v = .ref a) rfl fun _ _ => rfl) (by rw [List.length_map]; omega) fun v B3 H3 e4 ev W3 => ?_
    subst ev
    have S1 := S.put (m' := m + 10) (B' := B1) (H' := H1) (bk' := bput bk (st + ln) (st + ln + k) n) ha hd hb e2 W1 rfl hv (by omega) (by omega)
    refine q _ B3 H3 kv ((e2.trans e3).trans e4) ⟨?_, S1.la, S1.ld, fun k2 a2 d2 bk2 h1 h2 h3 => let ⟨x1, x2⟩ := S1.blk k2 a2 d2 bk2 h1 h2 h3; ⟨x1.mono (e3.trans e4), x2⟩, fun h hh => ?_, S.h1, S.h2, S.h3⟩
    · have ec : (r.caps ++ [rc]).map dO = r.caps.map dO ++ [dO rc] := by rw [List.map_append]; rfl
      have eh : hmV as (r.homes ++ [kb]) = hmV as r.homes ++ [V.ref a] := by
        show (r.homes ++ [kb]).map _ = _
        rw [List.map_append]
        show _ ++ [V.ref (as.getD kb 0)] = _
        rw [List.getD_eq_getElem?_getD, ha]
        rfl
      show Wd K c none ((cp, .l ((r.caps ++ [rc]).map dO)) :: (hm, .raw (hmV as (r.homes ++ [kb]))) :: _) B3 H3
      rw [ec, eh]
      exact W3
    · rcases List.mem_append.mp hh with z | z
      · exact S1.hs h z
      · rw [List.mem_singleton.mp z]
        show kb < (r.blks.set kb _).length
        rw [List.length_set]
        exact (List.getElem?_eq_some_iff.mp hb).1
end
theorem cl_law_appended (d : Df K mg "_law_appended" s_law_appended) (T : Tx K mg) (c_law_new_block : Cl P w K mg base 1 "_law_new_block" (sp_law_new_block K) []) (c_law_chosen : Cl P w K mg base 1 "_law_chosen" (sp_law_chosen K) []) : Cl P w K mg base 2 "_law_appended" (sp_law_appended K) [] := by
  refine cl_of d sc_law_appended (fun f fd F => F.bindsN fun _ _ _ _ _ _ us hl => match us, hl with | [_, _, _, _, _], _ => rfl) (fun vs H Q E h => by obtain ⟨_, _, _, _, _, _, _, _, _, _, _, _, _, _, _, _, _, _, _, _, rfl, _⟩ := h; rfl) fun cdv f A outer s H vs Q E hr h => ?_
  have hu := hu_of hr
  refine ⟨_, (pss_cons (ps_asg (pv 0) (pgTup (n := 3) K (pgs_cons (pg_name (i := 5) sc_law_appended.nd rfl (Or.inl rfl)) (pgs_cons (pg_name (i := 6) sc_law_appended.nd rfl (Or.inl rfl)) (pgs_cons (pg_name (i := 7) sc_law_appended.nd rfl (Or.inl rfl)) pgs_nil)))))
      (pss_cons (ps_set (i := 8) sc_law_appended.nd rfl (Or.inl rfl) (pe_ix (ixT K) (pv 3) pe_int (fun _ _ => rfl)))
      (pss_cons (ps_asg (pe_slice (slT K) (pe_ix (ixL K) (pv 1) (pv 8) (fun _ _ => rfl)) (po_some pe_int) po_none) (pgTup (n := 2) K (pgs_cons (pg_name (i := 9) sc_law_appended.nd rfl (Or.inl rfl)) (pgs_cons (pg_name (i := 10) sc_law_appended.nd rfl (Or.inl rfl)) pgs_nil))))
      (pss_cons (ps_set (i := 11) sc_law_appended.nd rfl (Or.inl rfl) (pe_op op_add (pv 10) (pe_callB call_len_seq (by rfl) T.len PySem.boot_len (pa_cons (pe_ix (ixT K) (pv 3) pe_int (fun _ _ => rfl)) pa_nil))))
      (pss_cons (ps_set (i := 12) sc_law_appended.nd rfl (Or.inl rfl) (pe_ix (ixL K) (pv 6) (pv 8) (fun _ _ => rfl)))
      (pss_cons (ps_set (i := 13) sc_law_appended.nd rfl (Or.inl rfl) (pe_ix (ixL K) (pv 5) (pv 8) (fun _ _ => rfl)))
      (pss_cons (ps_if (PW.pt (pw_or (pt_cmpR op_eq (pe_ix (ixT K) (pv 3) pe_int (fun _ _ => rfl)) pe_str (nomark _)) (pw_or1 (PW.pt (pw_and (pt_cmpR op_notN (pv 13) pe_non (nomark _)) (pw_and1 (pt_cmpR op_gt (pv 11) (pv 13) (nomark _)))))))) (pss_cons (ps_set (i := 12) sc_law_appended.nd rfl (Or.inl rfl) (pe_cl c_law_new_block hr (by decide) rfl (pa_cons (pv 12) (pa_cons (pv 9) (pa_cons (pv 10) pa_nil)))))
      (pss_cons (ps_set (i := 13) sc_law_appended.nd rfl (Or.inl rfl) (pe_cl c_law_chosen hr (by decide) rfl (pa_cons (pv 4) (pa_cons (pv 2) (pa_cons (pv 11) pa_nil)))))
      (pss_one (ps_expr (pe_bm PySem.F.plainAttrs_list PySem.F.slot_list_append PySem.F.type_list_append mt_append (pv 7) (pa_cons (pv 2) pa_nil)))))) pss_nil)
      (pss_cons (ps_for PassesOwn.never rfl (pi_range2 (by rfl) T.range (pa_cons (pe_op op_add (pv 9) (pv 10)) (pa_cons (pe_op op_add (pv 9) (pv 11)) pa_nil))) (pg_name (i := 14) sc_law_appended.nd rfl (Or.inl rfl)) (pss_one (ps_dput hu (pe_ix (ixL K) (pv 12) pe_int (fun _ _ => rfl)) (pv 14) (pv 2) rfl)))
      (pss_cons (ps_expr (pe_bm PySem.F.plainAttrs_list PySem.F.slot_list_append PySem.F.type_list_append mt_append (pv 5) (pa_cons (pv 13) pa_nil)))
      (pss_one (ps_expr (pe_bm PySem.F.plainAttrs_list PySem.F.slot_list_append PySem.F.type_list_append mt_append (pv 6) (pa_cons (pv 12) pa_nil))))))))))))), ?_⟩
  obtain ⟨c, X, B, cp, hm, cop, t, m, r, as, ds, p, ru, n, g, v, xs, w1, w2, w3, rfl, S, ht, f1, f2, f3, pok, rok, lx, lv, lh, lc, l40, lcop, lm, k⟩ := h
  have hrow : (rows p)[v]? = some ((rows p).getD v row0) := row_at lv
  obtain ⟨a, dd, ha, hd, hb, hhm, hbat, hkv, hkl, hnew, hmem⟩ := S.at_ lh
  have hvend := pok.vend v
  refine ⟨.ref t, rfl, t, [.ref cp, .ref hm, .ref cop], rfl, SqT.of (S.wd.inn _ _ ht), rfl, _, _, rfl, _, _, rfl, _, _, rfl, rfl, ?_⟩
  have f2 : Da K B w2 (.tuple [.str (if g then "grow" else "append"), nI v, .tuple (xs.map PyData.int)]) := f2
  refine q_set S.wd (EvB.to (e_ixT (e_var f2) e_cint (d := nI v) rfl) rfl) fun vp B1 H1 e1 W1 fp => ?_
  refine q_asg W1 (EvB.to (e_slT (e_ixL (d := .tuple [nI ((rows p).getD v row0).st, dO ((rows p).getD v row0).par, nI (vstart p v), nI (vlen p v)]) (e_var f1) (e_var fp) (atI_map (f := dRow) hrow)) (o_some e_cint) o_none (by show ¬ (HT.sIx 4 0 (some 2) = 0 ∧ HT.sIx 4 4 none = 4); decide)) (d1 := .tuple [nI (vstart p v), nI (vlen p v)]) rfl) fun vt B2 H2 e2 W2 ft => ?_
  refine g_tup ft W2.inn rfl fun vs fv => g_cons fv fun vsa r1 fa fr => g_cons fr fun vsb r2 fb fr => g_nil fr ?_
  refine q_set W2 (EvB.to (e_ii (e_var fb) (e_lenT (a_cons (e_ixT (e_var f2) e_cint (d := .tuple (xs.map PyData.int)) rfl) a_nil))) (d1 := nI (vlen p v + xs.length)) (by rw [List.length_map]; rfl)) fun vn B3 H3 e3 W3 fn => ?_
  refine q_set W3 (e_ixRM (List.mem_cons_of_mem _ List.mem_cons_self) (e_var fp) hhm) fun va B4 H4 e4 W4 ea => ?_
  subst ea
  refine q_set W4 (e_ixB (d := dO (r.cap v)) List.mem_cons_self (e_var fp) ?_) fun vr B5 H5 e5 W5 fr => ?_
  · have e0 : r.caps[v]? = some r.caps[v] := List.getElem?_eq_getElem (by omega)
    have e1 : r.cap v = r.caps[v] := by
      unfold RS.cap
      rw [List.getD_eq_getElem?_getD, e0]
      rfl
    rw [e1]
    exact atI_map e0
  have S5 := S.to ((((e1.trans e2).trans e3).trans e4).trans e5) W5
  have f2' := f2.mono ((((e1.trans e2).trans e3).trans e4).trans e5)
  have fa' := fa.mono ((e3.trans e4).trans e5)
  have fb' := fb.mono ((e3.trans e4).trans e5)
  have fn' := fn.mono (e4.trans e5)
  refine q_if (b := !(!g && fits (vlen p v + xs.length) (r.cap v))) W5 ?_ (fun hb1 B6 H6 e6 W6 => ?_) (fun hb1 B6 H6 e6 W6 => ?_)
  · refine t_to (t_or (t_test (e_eqS (e_ixT (e_var f2') e_cint (d := .str (if g then "grow" else "append")) rfl) e_cstr)) (b := !fits (vlen p v + xs.length) (r.cap v)) fun hg => ?_) ?_
    · cases hc : r.cap v with
      | none =>
        rw [hc] at fr
        exact t_to (t_and (a := false) (b := true) (t_to (t_test (e_opNotN (d := .none) (e_var fr))) rfl) fun z => nomatch z) rfl
      | some x =>
        rw [hc] at fr
        refine t_to (t_and (t_to (t_test (e_opNotN (d := nI x) (e_var fr))) rfl) fun _ => t_test (e_gtN (a := vlen p v + xs.length) (b := x) (e_var fn') (e_var fr))) ?_
        show (true && decide (x < vlen p v + xs.length)) = !decide (vlen p v + xs.length ≤ x)
        by_cases z : x < vlen p v + xs.length
        · rw [decide_eq_true z, decide_eq_false (by omega)]
          rfl
        · rw [decide_eq_false z, decide_eq_true (by omega)]
          rfl
    · cases g with
      | true =>
        show (decide (("grow" : Str) = "grow") || _) = !(!true && _)
        rw [decide_eq_true rfl]
        rfl
      | false =>
        show (decide (("append" : Str) = "grow") || !fits (vlen p v + xs.length) (r.cap v)) = !(true && fits (vlen p v + xs.length) (r.cap v))
        rw [show decide (("append" : Str) = "grow") = false by decide +kernel]
        rw [Bool.true_and, Bool.false_or]
  · have hno : ¬ (!g && fits (vlen p v + xs.length) (r.cap v)) = true := by
      intro z
      rw [z] at hb1
      cases hb1
    have S6 := S5.to e6 W6
    refine q_newblk W6 (hbat.mono (((((e1.trans e2).trans e3).trans e4).trans e5).trans e6)) hmem hkv (by omega) (by omega) (fa'.mono e6) (fb'.mono e6) fun B7 H7 a' q' kv' e7 hq' W7 hb' hk' hl' => ?_
    refine q_set W7 (c_D (a := (ru, n, vlen p v + xs.length)) (a_cons (e_var f3) (a_cons (e_int (n := (n : Int))) (a_cons (e_var fn') a_nil))) ⟨rok, by show vlen p v + xs.length ≤ 100000; omega⟩) fun vr2 B8 H8 e8 W8 fr2 => ?_
    have fr2 : Da K B8 vr2 (dO (chOf ru n (vlen p v + xs.length))) := fr2
    refine s_appM (l1 := [(q', .dct kv'), (cp, .l (r.caps.map dO)), (hm, .raw (hmV as r.homes))]) (p := cop) W8 (.inl S.h3) (d := nI n) (e_int (n := (n : Int))) (by rw [List.length_map]; omega) fun B9 H9 e9 W9 => ?_
    have S9 := S6.join (m' := m + 400) (co := r.cops ++ [n]) (a := a') (q := q') (kv := kv') (bk := bcut (r.blkAt v) (vstart p v) (vstart p v + vlen p v)) (H' := H9) ((e7.trans e8).trans e9) ?_ (hb'.mono (e8.trans e9)) hk' (by omega) hq' (by omega)
    · refine app_tail (kb := r.blks.length) (st := vstart p v) (ln := vlen p v) (k := xs.length) (rc := chOf ru n (vlen p v + xs.length)) (n := n) S9 (d := (q', kv')) (bk := bcut (r.blkAt v) (vstart p v) (vstart p v + vlen p v)) ?_ ?_ ?_ (fa'.mono (((e6.trans e7).trans e8).trans e9)) (fb'.mono (((e6.trans e7).trans e8).trans e9)) (fn'.mono (((e6.trans e7).trans e8).trans e9)) (fr2.mono e9) lx hvend (by omega) (show r.caps.length ≤ 1000 by omega) l40 ?_
      · rw [← S.la]
        exact List.getElem?_concat_length
      · rw [← S.ld]
        exact List.getElem?_concat_length
      · exact List.getElem?_concat_length
      · intro σ' B' H' kv ex Sx
        refine k B' H' (as ++ [a']) ((ds ++ [(q', kv')]).set r.blks.length (q', kv)) (((((((((e1.trans e2).trans e3).trans e4).trans e5).trans e6).trans e7).trans e8).trans e9).trans ex) ?_
        have Sx := Sx.up (m' := m + 500) (by omega)
        have er : stepR p (chOf ru) n r (.app g v xs) = { r with caps := r.caps ++ [chOf ru n (vlen p v + xs.length)], homes := r.homes ++ [r.blks.length], cops := r.cops ++ [n], blks := (r.blks ++ [bcut (r.blkAt v) (vstart p v) (vstart p v + vlen p v)]).set r.blks.length (bput (bcut (r.blkAt v) (vstart p v) (vstart p v + vlen p v)) (vstart p v + vlen p v) (vstart p v + vlen p v + xs.length) n) } := by
          show (if (!g && fits (vlen p v + xs.length) (r.cap v)) = true then _ else _) = _
          rw [if_neg hno, List.set_append_right _ _ (Nat.le_refl _), Nat.sub_self]
          rfl
        rw [er]
        exact Sx
    · have e : (r.cops ++ [n]).map nI = r.cops.map nI ++ [nI n] := by rw [List.map_append]; rfl
      show Wd K c none ((cp, .l (r.caps.map dO)) :: (hm, .raw (hmV as r.homes)) :: (cop, .l ((r.cops ++ [n]).map nI)) :: ((q', .dct kv') :: lsD ds ++ X)) B9 H9
      rw [e]
      refine W9.perm ?_
      exact (List.perm_middle (a := (q', Ct.dct kv')) (l₁ := [(cp, Ct.l (r.caps.map dO)), (hm, Ct.raw (hmV as r.homes)), (cop, Ct.l (r.cops.map nI ++ [nI n]))]) (l₂ := lsD ds ++ X))
  · have hyes : (!g && fits (vlen p v + xs.length) (r.cap v)) = true := by
      cases z : (!g && fits (vlen p v + xs.length) (r.cap v)) with
      | true => rfl
      | false =>
        rw [z] at hb1
        cases hb1
    have S6 := S5.to e6 W6
    refine app_tail (kb := r.home v) (st := vstart p v) (ln := vlen p v) (k := xs.length) (rc := r.cap v) (n := n) S6 ha hd hb (fa'.mono e6) (fb'.mono e6) (fn'.mono e6) (fr.mono e6) lx hvend (by omega) (by omega) l40 ?_
    intro σ' B' H' kv ex Sx
    refine k B' H' as (ds.set (r.home v) (dd.1, kv)) ((((((e1.trans e2).trans e3).trans e4).trans e5).trans e6).trans ex) ?_
    have Sx := Sx.up (m' := m + 500) (by omega)
    have er : stepR p (chOf ru) n r (.app g v xs) = { r with caps := r.caps ++ [r.cap v], homes := r.homes ++ [r.home v], blks := r.blks.set (r.home v) (bput (r.blkAt v) (vstart p v + vlen p v) (vstart p v + vlen p v + xs.length) n) } := by
      show (if (!g && fits (vlen p v + xs.length) (r.cap v)) = true then _ else _) = _
      rw [if_pos hyes]
      rfl
    rw [er]
    exact Sx
end GB
namespace GB
open PySem PySem.Spec PyProof.Rows L2
open Evl (Ex)
variable {P : Program} {w : World} {K : PySem.W.Frag} {mg : Str → Option Value} {base : Heap}

/-! ### the law's run -/
theorem runN_cops (p : Prog) (ch : Ch) : ∀ n, (runN p ch n).cops.length ≤ n
  | 0 => Nat.le_refl 0
  | n + 1 => by
    have ih := runN_cops p ch n
    cases h : p[n]? with
    | none =>
      have e : runN p ch (n + 1) = runN p ch n := by
        show (match p[n]? with
          | some s => stepR p ch n (runN p ch n) s
          | none => runN p ch n) = _
        rw [h]
      rw [e]
      omega
    | some s =>
      rw [runN_succ h]
      cases s with
      | app g v xs =>
        show (if (!g && fits (vlen p v + xs.length) ((runN p ch n).cap v)) = true then _ else _ : RS).cops.length ≤ n + 1
        split
        · exact Nat.le_succ_of_le ih
        · show ((runN p ch n).cops ++ [n]).length ≤ n + 1
          rw [List.length_append]
          exact Nat.succ_le_succ ih
      | _ => exact Nat.le_succ_of_le ih
theorem app_seen (p : Prog) (ch : Ch) (n : Nat) (r : RS) (g : Bool) (v : Nat) (xs : List Int) : (stepR p ch n r (.app g v xs)).seen = r.seen := by
  have h : ∀ (b : Bool) (x y : RS), x.seen = r.seen → y.seen = r.seen → (if b = true then x else y).seen = r.seen := fun b x y hx hy => by
    cases b with
    | true => exact hx
    | false => exact hy
  exact h _ _ _ rfl rfl
section
variable {c : Ent} {X X' : Ls} {B B' H H' : Hp} {cp hm cop se : Addr} {m : Nat} {r : RS} {as : List Addr} {ds : List (Addr × List (Key × V))}
theorem StA.vw (S : StA K c cp hm cop X m r as ds B H) {cs : List (Option Nat)} {hs : List Nat} {sn : List (Option Nat)} (e : Ex B B') (w : Wd K c none (lsR cp hm cop ⟨cs, hs, r.blks, r.cops, sn⟩ as ds X') B' H') (hh : ∀ h, h ∈ hs → h < r.blks.length) :
    StA K c cp hm cop X' m ⟨cs, hs, r.blks, r.cops, sn⟩ as ds B' H' :=
  ⟨w, S.la, S.ld, fun k a d bk h1 h2 h3 => let ⟨x1, x2⟩ := S.blk k a d bk h1 h2 h3; ⟨x1.mono e, x2⟩, hh, S.h1, S.h2, S.h3⟩
theorem capsV (r : RS) (rc : Option Nat) : (r.caps ++ [rc]).map dO = r.caps.map dO ++ [dO rc] := by rw [List.map_append] <;> rfl
theorem homesV {kb : Nat} {a : Addr} (r : RS) (h : as[kb]? = some a) : hmV as (r.homes ++ [kb]) = hmV as r.homes ++ [V.ref a] := by
  show (r.homes ++ [kb]).map _ = _
  rw [List.map_append]
  show _ ++ [V.ref (as.getD kb 0)] = _
  rw [List.getD_eq_getElem?_getD, h]
  rfl
/-- a view of an old block -/
theorem view_tail {D : Ends} {v : Nat} {rc : Option Nat} {wr w8 : V} {x0 x1 x2 x5 x6 x7 x9 x11 x12 x13 : Option V} {d0 : PyData} {rest : List PyData} (S : StA K c cp hm cop X m r as ds B H) (hv : v < r.homes.length) (f8 : Da K B w8 (.tuple (d0 :: nI v :: rest))) (fr : Da K B wr (dO rc)) (lc : r.caps.length ≤ 1000) (lh : r.homes.length ≤ 1000)
    (q : ∀ B' H', Ex B B' → StA K c cp hm cop X m ⟨r.caps ++ [rc], r.homes ++ [r.home v], r.blks, r.cops, r.seen⟩ as ds B' H' → D.nx [x0, x1, x2, some (.ref cp), some (.ref hm), x5, x6, x7, some w8, x9, some wr, x11, x12, x13] H') :
    tSeq (tDrop (tBM K "list" rAppend (tVar 3) (tCons (tVar 10) tNil))) (tDrop (tBM K "list" rAppend (tVar 4) (tCons (tOp (rIxL K) (tVar 4) (tOp (rIxT K) (tVar 8) (tC (.int 1)))) tNil))) D [x0, x1, x2, some (.ref cp), some (.ref hm), x5, x6, x7, some w8, x9, some wr, x11, x12, x13] H := by
  obtain ⟨a, dd, ha, hd, hb, hhm, _⟩ := S.at_ hv
  refine q_appM (l1 := []) (p := cp) S.wd (.inl S.h1) (d := dO rc) (e_var fr) (by rw [List.length_map]; omega) fun B1 H1 e1 W1 => ?_
  refine s_appRM (l1 := [(cp, .l (r.caps.map dO ++ [dO rc]))]) (p := hm) W1 (.inl S.h2) (e_ixRM (v := .ref a) (List.mem_cons_of_mem _ List.mem_cons_self) (e_ixT (e_var f8) e_cint (d := nI v) (atI_nat (j := 1) rfl)) hhm) (by rw [List.length_map]; omega) fun v2 B2 H2 e2 ev W2 => ?_
  subst ev
  refine q B2 H2 (e1.trans e2) (S.vw (e1.trans e2) ?_ fun h hh => ?_)
  · show Wd K c none ((cp, .l ((r.caps ++ [rc]).map dO)) :: (hm, .raw (hmV as (r.homes ++ [r.home v]))) :: _) B2 H2
    rw [capsV, homesV r ha]
    exact W2
  · rcases List.mem_append.mp hh with z | z
    · exact S.hs h z
    · rw [List.mem_singleton.mp z]
      exact (List.getElem?_eq_some_iff.mp hb).1
/-- a new block for a new view -/
theorem make_tail {D : Ends} {l k n : Nat} {w8 : V} {x0 x1 x2 x5 x6 x9 x10 x11 x12 x13 : Option V} {d0 : PyData} {rest : List PyData} (S : StA K c cp hm cop X m r as ds B H) (f8 : Da K B w8 (.tuple (d0 :: nI l :: nI k :: rest))) (lc : r.caps.length ≤ 1000) (lh : r.homes.length ≤ 1000)
    (q : ∀ as' ds' B' H', Ex B B' → StA K c cp hm cop X m ⟨r.caps ++ [some k], r.homes ++ [r.blks.length], r.blks ++ [(some n, fun _ => none)], r.cops, r.seen⟩ as' ds' B' H' → D.nx [x0, x1, x2, some (.ref cp), some (.ref hm), x5, x6, some (.int (n : Int)), some w8, x9, x10, x11, x12, x13] H') :
    tSeq (tDrop (tBM K "list" rAppend (tVar 3) (tCons (tOp (rIxT K) (tVar 8) (tC (.int 2))) tNil))) (tDrop (tBM K "list" rAppend (tVar 4) (tCons (tLst (tCons (tVar 7) (tCons tDNewK tNil))) tNil))) D [x0, x1, x2, some (.ref cp), some (.ref hm), x5, x6, some (.int (n : Int)), some w8, x9, x10, x11, x12, x13] H := by
  refine q_appM (l1 := []) (p := cp) S.wd (.inl S.h1) (d := dO (some k)) (e_ixT (e_var f8) e_cint (d := nI k) (atI_nat (j := 2) rfl)) (by rw [List.length_map]; omega) fun B1 H1 e1 W1 => ?_
  have W1 : Wd K c none (lsR cp hm cop ⟨r.caps ++ [some k], r.homes, r.blks, r.cops, r.seen⟩ as ds X) B1 H1 := by
    show Wd K c none ((cp, .l ((r.caps ++ [some k]).map dO)) :: _) B1 H1
    rw [capsV]
    exact W1
  have S1 := S.vw e1 W1 S.hs
  have hH : H1 hm = some (.lst (hmV as r.homes)) := (W1.cts (hm, .raw (hmV as r.homes)) (List.mem_cons_of_mem _ List.mem_cons_self)).2
  refine ⟨.ref hm, rfl, Or.inl ⟨rfl, _, SqL.of hH⟩, _, rfl, fun q' hq' => ⟨by show 2 ≤ sizeLine; decide, fun a' ha' => ?_⟩⟩
  have W2 := (W1.grow (ct := .dct []) hq' (show upd H1 q' (.dK []) q' = _ from upd_same)).new (o := .lst [vO (some n), .ref q']) ha'
  have nB := (W1.grow (ct := .dct []) hq' (show upd H1 q' (.dK []) q' = _ from upd_same)).freshB ha'
  have e2 : Ex B1 (upd B1 a' (.lst [vO (some n), .ref q'])) := Ex.new nB
  have S2 := S1.join (m' := m) (a := a') (q := q') (kv := []) (bk := (some n, fun _ => none)) (co := r.cops) e2 (W2.perm ?_) upd_same KvR.nil (Nat.zero_le _) (W1.fresh0 hq') (Nat.le_refl _)
  · have hW : upd (upd H1 q' (.dK [])) a' (.lst [vO (some n), .ref q']) hm = some (.lst (hmV (as ++ [a']) r.homes)) := (S2.wd.cts (hm, .raw (hmV (as ++ [a']) r.homes)) (List.mem_cons_of_mem _ List.mem_cons_self)).2
    have hl : (hmV (as ++ [a']) r.homes).length < 100000 := by
      rw [List.length_map]
      omega
    refine ⟨hm, _, .ref a', rfl, rfl, hW, Nat.lt_of_lt_of_le hl (by decide), ?_⟩
    have W3 := Wd.setM (l1 := [(cp, .l ((r.caps ++ [some k]).map dO))]) (p := hm) (ct' := .raw (hmV (as ++ [a']) r.homes ++ [.ref a'])) S2.wd (show upd _ hm _ hm = _ from upd_same) (.inl S.h2)
    refine q _ _ _ _ (e1.trans e2) (S2.vw (Ex.refl _) ?_ fun h hh => ?_)
    · show Wd K c none ((cp, .l ((r.caps ++ [some k]).map dO)) :: (hm, .raw (hmV (as ++ [a']) (r.homes ++ [r.blks.length]))) :: _) _ _
      rw [homesV (kb := r.blks.length) r (a := a') (by rw [← S.la]; exact List.getElem?_concat_length)]
      exact W3
    · show h < (r.blks ++ [_]).length
      rw [List.length_append, List.length_singleton]
      rcases List.mem_append.mp hh with z | z
      · have := S.hs h z
        omega
      · rw [List.mem_singleton.mp z]
        omega
  · exact (List.perm_middle (a := (q', Ct.dct [])) (l₁ := [(cp, Ct.l ((r.caps ++ [some k]).map dO)), (hm, Ct.raw (hmV as r.homes)), (cop, Ct.l (r.cops.map nI))]) (l₂ := lsD ds ++ X))
/-- an append or a grow -/
theorem app_call {D : Ends} {p : Prog} {ru : Rule} {n v : Nat} {g : Bool} {xs : List Int} {w1 w2 w3 : V} {x0 x6 x9 x10 x11 x12 x13 : Option V} (S : StA K c cp hm cop X m r as ds B H) (f1 : Da K B w1 (dRows (rows p))) (f2 : Da K B w2 (dStm (.app g v xs))) (f3 : Da K B w3 (dRule ru)) (pg : PgOk p) (rok : RuleOk ru) (lx : xs.length ≤ 10)
    (lv : v < nv p) (hv : v < r.homes.length) (hc : r.caps.length = r.homes.length) (lh : r.homes.length ≤ 1000) (lc : r.cops.length ≤ 1000) (lm : m ≤ 50000)
    (q : ∀ B' H' as' ds', Ex B B' → StA K c cp hm cop X (m + 500) (stepR p (chOf ru) n r (.app g v xs)) as' ds' B' H' → D.nx [x0, some w3, some w1, some (.ref cp), some (.ref hm), some (.ref cop), x6, some (.int (n : Int)), some w2, x9, x10, x11, x12, x13] H') :
    tDrop (tCall (sp_law_appended K) [] E0 (tCons (tTup (tCons (tVar 3) (tCons (tVar 4) (tCons (tVar 5) tNil)))) (tCons (tVar 2) (tCons (tVar 7) (tCons (tVar 8) (tCons (tVar 1) tNil)))))) D [x0, some w3, some w1, some (.ref cp), some (.ref hm), some (.ref cop), x6, some (.int (n : Int)), some w2, x9, x10, x11, x12, x13] H :=
  ⟨_, rfl, _, rfl, _, rfl, show 3 ≤ sizeLine by decide, fun t ht => ⟨_, rfl, _, rfl, _, rfl, _, rfl, c, X, upd B t (.tup [.ref cp, .ref hm, .ref cop]), cp, hm, cop, t, m, r, as, ds, p, ru, n, g, v, xs, w1, w2, w3, rfl, S.to (Ex.new (S.wd.freshB ht)) (S.wd.new ht), upd_same, f1.mono (Ex.new (S.wd.freshB ht)), f2.mono (Ex.new (S.wd.freshB ht)), f3.mono (Ex.new (S.wd.freshB ht)),
    pg, rok, lx, lv, hv, hc, lh, lc, lm, fun B' H' as' ds' e S' => q B' H' as' ds' ((Ex.new (S.wd.freshB ht)).trans e) S'⟩⟩
/-- a cell is written -/
theorem put_tail {D : Ends} {p : Prog} {v x n : Nat} {w2 w8 : V} {x0 x1 x3 x5 x6 x9 x10 x11 x12 x13 : Option V} {d0 : PyData} {rest : List PyData} (S : StA K c cp hm cop X m r as ds B H) (hv : v < r.homes.length) (lv : v < nv p) (f2 : Da K B w2 (dRows (rows p))) (f8 : Da K B w8 (.tuple (d0 :: nI v :: nI x :: rest))) (lm : m ≤ 60000)
    (q : ∀ y ds' B' H', Ex B B' → StA K c cp hm cop X (m + 1) { r with blks := r.blks.set (r.home v) (bput (r.blkAt v) (vstart p v + x) (vstart p v + x + 1) n) } as ds' B' H' → D.nx [x0, x1, some w2, x3, some (.ref hm), x5, x6, some (.int (n : Int)), some w8, x9, x10, x11, x12, y] H') :
    tSeq (tAsg (tOp (rIxL K) (tVar 4) (tOp (rIxT K) (tVar 8) (tC (.int 1)))) (gName 13)) (sDPut (tOp (rIxL K) (tVar 13) (tC (.int 1))) (tOp (rI0 fun i j => .int (i + j)) (tOp (rIxT K) (tOp (rIxL K) (tVar 2) (tOp (rIxT K) (tVar 8) (tC (.int 1)))) (tC (.int 2))) (tOp (rIxT K) (tVar 8) (tC (.int 2)))) (tVar 7)) D
      [x0, x1, some w2, x3, some (.ref hm), x5, x6, some (.int (n : Int)), some w8, x9, x10, x11, x12, x13] H := by
  obtain ⟨a, dd, ha, hd, hb, hhm, hbat, hkv, hkl, hnew, hmem⟩ := S.at_ hv
  have ld : r.home v < ds.length := (List.getElem?_eq_some_iff.mp hd).1
  refine q_set S.wd (e_ixRM (v := .ref a) (List.mem_cons_of_mem _ List.mem_cons_self) (e_ixT (e_var f8) e_cint (d := nI v) (atI_nat (j := 1) rfl)) hhm) fun va B1 H1 e1 W1 ea => ?_
  subst ea
  have self : ds.set (r.home v) (dd.1, dd.2) = ds := by
    have e : (ds[r.home v]'ld) = dd := Option.some.inj ((List.getElem?_eq_getElem ld).symm.trans hd)
    show ds.set (r.home v) dd = ds
    rw [← e]
    exact List.set_getElem_self ld
  rw [← self, lsR_set ld] at W1
  refine s_bput (x := vstart p v + x) (o := some n) W1 (.inl hnew) (r.blkAt v).1 (hbat.mono e1) (e_int (n := (n : Int))) (fun B4 e6 => e_addN (e_ixT (e_atL (f := dRow) (e_var f2) (e_ixT (e_var f8) e_cint (d := nI v) (atI_nat (j := 1) rfl)) (row_at lv)) e_cint (d := nI (vstart p v)) rfl) (e_ixT (e_var f8) e_cint (d := nI x) (atI_nat (j := 2) rfl))) (by omega) fun B2 H2 e2 W2 => ?_
  rw [← lsR_set ld] at W2
  refine q _ _ B2 H2 (e1.trans e2) (S.put (m' := m + 1) ha hd hb (e1.trans e2) W2 rfl (fun y => ?_) (Nat.le_trans (length_putK _ _ _) (by omega)) (Nat.le_succ m))
  have z := hkv.put (vstart p v + x) (some n) y
  rw [z]
  show Option.map vO (if y = vstart p v + x then some (some n) else (r.blkAt v).2 y) = Option.map vO (if vstart p v + x ≤ y ∧ y < vstart p v + x + 1 then some (some n) else (r.blkAt v).2 y)
  by_cases ey : y = vstart p v + x
  · rw [if_pos ey, if_pos (by omega)]
  · rw [if_neg ey, if_neg (by omega)]
/-- a cell is read -/
theorem look_tail {D : Ends} {p : Prog} {v x : Nat} {w2 w11 w12 : V} {x0 x1 x3 x5 x7 x8 x9 x10 x13 : Option V} (S : StA K c cp hm cop [(se, .l (r.seen.map dO))] m r as ds B H) (hse : c.H se = none) (hv : v < r.homes.length) (lv : v < nv p) (f2 : Da K B w2 (dRows (rows p))) (f11 : Da K B w11 (nI v)) (f12 : Da K B w12 (nI x)) (ls : r.seen.length ≤ 1000)
    (q : ∀ y B' H', Ex B B' → StA K c cp hm cop [(se, .l ((r.look v (vstart p v + x)).seen.map dO))] m (r.look v (vstart p v + x)) as ds B' H' → D.nx [x0, x1, some w2, x3, some (.ref hm), x5, some (.ref se), x7, x8, x9, x10, some w11, some w12, y] H') :
    tSeq (tAsg (tOp (rIxL K) (tVar 4) (tVar 11)) (gName 13)) (tDrop (tBM K "list" rAppend (tVar 6) (tCons (tDGet2 (tOp (rIxL K) (tVar 13) (tC (.int 1))) (tOp (rI0 fun i j => .int (i + j)) (tOp (rIxT K) (tOp (rIxL K) (tVar 2) (tVar 11)) (tC (.int 2))) (tVar 12)) (tOp (rIxL K) (tVar 13) (tC (.int 0)))) tNil))) D
      [x0, x1, some w2, x3, some (.ref hm), x5, some (.ref se), x7, x8, x9, x10, some w11, some w12, x13] H := by
  obtain ⟨a, dd, ha, hd, hb, hhm, hbat, hkv, hkl, hnew, hmem⟩ := S.at_ hv
  refine q_set S.wd (e_ixRM (v := .ref a) (List.mem_cons_of_mem _ List.mem_cons_self) (e_var f11) hhm) fun va B1 H1 e1 W1 ea => ?_
  subst ea
  refine s_appM (l1 := (cp, .l (r.caps.map dO)) :: (hm, .raw (hmV as r.homes)) :: (cop, .l (r.cops.map nI)) :: lsD ds) (l2 := []) (p := se) W1 (.inl hse) (d := dO (bget (r.blkAt v) (vstart p v + x)))
    (e_get2 (hbat.mono e1) hmem hkv (e_addN (e_ixT (e_atL (f := dRow) (e_var f2) (e_var f11) (row_at lv)) e_cint (d := nI (vstart p v)) rfl) (e_var f12))) (by rw [List.length_map]; omega) fun B2 H2 e2 W2 => ?_
  refine q _ B2 H2 (e1.trans e2) (S.vw (e1.trans e2) ?_ S.hs)
  show Wd K c none ((cp, .l (r.caps.map dO)) :: (hm, .raw (hmV as r.homes)) :: (cop, .l (r.cops.map nI)) :: (lsD ds ++ [(se, .l ((r.seen ++ [bget (r.blkAt v) (vstart p v + x)]).map dO))])) B2 H2
  rw [List.map_append]
  exact W2
end
theorem cl_law_run (d : Df K mg "_law_run" s_law_run) (T : Tx K mg) (c_law_rows : Cl P w K mg base 1 "_law_rows" (sp_law_rows K) []) (c_law_appended : Cl P w K mg base 2 "_law_appended" (sp_law_appended K) []) : Cl P w K mg base 3 "_law_run" (sp_law_run K) [] := by
  refine cl_of d sc_law_run (fun f fd F => F.bindsN fun _ _ _ _ _ _ us hl => match us, hl with | [_, _], _ => rfl) (SpB.len fun _ => rfl) fun cdv f A outer s H vs Q E hr h => ?_
  have hu := hu_of hr
  refine ⟨_, (pss_cons (ps_set (i := 2) sc_law_run.nd rfl (Or.inl rfl) (pe_cl c_law_rows hr (by decide) rfl (pa_cons (pv 0) pa_nil)))
      (pss_cons (ps_set (i := 3) sc_law_run.nd rfl (Or.inl rfl) (pe_lst pa_nil))
      (pss_cons (ps_set (i := 4) sc_law_run.nd rfl (Or.inl rfl) (pe_lst pa_nil))
      (pss_cons (ps_set (i := 5) sc_law_run.nd rfl (Or.inl rfl) (pe_lst pa_nil))
      (pss_cons (ps_set (i := 6) sc_law_run.nd rfl (Or.inl rfl) (pe_lst pa_nil))
      (pss_cons (ps_for PassesOwn.never rfl (pi_enumT (by rfl) T.enumerate (pa_cons (pv 0) pa_nil)) (pgTup (n := 2) K (pgs_cons (pg_name (i := 7) sc_law_run.nd rfl (Or.inl rfl)) (pgs_cons (pg_name (i := 8) sc_law_run.nd rfl (Or.inl rfl)) pgs_nil))) (pss_cons (ps_set (i := 9) sc_law_run.nd rfl (Or.inl rfl) (pe_ix (ixT K) (pv 8) pe_int (fun _ _ => rfl)))
      (pss_cons (ps_if (pt_cmpR op_eq (pv 9) pe_str (nomark _)) (pss_cons (ps_expr (pe_bm PySem.F.plainAttrs_list PySem.F.slot_list_append PySem.F.type_list_append mt_append (pv 3) (pa_cons (pe_ix (ixT K) (pv 8) pe_int (fun _ _ => rfl)) pa_nil)))
      (pss_one (ps_expr (pe_bm PySem.F.plainAttrs_list PySem.F.slot_list_append PySem.F.type_list_append mt_append (pv 4) (pa_cons (pe_lst (pa_cons (pv 7) (pa_cons pe_dnewK pa_nil))) pa_nil))))) (pss_one (ps_if (pt_cmpR (opIn K) (pv 9) (pe_tup (pa_cons pe_str (pa_cons pe_str pa_nil))) (by rfl)) (pss_cons (ps_set (i := 10) sc_law_run.nd rfl (Or.inl rfl) (pe_ix (ixL K) (pv 3) (pe_ix (ixT K) (pv 8) pe_int (fun _ _ => rfl)) (fun _ _ => rfl)))
      (pss_cons (ps_if (pt_cmpR op_eq (pv 9) pe_str (nomark _)) (pss_one (ps_set (i := 10) sc_law_run.nd rfl (Or.inl rfl) (pe_ix (ixT K) (pe_ix (ixL K) (pv 2) (pe_ix (ixT K) (pv 8) pe_int (fun _ _ => rfl)) (fun _ _ => rfl)) pe_int (fun _ _ => rfl)))) (pss_one (ps_if (pt_cmpR op_notN (pv 10) pe_non (nomark _)) (pss_one (ps_set (i := 10) sc_law_run.nd rfl (Or.inl rfl) (pe_op op_sub (pv 10) (pe_ix (ixT K) (pv 8) pe_int (fun _ _ => rfl))))) pss_nil)))
      (pss_cons (ps_expr (pe_bm PySem.F.plainAttrs_list PySem.F.slot_list_append PySem.F.type_list_append mt_append (pv 3) (pa_cons (pv 10) pa_nil)))
      (pss_one (ps_expr (pe_bm PySem.F.plainAttrs_list PySem.F.slot_list_append PySem.F.type_list_append mt_append (pv 4) (pa_cons (pe_ix (ixL K) (pv 4) (pe_ix (ixT K) (pv 8) pe_int (fun _ _ => rfl)) (fun _ _ => rfl)) pa_nil))))))) (pss_one (ps_if (pt_cmpR (opIn K) (pv 9) (pe_tup (pa_cons pe_str (pa_cons pe_str pa_nil))) (by rfl)) (pss_one (ps_expr (pe_cl c_law_appended hr (by decide) rfl (pa_cons (pe_tup (pa_cons (pv 3) (pa_cons (pv 4) (pa_cons (pv 5) pa_nil)))) (pa_cons (pv 2) (pa_cons (pv 7) (pa_cons (pv 8) (pa_cons (pv 1) pa_nil)))))))) pss_nil)))))
      (pss_cons (ps_if (pt_cmpR (opIn K) (pv 9) (pe_tup (pa_cons pe_str (pa_cons pe_str pa_nil))) (by rfl)) (pss_cons (ps_asg (pe_slice (slT K) (pv 8) (po_some (pe_op op_sub (pe_callB call_len_seq (by rfl) T.len PySem.boot_len (pa_cons (pv 8) pa_nil)) pe_int)) po_none) (pgTup (n := 2) K (pgs_cons (pg_name (i := 11) sc_law_run.nd rfl (Or.inl rfl)) (pgs_cons (pg_name (i := 12) sc_law_run.nd rfl (Or.inl rfl)) pgs_nil))))
      (pss_cons (ps_set (i := 13) sc_law_run.nd rfl (Or.inl rfl) (pe_ix (ixL K) (pv 4) (pv 11) (fun _ _ => rfl)))
      (pss_one (ps_expr (pe_bm PySem.F.plainAttrs_list PySem.F.slot_list_append PySem.F.type_list_append mt_append (pv 6) (pa_cons (pe_dget2 hu (pe_ix (ixL K) (pv 13) pe_int (fun _ _ => rfl)) (pe_op op_add (pe_ix (ixT K) (pe_ix (ixL K) (pv 2) (pv 11) (fun _ _ => rfl)) pe_int (fun _ _ => rfl)) (pv 12)) (pe_ix (ixL K) (pv 13) pe_int (fun _ _ => rfl)) (by exact ⟨rfl, rfl, rfl, rfl⟩)) pa_nil)))))) pss_nil)
      (pss_one (ps_if (pt_cmpR (opIn K) (pv 9) (pe_tup (pa_cons pe_str (pa_cons pe_str pa_nil))) (by rfl)) (pss_cons (ps_set (i := 13) sc_law_run.nd rfl (Or.inl rfl) (pe_ix (ixL K) (pv 4) (pe_ix (ixT K) (pv 8) pe_int (fun _ _ => rfl)) (fun _ _ => rfl)))
      (pss_one (ps_dput hu (pe_ix (ixL K) (pv 13) pe_int (fun _ _ => rfl)) (pe_op op_add (pe_ix (ixT K) (pe_ix (ixL K) (pv 2) (pe_ix (ixT K) (pv 8) pe_int (fun _ _ => rfl)) (fun _ _ => rfl)) pe_int (fun _ _ => rfl)) (pe_ix (ixT K) (pv 8) pe_int (fun _ _ => rfl))) (pv 7) rfl))) pss_nil))))))
      (pss_one (ps_ret (pe_tup (pa_cons (pv 3) (pa_cons (pv 5) (pa_cons (pv 6) pa_nil)))))))))))), ?_⟩
  obtain ⟨B, ⟨p, ru⟩, e0, dl, pre, q⟩ := h
  have W := Wd.start (K := K) e0
  obtain ⟨v1, r1, rfl, f1, dl⟩ := dl.cons_inv
  obtain ⟨v2, r2, rfl, f2, dl⟩ := dl.cons_inv
  cases dl
  obtain ⟨pg, rok⟩ := pre
  have pg : PgOk p := pg
  have rok : RuleOk ru := rok
  have f1 : Da K B v1 (.tuple (p.map dStm)) := f1
  have f2 : Da K B v2 (dRule ru) := f2
  have q : RB B H (fun v B' => ∃ cops, Da K B' v (runD p (chOf ru) cops)) Q := q
  have hge : Ge (chOf ru) := chOf_ge rok
  have hpl := pg.len
  refine q_set W (EvN.data (c_N (a := (p, true)) (a_cons (e_var f1) a_nil) ⟨pg.ok, by show p.length ≤ 1000; omega⟩)) fun vrw B1 H1 e1 W1 frw => ?_
  have frw : Da K B1 vrw (dRows (rows p)) := frw
  refine q_setN W1 (l_lst a_nil lk) fun cp dcp B2 H2 e2 hcp W2 hd => ?_
  subst hd
  refine q_setN W2 (l_lst a_nil lk) fun hm dhm B3 H3 e3 hhm W3 hd => ?_
  subst hd
  refine q_setN W3 (l_lst a_nil lk) fun cop dcop B4 H4 e4 hcop W4 hd => ?_
  subst hd
  refine q_setN W4 (l_lst a_nil lk) fun se dse B5 H5 e5 hse W5 hd => ?_
  subst hd
  refine q_for W5 (i_enumT (a_cons (e_var f1) a_nil)) (fun i σ B' H' => ∃ as ds x7 x8 x9 x10 x11 x12 x13, σ = [some v1, some v2, some vrw, some (.ref cp), some (.ref hm), some (.ref cop), some (.ref se), x7, x8, x9, x10, x11, x12, x13] ∧ Ex B5 B' ∧ StA K ⟨B, H, []⟩ cp hm cop [(se, .l ((runN p (chOf ru) i).seen.map dO))] (500 * i) (runN p (chOf ru) i) as ds B' H')
    (fun B6 H6 e6 W6 => ⟨[], [], _, _, _, _, _, _, _, rfl, e6, ?_⟩) (fun i σ' B' H' iv => by obtain ⟨_, _, _, _, _, _, _, _, _, _, _, S⟩ := iv; exact S.wd.inn) ?_ ?_
  · have W7 : Wd K ⟨B, H, []⟩ none [(se, .l []), (cop, .l []), (hm, .l []), (cp, .l [])] B6 H6 := W6
    have hraw : H6 hm = some (.lst []) := by
      obtain ⟨_, vs, hv, hd⟩ := W7.cts (hm, .l []) (by simp)
      rw [hd.nil_eq] at hv
      exact hv
    have W8 : Wd K ⟨B, H, []⟩ none [(hm, .raw []), (se, .l []), (cop, .l []), (cp, .l [])] B6 H6 := by
      have w := W7.perm (ls' := [(hm, .l []), (se, .l []), (cop, .l []), (cp, .l [])]) (by
        refine (List.Perm.trans ?_ (List.perm_middle (l₁ := [(se, Ct.l []), (cop, Ct.l [])]) (a := (hm, Ct.l [])) (l₂ := [(cp, Ct.l [])])).symm)
        exact List.Perm.refl _)
      refine ⟨w.base, w.inn, w.fr, w.old, w.here, fun q hq => ?_, w.nd, w.draw⟩
      rcases List.mem_cons.mp hq with z | z
      · rw [z]
        exact ⟨w.own.1, hraw⟩
      · exact w.cts q (List.mem_cons_of_mem _ z)
    refine ⟨W8.perm ?_, rfl, rfl, fun k a d bk h1 => by simp at h1, fun h hh => absurd hh List.not_mem_nil, hcp, hhm, hcop⟩
    show List.Perm [(cp, Ct.l []), (hm, Ct.raw []), (cop, Ct.l []), (se, Ct.l [])] [(hm, .raw []), (se, .l []), (cop, .l []), (cp, .l [])]
    refine List.Perm.trans (List.Perm.swap _ _ _) (.cons _ ?_)
    refine List.Perm.trans (List.Perm.cons _ (List.Perm.swap _ _ _)) ?_
    exact List.Perm.trans (List.Perm.swap _ _ _) (.cons _ (List.Perm.swap _ _ _))
  · rintro i x σ' B0 B6 H6 B7 H7 hi e6 e7 ⟨as, ds, x7, x8, x9, x10, x11, x12, x13, rfl, e8, S6⟩ e9 up fx
    have S7 := S6.to e9 (up _ _ S6.wd)
    obtain ⟨st, hst, e⟩ := turn_stm hi
    have fx : Da K B7 x (.tuple [nI i, dStm st]) := by rw [← e]; exact fx
    have hl : i < p.length := (List.getElem?_eq_some_iff.mp hst).1
    have o := pg.ok i st hst
    have G := good_run pg.ok (chOf ru) i (by omega)
    have hcops := runN_cops p (chOf ru) i
    have er := runN_succ (ch := chOf ru) hst
    have hsn : (runN p (chOf ru) i).seen.length ≤ i := by rw [G.sl]; exact readsN_len p i
    have hhl := G.hl
    have hcl := G.cl
    have hcap := G.caps
    have hrl := rowsN_le_len p i
    have hsm := pg.sm i st hst
    clear G S6 e
    rw [er]
    generalize runN p (chOf ru) i = r at *
    refine g_tup fx S7.wd.inn rfl fun vs fv => g_cons fv fun va r1 fa fr => g_cons fr fun vb r2 fb fr => g_nil fr ?_
    have ea := fa.int_eq
    subst ea
    have W7 := S7.wd
    cases st with
    | make l c =>
      refine q_set W7 (e_ixT (e_var fb) e_cint rfl) fun vw B8 H8 e10 W8 fw => ?_
      obtain rfl := fw.str_eq
      refine q_ifT W8 (t_to (t_test (e_eqS e_str e_cstr)) (by show decide (("make" : Str) = "make") = true; decide +kernel)) fun B9 H9 e11 W9 => ?_
      refine make_tail (l := l) (k := c) (n := i) (S7.to (e10.trans e11) W9) (fb.mono (e10.trans e11)) (by omega) (by omega) fun as2 ds2 B10 H10 e12 S10 => ?_
      refine q_ifF S10.wd (t_to (t_test (e_inS (ns := ["read", "move"]) e_str (e_tup (a_cons e_cstr (a_cons e_cstr a_nil)) lk))) (by show decide (("make" : Str) ∈ (["read", "move"] : List Str)) = false; decide +kernel)) fun B11 H11 e13 W11 => ?_
      refine s_ifF W11 (t_to (t_test (e_inS (ns := ["write", "move"]) e_str (e_tup (a_cons e_cstr (a_cons e_cstr a_nil)) lk))) (by show decide (("make" : Str) ∈ (["write", "move"] : List Str)) = false; decide +kernel)) fun B12 H12 e14 W12 => ?_
      exact ⟨B12, ((e7.trans e9).trans (((((e10.trans e11).trans e12).trans e13).trans e14))), _, _, _, _, _, _, _, _, _, rfl, ((e8.trans e9).trans (((((e10.trans e11).trans e12).trans e13).trans e14))), (S10.to (e13.trans e14) W12).up (by omega)⟩
    | slice v0 lo hj =>
      refine q_set W7 (e_ixT (e_var fb) e_cint rfl) fun vw B8 H8 e10 W8 fw => ?_
      obtain rfl := fw.str_eq
      have hv0 : v0 < (rowsN p i).length := o.1
      have lv0 : v0 < nv p := seen_lt (by omega) hv0
      refine q_ifFE W8 (t_to (t_test (e_eqS e_str e_cstr)) (by show decide (("slice" : Str) = "make") = false; decide +kernel)) fun B9 H9 e11 W9 => ?_
      refine s_ifT W9 (t_to (t_test (e_inS (ns := ["slice", "clip"]) e_str (e_tup (a_cons e_cstr (a_cons e_cstr a_nil)) lk))) (by show decide (("slice" : Str) ∈ (["slice", "clip"] : List Str)) = true; decide +kernel)) fun B10 H10 e12 W10 => ?_
      have hc0 : atI (r.caps.map dO) (v0 : Int) = some (dO (r.cap v0)) := by
        have e0 : r.caps[v0]? = some (r.caps[v0]'(by omega)) := List.getElem?_eq_getElem _
        have e1 : r.cap v0 = r.caps[v0]'(by omega) := by
          unfold RS.cap
          rw [List.getD_eq_getElem?_getD, e0]
          rfl
        rw [e1]
        exact atI_map e0
      refine q_set W10 (e_ixB (d := dO (r.cap v0)) List.mem_cons_self (e_ixT (e_var fb) e_cint (d := nI v0) rfl) hc0) fun vr B11 H11 e13 W11 fr => ?_
      refine q_ifFE W11 (t_to (t_test (e_eqS e_str e_cstr)) (by show decide (("slice" : Str) = "clip") = false; decide +kernel)) fun B12 H12 e14 W12 => ?_
      have hcv : leO (some (vlen p v0)) (r.cap v0) := by
        rw [hcap v0 hv0]
        exact (runOf p pg.ok (chOf ru) hge).ge_cap lv0
      have o3 : hj ≤ vlen p v0 := by
        have h := o.2.2
        rw [seen_row (by omega) hv0] at h
        exact h
      have o2 : lo ≤ hj := o.2.1
      cases hrc : r.cap v0 with
      | none =>
        rw [hrc] at fr
        refine s_ifF W12 (t_to (t_test (e_opNotN (d := .none) (e_var fr))) rfl) fun B13 H13 e15 W13 => ?_
        have es : (r.cap v0).map (· - lo) = none := by rw [hrc] <;> rfl
        have er2 : stepR p (chOf ru) i r (.slice v0 lo hj) = ⟨r.caps ++ [none], r.homes ++ [r.home v0], r.blks, r.cops, r.seen⟩ := by
          show (⟨r.caps ++ [(r.cap v0).map (· - lo)], r.homes ++ [r.home v0], r.blks, r.cops, r.seen⟩ : RS) = _
          rw [es]
        rw [er2]
        refine view_tail (v := v0) (S7.to ((((e10.trans e11).trans e12).trans e13).trans (e14.trans e15)) W13) (by omega) (fb.mono ((((e10.trans e11).trans e12).trans e13).trans (e14.trans e15))) (fr.mono (e14.trans e15)) (by omega) (by omega) fun B20 H20 e20 S20 => ?_
        refine q_ifF S20.wd (t_to (t_test (e_inS (ns := ["read", "move"]) e_str (e_tup (a_cons e_cstr (a_cons e_cstr a_nil)) lk))) (by show decide (("slice" : Str) ∈ (["read", "move"] : List Str)) = false; decide +kernel)) fun B21 H21 e21 W21 => ?_
        refine s_ifF W21 (t_to (t_test (e_inS (ns := ["write", "move"]) e_str (e_tup (a_cons e_cstr (a_cons e_cstr a_nil)) lk))) (by show decide (("slice" : Str) ∈ (["write", "move"] : List Str)) = false; decide +kernel)) fun B22 H22 e22 W22 => ?_
        exact ⟨B22, ((e7.trans e9).trans (((((((e10.trans e11).trans e12).trans e13).trans (e14.trans e15)).trans e20).trans e21).trans e22)), _, _, _, _, _, _, _, _, _, rfl, ((e8.trans e9).trans (((((((e10.trans e11).trans e12).trans e13).trans (e14.trans e15)).trans e20).trans e21).trans e22)), (S20.to (e21.trans e22) W22).up (by omega)⟩
      | some cc =>
        rw [hrc] at fr hcv
        have hcv := leO_some.mp hcv
        refine s_ifT W12 (t_to (t_test (e_opNotN (d := nI cc) (e_var fr))) rfl) fun B13 H13 e15 W13 => ?_
        refine s_set W13 (e_subN (a := cc) (b := lo) (e_var fr) (e_ixT (e_var fb) e_cint (d := nI lo) rfl) (by omega)) fun vr2 B14 H14 e16 W14 fr2 => ?_
        have fr2 : Da K B14 vr2 (dO (some (cc - lo))) := fr2
        have es : (r.cap v0).map (· - lo) = some (cc - lo) := by rw [hrc] <;> rfl
        have er2 : stepR p (chOf ru) i r (.slice v0 lo hj) = ⟨r.caps ++ [some (cc - lo)], r.homes ++ [r.home v0], r.blks, r.cops, r.seen⟩ := by
          show (⟨r.caps ++ [(r.cap v0).map (· - lo)], r.homes ++ [r.home v0], r.blks, r.cops, r.seen⟩ : RS) = _
          rw [es]
        rw [er2]
        refine view_tail (v := v0) (S7.to ((((e10.trans e11).trans e12).trans e13).trans ((e14.trans e15).trans e16)) W14) (by omega) (fb.mono ((((e10.trans e11).trans e12).trans e13).trans ((e14.trans e15).trans e16))) (fr2) (by omega) (by omega) fun B20 H20 e20 S20 => ?_
        refine q_ifF S20.wd (t_to (t_test (e_inS (ns := ["read", "move"]) e_str (e_tup (a_cons e_cstr (a_cons e_cstr a_nil)) lk))) (by show decide (("slice" : Str) ∈ (["read", "move"] : List Str)) = false; decide +kernel)) fun B21 H21 e21 W21 => ?_
        refine s_ifF W21 (t_to (t_test (e_inS (ns := ["write", "move"]) e_str (e_tup (a_cons e_cstr (a_cons e_cstr a_nil)) lk))) (by show decide (("slice" : Str) ∈ (["write", "move"] : List Str)) = false; decide +kernel)) fun B22 H22 e22 W22 => ?_
        exact ⟨B22, ((e7.trans e9).trans (((((((e10.trans e11).trans e12).trans e13).trans ((e14.trans e15).trans e16)).trans e20).trans e21).trans e22)), _, _, _, _, _, _, _, _, _, rfl, ((e8.trans e9).trans (((((((e10.trans e11).trans e12).trans e13).trans ((e14.trans e15).trans e16)).trans e20).trans e21).trans e22)), (S20.to (e21.trans e22) W22).up (by omega)⟩
    | clip v0 =>
      refine q_set W7 (e_ixT (e_var fb) e_cint rfl) fun vw B8 H8 e10 W8 fw => ?_
      obtain rfl := fw.str_eq
      have hv0 : v0 < (rowsN p i).length := o
      have lv0 : v0 < nv p := seen_lt (by omega) hv0
      refine q_ifFE W8 (t_to (t_test (e_eqS e_str e_cstr)) (by show decide (("clip" : Str) = "make") = false; decide +kernel)) fun B9 H9 e11 W9 => ?_
      refine s_ifT W9 (t_to (t_test (e_inS (ns := ["slice", "clip"]) e_str (e_tup (a_cons e_cstr (a_cons e_cstr a_nil)) lk))) (by show decide (("clip" : Str) ∈ (["slice", "clip"] : List Str)) = true; decide +kernel)) fun B10 H10 e12 W10 => ?_
      have hc0 : atI (r.caps.map dO) (v0 : Int) = some (dO (r.cap v0)) := by
        have e0 : r.caps[v0]? = some (r.caps[v0]'(by omega)) := List.getElem?_eq_getElem _
        have e1 : r.cap v0 = r.caps[v0]'(by omega) := by
          unfold RS.cap
          rw [List.getD_eq_getElem?_getD, e0]
          rfl
        rw [e1]
        exact atI_map e0
      refine q_set W10 (e_ixB (d := dO (r.cap v0)) List.mem_cons_self (e_ixT (e_var fb) e_cint (d := nI v0) rfl) hc0) fun vr B11 H11 e13 W11 fr => ?_
      refine q_ifT W11 (t_to (t_test (e_eqS e_str e_cstr)) (by show decide (("clip" : Str) = "clip") = true; decide +kernel)) fun B12 H12 e14 W12 => ?_
      refine s_set W12 (e_ixT (e_atL (f := dRow) (e_var frw) (e_ixT (e_var fb) e_cint (d := nI v0) rfl) (row_at lv0)) e_cint (d := nI (vlen p v0)) rfl) fun vr2 B13 H13 e15 W13 fr2 => ?_
      have fr2 : Da K B13 vr2 (dO (some (vlen p v0))) := fr2
      refine view_tail (v := v0) (S7.to ((((e10.trans e11).trans e12).trans e13).trans (e14.trans e15)) W13) (by omega) (fb.mono ((((e10.trans e11).trans e12).trans e13).trans (e14.trans e15))) (fr2) (by omega) (by omega) fun B20 H20 e20 S20 => ?_
      refine q_ifF S20.wd (t_to (t_test (e_inS (ns := ["read", "move"]) e_str (e_tup (a_cons e_cstr (a_cons e_cstr a_nil)) lk))) (by show decide (("clip" : Str) ∈ (["read", "move"] : List Str)) = false; decide +kernel)) fun B21 H21 e21 W21 => ?_
      refine s_ifF W21 (t_to (t_test (e_inS (ns := ["write", "move"]) e_str (e_tup (a_cons e_cstr (a_cons e_cstr a_nil)) lk))) (by show decide (("clip" : Str) ∈ (["write", "move"] : List Str)) = false; decide +kernel)) fun B22 H22 e22 W22 => ?_
      exact ⟨B22, ((e7.trans e9).trans (((((((e10.trans e11).trans e12).trans e13).trans (e14.trans e15)).trans e20).trans e21).trans e22)), _, _, _, _, _, _, _, _, _, rfl, ((e8.trans e9).trans (((((((e10.trans e11).trans e12).trans e13).trans (e14.trans e15)).trans e20).trans e21).trans e22)), (S20.to (e21.trans e22) W22).up (by omega)⟩
    | app g v0 xs =>
      cases g with
      | false =>
        refine q_set W7 (e_ixT (e_var fb) e_cint rfl) fun vw B8 H8 e10 W8 fw => ?_
        obtain rfl := fw.str_eq
        have hv0 : v0 < (rowsN p i).length := o.1
        have lv0 : v0 < nv p := seen_lt (by omega) hv0
        refine q_ifFE W8 (t_to (t_test (e_eqS e_str e_cstr)) (by show decide (("append" : Str) = "make") = false; decide +kernel)) fun B9 H9 e11 W9 => ?_
        refine s_ifF W9 (t_to (t_test (e_inS (ns := ["slice", "clip"]) e_str (e_tup (a_cons e_cstr (a_cons e_cstr a_nil)) lk))) (by show decide (("append" : Str) ∈ (["slice", "clip"] : List Str)) = false; decide +kernel)) fun B10 H10 e12 W10 => ?_
        refine s_ifT W10 (t_to (t_test (e_inS (ns := ["append", "grow"]) e_str (e_tup (a_cons e_cstr (a_cons e_cstr a_nil)) lk))) (by show decide (("append" : Str) ∈ (["append", "grow"] : List Str)) = true; decide +kernel)) fun B11 H11 e13 W11 => ?_
        have hxs : xs.length ≤ 10 := hsm
        refine app_call (ru := ru) (n := i) (g := false) (v := v0) (xs := xs) (S7.to (((e10.trans e11).trans e12).trans e13) W11) (frw.mono ((((e2.trans e3).trans e4).trans e5).trans ((e8.trans e9).trans (((e10.trans e11).trans e12).trans e13)))) (fb.mono (((e10.trans e11).trans e12).trans e13)) (f2.mono (e1.trans ((((e2.trans e3).trans e4).trans e5).trans ((e8.trans e9).trans (((e10.trans e11).trans e12).trans e13))))) pg rok hxs lv0 (by omega) (by omega) (by omega) (by omega) (by omega) fun B15 H15 as2 ds2 e15 S15 => ?_
        have hsn2 := app_seen p (chOf ru) i r false v0 xs
        refine q_ifF S15.wd (t_to (t_test (e_inS (ns := ["read", "move"]) e_str (e_tup (a_cons e_cstr (a_cons e_cstr a_nil)) lk))) (by show decide (("append" : Str) ∈ (["read", "move"] : List Str)) = false; decide +kernel)) fun B16 H16 e16 W16 => ?_
        refine s_ifF W16 (t_to (t_test (e_inS (ns := ["write", "move"]) e_str (e_tup (a_cons e_cstr (a_cons e_cstr a_nil)) lk))) (by show decide (("append" : Str) ∈ (["write", "move"] : List Str)) = false; decide +kernel)) fun B17 H17 e17 W17 => ?_
        rw [hsn2]
        exact ⟨B17, ((e7.trans e9).trans ((((((((e10.trans e11).trans e12).trans e13)).trans e15).trans e16).trans e17))), _, _, _, _, _, _, _, _, _, rfl, ((e8.trans e9).trans ((((((((e10.trans e11).trans e12).trans e13)).trans e15).trans e16).trans e17))), (S15.to (e16.trans e17) W17).up (by omega)⟩
      | true =>
        refine q_set W7 (e_ixT (e_var fb) e_cint rfl) fun vw B8 H8 e10 W8 fw => ?_
        obtain rfl := fw.str_eq
        have hv0 : v0 < (rowsN p i).length := o.1
        have lv0 : v0 < nv p := seen_lt (by omega) hv0
        refine q_ifFE W8 (t_to (t_test (e_eqS e_str e_cstr)) (by show decide (("grow" : Str) = "make") = false; decide +kernel)) fun B9 H9 e11 W9 => ?_
        refine s_ifF W9 (t_to (t_test (e_inS (ns := ["slice", "clip"]) e_str (e_tup (a_cons e_cstr (a_cons e_cstr a_nil)) lk))) (by show decide (("grow" : Str) ∈ (["slice", "clip"] : List Str)) = false; decide +kernel)) fun B10 H10 e12 W10 => ?_
        refine s_ifT W10 (t_to (t_test (e_inS (ns := ["append", "grow"]) e_str (e_tup (a_cons e_cstr (a_cons e_cstr a_nil)) lk))) (by show decide (("grow" : Str) ∈ (["append", "grow"] : List Str)) = true; decide +kernel)) fun B11 H11 e13 W11 => ?_
        have hxs : xs.length ≤ 10 := hsm
        refine app_call (ru := ru) (n := i) (g := true) (v := v0) (xs := xs) (S7.to (((e10.trans e11).trans e12).trans e13) W11) (frw.mono ((((e2.trans e3).trans e4).trans e5).trans ((e8.trans e9).trans (((e10.trans e11).trans e12).trans e13)))) (fb.mono (((e10.trans e11).trans e12).trans e13)) (f2.mono (e1.trans ((((e2.trans e3).trans e4).trans e5).trans ((e8.trans e9).trans (((e10.trans e11).trans e12).trans e13))))) pg rok hxs lv0 (by omega) (by omega) (by omega) (by omega) (by omega) fun B15 H15 as2 ds2 e15 S15 => ?_
        have hsn2 := app_seen p (chOf ru) i r true v0 xs
        refine q_ifF S15.wd (t_to (t_test (e_inS (ns := ["read", "move"]) e_str (e_tup (a_cons e_cstr (a_cons e_cstr a_nil)) lk))) (by show decide (("grow" : Str) ∈ (["read", "move"] : List Str)) = false; decide +kernel)) fun B16 H16 e16 W16 => ?_
        refine s_ifF W16 (t_to (t_test (e_inS (ns := ["write", "move"]) e_str (e_tup (a_cons e_cstr (a_cons e_cstr a_nil)) lk))) (by show decide (("grow" : Str) ∈ (["write", "move"] : List Str)) = false; decide +kernel)) fun B17 H17 e17 W17 => ?_
        rw [hsn2]
        exact ⟨B17, ((e7.trans e9).trans ((((((((e10.trans e11).trans e12).trans e13)).trans e15).trans e16).trans e17))), _, _, _, _, _, _, _, _, _, rfl, ((e8.trans e9).trans ((((((((e10.trans e11).trans e12).trans e13)).trans e15).trans e16).trans e17))), (S15.to (e16.trans e17) W17).up (by omega)⟩
    | write v0 i0 xx =>
      refine q_set W7 (e_ixT (e_var fb) e_cint rfl) fun vw B8 H8 e10 W8 fw => ?_
      obtain rfl := fw.str_eq
      have hv0 : v0 < (rowsN p i).length := o.1
      have lv0 : v0 < nv p := seen_lt (by omega) hv0
      refine q_ifFE W8 (t_to (t_test (e_eqS e_str e_cstr)) (by show decide (("write" : Str) = "make") = false; decide +kernel)) fun B9 H9 e11 W9 => ?_
      refine s_ifF W9 (t_to (t_test (e_inS (ns := ["slice", "clip"]) e_str (e_tup (a_cons e_cstr (a_cons e_cstr a_nil)) lk))) (by show decide (("write" : Str) ∈ (["slice", "clip"] : List Str)) = false; decide +kernel)) fun B10 H10 e12 W10 => ?_
      refine s_ifF W10 (t_to (t_test (e_inS (ns := ["append", "grow"]) e_str (e_tup (a_cons e_cstr (a_cons e_cstr a_nil)) lk))) (by show decide (("write" : Str) ∈ (["append", "grow"] : List Str)) = false; decide +kernel)) fun B11 H11 e13 W11 => ?_
      refine q_ifF W11 (t_to (t_test (e_inS (ns := ["read", "move"]) e_str (e_tup (a_cons e_cstr (a_cons e_cstr a_nil)) lk))) (by show decide (("write" : Str) ∈ (["read", "move"] : List Str)) = false; decide +kernel)) fun B12 H12 e14 W12 => ?_
      refine s_ifT W12 (t_to (t_test (e_inS (ns := ["write", "move"]) e_str (e_tup (a_cons e_cstr (a_cons e_cstr a_nil)) lk))) (by show decide (("write" : Str) ∈ (["write", "move"] : List Str)) = true; decide +kernel)) fun B13 H13 e15 W13 => ?_
      refine put_tail (v := v0) (x := i0) (n := i) (S7.to ((((e10.trans e11).trans e12).trans e13).trans (e14.trans e15)) W13) (show v0 < r.homes.length by omega) lv0 (frw.mono ((((e2.trans e3).trans e4).trans e5).trans ((e8.trans e9).trans ((((e10.trans e11).trans e12).trans e13).trans (e14.trans e15))))) (fb.mono ((((e10.trans e11).trans e12).trans e13).trans (e14.trans e15))) (by omega) fun y2 ds2 B16 H16 e18 S16 => ?_
      exact ⟨B16, ((e7.trans e9).trans ((((((e10.trans e11).trans e12).trans e13).trans (e14.trans e15)).trans e18))), _, _, _, _, _, _, _, _, _, rfl, ((e8.trans e9).trans ((((((e10.trans e11).trans e12).trans e13).trans (e14.trans e15)).trans e18))), S16.up (by omega)⟩
    | move v0 i0 u0 z =>
      refine q_set W7 (e_ixT (e_var fb) e_cint rfl) fun vw B8 H8 e10 W8 fw => ?_
      obtain rfl := fw.str_eq
      have hv0 : v0 < (rowsN p i).length := o.1.1
      have lv0 : v0 < nv p := seen_lt (by omega) hv0
      have hu0 : u0 < (rowsN p i).length := o.2.1
      have lu0 : u0 < nv p := seen_lt (by omega) hu0
      refine q_ifFE W8 (t_to (t_test (e_eqS e_str e_cstr)) (by show decide (("move" : Str) = "make") = false; decide +kernel)) fun B9 H9 e11 W9 => ?_
      refine s_ifF W9 (t_to (t_test (e_inS (ns := ["slice", "clip"]) e_str (e_tup (a_cons e_cstr (a_cons e_cstr a_nil)) lk))) (by show decide (("move" : Str) ∈ (["slice", "clip"] : List Str)) = false; decide +kernel)) fun B10 H10 e12 W10 => ?_
      refine s_ifF W10 (t_to (t_test (e_inS (ns := ["append", "grow"]) e_str (e_tup (a_cons e_cstr (a_cons e_cstr a_nil)) lk))) (by show decide (("move" : Str) ∈ (["append", "grow"] : List Str)) = false; decide +kernel)) fun B11 H11 e13 W11 => ?_
      refine q_ifT W11 (t_to (t_test (e_inS (ns := ["read", "move"]) e_str (e_tup (a_cons e_cstr (a_cons e_cstr a_nil)) lk))) (by show decide (("move" : Str) ∈ (["read", "move"] : List Str)) = true; decide +kernel)) fun B12 H12 e14 W12 => ?_
      refine q_asg W12 (EvB.to (e_slT (ds := [.str "move", nI v0, nI i0, nI u0, nI z]) (e_var fb) (o_some (EvB.to (d1 := nI 3) (e_ii (e_lenT (ds := [.str "move", nI v0, nI i0, nI u0, nI z]) (a_cons (e_var fb) a_nil)) e_cint) rfl)) o_none (by show ¬ (HT.sIx 5 0 (some 3) = 0 ∧ HT.sIx 5 5 none = 5); decide)) (d1 := .tuple [nI u0, nI z]) rfl) fun vt B13 H13 e15 W13 ft => ?_
      refine g_tup ft W13.inn rfl fun vs fv => g_cons fv fun vc r3 fc fr => g_cons fr fun vd r4 fd fr => g_nil fr ?_
      refine look_tail (v := u0) (x := z) (S7.to ((((e10.trans e11).trans e12).trans e13).trans (e14.trans e15)) W13) hse (by omega) lu0 (frw.mono ((((e2.trans e3).trans e4).trans e5).trans ((e8.trans e9).trans ((((e10.trans e11).trans e12).trans e13).trans (e14.trans e15))))) fc fd (by omega) fun y1 B14 H14 e16 S14 => ?_
      refine s_ifT S14.wd (t_to (t_test (e_inS (ns := ["write", "move"]) e_str (e_tup (a_cons e_cstr (a_cons e_cstr a_nil)) lk))) (by show decide (("move" : Str) ∈ (["write", "move"] : List Str)) = true; decide +kernel)) fun B15 H15 e17 W15 => ?_
      refine put_tail (v := v0) (x := i0) (n := i) (S14.to e17 W15) (show v0 < r.homes.length by omega) lv0 (frw.mono ((((e2.trans e3).trans e4).trans e5).trans ((e8.trans e9).trans (((((e10.trans e11).trans e12).trans e13).trans (e14.trans e15)).trans (e16.trans e17))))) (fb.mono (((((e10.trans e11).trans e12).trans e13).trans (e14.trans e15)).trans (e16.trans e17))) (by omega) fun y2 ds2 B16 H16 e18 S16 => ?_
      exact ⟨B16, ((e7.trans e9).trans (((((((e10.trans e11).trans e12).trans e13).trans (e14.trans e15)).trans (e16.trans e17)).trans e18))), _, _, _, _, _, _, _, _, _, rfl, ((e8.trans e9).trans (((((((e10.trans e11).trans e12).trans e13).trans (e14.trans e15)).trans (e16.trans e17)).trans e18))), S16.up (by omega)⟩
    | read v0 i0 =>
      refine q_set W7 (e_ixT (e_var fb) e_cint rfl) fun vw B8 H8 e10 W8 fw => ?_
      obtain rfl := fw.str_eq
      have hv0 : v0 < (rowsN p i).length := o.1
      have lv0 : v0 < nv p := seen_lt (by omega) hv0
      refine q_ifFE W8 (t_to (t_test (e_eqS e_str e_cstr)) (by show decide (("read" : Str) = "make") = false; decide +kernel)) fun B9 H9 e11 W9 => ?_
      refine s_ifF W9 (t_to (t_test (e_inS (ns := ["slice", "clip"]) e_str (e_tup (a_cons e_cstr (a_cons e_cstr a_nil)) lk))) (by show decide (("read" : Str) ∈ (["slice", "clip"] : List Str)) = false; decide +kernel)) fun B10 H10 e12 W10 => ?_
      refine s_ifF W10 (t_to (t_test (e_inS (ns := ["append", "grow"]) e_str (e_tup (a_cons e_cstr (a_cons e_cstr a_nil)) lk))) (by show decide (("read" : Str) ∈ (["append", "grow"] : List Str)) = false; decide +kernel)) fun B11 H11 e13 W11 => ?_
      refine q_ifT W11 (t_to (t_test (e_inS (ns := ["read", "move"]) e_str (e_tup (a_cons e_cstr (a_cons e_cstr a_nil)) lk))) (by show decide (("read" : Str) ∈ (["read", "move"] : List Str)) = true; decide +kernel)) fun B12 H12 e14 W12 => ?_
      refine q_asg W12 (EvB.to (e_slT (ds := [.str "read", nI v0, nI i0]) (e_var fb) (o_some (EvB.to (d1 := nI 1) (e_ii (e_lenT (ds := [.str "read", nI v0, nI i0]) (a_cons (e_var fb) a_nil)) e_cint) rfl)) o_none (by show ¬ (HT.sIx 3 0 (some 1) = 0 ∧ HT.sIx 3 3 none = 3); decide)) (d1 := .tuple [nI v0, nI i0]) rfl) fun vt B13 H13 e15 W13 ft => ?_
      refine g_tup ft W13.inn rfl fun vs fv => g_cons fv fun vc r3 fc fr => g_cons fr fun vd r4 fd fr => g_nil fr ?_
      refine look_tail (v := v0) (x := i0) (S7.to ((((e10.trans e11).trans e12).trans e13).trans (e14.trans e15)) W13) hse (by omega) lv0 (frw.mono ((((e2.trans e3).trans e4).trans e5).trans ((e8.trans e9).trans ((((e10.trans e11).trans e12).trans e13).trans (e14.trans e15))))) fc fd (by omega) fun y1 B14 H14 e16 S14 => ?_
      refine s_ifF S14.wd (t_to (t_test (e_inS (ns := ["write", "move"]) e_str (e_tup (a_cons e_cstr (a_cons e_cstr a_nil)) lk))) (by show decide (("read" : Str) ∈ (["write", "move"] : List Str)) = false; decide +kernel)) fun B15 H15 e17 W15 => ?_
      exact ⟨B15, ((e7.trans e9).trans ((((((e10.trans e11).trans e12).trans e13).trans (e14.trans e15)).trans (e16.trans e17)))), _, _, _, _, _, _, _, _, _, rfl, ((e8.trans e9).trans ((((((e10.trans e11).trans e12).trans e13).trans (e14.trans e15)).trans (e16.trans e17)))), (S14.to e17 W15).up (by omega)⟩
  · rintro σ' B6 H6 e6 ⟨as, ds, x7, x8, x9, x10, x11, x12, x13, rfl, e8, S6⟩
    rw [List.length_map] at S6
    obtain ⟨B7, e9, W7, fcp⟩ := S6.wd.done hcp
    obtain ⟨B8, e10, W8, fcop⟩ := W7.forget.done hcop
    have W8 := W8.perm (ls' := (se, .l ((runN p (chOf ru) p.length).seen.map dO)) :: lsD ds) (List.perm_append_singleton _ _).symm
    obtain ⟨B9, e11, W9, fse⟩ := W8.done hse
    rw [run_caps pg.ok] at fcp
    rw [run_seen pg.ok, List.map_map] at fse
    refine s_ret (Φ := fun v B' => ∃ cops, Da K B' v (runD p (chOf ru) cops)) W9 (EvB.imp (e_tup (a_cons (e_var fcp) (a_cons (e_var fcop) (a_cons (e_var fse) a_nil))) lk) fun v B10 e12 fv => ⟨_, fv⟩) rfl q
end GB
namespace GB
open PySem PySem.Spec PyProof.Rows L2
open Evl (Ex)
variable {P : Program} {w : World} {K : PySem.W.Frag} {mg : Str → Option Value} {base : Heap}

/-! draws -/
section
variable {c : Ent} {dr dr1 dr2 dr' : Dr} {ls : Ls} {σ : L2.St} {B B' H H' : Hp} {ta tb te tx : TE} {t : TA} {Φ Ψ : V → Hp → Prop} {d : PyData} {ds es : List PyData} {st p : Addr} {vs : List V}
theorem e_ixR {i : Nat} {j : Int} {v : V} (hm : (p, Ct.raw vs) ∈ ls) (h : atI vs j = some v) (f : Da K B v d) (hi : σ[i]? = some (some (.ref p)) := by rfl) : EvD K c dr ls (tOp (rIxL K) (tVar i) (tC (.int j))) σ B d := fun B1 H1 e1 w Q q =>
  ⟨.ref p, hi, p, vs, j, v, rfl, rfl, SqL.of (w.cts _ hm).2, h, q v B1 H1 (Ex.refl _) w (f.mono e1)⟩
/-- x[j] = e, x raw -/
theorem q_setR {D : Ends} {tz : TS} {i k : Nat} {j : Int} (w : Wd K c dr ((p, .raw vs) :: ls) B H) (h0 : c.H p = none ∨ p ∈ c.M) (h : EvD K c dr ((p, .raw vs) :: ls) te σ B d) (hk : ixN vs.length j = some k) (g : ∀ v B1 H1, Ex B B1 → Wd K c dr ((p, .raw (vs.set k v)) :: ls) B1 H1 → Da K B1 v d → tz D σ H1)
    (hi : σ[i]? = some (some (.ref p)) := by rfl) : tSeq (tAsg te (gSub (tVar i) (tC (.int j)) rSetL)) tz D σ H :=
  h B H (Ex.refl _) w _ fun v B1 H1 e1 w1 fv => ⟨.ref p, hi, p, vs, j, k, rfl, rfl, w1.own.2, hk, g v B1 _ e1 (w1.set (ct' := .raw (vs.set k v)) (show upd H1 p _ p = _ from upd_same) h0) fv⟩
theorem e_intB {b : Bool} (ha : EvD K c dr ls ta σ B (.bool b)) : EvD K c dr ls (tCB (fun xs H Q => (∃ i, xs = [.int i] ∧ Q (.int i) H) ∨ ∃ k, xs = [.bl k] ∧ Q (.int (if k then 1 else 0)) H) (tCons ta tNil)) σ B (.int (if b then 1 else 0)) := fun B1 H1 e1 w Q q =>
  ha B1 H1 e1 w _ fun v B2 H2 e2 w2 f => by
    rw [f.bl_eq]
    exact .inr ⟨b, rfl, q _ B2 H2 e2 w2 (.int _)⟩
theorem Wd.startR {place great : Nat} {cl : Addr} (e : Ex B H) (h : H st = some (.lst [.ref cl, .int (place : Int), .int (great : Int)])) (hb : B st = none) : Wd K ⟨B, H, [st]⟩ none [(st, .raw [.ref cl, .int (place : Int), .int (great : Int)])] B H :=
  ⟨Ex.refl _, e, fun a h => .inl h, fun a o _ h => h, fun a m => (by
    rw [List.mem_singleton.mp m, h]
    intro z
    cases z), fun q m => (by
    rw [List.mem_singleton.mp m]
    exact ⟨hb, h⟩), List.nodup_cons.mpr ⟨List.not_mem_nil, List.nodup_nil⟩, fun q h => nomatch h⟩
theorem Wd.backR {Q : VK} {v : V} {place great n : Nat} {cl : Addr} {ns : List Int} (w : Wd K c none [(st, .raw [.ref cl, .int (place : Int), .int (great : Int)])] B H) (hM : c.M = [st]) (hc : B cl = some (.lst (ns.map V.int))) (hp : place ≤ n) (q : RW K c.B c.H st n Φ Q) (f : Φ v B) : Q v H :=
  q v B H w.base w.inn (fun a o ne h => w.old a o (by rw [hM]; exact fun z => ne (List.mem_singleton.mp z)) h) w.fr ⟨cl, ns, place, great, w.own.2, hc, hp⟩ w.own.1 f
end
theorem modN {i : Int} {b : Nat} (hb : 1 ≤ b) : ∃ n : Nat, i.fmod (b : Int) = (n : Int) ∧ n < b := by
  have h0 : (0 : Int) < b := by omega
  have h1 := Int.fmod_nonneg_of_pos i h0
  have h2 := Int.fmod_lt_of_pos i h0
  exact ⟨(i.fmod (b : Int)).toNat, by omega, by omega⟩
theorem big_b {b : Nat} (h : b ≤ 10 ^ 40) : ((b : Nat) : Int).natAbs < 2 ^ 140 := by
  have h2 : (10 : Nat) ^ 40 < 2 ^ 140 := by decide
  rw [Int.natAbs_natCast]
  omega
theorem pow_ok {i j : Int} (h : i.natAbs < 2 ^ 64) (h0 : 0 ≤ j := by decide) (h1 : j ≤ 1000000 := by decide) : CPow i j := ⟨h0, h1, h⟩
theorem mix1 (cell : Int) (pl : Int) {place : Nat} (h : place < 1000000) : (cell.fmod 2147483423 + 46691 * (place : Int) + 71).natAbs < 2 ^ 64 := by
  have h1 := Int.fmod_nonneg_of_pos cell (b := 2147483423) (by decide)
  have h2 := Int.fmod_lt_of_pos cell (b := 2147483423) (by decide)
  omega
theorem mul2 {place : Nat} (h : place < 1000000) : -(2 ^ 64) < (30011 : Int) * (place : Int) ∧ (30011 : Int) * (place : Int) < 2 ^ 64 := by
  constructor <;> omega
theorem sq_lt {place : Nat} (h : place < 1000000) : 0 ≤ (30011 : Int) * (place : Int) * (place : Int) ∧ (30011 : Int) * (place : Int) * (place : Int) < 30011 * 1000000 * 1000000 := by
  have h1 : (30011 * place) * place ≤ (30011 * 1000000) * place := Nat.mul_le_mul_right _ (Nat.mul_le_mul_left _ (by omega))
  have h2 : (30011 * 1000000) * place < (30011 * 1000000) * 1000000 := Nat.mul_lt_mul_of_pos_left h (by decide)
  have h3 : ((30011 * place * place : Nat) : Int) = (30011 : Int) * (place : Int) * (place : Int) := by push_cast; rfl
  rw [← h3]
  constructor
  · omega
  · have : 30011 * place * place < 30011 * 1000000 * 1000000 := by omega
    omega
theorem mix2 (i : Int) (pl : Int) {place : Nat} (h : place < 1000000) : (i.fmod 2147483647 + 30011 * (place : Int) * (place : Int) + 7).natAbs < 2 ^ 64 := by
  have h1 := Int.fmod_nonneg_of_pos i (b := 2147483647) (by decide)
  have h2 := Int.fmod_lt_of_pos i (b := 2147483647) (by decide)
  have h3 := sq_lt h
  generalize (30011 : Int) * (place : Int) * (place : Int) = s at h3
  omega
theorem cl_law_draw (d : Df K mg "_law_draw" s_law_draw) (T : Tx K mg)  : Cl P w K mg base 1 "_law_draw" (sp_law_draw K) [] := by
  refine cl_of d sc_law_draw (fun f fd F => F.bindsN fun _ _ _ _ _ _ us hl => match us, hl with | [_, _], _ => rfl) (SpW.len fun _ => rfl) fun cdv f A outer s H vs Q E hr h => ?_
  have hu := hu_of hr
  refine ⟨_, (pss_cons (ps_if (pt_cmpR op_gt (pe_ix (ixL K) (pv 0) pe_int (fun _ _ => rfl)) pe_int (nomark _)) (pss_cons (ps_set (i := 2) sc_law_draw.nd rfl (Or.inl rfl) (pe_op op_modN (pe_ix (ixL K) (pv 0) pe_int (fun _ _ => rfl)) (pv 1)))
      (pss_cons (ps_asg (pe_op op_fdivW (pe_ix (ixL K) (pv 0) pe_int (fun _ _ => rfl)) (pv 1)) (pg_sub (pv 0) pe_int set_list))
      (pss_one (ps_ret (pv 2))))) pss_nil)
      (pss_cons (ps_set (i := 3) sc_law_draw.nd rfl (Or.inl rfl) (pe_ix (ixL K) (pv 0) pe_int (fun _ _ => rfl)))
      (pss_cons (ps_asg (pe_op op_add (pv 3) pe_int) (pg_sub (pv 0) pe_int set_list))
      (pss_cons (ps_set (i := 4) sc_law_draw.nd rfl (Or.inl rfl) (pe_op op_add (pe_op op_mul pe_int (pv 3)) pe_int))
      (pss_cons (ps_if (pt_cmpR (opNeD K hr.units) (pe_ix (ixL K) (pv 0) pe_int (fun _ _ => rfl)) (pe_lst pa_nil) (nomark _)) (pss_one (ps_set (i := 4) sc_law_draw.nd rfl (Or.inl rfl) (pe_ix (ixL K) (pe_ix (ixL K) (pv 0) pe_int (fun _ _ => rfl)) (pe_op op_modN (pv 3) (pe_callB call_len_seq (by rfl) T.len PySem.boot_len (pa_cons (pe_ix (ixL K) (pv 0) pe_int (fun _ _ => rfl)) pa_nil))) (fun _ _ => rfl)))) pss_nil)
      (pss_cons (ps_if (PW.pt (pw_and (pt_cmpR op_lt (pv 3) (pe_callB call_len_seq (by rfl) T.len PySem.boot_len (pa_cons (pe_ix (ixL K) (pv 0) pe_int (fun _ _ => rfl)) pa_nil)) (nomark _)) (pw_and1 (pt_cmpR op_ge (pe_callB call_abs (by rfl) T.abs (by decide +kernel) (pa_cons (pv 4) pa_nil)) (pe_op op_pow pe_int pe_int) (nomark _))))) (pss_cons (ps_set (i := 5) sc_law_draw.nd rfl (Or.inl rfl) (pe_op op_add (pe_op op_mul pe_int (pe_callB call_abs (by rfl) T.abs (by decide +kernel) (pa_cons (pv 4) pa_nil))) (pe_callTy call_int1 (by rfl) T.int (by decide +kernel) (pa_cons (pe_cmpR op_lt (pv 4) pe_int (nomark _)) pa_nil))))
      (pss_cons (ps_asg (pe_op op_fdivW (pv 5) (pv 1)) (pg_sub (pv 0) pe_int set_list))
      (pss_one (ps_ret (pe_op op_modN (pv 5) (pv 1)))))) pss_nil)
      (pss_cons (ps_set (i := 6) sc_law_draw.nd rfl (Or.inl rfl) (pe_op op_modN (pe_op op_pow (pe_op op_add (pe_op op_add (pe_op op_modN (pv 4) pe_int) (pe_op op_mul pe_int (pv 3))) pe_int) pe_int) pe_int))
      (pss_cons (ps_set (i := 6) sc_law_draw.nd rfl (Or.inl rfl) (pe_op op_modN (pe_op op_pow (pe_op op_add (pe_op op_add (pv 6) (pe_op op_mul (pe_op op_mul pe_int (pv 3)) (pv 3))) pe_int) pe_int) pe_int))
      (pss_one (ps_ret (pe_op op_modN (pe_op op_fdivW (pv 6) pe_int) (pv 1)))))))))))), ?_⟩
  obtain ⟨B, b, st, n, rest, rfl, e0, dl, pre, dk, hst, hn, q⟩ := h
  obtain ⟨v2, r2, rfl, f2, dl⟩ := dl.cons_inv
  cases dl
  obtain ⟨hb1, hb2⟩ := pre
  have hb1 : 1 ≤ b := hb1
  have hb2 : b ≤ 10 ^ 40 := hb2
  have hbz : ((b : Nat) : Int) ≠ 0 := by omega
  have hbp : (0 : Int) < ((b : Nat) : Int) := by omega
  obtain ⟨cl, ns, place, great, hH, hB, hpl⟩ := dk
  have hpl2 : place < 1000000 := by have : n + 1 ≤ 1000000 := hn; omega
  have W := Wd.startR (K := K) e0 hH hst
  have f2 : Da K B v2 (nI b) := f2
  have fcl : Da K B (.ref cl) (.list (ns.map PyData.int)) := .lst hB (DaL.of_ints ns)
  have ret : ∀ {te : TE} {σ : L2.St} {B1 H1 : Hp} {D : Ends} {pl gr : Nat} {i : Int}, D.rt = Q → Ex B B1 → pl ≤ n + 1 → Wd K ⟨B, H, [st]⟩ none [(st, .raw [.ref cl, .int (pl : Int), .int (gr : Int)])] B1 H1 → EvD K ⟨B, H, [st]⟩ none [(st, .raw [.ref cl, .int (pl : Int), .int (gr : Int)])] te σ B1 (.int (i.fmod (b : Int))) → tRet te D σ H1 :=
    fun {te σ B1 H1 D pl gr i} hD ex hp w h => s_retB w h fun v B2 H2 e2 w2 fv => by
      rw [hD]
      obtain ⟨m, hm1, hm2⟩ := modN (i := i) hb1
      refine w2.backR rfl (e2 _ _ (ex _ _ hB)) hp q ⟨m, ?_, hm2⟩
      rw [fv.int_eq, hm1]
  by_cases hg : 0 < great
  · refine q_ifT W (t_to (t_test (e_ib (e_ixR (d := nI great) List.mem_cons_self rfl (.int _)) e_cint)) (decide_eq_true (by omega))) fun B1 H1 e1 W1 => ?_
    refine q_set W1 (e_iiC (e_ixR (d := nI great) List.mem_cons_self rfl (.int _)) (e_var f2) hbz) fun vd B2 H2 e2 W2 fd => ?_
    refine q_setR (k := 2) W2 (.inr List.mem_cons_self) (EvB.to (d1 := nI (great / b)) (e_iiC (e_ixR (d := nI great) List.mem_cons_self rfl (.int _)) (e_var f2) (wide_div (b := 140) hbp (big_b hb2) (by decide) (by decide))) rfl) rfl fun v B3 H3 e3 W3 fv => ?_
    rw [fv.int_eq] at W3
    exact ret (i := (great : Int)) rfl ((e1.trans e2).trans e3) (by omega) W3 (e_var fd)
  · have hg0 : great = 0 := by omega
    subst hg0
    refine q_ifF W (t_to (t_test (e_ib (e_ixR (d := nI 0) List.mem_cons_self rfl (.int _)) e_cint)) rfl) fun B1 H1 e1 W1 => ?_
    refine q_set W1 (e_ixR (d := nI place) List.mem_cons_self rfl (.int _)) fun vp B2 H2 e2 W2 fp => ?_
    refine q_setR (k := 1) W2 (.inr List.mem_cons_self) (EvB.to (d1 := nI (place + 1)) (e_ii (e_var fp) e_cint) rfl) rfl fun v B3 H3 e3 W3 fv => ?_
    rw [fv.int_eq] at W3
    have W3 : Wd K ⟨B, H, [st]⟩ none [(st, .raw [.ref cl, .int ((place + 1 : Nat) : Int), .int ((0 : Nat) : Int)])] B3 H3 := W3
    refine q_set W3 (e_ii (e_iiC e_cint (e_var fp) (.inl ⟨by decide, by decide⟩)) e_cint) fun vc B4 H4 e4 W4 fc => ?_
    have ecl : ∀ {σ : L2.St} {B' : Hp}, Ex B B' → σ[0]? = some (some (.ref st)) → EvD K ⟨B, H, [st]⟩ none [(st, .raw [.ref cl, .int ((place + 1 : Nat) : Int), .int ((0 : Nat) : Int)])] (tOp (rIxL K) (tVar 0) (tC (.int 0))) σ B' (.list (ns.map PyData.int)) := fun ex h0 => e_ixR List.mem_cons_self rfl (fcl.mono ex) h0
    cases ns with
    | nil =>
      refine q_ifF W4 (t_to (t_test (e_neNil (ecl (((e1.trans e2).trans e3).trans e4) rfl) (plain_ints _))) rfl) fun B5 H5 e5 W5 => ?_
      refine q_ifF W5 (t_to (t_and (a := false) (b := true) (t_to (t_test (e_ib (e_var fp) (e_lenL (a_cons (ecl ((((e1.trans e2).trans e3).trans e4).trans e5) rfl) a_nil)))) (decide_eq_false (by show ¬ ((place : Int) < ((0 : Nat) : Int)); omega))) fun z => nomatch z) rfl) fun B6 H6 e6 W6 => ?_
      refine q_set W6 (e_iiC (e_iiC (e_ii (e_ii (e_iiC (e_var fc) e_cint (by decide)) (e_iiC e_cint (e_var fp) (.inl ⟨by decide, by decide⟩))) e_cint) e_cint (pow_ok (mix1 _ 0 hpl2))) e_cint (by decide)) fun vm B8 H8 e8 W8 fm => ?_
      refine q_set W8 (e_iiC (e_iiC (e_ii (e_ii (e_var fm) (e_iiC (e_iiC e_cint (e_var fp) (.inl ⟨by decide, by decide⟩)) (e_var fp) (.inl (mul2 hpl2)))) e_cint) e_cint (pow_ok (mix2 _ 0 hpl2))) e_cint (by decide)) fun vm2 B9 H9 e9 W9 fm2 => ?_
      exact ret rfl (((((((e1.trans e2).trans e3).trans e4).trans e5).trans e6).trans e8).trans e9) (by omega) W9 (e_iiC (e_iiC (e_var fm2) e_cint (wide_div (b := 10) (by decide) (by decide) (by decide) (by decide))) (e_var f2) hbz)
    | cons n0 nr =>
      have hlen : 0 < (n0 :: nr).length := Nat.succ_pos _
      generalize n0 :: nr = ns at hB fcl ecl hlen
      have hne : ns ≠ [] := fun z => by rw [z] at hlen; cases hlen
      refine q_ifT W4 (t_to (t_test (e_neNil (ecl (((e1.trans e2).trans e3).trans e4) rfl) (plain_ints _))) (by cases ns with | nil => exact absurd rfl hne | cons a l => rfl)) fun B5 H5 e5 W5 => ?_
      obtain ⟨k, hk1, hk2⟩ := modN (i := (place : Int)) (b := ns.length) hlen
      have hk3 : ns[k]? = some ns[k] := List.getElem?_eq_getElem hk2
      refine s_set W5 (e_ixL (d := .int ns[k]) (ecl ((((e1.trans e2).trans e3).trans e4).trans e5) rfl) (EvB.to (d1 := nI k) (e_iiC (e_var fp) (EvB.to (d1 := nI ns.length) (e_lenL (a_cons (ecl ((((e1.trans e2).trans e3).trans e4).trans e5) rfl) a_nil)) (by rw [List.length_map])) (by omega)) (by rw [hk1])) (atI_map (f := PyData.int) hk3)) fun vc B6 H6 e6 W6 fc => ?_
      generalize ns[k] = cell at fc
      have tst : ∀ {σ : L2.St}, σ[0]? = some (some (.ref st)) → σ[3]? = some (some vp) → σ[4]? = some (some vc) → Et K ⟨B, H, [st]⟩ none [(st, .raw [.ref cl, .int ((place + 1 : Nat) : Int), .int ((0 : Nat) : Int)])] (tAnd (tTest (tOp (rI0 fun i j => .bl (decide (i < j))) (tVar 3) (tCB (fun xs H Q => ∃ p ys, xs = [.ref p] ∧ (SqL K H p ys ∨ SqT K H p ys) ∧ Q (.int ys.length) H) (tCons (tOp (rIxL K) (tVar 0) (tC (.int 0))) tNil)))) (tTest (tOp (rI0 fun i j => .bl (decide (j ≤ i))) (tCB (fun xs H Q => ∃ i, xs = [.int i] ∧ Q (.int (if i < 0 then -i else i)) H) (tCons (tVar 4) tNil)) (tOp (rI CPow fun i j => .int (i ^ j.toNat)) (tC (.int 10)) (tC (.int 18)))))) σ B6 (decide ((place : Int) < ((ns.map PyData.int).length : Int)) && decide ((10 : Int) ^ (18 : Int).toNat ≤ (if cell < 0 then -cell else cell))) := fun h0 h3 h4 =>
        t_and (t_test (e_ib (e_var fp h3) (e_lenL (a_cons (ecl (((((e1.trans e2).trans e3).trans e4).trans e5).trans e6) h0) a_nil)))) fun _ => t_test (e_ib (e_abs (a_cons (e_var fc h4) a_nil)) (e_iiC e_cint e_cint ⟨by decide, by decide, by decide⟩))
      refine q_if W6 (tst rfl rfl rfl) (fun _ B7 H7 e7 W7 => ?_) (fun _ B7 H7 e7 W7 => ?_)
      · have hab : ∃ a : Nat, (if cell < 0 then -cell else cell) = (a : Int) := ⟨cell.natAbs, by split <;> omega⟩
        obtain ⟨a, ha⟩ := hab
        have hbi : ∃ z : Nat, (if decide (cell < 0) then (1 : Int) else 0) = (z : Int) := by by_cases z : cell < 0; exact ⟨1, by rw [decide_eq_true z]; rfl⟩; exact ⟨0, by rw [decide_eq_false z]; rfl⟩
        obtain ⟨z, hz⟩ := hbi
        refine q_set W7 (EvB.to (d1 := nI (2 * a + z)) (e_ii (e_iiC e_cint (e_abs (a_cons (e_var fc) a_nil)) (.inl ⟨by decide, by decide⟩)) (e_intB (e_ib (e_var fc) e_cint))) (by rw [ha]; show PyData.int (2 * (a : Int) + (if decide (cell < 0) then (1 : Int) else 0)) = _; rw [hz]; rfl)) fun vg B8 H8 e8 W8 fg => ?_
        refine q_setR (k := 2) W8 (.inr List.mem_cons_self) (EvB.to (d1 := nI ((2 * a + z) / b)) (e_iiC (e_var fg) (e_var f2) (wide_div (b := 140) hbp (big_b hb2) (by decide) (by decide))) rfl) rfl fun v B9 H9 e9 W9 fv => ?_
        rw [fv.int_eq] at W9
        have W9 : Wd K ⟨B, H, [st]⟩ none [(st, .raw [.ref cl, .int ((place + 1 : Nat) : Int), .int (((2 * a + z) / b : Nat) : Int)])] B9 H9 := W9
        exact ret rfl (((((((((e1.trans e2).trans e3).trans e4).trans e5).trans e6)).trans e7).trans e8).trans e9) (by omega) W9 (e_iiC (e_var fg) (e_var f2) hbz)
      · refine q_set W7 (e_iiC (e_iiC (e_ii (e_ii (e_iiC (e_var fc) e_cint (by decide)) (e_iiC e_cint (e_var fp) (.inl ⟨by decide, by decide⟩))) e_cint) e_cint (pow_ok (mix1 _ 0 hpl2))) e_cint (by decide)) fun vm B8 H8 e8 W8 fm => ?_
        refine q_set W8 (e_iiC (e_iiC (e_ii (e_ii (e_var fm) (e_iiC (e_iiC e_cint (e_var fp) (.inl ⟨by decide, by decide⟩)) (e_var fp) (.inl (mul2 hpl2)))) e_cint) e_cint (pow_ok (mix2 _ 0 hpl2))) e_cint (by decide)) fun vm2 B9 H9 e9 W9 fm2 => ?_
        exact ret rfl ((((((((e1.trans e2).trans e3).trans e4).trans e5).trans e6).trans e7).trans e8).trans e9) (by omega) W9 (e_iiC (e_iiC (e_var fm2) e_cint (wide_div (b := 10) (by decide) (by decide) (by decide) (by decide))) (e_var f2) hbz)
end GB
namespace GB
open PySem PySem.Spec PyProof.Rows L2
open Evl (Ex)
variable {P : Program} {w : World} {K : PySem.W.Frag} {mg : Str → Option Value} {base : Heap}

/-! start, place, index, values -/
section
variable {c : Ent} {dr dr1 dr2 dr' : Dr} {ls : Ls} {σ : L2.St} {B B' H H' : Hp} {ta tb te tx : TE} {t : TA} {Φ Ψ : V → Hp → Prop} {d : PyData} {ds es : List PyData} {st p : Addr} {vs : List V}
theorem x_ixLR {P : List PyData → Prop} {R : Int → Prop} (ha : EvB K c dr dr1 ls ta σ B fun v B' => ∃ ds, Da K B' v (.list ds) ∧ P ds) (hb : EvI K c dr1 dr2 ls tb σ B R) (h : ∀ ds i, P ds → R i → ∃ d, atI ds i = some d ∧ ∀ v B', Da K B' v d → Φ v B') : EvB K c dr dr2 ls (tOp (rIxL K) ta tb) σ B Φ :=
  EvB.op ha fun x B1 e1 ⟨ds, fx, hp⟩ => (EvB.mono hb e1).imp fun y B2 e2 ⟨i, hy, hi⟩ => rv_of fun B3 H3 e w Q q => by
    subst hy
    obtain ⟨d, hd, hf⟩ := h ds i hp hi
    obtain ⟨a, xs, rfl, hx, hl⟩ := fx.lst_inv
    obtain ⟨v, hv, f⟩ := hl.at hd
    exact ⟨a, xs, i, v, rfl, rfl, SqL.of (w.inn _ _ (e _ _ (e2 _ _ hx))), hv, q v (hf v B3 ((f.mono e2).mono e))⟩
theorem l_lstB {P : List PyData → Prop} (h : EaB K c dr dr' ls t σ B fun vs B' => ∃ ds, DaL K B' vs ds ∧ P ds) (hl : ∀ ds, P ds → ds.length ≤ 100000) : EvN K c dr dr' ls (tLst t) σ B P := fun B1 H1 e1 w Q q =>
  h B1 H1 e1 w _ fun vs B2 H2 e2 w2 ⟨ds, f, hp⟩ => ⟨sz_le (by rw [f.len]; exact hl ds hp), fun p hn => q p ds _ _ e2 (w2.fresh0 hn) (w2.grow hn ⟨vs, upd_same, f⟩) hp⟩
theorem e_tupLR {P : List PyData → Prop} (ha : EvB K c dr dr' ls ta σ B fun v B' => ∃ ds, Da K B' v (.list ds) ∧ P ds) : EvB K c dr dr' ls (tCB (fun xs H Q => ∃ p ys, xs = [.ref p] ∧ ((SqL K H p ys ∧ ∀ l, H l = none → Q (.ref l) (upd H l (.tup ys))) ∨ (SqT K H p ys ∧ Q (.ref p) H))) (tCons ta tNil)) σ B fun v B' => ∃ ds, Da K B' v (.tuple ds) ∧ P ds := fun B1 H1 e1 w Q q =>
  ha B1 H1 e1 w _ fun v B2 H2 e2 w2 ⟨ds, fv, hp⟩ => by
    obtain ⟨a, xs, rfl, hx, hd⟩ := fv.lst_inv
    refine ⟨a, xs, rfl, .inl ⟨SqL.of (w2.inn _ _ hx), fun p hn => ?_⟩⟩
    have e5 : Ex B2 (upd B2 p (.tup xs)) := Ex.new (w2.freshB hn)
    exact q _ _ _ (e2.trans e5) (w2.new hn) ⟨ds, .tup upd_same (hd.mono e5), hp⟩
/-- a draw as an int -/
theorem EvB.toI {b : Nat} {P : Int → Prop} (h : EvB K c dr dr' ls te σ B (ΦN b)) (k : ∀ n : Nat, n < b → P n) : EvI K c dr dr' ls te σ B P := h.imp fun v B1 e1 ⟨n, hv, hn⟩ => ⟨n, hv, k n hn⟩
theorem i_D {i : Int} {P : Int → Prop} (h : EvD K c dr ls te σ B (.int i)) (hp : P i) : EvI K c dr dr ls te σ B P := h.imp fun v _ _ f => ⟨i, f.int_eq, hp⟩
/-- the draw of a number below b, by name -/
theorem c_draw {n i b : Nat} {t : TE} (hi : σ[i]? = some (some (.ref st))) (hs : st ∈ c.M ∨ c.H st = none) (hn : n + 1 ≤ LIM) (hb : EvD K c (some (st, n)) ls t σ B (nI b)) (h1 : 1 ≤ b) (h2 : b ≤ 10 ^ 40) :
    EvB K c (some (st, n)) (some (st, n + 1)) ls (tCall (sp_law_draw K) [] E0 (tCons (tVar i) (tCons t tNil))) σ B (ΦN b) := c_W1 (a := b) hi hs hn (a_cons hb a_nil) ⟨h1, h2⟩
end
theorem last3 {L : List Nat} (h : L ≠ []) : ∃ L' : List Nat, L' ≠ [] ∧ (∀ x, x ∈ L' → x ∈ L) ∧ cutD (L.map nI) (some (-3)) none = L'.map nI ∧ L'.length ≤ L.length := by
  have e : cutD (L.map nI) (some (-3)) none = ((L.drop (HT.sIx L.length 0 (some (-3)))).take (HT.sIx L.length L.length none - HT.sIx L.length 0 (some (-3)))).map nI := by
    unfold cutD
    rw [List.length_map, List.map_take, List.map_drop]
  refine ⟨_, ?_, fun x hx => List.mem_of_mem_drop (List.mem_of_mem_take hx), e, ?_⟩
  · have hl := List.length_pos_iff.mpr h
    have h1 : HT.sIx L.length 0 (some (-3)) < L.length := by
      show (if (-3 : Int) < 0 then ((-3 : Int) + (L.length : Int)).toNat else min (-3 : Int).toNat L.length) < L.length
      rw [if_pos (by decide)]
      omega
    have h2 : HT.sIx L.length L.length none = L.length := rfl
    intro z
    have := congrArg List.length z
    rw [List.length_take, List.length_drop, h2, List.length_nil] at this
    omega
  · rw [List.length_take, List.length_drop]
    omega
theorem cl_law_place (d : Df K mg "_law_place" s_law_place) (T : Tx K mg) (c_law_draw : Cl P w K mg base 1 "_law_draw" (sp_law_draw K) []) : Cl P w K mg base 2 "_law_place" (sp_law_place K) [] := by
  refine cl_of d sc_law_place (fun f fd F => F.bindsN fun _ _ _ _ _ _ us hl => match us, hl with | [_, _, _], _ => rfl) (SpW.len fun _ => rfl) fun cdv f A outer s H vs Q E hr h => ?_
  have hu := hu_of hr
  refine ⟨_, (pss_cons (ps_setLc (i := 3) (own := [("_law_view", 4)]) rfl sc_law_place.nd rfl rfl (sw_true rfl rfl rfl (by decide +kernel)) (pi_range1 (by rfl) T.range (pa_cons (pe_callB call_len_seq (by rfl) T.len PySem.boot_len (pa_cons (pv 1) pa_nil)) pa_nil)) (blkOk_by (own := [("_law_view", 4)]) (N := N_law_place) (sc := defScope s_law_place) (by decide +kernel)) (fun _ _ _ _ _ => (pg_name (i := 4) sc_law_place.nd rfl (Or.inl rfl))) (fun _ _ _ _ _ => (pts_one (pt_cmpR op_ge (pe_ix (ixL K) (pv 1) (pv 4) (fun _ _ => rfl)) (pv 2) (nomark _)))) (fun _ _ _ _ _ => (pv 4)))
      (pss_cons (ps_if (pt_cmpR (opEqD K hr.units) (pv 3) (pe_lst pa_nil) (nomark _)) (pss_one (ps_ret pe_non)) pss_nil)
      (pss_cons (ps_if (pt_cmpR op_gt (pe_cl c_law_draw hr (by decide) rfl (pa_cons (pv 0) (pa_cons pe_int pa_nil))) pe_int (nomark _)) (pss_one (ps_set (i := 3) sc_law_place.nd rfl (Or.inl rfl) (pe_slice (slL K) (pv 3) (po_some (pe_un un_neg pe_int)) po_none))) pss_nil)
      (pss_one (ps_ret (pe_ix (ixL K) (pv 3) (pe_cl c_law_draw hr (by decide) rfl (pa_cons (pv 0) (pa_cons (pe_callB call_len_seq (by rfl) T.len PySem.boot_len (pa_cons (pv 3) pa_nil)) pa_nil))) (fun _ _ => rfl))))))), ?_⟩
  obtain ⟨B, ⟨sz, lst⟩, st, n, rest, rfl, e0, dl, pre, dk, hst, hn, q⟩ := h
  have W := Wd.startW (K := K) e0 dk hst
  obtain ⟨v2, r2, rfl, f2, dl⟩ := dl.cons_inv
  obtain ⟨v3, r3, rfl, f3, dl⟩ := dl.cons_inv
  cases dl
  have hsz : sz.length ≤ 1000 := pre
  have hn : n + 2 ≤ 1000000 := hn
  have f2 : Da K B v2 (.list (sz.map nI)) := f2
  have f3 : Da K B v3 (nI lst) := f3
  have q : RW K B H st (n + 2) (fun v _ => (v = .non ∧ ∀ s, s ∈ sz → s < lst) ∨ ∃ (i s : Nat), v = .int (i : Int) ∧ sz[i]? = some s ∧ lst ≤ s) Q := q
  have hLl : ∀ f : Nat → Bool, ((List.range sz.length).filter f).length ≤ 1000 := fun f => by
    have := List.length_filter_le f (List.range sz.length)
    rw [List.length_range] at this
    omega
  refine q_set W (EvB.to (d1 := .list (((List.range sz.length).filter fun i => decide (lst ≤ sz.getD i 0)).map nI)) (EvN.data (l_lc (n := ((sz.map nI).length : Int).toNat) (f := fun i => .int (i : Nat)) (fun i => decide (lst ≤ sz.getD i 0)) nI (i_rng1 (a_cons (e_lenL (a_cons (e_var f2) a_nil)) a_nil) (by rw [List.length_map]; omega) (by omega)) (by rw [List.length_map]; omega) ?_)) ?_) fun vso B1 H1 e1 W1 fso => ?_
  · intro i x D acc B5 H5 hi e5 i5 fx R k
    have hi : i < sz.length := by rw [List.length_map] at hi; omega
    have hs : sz[i]? = some sz[i] := List.getElem?_eq_getElem hi
    have fx : Da K B5 x (nI i) := fx
    refine k _ rfl ?_ fun _ => e_var fx
    rw [getD_mem' hs]
    refine t_to (t_test (e_ib (e_atL (f := nI) (e_var f2) (e_var fx) hs) (e_var f3))) ?_
    by_cases z : lst ≤ sz[i]
    · rw [decide_eq_true z, decide_eq_true (by omega)]
    · rw [decide_eq_false z, decide_eq_false (by omega)]
  · rw [List.length_map, Int.toNat_natCast]
    rfl
  have hmem : ∀ i, i ∈ ((List.range sz.length).filter fun i => decide (lst ≤ sz.getD i 0)) ↔ ∃ s, sz[i]? = some s ∧ lst ≤ s := fun i => by
    rw [List.mem_filter, List.mem_range, decide_eq_true_eq]
    constructor
    · rintro ⟨h1, h2⟩
      have hs : sz[i]? = some sz[i] := List.getElem?_eq_getElem h1
      rw [getD_mem' hs] at h2
      exact ⟨_, hs, h2⟩
    · rintro ⟨s, h1, h2⟩
      refine ⟨(List.getElem?_eq_some_iff.mp h1).1, ?_⟩
      rw [getD_mem' h1]
      exact h2
  have hLl := hLl fun i => decide (lst ≤ sz.getD i 0)
  generalize ((List.range sz.length).filter fun i => decide (lst ≤ sz.getD i 0)) = L at fso hmem hLl
  have fin : ∀ {m : Nat} {L' : List Nat} {vso : V} {B2 H2 : Hp} {D : Ends}, D.rt = Q → n + 1 = m → Wd K ⟨B, H, [st]⟩ (some (st, m)) [] B2 H2 → Da K B2 vso (.list (L'.map nI)) → L' ≠ [] → L'.length ≤ 1000 → (∀ x, x ∈ L' → x ∈ L) →
      tRet (tOp (rIxL K) (tVar 3) (tCall (sp_law_draw K) [] E0 (tCons (tVar 0) (tCons (tCB (fun xs H Q => ∃ p ys, xs = [.ref p] ∧ (SqL K H p ys ∨ SqT K H p ys) ∧ Q (.int ys.length) H) (tCons (tVar 3) tNil)) tNil)))) D [some (.ref st), some v2, some v3, some vso, none] H2 := fun {m L' vso B2 H2 D} hD hm w2 fl hne hl hsub => by
    have hp := List.length_pos_iff.mpr hne
    refine s_retB w2 (x_ixL (P := fun i => ∃ k : Nat, i = k ∧ k < L'.length) (e_var fl) (EvB.toI (b := L'.length) (c_draw rfl (.inl List.mem_cons_self) (by omega) (EvB.to (d1 := nI L'.length) (e_lenL (a_cons (e_var fl) a_nil)) (by rw [List.length_map])) hp (by omega)) fun k hk => ⟨k, rfl, hk⟩) fun i hi => ?_) fun v B3 H3 e3 w3 fv => by
        rw [hD]
        exact w3.backW rfl q (by omega) (.inr fv)
    obtain ⟨k, rfl, hk⟩ := hi
    have hx : L'[k]? = some L'[k] := List.getElem?_eq_getElem hk
    refine ⟨_, atI_map (f := nI) hx, fun v B' fv => ?_⟩
    obtain ⟨s, s1, s2⟩ := (hmem _).mp (hsub _ (List.getElem_mem hk))
    exact ⟨L'[k], s, fv.int_eq, s1, s2⟩
  by_cases hne : L = []
  · subst hne
    refine q_ifT W1 (t_to (t_test (e_eqNil (e_var fso) (plain_nats _))) rfl) fun B2 H2 e2 W2 => ?_
    exact s_retW (Φ := fun v _ => (v = .non ∧ ∀ s, s ∈ sz → s < lst) ∨ ∃ (i s : Nat), v = .int (i : Int) ∧ sz[i]? = some s ∧ lst ≤ s) W2 (EvB.imp e_cnon fun v B3 e3 fv => .inl ⟨fv.non_eq, fun s hs => by
      obtain ⟨i, hi⟩ := List.getElem?_of_mem hs
      by_cases z : lst ≤ s
      · exact absurd ((hmem i).mpr ⟨s, hi, z⟩) List.not_mem_nil
      · omega⟩) rfl q (by omega)
  · refine q_ifF W1 (t_to (t_test (e_eqNil (e_var fso) (plain_nats _))) (by cases L with | nil => exact absurd rfl hne | cons a l => rfl)) fun B2 H2 e2 W2 => ?_
    refine q_ifB (P := fun _ => True) W2 (t_testR (i_ib (P := fun _ => True) (P' := fun _ => True) (EvB.toI (b := 4) (c_draw rfl (.inl List.mem_cons_self) (by omega) (e_cint (n := ((4 : Nat) : Int))) (by decide) (by decide)) fun _ _ => trivial) (i_D e_cint trivial) fun _ _ _ _ => trivial)) (fun _ B3 H3 e3 W3 => ?_) fun _ B3 H3 e3 W3 => ?_
    · obtain ⟨L', l1, l2, l3, l4⟩ := last3 hne
      refine s_set W3 (EvN.data (l_slL (e_var fso) (o_some (e_neg e_cint)) o_none)) fun vs2 B4 H4 e4 W4 fs2 => ?_
      have fs2 : Da K B4 vs2 (.list (cutD (L.map nI) (some (-3)) none)) := fs2
      rw [l3] at fs2
      exact fin rfl rfl W4 fs2 l1 (by omega) l2
    · exact fin rfl rfl W3 (fso.mono (e2.trans e3)) hne hLl fun _ h => h
theorem cl_law_index (d : Df K mg "_law_index" s_law_index) (T : Tx K mg) (c_law_draw : Cl P w K mg base 1 "_law_draw" (sp_law_draw K) []) : Cl P w K mg base 2 "_law_index" (sp_law_index K) [] := by
  refine cl_of d sc_law_index (fun f fd F => F.bindsN fun _ _ _ _ _ _ us hl => match us, hl with | [_, _], _ => rfl) (SpW.len fun _ => rfl) fun cdv f A outer s H vs Q E hr h => ?_
  have hu := hu_of hr
  refine ⟨_, (pss_cons (ps_set (i := 2) sc_law_index.nd rfl (Or.inl rfl) (pe_cl c_law_draw hr (by decide) rfl (pa_cons (pv 0) (pa_cons pe_int pa_nil))))
      (pss_cons (ps_if (pt_cmpR op_eq (pv 2) pe_int (nomark _)) (pss_one (ps_ret (pe_op op_sub (pv 1) pe_int))) pss_nil)
      (pss_one (ps_ret (pe_ix (ixL K) (pe_lst (pa_cons pe_int (pa_cons (pe_cl c_law_draw hr (by decide) rfl (pa_cons (pv 0) (pa_cons (pv 1) pa_nil))) pa_nil))) (pe_op op_sub (pv 2) pe_int) (fun _ _ => rfl)))))), ?_⟩
  obtain ⟨B, b, st, n, rest, rfl, e0, dl, pre, dk, hst, hn, q⟩ := h
  have W := Wd.startW (K := K) e0 dk hst
  obtain ⟨v2, r2, rfl, f2, dl⟩ := dl.cons_inv
  cases dl
  obtain ⟨hb1, hb2⟩ := pre
  have hb1 : 1 ≤ b := hb1
  have hb2 : b ≤ 100000 := hb2
  have hn : n + 2 ≤ 1000000 := hn
  have f2 : Da K B v2 (nI b) := f2
  refine q_set W (c_draw (b := 3) rfl (.inl List.mem_cons_self) (by omega) (e_cint (n := ((3 : Nat) : Int))) (by decide) (by decide)) fun vw B1 H1 e1 W1 fw => ?_
  obtain ⟨k, rfl, hk⟩ := fw
  have fk : Da K B1 (.int (k : Int)) (nI k) := .int _
  by_cases h0 : k = 0
  · subst h0
    refine q_ifT W1 (t_to (t_test (e_eqN (b := 0) (e_var fk) e_cint)) rfl) fun B2 H2 e2 W2 => ?_
    exact s_retW W2 (EvB.imp (e_subN (e_var f2) (e_cint (n := ((1 : Nat) : Int))) hb1) fun v B3 e3 fv => ⟨b - 1, fv.int_eq, by omega⟩) rfl q (by omega)
  · refine q_ifF W1 (t_to (t_test (e_eqN (b := 0) (e_var fk) e_cint)) (decide_eq_false h0)) fun B2 H2 e2 W2 => ?_
    refine s_retW W2 (x_ixLR (P := fun ds => ∃ m : Nat, m < b ∧ ds = [nI 0, nI m]) (R := fun i => i = 0 ∨ i = 1) (EvN.dataB (l_lstB (a_consB (dr1 := some (st, n + 1)) (Φ := fun v B' => Da K B' v (nI 0)) e_cint fun v B3 e3 fv => a_consB (Φ := ΦN b) (c_draw rfl (.inl List.mem_cons_self) (by omega) (e_var f2) hb1 (by omega)) fun v2 B4 e4 fv2 => fun B5 H5 e5 w5 Q q => q [] B5 H5 (Ex.refl _) w5 ?_) ?_)) (i_D (e_subN (e_var fk) (e_cint (n := ((1 : Nat) : Int))) (by omega)) ?_) ?_) rfl q (by omega)
    · obtain ⟨m, rfl, hm⟩ := fv2
      exact ⟨[nI 0, nI m], .cons (fv.mono (e4.trans e5)) (.cons (.int _) .nil), m, hm, rfl⟩
    · rintro ds ⟨m, hm, rfl⟩
      show 2 ≤ 100000
      decide
    · show ((k - 1 : Nat) : Int) = 0 ∨ ((k - 1 : Nat) : Int) = 1
      omega
    · rintro ds i ⟨m, hm, rfl⟩ (rfl | rfl)
      · exact ⟨nI 0, rfl, fun v B' fv => ⟨0, fv.int_eq, by omega⟩⟩
      · exact ⟨nI m, rfl, fun v B' fv => ⟨m, fv.int_eq, hm⟩⟩
theorem cl_law_values (d : Df K mg "_law_values" s_law_values) (T : Tx K mg) (c_law_draw : Cl P w K mg base 1 "_law_draw" (sp_law_draw K) []) : Cl P w K mg base 2 "_law_values" (sp_law_values K) [] := by
  refine cl_of d sc_law_values (fun f fd F => F.bindsN fun _ _ _ _ _ _ us hl => match us, hl with | [_], _ => rfl) (SpW.len fun _ => rfl) fun cdv f A outer s H vs Q E hr h => ?_
  have hu := hu_of hr
  refine ⟨_, (pss_cons (ps_set (i := 1) sc_law_values.nd rfl (Or.inl rfl) (pe_op op_add pe_int (pe_cl c_law_draw hr (by decide) rfl (pa_cons (pv 0) (pa_cons (pe_ix (ixL K) (pe_lst (pa_cons pe_int (pa_cons pe_int (pa_cons pe_int (pa_cons pe_int pa_nil))))) (pe_cl c_law_draw hr (by decide) rfl (pa_cons (pv 0) (pa_cons pe_int pa_nil))) (fun _ _ => rfl)) pa_nil)))))
      (pss_one (ps_ret (pe_callTy call_tuple_of (by rfl) T.tuple (by decide +kernel) (pa_cons (pe_lc (own := [("_law_k", 2)]) (by rfl) sc_law_values.nd (pi_range1 (by rfl) T.range (pa_cons (pv 1) pa_nil)) (blkOk_by (own := [("_law_k", 2)]) (N := N_law_values) (sc := defScope s_law_values) (by decide +kernel)) (fun _ _ _ _ _ => (pg_name (i := 2) sc_law_values.nd rfl (Or.inl rfl))) (fun _ _ _ _ _ => pts_nil) (fun _ _ _ _ _ => (pe_op op_sub (pe_cl c_law_draw hr (by decide) rfl (pa_cons (pv 0) (pa_cons pe_int pa_nil))) pe_int))) pa_nil))))), ?_⟩
  obtain ⟨B, a, st, n, rest, rfl, e0, dl, pre, dk, hst, hn, q⟩ := h
  have W := Wd.startW (K := K) e0 dk hst
  cases dl
  have hn : n + 8 ≤ 1000000 := hn
  refine q_set W (i_ii (P := fun i => i = 1) (P' := fun i => 0 ≤ i ∧ i < 6) (R := fun i => 1 ≤ i ∧ i ≤ 6) (i_D e_cint rfl) (EvB.imp (c_W (args := fun b : Nat => [nI b]) (pre := fun b => 1 ≤ b ∧ b ≤ 10 ^ 40) (cnt := 1) (Φ := fun b => ΦN b) (fun b => b ≤ 6) rfl (.inl List.mem_cons_self) (m := n + 1) (by show n + 1 + 1 ≤ 1000000; omega)
    (a_consB (Φ := fun v B' => ∃ b : Nat, Da K B' v (nI b) ∧ (1 ≤ b ∧ b ≤ 10 ^ 40) ∧ b ≤ 6) (x_ixL (ds := [nI 1, nI 1, nI 2, nI 6]) (P := fun i => ∃ k : Nat, i = k ∧ k < 4) (EvN.data (l_lst (a_cons e_cint (a_cons e_cint (a_cons e_cint (a_cons e_cint a_nil)))) lk)) (EvB.toI (b := 4) (c_draw rfl (.inl List.mem_cons_self) (by omega) (e_cint (n := ((4 : Nat) : Int))) (by decide) (by decide)) fun k hk => ⟨k, rfl, hk⟩) ?_) fun v B3 e3 fv => fun B5 H5 e5 w5 Q q => q [] B5 H5 (Ex.refl _) w5 ?_)) fun v B2 e2 hv => ?_) ?_) fun vm B1 H1 e1 W1 fm => ?_
  · rintro i ⟨k, rfl, hk⟩
    match k, hk with
    | 0, _ => exact ⟨nI 1, rfl, fun v B' fv => ⟨1, fv, by decide, by decide⟩⟩
    | 1, _ => exact ⟨nI 1, rfl, fun v B' fv => ⟨1, fv, by decide, by decide⟩⟩
    | 2, _ => exact ⟨nI 2, rfl, fun v B' fv => ⟨2, fv, by decide, by decide⟩⟩
    | 3, _ => exact ⟨nI 6, rfl, fun v B' fv => ⟨6, fv, by decide, by decide⟩⟩
  · obtain ⟨b, fb, h1, h2⟩ := fv
    exact ⟨b, .cons (fb.mono e5) .nil, h1, h2⟩
  · obtain ⟨b, h1, h2, m, hm, hm2⟩ := hv
    exact ⟨m, hm, by omega, by have : b ≤ 6 := h2; omega⟩
  · rintro i j rfl ⟨h1, h2⟩
    exact ⟨by omega, by omega⟩
  obtain ⟨i, rfl, hi1, hi2⟩ := fm
  have W1 : Wd K ⟨B, H, [st]⟩ (some (st, n + 2)) [] B1 H1 := W1
  have fi : Da K B1 (.int i) (.int i) := .int _
  refine s_retW (m := n + 2 + i.toNat) W1 (EvB.imp (e_tupLR (P := fun ds => ds.length = i.toNat ∧ ∀ (j : Nat) (d : PyData), ds[j]? = some d → ∃ x : Int, d = .int x) (EvN.dataB (l_lcP (n := i.toNat) (f := fun i => .int (i : Nat)) (fun j => some (st, n + 2 + j)) (fun _ d => ∃ x : Int, d = .int x) (i_rng1 (a_cons (e_var fi) a_nil)) (by omega) ?_))) fun v B2 e2 hv => ?_) rfl q (by omega)
  · intro j x D acc B5 H5 hj e5 i5 fx R k
    refine k _ rfl (EvB.imp (i_ii (P := fun _ => True) (P' := fun _ => True) (R := fun _ => True) (EvB.toI (b := 199) (c_draw rfl (.inl List.mem_cons_self) (by show n + 2 + j + 1 ≤ 1000000; omega) (e_cint (n := ((199 : Nat) : Int))) (by decide) (by decide)) fun _ _ => trivial) (i_D e_cint trivial) fun _ _ _ _ => trivial) fun v B6 e6 hv => ?_)
    obtain ⟨x, rfl, _⟩ := hv
    exact ⟨.int x, .int x, x, rfl⟩
  · obtain ⟨ds, fd, hl, hd⟩ := hv
    have : ∃ xs : List Int, ds = xs.map PyData.int := by
      clear fd hl
      induction ds with
      | nil => exact ⟨[], rfl⟩
      | cons d ds ih =>
        obtain ⟨x, hx⟩ := hd 0 d rfl
        obtain ⟨xs, hxs⟩ := ih fun j d h => hd (j + 1) d h
        exact ⟨x :: xs, by rw [hx, hxs]; rfl⟩
    obtain ⟨xs, rfl⟩ := this
    rw [List.length_map] at hl
    exact ⟨xs, by omega, by omega, fd⟩
end GB
namespace GB
open PySem PySem.Spec PyProof.Rows L2
open Evl (Ex)
variable {P : Program} {w : World} {K : PySem.W.Frag} {mg : Str → Option Value} {base : Heap}

/-! statement -/
theorem big30 : ((10 : Int) ^ (30 : Int).toNat - 3) = (((10 ^ 30 - 3 : Nat)) : Int) := by decide +kernel
theorem big30' : ((10 : Int) ^ (30 : Int).toNat) = (((10 ^ 30 : Nat)) : Int) := by decide +kernel
theorem sixD (n : Nat) : (10 : Nat) ^ 30 ≤ 10 ^ 40 := by decide
section
variable {c : Ent} {dr dr1 dr2 dr' : Dr} {ls : Ls} {σ : L2.St} {B B' H H' : Hp} {ta tb te tx : TE} {t : TA} {Φ Ψ : V → Hp → Prop} {d : PyData} {ds es : List PyData} {st p : Addr} {vs : List V}
theorem a_end {P : List V → Hp → Prop} (h : ∀ B1, Ex B B1 → P [] B1) : EaB K c dr dr ls tNil σ B P := fun B1 H1 e1 w Q q => q [] B1 H1 (Ex.refl _) w (h B1 e1)
theorem c_place {n i : Nat} {sz : List Nat} {lst : Nat} {t1 t2 : TE} (hi : σ[i]? = some (some (.ref st))) (hs : st ∈ c.M ∨ c.H st = none) (hn : n + 2 ≤ LIM) (h1 : EvD K c (some (st, n)) ls t1 σ B (.list (sz.map nI))) (h2 : EvD K c (some (st, n)) ls t2 σ B (nI lst)) (hl : sz.length ≤ 1000) :
    EvB K c (some (st, n)) (some (st, n + 2)) ls (tCall (sp_law_place K) [] E0 (tCons (tVar i) (tCons t1 (tCons t2 tNil)))) σ B fun v _ => (v = .non ∧ ∀ s, s ∈ sz → s < lst) ∨ ∃ (i s : Nat), v = .int (i : Int) ∧ sz[i]? = some s ∧ lst ≤ s := c_W1 (a := (sz, lst)) hi hs hn (a_cons h1 (a_cons h2 a_nil)) hl
theorem c_index {n i b : Nat} {t1 : TE} (hi : σ[i]? = some (some (.ref st))) (hs : st ∈ c.M ∨ c.H st = none) (hn : n + 2 ≤ LIM) (h1 : EvD K c (some (st, n)) ls t1 σ B (nI b)) (hb : 1 ≤ b) (hb2 : b ≤ 100000) :
    EvB K c (some (st, n)) (some (st, n + 2)) ls (tCall (sp_law_index K) [] E0 (tCons (tVar i) (tCons t1 tNil))) σ B (ΦN b) := c_W1 (a := b) hi hs hn (a_cons h1 a_nil) ⟨hb, hb2⟩
theorem c_values {n i : Nat} (hi : σ[i]? = some (some (.ref st))) (hs : st ∈ c.M ∨ c.H st = none) (hn : n + 8 ≤ LIM) :
    EvB K c (some (st, n)) (some (st, n + 8)) ls (tCall (sp_law_values K) [] E0 (tCons (tVar i) tNil)) σ B fun v B' => ∃ xs : List Int, 1 ≤ xs.length ∧ xs.length ≤ 6 ∧ Da K B' v (.tuple (xs.map PyData.int)) := c_W1 (a := ()) hi hs hn a_nil trivial
end
/-- a statement as a tuple of data -/
abbrev StP (R : List Row) (ds : List PyData) : Prop := ∃ s, StmOk R s ∧ smS s ∧ ds = .str (wordS s) :: restS s
theorem cl_law_statement (d : Df K mg "_law_statement" s_law_statement) (T : Tx K mg) (c_law_draw : Cl P w K mg base 1 "_law_draw" (sp_law_draw K) []) (c_law_place : Cl P w K mg base 2 "_law_place" (sp_law_place K) []) (c_law_index : Cl P w K mg base 2 "_law_index" (sp_law_index K) []) (c_law_values : Cl P w K mg base 2 "_law_values" (sp_law_values K) []) : Cl P w K mg base 3 "_law_statement" (sp_law_statement K) [] := by
  refine cl_of d sc_law_statement (fun f fd F => F.bindsN fun _ _ _ _ _ _ us hl => match us, hl with | [_, _], _ => rfl) (SpW.len fun _ => rfl) fun cdv f A outer s H vs Q E hr h => ?_
  have hu := hu_of hr
  refine ⟨_, (pss_cons (ps_set (i := 2) sc_law_statement.nd rfl (Or.inl rfl) (pe_cl c_law_draw hr (by decide) rfl (pa_cons (pv 0) (pa_cons pe_int pa_nil))))
      (pss_cons (ps_if (PW.pt (pw_or (pt_cmpR (opEqD K hr.units) (pv 1) (pe_lst pa_nil) (nomark _)) (pw_or1 (pt_cmpR op_eq (pv 2) pe_int (nomark _))))) (pss_cons (ps_set (i := 3) sc_law_statement.nd rfl (Or.inl rfl) (pe_cl c_law_draw hr (by decide) rfl (pa_cons (pv 0) (pa_cons pe_int pa_nil))))
      (pss_one (ps_ret (pe_tup (pa_cons pe_str (pa_cons (pv 3) (pa_cons (pe_op op_add (pv 3) (pe_ix (ixL K) (pe_lst (pa_cons pe_int (pa_cons pe_int (pa_cons pe_int (pa_cons (pe_op op_sub (pe_op op_pow pe_int pe_int) pe_int) pa_nil))))) (pe_cl c_law_draw hr (by decide) rfl (pa_cons (pv 0) (pa_cons pe_int pa_nil))) (fun _ _ => rfl))) pa_nil))))))) pss_nil)
      (pss_cons (ps_set (i := 4) sc_law_statement.nd rfl (Or.inl rfl) (pe_cl c_law_place hr (by decide) rfl (pa_cons (pv 0) (pa_cons (pv 1) (pa_cons (pe_callTy call_int1 (by rfl) T.int (by decide +kernel) (pa_cons (pe_cmpR op_gt (pv 2) pe_int (nomark _)) pa_nil)) pa_nil)))))
      (pss_cons (ps_if (pt_cmpR op_isN (pv 4) pe_non (nomark _)) (pss_one (ps_ret (pe_tup (pa_cons pe_str (pa_cons (pe_cl c_law_place hr (by decide) rfl (pa_cons (pv 0) (pa_cons (pv 1) (pa_cons pe_int pa_nil)))) (pa_cons (pe_cl c_law_values hr (by decide) rfl (pa_cons (pv 0) pa_nil)) pa_nil)))))) pss_nil)
      (pss_cons (ps_set (i := 3) sc_law_statement.nd rfl (Or.inl rfl) (pe_ix (ixL K) (pv 1) (pv 4) (fun _ _ => rfl)))
      (pss_cons (ps_if (pt_cmpR op_lt (pv 2) pe_int (nomark _)) (pss_one (ps_ret (pe_tup (pa_cons (pe_ix (ixL K) (pe_lst (pa_cons pe_str (pa_cons pe_str pa_nil))) (pe_op op_fdivW (pv 2) pe_int) (fun _ _ => rfl)) (pa_cons (pv 4) (pa_cons (pe_cl c_law_values hr (by decide) rfl (pa_cons (pv 0) pa_nil)) pa_nil)))))) pss_nil)
      (pss_cons (ps_if (pt_cmpR op_lt (pv 2) pe_int (nomark _)) (pss_cons (ps_set (i := 5) sc_law_statement.nd rfl (Or.inl rfl) (pe_cl c_law_draw hr (by decide) rfl (pa_cons (pv 0) (pa_cons (pe_op op_add (pv 3) pe_int) pa_nil))))
      (pss_one (ps_ret (pe_tup (pa_cons pe_str (pa_cons (pv 4) (pa_cons (pv 5) (pa_cons (pe_op op_add (pv 5) (pe_cl c_law_draw hr (by decide) rfl (pa_cons (pv 0) (pa_cons (pe_op op_add (pe_op op_sub (pv 3) (pv 5)) pe_int) pa_nil)))) pa_nil)))))))) pss_nil)
      (pss_cons (ps_if (pt_cmpR op_eq (pv 2) pe_int (nomark _)) (pss_one (ps_ret (pe_tup (pa_cons pe_str (pa_cons (pv 4) pa_nil))))) pss_nil)
      (pss_cons (ps_if (pt_cmpR op_lt (pv 2) pe_int (nomark _)) (pss_one (ps_ret (pe_tup (pa_cons pe_str (pa_cons (pv 4) (pa_cons (pe_cl c_law_index hr (by decide) rfl (pa_cons (pv 0) (pa_cons (pv 3) pa_nil))) (pa_cons (pe_op op_sub (pe_cl c_law_draw hr (by decide) rfl (pa_cons (pv 0) (pa_cons (pe_op op_pow pe_int pe_int) pa_nil))) (pe_op op_pow pe_int pe_int)) pa_nil))))))) pss_nil)
      (pss_cons (ps_if (pt_cmpR op_eq (pv 2) pe_int (nomark _)) (pss_cons (ps_set (i := 6) sc_law_statement.nd rfl (Or.inl rfl) (pe_cl c_law_place hr (by decide) rfl (pa_cons (pv 0) (pa_cons (pv 1) (pa_cons pe_int pa_nil)))))
      (pss_cons (ps_set (i := 7) sc_law_statement.nd rfl (Or.inl rfl) (pe_cl c_law_index hr (by decide) rfl (pa_cons (pv 0) (pa_cons (pe_ix (ixL K) (pv 1) (pv 6) (fun _ _ => rfl)) pa_nil))))
      (pss_one (ps_ret (pe_tup (pa_cons pe_str (pa_cons (pv 4) (pa_cons (pe_cl c_law_index hr (by decide) rfl (pa_cons (pv 0) (pa_cons (pv 3) pa_nil))) (pa_cons (pv 6) (pa_cons (pv 7) pa_nil)))))))))) pss_nil)
      (pss_one (ps_ret (pe_tup (pa_cons pe_str (pa_cons (pv 4) (pa_cons (pe_cl c_law_index hr (by decide) rfl (pa_cons (pv 0) (pa_cons (pv 3) pa_nil))) pa_nil)))))))))))))))), ?_⟩
  obtain ⟨B, R, st, n, rest, rfl, e0, dl, pre, dk, hst, hn, q⟩ := h
  have W := Wd.startW (K := K) e0 dk hst
  obtain ⟨v2, r2, rfl, f2, dl⟩ := dl.cons_inv
  cases dl
  obtain ⟨hRl, hRs⟩ := pre
  have hRl : R.length ≤ 1000 := hRl
  have hRs : ∀ r, r ∈ R → r.len ≤ 1000 := hRs
  have hn : n + 20 ≤ 1000000 := hn
  have f2 : Da K B v2 (.list ((R.map (·.len)).map nI)) := by rw [List.map_map]; exact f2
  have hszl : (R.map (·.len)).length ≤ 1000 := by rw [List.length_map]; exact hRl
  have szat : ∀ {i s : Nat}, (R.map (·.len))[i]? = some s → i < R.length ∧ (R.getD i row0).len = s ∧ s ≤ 1000 := fun {i s} h => by
    rw [List.getElem?_map] at h
    cases hr : R[i]? with
    | none =>
      rw [hr] at h
      cases h
    | some r =>
      rw [hr] at h
      cases h
      refine ⟨(List.getElem?_eq_some_iff.mp hr).1, ?_, hRs r (List.mem_of_getElem? hr)⟩
      rw [getD_of hr]
  have ret : ∀ {ta : TA} {dr : Dr} {m : Nat} {σ : L2.St} {B1 H1 : Hp} {D : Ends}, D.rt = Q → m ≤ n + 20 → Wd K ⟨B, H, [st]⟩ dr [] B1 H1 → EaB K ⟨B, H, [st]⟩ dr (some (st, m)) [] ta σ B1 (fun vs B' => ∃ ds, DaL K B' vs ds ∧ StP R ds) → tRet (tTup ta) D σ H1 :=
    fun {ta dr m σ B1 H1 D} hD hm w h => s_retB w (e_tupB h fun ds ⟨s, _, _, e⟩ => by rw [e]; cases s <;> exact Nat.le_of_ble_eq_true rfl) fun v B2 H2 e2 w2 ⟨ds, fv, s, h1, h2, h3⟩ => by
      rw [hD]
      refine w2.backW rfl q hm ⟨s, h1, h2, ?_⟩
      rw [h3] at fv
      exact fv
  have hM : ∀ {x : Addr}, st ∈ [st] ∨ x = x := .inl List.mem_cons_self
  refine q_set W (c_draw (b := 20) rfl (.inl List.mem_cons_self) (by show n + 1 ≤ 1000000; omega) (e_cint (n := ((20 : Nat) : Int))) (by decide) (by decide)) fun vw B1 H1 e1 W1 fw => ?_
  obtain ⟨k, rfl, hk⟩ := fw
  have fk : Da K B1 (.int (k : Int)) (nI k) := .int _
  have first : Et K ⟨B, H, [st]⟩ (some (st, n + 1)) [] (tOr (tTest (tOp (rEqD K) (tVar 1) (tLst tNil))) (tTest (tOp rEq (tVar 2) (tC (.int 19))))) [some (.ref st), some v2, some (.int (k : Int)), none, none, none, none, none] B1 ((R.map (·.len)).isEmpty || decide (k = 19)) :=
    t_or (t_to (t_test (e_eqNil (e_var f2) (plain_nats _))) (by rw [List.isEmpty_map])) fun _ => t_test (e_eqN (b := 19) (e_var fk) e_cint)
  refine q_if W1 first (fun hb B2 H2 e2 W2 => ?_) fun hb B2 H2 e2 W2 => ?_
  · refine q_set W2 (c_draw (b := 4) rfl (.inl List.mem_cons_self) (by show n + 1 + 1 ≤ 1000000; omega) (e_cint (n := ((4 : Nat) : Int))) (by decide) (by decide)) fun vs B3 H3 e3 W3 fs => ?_
    obtain ⟨l, rfl, hl⟩ := fs
    have fl : Da K B3 (.int (l : Int)) (nI l) := .int _
    refine ret (m := n + 1 + 1 + 1) rfl (by omega) W3 (a_consB (Φ := fun v B' => Da K B' v (.str "make")) e_cstr fun va B4 e4 fa => a_consB (Φ := fun v B' => Da K B' v (nI l)) (e_var fl) fun vb B5 e5 fb => a_consB (Φ := fun v B' => ∃ z : Nat, Da K B' v (nI (l + z)))
      (EvB.imp (i_ii (P := fun i => i = (l : Int)) (P' := fun i => ∃ z : Nat, i = (z : Int)) (R := fun i => ∃ z : Nat, i = ((l + z : Nat) : Int)) (i_D (e_var fl) rfl) (x_ixL (ds := [nI 0, nI 0, nI 1, nI (10 ^ 30 - 3)]) (P := fun i => ∃ k : Nat, i = k ∧ k < 4)
        (EvN.data (l_lst (a_cons e_cint (a_cons e_cint (a_cons e_cint (a_cons (EvB.to (e_ii (e_iiC e_cint e_cint ⟨by decide, by decide, by decide⟩) e_cint) (congrArg PyData.int big30)) a_nil)))) lk))
        (EvB.toI (b := 4) (c_draw rfl (.inl List.mem_cons_self) (by show n + 1 + 1 + 1 ≤ 1000000; omega) (e_cint (n := ((4 : Nat) : Int))) (by decide) (by decide)) fun k hk => ⟨k, rfl, hk⟩) ?_) ?_) fun v B6 e6 hv => ?_) fun vc B6 e6 fc => a_end fun B7 e7 => ?_)
    · rintro i ⟨j, rfl, hj⟩
      match j, hj with
      | 0, _ => exact ⟨nI 0, rfl, fun v B' fv => ⟨((0 : Nat) : Int), fv.int_eq, 0, rfl⟩⟩
      | 1, _ => exact ⟨nI 0, rfl, fun v B' fv => ⟨((0 : Nat) : Int), fv.int_eq, 0, rfl⟩⟩
      | 2, _ => exact ⟨nI 1, rfl, fun v B' fv => ⟨((1 : Nat) : Int), fv.int_eq, 1, rfl⟩⟩
      | 3, _ => exact ⟨nI (10 ^ 30 - 3), rfl, fun v B' fv => ⟨((10 ^ 30 - 3 : Nat) : Int), fv.int_eq, _, rfl⟩⟩
    · rintro i j rfl ⟨z, rfl⟩
      exact ⟨z, by omega⟩
    · obtain ⟨i, rfl, z, rfl⟩ := hv
      exact ⟨z, .int _⟩
    · obtain ⟨z, fz⟩ := fc
      exact ⟨_, .cons (fa.mono (((e5.trans e6)).trans e7)) (.cons (fb.mono (e6.trans e7)) (.cons (fz.mono e7) .nil)), .make l (l + z), Nat.le_add_right _ _, by show l ≤ 10; omega, rfl⟩
  · have hne : R ≠ [] := fun z => by
      rw [z] at hb
      cases hb
    have hk19 : k ≠ 19 := fun z => by
      rw [z, decide_eq_true rfl, Bool.or_true] at hb
      cases hb
    have el : ∀ {dr : Dr} {σ : L2.St} {B' : Hp}, Ex B1 B' → σ[2]? = some (some (.int (k : Int))) → EvD K ⟨B, H, [st]⟩ dr [] (tCB (fun xs H Q => (∃ i, xs = [.int i] ∧ Q (.int i) H) ∨ ∃ k, xs = [.bl k] ∧ Q (.int (if k then 1 else 0)) H) (tCons (tOp (rI0 fun i j => .bl (decide (j < i))) (tVar 2) (tC (.int 12))) tNil)) σ B' (nI (if 12 < k then 1 else 0)) := fun {dr σ B'} ex h2 =>
      EvB.to (e_intB (e_gtN (b := 12) (e_var fk h2 ex) e_cint)) (by by_cases z : 12 < k; rw [decide_eq_true z, if_pos z]; rfl; rw [decide_eq_false z, if_neg z]; rfl)
    refine q_set W2 (c_place (sz := R.map (·.len)) (lst := if 12 < k then 1 else 0) rfl (.inl List.mem_cons_self) (by show n + 1 + 2 ≤ 1000000; omega) (e_var f2) (el e2 rfl) hszl) fun vv B3 H3 e3 W3 fv => ?_
    rcases fv with ⟨rfl, hno⟩ | ⟨i, sz, rfl, hsz, hle⟩
    · refine q_ifT W3 (t_to (t_test (e_opIsN (d := .none) (e_var (Da.non (K := K) (H := B3))))) rfl) fun B4 H4 e4 W4 => ?_
      refine ret (m := n + 1 + 2 + 2 + 8) rfl (by omega) W4 (a_consB (Φ := fun v B' => Da K B' v (.str "append")) e_cstr fun va B5 e5 fa => a_consB (c_place (sz := R.map (·.len)) (lst := 0) rfl (.inl List.mem_cons_self) (by show n + 1 + 2 + 2 ≤ 1000000; omega) (e_var f2) (e_cint (n := ((0 : Nat) : Int))) hszl) fun vb B6 e6 fb => a_consB (c_values rfl (.inl List.mem_cons_self) (by show n + 1 + 2 + 2 + 8 ≤ 1000000; omega)) fun vc B7 e7 fc => a_end fun B8 e8 => ?_)
      obtain ⟨xs, x1, x2, fx⟩ := fc
      rcases fb with ⟨_, hz⟩ | ⟨i, s, rfl, hs, _⟩
      · cases R with
        | nil => exact absurd rfl hne
        | cons r R => exact absurd (hz r.len (by rw [List.map_cons]; exact List.mem_cons_self)) (Nat.not_lt_zero _)
      · exact ⟨_, .cons (fa.mono ((e6.trans e7).trans e8)) (.cons (.int _) (.cons (fx.mono e8) .nil)), .app false i xs, ⟨(szat hs).1, x1⟩, by show xs.length ≤ 10; omega, rfl⟩
    · obtain ⟨hi, hlen, hs1000⟩ := szat hsz
      have fi : Da K B3 (.int (i : Int)) (nI i) := .int _
      refine q_ifF W3 (t_to (t_test (e_opIsN (e_var fi))) rfl) fun B4 H4 e4 W4 => ?_
      refine q_set W4 (e_atL (f := nI) (e_var f2) (e_var fi) hsz) fun vz B5 H5 e5 W5 fz => ?_
      have lt : ∀ {ls : Ls} {m : Nat} {dr : Dr} {σ : L2.St} {B' : Hp}, Ex B1 B' → σ[2]? = some (some (.int (k : Int))) → EvD K ⟨B, H, [st]⟩ dr ls (tOp (rI0 fun i j => .bl (decide (i < j))) (tVar 2) (tC (.int ((m : Nat) : Int)))) σ B' (.bool (decide (k < m))) := fun ex h2 => e_ltN (e_var fk h2 ex) e_cint
      by_cases h10 : k < 10
      · refine q_ifT W5 (t_to (t_test (e_ltN (b := 10) (e_var fk) e_cint)) (decide_eq_true h10)) fun B6 H6 e6 W6 => ?_
        have hg : ∃ g : Bool, atI [PyData.str "append", PyData.str "grow"] (((k : Nat) : Int) / 9) = some (.str (if g then "grow" else "append")) := by
          by_cases z : k < 9
          · have : ((k : Nat) : Int) / 9 = 0 := by omega
            rw [this]
            exact ⟨false, rfl⟩
          · have : ((k : Nat) : Int) / 9 = 1 := by omega
            rw [this]
            exact ⟨true, rfl⟩
        obtain ⟨g, hg⟩ := hg
        refine ret (m := n + 1 + 2 + 8) rfl (by omega) W6 (a_consB (Φ := fun v B' => Da K B' v (.str (if g then "grow" else "append"))) (e_ixL (EvN.data (l_lst (a_cons e_cstr (a_cons e_cstr a_nil)) lk)) (e_iiC (e_var fk) e_cint (wide_div (b := 10) (by decide) (by decide) (by decide) (by decide))) hg) fun va B7 e7 fa => a_consB (Φ := fun v B' => Da K B' v (nI i)) (e_var fi) fun vb B8 e8 fb => a_consB (c_values rfl (.inl List.mem_cons_self) (by show n + 1 + 2 + 8 ≤ 1000000; omega)) fun vc B9 e9 fc => a_end fun B10 e10 => ?_)
        obtain ⟨xs, x1, x2, fx⟩ := fc
        exact ⟨_, .cons (fa.mono ((e8.trans e9).trans e10)) (.cons (fb.mono (e9.trans e10)) (.cons (fx.mono e10) .nil)), .app g i xs, ⟨hi, x1⟩, by show xs.length ≤ 10; omega, rfl⟩
      · refine q_ifF W5 (t_to (t_test (e_ltN (b := 10) (e_var fk) e_cint)) (decide_eq_false h10)) fun B6 H6 e6 W6 => ?_
        by_cases h12 : k < 12
        · refine q_ifT W6 (t_to (t_test (e_ltN (b := 12) (e_var fk) e_cint)) (decide_eq_true h12)) fun B7 H7 e7 W7 => ?_
          refine q_set W7 (c_draw (b := sz + 1) rfl (.inl List.mem_cons_self) (by show n + 1 + 2 + 1 ≤ 1000000; omega) (e_addN (e_var fz) (e_cint (n := ((1 : Nat) : Int)))) (by omega) (by omega)) fun vlo B8 H8 e8 W8 flo => ?_
          obtain ⟨lo, rfl, hlo⟩ := flo
          have flo : Da K B8 (.int (lo : Int)) (nI lo) := .int _
          refine ret (m := n + 1 + 2 + 1 + 1) rfl (by omega) W8 (a_consB (Φ := fun v B' => Da K B' v (.str "slice")) e_cstr fun va B9 e9 fa => a_consB (Φ := fun v B' => Da K B' v (nI i)) (e_var fi) fun vb B10 e10 fb => a_consB (Φ := fun v B' => Da K B' v (nI lo)) (e_var flo) fun vc B11 e11 fc =>
            a_consB (Φ := fun v B' => ∃ z : Nat, z < sz - lo + 1 ∧ v = .int ((lo + z : Nat) : Int)) (EvB.imp (i_ii (P := fun j => j = (lo : Int)) (P' := fun j => ∃ z : Nat, z < sz - lo + 1 ∧ j = (z : Int)) (R := fun j => ∃ z : Nat, z < sz - lo + 1 ∧ j = ((lo + z : Nat) : Int)) (i_D (e_var flo) rfl)
              (EvB.toI (b := sz - lo + 1) (c_draw rfl (.inl List.mem_cons_self) (by show n + 1 + 2 + 1 + 1 ≤ 1000000; omega) (e_addN (e_subN (e_var fz) (e_var flo) (by omega)) (e_cint (n := ((1 : Nat) : Int)))) (by omega) (by omega)) fun z hz => ⟨z, hz, rfl⟩) ?_) fun v B12 e12 hv => ?_) fun vd B12 e12 fd => a_end fun B13 e13 => ?_)
          · rintro a b rfl ⟨z, hz, rfl⟩
            exact ⟨z, hz, by omega⟩
          · obtain ⟨j, rfl, z, hz, rfl⟩ := hv
            exact ⟨z, hz, rfl⟩
          · obtain ⟨z, hz, rfl⟩ := fd
            exact ⟨_, .cons (fa.mono (((e10.trans e11).trans e12).trans e13)) (.cons (fb.mono ((e11.trans e12).trans e13)) (.cons (fc.mono (e12.trans e13)) (.cons (.int _) .nil))), .slice i lo (lo + z), ⟨hi, Nat.le_add_right _ _, by rw [hlen]; omega⟩, trivial, rfl⟩
        · refine q_ifF W6 (t_to (t_test (e_ltN (b := 12) (e_var fk) e_cint)) (decide_eq_false h12)) fun B7 H7 e7 W7 => ?_
          by_cases he12 : k = 12
          · refine q_ifT W7 (t_to (t_test (e_eqN (b := 12) (e_var fk) e_cint)) (decide_eq_true he12)) fun B8 H8 e8 W8 => ?_
            refine ret (m := n + 1 + 2) rfl (by omega) W8 (a_consB (Φ := fun v B' => Da K B' v (.str "clip")) e_cstr fun va B9 e9 fa => a_consB (Φ := fun v B' => Da K B' v (nI i)) (e_var fi) fun vb B10 e10 fb => a_end fun B11 e11 => ?_)
            exact ⟨_, .cons (fa.mono (e10.trans e11)) (.cons (fb.mono e11) .nil), .clip i, hi, trivial, rfl⟩
          · refine q_ifF W7 (t_to (t_test (e_eqN (b := 12) (e_var fk) e_cint)) (decide_eq_false he12)) fun B8 H8 e8 W8 => ?_
            have hsz1 : 1 ≤ sz := by
              rw [if_pos (by omega)] at hle
              exact hle
            by_cases h15 : k < 15
            · refine q_ifT W8 (t_to (t_test (e_ltN (b := 15) (e_var fk) e_cint)) (decide_eq_true h15)) fun B9 H9 e9 W9 => ?_
              refine ret (m := n + 1 + 2 + 2 + 1) rfl (by omega) W9 (a_consB (Φ := fun v B' => Da K B' v (.str "write")) e_cstr fun va B10 e10 fa => a_consB (Φ := fun v B' => Da K B' v (nI i)) (e_var fi) fun vb B11 e11 fb => a_consB (c_index (b := sz) rfl (.inl List.mem_cons_self) (by show n + 1 + 2 + 2 ≤ 1000000; omega) (e_var fz) hsz1 (by omega)) fun vc B12 e12 fc =>
                a_consB (Φ := fun v _ => ∃ x : Int, v = .int x) (EvB.imp (i_ii (P := fun _ => True) (P' := fun _ => True) (R := fun _ => True) (EvB.toI (b := 10 ^ 30) (c_draw rfl (.inl List.mem_cons_self) (by show n + 1 + 2 + 2 + 1 ≤ 1000000; omega) (EvB.to (d1 := nI (10 ^ 30)) (e_iiC e_cint e_cint ⟨by decide, by decide, by decide⟩) (congrArg PyData.int big30')) (by decide) (by decide)) fun _ _ => trivial)
                  (i_D (e_iiC e_cint e_cint ⟨by decide, by decide, by decide⟩) trivial) fun _ _ _ _ => trivial) fun v B13 e13 hv => ⟨hv.choose, hv.choose_spec.1⟩) fun vd B13 e13 fd => a_end fun B14 e14 => ?_)
              obtain ⟨m, rfl, hm⟩ := fc
              obtain ⟨x, rfl⟩ := fd
              exact ⟨_, .cons (fa.mono (((e11.trans e12).trans e13).trans e14)) (.cons (fb.mono ((e12.trans e13).trans e14)) (.cons (.int _) (.cons (.int _) .nil))), .write i m x, ⟨hi, by rw [hlen]; exact hm⟩, trivial, rfl⟩
            · refine q_ifF W8 (t_to (t_test (e_ltN (b := 15) (e_var fk) e_cint)) (decide_eq_false h15)) fun B9 H9 e9 W9 => ?_
              by_cases he15 : k = 15
              · refine q_ifT W9 (t_to (t_test (e_eqN (b := 15) (e_var fk) e_cint)) (decide_eq_true he15)) fun B10 H10 e10 W10 => ?_
                refine q_set W10 (c_place (sz := R.map (·.len)) (lst := 1) rfl (.inl List.mem_cons_self) (by show n + 1 + 2 + 2 ≤ 1000000; omega) (e_var f2) (e_cint (n := ((1 : Nat) : Int))) hszl) fun vo B11 H11 e11 W11 fo => ?_
                rcases fo with ⟨_, hz⟩ | ⟨j, sz2, rfl, hsz2, hle2⟩
                · exact absurd (hz sz (List.mem_of_getElem? hsz)) (by omega)
                · obtain ⟨hj, hlen2, hs2⟩ := szat hsz2
                  have fj : Da K B11 (.int (j : Int)) (nI j) := .int _
                  refine q_set W11 (c_index (b := sz2) rfl (.inl List.mem_cons_self) (by show n + 1 + 2 + 2 + 2 ≤ 1000000; omega) (e_atL (f := nI) (e_var f2) (e_var fj) hsz2) hle2 (by omega)) fun vq B12 H12 e12 W12 fq => ?_
                  obtain ⟨m2, rfl, hm2⟩ := fq
                  have fm2 : Da K B12 (.int (m2 : Int)) (nI m2) := .int _
                  refine ret (m := n + 1 + 2 + 2 + 2 + 2) rfl (by omega) W12 (a_consB (Φ := fun v B' => Da K B' v (.str "move")) e_cstr fun va B13 e13 fa => a_consB (Φ := fun v B' => Da K B' v (nI i)) (e_var fi) fun vb B14 e14 fb => a_consB (c_index (b := sz) rfl (.inl List.mem_cons_self) (by show n + 1 + 2 + 2 + 2 + 2 ≤ 1000000; omega) (e_var fz) hsz1 (by omega)) fun vc B15 e15 fc =>
                    a_consB (Φ := fun v B' => Da K B' v (nI j)) (e_var fj) fun vd B16 e16 fd => a_consB (Φ := fun v B' => Da K B' v (nI m2)) (e_var fm2) fun ve B17 e17 fe => a_end fun B18 e18 => ?_)
                  obtain ⟨m, rfl, hm⟩ := fc
                  exact ⟨_, .cons (fa.mono ((((e14.trans e15).trans e16).trans e17).trans e18)) (.cons (fb.mono (((e15.trans e16).trans e17).trans e18)) (.cons (.int _) (.cons (fd.mono (e17.trans e18)) (.cons (fe.mono e18) .nil)))), .move i m j m2, ⟨⟨hi, by rw [hlen]; exact hm⟩, hj, by rw [hlen2]; exact hm2⟩, trivial, rfl⟩
              · refine q_ifF W9 (t_to (t_test (e_eqN (b := 15) (e_var fk) e_cint)) (decide_eq_false he15)) fun B10 H10 e10 W10 => ?_
                refine ret (m := n + 1 + 2 + 2) rfl (by omega) W10 (a_consB (Φ := fun v B' => Da K B' v (.str "read")) e_cstr fun va B11 e11 fa => a_consB (Φ := fun v B' => Da K B' v (nI i)) (e_var fi) fun vb B12 e12 fb => a_consB (c_index (b := sz) rfl (.inl List.mem_cons_self) (by show n + 1 + 2 + 2 ≤ 1000000; omega) (e_var fz) hsz1 (by omega)) fun vc B13 e13 fc => a_end fun B14 e14 => ?_)
                obtain ⟨m, rfl, hm⟩ := fc
                exact ⟨_, .cons (fa.mono ((e12.trans e13).trans e14)) (.cons (fb.mono (e13.trans e14)) (.cons (.int _) .nil)), .read i m, ⟨hi, by rw [hlen]; exact hm⟩, trivial, rfl⟩
end GB
namespace GB
open PySem PySem.Spec PyProof.Rows L2
open Evl (Ex)
variable {P : Program} {w : World} {K : PySem.W.Frag} {mg : Str → Option Value} {base : Heap}

/-! code, start -/
theorem rowsN_app {p : Prog} {s : Stm} : ∀ n, n ≤ p.length → rowsN (p ++ [s]) n = rowsN p n
  | 0, _ => rfl
  | n + 1, h => by
    have hp : p[n]? = some p[n] := List.getElem?_eq_getElem h
    have hq : (p ++ [s])[n]? = some p[n] := by rw [List.getElem?_append_left h]; exact hp
    rw [rowsN_succ hp, rowsN_succ hq, rowsN_app n (by omega)]
theorem valid_snoc {p : Prog} {s : Stm} (h : Valid p) (hs : StmOk (rows p) s) : Valid (p ++ [s]) := fun n t ht => by
  by_cases l : n < p.length
  · rw [List.getElem?_append_left l] at ht
    rw [rowsN_app n (by omega)]
    exact h n t ht
  · rw [List.getElem?_append_right (by omega)] at ht
    have h0 : n - p.length = 0 := by
      by_cases z : n - p.length = 0
      · exact z
      · rw [List.getElem?_eq_none (by simp; omega)] at ht
        cases ht
    rw [h0] at ht
    cases ht
    have : n = p.length := by omega
    rw [this, rowsN_app p.length (Nat.le_refl _)]
    exact hs
/-- a program under way -/
structure Pre (p : Prog) (n : Nat) : Prop where
  ok : Valid p
  len : p.length ≤ n
  sm : ∀ (k : Nat) (s : Stm), p[k]? = some s → smS s
theorem Pre.snoc {p : Prog} {s : Stm} {n : Nat} (h : Pre p n) (h1 : StmOk (rows p) s) (h2 : smS s) : Pre (p ++ [s]) (n + 1) := by
  refine ⟨valid_snoc h.ok h1, by rw [List.length_append]; have := h.len; simp; omega, fun k t ht => ?_⟩
  by_cases l : k < p.length
  · rw [List.getElem?_append_left l] at ht
    exact h.sm k t ht
  · rw [List.getElem?_append_right (by omega)] at ht
    have h0 : k - p.length = 0 := by
      by_cases z : k - p.length = 0
      · exact z
      · rw [List.getElem?_eq_none (by simp; omega)] at ht
        cases ht
    rw [h0] at ht
    cases ht
    exact h2
theorem Pre.up {p : Prog} {n m : Nat} (h : Pre p n) (l : n ≤ m) : Pre p m := ⟨h.ok, Nat.le_trans h.len l, h.sm⟩
theorem Pre.lens {p : Prog} {n : Nat} (h : Pre p n) (hn : n ≤ 40) : (rows p).length ≤ 1000 ∧ ∀ r, r ∈ rows p → r.len ≤ 1000 := by
  refine ⟨Nat.le_trans (rowsN_le_len p p.length) (by have := h.len; omega), fun r hr => ?_⟩
  have h1 := rows_small h.ok h.sm p.length r hr
  have := h.len
  omega
section
variable {c : Ent} {dr dr1 dr2 dr' : Dr} {ls : Ls} {σ : L2.St} {B B' H H' : Hp} {ta tb te tx : TE} {t : TA} {Φ Ψ : V → Hp → Prop} {d : PyData} {ds es : List PyData} {st p : Addr} {vs : List V}
theorem q_appR {D : Ends} {tz : TS} {i : Nat} {P : PyData → Prop} (w : Wd K c dr ((p, .l ds) :: ls) B H) (h0 : c.H p = none ∨ p ∈ c.M) (h : EvB K c dr dr' ((p, .l ds) :: ls) te σ B fun v B' => ∃ d, Da K B' v d ∧ P d) (hl : ds.length < 100000)
    (k : ∀ d B1 H1, Ex B B1 → P d → Wd K c dr' ((p, .l (ds ++ [d])) :: ls) B1 H1 → tz D σ H1) (hi : σ[i]? = some (some (.ref p)) := by rfl) : tSeq (tDrop (tBM K "list" rAppend (tVar i) (tCons te tNil))) tz D σ H := by
  obtain ⟨_, vs, hH, _⟩ := w.own
  refine ⟨.ref p, hi, Or.inl ⟨rfl, vs, SqL.of hH⟩, h B H (Ex.refl _) w _ fun v B1 H1 e1 w1 ⟨d, fd, hp⟩ => ?_⟩
  obtain ⟨_, ws, hW, hd⟩ := w1.own
  exact ⟨p, ws, v, rfl, rfl, hW, Nat.lt_of_lt_of_le (by rw [hd.len]; exact hl) (by decide), k d B1 _ e1 hp (w1.set ⟨ws ++ [v], upd_same, hd.app (.one fd)⟩ h0)⟩
theorem s_appR {D : Ends} {i : Nat} {P : PyData → Prop} (w : Wd K c dr ((p, .l ds) :: ls) B H) (h0 : c.H p = none ∨ p ∈ c.M) (h : EvB K c dr dr' ((p, .l ds) :: ls) te σ B fun v B' => ∃ d, Da K B' v d ∧ P d) (hl : ds.length < 100000)
    (k : ∀ d B1 H1, Ex B B1 → P d → Wd K c dr' ((p, .l (ds ++ [d])) :: ls) B1 H1 → D.nx σ H1) (hi : σ[i]? = some (some (.ref p)) := by rfl) : tDrop (tBM K "list" rAppend (tVar i) (tCons te tNil)) D σ H := q_appR (tz := fun D => D.nx) w h0 h hl k hi
/-- for .. in range(n), n told by a property -/
theorem q_forN {D : Ends} {tz tb : TS} {g : TG} {P : Int → Prop} (w : Wd K c dr ls B H) (h : EvI K c dr dr' ls te σ B P) (k : ∀ n B1 H1, Ex B B1 → P n → Wd K c dr' ls B1 H1 → tSeq (tFor (iRng1 (tCons (tC (.int n)) tNil)) g tb) tz D σ H1) : tSeq (tFor (iRng1 (tCons te tNil)) g tb) tz D σ H :=
  h B H (Ex.refl _) w _ fun v B1 H1 e1 w1 ⟨n, hv, hp⟩ => by
    subst hv
    exact k n B1 H1 e1 hp w1
end
theorem cl_law_code (d : Df K mg "_law_code" s_law_code) (T : Tx K mg) (c_law_place : Cl P w K mg base 2 "_law_place" (sp_law_place K) []) (c_law_draw : Cl P w K mg base 1 "_law_draw" (sp_law_draw K) []) (c_law_statement : Cl P w K mg base 3 "_law_statement" (sp_law_statement K) []) (c_law_rows : Cl P w K mg base 1 "_law_rows" (sp_law_rows K) []) (c_law_index : Cl P w K mg base 2 "_law_index" (sp_law_index K) []) : Cl P w K mg base 4 "_law_code" (sp_law_code K) [] := by
  refine cl_of d sc_law_code (fun f fd F => F.bindsN fun _ _ _ _ _ _ us hl => match us, hl with | [_, _], _ => rfl) (SpW.len fun _ => rfl) fun cdv f A outer s H vs Q E hr h => ?_
  have hu := hu_of hr
  refine ⟨_, (pss_cons (ps_set (i := 2) sc_law_code.nd rfl (Or.inl rfl) (pe_lst pa_nil))
      (pss_cons (ps_for PassesOwn.never rfl (pi_range1 (by rfl) T.range (pa_cons (pe_op op_add pe_int (pe_cl c_law_draw hr (by decide) rfl (pa_cons (pv 0) (pa_cons (pe_op op_sub (pv 1) pe_int) pa_nil)))) pa_nil)) (pg_name (i := 3) sc_law_code.nd rfl (Or.inl rfl)) (pss_one (ps_expr (pe_bm PySem.F.plainAttrs_list PySem.F.slot_list_append PySem.F.type_list_append mt_append (pv 2) (pa_cons (pe_cl c_law_statement hr (by decide) rfl (pa_cons (pv 0) (pa_cons (pe_lc (own := [("_law_row", 6)]) (by rfl) sc_law_code.nd (pi_list (pe_cl c_law_rows hr (by decide) rfl (pa_cons (pv 2) pa_nil))) (blkOk_by (own := [("_law_row", 6)]) (N := N_law_code) (sc := defScope s_law_code) (by decide +kernel)) (fun _ _ _ _ _ => (pg_name (i := 6) sc_law_code.nd rfl (Or.inl rfl))) (fun _ _ _ _ _ => pts_nil) (fun _ _ _ _ _ => (pe_ix (ixT K) (pv 6) pe_int (fun _ _ => rfl)))) pa_nil))) pa_nil)))))
      (pss_cons (ps_setLc (i := 4) (own := [("_law_row", 6)]) rfl sc_law_code.nd rfl rfl (sw_true rfl rfl rfl (by decide +kernel)) (pi_list (pe_cl c_law_rows hr (by decide) rfl (pa_cons (pv 2) pa_nil))) (blkOk_by (own := [("_law_row", 6)]) (N := N_law_code) (sc := defScope s_law_code) (by decide +kernel)) (fun _ _ _ _ _ => (pg_name (i := 6) sc_law_code.nd rfl (Or.inl rfl))) (fun _ _ _ _ _ => pts_nil) (fun _ _ _ _ _ => (pe_ix (ixT K) (pv 6) pe_int (fun _ _ => rfl))))
      (pss_cons (ps_for PassesOwn.never rfl (pi_range1 (by rfl) T.range (pa_cons (pe_op op_add pe_int (pe_cl c_law_draw hr (by decide) rfl (pa_cons (pv 0) (pa_cons pe_int pa_nil)))) pa_nil)) (pg_name (i := 3) sc_law_code.nd rfl (Or.inl rfl)) (pss_cons (ps_set (i := 5) sc_law_code.nd rfl (Or.inl rfl) (pe_cl c_law_place hr (by decide) rfl (pa_cons (pv 0) (pa_cons (pv 4) (pa_cons pe_int pa_nil)))))
      (pss_one (ps_if (pt_cmpR op_notN (pv 5) pe_non (nomark _)) (pss_one (ps_expr (pe_bm PySem.F.plainAttrs_list PySem.F.slot_list_append PySem.F.type_list_append mt_append (pv 2) (pa_cons (pe_tup (pa_cons pe_str (pa_cons (pv 5) (pa_cons (pe_cl c_law_index hr (by decide) rfl (pa_cons (pv 0) (pa_cons (pe_ix (ixL K) (pv 4) (pv 5) (fun _ _ => rfl)) pa_nil))) pa_nil)))) pa_nil)))) pss_nil))))
      (pss_one (ps_ret (pe_callTy call_tuple_of (by rfl) T.tuple (by decide +kernel) (pa_cons (pv 2) pa_nil)))))))), ?_⟩
  obtain ⟨B, a, st, n, rest, rfl, e0, dl, pre, dk, hst, hn, q⟩ := h
  have W := Wd.startW (K := K) e0 dk hst
  obtain ⟨v2, r2, rfl, f2, dl⟩ := dl.cons_inv
  cases dl
  have hn : n + 700 ≤ 1000000 := hn
  have f2 : Da K B v2 (.int 24) := f2
  have rowsL : ∀ {p : Prog} {m : Nat} {dr : Dr} {ls : Ls} {p1 : Addr} {σ : L2.St} {B' : Hp}, Pre p m → m ≤ 40 → σ.length = 7 → σ[2]? = some (some (.ref p1)) →
      EvL K ⟨B, H, [st]⟩ dr ((p1, .l (p.map dStm)) :: ls) (tLc (iList K (tCall (sp_law_rows K) [] E0 (tCons (tVar 2) tNil))) (gName 6) tYes (tOp (rIxT K) (tVar 6) (tC (.int 3))) [6]) σ B' ((rows p).map fun r => nI r.len) := fun {p m dr ls p1 σ B'} hp hm hsl h2 => by
    have hl := hp.lens hm
    refine EvN.imp (l_lc (n := ((rows p).map dRow).length) (f := fun i => ((rows p).map dRow).getD i .none) (fun _ => true) (fun i => nI ((rows p).getD i row0).len) (i_list (EvN.data (c_NF (a := (p, false)) (f_ref f_nil h2) ⟨hp.ok, by have := hp.len; show p.length ≤ 1000; omega⟩ (by rintro es rfl; exact flat_map flat_row _)))) (by rw [List.length_map]; omega) ?_) fun ds hd => ?_
    · intro i x D acc B5 H5 hi e5 i5 fx R k
      have hi' : i < nv p := by rw [List.length_map] at hi; exact hi
      have fx : Da K B5 x (.tuple [nI (vst p i), dO (vpar p i), nI (vstart p i), nI (vlen p i)]) := by
        have e := getD_map (f := dRow) (row_at hi')
        have fx : Da K B5 x (((rows p).map dRow).getD i .none) := fx
        rw [e] at fx
        exact fx
      refine k _ ?_ t_yes fun _ => e_ixT (e_var fx ?_) e_cint rfl
      · show (((σ.set 6 none).set 6 (some x)).set 6 none) = σ.set 6 none
        rw [List.set_set, List.set_set]
      · show ((σ.set 6 none).set 6 (some x))[6]? = _
        rw [List.getElem?_set_self (by rw [List.length_set, hsl]; decide)]
    · rw [hd, List.length_map]
      have h := given_filter (rows p) row0 (fun _ => true) (fun r => nI r.len)
      rw [List.filter_eq_self.mpr fun _ _ => rfl] at h
      exact h
  refine q_setN W (l_lst a_nil lk) fun p1 ds B1 H1 e1 h1 W1 hd => ?_
  subst hd
  refine q_forN (P := fun i => 2 ≤ i ∧ i ≤ 24) W1 (i_ii (P := fun i => i = 2) (P' := fun i => 0 ≤ i ∧ i < 23) (i_D e_cint rfl) (EvB.toI (b := 23) (c_draw rfl (.inl List.mem_cons_self) (by show n + 1 ≤ 1000000; omega) (EvB.to (d1 := nI 23) (e_ii (e_var f2) e_cint) rfl) (by decide) (by decide)) fun k hk => ⟨by omega, by omega⟩) (by rintro i j rfl ⟨h1, h2⟩; omega)) fun m B2 H2 e2 hm W2 => ?_
  refine q_for W2 (i_rng1 (a_cons e_cint a_nil) (by omega) (by omega)) (fun i σ B' H' => ∃ a b c d p, σ = [some (.ref st), some v2, some (.ref p1), a, b, c, d] ∧ Pre p i ∧ Wd K ⟨B, H, [st]⟩ (some (st, n + 1 + 20 * i)) [(p1, .l (p.map dStm))] B' H')
    (fun B3 H3 e3 W3 => ⟨_, _, _, _, [], rfl, ⟨fun k s h => by simp at h, Nat.zero_le _, fun k s h => by simp at h⟩, W3⟩) (fun i σ' B' H' iv => by obtain ⟨_, _, _, _, _, _, _, h⟩ := iv; exact h.inn) ?_ ?_
  · rintro i x σ' B0 B3 H3 B4 H4 hi e3 e4 ⟨xa, xb, xc, xd, p, rfl, hp, W3⟩ e5 up fx
    have W4 := up _ _ W3
    have hi : i < 24 := by omega
    have hl := hp.lens (by omega)
    refine g_name ?_
    refine s_appR (P := fun d => ∃ s, StmOk (rows p) s ∧ smS s ∧ d = dStm s) W4 (.inl h1) (EvB.imp (c_W1 (a := rows p) rfl (.inl List.mem_cons_self) (by show n + 1 + 20 * i + 20 ≤ 1000000; omega) (a_cons (EvN.data (rowsL hp (by omega) rfl rfl)) a_nil) hl) fun v B5 e6 hv => ?_) (by rw [List.length_map]; have := hp.len; omega) fun d B5 H5 e6 hd W5 => ?_
    · obtain ⟨s, h1, h2, h3⟩ := hv
      exact ⟨_, h3, s, h1, h2, rfl⟩
    · obtain ⟨s, s1, s2, rfl⟩ := hd
      refine ⟨B5, (e4.trans e5).trans e6, _, _, _, _, p ++ [s], rfl, hp.snoc s1 s2, ?_⟩
      rw [List.map_append]
      exact W5
  · rintro σ' B3 H3 e3 ⟨xa, xb, xc, xd, p, rfl, hp, W3⟩
    have hm24 : m.toNat ≤ 24 := by omega
    have hp : Pre p 24 := hp.up hm24
    have W3 := W3.up (m := n + 1 + 480) (by omega)
    have hl := hp.lens (by decide)
    have hszl : ((rows p).map (·.len)).length ≤ 1000 := by rw [List.length_map]; exact hl.1
    refine q_set W3 (EvB.to (d1 := .list (((rows p).map (·.len)).map nI)) (EvN.data (rowsL hp (by decide) rfl rfl)) (by rw [List.map_map]; rfl)) fun vz B4 H4 e4 W4 fz => ?_
    refine q_forN (P := fun i => 1 ≤ i ∧ i ≤ 3) W4 (i_ii (P := fun i => i = 1) (P' := fun i => 0 ≤ i ∧ i < 3) (i_D e_cint rfl) (EvB.toI (b := 3) (c_draw rfl (.inl List.mem_cons_self) (by show n + 1 + 480 + 1 ≤ 1000000; omega) (e_cint (n := ((3 : Nat) : Int))) (by decide) (by decide)) fun k hk => ⟨by omega, by omega⟩) (by rintro i j rfl ⟨h1, h2⟩; omega)) fun m2 B5 H5 e5 hm2 W5 => ?_
    refine q_for W5 (i_rng1 (a_cons e_cint a_nil) (by omega) (by omega)) (fun i σ B' H' => ∃ a b c p', σ = [some (.ref st), some v2, some (.ref p1), a, some vz, b, c] ∧ Pre p' (24 + i) ∧ rows p' = rows p ∧ Wd K ⟨B, H, [st]⟩ (some (st, n + 1 + 480 + 1 + 4 * i)) [(p1, .l (p'.map dStm))] B' H')
      (fun B6 H6 e6 W6 => ⟨_, _, _, p, rfl, hp, rfl, W6⟩) (fun i σ' B' H' iv => by obtain ⟨_, _, _, _, _, _, _, h⟩ := iv; exact h.inn) ?_ ?_
    · rintro i x σ' B0 B6 H6 B7 H7 hi e6 e7 ⟨xa, xb, xc, p', rfl, hp', hrows, W6⟩ e8 up fx
      have W7 := up _ _ W6
      have hi : i < 3 := by omega
      refine g_name ?_
      refine q_set W7 (c_place (sz := (rows p).map (·.len)) (lst := 1) rfl (.inl List.mem_cons_self) (by show n + 1 + 480 + 1 + 4 * i + 2 ≤ 1000000; omega) (e_var fz) (e_cint (n := ((1 : Nat) : Int))) hszl) fun vv B8 H8 e9 W8 fv => ?_
      rcases fv with ⟨rfl, hno⟩ | ⟨j, sz, rfl, hsz, hle⟩
      · refine s_ifF W8 (t_to (t_test (e_opNotN (d := .none) (e_var (Da.non (K := K) (H := B8))))) rfl) fun B9 H9 e10 W9 => ?_
        exact ⟨B9, ((e7.trans e8).trans e9).trans e10, _, _, _, p', rfl, hp'.up (by omega), hrows, W9.up (by omega)⟩
      · have fj : Da K B8 (.int (j : Int)) (nI j) := .int _
        have hsz' : j < (rows p).length ∧ ((rows p).getD j row0).len = sz ∧ sz ≤ 1000 := by
          rw [List.getElem?_map] at hsz
          cases hr : (rows p)[j]? with
          | none =>
            rw [hr] at hsz
            cases hsz
          | some r =>
            rw [hr] at hsz
            cases hsz
            refine ⟨(List.getElem?_eq_some_iff.mp hr).1, ?_, hl.2 r (List.mem_of_getElem? hr)⟩
            rw [getD_of hr]
        refine s_ifT W8 (t_to (t_test (e_opNotN (e_var fj))) rfl) fun B9 H9 e10 W9 => ?_
        refine s_appR (P := fun d => ∃ x, x < sz ∧ d = dStm (.read j x)) W9 (.inl h1) (EvB.imp (e_tupB (P := fun ds => ∃ x, x < sz ∧ ds = [.str "read", nI j, nI x]) (a_consB (Φ := fun v B' => Da K B' v (.str "read")) e_cstr fun va B10 e11 fa => a_consB (Φ := fun v B' => Da K B' v (nI j)) (e_var fj) fun vb B11 e12 fb => a_consB (c_index (b := sz) rfl (.inl List.mem_cons_self) (by show n + 1 + 480 + 1 + 4 * i + 2 + 2 ≤ 1000000; omega) (e_atL (f := nI) (e_var fz) (e_var fj) hsz) hle (by omega)) fun vc B12 e13 fc => a_end fun B13 e14 => ?_)
          (by rintro ds ⟨x, _, rfl⟩; show 3 ≤ 100000; decide)) fun v B14 e15 hv => ?_) (by rw [List.length_map]; have := hp'.len; omega) fun d B10 H10 e11 hd W10 => ?_
        · obtain ⟨x, rfl, hx⟩ := fc
          exact ⟨_, .cons (fa.mono ((e12.trans e13).trans e14)) (.cons (fb.mono (e13.trans e14)) (.cons (.int _) .nil)), x, hx, rfl⟩
        · obtain ⟨ds, fd, x, hx, rfl⟩ := hv
          exact ⟨_, fd, x, hx, rfl⟩
        · obtain ⟨x, hx, rfl⟩ := hd
          have hso : StmOk (rows p') (.read j x) := by
            rw [hrows]
            exact ⟨hsz'.1, by rw [hsz'.2.1]; exact hx⟩
          refine ⟨B10, (((e7.trans e8).trans e9).trans e10).trans e11, _, _, _, p' ++ [.read j x], rfl, hp'.snoc (s := .read j x) hso (show smS (.read j x) from trivial), ?_, ?_⟩
          · have h := rowsN_succ (p := p' ++ [.read j x]) (n := p'.length) (s := .read j x) (by rw [List.getElem?_append_right (Nat.le_refl _), Nat.sub_self]; rfl)
            rw [rowsN_app p'.length (Nat.le_refl _)] at h
            unfold rows at hrows ⊢
            rw [List.length_append, List.length_singleton, h, ← hrows]
            exact List.append_nil _
          · rw [List.map_append]
            exact W10.up (by omega)
    · rintro σ' B6 H6 e6 ⟨xa, xb, xc, p', rfl, hp', hrows, W6⟩
      obtain ⟨B7, e7, W7, fl⟩ := W6.done h1
      have hm3 : m2.toNat ≤ 3 := by omega
      exact s_retW (Φ := fun v B' => ∃ p, PgOk p ∧ Da K B' v (dProg p)) W7 (EvB.imp (e_tupL (a_cons (e_var fl) a_nil)) fun v B8 e8 fv => ⟨p', ⟨hp'.ok, Nat.le_trans hp'.len (by omega), hp'.sm⟩, fv⟩) rfl q (by omega)
end GB
namespace GB
open PySem PySem.Spec PyProof.Rows L2
open Evl (Ex)
variable {P : Program} {w : World} {K : PySem.W.Frag} {mg : Str → Option Value} {base : Heap}

/-! rule, wanted -/
theorem t_andT {c : Ent} {dr dr' : Dr} {ls : Ls} {σ : L2.St} {B : Hp} {tt tu : TT} {P : Bool → Prop} (h1 : Et K c dr ls tt σ B true) (h2 : EtB K c dr dr' ls tu σ B P) : EtB K c dr dr' ls (tAnd tt tu) σ B P := fun B1 H1 e1 w Q q => h1 B1 H1 e1 w _ fun k B2 H2 e2 w2 f => by
  subst f
  exact h2 B2 H2 (e1.trans e2) w2 Q fun v B3 H3 e3 w3 f => q v B3 H3 (e2.trans e3) w3 f
theorem i_eq {c : Ent} {dr dr1 dr2 : Dr} {ls : Ls} {σ : L2.St} {B : Hp} {ta tb : TE} {P P' : Int → Prop} (ha : EvI K c dr dr1 ls ta σ B P) (hb : EvI K c dr1 dr2 ls tb σ B P') : EvB K c dr dr2 ls (tOp rEq ta tb) σ B fun v _ => ∃ b, v = .bl b ∧ True :=
  EvB.op ha fun x B1 e1 fx => (EvB.mono hb e1).imp fun y B2 e2 fy => rv_of fun B3 H3 _ _ Q q => by
    obtain ⟨i, rfl, hi⟩ := fx
    obtain ⟨j, rfl, hj⟩ := fy
    exact ⟨rfl, q _ ⟨_, rfl, trivial⟩⟩
theorem cl_law_rule (d : Df K mg "_law_rule" s_law_rule) (T : Tx K mg) (c_law_draw : Cl P w K mg base 1 "_law_draw" (sp_law_draw K) []) : Cl P w K mg base 2 "_law_rule" (sp_law_rule K) [] := by
  refine cl_of d sc_law_rule (fun f fd F => F.bindsN fun _ _ _ _ _ _ us hl => match us, hl with | [_, _], _ => rfl) (SpW.len fun _ => rfl) fun cdv f A outer s H vs Q E hr h => ?_
  have hu := hu_of hr
  refine ⟨_, (pss_cons (ps_set (i := 2) sc_law_rule.nd rfl (Or.inl rfl) (pe_cl c_law_draw hr (by decide) rfl (pa_cons (pv 0) (pa_cons pe_int pa_nil))))
      (pss_cons (ps_if (pt_cmpR op_lt (pv 2) pe_int (nomark _)) (pss_one (ps_ret (pe_ix (ixL K) (pe_lst (pa_cons (pe_tup (pa_cons pe_str pa_nil)) (pa_cons (pe_tup (pa_cons pe_str pa_nil)) pa_nil))) (pv 2) (fun _ _ => rfl)))) pss_nil)
      (pss_cons (ps_if (pt_cmpR op_eq (pv 2) pe_int (nomark _)) (pss_one (ps_ret (pe_tup (pa_cons pe_str (pa_cons (pe_ix (ixL K) (pe_lst (pa_cons pe_int (pa_cons pe_int (pa_cons (pe_cl c_law_draw hr (by decide) rfl (pa_cons (pv 0) (pa_cons pe_int pa_nil))) (pa_cons (pe_op op_pow pe_int pe_int) pa_nil))))) (pe_cl c_law_draw hr (by decide) rfl (pa_cons (pv 0) (pa_cons pe_int pa_nil))) (fun _ _ => rfl)) pa_nil))))) pss_nil)
      (pss_cons (ps_if (pt_cmpR op_eq (pv 2) pe_int (nomark _)) (pss_cons (ps_set (i := 3) sc_law_rule.nd rfl (Or.inl rfl) (pe_op op_add pe_int (pe_cl c_law_draw hr (by decide) rfl (pa_cons (pv 0) (pa_cons pe_int pa_nil)))))
      (pss_one (ps_ret (pe_tup (pa_cons pe_str (pa_cons (pe_op op_add (pe_op op_fdivW (pe_op op_add (pe_op op_mul pe_int (pv 3)) pe_int) pe_int) (pe_cl c_law_draw hr (by decide) rfl (pa_cons (pv 0) (pa_cons pe_int pa_nil)))) (pa_cons (pv 3) pa_nil))))))) pss_nil)
      (pss_cons (ps_set (i := 4) sc_law_rule.nd rfl (Or.inl rfl) (pe_lst pa_nil))
      (pss_cons (ps_for PassesOwn.never rfl (pi_range1 (by rfl) T.range (pa_cons (pe_callB call_len_seq (by rfl) T.len PySem.boot_len (pa_cons (pv 1) pa_nil)) pa_nil)) (pg_name (i := 5) sc_law_rule.nd rfl (Or.inl rfl)) (pss_one (ps_if (pt_cmpR op_gt (pe_cl c_law_draw hr (by decide) rfl (pa_cons (pv 0) (pa_cons pe_int pa_nil))) pe_int (nomark _)) (pss_cons (ps_set (i := 6) sc_law_rule.nd rfl (Or.inl rfl) (pe_cl c_law_draw hr (by decide) rfl (pa_cons (pv 0) (pa_cons (pe_ix (ixL K) (pe_lst (pa_cons pe_int (pa_cons pe_int pa_nil))) (pe_cl c_law_draw hr (by decide) rfl (pa_cons (pv 0) (pa_cons pe_int pa_nil))) (fun _ _ => rfl)) pa_nil))))
      (pss_one (ps_expr (pe_bm PySem.F.plainAttrs_list PySem.F.slot_list_append PySem.F.type_list_append mt_append (pv 4) (pa_cons (pe_tup (pa_cons (pv 5) (pa_cons (pv 6) pa_nil))) pa_nil))))) pss_nil)))
      (pss_cons (ps_if (PW.pt (pw_and (pt_cmpR op_lt (pe_callB call_len_seq (by rfl) T.len PySem.boot_len (pa_cons (pv 1) pa_nil)) pe_int (nomark _)) (pw_and1 (pt_cmpR op_eq (pe_cl c_law_draw hr (by decide) rfl (pa_cons (pv 0) (pa_cons pe_int pa_nil))) pe_int (nomark _))))) (pss_cons (ps_set (i := 5) sc_law_rule.nd rfl (Or.inl rfl) (pe_op op_add (pe_callB call_len_seq (by rfl) T.len PySem.boot_len (pa_cons (pv 1) pa_nil)) (pe_cl c_law_draw hr (by decide) rfl (pa_cons (pv 0) (pa_cons (pe_op op_sub pe_int (pe_callB call_len_seq (by rfl) T.len PySem.boot_len (pa_cons (pv 1) pa_nil))) pa_nil)))))
      (pss_one (ps_expr (pe_bm PySem.F.plainAttrs_list PySem.F.slot_list_append PySem.F.type_list_append mt_append (pv 4) (pa_cons (pe_tup (pa_cons (pe_ix (ixL K) (pe_lst (pa_cons (pv 5) (pa_cons pe_int pa_nil))) (pe_cl c_law_draw hr (by decide) rfl (pa_cons (pv 0) (pa_cons pe_int pa_nil))) (fun _ _ => rfl)) (pa_cons (pe_cl c_law_draw hr (by decide) rfl (pa_cons (pv 0) (pa_cons pe_int pa_nil))) pa_nil))) pa_nil))))) pss_nil)
      (pss_one (ps_ret (pe_tup (pa_cons pe_str (pa_cons (pe_callTy call_tuple_of (by rfl) T.tuple (by decide +kernel) (pa_cons (pv 4) pa_nil)) pa_nil)))))))))))), ?_⟩
  obtain ⟨B, p, st, n, rest, rfl, e0, dl, pre, dk, hst, hn, q⟩ := h
  have W := Wd.startW (K := K) e0 dk hst
  obtain ⟨v2, r2, rfl, f2, dl⟩ := dl.cons_inv
  cases dl
  have pg : PgOk p := pre
  have hpl := pg.len
  have hn : n + 200 ≤ 1000000 := hn
  have f2 : Da K B v2 (.tuple (p.map dStm)) := f2
  have q : RW K B H st (n + 200) (fun v B' => ∃ r, RuleOk r ∧ Da K B' v (dRule r)) Q := q
  refine q_set W (c_draw (b := 6) rfl (.inl List.mem_cons_self) (by show n + 1 ≤ 1000000; omega) (e_cint (n := ((6 : Nat) : Int))) (by decide) (by decide)) fun vw B1 H1 e1 W1 fw => ?_
  obtain ⟨k, rfl, hk⟩ := fw
  have fk : Da K B1 (.int (k : Int)) (nI k) := .int _
  by_cases h2 : k < 2
  · refine q_ifT W1 (t_to (t_test (e_ltN (b := 2) (e_var fk) e_cint)) (decide_eq_true h2)) fun B2 H2 e2 W2 => ?_
    have hx : ∃ r, RuleOk r ∧ atI [dRule .exact, dRule .endless] ((k : Nat) : Int) = some (dRule r) := by
      match k, h2 with
      | 0, _ => exact ⟨.exact, trivial, rfl⟩
      | 1, _ => exact ⟨.endless, trivial, rfl⟩
    obtain ⟨r, hr1, hr2⟩ := hx
    exact s_retW (Φ := fun v B' => ∃ r, RuleOk r ∧ Da K B' v (dRule r)) W2 (EvB.imp (e_ixL (EvN.data (l_lst (a_cons (e_tup (a_cons e_cstr a_nil) lk) (a_cons (e_tup (a_cons e_cstr a_nil) lk) a_nil)) lk)) (e_var fk) hr2) fun v B3 e3 fv => ⟨r, hr1, fv⟩) rfl q (by omega)
  · refine q_ifF W1 (t_to (t_test (e_ltN (b := 2) (e_var fk) e_cint)) (decide_eq_false h2)) fun B2 H2 e2 W2 => ?_
    by_cases h3 : k = 2
    · refine q_ifT W2 (t_to (t_test (e_eqN (b := 2) (e_var fk) e_cint)) (decide_eq_true h3)) fun B3 H3 e3 W3 => ?_
      refine s_retW (st := st) (m := n + 1 + 1 + 1) (Φ := fun v B' => ∃ r, RuleOk r ∧ Da K B' v (dRule r)) W3 (EvB.imp (e_tupB (P := fun ds => ∃ z : Nat, ds = [.str "step", nI z]) (a_consB (Φ := fun v B' => Da K B' v (.str "step")) e_cstr fun va B4 e4 fa => a_consB (Φ := fun v B' => ∃ z : Nat, Da K B' v (nI z))
        (x_ixLR (P := fun ds => ∃ m : Nat, ds = [nI 0, nI 1, nI m, nI (10 ^ 30)]) (R := fun i => ∃ j : Nat, i = j ∧ j < 4) (EvN.dataB (l_lstB (a_consB (dr1 := some (st, n + 1)) (Φ := fun v B' => Da K B' v (nI 0)) e_cint fun v B5 e5 fv => a_consB (dr1 := some (st, n + 1)) (Φ := fun v B' => Da K B' v (nI 1)) e_cint fun v2 B6 e6 fv2 => a_consB (dr1 := some (st, n + 1 + 1)) (c_draw (b := 7) rfl (.inl List.mem_cons_self) (by show n + 1 + 1 ≤ 1000000; omega) (e_cint (n := ((7 : Nat) : Int))) (by decide) (by decide)) fun v3 B7 e7 fv3 =>
            a_consB (dr1 := some (st, n + 1 + 1)) (Φ := fun v B' => Da K B' v (nI (10 ^ 30))) (EvB.to (e_iiC e_cint e_cint ⟨by decide, by decide, by decide⟩) (congrArg PyData.int big30')) fun v4 B8 e8 fv4 => a_end fun B9 e9 => ?_) ?_))
          (EvB.toI (b := 4) (c_draw rfl (.inl List.mem_cons_self) (by show n + 1 + 1 + 1 ≤ 1000000; omega) (e_cint (n := ((4 : Nat) : Int))) (by decide) (by decide)) fun j hj => ⟨j, rfl, hj⟩) ?_) fun vb B5 e5 fb => a_end fun B6 e6 => ?_) ?_) fun v B4 e4 hv => ?_) rfl q (by omega)
      · obtain ⟨m, rfl, _⟩ := fv3
        exact ⟨_, .cons (fv.mono (((e6.trans e7).trans e8).trans e9)) (.cons (fv2.mono ((e7.trans e8).trans e9)) (.cons (.int _) (.cons (fv4.mono e9) .nil))), m, rfl⟩
      · rintro ds ⟨m, rfl⟩
        show 4 ≤ 100000
        decide
      · rintro ds i ⟨m, rfl⟩ ⟨j, rfl, hj⟩
        match j, hj with
        | 0, _ => exact ⟨nI 0, rfl, fun v B' fv => ⟨0, fv⟩⟩
        | 1, _ => exact ⟨nI 1, rfl, fun v B' fv => ⟨1, fv⟩⟩
        | 2, _ => exact ⟨nI m, rfl, fun v B' fv => ⟨m, fv⟩⟩
        | 3, _ => exact ⟨nI (10 ^ 30), rfl, fun v B' fv => ⟨10 ^ 30, fv⟩⟩
      · obtain ⟨z, fz⟩ := fb
        exact ⟨_, .cons (fa.mono (e5.trans e6)) (.cons (fz.mono e6) .nil), z, rfl⟩
      · rintro ds ⟨z, rfl⟩
        show 2 ≤ 100000
        decide
      · obtain ⟨ds, fd, z, rfl⟩ := hv
        exact ⟨.step z, trivial, fd⟩
    · refine q_ifF W2 (t_to (t_test (e_eqN (b := 2) (e_var fk) e_cint)) (decide_eq_false h3)) fun B3 H3 e3 W3 => ?_
      by_cases h4 : k = 3
      · refine q_ifT W3 (t_to (t_test (e_eqN (b := 3) (e_var fk) e_cint)) (decide_eq_true h4)) fun B4 H4 e4 W4 => ?_
        refine q_set W4 (i_ii (P := fun i => i = 1) (P' := fun i => ∃ j : Nat, i = j ∧ j < 4) (R := fun i => ∃ j : Nat, i = j ∧ 1 ≤ j ∧ j ≤ 4) (i_D e_cint rfl) (EvB.toI (b := 4) (c_draw rfl (.inl List.mem_cons_self) (by show n + 1 + 1 ≤ 1000000; omega) (e_cint (n := ((4 : Nat) : Int))) (by decide) (by decide)) fun j hj => ⟨j, rfl, hj⟩) (by rintro i j rfl ⟨z, rfl, hz⟩; exact ⟨1 + z, by omega, by omega, by omega⟩)) fun vb B5 H5 e5 W5 fb => ?_
        obtain ⟨_, rfl, bl, rfl, hb1, hb2⟩ := fb
        have fb : Da K B5 (.int (bl : Int)) (nI bl) := .int _
        refine s_retW (st := st) (m := n + 1 + 1 + 1) (Φ := fun v B' => ∃ r, RuleOk r ∧ Da K B' v (dRule r)) W5 (EvB.imp (e_tupB (P := fun ds => ∃ z : Nat, bl ≤ z ∧ z ≤ 1000 ∧ ds = [.str "factor", nI z, nI bl]) (a_consB (Φ := fun v B' => Da K B' v (.str "factor")) e_cstr fun va B6 e6 fa => a_consB (Φ := fun v _ => ∃ z : Nat, bl ≤ z ∧ z ≤ 1000 ∧ v = .int (z : Int))
          (EvB.imp (i_ii (P := fun i => i = (5 * (bl : Int) + 3) / 4) (P' := fun i => ∃ j : Nat, i = j ∧ j < 3) (R := fun i => ∃ z : Nat, bl ≤ z ∧ z ≤ 1000 ∧ i = (z : Int)) (i_D (e_iiC (e_ii (e_iiC e_cint (e_var fb) (.inl ⟨by decide, by decide⟩)) e_cint) e_cint (wide_div (b := 10) (by decide) (by decide) (by decide) (by decide))) rfl) (EvB.toI (b := 3) (c_draw rfl (.inl List.mem_cons_self) (by show n + 1 + 1 + 1 ≤ 1000000; omega) (e_cint (n := ((3 : Nat) : Int))) (by decide) (by decide)) fun j hj => ⟨j, rfl, hj⟩) ?_) fun v B7 e7 hv => ?_)
          fun vc B7 e7 fc => a_consB (Φ := fun v B' => Da K B' v (nI bl)) (e_var fb) fun vd B8 e8 fd => a_end fun B9 e9 => ?_) ?_) fun v B6 e6 hv => ?_) rfl q (by omega)
        · rintro i j rfl ⟨z, rfl, hz⟩
          exact ⟨((5 * (bl : Int) + 3) / 4).toNat + z, by omega, by omega, by omega⟩
        · obtain ⟨i, rfl, z, z1, z2, rfl⟩ := hv
          exact ⟨z, z1, z2, rfl⟩
        · obtain ⟨z, z1, z2, rfl⟩ := fc
          exact ⟨_, .cons (fa.mono ((e7.trans e8).trans e9)) (.cons (.int _) (.cons (fd.mono e9) .nil)), z, z1, z2, rfl⟩
        · rintro ds ⟨z, _, _, rfl⟩
          show 3 ≤ 100000
          decide
        · obtain ⟨ds, fd, z, z1, z2, rfl⟩ := hv
          exact ⟨.factor z bl, ⟨hb1, z1, z2⟩, fd⟩
      · refine q_ifF W3 (t_to (t_test (e_eqN (b := 3) (e_var fk) e_cint)) (decide_eq_false h4)) fun B4 H4 e4 W4 => ?_
        refine q_setN W4 (l_lst a_nil lk) fun p1 ds B5 H5 e5 h1 W5 hd => ?_
        subst hd
        have flen : ∀ {dr : Dr} {ls : Ls} {σ : L2.St} {B' : Hp}, Ex B B' → σ[1]? = some (some v2) → EvD K ⟨B, H, [st]⟩ dr ls (tCB (fun xs H Q => ∃ p ys, xs = [.ref p] ∧ (SqL K H p ys ∨ SqT K H p ys) ∧ Q (.int ys.length) H) (tCons (tVar 1) tNil)) σ B' (nI p.length) := fun ex h1 => EvB.to (e_lenT (a_cons (e_var f2 h1 ex) a_nil)) (by rw [List.length_map])
        refine q_for W5 (i_rng1 (n := (p.length : Int)) (a_cons (flen ((((e1.trans e2).trans e3).trans e4).trans e5) (by rfl)) a_nil) (by omega) (by omega)) (fun i σ B' H' => ∃ a b c, ∃ t0 : Tab, σ = [some (.ref st), some v2, some (.int (k : Int)), a, some (.ref p1), b, c] ∧ t0.length ≤ i ∧ Wd K ⟨B, H, [st]⟩ (some (st, n + 1 + 3 * i)) [(p1, .l (t0.map dPair))] B' H')
          (fun B6 H6 e6 W6 => ⟨_, _, _, [], rfl, Nat.le_refl _, W6⟩) (fun i σ' B' H' iv => by obtain ⟨_, _, _, _, _, _, h⟩ := iv; exact h.inn) ?_ ?_
        · rintro i x σ' B0 B6 H6 B7 H7 hi e6 e7 ⟨xa, xb, xc, t0, rfl, ht, W6⟩ e8 up fx
          have W7 := up _ _ W6
          have hi : i < 40 := by omega
          have fx : Da K B7 x (nI i) := fx
          refine g_name ?_
          refine s_ifB (P := fun _ => True) W7 (t_testR (i_ib (P := fun _ => True) (P' := fun _ => True) (EvB.toI (b := 3) (c_draw rfl (.inl List.mem_cons_self) (by show n + 1 + 3 * i + 1 ≤ 1000000; omega) (e_cint (n := ((3 : Nat) : Int))) (by decide) (by decide)) fun _ _ => trivial) (i_D e_cint trivial) fun _ _ _ _ => trivial)) (fun _ B8 H8 e9 W8 => ?_) fun _ B8 H8 e9 W8 => ?_
          · refine q_set W8 (EvB.imp (c_W (st := st) (n := n + 1 + 3 * i + 1) (args := fun b : Nat => [nI b]) (pre := fun b => 1 ≤ b ∧ b ≤ 10 ^ 40) (cnt := 1) (Φ := fun b => ΦN b) (fun b => b ≤ 40) rfl (.inl List.mem_cons_self) (m := n + 1 + 3 * i + 1 + 1) (by show n + 1 + 3 * i + 1 + 1 + 1 ≤ 1000000; omega)
              (a_consB (Φ := fun v B' => ∃ b : Nat, Da K B' v (nI b) ∧ (1 ≤ b ∧ b ≤ 10 ^ 40) ∧ b ≤ 40) (x_ixL (ds := [nI 9, nI 40]) (P := fun i => ∃ k : Nat, i = k ∧ k < 2) (EvN.data (l_lst (a_cons e_cint (a_cons e_cint a_nil)) lk)) (EvB.toI (b := 2) (c_draw rfl (.inl List.mem_cons_self) (by show n + 1 + 3 * i + 1 + 1 ≤ 1000000; omega) (e_cint (n := ((2 : Nat) : Int))) (by decide) (by decide)) fun k hk => ⟨k, rfl, hk⟩) ?_) fun v B9 e10 fv => a_end fun B10 e11 => ?_)) fun v B9 e10 hv => (show (fun v (_ : Hp) => ∃ m : Nat, v = V.int (m : Int)) v B9 from ⟨hv.choose_spec.2.2.choose, hv.choose_spec.2.2.choose_spec.1⟩)) fun vr B9 H9 e10 W9 fr => ?_
            · rintro i ⟨j, rfl, hj⟩
              match j, hj with
              | 0, _ => exact ⟨nI 9, rfl, fun v B' fv => ⟨9, fv, ⟨by decide, by decide⟩, by decide⟩⟩
              | 1, _ => exact ⟨nI 40, rfl, fun v B' fv => ⟨40, fv, ⟨by decide, by decide⟩, by decide⟩⟩
            · obtain ⟨b, fb, h1, h2⟩ := fv
              exact ⟨b, .cons (fb.mono e11) .nil, h1, h2⟩
            · obtain ⟨m, rfl⟩ := fr
              have fm : Da K B9 (.int (m : Int)) (nI m) := .int _
              refine s_appD (d := dPair (i, m)) W9 (.inl h1) (e_tup (a_cons (e_var fx) (a_cons (e_var fm) a_nil)) lk) (by rw [List.length_map]; omega) fun B10 H10 e11 W10 => ?_
              refine ⟨B10, (((e7.trans e8).trans e9).trans e10).trans e11, _, _, _, t0 ++ [(i, m)], rfl, by rw [List.length_append, List.length_singleton]; omega, ?_⟩
              rw [List.map_append]
              exact W10
          · exact ⟨B8, (e7.trans e8).trans e9, _, _, _, t0, rfl, by omega, W8.up (by omega)⟩
        · rintro σ' B6 H6 e6 ⟨xa, xb, xc, t0, rfl, ht, W6⟩
          have ht : t0.length ≤ 40 := by omega
          have W6 := W6.up (m := n + 1 + 120) (by omega)
          have fin : ∀ {T1 : Tab} {xa xb xc : Option V} {dr : Dr} {B7 H7 : Hp} {D : Ends}, D.rt = Q → (dr = some (st, n + 150)) → T1.length ≤ 50 → Wd K ⟨B, H, [st]⟩ dr [(p1, .l (T1.map dPair))] B7 H7 →
              tRet (tTup (tCons (tC (.str "table")) (tCons (tCB (fun xs H Q => ∃ p ys, xs = [.ref p] ∧ ((SqL K H p ys ∧ ∀ l, H l = none → Q (.ref l) (upd H l (.tup ys))) ∨ (SqT K H p ys ∧ Q (.ref p) H))) (tCons (tVar 4) tNil)) tNil))) D [some (.ref st), some v2, some (.int (k : Int)), xa, some (.ref p1), xb, xc] H7 := fun {T1 xa xb xc dr B7 H7 D} hD hdr hl w => by
            subst hdr
            obtain ⟨B8, e8, w8, fl⟩ := w.done h1
            refine s_retB w8 (e_tup (a_cons e_cstr (a_cons (e_tupL (a_cons (e_var fl) a_nil)) a_nil)) lk) fun v B9 H9 e9 w9 fv => ?_
            rw [hD]
            exact w9.backW rfl q (by omega) ⟨.table T1, by show T1.length ≤ 1000; omega, fv⟩
          refine q_ifB (P := fun _ => True) W6 (t_andT (t_to (t_test (e_ltN (b := 60) (flen (((((e1.trans e2).trans e3).trans e4).trans e5).trans e6) rfl) e_cint)) (decide_eq_true (by omega))) (t_testR (i_eq (P := fun _ => True) (P' := fun _ => True) (EvB.toI (b := 2) (c_draw rfl (.inl List.mem_cons_self) (by show n + 1 + 120 + 1 ≤ 1000000; omega) (e_cint (n := ((2 : Nat) : Int))) (by decide) (by decide)) fun _ _ => trivial) (i_D e_cint trivial)))) (fun _ B7 H7 e7 W7 => ?_) fun _ B7 H7 e7 W7 => ?_
          · refine q_set W7 (i_ii (P := fun i => i = (p.length : Int)) (P' := fun i => ∃ j : Nat, i = j) (R := fun i => ∃ j : Nat, i = j) (i_D (flen ((((((e1.trans e2).trans e3).trans e4).trans e5).trans e6).trans e7) rfl) rfl) (EvB.toI (b := 60 - p.length) (c_draw rfl (.inl List.mem_cons_self) (by show n + 1 + 120 + 1 + 1 ≤ 1000000; omega) (e_subN (e_cint (n := ((60 : Nat) : Int))) (flen ((((((e1.trans e2).trans e3).trans e4).trans e5).trans e6).trans e7) rfl) (by omega)) (by omega) (by omega)) fun j _ => ⟨j, rfl⟩) (by rintro i j rfl ⟨z, rfl⟩; exact ⟨p.length + z, by omega⟩)) fun vn B8 H8 e8 W8 fn => ?_
            obtain ⟨_, rfl, m, rfl⟩ := fn
            have fm : Da K B8 (.int (m : Int)) (nI m) := .int _
            refine s_appR (P := fun d => ∃ e : Nat × Nat, d = dPair e) W8 (.inl h1) (EvB.imp (e_tupB (P := fun ds => ∃ e : Nat × Nat, ds = [nI e.1, nI e.2]) (a_consB (Φ := fun v _ => ∃ z : Nat, v = .int (z : Int)) (x_ixL (ds := [nI m, nI 59]) (P := fun i => ∃ k : Nat, i = k ∧ k < 2) (EvN.data (l_lst (a_cons (e_var fm) (a_cons e_cint a_nil)) lk)) (EvB.toI (b := 2) (c_draw rfl (.inl List.mem_cons_self) (by show n + 1 + 120 + 1 + 1 + 1 ≤ 1000000; omega) (e_cint (n := ((2 : Nat) : Int))) (by decide) (by decide)) fun k hk => ⟨k, rfl, hk⟩) ?_) fun va B9 e9 fa =>
              a_consB (c_draw (b := 9) rfl (.inl List.mem_cons_self) (by show n + 1 + 120 + 1 + 1 + 1 + 1 ≤ 1000000; omega) (e_cint (n := ((9 : Nat) : Int))) (by decide) (by decide)) fun vb B10 e10 fb => a_end fun B11 e11 => ?_) (by rintro ds ⟨e, rfl⟩; show 2 ≤ 100000; decide)) fun v B9 e9 hv => ?_) (by rw [List.length_map]; omega) fun d B9 H9 e9 hd W9 => ?_
            · rintro i ⟨j, rfl, hj⟩
              match j, hj with
              | 0, _ => exact ⟨nI m, rfl, fun v B' fv => ⟨m, fv.int_eq⟩⟩
              | 1, _ => exact ⟨nI 59, rfl, fun v B' fv => ⟨59, fv.int_eq⟩⟩
            · obtain ⟨z, rfl⟩ := fa
              obtain ⟨y, rfl, _⟩ := fb
              exact ⟨_, .cons (.int _) (.cons (.int _) .nil), (z, y), rfl⟩
            · obtain ⟨ds, fd, e, rfl⟩ := hv
              exact ⟨_, fd, e, rfl⟩
            · obtain ⟨e, rfl⟩ := hd
              have W9 : Wd K ⟨B, H, [st]⟩ (some (st, n + 150)) [(p1, .l ((t0 ++ [e]).map dPair))] B9 H9 := by
                rw [List.map_append]
                exact W9.up (by omega)
              exact fin rfl rfl (by rw [List.length_append, List.length_singleton]; omega) W9
          · exact fin rfl rfl (by omega) (W7.up (m := n + 150) (by omega))
theorem cl_law_wanted (d : Df K mg "_law_wanted" s_law_wanted) (T : Tx K mg) (c_law_draw : Cl P w K mg base 1 "_law_draw" (sp_law_draw K) []) (c_law_looks : Cl P w K mg base 1 "_law_looks" (sp_law_looks K) []) (c_law_run : Cl P w K mg base 3 "_law_run" (sp_law_run K) []) (c_law_writers : Cl P w K mg base 2 "_law_writers" (sp_law_writers K) []) : Cl P w K mg base 4 "_law_wanted" (sp_law_wanted K) [] := by
  refine cl_of d sc_law_wanted (fun f fd F => F.bindsN fun _ _ _ _ _ _ us hl => match us, hl with | [_, _, _, _, _], _ => rfl) (SpW.len fun _ => rfl) fun cdv f A outer s H vs Q E hr h => ?_
  have hu := hu_of hr
  refine ⟨_, (pss_cons (ps_set (i := 5) sc_law_wanted.nd rfl (Or.inl rfl) (pe_cl c_law_draw hr (by decide) rfl (pa_cons (pv 0) (pa_cons pe_int pa_nil))))
      (pss_cons (ps_set (i := 6) sc_law_wanted.nd rfl (Or.inl rfl) (pe_ix (ixT K) (pe_cl c_law_run hr (by decide) rfl (pa_cons (pv 1) (pa_cons (pv 4) pa_nil))) pe_int (fun _ _ => rfl)))
      (pss_cons (ps_set (i := 7) sc_law_wanted.nd rfl (Or.inl rfl) (pe_cl c_law_looks hr (by decide) rfl (pa_cons (pv 1) (pa_cons (pv 2) pa_nil))))
      (pss_cons (ps_set (i := 8) sc_law_wanted.nd rfl (Or.inl rfl) (pe_lst pa_nil))
      (pss_cons (ps_for PassesOwn.never rfl (pi_range1 (by rfl) T.range (pa_cons (pe_op op_mul (pe_cl c_law_draw hr (by decide) rfl (pa_cons (pv 0) (pa_cons (pe_op op_add (pv 3) pe_int) pa_nil))) (pe_callTy call_int1 (by rfl) T.int (by decide +kernel) (pa_cons (pe_cmpR (opNeD K hr.units) (pv 7) (pe_lst pa_nil) (nomark _)) pa_nil))) pa_nil)) (pg_name (i := 9) sc_law_wanted.nd rfl (Or.inl rfl)) (pss_cons (ps_set (i := 10) sc_law_wanted.nd rfl (Or.inl rfl) (pe_cl c_law_draw hr (by decide) rfl (pa_cons (pv 0) (pa_cons (pe_callB call_len_seq (by rfl) T.len PySem.boot_len (pa_cons (pv 7) pa_nil)) pa_nil))))
      (pss_one (ps_if (PW.pt (pw_or (pt_cmpR op_eq (pv 5) pe_int (nomark _)) (pw_or1 (PW.pt (pw_and (pt_cmpR op_eq (pv 5) pe_int (nomark _)) (pw_and1 (pt_cmpR op_eq (pe_cl c_law_draw hr (by decide) rfl (pa_cons (pv 0) (pa_cons pe_int pa_nil))) pe_int (nomark _)))))))) (pss_cons (ps_set (i := 11) sc_law_wanted.nd rfl (Or.inl rfl) (pe_cl c_law_writers hr (by decide) rfl (pa_cons (pv 1) (pa_cons (pv 2) (pa_cons (pe_ix (ixL K) (pv 7) (pv 10) (fun _ _ => rfl)) pa_nil)))))
      (pss_one (ps_expr (pe_bm PySem.F.plainAttrs_list PySem.F.slot_list_append PySem.F.type_list_append mt_append (pv 8) (pa_cons (pe_tup (pa_cons (pv 10) (pa_cons (pe_ix (ixT K) (pe_ix (ixL K) (pv 11) (pe_cl c_law_draw hr (by decide) rfl (pa_cons (pv 0) (pa_cons (pe_callB call_len_seq (by rfl) T.len PySem.boot_len (pa_cons (pv 11) pa_nil)) pa_nil))) (fun _ _ => rfl)) pe_int (fun _ _ => rfl)) pa_nil))) pa_nil))))) (pss_one (ps_expr (pe_bm PySem.F.plainAttrs_list PySem.F.slot_list_append PySem.F.type_list_append mt_append (pv 8) (pa_cons (pe_tup (pa_cons (pv 10) (pa_cons (pe_ix (ixL K) (pv 6) (pv 10) (fun _ _ => rfl)) pa_nil))) pa_nil))))))))
      (pss_one (ps_ret (pv 8)))))))), ?_⟩
  obtain ⟨B, ⟨p, ru⟩, st, n, rest, rfl, e0, dl, pre, dk, hst, hn, q⟩ := h
  have W := Wd.startW (K := K) e0 dk hst
  obtain ⟨v2, r2, rfl, f2, dl⟩ := dl.cons_inv
  obtain ⟨v3, r3, rfl, f3, dl⟩ := dl.cons_inv
  obtain ⟨v4, r4, rfl, f4, dl⟩ := dl.cons_inv
  obtain ⟨v5, r5, rfl, f5, dl⟩ := dl.cons_inv
  cases dl
  obtain ⟨pg, rok⟩ := pre
  have pg : PgOk p := pg
  have rok : RuleOk ru := rok
  have hpl := pg.len
  have hn : n + 40 ≤ 1000000 := hn
  have f2 : Da K B v2 (dProg p) := f2
  have f3 : Da K B v3 (dRows (rows p)) := f3
  have f4 : Da K B v4 (.int 4) := f4
  have f5 : Da K B v5 (dRule ru) := f5
  have q : RW K B H st (n + 40) (fun v B' => ∃ D, DemsOk p D ∧ D.length ≤ 4 ∧ Da K B' v (dDems D)) Q := q
  refine q_set W (c_draw (b := 3) rfl (.inl List.mem_cons_self) (by show n + 1 ≤ 1000000; omega) (e_cint (n := ((3 : Nat) : Int))) (by decide) (by decide)) fun vw B1 H1 e1 W1 fw => ?_
  obtain ⟨k, rfl, hk⟩ := fw
  have fk : Da K B1 (.int (k : Int)) (nI k) := .int _
  refine q_set W1 (EvB.op (c_B (a := (p, ru)) (a_cons (e_var f2) (a_cons (e_var f5) a_nil)) ⟨pg, rok⟩) fun x B2 ex ⟨cops, fx⟩ => EvB.imp (Ψ := fun y B2 => RvB K ⟨B, H, [st]⟩ (some (st, n + 1)) [] (rIxT K x y) B2 fun v B' => Da K B' v (dNats (originsL p (cpOf p (chOf ru))))) (e_cint (n := 2)) fun y B3 e3 fy => rv_of fun B4 H4 e4 w4 Q q => ?_) fun vs B2 H2 e2 W2 fs => ?_
  · obtain ⟨a, xs, rfl, hx, hd⟩ := (fx.mono (e3.trans e4)).tup_inv
    obtain ⟨v, hv, fv⟩ := hd.at (i := 2) rfl
    exact ⟨a, xs, 2, v, rfl, fy.int_eq, Evl.ex_t w4.inn hx, hv, q v fv⟩
  have fs : Da K B2 vs (.list ((originsL p (cpOf p (chOf ru))).map nI)) := fs
  refine q_set W2 (EvN.data (c_N (a := p) (a_cons (e_var f2) (a_cons (e_var f3) a_nil)) pg)) fun vl B3 H3 e3 W3 fl => ?_
  have fl : Da K B3 vl (.list ((reads p).map fun q => dRead (q.1, q.2.1, vstart p q.2.1 + q.2.2))) := fl
  have rl := readsN_len p p.length
  have rl : (reads p).length ≤ 40 := Nat.le_trans rl hpl
  have plr : plainL ((reads p).map fun q => dRead (q.1, q.2.1, vstart p q.2.1 + q.2.2)) := plainL_of fun d hd => by
    obtain ⟨q, _, rfl⟩ := List.mem_map.mp hd
    exact ⟨rfl, by show PyData.depth (.tuple [nI _, nI _, nI _]) ≤ 60; simp [PyData.depth, PyData.depthAll]⟩
  refine q_setN W3 (l_lst a_nil lk) fun p1 ds B4 H4 e4 h1 W4 hd => ?_
  subst hd
  refine q_forN (P := fun i => 0 ≤ i ∧ i ≤ 4 ∧ (reads p = [] → i = 0)) W4 (i_iiC (P := fun i => 0 ≤ i ∧ i < 5) (P' := fun i => (i = 0 ∨ i = 1) ∧ (reads p = [] → i = 0)) (EvB.toI (b := 5) (c_draw rfl (.inl List.mem_cons_self) (by show n + 1 + 1 ≤ 1000000; omega) (EvB.to (d1 := nI 5) (e_ii (e_var f4) e_cint) rfl) (by decide) (by decide)) fun j hj => ⟨by omega, by omega⟩) (i_D (e_intB (e_neNil (e_var fl) plr)) ?_) ?_ ?_) fun m B5 H5 e5 hm W5 => ?_
  · cases hr : reads p with
    | nil => exact ⟨.inl rfl, fun _ => rfl⟩
    | cons a l => exact ⟨.inr rfl, fun z => by cases z⟩
  · rintro i j ⟨i1, i2⟩ _
    exact .inl ⟨by omega, by omega⟩
  · rintro i j ⟨i1, i2⟩ ⟨rfl | rfl, h⟩
    · exact ⟨by omega, by omega, fun _ => by omega⟩
    · exact ⟨by omega, by omega, fun z => by have := h z; omega⟩
  refine q_for W5 (i_rng1 (a_cons e_cint a_nil) (by omega) (by omega)) (fun i σ B' H' => ∃ a b c D, σ = [some (.ref st), some v2, some v3, some v4, some v5, some (.int (k : Int)), some vs, some vl, some (.ref p1), a, b, c] ∧ DemsOk p D ∧ D.length ≤ i ∧ Wd K ⟨B, H, [st]⟩ (some (st, n + 1 + 1 + 3 * i)) [(p1, .l (D.map dPair))] B' H')
    (fun B6 H6 e6 W6 => ⟨_, _, _, [], rfl, fun d h => (nomatch h), Nat.le_refl _, W6⟩) (fun i σ' B' H' iv => by obtain ⟨_, _, _, _, _, _, _, h⟩ := iv; exact h.inn) ?_ ?_
  · rintro i x σ' B0 B6 H6 B7 H7 hi e6 e7 ⟨xa, xb, xc, D, rfl, hD, hDl, W6⟩ e8 up fx
    have W7 := up _ _ W6
    have hi : i < 4 := by omega
    have hrp : 1 ≤ (reads p).length := by
      cases hr : reads p with
      | nil =>
        have := hm.2.2 hr
        omega
      | cons a l => exact Nat.succ_pos _
    refine g_name ?_
    refine q_set W7 (c_draw (b := (reads p).length) rfl (.inl List.mem_cons_self) (by show n + 1 + 1 + 3 * i + 1 ≤ 1000000; omega) (EvB.to (d1 := nI (reads p).length) (e_lenL (a_cons (e_var fl) a_nil)) (by rw [List.length_map])) hrp (by omega)) fun va B8 H8 e9 W8 fa => ?_
    obtain ⟨j, rfl, hj⟩ := fa
    have fj : Da K B8 (.int (j : Int)) (nI j) := .int _
    have hq : (reads p)[j]? = some (reads p)[j] := List.getElem?_eq_getElem hj
    generalize (reads p)[j] = qr at hq
    obtain ⟨r1, r2, r3⟩ := reads_ok pg.ok p.length j qr (Nat.le_refl _) hq
    have hv : qr.2.1 < nv p := seen_lt (by omega) r2
    have ho : (originsL p (cpOf p (chOf ru)))[j]? = some (orig p (cpOf p (chOf ru)) qr) := origins_at hq
    have hO := org_of pg.ok (chOf ru) hq
    obtain ⟨w0, hC, hV⟩ := hO.there
    have dem0 : DemOk p (j, orig p (cpOf p (chOf ru)) qr) := ⟨qr, w0, hq, hC⟩
    have push : ∀ {B9 H9 : Hp} {e : Dem}, Ex B8 B9 → DemOk p e → Wd K ⟨B, H, [st]⟩ (some (st, n + 1 + 1 + 3 * (i + 1))) [(p1, .l (D.map dPair ++ [dPair e]))] B9 H9 → ∀ xb xc, ∃ B4, Ex B0 B4 ∧ ∃ a b c D, [some (.ref st), some v2, some v3, some v4, some v5, some (.int (k : Int)), some vs, some vl, some (.ref p1), some x, xb, xc] = [some (.ref st), some v2, some v3, some v4, some v5, some (.int (k : Int)), some vs, some vl, some (.ref p1), a, b, c] ∧ DemsOk p D ∧ D.length ≤ i + 1 ∧ Wd K ⟨B, H, [st]⟩ (some (st, n + 1 + 1 + 3 * (i + 1))) [(p1, .l (D.map dPair))] B4 H9 := fun {B9 H9 e} ex he w xb xc => by
      refine ⟨B9, ((e7.trans e8).trans e9).trans ex, _, _, _, D ++ [e], rfl, fun d hd => ?_, by rw [List.length_append, List.length_singleton]; omega, by rw [List.map_append]; exact w⟩
      rcases List.mem_append.mp hd with z | z
      · exact hD d z
      · rw [List.mem_singleton.mp z]
        exact he
    have tst : EtB K ⟨B, H, [st]⟩ (some (st, n + 1 + 1 + 3 * i + 1)) (some (st, n + 1 + 1 + 3 * i + 1 + 1)) [(p1, .l (D.map dPair))] (tOr (tTest (tOp rEq (tVar 5) (tC (.int 1)))) (tAnd (tTest (tOp rEq (tVar 5) (tC (.int 2)))) (tTest (tOp rEq (tCall (sp_law_draw K) [] E0 (tCons (tVar 0) (tCons (tC (.int 3)) tNil))) (tC (.int 0))))))
        [some (.ref st), some v2, some v3, some v4, some v5, some (.int (k : Int)), some vs, some vl, some (.ref p1), some x, some (.int (j : Int)), xc] B8 fun _ => True := by
      have t1 : ∀ {m : Nat} {B' : Hp}, Ex B1 B' → Et K ⟨B, H, [st]⟩ (some (st, n + 1 + 1 + 3 * i + 1)) [(p1, .l (D.map dPair))] (tTest (tOp rEq (tVar 5) (tC (.int ((m : Nat) : Int))))) [some (.ref st), some v2, some v3, some v4, some v5, some (.int (k : Int)), some vs, some vl, some (.ref p1), some x, some (.int (j : Int)), xc] B' (decide (k = m)) := fun {m B'} ex => t_test (e_eqN (b := m) (e_var fk rfl ex) e_cint)
      intro B9 H9 e10 w9 Q2 q2
      have ex9 : Ex B1 B9 := ((((((e2.trans e3).trans e4).trans e5).trans e6).trans e7).trans e8).trans (e9.trans e10)
      refine t1 (m := 1) ex9 B9 H9 (Ex.refl _) w9 _ fun b1 B10 H10 e11 w10 hb1 => ?_
      cases b1 with
      | true => exact q2 true B10 H10 e11 (w10.up (Nat.le_succ _)) trivial
      | false =>
        rw [if_neg Bool.false_ne_true]
        refine t1 (m := 2) (ex9.trans e11) B10 H10 (Ex.refl _) w10 _ fun b2 B11 H11 e12 w11 hb2 => ?_
        cases b2 with
        | false => exact q2 false B11 H11 (e11.trans e12) (w11.up (Nat.le_succ _)) trivial
        | true =>
          refine t_testR (i_eq (P := fun _ => True) (P' := fun _ => True) (EvB.toI (b := 3) (c_draw (B := B11) rfl (.inl List.mem_cons_self) (by show n + 1 + 1 + 3 * i + 1 + 1 ≤ 1000000; omega) (e_cint (n := ((3 : Nat) : Int))) (by decide) (by decide)) fun _ _ => trivial) (i_D e_cint trivial)) B11 H11 (Ex.refl _) w11 Q2 fun b B12 H12 e13 w12 _ => q2 b B12 H12 ((e11.trans e12).trans e13) w12 trivial
    refine s_ifB W8 tst (fun _ B9 H9 e10 W9 => ?_) fun _ B9 H9 e10 W9 => ?_
    · have hcl := candL_len (p := p) (n := qr.1) (v := qr.2.1) (x := vstart p qr.2.1 + qr.2.2)
      have hcm : (orig p (cpOf p (chOf ru)) qr, w0) ∈ candL p qr.1 qr.2.1 (vstart p qr.2.1 + qr.2.2) := candL_mem.mpr hC
      refine q_set W9 (EvN.data (c_N (a := (p, qr.1, qr.2.1, vstart p qr.2.1 + qr.2.2)) (a_cons (e_var f2) (a_cons (e_var f3) (a_cons (e_atL (f := fun q => dRead (q.1, q.2.1, vstart p q.2.1 + q.2.2)) (e_var fl) (e_var fj) hq) a_nil))) ⟨pg, hv⟩)) fun vso B10 H10 e11 W10 fso => ?_
      have hcand : ∀ e, e ∈ candL p qr.1 qr.2.1 (vstart p qr.2.1 + qr.2.2) → DemOk p (j, e.1) := fun e he => by
        obtain ⟨c, w⟩ := e
        exact ⟨qr, w, hq, candL_mem.mp he⟩
      have fso : Da K B10 vso (.list ((candL p qr.1 qr.2.1 (vstart p qr.2.1 + qr.2.2)).map dPair)) := fso
      generalize candL p qr.1 qr.2.1 (vstart p qr.2.1 + qr.2.2) = L at hcl hcm hcand fso
      have hLp := List.length_pos_of_mem hcm
      refine s_appR (P := fun d => ∃ e : Dem, DemOk p e ∧ d = dPair e) W10 (.inl h1) (EvB.imp (e_tupB (P := fun ds => ∃ e : Dem, DemOk p e ∧ ds = [nI e.1, nI e.2]) (a_consB (Φ := fun v B' => Da K B' v (nI j)) (e_var fj) fun va B11 e12 fa => a_consB (Φ := fun v _ => ∃ z : Nat, DemOk p (j, z) ∧ v = .int (z : Int))
        (EvB.op (x_ixL (ds := L.map dPair) (P := fun i => ∃ k : Nat, i = k ∧ k < L.length) (Φ := fun v B' => ∃ e, e ∈ L ∧ Da K B' v (dPair e)) (e_var fso) (EvB.toI (b := L.length) (c_draw rfl (.inl List.mem_cons_self) (by show n + 1 + 1 + 3 * i + 1 + 1 + 1 ≤ 1000000; omega) (EvB.to (d1 := nI L.length) (e_lenL (a_cons (e_var fso) a_nil)) (by rw [List.length_map])) hLp (by omega)) fun k hk => ⟨k, rfl, hk⟩) ?_) fun x0 B12 e13 ⟨e, he, fx0⟩ =>
          EvB.imp (Ψ := fun y B2 => RvB K ⟨B, H, [st]⟩ (some (st, n + 1 + 1 + 3 * i + 1 + 1 + 1)) [(p1, .l (D.map dPair))] (rIxT K x0 y) B2 fun v _ => ∃ z : Nat, DemOk p (j, z) ∧ v = .int (z : Int)) (e_cint (n := 0)) fun y B13 e14 fy => rv_of fun B14 H14 e15 w14 Q q => ?_) fun vb B12 e13 fb => a_end fun B13 e14 => ?_) (by rintro ds ⟨e, _, rfl⟩; show 2 ≤ 100000; decide)) fun v B11 e12 hv => ?_) (by rw [List.length_map]; omega) fun d B11 H11 e12 hd W11 => ?_
      · rintro i ⟨z, rfl, hz⟩
        have hx : L[z]? = some L[z] := List.getElem?_eq_getElem hz
        exact ⟨_, atI_map (f := dPair) hx, fun v B' fv => ⟨_, List.getElem_mem hz, fv⟩⟩
      · obtain ⟨a, xs, rfl, hx, hd⟩ := (fx0.mono (e14.trans e15)).tup_inv
        obtain ⟨v, hv, fv⟩ := hd.at (i := 0) rfl
        exact ⟨a, xs, 0, v, rfl, fy.int_eq, Evl.ex_t w14.inn hx, hv, q v ⟨e.1, hcand e he, fv.int_eq⟩⟩
      · obtain ⟨z, hz, rfl⟩ := fb
        exact ⟨_, .cons (fa.mono (e13.trans e14)) (.cons (.int _) .nil), (j, z), hz, rfl⟩
      · obtain ⟨ds, fd, e, he, rfl⟩ := hv
        exact ⟨_, fd, e, he, rfl⟩
      · obtain ⟨e, he, rfl⟩ := hd
        exact push ((e10.trans e11).trans e12) he (W11.up (by omega)) _ _
    · refine s_appD (d := dPair (j, orig p (cpOf p (chOf ru)) qr)) W9 (.inl h1) (e_tup (a_cons (e_var fj) (a_cons (e_atL (f := nI) (e_var fs) (e_var fj) ho) a_nil)) lk) (by rw [List.length_map]; omega) fun B10 H10 e11 W10 => ?_
      exact push (e10.trans e11) dem0 (W10.up (by omega)) _ _
  · rintro σ' B6 H6 e6 ⟨xa, xb, xc, D, rfl, hD, hDl, W6⟩
    obtain ⟨B7, e7, W7, fd⟩ := W6.done h1
    exact s_retW (Φ := fun v B' => ∃ D, DemsOk p D ∧ D.length ≤ 4 ∧ Da K B' v (dDems D)) W7 (EvB.imp (e_var fd) fun v B8 e8 fv => ⟨D, hD, by omega, fv⟩) rfl q (by omega)
end GB
namespace GB
open PySem PySem.Spec PyProof.Rows L2
open Evl (Ex)
variable {P : Program} {w : World} {K : PySem.W.Frag} {mg : Str → Option Value} {base : Heap}

/-! ### start, again -/
theorem DaL.of_get {H : Hp} : ∀ {vs : List V} {ds : List PyData}, vs.length = ds.length → (∀ (i : Nat) (v : V) (d : PyData), vs[i]? = some v → ds[i]? = some d → Da K H v d) → DaL K H vs ds
  | [], [], _, _ => .nil
  | v :: vs, d :: ds, hl, h => .cons (h 0 v d rfl rfl) (DaL.of_get (Nat.succ.inj hl) fun i v d h1 h2 => h (i + 1) v d h1 h2)
  | [], _ :: _, hl, _ => nomatch hl
  | _ :: _, [], hl, _ => nomatch hl
section
variable {c : Ent} {dr dr' : Dr} {ls : Ls} {σ : L2.St} {B B' H H' : Hp} {ta tb te : TE} {t : TA} {d : PyData} {ds es : List PyData}
/-- list(enumerate(xs)) as data -/
theorem e_listEnum (ha : EaD K c dr ls t σ B [.list ds]) : EvD K c dr ls (tListEnum K t) σ B (.list (ds.zipIdx.map fun e => .tuple [nI e.2, e.1])) := fun B1 H1 e1 w Q q => ha B1 H1 e1 w _ fun vs B2 H2 e2 w2 f => by
  obtain ⟨v, r, rfl, fv, fr⟩ := f.cons_inv
  rw [fr.nil_eq]
  obtain ⟨a, xs, rfl, hx, hd⟩ := fv.lst_inv
  refine ⟨a, xs, rfl, SqL.of (w2.inn _ _ hx), fun ts p H3 old hp np hl tl tt => ?_⟩
  have ht : ∀ x, x ∈ ts → H2 x = none := fun x hx => by
    obtain ⟨i, hi⟩ := List.getElem?_of_mem hx
    have hl : i < ts.length := (List.getElem?_eq_some_iff.mp hi).1
    exact (tt i x _ hi (List.getElem?_eq_getElem (by omega))).1
  have new : ∀ b, b = p ∨ b ∈ ts → H2 b = none := fun b h => h.elim (fun z => by rw [z]; exact hp) (ht b)
  let B3 : Hp := fun b => if b = p ∨ b ∈ ts then H3 b else B2 b
  have at1 : ∀ b, b = p ∨ b ∈ ts → B3 b = H3 b := fun b h => if_pos h
  have at2 : ∀ b, ¬ (b = p ∨ b ∈ ts) → B3 b = B2 b := fun b h => if_neg h
  have e3 : Ex B2 B3 := fun b o h => by
    rw [at2 b fun z => by
      have n := new b z
      rw [w2.inn _ _ h] at n
      cases n]
    exact h
  have w3 : Wd K c dr ls B3 H3 := w2.after e3 (fun b o h => by
    by_cases z : b = p ∨ b ∈ ts
    · rw [at1 b z] at h
      exact h
    · rw [at2 b z] at h
      exact old _ _ (w2.inn _ _ h)) old fun b h => by
    by_cases z : b = p ∨ b ∈ ts
    · exact .inr (new b z)
    · rw [at2 b z] at h
      exact .inl h
  refine q (.ref p) B3 H3 (e2.trans e3) w3 (.lst (by rw [at1 p (.inl rfl)]; exact hl) (DaL.of_get ?_ fun i v d h1 h2 => ?_))
  · rw [List.length_map, List.length_map, List.length_zipIdx, tl, hd.len]
  · rw [List.getElem?_map] at h1 h2
    cases hti : ts[i]? with
    | none =>
      rw [hti] at h1
      cases h1
    | some ti =>
      rw [hti] at h1
      cases h1
      have hil : i < ts.length := (List.getElem?_eq_some_iff.mp hti).1
      have hxi : xs[i]? = some (xs[i]'(by omega)) := List.getElem?_eq_getElem _
      obtain ⟨d0, hdi, fx⟩ := hd.get' hxi
      rw [List.getElem?_zipIdx, hdi] at h2
      cases h2
      have h3 := (tt i ti _ hti hxi).2
      rw [← at1 ti (.inr (List.mem_of_getElem? hti))] at h3
      show Da K B3 (.ref ti) (.tuple [nI (0 + i), d0])
      rw [Nat.zero_add]
      exact .tup h3 (.cons (.int _) (.cons (fx.mono e3) .nil))
/-- repr of a tuple of data -/
theorem e_repr (ha : EvD K c dr ls ta σ B (.tuple ds)) (h1 : (PyData.tuple ds).showable = true) (h2 : (PyData.tuple ds).hasDict = false) (h3 : (PyData.tuple ds).shown.length ≤ sizeLine) (h4 : (PyData.tuple ds).depth ≤ 60) :
    EvD K c dr ls (tCB (rReprD K) (tCons ta tNil)) σ B (.str (PyData.tuple ds).shown) := fun B1 H1 e1 w Q q => ha B1 H1 e1 w _ fun v B2 H2 e2 w2 f => by
  obtain ⟨a, xs, rfl, hx, hd⟩ := f.tup_inv
  exact ⟨.ref a, .tuple ds, rfl, (f.mono w2.inn).dp, ⟨a, rfl⟩, h1, h2, h3, h4, q _ B2 H2 e2 w2 (.str _)⟩
/-- x in xs, data -/
theorem e_inD (ha : EvD K c dr ls ta σ B d) (hb : EvD K c dr ls tb σ B (.list ds)) (h1 : SeqAt.shaped d = true) (h2 : SeqAt.shaped (.list ds) = true) : EvD K c dr ls (tOp (rInD K) ta tb) σ B (.bool (ds.any fun z => PyData.eqv z d)) :=
  e_op ha hb fun x y B1 _ fx fy => rv_of fun B2 H2 e w Q q => ⟨d, ds, ((fx.mono e).mono w.inn).dp, ((fy.mono e).mono w.inn).dp, h1, h2, q _ (.bl _)⟩
end
/-! #### how long a table is when it is shown -/
theorem vst_small {p : Prog} (pg : PgOk p) (h : Nat) : vst p h ≤ 40 := by
  by_cases l : h < nv p
  · obtain ⟨_, _, _, h2, _⟩ := view_from l
    have := pg.len
    omega
  · have e : vst p h = 0 := by
      show ((rows p).getD h row0).st = 0
      rw [List.getD_eq_getElem?_getD, List.getElem?_eq_none (by unfold nv at l; omega)]
      rfl
    omega
abbrev SmT (T : Tab) : Prop := ∀ e, e ∈ T → e.1 ≤ 400 ∧ e.2 ≤ 400
theorem next_small {p : Prog} (pg : PgOk p) {D : List Dem} {cs : List Nat} : ∀ (gs : List Goal) (i k s c : Nat), (∀ g, g ∈ gs → ∃ d, GoalFor p d g) → nextR (sysOf p pg.ok) cs gs i = some (k, s, c) → s ≤ 400 ∧ c ≤ 400
  | [], _, _, _, _, _, h => nomatch h
  | g :: gs, i, k, s, c, hg, h => by
    unfold nextR at h
    cases hr : raiseA (sysOf p pg.ok) cs g with
    | none =>
      rw [hr] at h
      exact next_small (D := D) pg gs (i + 1) k s c (fun g h => hg g (List.mem_cons_of_mem _ h)) h
    | some r =>
      rw [hr] at h
      cases h
      unfold raiseA at hr
      by_cases hh : hit cs g = true
      · rw [if_pos hh] at hr
        obtain ⟨x, _, hx⟩ := Option.map_eq_some_iff.mp hr
        cases hx
        obtain ⟨d, q, w, _, _, _, _, _, h6⟩ := (hg g List.mem_cons_self)
        have hne : g.ls ≠ [] := fun z => by
          unfold hit at hh
          rw [z] at hh
          cases hh
        obtain ⟨u, _, hu⟩ := h6 hne
        have h1 : vst p x ≤ 40 := vst_small pg x
        have h2 := pg.vend u
        have h3 : vend p u = vstart p u + vlen p u := rfl
        refine ⟨Nat.le_trans h1 (by decide), ?_⟩
        show g.e - vstart p x ≤ 400
        omega
      · rw [if_neg hh] at hr
        cases hr
theorem reach_small {p : Prog} (pg : PgOk p) {D : List Dem} {gs : List Goal} {T : Tab} (hg : GoalsFor p D gs) (h : Reach (tabs p pg.ok) gs T) : SmT T := by
  induction h with
  | nil => exact fun e he => absurd he List.not_mem_nil
  | put _ hn ih =>
    intro e he
    rcases putE_fst he with z | z
    · rw [z]
      exact next_small (D := D) pg gs 0 _ _ _ (fun g h => let ⟨d, _, x⟩ := hg.goal g h; ⟨d, x⟩) hn
    · exact ih e z
theorem least_small {p : Prog} (pg : PgOk p) {D : List Dem} {U : Tab} (h : IsLeast p pg.ok D (some U)) : SmT U := by
  obtain ⟨T, h1, _, rfl⟩ := h
  obtain ⟨gs, g1, _, g3, _⟩ := h1.ex
  exact fun e he => reach_small pg g1 g3 e (List.mem_filter.mp he).1
theorem shownAll_map : ∀ ds : List PyData, PyData.shownAll ds = ds.map PyData.shown
  | [] => rfl
  | d :: ds => by
    rw [PyData.shownAll, shownAll_map ds]
    rfl
theorem int_shown {n : Nat} (h : n ≤ 400) : (nI n).shown.length ≤ 3 := by
  have e : (nI n).shown = Str.ofString (toString (n : Int)) := by
    rw [PyData.shown]
  rw [e]
  exact toString_length_le (by omega) (by decide) (by omega)
theorem sum_le {l : List Nat} {b : Nat} (h : ∀ x, x ∈ l → x ≤ b) : l.sum ≤ b * l.length := by
  induction l with
  | nil => exact Nat.le_refl 0
  | cons a l ih =>
    rw [List.sum_cons, List.length_cons, Nat.mul_succ]
    have h1 := h a List.mem_cons_self
    have h2 := ih fun x hx => h x (List.mem_cons_of_mem _ hx)
    omega
theorem tup_shown {ds : List PyData} {b : Nat} (h : ∀ d, d ∈ ds → d.shown.length ≤ b) : (PyData.tuple ds).shown.length ≤ b * ds.length + 2 * ds.length + 3 := by
  rw [PyData.shown, shownAll_map]
  have h1 := tupleText_len_le (ds.map PyData.shown)
  rw [List.map_map, List.length_map] at h1
  have h2 := sum_le (l := ds.map ((fun x => x.length) ∘ PyData.shown)) (b := b) fun x hx => by
    obtain ⟨d, hd, rfl⟩ := List.mem_map.mp hx
    exact h d hd
  rw [List.length_map] at h2
  omega
theorem pair_shown {e : Nat × Nat} (h : e.1 ≤ 400 ∧ e.2 ≤ 400) : (dPair e).shown.length ≤ 20 := by
  have h1 := tup_shown (ds := [nI e.1, nI e.2]) (b := 3) fun d hd => by
    rcases List.mem_cons.mp hd with z | z
    · rw [z]
      exact int_shown h.1
    · rw [List.mem_singleton.mp z]
      exact int_shown h.2
  have h2 : [nI e.1, nI e.2].length = 2 := rfl
  rw [h2] at h1
  exact Nat.le_trans h1 (by decide)
theorem tab_shown {T : Tab} (h : SmT T) (hl : T.length ≤ 1000) : (dTab T).shown.length ≤ 30000 := by
  have h1 := tup_shown (ds := T.map dPair) (b := 20) fun d hd => by
    obtain ⟨e, he, rfl⟩ := List.mem_map.mp hd
    exact pair_shown (h e he)
  rw [List.length_map] at h1
  show (PyData.tuple (T.map dPair)).shown.length ≤ 30000
  omega
theorem told_shown {T : Tab} (h : SmT T) (hl : T.length ≤ 1000) : (PyData.tuple [.str "policy", dRule (.table T)]).shown.length ≤ sizeLine := by
  have w1 : (PyData.str "table").shown.length ≤ 30000 := by decide +kernel
  have w2 : (PyData.str "policy").shown.length ≤ 70000 := by decide +kernel
  have h1 : (dRule (.table T)).shown.length ≤ 30000 * 2 + 2 * 2 + 3 := tup_shown (ds := [.str "table", dTab T]) (b := 30000) fun d hd => by
    rcases List.mem_cons.mp hd with z | z
    · rw [z]
      exact w1
    · rw [List.mem_singleton.mp z]
      exact tab_shown h hl
  have h2 := tup_shown (ds := [.str "policy", dRule (.table T)]) (b := 70000) fun d hd => by
    rcases List.mem_cons.mp hd with z | z
    · rw [z]
      exact w2
    · rw [List.mem_singleton.mp z]
      omega
  refine Nat.le_trans h2 ?_
  show 70000 * 2 + 2 * 2 + 3 ≤ 2 ^ 24
  decide
theorem showAll_of : ∀ {ds : List PyData}, (∀ d, d ∈ ds → d.showable = true ∧ d.hasDict = false ∧ d.depth ≤ 50) → PyData.showableAll ds = true ∧ PyData.hasDictAll ds = false ∧ PyData.depthAll ds ≤ 50
  | [], _ => ⟨rfl, rfl, Nat.zero_le _⟩
  | d :: ds, h => by
    obtain ⟨h1, h2, h3⟩ := h d List.mem_cons_self
    obtain ⟨g1, g2, g3⟩ := showAll_of (ds := ds) fun e he => h e (List.mem_cons_of_mem _ he)
    rw [PyData.showableAll, PyData.hasDictAll, PyData.depthAll, h1, h2, g1, g2]
    exact ⟨rfl, rfl, by omega⟩
theorem told_plain {T : Tab} (h : SmT T) : (PyData.tuple [.str "policy", dRule (.table T)]).showable = true ∧ (PyData.tuple [.str "policy", dRule (.table T)]).hasDict = false ∧ (PyData.tuple [.str "policy", dRule (.table T)]).depth ≤ 60 := by
  have hi : ∀ n : Nat, n ≤ 400 → (nI n).showable = true := fun n hn => by
    rw [PyData.showable]
    refine decide_eq_true ?_
    have h1 : ((n : Nat) : Int).natAbs = n := by omega
    rw [h1]
    by_cases z : n = 0
    · rw [z]
      decide
    · have := (Nat.log2_lt z (k := 1920)).mpr (Nat.lt_of_le_of_lt hn (Nat.lt_of_lt_of_le (show 400 < 2 ^ 9 by decide) (Nat.pow_le_pow_right (by decide) (by decide))))
      exact this
  have hp : ∀ d, d ∈ T.map dPair → d.showable = true ∧ d.hasDict = false ∧ d.depth ≤ 50 := fun d hd => by
    obtain ⟨e, he, rfl⟩ := List.mem_map.mp hd
    obtain ⟨h1, h2⟩ := h e he
    show (PyData.tuple [nI e.1, nI e.2]).showable = true ∧ (PyData.tuple [nI e.1, nI e.2]).hasDict = false ∧ (PyData.tuple [nI e.1, nI e.2]).depth ≤ 50
    rw [PyData.showable, PyData.hasDict, PyData.depth, PyData.showableAll, PyData.showableAll, PyData.showableAll, hi _ h1, hi _ h2, PyData.hasDictAll, PyData.hasDictAll, PyData.hasDictAll, PyData.depthAll, PyData.depthAll, PyData.depthAll, PyData.hasDict, PyData.hasDict, PyData.depth, PyData.depth]
    exact ⟨rfl, rfl, by decide⟩
  obtain ⟨t1, t2, t3⟩ := showAll_of hp
  show (PyData.tuple [.str "policy", .tuple [.str "table", .tuple (T.map dPair)]]).showable = true ∧ _ = false ∧ _ ≤ 60
  have r1 : (PyData.tuple [.str "policy", .tuple [.str "table", .tuple (T.map dPair)]]).showable = true := by
    simp [PyData.showable, PyData.showableAll, t1]
  have r2 : (PyData.tuple [.str "policy", .tuple [.str "table", .tuple (T.map dPair)]]).hasDict = false := by
    simp [PyData.hasDict, PyData.hasDictAll, t2]
  have r3 : (PyData.tuple [.str "policy", .tuple [.str "table", .tuple (T.map dPair)]]).depth ≤ 60 := by
    simp [PyData.depth, PyData.depthAll]
    omega
  exact ⟨r1, r2, r3⟩
theorem allDem_len (p : Prog) (cp : Nat → Bool) : (allDem p cp).length = (reads p).length := by
  unfold allDem originsL
  rw [List.length_map, List.length_zipIdx, List.length_map]
theorem allDem_ok {p : Prog} (ok : Valid p) (ch : Ch) : DemsOk p (allDem p (cpOf p ch)) := fun d hd => by
  have h := mem_allDem.mp hd
  unfold originsL at h
  rw [List.getElem?_map] at h
  cases hq : (reads p)[d.1]? with
  | none =>
    rw [hq] at h
    cases h
  | some q =>
    rw [hq] at h
    obtain ⟨w, h1, _⟩ := (org_of ok ch hq).there
    have e : orig p (cpOf p ch) q = d.2 := Option.some.inj h
    rw [e] at h1
    exact ⟨q, w, hq, h1⟩
theorem allDem_data (p : Prog) (cp : Nat → Bool) : (((originsL p cp).map nI).zipIdx.map fun e => PyData.tuple [nI e.2, e.1]) = (allDem p cp).map dPair := by
  unfold allDem
  rw [List.map_map]
  refine List.ext_getElem? fun i => ?_
  rw [List.getElem?_map, List.getElem?_map, List.getElem?_zipIdx, List.getElem?_zipIdx, List.getElem?_map]
  cases (originsL p cp)[i]? <;> rfl
theorem cl_law_again (d : Df K mg "_law_again" s_law_again) (T : Tx K mg) (c_least_policy : Cl P w K mg base 7 "least_policy" (sp_least_policy K) []) (c_law_run : Cl P w K mg base 3 "_law_run" (sp_law_run K) []) : ClG P w K mg base 8 "_law_again" (sp_law_again K) := by
  refine clG_of d sc_law_again (fun f fd F => F.bindsN fun _ _ _ _ _ _ us hl => match us, hl with | [_, _], _ => rfl) (SpB.len fun _ => rfl) fun cdv f A outer s H vs Q E hg hr h => ?_
  have hu := hu_of hr
  refine ⟨_, (pss_cons (ps_set (i := 2) sc_law_again.nd rfl (Or.inl rfl) (pe_ix (ixT K) (pe_cl c_law_run hr (by decide) rfl (pa_cons (pv 0) (pa_cons (pv 1) pa_nil))) pe_int (fun _ _ => rfl)))
      (pss_cons (ps_set (i := 3) sc_law_again.nd rfl (Or.inl rfl) (pe_cl c_least_policy hr (by decide) rfl (pa_cons (pv 0) (pa_cons (pe_listEnum (by rfl) (by rfl) T.list (by rfl) T.enumerate (pa_cons (pv 2) pa_nil)) pa_nil))))
      (pss_one (ps_ret (pe_cmpR op_eq (pe_callB (call_reprD hg (room65 hr)) (by rfl) T.repr (by decide +kernel) (pa_cons (pe_slice (slT K) (pv 3) po_none (po_some pe_int)) pa_nil)) (pe_callB (call_reprD hg (room65 hr)) (by rfl) T.repr (by decide +kernel) (pa_cons (pe_tup (pa_cons pe_str (pa_cons (pv 1) pa_nil))) pa_nil)) (nomark _)))))), ?_⟩
  obtain ⟨B, ⟨⟨p, pg⟩, T0⟩, e0, dl, pre, q⟩ := h
  have W := Wd.start (K := K) e0
  obtain ⟨v1, r1, rfl, f1, dl⟩ := dl.cons_inv
  obtain ⟨v2, r2, rfl, f2, dl⟩ := dl.cons_inv
  cases dl
  obtain ⟨hTl, hag⟩ := pre
  have hTl : T0.length ≤ 1000 := hTl
  have hag : AgainOk p pg.ok T0 := hag
  have f1 : Da K B v1 (dProg p) := f1
  have f2 : Da K B v2 (dRule (.table T0)) := f2
  have q : RD K B H (.bool true) Q := q
  have hDl : (allDem p (cpOf p (tch T0))).length ≤ 60 := by
    rw [allDem_len]
    have h1 := readsN_len p p.length
    have h2 := pg.len
    unfold reads
    omega
  refine q_set W (e_runAt (ru := .table T0) (d := dNats (originsL p (cpOf p (tch T0)))) (a_cons (e_var f1) (a_cons (e_var f2) a_nil)) pg hTl fun _ => rfl) fun vs B1 H1 e1 W1 fs => ?_
  refine q_set W1 (c_B (a := ((⟨p, pg⟩ : Pg), allDem p (cpOf p (tch T0)))) (a_cons (e_var f1) (a_cons (EvB.to (e_listEnum (ds := (originsL p (cpOf p (tch T0))).map nI) (a_cons (e_var fs) a_nil)) (by rw [allDem_data] <;> rfl)) a_nil)) ⟨hDl, allDem_ok pg.ok (tch T0)⟩) fun vf B2 H2 e2 W2 ff => ?_
  obtain ⟨o, d, hL, hU, hd, ff⟩ := ff
  have hL : IsLeast p pg.ok (allDem p (cpOf p (tch T0))) o := hL
  have ho := hag o hL
  subst ho
  have sm := least_small pg hL
  obtain ⟨rs, rfl⟩ := hd
  obtain ⟨p1, p2, p3⟩ := told_plain sm
  refine s_ret W2 (EvB.to (e_eqS (e_repr (EvB.to (e_slT (ds := [.str "policy", dRule (.table T0), .list rs]) (e_var ff) o_none (o_some e_cint) (by show ¬ (HT.sIx 3 0 none = 0 ∧ HT.sIx 3 3 (some 2) = 3); decide)) (d1 := .tuple [.str "policy", dRule (.table T0)]) rfl) p1 p2 (told_shown sm hTl) p3) (e_repr (e_tup (a_cons e_cstr (a_cons (e_var f2) a_nil)) lk) p1 p2 (told_shown sm hTl) p3)) (d1 := .bool true) (by rw [decide_eq_true rfl])) rfl q
end GB
namespace GB
open PySem PySem.Spec PyProof.Rows L2
open Evl (Ex)
variable {P : Program} {w : World} {K : PySem.W.Frag} {mg : Str → Option Value} {base : Heap}

/-! ### is_right -/
theorem lay_list {ds : List PyData} {n : Nat} (h : ∀ d, d ∈ ds → d.canLay0 = true ∧ d.depth ≤ n) : (PyData.list ds).canLay0 = true ∧ (PyData.list ds).depth ≤ n + 1 := by
  have go : PyData.canLayAll0 ds = true ∧ PyData.depthAll ds ≤ n := by
    induction ds with
    | nil => exact ⟨rfl, Nat.zero_le _⟩
    | cons d ds ih =>
      obtain ⟨h1, h2⟩ := h d List.mem_cons_self
      obtain ⟨h3, h4⟩ := ih fun e he => h e (List.mem_cons_of_mem _ he)
      refine ⟨by rw [PyData.canLayAll0, h1, h3]; rfl, ?_⟩
      rw [PyData.depthAll]
      omega
  refine ⟨go.1, ?_⟩
  rw [PyData.depth]
  omega
theorem lay_O (o : Option Nat) : (dO o).canLay0 = true ∧ (dO o).depth ≤ 0 := by
  cases o with
  | none => exact ⟨rfl, by rw [dO, PyData.depth]; omega⟩
  | some n => exact ⟨rfl, by rw [dO, PyData.depth]; omega⟩
theorem lay_caps (l : List (Option Nat)) : (PyData.list (l.map dO)).canLay0 = true ∧ (PyData.list (l.map dO)).depth ≤ 1 := lay_list fun d hd => by
  obtain ⟨o, _, rfl⟩ := List.mem_map.mp hd
  exact lay_O o
theorem lay_capsD (p : Prog) (o : Option Tab) : (capsD p o).canLay0 = true ∧ (capsD p o).depth ≤ 2 := by
  cases o with
  | none => exact lay_list fun d hd => absurd hd List.not_mem_nil
  | some U =>
    refine lay_list fun d hd => ?_
    rw [List.mem_singleton.mp hd]
    exact lay_caps _
theorem shaped_of {d : PyData} (h : d.canLay0 = true ∧ d.depth ≤ 64) : SeqAt.shaped d = true := Bool.and_eq_true_iff.mpr ⟨h.1, decide_eq_true h.2⟩
theorem plain_caps (p : Prog) (o : Option Tab) : SeqAt.shaped (capsD p o) = true := shaped_of ⟨(lay_capsD p o).1, Nat.le_trans (lay_capsD p o).2 (by decide)⟩
theorem capsD_nil (p : Prog) (o : Option Tab) : PyData.eqv (capsD p o) (.list []) = o.isNone := by
  cases o with
  | none => exact eqv_nil []
  | some U => exact eqv_nil [_]
theorem atM_of {a b : Option Nat} (h : leO a b) : atM a b = true := by
  cases b with
  | none => cases a <;> rfl
  | some y =>
    cases a with
    | none =>
      obtain ⟨x, hx, _⟩ := h y rfl
      cases hx
    | some x => exact decide_eq_true (leO_some.mp h)
theorem all_atM {n : Nat} {f g : Nat → Option Nat} (h : ∀ i, i < n → leO (f i) (g i)) : ((((List.range n).map f).zip ((List.range n).map g)).all fun e => atM e.1 e.2) = true := by
  rw [List.all_eq_true]
  intro e he
  obtain ⟨i, hi⟩ := List.getElem?_of_mem he
  obtain ⟨h1, h2⟩ := zip_at hi
  rw [List.getElem?_map] at h1 h2
  obtain ⟨a, ha, ea⟩ := Option.map_eq_some_iff.mp h1
  obtain ⟨b, hb, eb⟩ := Option.map_eq_some_iff.mp h2
  rw [ha] at hb
  cases hb
  have hl := List.mem_range.mp (List.mem_of_getElem? ha)
  rw [← ea, ← eb]
  exact atM_of (h a hl)
theorem IsLeast.not {p : Prog} {ok : Valid p} {D E : List Dem} {U : Tab} (h : IsLeast p ok D none) (k : IsLeast p ok E (some U)) (s : ∀ d, d ∈ D → d ∈ E) : False := h (tch U) (tch_ge U) fun d hd => k.meets d (s d hd)
section
variable {c : Ent} {dr : Dr} {ls : Ls} {σ : L2.St} {B : Hp} {t : TA}
/-- the two lists of demands together -/
theorem e_cat2 {ta tb : TE} {D1 D2 : List Dem} (h1 : EvD K c dr ls ta σ B (dDems D1)) (h2 : EvD K c dr ls tb σ B (dDems D2)) (l1 : D1.length ≤ 4) (l2 : D2.length ≤ 4) : EvD K c dr ls (tOp rCat ta tb) σ B (dDems (D1 ++ D2)) :=
  EvB.to (EvN.data (l_cat (ds := D1.map dPair) (es := D2.map dPair) h1 h2 (by rw [List.length_map, List.length_map]; omega))) (by
    show PyData.list _ = PyData.list ((D1 ++ D2).map dPair)
    rw [List.map_append])
/-- is_at_most of the capacities under two rules -/
theorem e_atM {ta tb : TE} {p : Prog} {f g : Nat → Option Nat} (pg : PgOk p) (h1 : EvD K c dr ls ta σ B (.list (((List.range (nv p)).map f).map dO))) (h2 : EvD K c dr ls tb σ B (.list (((List.range (nv p)).map g).map dO))) (h : ∀ i, i < nv p → leO (f i) (g i)) :
    EvD K c dr ls (tCall (sp_law_is_at_most K) [] E0 (tCons ta (tCons tb tNil))) σ B (.bool true) :=
  EvB.to (c_D (a := ((List.range (nv p)).map f, (List.range (nv p)).map g)) (a_cons h1 (a_cons h2 a_nil)) ⟨by rw [List.length_map, List.length_range]; have := pg.nv; omega, by rw [List.length_map, List.length_map]⟩) (by
    show PyData.bool _ = _
    rw [all_atM h])
end
theorem cl_law_is_right (d : Df K mg "_law_is_right" s_law_is_right) (T : Tx K mg) (c_least_policy : Cl P w K mg base 7 "least_policy" (sp_least_policy K) []) (c_law_caps : Cl P w K mg base 8 "_law_caps" (sp_law_caps K) []) (c_law_run : Cl P w K mg base 3 "_law_run" (sp_law_run K) []) (c_law_is_at_most : Cl P w K mg base 1 "_law_is_at_most" (sp_law_is_at_most K) []) (c_law_is_met : Cl P w K mg base 4 "_law_is_met" (sp_law_is_met K) []) (c_law_again : ClG P w K mg base 8 "_law_again" (sp_law_again K)) : ClG P w K mg base 9 "_law_is_right" (sp_law_is_right K) := by
  refine clG_of d sc_law_is_right (fun f fd F => F.bindsN fun _ _ _ _ _ _ us hl => match us, hl with | [_, _, _, _], _ => rfl) (SpB.len fun _ => rfl) fun cdv f A outer s H vs Q E hg hr h => ?_
  have hu := hu_of hr
  refine ⟨_, (pss_cons (ps_set (i := 4) sc_law_is_right.nd rfl (Or.inl rfl) (pe_cl c_least_policy hr (by decide) rfl (pa_cons (pv 0) (pa_cons (pe_op op_cat (pv 2) (pv 3)) pa_nil))))
      (pss_cons (ps_set (i := 5) sc_law_is_right.nd rfl (Or.inl rfl) (pe_lst (pa_cons (pe_cl c_law_caps hr (by decide) rfl (pa_cons (pv 0) (pa_cons (pv 2) pa_nil))) (pa_cons (pe_cl c_law_caps hr (by decide) rfl (pa_cons (pv 0) (pa_cons (pv 3) pa_nil))) pa_nil))))
      (pss_cons (ps_if (PW.pt (pw_and (pt_cmpR (opInD K (room65 hr)) (pe_lst pa_nil) (pv 5) (by rfl)) (pw_and1 (pt_cmpR op_eq (pe_ix (ixT K) (pv 4) pe_int (fun _ _ => rfl)) pe_str (nomark _))))) (pss_one (ps_ret pe_bl)) pss_nil)
      (pss_cons (ps_for PassesOwn.never rfl (pi_zipLT (by rfl) T.zip (pa_cons (pv 5) (pa_cons (pe_tup (pa_cons (pv 2) (pa_cons (pv 3) pa_nil))) pa_nil))) (pgTup (n := 2) K (pgs_cons (pg_name (i := 6) sc_law_is_right.nd rfl (Or.inl rfl)) (pgs_cons (pg_name (i := 7) sc_law_is_right.nd rfl (Or.inl rfl)) pgs_nil))) (pss_one (ps_if (PW.pt (pw_and (pt_cmpR (opNeD K hr.units) (pv 6) (pe_lst pa_nil) (nomark _)) (pw_and1 (pt_val (pe_cl c_law_is_met hr (by decide) rfl (pa_cons (pv 0) (pa_cons (pv 1) (pa_cons (pv 7) pa_nil)))))))) (pss_one (ps_if (pt_not (pt_val (pe_cl c_law_is_at_most hr (by decide) rfl (pa_cons (pe_ix (ixL K) (pv 6) pe_int (fun _ _ => rfl)) (pa_cons (pe_ix (ixT K) (pe_cl c_law_run hr (by decide) rfl (pa_cons (pv 0) (pa_cons (pv 1) pa_nil))) pe_int (fun _ _ => rfl)) pa_nil))))) (pss_one (ps_ret pe_bl)) pss_nil)) pss_nil)))
      (pss_cons (ps_if (pt_cmpR op_ne (pe_ix (ixT K) (pv 4) pe_int (fun _ _ => rfl)) pe_str (nomark _)) (pss_one (ps_ret (pe_not (pe_cl c_law_is_met hr (by decide) rfl (pa_cons (pv 0) (pa_cons (pv 1) (pa_cons (pe_op op_cat (pv 2) (pv 3)) pa_nil))))))) pss_nil)
      (pss_cons (ps_if (PW.pt (pw_or (pt_not (pt_val (pe_cl c_law_is_met hr (by decide) rfl (pa_cons (pv 0) (pa_cons (pe_ix (ixT K) (pv 4) pe_int (fun _ _ => rfl)) (pa_cons (pe_op op_cat (pv 2) (pv 3)) pa_nil)))))) (pw_or1 (pt_not (pt_val (pe_clG c_law_again hg hr (by decide) rfl (pa_cons (pv 0) (pa_cons (pe_ix (ixT K) (pv 4) pe_int (fun _ _ => rfl)) pa_nil)))))))) (pss_one (ps_ret pe_bl)) pss_nil)
      (pss_cons (ps_set (i := 6) sc_law_is_right.nd rfl (Or.inl rfl) (pe_ix (ixT K) (pe_cl c_law_run hr (by decide) rfl (pa_cons (pv 0) (pa_cons (pe_ix (ixT K) (pv 4) pe_int (fun _ _ => rfl)) pa_nil))) pe_int (fun _ _ => rfl)))
      (pss_one (ps_ret (pe_and (pe_cl c_law_is_at_most hr (by decide) rfl (pa_cons (pe_ix (ixL K) (pe_ix (ixL K) (pv 5) pe_int (fun _ _ => rfl)) pe_int (fun _ _ => rfl)) (pa_cons (pv 6) pa_nil))) (pe_one (pe_cl c_law_is_at_most hr (by decide) rfl (pa_cons (pe_ix (ixL K) (pe_ix (ixL K) (pv 5) pe_int (fun _ _ => rfl)) pe_int (fun _ _ => rfl)) (pa_cons (pv 6) pa_nil)))))))))))))), ?_⟩
  obtain ⟨B, ⟨⟨p, pg⟩, ru, D1, D2⟩, e0, dl, pre, q⟩ := h
  have W := Wd.start (K := K) e0
  obtain ⟨v1, r1, rfl, f1, dl⟩ := dl.cons_inv
  obtain ⟨v2, r2, rfl, f2, dl⟩ := dl.cons_inv
  obtain ⟨v3, r3, rfl, f3, dl⟩ := dl.cons_inv
  obtain ⟨v4, r4, rfl, f4, dl⟩ := dl.cons_inv
  cases dl
  obtain ⟨rok, hD1, hD2, hl1, hl2⟩ := pre
  have rok : RuleOk ru := rok
  have hD1 : DemsOk p D1 := hD1
  have hD2 : DemsOk p D2 := hD2
  have hl1 : D1.length ≤ 4 := hl1
  have hl2 : D2.length ≤ 4 := hl2
  have f1 : Da K B v1 (dProg p) := f1
  have f2 : Da K B v2 (dRule ru) := f2
  have f3 : Da K B v3 (dDems D1) := f3
  have f4 : Da K B v4 (dDems D2) := f4
  have q : RD K B H (.bool true) Q := q
  have hge : Ge (chOf ru) := chOf_ge rok
  have hD : DemsOk p (D1 ++ D2) := fun d hd => (List.mem_append.mp hd).elim (hD1 d) (hD2 d)
  have hl : (D1 ++ D2).length ≤ 8 := by rw [List.length_append]; omega
  refine q_set W (c_B (a := ((⟨p, pg⟩ : Pg), D1 ++ D2)) (a_cons (e_var f1) (a_cons (e_cat2 (e_var f3) (e_var f4) hl1 hl2) a_nil)) ⟨Nat.le_trans hl (by decide), hD⟩) fun vb B1 H1 e1 W1 fb => ?_
  obtain ⟨o, d, hL, hU, hd, fb⟩ := fb
  have hL : IsLeast p pg.ok (D1 ++ D2) o := hL
  refine q_set W1 (EvN.dataB (l_lstB (P := fun ds => ∃ o1 o2, IsLeast p pg.ok D1 o1 ∧ IsLeast p pg.ok D2 o2 ∧ ds = [capsD p o1, capsD p o2])
    (a_consB (c_B (a := ((⟨p, pg⟩ : Pg), D1)) (a_cons (e_var f1) (a_cons (e_var f3) a_nil)) ⟨Nat.le_trans hl1 (by decide), hD1⟩) fun va B2 e2 fa => a_consB (c_B (a := ((⟨p, pg⟩ : Pg), D2)) (a_cons (e_var f1) (a_cons (e_var f4) a_nil)) ⟨Nat.le_trans hl2 (by decide), hD2⟩) fun vc B3 e3 fc => a_end fun B4 e4 => ?_) (by rintro ds ⟨_, _, _, _, rfl⟩; show 2 ≤ 100000; decide))) fun vp B2 H2 e2 W2 fp => ?_
  · obtain ⟨o1, h1, fa⟩ := fa
    obtain ⟨o2, h2, fc⟩ := fc
    exact ⟨_, .cons (fa.mono (e3.trans e4)) (.cons (fc.mono e4) .nil), o1, o2, h1, h2, rfl⟩
  obtain ⟨ds, fp, o1, o2, hL1, hL2, rfl⟩ := fp
  have no1 : o1 = none → ∀ U, o ≠ some U := fun h1 U hU => by
    subst h1
    subst hU
    exact hL1.not hL fun d hd => List.mem_append_left _ hd
  have no2 : o2 = none → ∀ U, o ≠ some U := fun h1 U hU => by
    subst h1
    subst hU
    exact hL2.not hL fun d hd => List.mem_append_right _ hd
  have hpl : SeqAt.shaped (.list [capsD p o1, capsD p o2]) = true := by
    have h := lay_list (ds := [capsD p o1, capsD p o2]) (n := 2) fun d hd => by
      rcases List.mem_cons.mp hd with z | z
      · rw [z]
        exact lay_capsD p o1
      · rw [List.mem_singleton.mp z]
        exact lay_capsD p o2
    exact shaped_of ⟨h.1, Nat.le_trans h.2 (by decide)⟩
  have hin : ([capsD p o1, capsD p o2].any fun z => PyData.eqv z (.list [])) = (o1.isNone || o2.isNone) := by
    show (PyData.eqv (capsD p o1) (.list []) || (PyData.eqv (capsD p o2) (.list []) || false)) = _
    rw [capsD_nil, capsD_nil, Bool.or_false]
  have hw : ∃ (x : Str) (r : List PyData), d = .tuple (.str x :: r) ∧ decide (x = ("policy" : Str)) = o.isSome := by
    cases o with
    | some U =>
      obtain ⟨rs, h⟩ := hd
      exact ⟨"policy", _, h, decide_eq_true rfl⟩
    | none =>
      obtain ⟨x, r, h, _, h2⟩ := hd
      exact ⟨x, r, h, decide_eq_false h2⟩
  obtain ⟨x, r, hdx, hx⟩ := hw
  have fb0 : Da K B1 vb (.tuple (.str x :: r)) := hdx ▸ fb
  refine q_ifF W2 (t_to (t_and (t_test (e_inD (EvN.data (l_lst a_nil lk)) (e_var fp) (shaped_of ⟨rfl, by rw [PyData.depth]; decide⟩) hpl)) fun _ => t_test (e_eqS (e_ixT (e_var fb0) e_cint (d := .str x) atI_0) e_cstr)) ?_) fun B3 H3 e3 W3 => ?_
  · rw [hin, hx]
    cases o with
    | none => exact Bool.and_false _
    | some U =>
      cases ho1 : o1 with
      | none => exact absurd rfl (no1 ho1 U)
      | some _ =>
        cases ho2 : o2 with
        | none => exact absurd rfl (no2 ho2 U)
        | some _ => rfl
  refine q_for W3 (i_zipM (ds := [capsD p o1, capsD p o2]) (es := [dDems D1, dDems D2]) (a_cons (e_var fp) (a_cons (e_tup (a_cons (e_var f3) (a_cons (e_var f4) a_nil)) lk) a_nil)) rfl) (fun i σ B' H' => ∃ a b, σ = [some v1, some v2, some v3, some v4, some vb, some vp, a, b] ∧ Wd K ⟨B, H, []⟩ none [] B' H')
    (fun B4 H4 e4 W4 => ⟨_, _, rfl, W4⟩) (fun i σ' B' H' iv => by obtain ⟨_, _, _, h⟩ := iv; exact h.inn) ?_ ?_
  · rintro i y σ' B0 B4 H4 B5 H5 hi e4 e5 ⟨xa, xb, rfl, W4⟩ e6 up fx
    have W5 := up _ _ W4
    have hex : ∃ (oi : Option Tab) (Di : List Dem), IsLeast p pg.ok Di oi ∧ DemsOk p Di ∧ Di.length ≤ 4 ∧ Da K B5 y (.tuple [capsD p oi, dDems Di]) := by
      match i, hi with
      | 0, _ => exact ⟨o1, D1, hL1, hD1, hl1, fx⟩
      | 1, _ => exact ⟨o2, D2, hL2, hD2, hl2, fx⟩
    obtain ⟨oi, Di, hLi, hDi, hli, fx⟩ := hex
    refine g_tup fx W5.inn rfl fun vs fv => g_cons fv fun va r1 fa fr => g_cons fr fun vd r2 fd fr => g_nil fr ?_
    cases oi with
    | none =>
      have fa : Da K B5 va (.list []) := fa
      refine s_ifF W5 (t_to (t_and (a := false) (b := true) (t_to (t_test (e_neNil (e_var fa) (plainL_of fun _ h => nomatch h))) rfl) fun z => nomatch z) rfl) fun B6 H6 e7 W6 => ?_
      exact ⟨B6, (e5.trans e6).trans e7, _, _, rfl, W6⟩
    | some U =>
      have fa : Da K B5 va (.list [.list (((List.range (nv p)).map (capOf p (tch U))).map dO)]) := fa
      have hpa : plainL [PyData.list (((List.range (nv p)).map (capOf p (tch U))).map dO)] := plain_caps p (some U)
      have tst := t_and (t_to (t_test (e_neNil (K := K) (c := ⟨B, H, []⟩) (dr := none) (ls := []) (σ := [some v1, some v2, some v3, some v4, some vb, some vp, some va, some vd]) (B := B5) (ta := tVar 6) (e_var fa) hpa)) (show (!([PyData.list (((List.range (nv p)).map (capOf p (tch U))).map dO)] : List PyData).isEmpty) = true from rfl))
        fun _ => t_B (c_D (K := K) (c := ⟨B, H, []⟩) (dr := none) (ls := []) (σ := [some v1, some v2, some v3, some v4, some vb, some vp, some va, some vd]) (B := B5) (args := fun a : Prog × Rule × List Dem => [dProg a.1, dRule a.2.1, dDems a.2.2]) (pre := fun a => PgOk a.1 ∧ RuleOk a.2.1 ∧ DemsOk a.1 a.2.2 ∧ a.2.2.length ≤ 1000) (res := fun a => .bool (metB a.1 (cpOf a.1 (chOf a.2.1)) a.2.2)) (t := tCons (tVar 0) (tCons (tVar 1) (tCons (tVar 7) tNil))) (a := (p, ru, Di))
          (a_cons (e_var f1) (a_cons (e_var f2) (a_cons (e_var fd) a_nil))) ⟨pg, rok, hDi, Nat.le_trans hli (by decide)⟩)
      refine s_if W5 tst (fun hb B6 H6 e7 W6 => ?_) (fun hb B6 H6 e7 W6 => ?_)
      · have hm : Met p (cpOf p (chOf ru)) Di := metB_iff.mp (by simpa using hb)
        refine s_ifF W6 (t_to (t_not (t_B (e_atM pg (e_ixL (e_var fa) e_cint (d := .list (((List.range (nv p)).map (capOf p (tch U))).map dO)) rfl) (e_runAt (ru := ru) (d := .list (((List.range (nv p)).map (capOf p (chOf ru))).map dO)) (a_cons (e_var f1) (a_cons (e_var f2) a_nil)) pg rok fun _ => rfl) (hLi.le hge hm)))) rfl) fun B7 H7 e8 W7 => ?_
        exact ⟨B7, ((e5.trans e6).trans e7).trans e8, _, _, rfl, W7⟩
      · exact ⟨B6, (e5.trans e6).trans e7, _, _, rfl, W6⟩
  · rintro σ' B4 H4 e4 ⟨xa, xb, rfl, W4⟩
    cases o with
    | none =>
      refine q_ifT W4 (t_to (t_test (e_neS (e_ixT (e_var fb0) e_cint (d := .str x) atI_0) e_cstr)) (by rw [hx] <;> rfl)) fun B5 H5 e5 W5 => ?_
      have hno : metB p (cpOf p (chOf ru)) (D1 ++ D2) = false := by
        cases z : metB p (cpOf p (chOf ru)) (D1 ++ D2) with
        | false => rfl
        | true => exact absurd (metB_iff.mp z) (hL (chOf ru) hge)
      exact s_ret W5 (EvB.to (e_notV (c_D (a := (p, ru, D1 ++ D2)) (a_cons (e_var f1) (a_cons (e_var f2) (a_cons (e_cat2 (e_var f3) (e_var f4) hl1 hl2) a_nil))) ⟨pg, rok, hD, Nat.le_trans hl (by decide)⟩)) (d1 := .bool true) (by show PyData.bool (!metB p (cpOf p (chOf ru)) (D1 ++ D2)) = _; rw [hno] <;> rfl)) rfl q
    | some U =>
      obtain ⟨rs, rfl⟩ := hd
      have hUl := hU U rfl
      refine q_ifF W4 (t_to (t_test (e_neS (e_ixT (e_var fb0) e_cint (d := .str x) atI_0) e_cstr)) (by rw [hx] <;> rfl)) fun B5 H5 e5 W5 => ?_
      have hm := hL.meets
      have hag : AgainOk p pg.ok U := fun o' ho' => by
        cases o' with
        | none => exact absurd ho' hL.again.1
        | some U' => rw [hL.again.2 U' ho']
      have fU : ∀ {σ : L2.St} {B' : Hp}, Ex B1 B' → σ[4]? = some (some vb) → EvD K ⟨B, H, []⟩ none [] (tOp (rIxT K) (tVar 4) (tC (.int 1))) σ B' (dRule (.table U)) := fun ex h4 => e_ixT (e_var fb h4 ex) e_cint rfl
      refine q_ifF W5 (t_to (t_or (a := false) (b := false) (t_to (t_not (t_B (c_D (a := (p, Rule.table U, D1 ++ D2)) (a_cons (e_var f1) (a_cons (fU (((e2.trans e3).trans e4).trans e5) rfl) (a_cons (e_cat2 (e_var f3) (e_var f4) hl1 hl2) a_nil))) ⟨pg, show RuleOk (.table U) from hUl, hD, Nat.le_trans hl (by decide)⟩))) ?_) fun _ =>
        t_to (t_not (t_B (c_D (a := ((⟨p, pg⟩ : Pg), U)) (a_cons (e_var f1) (a_cons (fU (((e2.trans e3).trans e4).trans e5) rfl) a_nil)) ⟨hUl, hag⟩))) rfl) rfl) fun B6 H6 e6 W6 => ?_
      · show (!metB p (cpOf p (tch U)) (D1 ++ D2)) = false
        rw [metB_iff.mpr hm] <;> rfl
      refine q_set W6 (e_runAt (ru := .table U) (d := .list (((List.range (nv p)).map (capOf p (tch U))).map dO)) (a_cons (e_var f1) (a_cons (fU ((((e2.trans e3).trans e4).trans e5).trans e6) rfl) a_nil)) pg hUl fun _ => rfl) fun vc B7 H7 e7 W7 fc => ?_
      cases ho1 : o1 with
      | none => exact absurd rfl (no1 ho1 U)
      | some U1 =>
        cases ho2 : o2 with
        | none => exact absurd rfl (no2 ho2 U)
        | some U2 =>
          subst ho1
          subst ho2
          have fp : Da K B2 vp (.list [.list [.list (((List.range (nv p)).map (capOf p (tch U1))).map dO)], .list [.list (((List.range (nv p)).map (capOf p (tch U2))).map dO)]]) := fp
          exact s_ret W7 (EvB.to (e_andV (e_atM pg (e_ixL (e_ixL (e_var fp) e_cint (d := .list [.list (((List.range (nv p)).map (capOf p (tch U1))).map dO)]) rfl) e_cint (d := .list (((List.range (nv p)).map (capOf p (tch U1))).map dO)) rfl) (e_var fc) (hL1.le (tch_ge U) fun d hd => hm d (List.mem_append_left _ hd)))
            fun _ => e_atM pg (e_ixL (e_ixL (e_var fp) e_cint (d := .list [.list (((List.range (nv p)).map (capOf p (tch U2))).map dO)]) rfl) e_cint (d := .list (((List.range (nv p)).map (capOf p (tch U2))).map dO)) rfl) (e_var fc) (hL2.le (tch_ge U) fun d hd => hm d (List.mem_append_right _ hd))) rfl) rfl q
end GB
namespace GB
open PySem PySem.Spec PyProof.Rows L2
open Evl (Ex)
variable {P : Program} {w : World} {K : PySem.W.Frag} {mg : Str → Option Value} {base : Heap}

/-! ### the law -/
/-- the state of the draws is made of the script -/
def sp_law_start (K : PySem.W.Frag) : Sp := fun vs H Q _ => ∃ (a : Addr) (ns : List Int), vs = [.ref a] ∧ SqL K H a (ns.map V.int) ∧
  ∀ (c p : Addr) (ms : List Int) (H' : Hp), Ex H H' → H c = none → H p = none → c ≠ p → H' c = some (.lst (ms.map V.int)) → H' p = some (.lst [.ref c, .int ((0 : Nat) : Int), .int ((0 : Nat) : Int)]) → Q (.ref p) H'
def sp_law (K : PySem.W.Frag) : Sp := fun vs H Q _ => ∃ (a : Addr) (ns : List Int), vs = [.ref a] ∧ SqL K H a (ns.map V.int) ∧ ∀ H', Q (.bl true) H'
theorem cutV_ints (ns : List Int) (lo hi : Option Int) : ∃ ms : List Int, cutV (ns.map V.int) lo hi = ms.map V.int := by
  unfold cutV
  rw [← List.map_drop, ← List.map_take]
  exact ⟨_, rfl⟩
theorem cl_law_start (d : Df K mg "_law_start" s_law_start) (T : Tx K mg)  : Cl P w K mg base 1 "_law_start" (sp_law_start K) [] := by
  refine cl_of d sc_law_start (fun f fd F => F.bindsN fun _ _ _ _ _ _ us hl => match us, hl with | [_], _ => rfl) (fun vs H Q E h => by obtain ⟨a, ns, rfl, _⟩ := h; rfl) fun cdv f A outer s H vs Q E hr h => ?_
  have hu := hu_of hr
  refine ⟨_, (pss_one (ps_ret (pe_lst (pa_cons (pe_callTy call_list_of (by rfl) T.list (by decide +kernel) (pa_cons (pe_slice (slL K) (pv 0) po_none (po_some pe_int)) pa_nil)) (pa_cons pe_int (pa_cons pe_int pa_nil)))))), ?_⟩
  obtain ⟨a, ns, rfl, hs, q⟩ := h
  obtain ⟨ms, hms⟩ := cutV_ints ns none (some 63)
  refine ⟨.ref a, rfl, 63, rfl, a, ns.map V.int, rfl, hs, fun p1 h1 => ?_⟩
  rw [hms]
  refine ⟨p1, ms.map V.int, rfl, .inl (SqL.of upd_same), fun p2 h2 => ⟨by show 3 ≤ sizeLine; decide, fun p3 h3 => ?_⟩⟩
  have n21 : p2 ≠ p1 := fun z => by
    rw [z, upd_same] at h2
    cases h2
  have n32 : p3 ≠ p2 := fun z => by
    rw [z, upd_same] at h3
    cases h3
  have e1 : Ex H (upd H p1 (.lst (ms.map V.int))) := Ex.new h1
  have e2 : Ex (upd H p1 (.lst (ms.map V.int))) (upd (upd H p1 (.lst (ms.map V.int))) p2 (.lst (ms.map V.int))) := Ex.new h2
  have g2 : H p2 = none := by
    rw [upd_ne n21] at h2
    exact h2
  have g3 : H p3 = none := by
    cases z : H p3 with
    | none => rfl
    | some u =>
      rw [e2 _ _ (e1 _ _ z)] at h3
      cases h3
  refine q p2 p3 ms _ ((e1.trans e2).trans (Ex.new h3)) g2 g3 n32.symm ?_ upd_same
  rw [upd_ne n32.symm]
  exact upd_same
theorem fn_law {f : Addr} {fd : FuncData} (F : FnP K "law" s_law [] f fd) (T : Tx K mg) (c_law_start : Cl P w K mg base 1 "_law_start" (sp_law_start K) []) (c_law_code : Cl P w K mg base 4 "_law_code" (sp_law_code K) []) (c_law_rows : Cl P w K mg base 1 "_law_rows" (sp_law_rows K) []) (c_law_rule : Cl P w K mg base 2 "_law_rule" (sp_law_rule K) []) (c_law_wanted : Cl P w K mg base 4 "_law_wanted" (sp_law_wanted K) []) (c_law_is_right : ClG P w K mg base 9 "_law_is_right" (sp_law_is_right K)) (c_law_caps : Cl P w K mg base 8 "_law_caps" (sp_law_caps K) []) (c_law_again : ClG P w K mg base 8 "_law_again" (sp_law_again K)) (c_law_run : Cl P w K mg base 3 "_law_run" (sp_law_run K) []) : FnG P w K mg base 10 f fd P_law (sp_law K) := by
  refine fnG_of F sc_law (fun vs H Q E h => by obtain ⟨a, ns, rfl, _⟩ := h; rfl) fun cdv A outer s H vs Q E hg hr h => ?_
  have hu := hu_of hr
  refine ⟨_, (pss_cons (ps_set (i := 1) sc_law.nd rfl (Or.inl rfl) (pe_cl c_law_start hr (by decide) rfl (pa_cons (pv 0) pa_nil)))
      (pss_cons (ps_for PassesOwn.never rfl (pi_range1 (by rfl) T.range (pa_cons pe_int pa_nil)) (pg_name (i := 2) sc_law.nd rfl (Or.inl rfl)) (pss_cons (ps_set (i := 3) sc_law.nd rfl (Or.inl rfl) (pe_cl c_law_code hr (by decide) rfl (pa_cons (pv 1) (pa_cons pe_int pa_nil))))
      (pss_cons (ps_set (i := 4) sc_law.nd rfl (Or.inl rfl) (pe_cl c_law_rows hr (by decide) rfl (pa_cons (pv 3) pa_nil)))
      (pss_cons (ps_set (i := 5) sc_law.nd rfl (Or.inl rfl) (pe_cl c_law_rule hr (by decide) rfl (pa_cons (pv 1) (pa_cons (pv 3) pa_nil))))
      (pss_cons (ps_set (i := 6) sc_law.nd rfl (Or.inl rfl) (pe_cl c_law_wanted hr (by decide) rfl (pa_cons (pv 1) (pa_cons (pv 3) (pa_cons (pv 4) (pa_cons pe_int (pa_cons (pv 5) pa_nil)))))))
      (pss_cons (ps_set (i := 7) sc_law.nd rfl (Or.inl rfl) (pe_cl c_law_wanted hr (by decide) rfl (pa_cons (pv 1) (pa_cons (pv 3) (pa_cons (pv 4) (pa_cons pe_int (pa_cons (pv 5) pa_nil)))))))
      (pss_cons (ps_if (pt_not (pt_val (pe_clG c_law_is_right hg hr (by decide) rfl (pa_cons (pv 3) (pa_cons (pv 5) (pa_cons (pv 6) (pa_cons (pv 7) pa_nil))))))) (pss_one (ps_ret pe_bl)) pss_nil)
      (pss_cons (ps_if (pt_cmpR (opNeD K hr.units) (pe_cl c_law_caps hr (by decide) rfl (pa_cons (pv 3) (pa_cons (pe_lst pa_nil) pa_nil))) (pe_lst (pa_cons (pe_ix (ixT K) (pe_cl c_law_run hr (by decide) rfl (pa_cons (pv 3) (pa_cons (pe_tup (pa_cons pe_str pa_nil)) pa_nil))) pe_int (fun _ _ => rfl)) pa_nil)) (nomark _)) (pss_one (ps_ret pe_bl)) pss_nil)
      (pss_one (ps_if (pt_not (pt_val (pe_clG c_law_again hg hr (by decide) rfl (pa_cons (pv 3) (pa_cons (pe_tup (pa_cons pe_str (pa_cons (pe_tup pa_nil) pa_nil))) pa_nil))))) (pss_one (ps_ret pe_bl)) pss_nil))))))))))
      (pss_one (ps_ret pe_bl)))), ?_⟩
  obtain ⟨a, ns, rfl, hs, q⟩ := h
  refine ⟨.ref a, rfl, a, ns, rfl, hs, fun cl st ms H1 x1 hc hst ne k1 k2 => ?_⟩
  let B1 : Hp := upd (fun _ => none) cl (.lst (ms.map V.int))
  have B1c : ∀ b u, B1 b = some u → b = cl ∧ u = .lst (ms.map V.int) := fun b u h => by
    by_cases z : b = cl
    · subst z
      have h : upd (fun _ => none) b (.lst (ms.map V.int)) b = some u := h
      rw [upd_same] at h
      exact ⟨rfl, (Option.some.inj h).symm⟩
    · have h : upd (fun _ => none) cl (.lst (ms.map V.int)) b = some u := h
      rw [upd_ne z] at h
      cases h
  have W1 : Wd K ⟨fun _ => none, H, []⟩ (some (st, 0)) [] B1 H1 := by
    refine ⟨fun b u h => (nomatch h), fun b u h => ?_, fun b h => .inr ?_, fun b u _ h => x1 _ _ h, fun b m => absurd m List.not_mem_nil, fun q m => absurd m List.not_mem_nil, List.nodup_nil, fun q hq => ?_⟩
    · obtain ⟨rfl, rfl⟩ := B1c b u h
      exact k1
    · cases z : B1 b with
      | none => exact absurd z h
      | some u =>
        obtain ⟨rfl, _⟩ := B1c b u z
        exact hc
    · cases hq
      refine ⟨⟨cl, ms, 0, 0, k2, upd_same, Nat.le_refl 0⟩, ?_, List.not_mem_nil⟩
      exact upd_ne (fun z => ne z.symm)
  have W1 : Wd K ⟨fun _ => none, H, []⟩ (some (st, 1000 * 0)) [] B1 H1 := W1
  have dst : st ∈ ([] : List Addr) ∨ H st = none := .inr hst
  refine q_for W1 (i_rng1 (a_cons e_cint a_nil)) (fun i σ B' H' => ∃ x2 x3 x4 x5 x6 x7, σ = [some (.ref a), some (.ref st), x2, x3, x4, x5, x6, x7] ∧ Wd K ⟨fun _ => none, H, []⟩ (some (st, 1000 * i)) [] B' H')
    (fun B2 H2 e2 W2 => ⟨_, _, _, _, _, _, rfl, W2⟩) (fun i σ' B' H' iv => by obtain ⟨_, _, _, _, _, _, _, h⟩ := iv; exact h.inn) ?_ ?_
  · rintro i x σ' B0 B2 H2 B3 H3 hi e2 e3 ⟨x2, x3, x4, x5, x6, x7, rfl, W2⟩ e4 up fx
    have W3 := up _ _ W2
    have hi : i < 3 := hi
    refine g_name ?_
    refine q_set W3 (c_W1 (a := ()) rfl dst (by show 1000 * i + 700 ≤ 1000000; omega) (a_cons e_cint a_nil) trivial) fun vp B4 H4 e5 W4 fp => ?_
    obtain ⟨p, pg, fp⟩ := fp
    refine q_set W4 (EvN.data (c_N (a := (p, true)) (a_cons (e_var fp) a_nil) ⟨pg.ok, by have := pg.len; show p.length ≤ 1000; omega⟩)) fun vw B5 H5 e6 W5 fw => ?_
    have fw : Da K B5 vw (dRows (rows p)) := fw
    refine q_set W5 (c_W1 (a := p) rfl dst (by show 1000 * i + 700 + 200 ≤ 1000000; omega) (a_cons (e_var fp) a_nil) pg) fun vr B6 H6 e7 W6 fr => ?_
    obtain ⟨r, rok, fr⟩ := fr
    refine q_set W6 (c_W1 (a := (p, r)) rfl dst (by show 1000 * i + 700 + 200 + 40 ≤ 1000000; omega) (a_cons (e_var fp) (a_cons (e_var fw) (a_cons e_cint (a_cons (e_var fr) a_nil)))) ⟨pg, rok⟩) fun vm B7 H7 e8 W7 fm => ?_
    obtain ⟨D1, hD1, l1, fm⟩ := fm
    refine q_set W7 (c_W1 (a := (p, r)) rfl dst (by show 1000 * i + 700 + 200 + 40 + 40 ≤ 1000000; omega) (a_cons (e_var fp) (a_cons (e_var fw) (a_cons e_cint (a_cons (e_var fr) a_nil)))) ⟨pg, rok⟩) fun vy B8 H8 e9 W8 fy => ?_
    obtain ⟨D2, hD2, l2, fy⟩ := fy
    refine q_ifF W8 (t_to (t_not (t_B (c_D (a := ((⟨p, pg⟩ : Pg), r, D1, D2)) (a_cons (e_var fp) (a_cons (e_var fr) (a_cons (e_var fm) (a_cons (e_var fy) a_nil)))) ⟨rok, hD1, hD2, l1, l2⟩))) rfl) fun B9 H9 e10 W9 => ?_
    have m0 : ∀ cp, Met p cp [] := fun cp d hd => absurd hd List.not_mem_nil
    refine q_ifF W9 (t_to (t_test (e_neD (d1 := capsD p (some [])) (d2 := capsD p (some [])) (EvB.imp (c_B (a := ((⟨p, pg⟩ : Pg), [])) (a_cons (e_var fp) (a_cons (EvN.data (l_lst a_nil lk)) a_nil)) ⟨Nat.zero_le _, fun d hd => absurd hd List.not_mem_nil⟩) fun v B' ex hv => ?_)
      (EvN.data (l_lst (a_cons (e_runAt (ru := .exact) (d := .list (((List.range (nv p)).map (capOf p (tch []))).map dO)) (a_cons (e_var fp) (a_cons (e_tup (a_cons e_cstr a_nil) lk) a_nil)) pg trivial fun _ => rfl) a_nil) lk)) (plain_caps p _) (plain_caps p _))) ?_) fun B10 H10 e11 W10 => ?_
    · obtain ⟨o, hL, fv⟩ := hv
      have hL : IsLeast p pg.ok [] o := hL
      cases o with
      | none => exact absurd (m0 _) (hL (tch []) (tch_ge []))
      | some U =>
        have hU := hL.nil (m0 _)
        subst hU
        exact fv
    · rw [SeqAt.eqv_refl _ (lay_capsD p _).1] <;> rfl
    have hag : AgainOk p pg.ok [] := fun o ho => by
      cases o with
      | none => exact absurd (allDem_met _) (ho (tch []) (tch_ge []))
      | some U => rw [ho.nil (allDem_met _)]
    refine s_ifF W10 (t_to (t_not (t_B (c_D (a := ((⟨p, pg⟩ : Pg), [])) (a_cons (e_var fp) (a_cons (e_tup (a_cons e_cstr (a_cons (e_tup a_nil lk) a_nil)) lk) a_nil)) ⟨Nat.zero_le _, hag⟩))) rfl) fun B11 H11 e12 W11 => ?_
    exact ⟨B11, (((((((((e3.trans e4).trans e5).trans e6).trans e7).trans e8).trans e9).trans e10).trans e11).trans e12), _, _, _, _, _, _, rfl, W11.up (by omega)⟩
  · rintro σ' B2 H2 e2 ⟨x2, x3, x4, x5, x6, x7, rfl, W2⟩
    exact s_retB W2 e_cbl fun v B3 H3 e3 W3 fv => by
      rw [fv.bl_eq]
      exact q H3
end GB
namespace GB
open PySem PySem.Spec PyProof.Rows L2
open Evl (Ex)
variable {P : Program} {w : World} {K : PySem.W.Frag} {mg : Str → Option Value} {base : Heap}

theorem e_isiI {c : Ent} {dr : Dr} {ls : Ls} {σ : L2.St} {B : Hp} {ta : TE} {i : Int} {n : String} {b : Bool} (ha : EvD K c dr ls ta σ B (.int i)) (hk : kitB "int" n = some b) : EvD K c dr ls (tCB (rIsi K) (tCons ta (tCons (tC (.ty n)) tNil))) σ B (.bool b) := fun B1 H1 e1 W Q q =>
  ha B1 H1 e1 W _ fun v B2 H2 e2 W2 fv => by
    rw [fv.int_eq]
    exact ⟨.int i, .ty n, _, _, b, rfl, .ty n, .base (.int i), kit_ty hk, q _ B2 H2 e2 W2 (.bl b)⟩
theorem cl_is_integer (d : Df K mg "is_integer" s_is_integer) (T : Tx K mg)  : Cl P w K mg base 1 "is_integer" (sp_is_integer K) [] := by
  refine cl_of d sc_is_integer (fun f fd F => F.bindsN fun _ _ _ _ _ _ us hl => match us, hl with | [_], _ => rfl) (SpB.len fun _ => rfl) fun cdv f A outer s H vs Q E hr h => ?_
  have hu := hu_of hr
  refine ⟨_, (pss_one (ps_ret (pe_and (pe_callB call_isi (by rfl) T.isinstance (by decide +kernel) (pa_cons (pv 0) (pa_cons (pe_bltn (v := .ty "int") (by rfl) T.int (by decide +kernel) rfl) pa_nil))) (pe_one (pe_not (pe_callB call_isi (by rfl) T.isinstance (by decide +kernel) (pa_cons (pv 0) (pa_cons (pe_bltn (v := .ty "bool") (by rfl) T.bool (by decide +kernel) rfl) pa_nil)))))))), ?_⟩
  obtain ⟨B, a, e0, dl, pre, q⟩ := h
  have W := Wd.start (K := K) e0
  obtain ⟨v1, r1, rfl, f1, dl⟩ := dl.cons_inv
  cases dl
  exact s_ret W (e_bool (e_andV (e_isiI (e_var f1) (b := true) (by decide +kernel)) fun _ => e_notV (e_isiI (e_var f1) (b := false) (by decide +kernel))) rfl) rfl q
theorem cl_is_between (d : Df K mg "is_between" s_is_between) (T : Tx K mg) (c_is_integer : Cl P w K mg base 1 "is_integer" (sp_is_integer K) []) : Cl P w K mg base 2 "is_between" (sp_is_between K) [] := by
  refine cl_of d sc_is_between (fun f fd F => F.bindsN fun _ _ _ _ _ _ us hl => match us, hl with | [_, _, _], _ => rfl) (SpB.len fun _ => rfl) fun cdv f A outer s H vs Q E hr h => ?_
  have hu := hu_of hr
  refine ⟨_, (pss_one (ps_ret (pe_and (pe_cl c_is_integer hr (by decide) rfl (pa_cons (pv 0) pa_nil)) (pe_one (pe_chain op_le op_le (pv 1) (pv 0) (pv 2)))))), ?_⟩
  obtain ⟨B, a, e0, dl, pre, q⟩ := h
  have W := Wd.start (K := K) e0
  obtain ⟨v1, r1, rfl, f1, dl⟩ := dl.cons_inv
  obtain ⟨v2, r2, rfl, f2, dl⟩ := dl.cons_inv
  obtain ⟨v3, r3, rfl, f3, dl⟩ := dl.cons_inv
  cases dl
  exact s_ret W (e_bool (e_andV (c_D (a := a.1) (a_cons (e_var f1) a_nil) trivial) fun _ => e_chainI (e_var f2) (e_var f1) (e_var f3)) (Bool.true_and _)) rfl q
theorem cl_span_of (d : Df K mg "span_of" s_span_of) (T : Tx K mg)  : Cl P w K mg base 1 "span_of" (sp_span_of K) [] := by
  refine cl_of d sc_span_of (fun f fd F => F.bindsN fun _ _ _ _ _ _ us hl => match us, hl with | [_, _], _ => rfl) (SpB.len fun _ => rfl) fun cdv f A outer s H vs Q E hr h => ?_
  have hu := hu_of hr
  refine ⟨_, (pss_cons (ps_set (i := 2) sc_span_of.nd rfl (Or.inl rfl) (pe_ix (ixT K) (pv 0) pe_int (fun _ _ => rfl)))
      (pss_cons (ps_if (pt_cmpR op_eq (pv 2) pe_str (nomark _)) (pss_one (ps_ret (pe_tup (pa_cons pe_int (pa_cons (pe_ix (ixT K) (pv 0) pe_int (fun _ _ => rfl)) pa_nil))))) pss_nil)
      (pss_cons (ps_if (pt_cmpR (opNotIn K) (pv 2) (pe_tup (pa_cons pe_str (pa_cons pe_str (pa_cons pe_str (pa_cons pe_str pa_nil))))) (by rfl)) (pss_one (ps_ret pe_non)) pss_nil)
      (pss_cons (ps_asg (pe_ix (ixL K) (pv 1) (pe_ix (ixT K) (pv 0) pe_int (fun _ _ => rfl)) (fun _ _ => rfl)) (pgTup (n := 2) K (pgs_cons (pg_name (i := 3) sc_span_of.nd rfl (Or.inl rfl)) (pgs_cons (pg_name (i := 4) sc_span_of.nd rfl (Or.inl rfl)) pgs_nil))))
      (pss_cons (ps_if (pt_cmpR op_eq (pv 2) pe_str (nomark _)) (pss_one (ps_ret (pe_tup (pa_cons (pe_op op_add (pv 3) (pe_ix (ixT K) (pv 0) pe_int (fun _ _ => rfl))) (pa_cons (pe_op op_sub (pe_ix (ixT K) (pv 0) pe_int (fun _ _ => rfl)) (pe_ix (ixT K) (pv 0) pe_int (fun _ _ => rfl))) pa_nil))))) pss_nil)
      (pss_cons (ps_if (pt_cmpR op_eq (pv 2) pe_str (nomark _)) (pss_one (ps_ret (pe_tup (pa_cons (pv 3) (pa_cons (pv 4) pa_nil))))) pss_nil)
      (pss_one (ps_ret (pe_tup (pa_cons (pv 3) (pa_cons (pe_op op_add (pv 4) (pe_callB call_len_seq (by rfl) T.len PySem.boot_len (pa_cons (pe_ix (ixT K) (pv 0) pe_int (fun _ _ => rfl)) pa_nil))) pa_nil))))))))))), ?_⟩
  obtain ⟨B, ⟨st, R, num⟩, e0, dl, pre, q⟩ := h
  have W := Wd.start (K := K) e0
  obtain ⟨v1, r1, rfl, f1, dl⟩ := dl.cons_inv
  obtain ⟨v2, r2, rfl, f2, dl⟩ := dl.cons_inv
  cases dl
  have at_ : ∀ v, v < R.length → atI (R.map dSpan) (v : Int) = some (dSpan (R.getD v row0)) := fun v hv => atI_map (get_of hv)
  cases st with
  | make l c =>
    refine q_set W (e_ixT (e_var f1) e_cint rfl) fun v B1 H1 e1 W1 fw => ?_
    obtain rfl := fw.str_eq
    refine q_ifT W1 (t_to (t_test (e_eqS e_str e_cstr)) (by show decide (("make" : Str) = "make") = true; decide +kernel)) fun B2 H2 e2 W2 => ?_
    exact s_ret W2 (e_tup (a_cons e_cint (a_cons (e_ixT (e_var f1) e_cint rfl) a_nil)) lk) rfl q
  | slice v0 lo hi =>
    refine q_set W (e_ixT (e_var f1) e_cint rfl) fun v B1 H1 e1 W1 fw => ?_
    obtain rfl := fw.str_eq
    refine q_ifF W1 (t_to (t_test (e_eqS e_str e_cstr)) (by show decide (("slice" : Str) = "make") = false; decide +kernel)) fun B2 H2 e2 W2 => ?_
    refine q_ifF W2 (t_to (t_test (e_inS (ns := ["slice", "clip", "append", "grow"]) e_str (e_tup (a_cons e_cstr (a_cons e_cstr (a_cons e_cstr (a_cons e_cstr a_nil)))) lk))) (by show (!decide (("slice" : Str) ∈ (["slice", "clip", "append", "grow"] : List Str))) = false; decide +kernel)) fun B3 H3 e3 W3 => ?_
    refine q_asg W3 (e_ixL (e_var f2) (e_ixT (e_var f1) e_cint rfl) (at_ _ pre.1)) fun v B4 H4 e4 W4 fs => ?_
    refine g_tup fs W4.inn rfl fun vs fv => g_cons fv fun va r fa fr => g_cons fr fun vb r fb fr => g_nil fr ?_
    refine q_ifT W4 (t_to (t_test (e_eqS e_str e_cstr)) (by show decide (("slice" : Str) = "slice") = true; decide +kernel)) fun B5 H5 e5 W5 => ?_
    refine s_ret W5 (e_tup (a_cons (e_ii (e_var fa) (e_ixT (e_var f1) e_cint rfl)) (a_cons (e_ii (e_ixT (e_var f1) e_cint rfl) (e_ixT (e_var f1) e_cint rfl)) a_nil)) lk) rfl ?_
    have e1 : ((hi : Nat) : Int) - lo = ((hi - lo : Nat) : Int) := by have := pre.2.1; omega
    rw [e1, ← Int.natCast_add]
    exact q
  | clip v0 =>
    refine q_set W (e_ixT (e_var f1) e_cint rfl) fun v B1 H1 e1 W1 fw => ?_
    obtain rfl := fw.str_eq
    refine q_ifF W1 (t_to (t_test (e_eqS e_str e_cstr)) (by show decide (("clip" : Str) = "make") = false; decide +kernel)) fun B2 H2 e2 W2 => ?_
    refine q_ifF W2 (t_to (t_test (e_inS (ns := ["slice", "clip", "append", "grow"]) e_str (e_tup (a_cons e_cstr (a_cons e_cstr (a_cons e_cstr (a_cons e_cstr a_nil)))) lk))) (by show (!decide (("clip" : Str) ∈ (["slice", "clip", "append", "grow"] : List Str))) = false; decide +kernel)) fun B3 H3 e3 W3 => ?_
    refine q_asg W3 (e_ixL (e_var f2) (e_ixT (e_var f1) e_cint rfl) (at_ _ pre)) fun v B4 H4 e4 W4 fs => ?_
    refine g_tup fs W4.inn rfl fun vs fv => g_cons fv fun va r fa fr => g_cons fr fun vb r fb fr => g_nil fr ?_
    refine q_ifF W4 (t_to (t_test (e_eqS e_str e_cstr)) (by show decide (("clip" : Str) = "slice") = false; decide +kernel)) fun B5 H5 e5 W5 => ?_
    refine q_ifT W5 (t_to (t_test (e_eqS e_str e_cstr)) (by show decide (("clip" : Str) = "clip") = true; decide +kernel)) fun B6 H6 e6 W6 => ?_
    exact s_ret W6 (e_tup (a_cons (e_var fa) (a_cons (e_var fb) a_nil)) lk) rfl q
  | app g v0 xs =>
    cases g with
    | false =>
      refine q_set W (e_ixT (e_var f1) e_cint rfl) fun v B1 H1 e1 W1 fw => ?_
      obtain rfl := fw.str_eq
      refine q_ifF W1 (t_to (t_test (e_eqS e_str e_cstr)) (by show decide (("append" : Str) = "make") = false; decide +kernel)) fun B2 H2 e2 W2 => ?_
      refine q_ifF W2 (t_to (t_test (e_inS (ns := ["slice", "clip", "append", "grow"]) e_str (e_tup (a_cons e_cstr (a_cons e_cstr (a_cons e_cstr (a_cons e_cstr a_nil)))) lk))) (by show (!decide (("append" : Str) ∈ (["slice", "clip", "append", "grow"] : List Str))) = false; decide +kernel)) fun B3 H3 e3 W3 => ?_
      refine q_asg W3 (e_ixL (e_var f2) (e_ixT (e_var f1) e_cint rfl) (at_ _ pre.1)) fun v B4 H4 e4 W4 fs => ?_
      refine g_tup fs W4.inn rfl fun vs fv => g_cons fv fun va r fa fr => g_cons fr fun vb r fb fr => g_nil fr ?_
      refine q_ifF W4 (t_to (t_test (e_eqS e_str e_cstr)) (by show decide (("append" : Str) = "slice") = false; decide +kernel)) fun B5 H5 e5 W5 => ?_
      refine q_ifF W5 (t_to (t_test (e_eqS e_str e_cstr)) (by show decide (("append" : Str) = "clip") = false; decide +kernel)) fun B6 H6 e6 W6 => ?_
      refine s_ret W6 (e_tup (a_cons (e_var fa) (a_cons (e_ii (e_var fb) (e_lenT (a_cons (e_ixT (e_var f1) e_cint rfl) a_nil))) a_nil)) lk) rfl ?_
      rw [List.length_map, ← Int.natCast_add]
      exact q
    | true =>
      refine q_set W (e_ixT (e_var f1) e_cint rfl) fun v B1 H1 e1 W1 fw => ?_
      obtain rfl := fw.str_eq
      refine q_ifF W1 (t_to (t_test (e_eqS e_str e_cstr)) (by show decide (("grow" : Str) = "make") = false; decide +kernel)) fun B2 H2 e2 W2 => ?_
      refine q_ifF W2 (t_to (t_test (e_inS (ns := ["slice", "clip", "append", "grow"]) e_str (e_tup (a_cons e_cstr (a_cons e_cstr (a_cons e_cstr (a_cons e_cstr a_nil)))) lk))) (by show (!decide (("grow" : Str) ∈ (["slice", "clip", "append", "grow"] : List Str))) = false; decide +kernel)) fun B3 H3 e3 W3 => ?_
      refine q_asg W3 (e_ixL (e_var f2) (e_ixT (e_var f1) e_cint rfl) (at_ _ pre.1)) fun v B4 H4 e4 W4 fs => ?_
      refine g_tup fs W4.inn rfl fun vs fv => g_cons fv fun va r fa fr => g_cons fr fun vb r fb fr => g_nil fr ?_
      refine q_ifF W4 (t_to (t_test (e_eqS e_str e_cstr)) (by show decide (("grow" : Str) = "slice") = false; decide +kernel)) fun B5 H5 e5 W5 => ?_
      refine q_ifF W5 (t_to (t_test (e_eqS e_str e_cstr)) (by show decide (("grow" : Str) = "clip") = false; decide +kernel)) fun B6 H6 e6 W6 => ?_
      refine s_ret W6 (e_tup (a_cons (e_var fa) (a_cons (e_ii (e_var fb) (e_lenT (a_cons (e_ixT (e_var f1) e_cint rfl) a_nil))) a_nil)) lk) rfl ?_
      rw [List.length_map, ← Int.natCast_add]
      exact q
  | write v0 i x =>
    refine q_set W (e_ixT (e_var f1) e_cint rfl) fun v B1 H1 e1 W1 fw => ?_
    obtain rfl := fw.str_eq
    refine q_ifF W1 (t_to (t_test (e_eqS e_str e_cstr)) (by show decide (("write" : Str) = "make") = false; decide +kernel)) fun B2 H2 e2 W2 => ?_
    refine q_ifT W2 (t_to (t_test (e_inS (ns := ["slice", "clip", "append", "grow"]) e_str (e_tup (a_cons e_cstr (a_cons e_cstr (a_cons e_cstr (a_cons e_cstr a_nil)))) lk))) (by show (!decide (("write" : Str) ∈ (["slice", "clip", "append", "grow"] : List Str))) = true; decide +kernel)) fun B3 H3 e3 W3 => ?_
    exact s_ret W3 e_cnon rfl q
  | move v0 i u0 z =>
    refine q_set W (e_ixT (e_var f1) e_cint rfl) fun v B1 H1 e1 W1 fw => ?_
    obtain rfl := fw.str_eq
    refine q_ifF W1 (t_to (t_test (e_eqS e_str e_cstr)) (by show decide (("move" : Str) = "make") = false; decide +kernel)) fun B2 H2 e2 W2 => ?_
    refine q_ifT W2 (t_to (t_test (e_inS (ns := ["slice", "clip", "append", "grow"]) e_str (e_tup (a_cons e_cstr (a_cons e_cstr (a_cons e_cstr (a_cons e_cstr a_nil)))) lk))) (by show (!decide (("move" : Str) ∈ (["slice", "clip", "append", "grow"] : List Str))) = true; decide +kernel)) fun B3 H3 e3 W3 => ?_
    exact s_ret W3 e_cnon rfl q
  | read v0 i =>
    refine q_set W (e_ixT (e_var f1) e_cint rfl) fun v B1 H1 e1 W1 fw => ?_
    obtain rfl := fw.str_eq
    refine q_ifF W1 (t_to (t_test (e_eqS e_str e_cstr)) (by show decide (("read" : Str) = "make") = false; decide +kernel)) fun B2 H2 e2 W2 => ?_
    refine q_ifT W2 (t_to (t_test (e_inS (ns := ["slice", "clip", "append", "grow"]) e_str (e_tup (a_cons e_cstr (a_cons e_cstr (a_cons e_cstr (a_cons e_cstr a_nil)))) lk))) (by show (!decide (("read" : Str) ∈ (["slice", "clip", "append", "grow"] : List Str))) = true; decide +kernel)) fun B3 H3 e3 W3 => ?_
    exact s_ret W3 e_cnon rfl q
end GB
namespace GB
open PySem PySem.Spec PyProof.Rows L2
open Evl (Ex)
variable {P : Program} {w : World} {K : PySem.W.Frag} {mg : Str → Option Value} {base : Heap}

theorem span_flat (o : Option Row) : flatD (match o with | some r => dSpan r | none => PyData.none) = true := by cases o <;> rfl
theorem par_ev {c : Ent} {dr : Dr} {ls : Ls} {σ : L2.St} {B B0 : Hp} {R : List Row} {n i : Nat} {st : Stm} {r : Row} {v : V} (hr : rowOf R n st = some r) (fb : Da K B0 v (dStm st)) (hs : σ[i]? = some (some v)) (hb : Ex B0 B) :
    EvD K c dr ls (tIf (tTest (tOp rEq (tOp (rIxT K) (tVar i) (tC (.int 0))) (tC (.str "make")))) (tC .non) (tOp (rIxT K) (tVar i) (tC (.int 1)))) σ B (dO r.par) := by
  cases st with
  | make l c =>
    have e : dO r.par = .none := by simp [rowOf] at hr; rw [← hr] <;> rfl
    rw [e]
    exact e_ifT (t_to (t_test (e_eqS (e_ixT (e_var fb hs hb) e_cint rfl) e_cstr)) (by show decide (("make" : Str) = "make") = true; decide +kernel)) e_cnon
  | slice v0 lo hi =>
    have e : dO r.par = nI v0 := by simp [rowOf] at hr; rw [← hr] <;> rfl
    rw [e]
    exact e_ifF (t_to (t_test (e_eqS (e_ixT (e_var fb hs hb) e_cint rfl) e_cstr)) (by show decide (("slice" : Str) = "make") = false; decide +kernel)) (e_ixT (e_var fb hs hb) e_cint rfl)
  | clip v0 =>
    have e : dO r.par = nI v0 := by simp [rowOf] at hr; rw [← hr] <;> rfl
    rw [e]
    exact e_ifF (t_to (t_test (e_eqS (e_ixT (e_var fb hs hb) e_cint rfl) e_cstr)) (by show decide (("clip" : Str) = "make") = false; decide +kernel)) (e_ixT (e_var fb hs hb) e_cint rfl)
  | app g v0 xs =>
    cases g with
    | false =>
      have e : dO r.par = nI v0 := by simp [rowOf] at hr; rw [← hr] <;> rfl
      rw [e]
      exact e_ifF (t_to (t_test (e_eqS (e_ixT (e_var fb hs hb) e_cint rfl) e_cstr)) (by show decide (("append" : Str) = "make") = false; decide +kernel)) (e_ixT (e_var fb hs hb) e_cint rfl)
    | true =>
      have e : dO r.par = nI v0 := by simp [rowOf] at hr; rw [← hr] <;> rfl
      rw [e]
      exact e_ifF (t_to (t_test (e_eqS (e_ixT (e_var fb hs hb) e_cint rfl) e_cstr)) (by show decide (("grow" : Str) = "make") = false; decide +kernel)) (e_ixT (e_var fb hs hb) e_cint rfl)
  | write v0 i x =>
    simp [rowOf] at hr
  | move v0 i u0 z =>
    simp [rowOf] at hr
  | read v0 i =>
    simp [rowOf] at hr
theorem cl_views (d : Df K mg "views" s_views) (T : Tx K mg) (c_span_of : Cl P w K mg base 1 "span_of" (sp_span_of K) []) : Cl P w K mg base 2 "views" (sp_views K) [] := by
  refine cl_of d sc_views (fun f fd F => F.bindsN fun _ _ _ _ _ _ us hl => match us, hl with | [_], _ => rfl) (SpN.len fun _ => rfl) fun cdv f A outer s H vs Q E hr h => ?_
  have hu := hu_of hr
  refine ⟨_, (pss_cons (ps_set (i := 1) sc_views.nd rfl (Or.inl rfl) (pe_lst pa_nil))
      (pss_cons (ps_set (i := 2) sc_views.nd rfl (Or.inl rfl) (pe_lst pa_nil))
      (pss_cons (ps_for PassesOwn.never rfl (pi_enumT (by rfl) T.enumerate (pa_cons (pv 0) pa_nil)) (pgTup (n := 2) K (pgs_cons (pg_name (i := 3) sc_views.nd rfl (Or.inl rfl)) (pgs_cons (pg_name (i := 4) sc_views.nd rfl (Or.inl rfl)) pgs_nil))) (pss_cons (ps_set (i := 5) sc_views.nd rfl (Or.inl rfl) (pe_cl c_span_of hr (by decide) rfl (pa_cons (pv 4) (pa_cons (pv 1) pa_nil))))
      (pss_one (ps_if (pt_cmpR op_notN (pv 5) pe_non (nomark _)) (pss_cons (ps_set (i := 6) sc_views.nd rfl (Or.inl rfl) (pe_ifExp (pt_cmpR op_eq (pe_ix (ixT K) (pv 4) pe_int (fun _ _ => rfl)) pe_str (nomark _)) pe_non (pe_ix (ixT K) (pv 4) pe_int (fun _ _ => rfl))))
      (pss_cons (ps_expr (pe_bm PySem.F.plainAttrs_list PySem.F.slot_list_append PySem.F.type_list_append mt_append (pv 1) (pa_cons (pv 5) pa_nil)))
      (pss_one (ps_expr (pe_bm PySem.F.plainAttrs_list PySem.F.slot_list_append PySem.F.type_list_append mt_append (pv 2) (pa_cons (pe_op (opCatT K) (pe_tup (pa_cons (pv 3) (pa_cons (pv 6) pa_nil))) (pv 5)) pa_nil)))))) pss_nil))))
      (pss_one (ps_ret (pv 2)))))), ?_⟩
  obtain ⟨B, p, e0, dl, pre, q⟩ := h
  have W := Wd.start (K := K) e0
  obtain ⟨v1, r1, rfl, f1, dl⟩ := dl.cons_inv
  cases dl
  have f1 : Da K B v1 (.tuple (p.map dStm)) := f1
  refine q_setN W (l_lst a_nil lk) fun p1 ds B1 H1 e1 h1 W1 hd => ?_
  subst hd
  refine q_setN W1 (l_lst a_nil lk) fun p2 ds B2 H2 e2 h2 W2 hd => ?_
  subst hd
  refine q_for W2 (i_enumT (a_cons (e_var f1) a_nil)) (fun i σ B' H' => ∃ a b c d, σ = [some v1, some (.ref p1), some (.ref p2), a, b, c, d] ∧ Wd K ⟨B, H, []⟩ none [(p2, .l ((rowsN p i).map dRow)), (p1, .l ((rowsN p i).map dSpan))] B' H')
    (fun B3 H3 e3 W3 => ⟨_, _, _, _, rfl, W3⟩) (fun i σ' B' H' iv => iv.choose_spec.choose_spec.choose_spec.choose_spec.2.inn) ?_ ?_
  · intro i x σ' B0 B3 H3 B4 H4 hi e3 e4 iv e5 up fx
    obtain ⟨xa, xb, xc, xd, rfl, W3⟩ := iv
    have W4 := up _ _ W3
    obtain ⟨st, hst, e⟩ := turn_stm hi
    have fx : Da K B4 x (.tuple [nI i, dStm st]) := by rw [← e]; exact fx
    have hl : i < p.length := (List.getElem?_eq_some_iff.mp hst).1
    refine g_tup fx W4.inn rfl fun vs fv => g_cons fv fun va r fa fr => g_cons fr fun vb r fb fr => g_nil fr ?_
    refine q_set (W4.perm (List.Perm.swap _ _ _)) (c_DF (p := p1) (a := (st, rowsN p i, i)) (f_cons (e_var fb) (f_ref f_nil)) (pre.ok i st hst) (span_flat _)) fun v B5 H5 e6 W5 fs => ?_
    have rl : ∀ j, (rowsN p j).length ≤ j := fun j => by
      induction j with
      | zero => exact Nat.le_refl 0
      | succ j ih =>
        cases hj : p[j]? with
        | none => rw [rowsN_out hj]; omega
        | some s => rw [rowsN_succ hj, List.length_append]; cases rowOf (rowsN p j) j s <;> simp <;> omega
    have hlen : (rowsN p i).length < 100000 := by have := rl i; have := pre.len; omega
    cases hr : rowOf (rowsN p i) i st with
    | none =>
      have fs : Da K B5 v .none := by rw [hr] at fs; exact fs
      refine s_ifF W5 (t_to (t_test (e_opNotN (e_var fs))) rfl) fun B6 H6 e7 W6 => ?_
      refine ⟨B6, (((e4.trans e5).trans e6).trans e7), _, _, _, _, rfl, ?_⟩
      rw [rowsN_succ hst, hr, Option.toList_none, List.append_nil]
      exact W6.perm (List.Perm.swap _ _ _)
    | some r =>
      have fs : Da K B5 v (dSpan r) := by rw [hr] at fs; exact fs
      refine s_ifT W5 (t_to (t_test (e_opNotN (e_var fs))) rfl) fun B6 H6 e7 W6 => ?_
      refine q_set W6 (par_ev hr fb rfl (e6.trans e7)) fun vp B7 H7 e8 W7 fp => ?_
      refine q_appD W7 (.inl h1) (e_var fs) (by rw [List.length_map]; exact hlen) fun B8 H8 e9 W8 => ?_
      refine s_appD (W8.perm (List.Perm.swap _ _ _)) (.inl h2) (e_catT (e_tup (a_cons (e_var fa) (a_cons (e_var fp) a_nil)) lk) (e_var fs) (by simp) (by simp) lk) (by rw [List.length_map]; exact hlen) fun B9 H9 e10 W9 => ?_
      refine ⟨B9, (((((e4.trans e5).trans e6).trans e7).trans e8).trans e9).trans e10, _, _, _, _, rfl, ?_⟩
      rw [rowsN_succ hst, hr, Option.toList_some, List.map_append, List.map_append]
      have hst' : r.st = i := rowOf_st hr
      rw [← hst'] at W9 ⊢
      exact W9
  · rintro σ' B3 H3 e3 ⟨xa, xb, xc, xd, rfl, W3⟩
    rw [List.length_map] at W3
    exact s_retP W3 h2 rfl q rfl
end GB
namespace GB
open PySem PySem.Spec PyProof.Rows L2
open Evl (Ex)
variable {P : Program} {w : World} {K : PySem.W.Frag} {mg : Str → Option Value} {base : Heap}

/-! reads, chosen -/
theorem cl_reads (d : Df K mg "reads" s_reads) (T : Tx K mg)  : Cl P w K mg base 1 "reads" (sp_reads K) [] := by
  refine cl_of d sc_reads (fun f fd F => F.bindsN fun _ _ _ _ _ _ us hl => match us, hl with | [_], _ => rfl) (SpN.len fun _ => rfl) fun cdv f A outer s H vs Q E hr h => ?_
  have hu := hu_of hr
  refine ⟨_, (pss_cons (ps_set (i := 1) sc_reads.nd rfl (Or.inl rfl) (pe_lst pa_nil))
      (pss_cons (ps_for PassesOwn.never rfl (pi_enumT (by rfl) T.enumerate (pa_cons (pv 0) pa_nil)) (pgTup (n := 2) K (pgs_cons (pg_name (i := 2) sc_reads.nd rfl (Or.inl rfl)) (pgs_cons (pg_name (i := 3) sc_reads.nd rfl (Or.inl rfl)) pgs_nil))) (pss_one (ps_if (pt_cmpR (opIn K) (pe_ix (ixT K) (pv 3) pe_int (fun _ _ => rfl)) (pe_tup (pa_cons pe_str (pa_cons pe_str pa_nil))) (by rfl)) (pss_one (ps_expr (pe_bm PySem.F.plainAttrs_list PySem.F.slot_list_append PySem.F.type_list_append mt_append (pv 1) (pa_cons (pe_op (opCatT K) (pe_tup (pa_cons (pv 2) pa_nil)) (pe_slice (slT K) (pv 3) (po_some (pe_un un_neg pe_int)) po_none)) pa_nil)))) pss_nil)))
      (pss_one (ps_ret (pv 1))))), ?_⟩
  obtain ⟨B, p, e0, dl, pre, q⟩ := h
  have W := Wd.start (K := K) e0
  obtain ⟨v1, r1, rfl, f1, dl⟩ := dl.cons_inv
  cases dl
  have f1 : Da K B v1 (.tuple (p.map dStm)) := f1
  refine q_setN W (l_lst a_nil lk) fun p1 ds B1 H1 e1 h1 W1 hd => ?_
  subst hd
  refine q_for W1 (i_enumT (a_cons (e_var f1) a_nil)) (fun i σ B' H' => ∃ a b, σ = [some v1, some (.ref p1), a, b] ∧ Wd K ⟨B, H, []⟩ none [(p1, .l ((readsN p i).map dRead))] B' H')
    (fun B3 H3 e3 W3 => ⟨_, _, rfl, W3⟩) (fun i σ' B' H' iv => iv.choose_spec.choose_spec.2.inn) ?_ ?_
  · intro i x σ' B0 B3 H3 B4 H4 hi e3 e4 iv e5 up fx
    obtain ⟨xa, xb, rfl, W3⟩ := iv
    have W4 := up _ _ W3
    obtain ⟨st, hst, e⟩ := turn_stm hi
    have fx : Da K B4 x (.tuple [nI i, dStm st]) := by rw [← e]; exact fx
    have hl : i < p.length := (List.getElem?_eq_some_iff.mp hst).1
    have hlen : ((readsN p i).map dRead).length < 100000 := by rw [List.length_map]; have := readsN_len p i; have := pre.len; omega
    refine g_tup fx W4.inn rfl fun vs fv => g_cons fv fun va r fa fr => g_cons fr fun vb r fb fr => g_nil fr ?_
    cases st with
    | make l c =>
      refine s_ifF W4 (t_to (t_test (e_inS (ns := ["read", "move"]) (e_ixT (e_var fb) e_cint rfl) (e_tup (a_cons e_cstr (a_cons e_cstr a_nil)) lk))) (by show decide (("make" : Str) ∈ (["read", "move"] : List Str)) = false; decide +kernel)) fun B5 H5 e6 W5 => ?_
      refine ⟨B5, (e4.trans e5).trans e6, _, _, rfl, ?_⟩
      rw [readsN_none (by intro v i z; rw [hst] at z; cases z) (by intro v i w q z; rw [hst] at z; cases z)]
      exact W5
    | slice v0 lo hi =>
      refine s_ifF W4 (t_to (t_test (e_inS (ns := ["read", "move"]) (e_ixT (e_var fb) e_cint rfl) (e_tup (a_cons e_cstr (a_cons e_cstr a_nil)) lk))) (by show decide (("slice" : Str) ∈ (["read", "move"] : List Str)) = false; decide +kernel)) fun B5 H5 e6 W5 => ?_
      refine ⟨B5, (e4.trans e5).trans e6, _, _, rfl, ?_⟩
      rw [readsN_none (by intro v i z; rw [hst] at z; cases z) (by intro v i w q z; rw [hst] at z; cases z)]
      exact W5
    | clip v0 =>
      refine s_ifF W4 (t_to (t_test (e_inS (ns := ["read", "move"]) (e_ixT (e_var fb) e_cint rfl) (e_tup (a_cons e_cstr (a_cons e_cstr a_nil)) lk))) (by show decide (("clip" : Str) ∈ (["read", "move"] : List Str)) = false; decide +kernel)) fun B5 H5 e6 W5 => ?_
      refine ⟨B5, (e4.trans e5).trans e6, _, _, rfl, ?_⟩
      rw [readsN_none (by intro v i z; rw [hst] at z; cases z) (by intro v i w q z; rw [hst] at z; cases z)]
      exact W5
    | app g v0 xs =>
      cases g with
      | false =>
        refine s_ifF W4 (t_to (t_test (e_inS (ns := ["read", "move"]) (e_ixT (e_var fb) e_cint rfl) (e_tup (a_cons e_cstr (a_cons e_cstr a_nil)) lk))) (by show decide (("append" : Str) ∈ (["read", "move"] : List Str)) = false; decide +kernel)) fun B5 H5 e6 W5 => ?_
        refine ⟨B5, (e4.trans e5).trans e6, _, _, rfl, ?_⟩
        rw [readsN_none (by intro v i z; rw [hst] at z; cases z) (by intro v i w q z; rw [hst] at z; cases z)]
        exact W5
      | true =>
        refine s_ifF W4 (t_to (t_test (e_inS (ns := ["read", "move"]) (e_ixT (e_var fb) e_cint rfl) (e_tup (a_cons e_cstr (a_cons e_cstr a_nil)) lk))) (by show decide (("grow" : Str) ∈ (["read", "move"] : List Str)) = false; decide +kernel)) fun B5 H5 e6 W5 => ?_
        refine ⟨B5, (e4.trans e5).trans e6, _, _, rfl, ?_⟩
        rw [readsN_none (by intro v i z; rw [hst] at z; cases z) (by intro v i w q z; rw [hst] at z; cases z)]
        exact W5
    | write v0 i0 x0 =>
      refine s_ifF W4 (t_to (t_test (e_inS (ns := ["read", "move"]) (e_ixT (e_var fb) e_cint rfl) (e_tup (a_cons e_cstr (a_cons e_cstr a_nil)) lk))) (by show decide (("write" : Str) ∈ (["read", "move"] : List Str)) = false; decide +kernel)) fun B5 H5 e6 W5 => ?_
      refine ⟨B5, (e4.trans e5).trans e6, _, _, rfl, ?_⟩
      rw [readsN_none (by intro v i z; rw [hst] at z; cases z) (by intro v i w q z; rw [hst] at z; cases z)]
      exact W5
    | move v0 i0 u0 z =>
      refine s_ifT W4 (t_to (t_test (e_inS (ns := ["read", "move"]) (e_ixT (e_var fb) e_cint rfl) (e_tup (a_cons e_cstr (a_cons e_cstr a_nil)) lk))) (by show decide (("move" : Str) ∈ (["read", "move"] : List Str)) = true; decide +kernel)) fun B5 H5 e6 W5 => ?_
      have er : readsN p (i + 1) = readsN p i ++ [(i, u0, z)] := by show (match p[i]? with | some (.read v i0) => readsN p i ++ [(i, v, i0)] | some (.move _ _ w q) => readsN p i ++ [(i, w, q)] | _ => readsN p i) = _; rw [hst]
      refine s_appD W5 (.inl h1) (e_catT (e_tup (a_cons (e_var fa) a_nil) lk) (EvB.to (d1 := .tuple [nI u0, nI z]) (e_slT (e_var fb) (o_some (e_neg e_cint)) o_none (by show ¬ (HT.sIx 5 0 (some (-2)) = 0 ∧ HT.sIx 5 5 none = 5); decide)) rfl) (by simp) (by simp) lk) hlen fun B6 H6 e7 W6 => ?_
      refine ⟨B6, ((e4.trans e5).trans e6).trans e7, _, _, rfl, ?_⟩
      rw [er, List.map_append]
      exact W6
    | read v0 i0 =>
      refine s_ifT W4 (t_to (t_test (e_inS (ns := ["read", "move"]) (e_ixT (e_var fb) e_cint rfl) (e_tup (a_cons e_cstr (a_cons e_cstr a_nil)) lk))) (by show decide (("read" : Str) ∈ (["read", "move"] : List Str)) = true; decide +kernel)) fun B5 H5 e6 W5 => ?_
      have er : readsN p (i + 1) = readsN p i ++ [(i, v0, i0)] := by show (match p[i]? with | some (.read v i0) => readsN p i ++ [(i, v, i0)] | some (.move _ _ w q) => readsN p i ++ [(i, w, q)] | _ => readsN p i) = _; rw [hst]
      refine s_appD W5 (.inl h1) (e_catT (e_tup (a_cons (e_var fa) a_nil) lk) (EvB.to (d1 := .tuple [nI v0, nI i0]) (e_slT (e_var fb) (o_some (e_neg e_cint)) o_none (by show ¬ (HT.sIx 3 0 (some (-2)) = 0 ∧ HT.sIx 3 3 none = 3); decide)) rfl) (by simp) (by simp) lk) hlen fun B6 H6 e7 W6 => ?_
      refine ⟨B6, ((e4.trans e5).trans e6).trans e7, _, _, rfl, ?_⟩
      rw [er, List.map_append]
      exact W6
  · rintro σ' B3 H3 e3 ⟨xa, xb, rfl, W3⟩
    rw [List.length_map] at W3
    exact s_retP W3 h1 rfl q rfl
theorem tabCap_list (T : Tab) (s n : Nat) : ((tabCap T s n : Nat) : Int) ∈ (n : Int) :: ((T.filter fun e => decide (e.1 = s)).map fun e => (e.2 : Int)) ∧
    ∀ y, y ∈ (n : Int) :: ((T.filter fun e => decide (e.1 = s)).map fun e => (e.2 : Int)) → y ≤ ((tabCap T s n : Nat) : Int) := by
  constructor
  · rcases tabCap_or T s n with h | h
    · rw [h]
      exact List.mem_cons_self
    · refine List.mem_cons_of_mem _ (List.mem_map.mpr ⟨_, List.mem_filter.mpr ⟨h, by simp⟩, rfl⟩)
  · intro y hy
    rcases List.mem_cons.mp hy with h | h
    · rw [h]
      have := tabCap_ge T s n
      omega
    · obtain ⟨e, he, rfl⟩ := List.mem_map.mp h
      obtain ⟨h1, h2⟩ := List.mem_filter.mp he
      have h2 : e.1 = s := of_decide_eq_true h2
      have := tabCap_mem_le (T := T) (s := s) (n := n) (c := e.2) (by rw [← h2]; exact h1)
      omega
theorem cl_chosen (d : Df K mg "chosen" s_chosen) (T : Tx K mg)  : Cl P w K mg base 1 "chosen" (sp_chosen K) [] := by
  refine cl_of d sc_chosen (fun f fd F => F.bindsN fun _ _ _ _ _ _ us hl => match us, hl with | [_, _, _], _ => rfl) (SpB.len fun _ => rfl) fun cdv f A outer s H vs Q E hr h => ?_
  have hu := hu_of hr
  refine ⟨_, (pss_cons (ps_if (pt_cmpR op_eq (pe_ix (ixT K) (pv 0) pe_int (fun _ _ => rfl)) pe_str (nomark _)) (pss_one (ps_ret pe_non)) pss_nil)
      (pss_cons (ps_if (pt_cmpR op_eq (pe_ix (ixT K) (pv 0) pe_int (fun _ _ => rfl)) pe_str (nomark _)) (pss_one (ps_ret (pe_op op_add (pv 2) (pe_ix (ixT K) (pv 0) pe_int (fun _ _ => rfl))))) pss_nil)
      (pss_cons (ps_if (pt_cmpR op_eq (pe_ix (ixT K) (pv 0) pe_int (fun _ _ => rfl)) pe_str (nomark _)) (pss_one (ps_ret (pe_op op_fdivW (pe_op op_sub (pe_op op_add (pe_op op_mul (pv 2) (pe_ix (ixT K) (pv 0) pe_int (fun _ _ => rfl))) (pe_ix (ixT K) (pv 0) pe_int (fun _ _ => rfl))) pe_int) (pe_ix (ixT K) (pv 0) pe_int (fun _ _ => rfl))))) pss_nil)
      (pss_cons (ps_if (pt_cmpR op_eq (pe_ix (ixT K) (pv 0) pe_int (fun _ _ => rfl)) pe_str (nomark _)) (pss_one (ps_ret (pe_callB (cr_max (by rfl)) (by rfl) T.max (by decide +kernel) (pa_cons (pe_op op_cat (pe_lst (pa_cons (pv 2) pa_nil)) (pe_lc (own := [("number", 3), ("capacity", 4)]) (by rfl) sc_chosen.nd (pi_tup (pe_ix (ixT K) (pv 0) pe_int (fun _ _ => rfl))) (blkOk_by (own := [("number", 3), ("capacity", 4)]) (N := N_chosen) (sc := defScope s_chosen) (by decide +kernel)) (fun _ _ _ _ _ => (pgTup (n := 2) K (pgs_cons (pg_name (i := 3) sc_chosen.nd rfl (Or.inl rfl)) (pgs_cons (pg_name (i := 4) sc_chosen.nd rfl (Or.inl rfl)) pgs_nil)))) (fun _ _ _ _ _ => (pts_one (pt_cmpR op_eq (pv 3) (pv 1) (nomark _)))) (fun _ _ _ _ _ => (pv 4)))) pa_nil)))) pss_nil)
      (pss_one (ps_ret (pv 2))))))), ?_⟩
  obtain ⟨B, ⟨ru, st, nd⟩, e0, dl, pre, q⟩ := h
  have W := Wd.start (K := K) e0
  obtain ⟨v1, r1, rfl, f1, dl⟩ := dl.cons_inv
  obtain ⟨v2, r2, rfl, f2, dl⟩ := dl.cons_inv
  obtain ⟨v3, r3, rfl, f3, dl⟩ := dl.cons_inv
  cases dl
  obtain ⟨rok, hnd⟩ := pre
  have f2 : Da K B v2 (nI st) := f2
  have f3 : Da K B v3 (nI nd) := f3
  have hnd : nd ≤ 100000 := hnd
  cases ru with
  | exact  =>
    refine q_ifF W (t_to (t_test (e_eqS (e_ixT (e_var f1) e_cint rfl) e_cstr)) (by show decide (("exact" : Str) = "endless") = false; decide +kernel)) fun B1 H1 e1 W1 => ?_
    refine q_ifF W1 (t_to (t_test (e_eqS (e_ixT (e_var f1) e_cint rfl) e_cstr)) (by show decide (("exact" : Str) = "step") = false; decide +kernel)) fun B2 H2 e2 W2 => ?_
    refine q_ifF W2 (t_to (t_test (e_eqS (e_ixT (e_var f1) e_cint rfl) e_cstr)) (by show decide (("exact" : Str) = "factor") = false; decide +kernel)) fun B3 H3 e3 W3 => ?_
    refine q_ifF W3 (t_to (t_test (e_eqS (e_ixT (e_var f1) e_cint rfl) e_cstr)) (by show decide (("exact" : Str) = "table") = false; decide +kernel)) fun B4 H4 e4 W4 => ?_
    exact s_ret W4 (e_var f3) rfl q
  | endless  =>
    refine q_ifT W (t_to (t_test (e_eqS (e_ixT (e_var f1) e_cint rfl) e_cstr)) (by show decide (("endless" : Str) = "endless") = true; decide +kernel)) fun B1 H1 e1 W1 => ?_
    exact s_ret W1 e_cnon rfl q
  | step k =>
    refine q_ifF W (t_to (t_test (e_eqS (e_ixT (e_var f1) e_cint rfl) e_cstr)) (by show decide (("step" : Str) = "endless") = false; decide +kernel)) fun B1 H1 e1 W1 => ?_
    refine q_ifT W1 (t_to (t_test (e_eqS (e_ixT (e_var f1) e_cint rfl) e_cstr)) (by show decide (("step" : Str) = "step") = true; decide +kernel)) fun B2 H2 e2 W2 => ?_
    refine s_ret W2 (e_ii (e_var f3) (e_ixT (e_var f1) e_cint rfl)) rfl ?_
    rw [← Int.natCast_add]
    exact q
  | factor a b =>
    refine q_ifF W (t_to (t_test (e_eqS (e_ixT (e_var f1) e_cint rfl) e_cstr)) (by show decide (("factor" : Str) = "endless") = false; decide +kernel)) fun B1 H1 e1 W1 => ?_
    refine q_ifF W1 (t_to (t_test (e_eqS (e_ixT (e_var f1) e_cint rfl) e_cstr)) (by show decide (("factor" : Str) = "step") = false; decide +kernel)) fun B2 H2 e2 W2 => ?_
    refine q_ifT W2 (t_to (t_test (e_eqS (e_ixT (e_var f1) e_cint rfl) e_cstr)) (by show decide (("factor" : Str) = "factor") = true; decide +kernel)) fun B3 H3 e3 W3 => ?_
    obtain ⟨b1, b2, b3⟩ := rok
    refine s_ret W3 (e_iiC (e_ii (e_ii (e_iiC (e_var f3) (e_ixT (e_var f1) e_cint rfl) (.inl ⟨by omega, by omega⟩)) (e_ixT (e_var f1) e_cint rfl)) e_cint) (e_ixT (e_var f1) e_cint rfl) (wide_div (j := (b : Int)) (b := 60) (by omega) (by omega) (by decide) (by decide))) rfl ?_
    have e : (((nd : Nat) : Int) * a + b - 1) / b = (((nd * a + b - 1) / b : Nat) : Int) := by rw [Int.natCast_ediv, Int.natCast_sub (by omega)]; push_cast; rfl
    rw [e]
    exact q
  | table t =>
    refine q_ifF W (t_to (t_test (e_eqS (e_ixT (e_var f1) e_cint rfl) e_cstr)) (by show decide (("table" : Str) = "endless") = false; decide +kernel)) fun B1 H1 e1 W1 => ?_
    refine q_ifF W1 (t_to (t_test (e_eqS (e_ixT (e_var f1) e_cint rfl) e_cstr)) (by show decide (("table" : Str) = "step") = false; decide +kernel)) fun B2 H2 e2 W2 => ?_
    refine q_ifF W2 (t_to (t_test (e_eqS (e_ixT (e_var f1) e_cint rfl) e_cstr)) (by show decide (("table" : Str) = "factor") = false; decide +kernel)) fun B3 H3 e3 W3 => ?_
    refine q_ifT W3 (t_to (t_test (e_eqS (e_ixT (e_var f1) e_cint rfl) e_cstr)) (by show decide (("table" : Str) = "table") = true; decide +kernel)) fun B4 H4 e4 W4 => ?_
    have rok : t.length ≤ 1000 := rok
    have f1 : Da K B v1 (.tuple [.str "table", .tuple (t.map dPair)]) := f1
    refine s_ret W4 (e_max (ns := (nd : Int) :: ((t.filter fun e => decide (e.1 = st)).map fun e => (e.2 : Int))) (a_cons (EvB.to (EvN.data (l_cat (EvN.data (l_lst (a_cons (e_var f3) a_nil) lk)) (EvN.data (l_lc (n := (t.map dPair).length) (f := fun i => (t.map dPair).getD i .none) (fun i => decide ((t.getD i (0, 0)).1 = st)) (fun i => nI (t.getD i (0, 0)).2)
      (i_tup (e_ixT (e_var f1) e_cint rfl)) (by rw [List.length_map]; omega) ?_)) ?_)) ?_) a_nil) (tabCap_list t st nd).1 (tabCap_list t st nd).2) rfl q
    · intro i x D acc B5 H5 hi e5 i5 fx R k
      obtain ⟨s, hs, e⟩ := turn_map hi
      have fx : Da K B5 x (dPair s) := by rw [← e]; exact fx
      refine g_tup fx i5 rfl fun vs fv => g_cons fv fun va r fa fr => g_cons fr fun vb r fb fr => g_nil fr ?_
      refine k _ rfl ?_ fun _ => ?_
      · rw [getD_mem' hs]
        refine t_to (t_test (e_eqI (e_var fa) (e_var f2))) ?_
        by_cases h : s.1 = st
        · rw [decide_eq_true h, decide_eq_true (by rw [h])]
        · rw [decide_eq_false h, decide_eq_false fun z => h (Int.ofNat_inj.mp z)]
      · rw [getD_mem' hs]
        exact e_var fb
    · have := given_len (t.map dPair).length (fun i => decide ((t.getD i (0, 0)).1 = st)) (fun i => nI (t.getD i (0, 0)).2)
      rw [List.length_map] at this ⊢
      show 1 + _ ≤ _
      omega
    · rw [List.length_map, given_filter t (0, 0) (fun e => decide (e.1 = st)) (fun e => nI e.2), List.map_cons, List.map_map]
      rfl
end GB
namespace GB
open PySem PySem.Spec PyProof.Rows L2
open Evl (Ex)
variable {P : Program} {w : World} {K : PySem.W.Frag} {mg : Str → Option Value} {base : Heap}

/-! allotted -/
theorem cap_len {p : Prog} (ok : Valid p) {ch : Ch} (ge : Ge ch) {i : Nat} (hi : i < nv p) : leO (some (vlen p i)) (capOf p ch i) := (runOf p ok ch ge).ge_cap hi
def allotS (p : Prog) (ch : Ch) (F : List Alt) (i : Nat) : Stm → Alt
  | .make _ c => (some c, vst p i, false)
  | .slice v lo _ => ((F.getD v alt0).1.map (· - lo), (F.getD v alt0).2.1, false)
  | .app g v _ => if (!g && fits (vlen p i) (F.getD v alt0).1) = true then ((F.getD v alt0).1, (F.getD v alt0).2.1, false) else (ch (vst p i) (vlen p i), vst p i, true)
  | _ => (some (vlen p i), (F.getD ((vpar p i).getD 0) alt0).2.1, false)
theorem cl_allotted (d : Df K mg "allotted" s_allotted) (T : Tx K mg) (c_chosen : Cl P w K mg base 1 "chosen" (sp_chosen K) []) : Cl P w K mg base 2 "allotted" (sp_allotted K) [] := by
  refine cl_of d sc_allotted (fun f fd F => F.bindsN fun _ _ _ _ _ _ us hl => match us, hl with | [_, _, _, _], _ => rfl) (SpB.len fun _ => rfl) fun cdv f A outer s H vs Q E hr h => ?_
  have hu := hu_of hr
  refine ⟨_, (pss_cons (ps_asg (pv 3) (pgTup (n := 4) K (pgs_cons (pg_name (i := 4) sc_allotted.nd rfl (Or.inl rfl)) (pgs_cons (pg_name (i := 5) sc_allotted.nd rfl (Or.inl rfl)) (pgs_cons (pg_name (i := 6) sc_allotted.nd rfl (Or.inl rfl)) (pgs_cons (pg_name (i := 7) sc_allotted.nd rfl (Or.inl rfl)) pgs_nil))))))
      (pss_cons (ps_set (i := 8) sc_allotted.nd rfl (Or.inl rfl) (pe_ix (ixT K) (pe_ix (ixT K) (pv 0) (pv 4) (fun _ _ => rfl)) pe_int (fun _ _ => rfl)))
      (pss_cons (ps_if (pt_cmpR op_eq (pv 8) pe_str (nomark _)) (pss_one (ps_ret (pe_tup (pa_cons (pe_ix (ixT K) (pe_ix (ixT K) (pv 0) (pv 4) (fun _ _ => rfl)) pe_int (fun _ _ => rfl)) (pa_cons (pv 4) (pa_cons pe_bl pa_nil)))))) pss_nil)
      (pss_cons (ps_asg (pe_ix (ixL K) (pv 2) (pv 5) (fun _ _ => rfl)) (pgTup (n := 3) K (pgs_cons (pg_name (i := 9) sc_allotted.nd rfl (Or.inl rfl)) (pgs_cons (pg_name (i := 10) sc_allotted.nd rfl (Or.inl rfl)) (pgs_cons (pg_name (i := 11) sc_allotted.nd rfl (Or.inl rfl)) pgs_nil)))))
      (pss_cons (ps_if (pt_cmpR op_eq (pv 8) pe_str (nomark _)) (pss_one (ps_ret (pe_tup (pa_cons (pv 7) (pa_cons (pv 10) (pa_cons pe_bl pa_nil)))))) pss_nil)
      (pss_cons (ps_if (pt_cmpR op_eq (pv 8) pe_str (nomark _)) (pss_one (ps_ret (pe_tup (pa_cons (pe_ifExp (pt_cmpR op_isN (pv 9) pe_non (nomark _)) pe_non (pe_op op_sub (pv 9) (pe_ix (ixT K) (pe_ix (ixT K) (pv 0) (pv 4) (fun _ _ => rfl)) pe_int (fun _ _ => rfl)))) (pa_cons (pv 10) (pa_cons pe_bl pa_nil)))))) pss_nil)
      (pss_cons (ps_if (PW.pt (pw_and (pt_cmpR op_eq (pv 8) pe_str (nomark _)) (pw_and1 (PW.pt (pw_or (pt_cmpR op_isN (pv 9) pe_non (nomark _)) (pw_or1 (pt_cmpR op_le (pv 7) (pv 9) (nomark _)))))))) (pss_one (ps_ret (pe_tup (pa_cons (pv 9) (pa_cons (pv 10) (pa_cons pe_bl pa_nil)))))) pss_nil)
      (pss_one (ps_ret (pe_tup (pa_cons (pe_cl c_chosen hr (by decide) rfl (pa_cons (pv 1) (pa_cons (pv 4) (pa_cons (pv 7) pa_nil)))) (pa_cons (pv 4) (pa_cons pe_bl pa_nil))))))))))))), ?_⟩
  obtain ⟨B, ⟨p, ru, i⟩, e0, dl, pre, q⟩ := h
  have W := Wd.start (K := K) e0
  obtain ⟨v1, r1, rfl, f1, dl⟩ := dl.cons_inv
  obtain ⟨v2, r2, rfl, f2, dl⟩ := dl.cons_inv
  obtain ⟨v3, r3, rfl, f3, dl⟩ := dl.cons_inv
  obtain ⟨v4, r4, rfl, f4, dl⟩ := dl.cons_inv
  cases dl
  obtain ⟨pg, rok, hi⟩ := pre
  have hi : i < nv p := hi
  have pg : PgOk p := pg
  obtain ⟨st, hst, hgd, hlt, hrow, hn⟩ := view_from hi
  have sh := view_shape pg.ok hi
  have hsz := pg.vend i
  rw [hgd] at sh
  have f1 : Da K B v1 (.tuple (p.map dStm)) := f1
  have f2 : Da K B v2 (dRule ru) := f2
  have f3 : Da K B v3 (.list ((allN p (chOf ru) i).map dAlt)) := f3
  have f4 : Da K B v4 (.tuple [nI (vst p i), dO (vpar p i), nI (vstart p i), nI (vlen p i)]) := f4
  have q : RD K B H (dAlt (allot1 p (chOf ru) (allN p (chOf ru) i) ((rows p).getD i row0))) Q := q
  have ea : allot1 p (chOf ru) (allN p (chOf ru) i) ((rows p).getD i row0) = allotS p (chOf ru) (allN p (chOf ru) i) i st := by rw [← hgd]; rfl
  rw [ea] at q
  have at_ : ∀ v, v < i → (allN p (chOf ru) i)[v]? = some ((allN p (chOf ru) i).getD v alt0) := fun v hv => by
    have hl : v < (allN p (chOf ru) i).length := by rw [allN_len]; exact hv
    rw [List.getD_eq_getElem?_getD, List.getElem?_eq_getElem hl]
    rfl
  refine q_asg W (e_var f4) fun v B1 H1 e1 W1 fr => ?_
  refine g_tup fr W1.inn rfl fun vs fv => g_cons fv fun va r fa fr => g_cons fr fun vb r fb fr => g_cons fr fun vc r fc fr => g_cons fr fun vd r fd fr => g_nil fr ?_
  cases st with
  | make l c =>
    have es : atI (p.map dStm) ((vst p i : Nat) : Int) = some (dStm _) := atI_map hst
    refine q_set W1 (e_ixT (e_ixT (e_var f1) (e_var fa) es) e_cint rfl) fun vw B2 H2 e2 W2 fw => ?_
    obtain rfl := fw.str_eq
    refine q_ifT W2 (t_to (t_test (e_eqS e_str e_cstr)) (by show decide (("make" : Str) = "make") = true; decide +kernel)) fun B3 H3 e3 W3 => ?_
    exact s_ret W3 (e_tup (a_cons (e_ixT (e_ixT (e_var f1) (e_var fa) es) e_cint rfl) (a_cons (e_var fa) (a_cons e_cbl a_nil))) lk) rfl q
  | slice v0 lo hj =>
    have es : atI (p.map dStm) ((vst p i : Nat) : Int) = some (dStm _) := atI_map hst
    refine q_set W1 (e_ixT (e_ixT (e_var f1) (e_var fa) es) e_cint rfl) fun vw B2 H2 e2 W2 fw => ?_
    obtain rfl := fw.str_eq
    refine q_ifF W2 (t_to (t_test (e_eqS e_str e_cstr)) (by show decide (("slice" : Str) = "make") = false; decide +kernel)) fun B3 H3 e3 W3 => ?_
    have hp : vpar p i = some v0 := sh.1
    have hv : v0 < i := sh.2.1
    rw [hp] at fb
    have fb : Da K B1 vb (nI v0) := fb
    refine q_asg W3 (e_ixL (e_var f3) (e_var fb) (atI_map (at_ v0 hv))) fun v B4 H4 e4 W4 fal => ?_
    have hcap : leO (some (vlen p v0)) (capOf p (chOf ru) v0) := cap_len pg.ok (chOf_ge rok) (by omega)
    have hgt : (allN p (chOf ru) i).getD v0 alt0 = altOf p (chOf ru) v0 := allN_getD _ hv
    have hcap : leO (some (vlen p v0)) ((allN p (chOf ru) i).getD v0 alt0).1 := by rw [hgt]; exact hcap
    have q : RD K B H (dAlt (((allN p (chOf ru) i).getD v0 alt0).1.map (· - lo), ((allN p (chOf ru) i).getD v0 alt0).2.1, false)) Q := q
    generalize (allN p (chOf ru) i).getD v0 alt0 = al at fal q hcap
    obtain ⟨cap, bl, cpd⟩ := al
    refine g_tup fal W4.inn rfl fun vs fv => g_cons fv fun ve r fe fr => g_cons fr fun vf r ff fr => g_cons fr fun vg r fg fr => g_nil fr ?_
    refine q_ifF W4 (t_to (t_test (e_eqS e_str e_cstr)) (by show decide (("slice" : Str) = "clip") = false; decide +kernel)) fun B5 H5 e5 W5 => ?_
    refine q_ifT W5 (t_to (t_test (e_eqS e_str e_cstr)) (by show decide (("slice" : Str) = "slice") = true; decide +kernel)) fun B6 H6 e6 W6 => ?_
    cases cap with
    | none => exact s_ret W6 (e_tup (a_cons (e_ifT (t_to (t_test (e_opIsN (e_var fe))) rfl) e_cnon) (a_cons (e_var ff) (a_cons e_cbl a_nil))) lk) rfl q
    | some ca =>
      refine s_ret W6 (e_tup (a_cons (e_ifF (t_to (t_test (e_opIsN (e_var fe))) rfl) (e_ii (e_var (d := nI ca) fe) (e_ixT (e_ixT (e_var f1) (e_var fa) es) e_cint rfl))) (a_cons (e_var ff) (a_cons e_cbl a_nil))) lk) rfl ?_
      have h1 : lo ≤ ca := by have h2 := leO_some.mp hcap; have h3 := sh; omega
      have e : ((ca : Nat) : Int) - lo = ((ca - lo : Nat) : Int) := by omega
      rw [e]
      exact q
  | clip v0 =>
    have es : atI (p.map dStm) ((vst p i : Nat) : Int) = some (dStm _) := atI_map hst
    refine q_set W1 (e_ixT (e_ixT (e_var f1) (e_var fa) es) e_cint rfl) fun vw B2 H2 e2 W2 fw => ?_
    obtain rfl := fw.str_eq
    refine q_ifF W2 (t_to (t_test (e_eqS e_str e_cstr)) (by show decide (("clip" : Str) = "make") = false; decide +kernel)) fun B3 H3 e3 W3 => ?_
    have hp : vpar p i = some v0 := sh.1
    have hv : v0 < i := sh.2.1
    rw [hp] at fb
    have fb : Da K B1 vb (nI v0) := fb
    refine q_asg W3 (e_ixL (e_var f3) (e_var fb) (atI_map (at_ v0 hv))) fun v B4 H4 e4 W4 fal => ?_
    have hcap : leO (some (vlen p v0)) (capOf p (chOf ru) v0) := cap_len pg.ok (chOf_ge rok) (by omega)
    have hgt : (allN p (chOf ru) i).getD v0 alt0 = altOf p (chOf ru) v0 := allN_getD _ hv
    have hcap : leO (some (vlen p v0)) ((allN p (chOf ru) i).getD v0 alt0).1 := by rw [hgt]; exact hcap
    simp only [allotS, hp] at q
    have q : RD K B H (dAlt (some (vlen p i), ((allN p (chOf ru) i).getD v0 alt0).2.1, false)) Q := q
    generalize (allN p (chOf ru) i).getD v0 alt0 = al at fal q hcap
    obtain ⟨cap, bl, cpd⟩ := al
    refine g_tup fal W4.inn rfl fun vs fv => g_cons fv fun ve r fe fr => g_cons fr fun vf r ff fr => g_cons fr fun vg r fg fr => g_nil fr ?_
    refine q_ifT W4 (t_to (t_test (e_eqS e_str e_cstr)) (by show decide (("clip" : Str) = "clip") = true; decide +kernel)) fun B5 H5 e5 W5 => ?_
    exact s_ret W5 (e_tup (a_cons (e_var fd) (a_cons (e_var ff) (a_cons e_cbl a_nil))) lk) rfl q
  | app g v0 xs =>
    cases g with
    | false =>
      have es : atI (p.map dStm) ((vst p i : Nat) : Int) = some (dStm _) := atI_map hst
      refine q_set W1 (e_ixT (e_ixT (e_var f1) (e_var fa) es) e_cint rfl) fun vw B2 H2 e2 W2 fw => ?_
      obtain rfl := fw.str_eq
      refine q_ifF W2 (t_to (t_test (e_eqS e_str e_cstr)) (by show decide (("append" : Str) = "make") = false; decide +kernel)) fun B3 H3 e3 W3 => ?_
      have hp : vpar p i = some v0 := sh.1
      have hv : v0 < i := sh.2.1
      rw [hp] at fb
      have fb : Da K B1 vb (nI v0) := fb
      refine q_asg W3 (e_ixL (e_var f3) (e_var fb) (atI_map (at_ v0 hv))) fun v B4 H4 e4 W4 fal => ?_
      have hcap : leO (some (vlen p v0)) (capOf p (chOf ru) v0) := cap_len pg.ok (chOf_ge rok) (by omega)
      have hgt : (allN p (chOf ru) i).getD v0 alt0 = altOf p (chOf ru) v0 := allN_getD _ hv
      have hcap : leO (some (vlen p v0)) ((allN p (chOf ru) i).getD v0 alt0).1 := by rw [hgt]; exact hcap
      have q : RD K B H (dAlt (if (!false && fits (vlen p i) ((allN p (chOf ru) i).getD v0 alt0).1) = true then (((allN p (chOf ru) i).getD v0 alt0).1, ((allN p (chOf ru) i).getD v0 alt0).2.1, false) else (chOf ru (vst p i) (vlen p i), vst p i, true))) Q := q
      generalize (allN p (chOf ru) i).getD v0 alt0 = al at fal q hcap
      obtain ⟨cap, bl, cpd⟩ := al
      refine g_tup fal W4.inn rfl fun vs fv => g_cons fv fun ve r fe fr => g_cons fr fun vf r ff fr => g_cons fr fun vg r fg fr => g_nil fr ?_
      refine q_ifF W4 (t_to (t_test (e_eqS e_str e_cstr)) (by show decide (("append" : Str) = "clip") = false; decide +kernel)) fun B5 H5 e5 W5 => ?_
      refine q_ifF W5 (t_to (t_test (e_eqS e_str e_cstr)) (by show decide (("append" : Str) = "slice") = false; decide +kernel)) fun B6 H6 e6 W6 => ?_
      have tst : Et K ⟨B, H, []⟩ none [] (tAnd (tTest (tOp rEq (tVar 8) (tC (.str "append")))) (tOr (tTest (tOp (fun x y H Q => y = .non ∧ Q (.bl (decide (x = .non))) H) (tVar 9) (tC .non))) (tTest (tOp (rI0 fun i j => .bl (decide (i ≤ j))) (tVar 7) (tVar 9))))) [some v1, some v2, some v3, some v4, some va, some vb, some vc, some vd, some (.str "append"), some ve, some vf, some vg] B6 (fits (vlen p i) cap) := by
        cases cap with
        | none => exact t_to (t_and (t_to (t_test (e_eqS e_str e_cstr)) (by show decide (("append" : Str) = "append") = true; decide +kernel)) fun _ => t_or (b := true) (t_to (t_test (e_opIsN (e_var fe))) rfl) fun z => nomatch z) rfl
        | some ca => exact t_to (t_and (t_to (t_test (e_eqS e_str e_cstr)) (by show decide (("append" : Str) = "append") = true; decide +kernel)) fun _ => t_or (t_to (t_test (e_opIsN (e_var fe))) rfl) fun _ => t_test (e_ib (e_var fd) (e_var (d := nI ca) fe))) (by show (true && (false || decide ((vlen p i : Int) ≤ (ca : Int)))) = decide (vlen p i ≤ ca); rw [Bool.true_and, Bool.false_or]; by_cases z : vlen p i ≤ ca; rw [decide_eq_true z, decide_eq_true (by omega)]; rw [decide_eq_false z, decide_eq_false (by omega)])
      refine q_if W6 tst (fun hf B7 H7 e7 W7 => ?_) (fun hf B7 H7 e7 W7 => ?_)
      · have hf2 : (!false && fits (vlen p i) cap) = true := by rw [hf] <;> rfl
        rw [if_pos hf2] at q
        exact s_ret W7 (e_tup (a_cons (e_var fe) (a_cons (e_var ff) (a_cons e_cbl a_nil))) lk) rfl q
      · have hf2 : ¬ (!false && fits (vlen p i) cap) = true := by rw [hf]; decide
        rw [if_neg hf2] at q
        exact s_ret W7 (e_tup (a_cons (c_D (a := (ru, vst p i, vlen p i)) (a_cons (e_var f2) (a_cons (e_var fa) (a_cons (e_var fd) a_nil))) ⟨rok, by show vlen p i ≤ 100000; omega⟩) (a_cons (e_var fa) (a_cons e_cbl a_nil))) lk) rfl q
    | true =>
      have es : atI (p.map dStm) ((vst p i : Nat) : Int) = some (dStm _) := atI_map hst
      refine q_set W1 (e_ixT (e_ixT (e_var f1) (e_var fa) es) e_cint rfl) fun vw B2 H2 e2 W2 fw => ?_
      obtain rfl := fw.str_eq
      refine q_ifF W2 (t_to (t_test (e_eqS e_str e_cstr)) (by show decide (("grow" : Str) = "make") = false; decide +kernel)) fun B3 H3 e3 W3 => ?_
      have hp : vpar p i = some v0 := sh.1
      have hv : v0 < i := sh.2.1
      rw [hp] at fb
      have fb : Da K B1 vb (nI v0) := fb
      refine q_asg W3 (e_ixL (e_var f3) (e_var fb) (atI_map (at_ v0 hv))) fun v B4 H4 e4 W4 fal => ?_
      have hcap : leO (some (vlen p v0)) (capOf p (chOf ru) v0) := cap_len pg.ok (chOf_ge rok) (by omega)
      have hgt : (allN p (chOf ru) i).getD v0 alt0 = altOf p (chOf ru) v0 := allN_getD _ hv
      have hcap : leO (some (vlen p v0)) ((allN p (chOf ru) i).getD v0 alt0).1 := by rw [hgt]; exact hcap
      have q : RD K B H (dAlt (if (!true && fits (vlen p i) ((allN p (chOf ru) i).getD v0 alt0).1) = true then (((allN p (chOf ru) i).getD v0 alt0).1, ((allN p (chOf ru) i).getD v0 alt0).2.1, false) else (chOf ru (vst p i) (vlen p i), vst p i, true))) Q := q
      generalize (allN p (chOf ru) i).getD v0 alt0 = al at fal q hcap
      obtain ⟨cap, bl, cpd⟩ := al
      refine g_tup fal W4.inn rfl fun vs fv => g_cons fv fun ve r fe fr => g_cons fr fun vf r ff fr => g_cons fr fun vg r fg fr => g_nil fr ?_
      refine q_ifF W4 (t_to (t_test (e_eqS e_str e_cstr)) (by show decide (("grow" : Str) = "clip") = false; decide +kernel)) fun B5 H5 e5 W5 => ?_
      refine q_ifF W5 (t_to (t_test (e_eqS e_str e_cstr)) (by show decide (("grow" : Str) = "slice") = false; decide +kernel)) fun B6 H6 e6 W6 => ?_
      refine q_ifF W6 (t_to (t_and (a := false) (b := true) (t_to (t_test (e_eqS e_str e_cstr)) (by show decide (("grow" : Str) = "append") = false; decide +kernel)) fun z => nomatch z) rfl) fun B7 H7 e7 W7 => ?_
      have q : RD K B H (dAlt (chOf ru (vst p i) (vlen p i), vst p i, true)) Q := q
      exact s_ret W7 (e_tup (a_cons (c_D (a := (ru, vst p i, vlen p i)) (a_cons (e_var f2) (a_cons (e_var fa) (a_cons (e_var fd) a_nil))) ⟨rok, by show vlen p i ≤ 100000; omega⟩) (a_cons (e_var fa) (a_cons e_cbl a_nil))) lk) rfl q
  | write v0 i x =>
    exact sh.elim
  | move v0 i u0 z =>
    exact sh.elim
  | read v0 i =>
    exact sh.elim
end GB
namespace GB
open PySem PySem.Spec PyProof.Rows L2
open Evl (Ex)
variable {P : Program} {w : World} {K : PySem.W.Frag} {mg : Str → Option Value} {base : Heap}

/-! allotments, copying -/
theorem cl_allotments (d : Df K mg "allotments" s_allotments) (T : Tx K mg) (c_views : Cl P w K mg base 2 "views" (sp_views K) []) (c_allotted : Cl P w K mg base 2 "allotted" (sp_allotted K) []) : Cl P w K mg base 3 "allotments" (sp_allotments K) [] := by
  refine cl_of d sc_allotments (fun f fd F => F.bindsN fun _ _ _ _ _ _ us hl => match us, hl with | [_, _], _ => rfl) (SpN.len fun _ => rfl) fun cdv f A outer s H vs Q E hr h => ?_
  have hu := hu_of hr
  refine ⟨_, (pss_cons (ps_set (i := 2) sc_allotments.nd rfl (Or.inl rfl) (pe_lst pa_nil))
      (pss_cons (ps_for PassesOwn.never rfl (pi_list (pe_cl c_views hr (by decide) rfl (pa_cons (pv 0) pa_nil))) (pg_name (i := 3) sc_allotments.nd rfl (Or.inl rfl)) (pss_one (ps_expr (pe_bm PySem.F.plainAttrs_list PySem.F.slot_list_append PySem.F.type_list_append mt_append (pv 2) (pa_cons (pe_cl c_allotted hr (by decide) rfl (pa_cons (pv 0) (pa_cons (pv 1) (pa_cons (pv 2) (pa_cons (pv 3) pa_nil))))) pa_nil)))))
      (pss_one (ps_ret (pv 2))))), ?_⟩
  obtain ⟨B, ⟨p, ru⟩, e0, dl, pre, q⟩ := h
  have W := Wd.start (K := K) e0
  obtain ⟨v1, r1, rfl, f1, dl⟩ := dl.cons_inv
  obtain ⟨v2, r2, rfl, f2, dl⟩ := dl.cons_inv
  cases dl
  obtain ⟨pg, rok⟩ := pre
  have pg : PgOk p := pg
  have f1 : Da K B v1 (dProg p) := f1
  have f2 : Da K B v2 (dRule ru) := f2
  refine q_setN W (l_lst a_nil lk) fun p1 ds B1 H1 e1 h1 W1 hd => ?_
  subst hd
  refine q_for W1 (i_list (EvN.data (c_N (a := p) (a_cons (e_var f1) a_nil) pg))) (fun i σ B' H' => ∃ a, σ = [some v1, some v2, some (.ref p1), a] ∧ Wd K ⟨B, H, []⟩ none [(p1, .l ((allN p (chOf ru) i).map dAlt))] B' H')
    (fun B3 H3 e3 W3 => ⟨_, rfl, W3⟩) (fun i σ' B' H' iv => iv.choose_spec.2.inn) ?_ ?_
  · intro i x σ' B0 B3 H3 B4 H4 hi e3 e4 iv e5 up fx
    obtain ⟨xa, rfl, W3⟩ := iv
    have W4 := up _ _ W3
    have hi' : i < nv p := by rw [List.length_map] at hi; exact hi
    have fx : Da K B4 x (dRow ((rows p).getD i row0)) := by rw [← getD_map (f := dRow) (row_at hi')]; exact fx
    refine s_appD (d := dAlt (allot1 p (chOf ru) (allN p (chOf ru) i) ((rows p).getD i row0))) W4 (.inl h1) (c_DF (p := p1) (a := (p, ru, i)) (f_cons (e_var f1) (f_cons (e_var f2) (f_ref (f_cons (e_var fx) f_nil)))) ⟨pg, rok, hi'⟩ (flat_alt _))
      (by rw [List.length_map, allN_len]; have := pg.nv; omega) fun B5 H5 e6 W5 => ?_
    refine ⟨B5, (e4.trans e5).trans e6, _, rfl, ?_⟩
    show Wd K _ none [(p1, .l ((allN p (chOf ru) i ++ [_]).map dAlt))] B5 H5
    rw [List.map_append]
    exact W5
  · rintro σ' B3 H3 e3 ⟨xa, rfl, W3⟩
    rw [List.length_map] at W3
    exact s_retP W3 h1 rfl q rfl
theorem cl_copying (d : Df K mg "copying" s_copying) (T : Tx K mg) (c_allotments : Cl P w K mg base 3 "allotments" (sp_allotments K) []) (c_views : Cl P w K mg base 2 "views" (sp_views K) []) : Cl P w K mg base 4 "copying" (sp_copying K) [] := by
  refine cl_of d sc_copying (fun f fd F => F.bindsN fun _ _ _ _ _ _ us hl => match us, hl with | [_, _], _ => rfl) (SpN.len fun _ => rfl) fun cdv f A outer s H vs Q E hr h => ?_
  have hu := hu_of hr
  refine ⟨_, (pss_cons (ps_set (i := 2) sc_copying.nd rfl (Or.inl rfl) (pe_cl c_allotments hr (by decide) rfl (pa_cons (pv 0) (pa_cons (pv 1) pa_nil))))
      (pss_one (ps_ret (pe_lc (own := [("row", 3), ("capacity", 4), ("block", 5), ("copied", 6)]) (by rfl) sc_copying.nd (pi_zipS (by rfl) T.zip (pa_cons (pe_cl c_views hr (by decide) rfl (pa_cons (pv 0) pa_nil)) (pa_cons (pv 2) pa_nil))) (blkOk_by (own := [("row", 3), ("capacity", 4), ("block", 5), ("copied", 6)]) (N := N_copying) (sc := defScope s_copying) (by decide +kernel)) (fun _ _ _ _ _ => (pgTup (n := 2) K (pgs_cons (pg_name (i := 3) sc_copying.nd rfl (Or.inl rfl)) (pgs_cons (pgTup (n := 3) K (pgs_cons (pg_name (i := 4) sc_copying.nd rfl (Or.inl rfl)) (pgs_cons (pg_name (i := 5) sc_copying.nd rfl (Or.inl rfl)) (pgs_cons (pg_name (i := 6) sc_copying.nd rfl (Or.inl rfl)) pgs_nil)))) pgs_nil)))) (fun _ _ _ _ _ => (pts_one (pt_val (pv 6)))) (fun _ _ _ _ _ => (pe_ix (ixT K) (pv 3) pe_int (fun _ _ => rfl))))))), ?_⟩
  obtain ⟨B, ⟨p, ru⟩, e0, dl, pre, q⟩ := h
  have W := Wd.start (K := K) e0
  obtain ⟨v1, r1, rfl, f1, dl⟩ := dl.cons_inv
  obtain ⟨v2, r2, rfl, f2, dl⟩ := dl.cons_inv
  cases dl
  obtain ⟨pg, rok⟩ := pre
  have pg : PgOk p := pg
  have f1 : Da K B v1 (dProg p) := f1
  have f2 : Da K B v2 (dRule ru) := f2
  refine q_set W (EvN.data (c_N (a := (p, ru)) (a_cons (e_var f1) (a_cons (e_var f2) a_nil)) ⟨pg, rok⟩)) fun v B1 H1 e1 W1 fv => ?_
  refine s_retN W1 (EvN.imp (l_lc (n := ((rows p).map dRow).length) (f := fun i => .tuple [((rows p).map dRow).getD i .none, ((allN p (chOf ru) (nv p)).map dAlt).getD i .none]) (cpOf p (chOf ru)) (fun i => nI (vst p i))
    (i_zipS (a_cons (EvN.data (c_N (a := p) (a_cons (e_var f1) a_nil) pg)) (a_cons (e_var fv) a_nil)) (by rw [List.length_map, List.length_map, allN_len]; rfl)) (by have := pg.nv; rw [List.length_map]; show nv p ≤ _; omega) ?_) fun ds hd => ?_) rfl q
  · intro i x D acc B5 H5 hi e5 i5 fx R k
    have hi' : i < nv p := by rw [List.length_map] at hi; exact hi
    have ha : (allN p (chOf ru) (nv p))[i]? = some (altOf p (chOf ru) i) := by
      rw [← allN_getD (chOf ru) hi', List.getD_eq_getElem?_getD, List.getElem?_eq_getElem (by rw [allN_len]; exact hi')]
      rfl
    have fx : Da K B5 x (.tuple [dRow ((rows p).getD i row0), dAlt (altOf p (chOf ru) i)]) := by
      rw [← getD_map (f := dRow) (row_at hi'), ← getD_map (f := dAlt) ha]
      exact fx
    refine g_tup fx i5 rfl fun vs fv => g_cons fv fun va r fa fr => g_cons fr fun vb r fb fr => ?_
    refine g_tup fb i5 rfl fun vs fv => g_cons fv fun vc r fc fr2 => g_cons fr2 fun vd r fd fr2 => g_cons fr2 fun ve r fe fr2 => ?_
    refine g_name ?_
    refine g_nil fr2 ?_
    refine g_nil fr ?_
    exact k _ rfl (t_B (e_var fe)) fun _ => e_ixT (e_var fa) e_cint rfl
  · rw [hd, List.length_map]
    show given (nv p) _ _ = _
    unfold given copying
    rw [List.map_map]
    rfl
end GB
namespace GB
open PySem PySem.Spec PyProof.Rows L2
open Evl (Ex)
variable {P : Program} {w : World} {K : PySem.W.Frag} {mg : Str → Option Value} {base : Heap}

/-! path_in, meeting, need_read -/
theorem cl_path_in (d : Df K mg "path_in" s_path_in) (T : Tx K mg)  : Cl P w K mg base 1 "path_in" (sp_path_in K) [] := by
  refine cl_of d sc_path_in (fun f fd F => F.bindsN fun _ _ _ _ _ _ us hl => match us, hl with | [_, _], _ => rfl) (SpN.len fun _ => rfl) fun cdv f A outer s H vs Q E hr h => ?_
  have hu := hu_of hr
  refine ⟨_, (pss_cons (ps_set (i := 2) sc_path_in.nd rfl (Or.inl rfl) (pe_lst pa_nil))
      (pss_cons (ps_while PassesOwn.never (pt_cmpR op_notN (pv 1) pe_non (nomark _)) (pss_cons (ps_expr (pe_bm PySem.F.plainAttrs_list PySem.F.slot_list_append PySem.F.type_list_append mt_append (pv 2) (pa_cons (pv 1) pa_nil)))
      (pss_one (ps_set (i := 1) sc_path_in.nd rfl (Or.inl rfl) (pe_ix (ixT K) (pe_ix (ixL K) (pv 0) (pv 1) (fun _ _ => rfl)) pe_int (fun _ _ => rfl))))))
      (pss_one (ps_ret (pe_revL (pv 2)))))), ?_⟩
  obtain ⟨B, ⟨p, v0⟩, e0, dl, pre, q⟩ := h
  have W := Wd.start (K := K) e0
  obtain ⟨v1, r1, rfl, f1, dl⟩ := dl.cons_inv
  obtain ⟨v2, r2, rfl, f2, dl⟩ := dl.cons_inv
  cases dl
  obtain ⟨pg, hv⟩ := pre
  have pg : PgOk p := pg
  have hv : v0 < nv p := hv
  have f1 : Da K B v1 (.list ((rows p).map dRow)) := f1
  have f2 : Da K B v2 (nI v0) := f2
  refine q_setN W (l_lst a_nil lk) fun p1 ds B1 H1 e1 h1 W1 hd => ?_
  subst hd
  refine q_while W1 (fun m σ B' H' => ∃ (vw : V) (o : Option Nat) (acc : List Nat), σ = [some v1, some vw, some (.ref p1)] ∧ Da K B' vw (dO o) ∧ Wd K ⟨B, H, []⟩ none [(p1, .l (acc.map nI))] B' H' ∧ m = (match o with | none => 0 | some u => u + 1) ∧
      (match o with | none => [] | some u => vanc p u) ++ acc.reverse = vanc p v0 ∧ (∀ u, o = some u → u < nv p ∧ acc.length + u ≤ v0) ∧ acc.length ≤ v0 + 1) (m0 := v0 + 1)
    ⟨v2, some v0, [], rfl, f2.mono e1, W1, rfl, by rw [List.reverse_nil, List.append_nil], fun u hu => by cases hu; exact ⟨hv, Nat.le_of_eq (Nat.zero_add _)⟩, Nat.zero_le _⟩ ?_
  rintro m σ' B2 H2 e2 ⟨vw, o, acc, rfl, fw, W2, hm, hpa, ho, hal⟩
  refine ⟨none, _, !isN (dO o), W2, t_test (e_opNotN (e_var fw)), fun hb B3 H3 e3 W3 => ?_, fun hb B3 H3 e3 W3 => ?_⟩
  · cases o with
    | none => cases hb
    | some u =>
      obtain ⟨hu, hacc⟩ := ho u rfl
      have fw : Da K B2 vw (nI u) := fw
      have hnv := pg.nv
      refine q_appD W3 (.inl h1) (e_var fw) (by rw [List.length_map]; omega) fun B4 H4 e4 W4 => ?_
      have er : (rows p)[u]? = some ((rows p).getD u row0) := row_at hu
      refine s_set W4 (e_ixT (e_atL (f := dRow) (e_var f1) (e_var fw) er) e_cint (d := dO (vpar p u)) rfl) fun v B5 H5 e5 W5 fv => ?_
      have hp : vanc p u = (match vpar p u with | none => [] | some j => vanc p j) ++ [u] := by
        cases hpu : vpar p u with
        | none => exact anc_none hpu
        | some j => exact anc_some hpu (vplt pg.ok hpu)
      refine ⟨_, B5, ?_, ((e2.trans e3).trans e4).trans e5, v, vpar p u, acc ++ [u], rfl, fv, by rw [List.map_append]; exact W5, rfl, ?_, fun j hj => ?_, ?_⟩
      · rw [hm]
        cases hpu : vpar p u with
        | none => exact Nat.succ_pos _
        | some j =>
          have := vplt pg.ok hpu
          show j + 1 < u + 1
          omega
      · rw [← hpa, List.reverse_append]
        show _ ++ ([u].reverse ++ acc.reverse) = vanc p u ++ acc.reverse
        rw [hp, List.append_assoc]
        rfl
      · have := vplt pg.ok hj
        rw [List.length_append, List.length_singleton]
        omega
      · rw [List.length_append, List.length_singleton]
        omega
  · cases o with
    | some u => cases hb
    | none =>
      have hpa : acc.reverse = vanc p v0 := hpa
      obtain ⟨B4, e4, W4, fl⟩ := W3.done h1
      refine s_retN W4 (EvN.imp (l_rev (ds := acc.map nI) (e_var fl)) fun ds hd => ?_) rfl q
      rw [hd, ← List.map_reverse, hpa]
theorem cl_meeting (d : Df K mg "meeting" s_meeting) (T : Tx K mg) (c_path_in : Cl P w K mg base 1 "path_in" (sp_path_in K) []) : Cl P w K mg base 2 "meeting" (sp_meeting K) [] := by
  refine cl_of d sc_meeting (fun f fd F => F.bindsN fun _ _ _ _ _ _ us hl => match us, hl with | [_, _, _], _ => rfl) (SpB.len fun _ => rfl) fun cdv f A outer s H vs Q E hr h => ?_
  have hu := hu_of hr
  refine ⟨_, (pss_cons (ps_set (i := 3) sc_meeting.nd rfl (Or.inr rfl) (pe_cl c_path_in hr (by decide) rfl (pa_cons (pv 0) (pa_cons (pv 2) pa_nil))))
      (pss_cons (ps_setLc (i := 4) (own := [("one", 5)]) rfl sc_meeting.nd rfl rfl (sw_true rfl rfl rfl (by decide +kernel)) (pi_list (pe_cl c_path_in hr (by decide) rfl (pa_cons (pv 0) (pa_cons (pv 1) pa_nil)))) (blkOk_by (own := [("one", 5)]) (N := N_meeting) (sc := defScope s_meeting) (by decide +kernel)) (fun _ _ _ _ _ => (pg_name (i := 5) sc_meeting.nd rfl (Or.inl rfl))) (fun _ _ _ _ _ => (pts_one (pt_cmpR (opIn K) (pv 5) (pv 3) (by rfl)))) (fun _ _ _ _ _ => (pv 5)))
      (pss_one (ps_ret (pe_ifExp (pt_cmpR (opNeD K hr.units) (pv 4) (pe_lst pa_nil) (nomark _)) (pe_ix (ixL K) (pv 4) (pe_un un_neg pe_int) (fun _ _ => rfl)) pe_non))))), ?_⟩
  obtain ⟨B, ⟨p, a1, a2⟩, e0, dl, pre, q⟩ := h
  have W := Wd.start (K := K) e0
  obtain ⟨v1, r1, rfl, f1, dl⟩ := dl.cons_inv
  obtain ⟨v2, r2, rfl, f2, dl⟩ := dl.cons_inv
  obtain ⟨v3, r3, rfl, f3, dl⟩ := dl.cons_inv
  cases dl
  obtain ⟨pg, hv, hu⟩ := pre
  have pg : PgOk p := pg
  have f1 : Da K B v1 (dRows (rows p)) := f1
  have f2 : Da K B v2 (nI a1) := f2
  have f3 : Da K B v3 (nI a2) := f3
  have ha1 : a1 < nv p := hv
  have ha2 : a2 < nv p := hu
  have hnv := pg.nv
  refine q_set W (EvN.data (c_N (a := (p, a2)) (a_cons (e_var f1) (a_cons (e_var f3) a_nil)) ⟨pg, hu⟩)) fun vo B1 H1 e1 W1 fo => ?_
  have alen : ∀ {i : Nat}, i < nv p → (vanc p i).length ≤ 1000 := fun {i} hi => by
    have := anc_len (par := vpar p) (fun _ _ h => vplt pg.ok h) (i + 1) i (Nat.lt_succ_self i)
    show (anc (vpar p) i).length ≤ _
    omega
  refine q_set W1 (EvN.data (l_lc (n := ((vanc p a1).map nI).length) (f := fun i => ((vanc p a1).map nI).getD i .none) (fun i => decide ((vanc p a1).getD i 0 ∈ vanc p a2)) (fun i => nI ((vanc p a1).getD i 0))
    (i_list (EvN.data (c_N (a := (p, a1)) (a_cons (e_var f1) (a_cons (e_var f2) a_nil)) ⟨pg, hv⟩))) (by have := alen ha1; rw [List.length_map]; omega) ?_)) fun vs B2 H2 e2 W2 fs => ?_
  · intro i x D acc B5 H5 hi e5 i5 fx R k
    obtain ⟨s, hs, e⟩ := turn_map hi
    have fx : Da K B5 x (nI s) := by rw [← e]; exact fx
    refine k _ rfl ?_ fun _ => ?_
    · rw [getD_mem' hs]
      exact t_test (e_inN (e_var fx) (e_var fo))
    · rw [getD_mem' hs]
      exact e_var fx
  · rw [List.length_map, given_filter (vanc p a1) 0 (fun x => decide (x ∈ vanc p a2)) nI] at fs
    have hq : RD K B H (dO ((vanc p a1).filter fun x => decide (x ∈ vanc p a2)).getLast?) Q := q
    generalize (vanc p a1).filter (fun x => decide (x ∈ vanc p a2)) = L at fs hq
    cases hl : L.getLast? with
    | none =>
      rw [hl] at hq
      have : L = [] := List.getLast?_eq_none_iff.mp hl
      subst this
      exact s_ret W2 (e_ifF (t_to (t_test (e_neNil (e_var fs) (plain_nats _))) rfl) e_cnon) rfl hq
    | some a =>
      rw [hl] at hq
      have hne : L ≠ [] := fun z => by rw [z] at hl; cases hl
      refine s_ret W2 (e_ifT (t_to (t_test (e_neNil (e_var fs) (plain_nats _))) ?_) (e_lastL (e_var fs) hl)) rfl hq
      cases L with
      | nil => exact absurd rfl hne
      | cons a l => rfl
theorem cl_need_read (d : Df K mg "need_read" s_need_read) (T : Tx K mg) (c_reads : Cl P w K mg base 1 "reads" (sp_reads K) []) (c_is_between : Cl P w K mg base 2 "is_between" (sp_is_between K) []) : Cl P w K mg base 3 "need_read" (sp_need_read K) [] := by
  refine cl_of d sc_need_read (fun f fd F => F.bindsN fun _ _ _ _ _ _ us hl => match us, hl with | [_, _], _ => rfl) (SpB.len fun _ => rfl) fun cdv f A outer s H vs Q E hr h => ?_
  have hu := hu_of hr
  refine ⟨_, (pss_cons (ps_set (i := 2) sc_need_read.nd rfl (Or.inl rfl) (pe_cl c_reads hr (by decide) rfl (pa_cons (pv 0) pa_nil)))
      (pss_cons (ps_if (pt_not (pt_val (pe_cl c_is_between hr (by decide) rfl (pa_cons (pv 1) (pa_cons pe_int (pa_cons (pe_op op_sub (pe_callB call_len_seq (by rfl) T.len PySem.boot_len (pa_cons (pv 2) pa_nil)) pe_int) pa_nil)))))) (pss_one ps_never) pss_nil)
      (pss_one (ps_ret (pe_ix (ixL K) (pv 2) (pv 1) (fun _ _ => rfl)))))), ?_⟩
  obtain ⟨B, ⟨p, k, qr⟩, e0, dl, pre, q⟩ := h
  have W := Wd.start (K := K) e0
  obtain ⟨v1, r1, rfl, f1, dl⟩ := dl.cons_inv
  obtain ⟨v2, r2, rfl, f2, dl⟩ := dl.cons_inv
  cases dl
  obtain ⟨pg, hk⟩ := pre
  have f1 : Da K B v1 (dProg p) := f1
  have f2 : Da K B v2 (nI k) := f2
  have hk : (reads p)[k]? = some qr := hk
  have hl : k < (reads p).length := (List.getElem?_eq_some_iff.mp hk).1
  refine q_set W (EvN.data (c_N (a := p) (a_cons (e_var f1) a_nil) pg)) fun vs B1 H1 e1 W1 fs => ?_
  refine q_ifF W1 (t_to (t_not (t_B (c_D (a := ((k : Int), 0, ((reads p).length : Int) - 1)) (a_cons (e_var f2) (a_cons e_cint (a_cons (EvB.to (e_ii (e_lenL (a_cons (e_var fs) a_nil)) e_cint) (by rw [List.length_map])) a_nil))) trivial))) ?_) fun B2 H2 e2 W2 => ?_
  · show (!(decide ((0 : Int) ≤ k) && decide ((k : Int) ≤ ((reads p).length : Int) - 1))) = false
    rw [decide_eq_true (by omega), decide_eq_true (by omega)]
    rfl
  · exact s_ret W2 (e_atL (f := dRead) (e_var fs) (e_var f2) hk) rfl q
end GB
namespace GB
open PySem PySem.Spec PyProof.Rows L2
open Evl (Ex)
variable {P : Program} {w : World} {K : PySem.W.Frag} {mg : Str → Option Value} {base : Heap}

/-! writes, candidates_in -/
theorem WrD.len {B : Hp} : ∀ {kvs : List (Key × V)} {E : List Wr}, WrD K B kvs E → kvs.length = E.length
  | [], [], _ => rfl
  | _ :: _, _ :: _, h => congrArg Nat.succ (WrD.len h.2.2)
  | [], _ :: _, h => h.elim
  | _ :: _, [], h => h.elim
theorem WrD.mono {B B' : Hp} (e : Ex B B') : ∀ {kvs : List (Key × V)} {E : List Wr}, WrD K B kvs E → WrD K B' kvs E
  | [], [], _ => True.intro
  | _ :: _, _ :: _, h => ⟨h.1, h.2.1.mono e, WrD.mono e h.2.2⟩
  | [], _ :: _, h => h.elim
  | _ :: _, [], h => h.elim
theorem WrD.snoc {B : Hp} {v : V} {e : Wr} : ∀ {kvs : List (Key × V)} {E : List Wr}, WrD K B kvs E → Da K B v (.tuple [nI e.2.1, nI e.2.2.1, .int ((e.2.2.2 : Int) - 1)]) → WrD K B (kvs ++ [(.inl (e.1 : Int), v)]) (E ++ [e])
  | [], [], _, h => ⟨rfl, h, True.intro⟩
  | _ :: _, _ :: _, w, h => ⟨w.1, w.2.1, WrD.snoc w.2.2 h⟩
  | [], _ :: _, w, _ => w.elim
  | _ :: _, [], w, _ => w.elim
theorem WrD.get {B : Hp} {k : Key} {v : V} : ∀ {kvs : List (Key × V)} {E : List Wr} {i : Nat}, WrD K B kvs E → kvs[i]? = some (k, v) → ∃ e, E[i]? = some e ∧ k = .inl (e.1 : Int) ∧ Da K B v (.tuple [nI e.2.1, nI e.2.2.1, .int ((e.2.2.2 : Int) - 1)])
  | [], [], i, _, h => by simp at h
  | q :: _, e :: _, 0, w, h => by
    have h : q = (k, v) := Option.some.inj h
    subst h
    exact ⟨e, rfl, w.1, w.2.1⟩
  | _ :: _, _ :: _, i + 1, w, h => WrD.get (i := i) w.2.2 h
  | [], _ :: _, _, w, _ => w.elim
  | _ :: _, [], _, w, _ => w.elim
theorem WrD.none {B : Hp} {n : Nat} : ∀ {kvs : List (Key × V)} {E : List Wr}, WrD K B kvs E → n ∉ E.map (·.1) → valV kvs (.inl (n : Int)) = none
  | [], [], _, _ => rfl
  | q :: _, e :: _, w, h => by
    rw [List.map_cons, List.mem_cons, not_or] at h
    rw [valV_neg (fun z => h.1 (by rw [w.1] at z; exact (Int.ofNat_inj.mp (Sum.inl.inj z)).symm))]
    exact WrD.none w.2.2 h.2
  | [], _ :: _, w, _ => w.elim
  | _ :: _, [], w, _ => w.elim
theorem WrD.put {B : Hp} {v : V} {e : Wr} {kvs : List (Key × V)} {E : List Wr} (w : WrD K B kvs E) (h : Da K B v (.tuple [nI e.2.1, nI e.2.2.1, .int ((e.2.2.2 : Int) - 1)])) (n : e.1 ∉ E.map (·.1)) : WrD K B (putK kvs (.inl (e.1 : Int)) v) (E ++ [e]) := by
  rw [putK_new _ (w.none n)]
  exact w.snoc h
def isWM : Stm → Bool
  | .write _ _ _ => true
  | .move _ _ _ _ => true
  | _ => false
/-- what the views write, what the statements write -/
def wrV (p : Prog) (u : Nat) : Option Wr := match p.getD (vst p u) stm0 with
  | .make _ k => some (vst p u, u, 0, k)
  | .app _ v xs => some (vst p u, u, vend p v, vend p v + xs.length)
  | _ => none
def wrS (p : Prog) (n : Nat) : Option Wr := match p[n]? with
  | some (.write v i _) => some (n, v, vstart p v + i, vstart p v + i + 1)
  | some (.move v i _ _) => some (n, v, vstart p v + i, vstart p v + i + 1)
  | _ => none
def wr1 (p : Prog) (n : Nat) : List Wr := (List.range n).filterMap (wrV p)
def wr2 (p : Prog) (n : Nat) : List Wr := (List.range n).filterMap (wrS p)
theorem wr1_succ (p : Prog) (n : Nat) : wr1 p (n + 1) = wr1 p n ++ (wrV p n).toList := by
  unfold wr1
  rw [List.range_succ, List.filterMap_append]
  cases h : wrV p n <;> simp [h]
theorem wr2_succ (p : Prog) (n : Nat) : wr2 p (n + 1) = wr2 p n ++ (wrS p n).toList := by
  unfold wr2
  rw [List.range_succ, List.filterMap_append]
  cases h : wrS p n <;> simp [h]
theorem wrV_st {p : Prog} {u : Nat} {e : Wr} (h : wrV p u = some e) : e.1 = vst p u := by
  unfold wrV at h
  split at h <;> first | (cases h; rfl) | cases h
theorem wrS_st {p : Prog} {n : Nat} {e : Wr} (h : wrS p n = some e) : e.1 = n := by
  unfold wrS at h
  split at h <;> first | (cases h; rfl) | cases h
theorem wrV_wr {p : Prog} {u : Nat} (hu : u < nv p) {e : Wr} (h : wrV p u = some e) : wr p (vst p u) = some e.2 := by
  obtain ⟨s, h1, h2, h3, h4, h5⟩ := view_from hu
  unfold wrV at h
  rw [h2] at h
  unfold wr
  rw [h1]
  cases s <;> simp only at h ⊢ <;> first | (cases h; rw [h5]) | cases h
theorem wrS_wr {p : Prog} {n : Nat} {e : Wr} (h : wrS p n = some e) : wr p n = some e.2 := by
  unfold wrS at h
  unfold wr
  split at h <;> rename_i hs <;> first | (cases h; rw [hs]) | cases h
theorem mem_wr1 {p : Prog} {n : Nat} {e : Wr} : e ∈ wr1 p n ↔ ∃ u, u < n ∧ wrV p u = some e := by
  unfold wr1
  rw [List.mem_filterMap]
  simp only [List.mem_range]
theorem mem_wr2 {p : Prog} {n : Nat} {e : Wr} : e ∈ wr2 p n ↔ ∃ u, u < n ∧ wrS p u = some e := by
  unfold wr2
  rw [List.mem_filterMap]
  simp only [List.mem_range]
theorem wr1_keys {p : Prog} {n : Nat} (hn : n ≤ nv p) : (wr1 p n).Pairwise fun a b => a.1 < b.1 := by
  induction n with
  | zero => exact List.Pairwise.nil
  | succ n ih =>
    rw [wr1_succ]
    refine List.pairwise_append.mpr ⟨ih (by omega), by cases wrV p n <;> simp, fun a ha b hb => ?_⟩
    obtain ⟨u, h1, h2⟩ := mem_wr1.mp ha
    have hb : wrV p n = some b := by simpa using hb
    rw [wrV_st h2, wrV_st hb]
    exact vstm h1 (by omega)
theorem wr2_keys {p : Prog} {n : Nat} : (wr2 p n).Pairwise fun a b => a.1 < b.1 := by
  induction n with
  | zero => exact List.Pairwise.nil
  | succ n ih =>
    rw [wr2_succ]
    refine List.pairwise_append.mpr ⟨ih, by cases wrS p n <;> simp, fun a ha b hb => ?_⟩
    obtain ⟨u, h1, h2⟩ := mem_wr2.mp ha
    have hb : wrS p n = some b := by simpa using hb
    rw [wrS_st h2, wrS_st hb]
    exact h1
theorem wrV_wrS {p : Prog} {u n : Nat} {a b : Wr} (hu : u < nv p) (h1 : wrV p u = some a) (h2 : wrS p n = some b) : a.1 ≠ b.1 := by
  rw [wrV_st h1, wrS_st h2]
  intro z
  subst z
  obtain ⟨s, k1, k2, _⟩ := view_from hu
  unfold wrV at h1
  unfold wrS at h2
  rw [k2] at h1
  rw [k1] at h2
  cases s <;> simp only at h1 h2 <;> first | (cases h2; done) | (cases h1; done)
theorem wr_all (p : Prog) : WrAll p (wr1 p (nv p) ++ wr2 p p.length) := by
  refine ⟨?_, fun e => ?_⟩
  · rw [List.map_append, List.nodup_append]
    refine ⟨List.pairwise_map.mpr ((wr1_keys (Nat.le_refl _)).imp fun {a b} z => Nat.ne_of_lt z), List.pairwise_map.mpr (wr2_keys.imp fun {a b} z => Nat.ne_of_lt z), fun x hx y hy => ?_⟩
    obtain ⟨a, ha, rfl⟩ := List.mem_map.mp hx
    obtain ⟨b, hb, rfl⟩ := List.mem_map.mp hy
    obtain ⟨u, u1, u2⟩ := mem_wr1.mp ha
    obtain ⟨n, n1, n2⟩ := mem_wr2.mp hb
    exact wrV_wrS u1 u2 n2
  · rw [List.mem_append]
    constructor
    · rintro (h | h)
      · obtain ⟨u, u1, u2⟩ := mem_wr1.mp h
        rw [wrV_st u2]
        exact wrV_wr u1 u2
      · obtain ⟨n, n1, n2⟩ := mem_wr2.mp h
        rw [wrS_st n2]
        exact wrS_wr n2
    · intro h
      obtain ⟨c, x⟩ := e
      have h : wr p c = some x := h
      cases es : p[c]? with
      | none =>
        unfold wr at h
        rw [es] at h
        cases h
      | some s =>
        have hc : c < p.length := (List.getElem?_eq_some_iff.mp es).1
        unfold wr at h
        rw [es] at h
        have view : ∀ r, rowOf (rowsN p c) c s = some r → (rowsN p c).length < nv p ∧ vst p (rowsN p c).length = c ∧ p.getD (vst p (rowsN p c).length) stm0 = s := fun r hr => by
          obtain ⟨h1, h2⟩ := view_made es hr
          have h3 : vst p (rowsN p c).length = c := by
            unfold vst
            rw [h2]
            exact rowOf_st hr
          refine ⟨h1, h3, ?_⟩
          rw [h3, List.getD_eq_getElem?_getD, es]
          rfl
        cases s with
        | make l k =>
          obtain ⟨h1, h2, h3⟩ := view _ rfl
          refine .inl (mem_wr1.mpr ⟨_, h1, ?_⟩)
          unfold wrV
          rw [h3]
          show some (vst p _, _) = _
          rw [h2]
          cases h
          rfl
        | app g v xs =>
          obtain ⟨h1, h2, h3⟩ := view _ rfl
          refine .inl (mem_wr1.mpr ⟨_, h1, ?_⟩)
          unfold wrV
          rw [h3]
          show some (vst p _, _) = _
          rw [h2]
          cases h
          rfl
        | write v i x0 =>
          refine .inr (mem_wr2.mpr ⟨c, hc, ?_⟩)
          unfold wrS
          rw [es]
          cases h
          rfl
        | move v i w q =>
          refine .inr (mem_wr2.mpr ⟨c, hc, ?_⟩)
          unfold wrS
          rw [es]
          cases h
          rfl
        | slice v lo hi => cases h
        | clip v => cases h
        | read v i => cases h
theorem wr1_len (p : Prog) (n : Nat) : (wr1 p n).length ≤ n := by
  unfold wr1
  have := List.length_filterMap_le (wrV p) (List.range n)
  rw [List.length_range] at this
  exact this
theorem wr2_len (p : Prog) (n : Nat) : (wr2 p n).length ≤ n := by
  unfold wr2
  have := List.length_filterMap_le (wrS p) (List.range n)
  rw [List.length_range] at this
  exact this
theorem k_writes {c : Ent} {dr : Dr} {ls : Ls} {σ : L2.St} {B : Hp} {t : TA} {p : Prog} (ha : EaD K c dr ls t σ B [dProg p, dRows (rows p)]) (pg : PgOk p) : EvK K c dr ls (tCall (sp_writes K) [] E0 t) σ B fun B' kvs => ∃ E, WrAll p E ∧ WrD K B' kvs E := fun B1 H1 e1 w Q q =>
  ha B1 H1 e1 w _ fun vs B2 H2 e2 w2 f => ⟨B2, p, w2.inn, by rw [List.append_nil]; exact f, pg, fun r kvs B3 H3 e3 i3 x3 fr n1 n2 n3 hp => q r kvs B3 H3 (e2.trans e3) (w2.fresh0 n1) (w2.afterN e3 i3 x3 fr n1 n2 (ct := .dct kvs) n3) hp⟩
theorem cl_writes (d : Df K mg "writes" s_writes) (T : Tx K mg)  : Cl P w K mg base 1 "writes" (sp_writes K) [] := by
  refine cl_of d sc_writes (fun f fd F => F.bindsN fun _ _ _ _ _ _ us hl => match us, hl with | [_, _], _ => rfl) (fun vs H Q E h => by obtain ⟨B, p, _, dl, _⟩ := h; exact dl.len) fun cdv f A outer s H vs Q E hr h => ?_
  have hu := hu_of hr
  refine ⟨_, (pss_cons (ps_set (i := 2) sc_writes.nd rfl (Or.inl rfl) pe_dnewK)
      (pss_cons (ps_for PassesOwn.never rfl (pi_enum (by rfl) T.enumerate (pa_cons (pv 1) pa_nil)) (pgTup (n := 2) K (pgs_cons (pg_name (i := 3) sc_writes.nd rfl (Or.inl rfl)) (pgs_cons (pgTup (n := 4) K (pgs_cons (pg_name (i := 4) sc_writes.nd rfl (Or.inl rfl)) (pgs_cons (pg_name (i := 5) sc_writes.nd rfl (Or.inl rfl)) (pgs_cons (pg_name (i := 6) sc_writes.nd rfl (Or.inl rfl)) (pgs_cons (pg_name (i := 7) sc_writes.nd rfl (Or.inl rfl)) pgs_nil))))) pgs_nil))) (pss_cons (ps_set (i := 8) sc_writes.nd rfl (Or.inl rfl) (pe_ix (ixT K) (pv 0) (pv 4) (fun _ _ => rfl)))
      (pss_one (ps_if (pt_cmpR op_eq (pe_ix (ixT K) (pv 8) pe_int (fun _ _ => rfl)) pe_str (nomark _)) (pss_one (ps_dput hu (pv 2) (pv 4) (pe_tup (pa_cons (pv 3) (pa_cons pe_int (pa_cons (pe_op op_sub (pe_ix (ixT K) (pv 8) pe_int (fun _ _ => rfl)) pe_int) pa_nil)))) rfl)) (pss_one (ps_if (pt_cmpR (opIn K) (pe_ix (ixT K) (pv 8) pe_int (fun _ _ => rfl)) (pe_tup (pa_cons pe_str (pa_cons pe_str pa_nil))) (by rfl)) (pss_one (ps_dput hu (pv 2) (pv 4) (pe_tup (pa_cons (pv 3) (pa_cons (pe_op op_sub (pe_op op_add (pv 6) (pv 7)) (pe_callB call_len_seq (by rfl) T.len PySem.boot_len (pa_cons (pe_ix (ixT K) (pv 8) pe_int (fun _ _ => rfl)) pa_nil))) (pa_cons (pe_op op_sub (pe_op op_add (pv 6) (pv 7)) pe_int) pa_nil)))) rfl)) pss_nil))))))
      (pss_cons (ps_for PassesOwn.never rfl (pi_enumT (by rfl) T.enumerate (pa_cons (pv 0) pa_nil)) (pgTup (n := 2) K (pgs_cons (pg_name (i := 4) sc_writes.nd rfl (Or.inl rfl)) (pgs_cons (pg_name (i := 8) sc_writes.nd rfl (Or.inl rfl)) pgs_nil))) (pss_one (ps_if (pt_cmpR (opIn K) (pe_ix (ixT K) (pv 8) pe_int (fun _ _ => rfl)) (pe_tup (pa_cons pe_str (pa_cons pe_str pa_nil))) (by rfl)) (pss_cons (ps_set (i := 9) sc_writes.nd rfl (Or.inl rfl) (pe_op op_add (pe_ix (ixT K) (pe_ix (ixL K) (pv 1) (pe_ix (ixT K) (pv 8) pe_int (fun _ _ => rfl)) (fun _ _ => rfl)) pe_int (fun _ _ => rfl)) (pe_ix (ixT K) (pv 8) pe_int (fun _ _ => rfl))))
      (pss_one (ps_dput hu (pv 2) (pv 4) (pe_tup (pa_cons (pe_ix (ixT K) (pv 8) pe_int (fun _ _ => rfl)) (pa_cons (pv 9) (pa_cons (pv 9) pa_nil)))) rfl))) pss_nil)))
      (pss_one (ps_ret (pv 2)))))), ?_⟩
  obtain ⟨B, p, e0, dl, pg, q⟩ := h
  have W := Wd.start (K := K) e0
  obtain ⟨v1, r1, rfl, f1, dl⟩ := dl.cons_inv
  obtain ⟨v2, r2, rfl, f2, dl⟩ := dl.cons_inv
  cases dl
  have f1 : Da K B v1 (.tuple (p.map dStm)) := f1
  have f2 : Da K B v2 (.list ((rows p).map dRow)) := f2
  have hnv := pg.nv
  have hpl := pg.len
  refine q_setK W k_new fun p1 kvs0 B1 H1 e1 h1 W1 hk0 => ?_
  subst hk0
  refine q_for W1 (i_enum (a_cons (e_var f2) a_nil)) (fun i σ B' H' => ∃ a b c d e g h, σ = [some v1, some v2, some (.ref p1), a, b, c, d, e, g, h] ∧ ∃ kvs, WrD K B' kvs (wr1 p i) ∧ Wd K ⟨B, H, []⟩ none [(p1, .dct kvs)] B' H')
    (fun B3 H3 e3 W3 => ⟨_, _, _, _, _, _, _, rfl, [], True.intro, W3⟩) (fun i σ' B' H' iv => by obtain ⟨_, _, _, _, _, _, _, _, _, _, h⟩ := iv; exact h.inn) ?_ ?_
  · rintro i x σ' B0 B3 H3 B4 H4 hi e3 e4 ⟨xa, xb, xc, xd, xe, xg, xh, rfl, kvs, wd, W3⟩ e5 up fx
    have W4 := up _ _ W3
    have hi' : i < nv p := by rw [List.length_map] at hi; exact hi
    have fx : Da K B4 x (.tuple [nI i, .tuple [nI (vst p i), dO (vpar p i), nI (vstart p i), nI (vlen p i)]]) := by
      have e := getD_map (f := dRow) (row_at hi')
      have fx : Da K B4 x (.tuple [nI i, ((rows p).map dRow).getD i .none]) := fx
      rw [e] at fx
      exact fx
    obtain ⟨st, hst, hgd, hlt, hrow, hn⟩ := view_from hi'
    have sh := view_shape pg.ok hi'
    rw [hgd] at sh
    have hlen : kvs.length < 100000 := by have h1 := wd.len; have h2 := wr1_len p i; omega
    have nin : vst p i ∉ (wr1 p i).map (·.1) := fun z => by
      obtain ⟨e, he, z⟩ := List.mem_map.mp z
      obtain ⟨u, u1, u2⟩ := mem_wr1.mp he
      have := vstm (p := p) u1 hi'
      rw [wrV_st u2] at z
      omega
    refine g_tup fx W4.inn rfl fun vs fv => g_cons fv fun va r fa fr => g_cons fr fun vb r fb fr => ?_
    refine g_tup fb W4.inn rfl fun vs fv => g_cons fv fun vc r fc fr2 => g_cons fr2 fun vd r fd fr2 => g_cons fr2 fun ve r fe fr2 => g_cons fr2 fun vf r ff fr2 => ?_
    refine g_name ?_
    refine g_nil fr2 ?_
    refine g_nil fr ?_
    refine q_set W4 (e_atT (f := dStm) (e_var f1) (e_var fc) hst) fun vs B5 H5 e6 W5 fs => ?_
    cases st with
    | make l c =>
      refine s_ifT W5 (t_to (t_test (e_eqS (e_ixT (e_var fs) e_cint rfl) e_cstr)) (by show decide (("make" : Str) = "make") = true; decide +kernel)) fun B6 H6 e7 W6 => ?_
      refine s_dput W6 (.inl h1) (e_tup (a_cons (e_var fa) (a_cons e_cint (a_cons (e_ii (e_ixT (e_var fs) e_cint rfl) e_cint) a_nil))) lk) (fun B7 e8 => e_var fc) hlen fun v B7 H7 e8 fv W7 => ?_
      have er : wrV p i = some (vst p i, i, 0, c) := by unfold wrV; rw [hgd]
      have ex6 : Ex B4 B7 := (e6.trans e7).trans e8
      refine ⟨B7, (e4.trans e5).trans ex6, _, _, _, _, _, _, _, rfl, _, ?_, W7⟩
      rw [wr1_succ, er]
      exact WrD.put (e := (vst p i, i, 0, c)) (wd.mono (e5.trans ex6)) fv nin
    | slice v0 lo hi =>
      refine s_ifF W5 (t_to (t_test (e_eqS (e_ixT (e_var fs) e_cint rfl) e_cstr)) (by show decide (("slice" : Str) = "make") = false; decide +kernel)) fun B6 H6 e7 W6 => ?_
      refine s_ifF W6 (t_to (t_test (e_inS (ns := ["append", "grow"]) (e_ixT (e_var fs) e_cint rfl) (e_tup (a_cons e_cstr (a_cons e_cstr a_nil)) lk))) (by show decide (("slice" : Str) ∈ (["append", "grow"] : List Str)) = false; decide +kernel)) fun B7 H7 e8 W7 => ?_
      have er : wrV p i = none := by unfold wrV; rw [hgd]
      refine ⟨B7, (((e4.trans e5).trans e6).trans e7).trans e8, _, _, _, _, _, _, _, rfl, kvs, ?_, W7⟩
      rw [wr1_succ, er]
      exact (List.append_nil (wr1 p i)).symm ▸ wd.mono (((e5.trans e6).trans e7).trans e8)
    | clip v0 =>
      refine s_ifF W5 (t_to (t_test (e_eqS (e_ixT (e_var fs) e_cint rfl) e_cstr)) (by show decide (("clip" : Str) = "make") = false; decide +kernel)) fun B6 H6 e7 W6 => ?_
      refine s_ifF W6 (t_to (t_test (e_inS (ns := ["append", "grow"]) (e_ixT (e_var fs) e_cint rfl) (e_tup (a_cons e_cstr (a_cons e_cstr a_nil)) lk))) (by show decide (("clip" : Str) ∈ (["append", "grow"] : List Str)) = false; decide +kernel)) fun B7 H7 e8 W7 => ?_
      have er : wrV p i = none := by unfold wrV; rw [hgd]
      refine ⟨B7, (((e4.trans e5).trans e6).trans e7).trans e8, _, _, _, _, _, _, _, rfl, kvs, ?_, W7⟩
      rw [wr1_succ, er]
      exact (List.append_nil (wr1 p i)).symm ▸ wd.mono (((e5.trans e6).trans e7).trans e8)
    | app g v0 xs =>
      cases g with
      | false =>
        refine s_ifF W5 (t_to (t_test (e_eqS (e_ixT (e_var fs) e_cint rfl) e_cstr)) (by show decide (("append" : Str) = "make") = false; decide +kernel)) fun B6 H6 e7 W6 => ?_
        refine s_ifT W6 (t_to (t_test (e_inS (ns := ["append", "grow"]) (e_ixT (e_var fs) e_cint rfl) (e_tup (a_cons e_cstr (a_cons e_cstr a_nil)) lk))) (by show decide (("append" : Str) ∈ (["append", "grow"] : List Str)) = true; decide +kernel)) fun B6 H6 e7' W6 => ?_
        have hE : vend p i = vend p v0 + xs.length := by unfold vend; rw [sh.2.2.1, sh.2.2.2.1, Nat.add_assoc]
        refine s_dput W6 (.inl h1) (e_tup (a_cons (e_var fa) (a_cons (EvB.to (e_subN (e_addN (e_var fe) (e_var ff)) (EvB.to (e_lenT (a_cons (e_ixT (e_var fs) e_cint rfl) a_nil)) (d1 := nI xs.length) (by rw [List.length_map])) (by have h : vstart p i + vlen p i = vend p v0 + xs.length := hE; omega)) (d1 := nI (vend p v0)) (by have h : vstart p i + vlen p i = vend p v0 + xs.length := hE; rw [show vstart p i + vlen p i - xs.length = vend p v0 by omega])) (a_cons (e_ii (e_addN (e_var fe) (e_var ff)) e_cint) a_nil))) lk) (fun B7 e8 => e_var fc) hlen fun v B7 H7 e8 fv W7 => ?_
        have er : wrV p i = some (vst p i, i, vend p v0, vstart p i + vlen p i) := by unfold wrV; rw [hgd]; show some (vst p i, i, vend p v0, vend p v0 + xs.length) = _; rw [show vstart p i + vlen p i = vend p v0 + xs.length from hE]
        have ex6 : Ex B4 B7 := ((e6.trans e7).trans e7').trans e8
        refine ⟨B7, (e4.trans e5).trans ex6, _, _, _, _, _, _, _, rfl, _, ?_, W7⟩
        rw [wr1_succ, er]
        exact WrD.put (e := (vst p i, i, vend p v0, vstart p i + vlen p i)) (wd.mono (e5.trans ex6)) fv nin
      | true =>
        refine s_ifF W5 (t_to (t_test (e_eqS (e_ixT (e_var fs) e_cint rfl) e_cstr)) (by show decide (("grow" : Str) = "make") = false; decide +kernel)) fun B6 H6 e7 W6 => ?_
        refine s_ifT W6 (t_to (t_test (e_inS (ns := ["append", "grow"]) (e_ixT (e_var fs) e_cint rfl) (e_tup (a_cons e_cstr (a_cons e_cstr a_nil)) lk))) (by show decide (("grow" : Str) ∈ (["append", "grow"] : List Str)) = true; decide +kernel)) fun B6 H6 e7' W6 => ?_
        have hE : vend p i = vend p v0 + xs.length := by unfold vend; rw [sh.2.2.1, sh.2.2.2.1, Nat.add_assoc]
        refine s_dput W6 (.inl h1) (e_tup (a_cons (e_var fa) (a_cons (EvB.to (e_subN (e_addN (e_var fe) (e_var ff)) (EvB.to (e_lenT (a_cons (e_ixT (e_var fs) e_cint rfl) a_nil)) (d1 := nI xs.length) (by rw [List.length_map])) (by have h : vstart p i + vlen p i = vend p v0 + xs.length := hE; omega)) (d1 := nI (vend p v0)) (by have h : vstart p i + vlen p i = vend p v0 + xs.length := hE; rw [show vstart p i + vlen p i - xs.length = vend p v0 by omega])) (a_cons (e_ii (e_addN (e_var fe) (e_var ff)) e_cint) a_nil))) lk) (fun B7 e8 => e_var fc) hlen fun v B7 H7 e8 fv W7 => ?_
        have er : wrV p i = some (vst p i, i, vend p v0, vstart p i + vlen p i) := by unfold wrV; rw [hgd]; show some (vst p i, i, vend p v0, vend p v0 + xs.length) = _; rw [show vstart p i + vlen p i = vend p v0 + xs.length from hE]
        have ex6 : Ex B4 B7 := ((e6.trans e7).trans e7').trans e8
        refine ⟨B7, (e4.trans e5).trans ex6, _, _, _, _, _, _, _, rfl, _, ?_, W7⟩
        rw [wr1_succ, er]
        exact WrD.put (e := (vst p i, i, vend p v0, vstart p i + vlen p i)) (wd.mono (e5.trans ex6)) fv nin
    | write v0 i x =>
      exact sh.elim
    | move v0 i u0 z =>
      exact sh.elim
    | read v0 i =>
      exact sh.elim
  rintro σ' B3 H3 e3 ⟨xa, xb, xc, xd, xe, xg, xh, rfl, kvs, wd, W3⟩
  rw [List.length_map] at wd
  refine q_for W3 (i_enumT (a_cons (e_var f1) a_nil)) (fun i σ B' H' => ∃ a b c d e g h, σ = [some v1, some v2, some (.ref p1), a, b, c, d, e, g, h] ∧ ∃ kvs, WrD K B' kvs (wr1 p (nv p) ++ wr2 p i) ∧ Wd K ⟨B, H, []⟩ none [(p1, .dct kvs)] B' H')
    (fun B4 H4 e4 W4 => ⟨_, _, _, _, _, _, _, rfl, kvs, (List.append_nil (wr1 p (nv p))).symm ▸ wd.mono e4, W4⟩) (fun i σ' B' H' iv => by obtain ⟨_, _, _, _, _, _, _, _, _, _, h⟩ := iv; exact h.inn) ?_ ?_
  · clear wd W3 kvs
    rintro i x σ' B0 B3 H3 B4 H4 hi e3 e4 ⟨xa, xb, xc, xd, xe, xg, xh, rfl, kvs, wd, W3⟩ e5 up fx
    have W4 := up _ _ W3
    obtain ⟨st, hst, e⟩ := turn_stm hi
    have fx : Da K B4 x (.tuple [nI i, dStm st]) := by rw [← e]; exact fx
    have hl : i < p.length := (List.getElem?_eq_some_iff.mp hst).1
    have o := pg.ok i st hst
    have hlen : kvs.length < 100000 := by have h1 := wd.len; have h2 := wr1_len p (nv p); have h3 := wr2_len p i; rw [List.length_append] at h1; omega
    refine g_tup fx W4.inn rfl fun vs fv => g_cons fv fun va r fa fr => g_cons fr fun vb r fb fr => g_nil fr ?_
    cases st with
    | make l c =>
      refine s_ifF W4 (t_to (t_test (e_inS (ns := ["write", "move"]) (e_ixT (e_var fb) e_cint rfl) (e_tup (a_cons e_cstr (a_cons e_cstr a_nil)) lk))) (by show decide (("make" : Str) ∈ (["write", "move"] : List Str)) = false; decide +kernel)) fun B5 H5 e6 W5 => ?_
      have er : wrS p i = none := by unfold wrS; rw [hst]
      refine ⟨B5, (e4.trans e5).trans e6, _, _, _, _, _, _, _, rfl, kvs, ?_, W5⟩
      rw [wr2_succ, er]
      exact (List.append_nil (wr2 p i)).symm ▸ wd.mono (e5.trans e6)
    | slice v0 lo hi =>
      refine s_ifF W4 (t_to (t_test (e_inS (ns := ["write", "move"]) (e_ixT (e_var fb) e_cint rfl) (e_tup (a_cons e_cstr (a_cons e_cstr a_nil)) lk))) (by show decide (("slice" : Str) ∈ (["write", "move"] : List Str)) = false; decide +kernel)) fun B5 H5 e6 W5 => ?_
      have er : wrS p i = none := by unfold wrS; rw [hst]
      refine ⟨B5, (e4.trans e5).trans e6, _, _, _, _, _, _, _, rfl, kvs, ?_, W5⟩
      rw [wr2_succ, er]
      exact (List.append_nil (wr2 p i)).symm ▸ wd.mono (e5.trans e6)
    | clip v0 =>
      refine s_ifF W4 (t_to (t_test (e_inS (ns := ["write", "move"]) (e_ixT (e_var fb) e_cint rfl) (e_tup (a_cons e_cstr (a_cons e_cstr a_nil)) lk))) (by show decide (("clip" : Str) ∈ (["write", "move"] : List Str)) = false; decide +kernel)) fun B5 H5 e6 W5 => ?_
      have er : wrS p i = none := by unfold wrS; rw [hst]
      refine ⟨B5, (e4.trans e5).trans e6, _, _, _, _, _, _, _, rfl, kvs, ?_, W5⟩
      rw [wr2_succ, er]
      exact (List.append_nil (wr2 p i)).symm ▸ wd.mono (e5.trans e6)
    | app g v0 xs =>
      cases g with
      | false =>
        refine s_ifF W4 (t_to (t_test (e_inS (ns := ["write", "move"]) (e_ixT (e_var fb) e_cint rfl) (e_tup (a_cons e_cstr (a_cons e_cstr a_nil)) lk))) (by show decide (("append" : Str) ∈ (["write", "move"] : List Str)) = false; decide +kernel)) fun B5 H5 e6 W5 => ?_
        have er : wrS p i = none := by unfold wrS; rw [hst]
        refine ⟨B5, (e4.trans e5).trans e6, _, _, _, _, _, _, _, rfl, kvs, ?_, W5⟩
        rw [wr2_succ, er]
        exact (List.append_nil (wr2 p i)).symm ▸ wd.mono (e5.trans e6)
      | true =>
        refine s_ifF W4 (t_to (t_test (e_inS (ns := ["write", "move"]) (e_ixT (e_var fb) e_cint rfl) (e_tup (a_cons e_cstr (a_cons e_cstr a_nil)) lk))) (by show decide (("grow" : Str) ∈ (["write", "move"] : List Str)) = false; decide +kernel)) fun B5 H5 e6 W5 => ?_
        have er : wrS p i = none := by unfold wrS; rw [hst]
        refine ⟨B5, (e4.trans e5).trans e6, _, _, _, _, _, _, _, rfl, kvs, ?_, W5⟩
        rw [wr2_succ, er]
        exact (List.append_nil (wr2 p i)).symm ▸ wd.mono (e5.trans e6)
    | write v0 i0 x0 =>
      refine s_ifT W4 (t_to (t_test (e_inS (ns := ["write", "move"]) (e_ixT (e_var fb) e_cint rfl) (e_tup (a_cons e_cstr (a_cons e_cstr a_nil)) lk))) (by show decide (("write" : Str) ∈ (["write", "move"] : List Str)) = true; decide +kernel)) fun B5 H5 e6 W5 => ?_
      have hv : v0 < nv p := seen_lt (by omega) o.1
      refine q_set W5 (e_addN (e_ixT (e_atL (f := dRow) (e_var f2) (e_ixT (e_var fb) e_cint rfl) (row_at hv)) e_cint (d := nI (vstart p v0)) rfl) (e_ixT (e_var fb) e_cint (d := nI i0) rfl)) fun vp B6 H6 e7 W6 fp => ?_
      refine s_dput W6 (.inl h1) (e_tup (a_cons (e_ixT (e_var fb) e_cint (d := nI v0) rfl) (a_cons (e_var fp) (a_cons (e_var fp) a_nil))) lk) (fun B7 e8 => e_var fa) hlen fun v B7 H7 e8 fv W7 => ?_
      have er : wrS p i = some (i, v0, vstart p v0 + i0, vstart p v0 + i0 + 1) := by unfold wrS; rw [hst]
      have nin : i ∉ (wr1 p (nv p) ++ wr2 p i).map (·.1) := fun z => by
        obtain ⟨e, he, z⟩ := List.mem_map.mp z
        rcases List.mem_append.mp he with he | he
        · obtain ⟨u, u1, u2⟩ := mem_wr1.mp he
          exact wrV_wrS u1 u2 er z
        · obtain ⟨u, u1, u2⟩ := mem_wr2.mp he
          rw [wrS_st u2] at z
          omega
      refine ⟨B7, (((e4.trans e5).trans e6).trans e7).trans e8, _, _, _, _, _, _, _, rfl, _, ?_, W7⟩
      rw [wr2_succ, er, Option.toList_some, ← List.append_assoc]
      refine WrD.put (e := (i, v0, vstart p v0 + i0, vstart p v0 + i0 + 1)) (wd.mono (((e5.trans e6).trans e7).trans e8)) ?_ nin
      have ei : (((vstart p v0 + i0 + 1 : Nat) : Int) - 1) = ((vstart p v0 + i0 : Nat) : Int) := by omega
      show Da K B7 v (.tuple [nI v0, nI (vstart p v0 + i0), .int (((vstart p v0 + i0 + 1 : Nat) : Int) - 1)])
      rw [ei]
      exact fv
    | move v0 i0 u0 z0 =>
      refine s_ifT W4 (t_to (t_test (e_inS (ns := ["write", "move"]) (e_ixT (e_var fb) e_cint rfl) (e_tup (a_cons e_cstr (a_cons e_cstr a_nil)) lk))) (by show decide (("move" : Str) ∈ (["write", "move"] : List Str)) = true; decide +kernel)) fun B5 H5 e6 W5 => ?_
      have hv : v0 < nv p := seen_lt (by omega) o.1.1
      refine q_set W5 (e_addN (e_ixT (e_atL (f := dRow) (e_var f2) (e_ixT (e_var fb) e_cint rfl) (row_at hv)) e_cint (d := nI (vstart p v0)) rfl) (e_ixT (e_var fb) e_cint (d := nI i0) rfl)) fun vp B6 H6 e7 W6 fp => ?_
      refine s_dput W6 (.inl h1) (e_tup (a_cons (e_ixT (e_var fb) e_cint (d := nI v0) rfl) (a_cons (e_var fp) (a_cons (e_var fp) a_nil))) lk) (fun B7 e8 => e_var fa) hlen fun v B7 H7 e8 fv W7 => ?_
      have er : wrS p i = some (i, v0, vstart p v0 + i0, vstart p v0 + i0 + 1) := by unfold wrS; rw [hst]
      have nin : i ∉ (wr1 p (nv p) ++ wr2 p i).map (·.1) := fun z => by
        obtain ⟨e, he, z⟩ := List.mem_map.mp z
        rcases List.mem_append.mp he with he | he
        · obtain ⟨u, u1, u2⟩ := mem_wr1.mp he
          exact wrV_wrS u1 u2 er z
        · obtain ⟨u, u1, u2⟩ := mem_wr2.mp he
          rw [wrS_st u2] at z
          omega
      refine ⟨B7, (((e4.trans e5).trans e6).trans e7).trans e8, _, _, _, _, _, _, _, rfl, _, ?_, W7⟩
      rw [wr2_succ, er, Option.toList_some, ← List.append_assoc]
      refine WrD.put (e := (i, v0, vstart p v0 + i0, vstart p v0 + i0 + 1)) (wd.mono (((e5.trans e6).trans e7).trans e8)) ?_ nin
      have ei : (((vstart p v0 + i0 + 1 : Nat) : Int) - 1) = ((vstart p v0 + i0 : Nat) : Int) := by omega
      show Da K B7 v (.tuple [nI v0, nI (vstart p v0 + i0), .int (((vstart p v0 + i0 + 1 : Nat) : Int) - 1)])
      rw [ei]
      exact fv
    | read v0 i0 =>
      refine s_ifF W4 (t_to (t_test (e_inS (ns := ["write", "move"]) (e_ixT (e_var fb) e_cint rfl) (e_tup (a_cons e_cstr (a_cons e_cstr a_nil)) lk))) (by show decide (("read" : Str) ∈ (["write", "move"] : List Str)) = false; decide +kernel)) fun B5 H5 e6 W5 => ?_
      have er : wrS p i = none := by unfold wrS; rw [hst]
      refine ⟨B5, (e4.trans e5).trans e6, _, _, _, _, _, _, _, rfl, kvs, ?_, W5⟩
      rw [wr2_succ, er]
      exact (List.append_nil (wr2 p i)).symm ▸ wd.mono (e5.trans e6)
  · clear wd W3 kvs
    rintro σ' B3 H3 e3 ⟨xa, xb, xc, xd, xe, xg, xh, rfl, kvs, wd, W3⟩
    rw [List.length_map] at wd
    refine ⟨.ref p1, rfl, ?_⟩
    exact q p1 kvs B3 H3 W3.base W3.inn (fun a o h => W3.old a o List.not_mem_nil h) W3.fr h1 W3.own.1 W3.own.2 ⟨_, wr_all p, wd⟩
end GB
namespace GB
open PySem PySem.Spec PyProof.Rows L2
open Evl (Ex)
variable {P : Program} {w : World} {K : PySem.W.Frag} {mg : Str → Option Value} {base : Heap}

/-! links_between, candidates, table_policy, with_entry -/
def isApp : Stm → Bool
  | .app _ _ _ => true
  | _ => false
theorem word_app (s : Stm) : decide (wordS s ∈ (["append", "grow"] : List Str)) = isApp s := by
  cases s with
  | make l c =>
    show decide (("make" : Str) ∈ (["append", "grow"] : List Str)) = false
    decide +kernel
  | slice v0 lo hi =>
    show decide (("slice" : Str) ∈ (["append", "grow"] : List Str)) = false
    decide +kernel
  | clip v0 =>
    show decide (("clip" : Str) ∈ (["append", "grow"] : List Str)) = false
    decide +kernel
  | app g v0 xs =>
    cases g with
    | false =>
      show decide (("append" : Str) ∈ (["append", "grow"] : List Str)) = true
      decide +kernel
    | true =>
      show decide (("grow" : Str) ∈ (["append", "grow"] : List Str)) = true
      decide +kernel
  | write v0 i x =>
    show decide (("write" : Str) ∈ (["append", "grow"] : List Str)) = false
    decide +kernel
  | move v0 i u0 z =>
    show decide (("move" : Str) ∈ (["append", "grow"] : List Str)) = false
    decide +kernel
  | read v0 i =>
    show decide (("read" : Str) ∈ (["append", "grow"] : List Str)) = false
    decide +kernel
theorem app_kind {p : Prog} {u : Nat} : (∃ g, vkind p u = .app g) ↔ isApp (p.getD (vst p u) stm0) = true := by
  unfold vkind
  cases p.getD (vst p u) stm0 <;> simp [kindOf, isApp]
theorem st_of {p : Prog} {u : Nat} (h : u < nv p) : p[vst p u]? = some (p.getD (vst p u) stm0) := by
  obtain ⟨s, h1, h2, _⟩ := view_from h
  rw [h2]
  exact h1
theorem cl_links_between (d : Df K mg "links_between" s_links_between) (T : Tx K mg) (c_meeting : Cl P w K mg base 2 "meeting" (sp_meeting K) []) (c_path_in : Cl P w K mg base 1 "path_in" (sp_path_in K) []) : Cl P w K mg base 3 "links_between" (sp_links_between K) [] := by
  refine cl_of d sc_links_between (fun f fd F => F.bindsN fun _ _ _ _ _ _ us hl => match us, hl with | [_, _, _, _, _], _ => rfl) (SpN.len fun _ => rfl) fun cdv f A outer s H vs Q E hr h => ?_
  have hu := hu_of hr
  refine ⟨_, (pss_cons (ps_set (i := 5) sc_links_between.nd rfl (Or.inr rfl) (pe_cl c_meeting hr (by decide) rfl (pa_cons (pv 1) (pa_cons (pv 2) (pa_cons (pv 3) pa_nil)))))
      (pss_cons (ps_setLc (i := 6) (own := [("one", 7)]) rfl sc_links_between.nd rfl rfl (sw_true rfl rfl rfl (by decide +kernel)) (pi_list (pe_cl c_path_in hr (by decide) rfl (pa_cons (pv 1) (pa_cons (pv 2) pa_nil)))) (blkOk_by (own := [("one", 7)]) (N := N_links_between) (sc := defScope s_links_between) (by decide +kernel)) (fun _ _ _ _ _ => (pg_name (i := 7) sc_links_between.nd rfl (Or.inl rfl))) (fun _ _ _ _ _ => (pts_one (pt_cmpR op_gt (pv 7) (pv 5) (nomark _)))) (fun _ _ _ _ _ => (pe_ix (ixT K) (pe_ix (ixL K) (pv 1) (pv 7) (fun _ _ => rfl)) pe_int (fun _ _ => rfl))))
      (pss_cons (ps_aug (i := 6) sc_links_between.nd rfl (Or.inl rfl) (pe_lc (own := [("one", 7)]) (by rfl) sc_links_between.nd (pi_list (pe_cl c_path_in hr (by decide) rfl (pa_cons (pv 1) (pa_cons (pv 3) pa_nil)))) (blkOk_by (own := [("one", 7)]) (N := N_links_between) (sc := defScope s_links_between) (by decide +kernel)) (fun _ _ _ _ _ => (pg_name (i := 7) sc_links_between.nd rfl (Or.inl rfl))) (fun _ _ _ _ _ => (pts_one (PW.pt (pw_and (pt_cmpR op_gt (pv 7) (pv 5) (nomark _)) (pw_and1 (pt_cmpR op_lt (pe_ix (ixT K) (pe_ix (ixL K) (pv 1) (pv 7) (fun _ _ => rfl)) pe_int (fun _ _ => rfl)) (pv 4) (nomark _))))))) (fun _ _ _ _ _ => (pe_ix (ixT K) (pe_ix (ixL K) (pv 1) (pv 7) (fun _ _ => rfl)) pe_int (fun _ _ => rfl)))) (pip_op iop_ext))
      (pss_one (ps_ret (pe_callB cr_sortedI (by rfl) T.sorted (by decide +kernel) (pa_cons (pe_lc (own := [("one", 7)]) (by rfl) sc_links_between.nd (pi_list (pv 6)) (blkOk_by (own := [("one", 7)]) (N := N_links_between) (sc := defScope s_links_between) (by decide +kernel)) (fun _ _ _ _ _ => (pg_name (i := 7) sc_links_between.nd rfl (Or.inl rfl))) (fun _ _ _ _ _ => (pts_one (pt_cmpR (opIn K) (pe_ix (ixT K) (pe_ix (ixT K) (pv 0) (pv 7) (fun _ _ => rfl)) pe_int (fun _ _ => rfl)) (pe_tup (pa_cons pe_str (pa_cons pe_str pa_nil))) (by rfl)))) (fun _ _ _ _ _ => (pv 7))) pa_nil))))))), ?_⟩
  obtain ⟨B, ⟨p, wv, v, cd, a⟩, e0, dl, pre, q⟩ := h
  have W := Wd.start (K := K) e0
  obtain ⟨v1, r1, rfl, f1, dl⟩ := dl.cons_inv
  obtain ⟨v2, r2, rfl, f2, dl⟩ := dl.cons_inv
  obtain ⟨v3, r3, rfl, f3, dl⟩ := dl.cons_inv
  obtain ⟨v4, r4, rfl, f4, dl⟩ := dl.cons_inv
  obtain ⟨v5, r5, rfl, f5, dl⟩ := dl.cons_inv
  cases dl
  obtain ⟨pg, hw, hv, hm⟩ := pre
  have pg : PgOk p := pg
  have hw : wv < nv p := hw
  have hv : v < nv p := hv
  have hm : meet (vpar p) wv v = some a := hm
  have f1 : Da K B v1 (.tuple (p.map dStm)) := f1
  have f2 : Da K B v2 (dRows (rows p)) := f2
  have f3 : Da K B v3 (nI wv) := f3
  have f4 : Da K B v4 (nI v) := f4
  have f5 : Da K B v5 (nI cd) := f5
  have hnv := pg.nv
  have alen : ∀ {i : Nat}, i < nv p → (vanc p i).length ≤ 40 := fun {i} hi => by
    have := anc_len (par := vpar p) (fun _ _ h => vplt pg.ok h) (i + 1) i (Nat.lt_succ_self i)
    show (anc (vpar p) i).length ≤ _
    omega
  have ain : ∀ {i : Nat}, i < nv p → ∀ x, x ∈ vanc p i → x < nv p := fun {i} hi x hx => Nat.lt_of_le_of_lt (mem_anc_le hx) hi
  refine q_set W (EvB.to (d1 := dO (some a)) (c_D (a := (p, wv, v)) (a_cons (e_var f2) (a_cons (e_var f3) (a_cons (e_var f4) a_nil))) ⟨pg, hw, hv⟩) (by show dO (meet (vpar p) wv v) = _; rw [hm])) fun vs B1 H1 e1 W1 fs => ?_
  have fs : Da K B1 vs (nI a) := fs
  refine q_setN W1 (l_lc (n := ((vanc p wv).map nI).length) (f := fun i => ((vanc p wv).map nI).getD i .none) (fun i => decide (a < (vanc p wv).getD i 0)) (fun i => nI (vst p ((vanc p wv).getD i 0)))
    (i_list (EvN.data (c_N (a := (p, wv)) (a_cons (e_var f2) (a_cons (e_var f3) a_nil)) ⟨pg, hw⟩))) (by have := alen hw; rw [List.length_map]; omega) ?_) fun p1 ds B2 H2 e2 h1 W2 hd => ?_
  · intro i x D acc B5 H5 hi e5 i5 fx R k
    obtain ⟨s, hs, e⟩ := turn_map hi
    have fx : Da K B5 x (nI s) := by rw [← e]; exact fx
    refine k _ rfl ?_ fun _ => ?_
    · rw [getD_mem' hs]
      exact t_test (e_gtN (e_var fx) (e_var fs))
    · rw [getD_mem' hs]
      exact e_ixT (e_atL (f := dRow) (e_var f2) (e_var fx) (row_at (ain hw s (List.mem_of_getElem? hs)))) e_cint rfl
  rw [List.length_map, given_filter (vanc p wv) 0 (fun x => decide (a < x)) (fun x => nI (vst p x))] at hd
  subst hd
  refine q_aug W2 (.inl h1) (EvN.data (l_lc (n := ((vanc p v).map nI).length) (f := fun i => ((vanc p v).map nI).getD i .none) (fun i => decide (a < (vanc p v).getD i 0) && decide (vst p ((vanc p v).getD i 0) < cd)) (fun i => nI (vst p ((vanc p v).getD i 0)))
    (i_list (EvN.data (c_N (a := (p, v)) (a_cons (e_var f2) (a_cons (e_var f4) a_nil)) ⟨pg, hv⟩))) (by have := alen hv; rw [List.length_map]; omega) ?_)) ?_ fun B3 H3 e3 W3 => ?_
  · intro i x D acc B5 H5 hi e5 i5 fx R k
    obtain ⟨s, hs, e⟩ := turn_map hi
    have fx : Da K B5 x (nI s) := by rw [← e]; exact fx
    have es : ∀ {c : Ent} {ls : Ls} {σ : L2.St}, σ[1]? = some (some v2) → σ[7]? = some (some x) → EvD K c none ls (tOp (rIxT K) (tOp (rIxL K) (tVar 1) (tVar 7)) (tC (.int 0))) σ B5 (nI (vst p s)) := fun {c ls σ} h1 h2 =>
      e_ixT (e_atL (f := dRow) (e_var f2 h1) (e_var fx h2) (row_at (ain hv s (List.mem_of_getElem? hs)))) e_cint rfl
    refine k _ rfl ?_ fun _ => ?_
    · rw [getD_mem' hs]
      exact t_and (t_test (e_gtN (e_var fx) (e_var fs))) fun _ => t_test (e_ltN (es rfl rfl) (e_var f5))
    · rw [getD_mem' hs]
      exact es rfl rfl
  · have h1 := given_len ((vanc p v).map nI).length (fun i => decide (a < (vanc p v).getD i 0) && decide (vst p ((vanc p v).getD i 0) < cd)) (fun i => nI (vst p ((vanc p v).getD i 0)))
    have h2 := alen hw
    have h3 := alen hv
    have h4 := List.length_filter_le (fun x => decide (a < x)) (vanc p wv)
    simp only [List.length_map] at h1 ⊢
    omega
  rw [List.length_map, given_filter (vanc p v) 0 (fun x => decide (a < x) && decide (vst p x < cd)) (fun x => nI (vst p x))] at W3
  have eL : ((vanc p wv).filter fun x => decide (a < x)).map (fun x => nI (vst p x)) ++ ((vanc p v).filter fun x => decide (a < x) && decide (vst p x < cd)).map (fun x => nI (vst p x)) =
      (((vanc p wv).filter fun x => decide (a < x)) ++ (vanc p v).filter fun x => decide (a < x) && decide (vst p x < cd)).map (fun x => nI (vst p x)) := (List.map_append ..).symm
  rw [eL] at W3
  have hL : ∀ u, u ∈ (((vanc p wv).filter fun x => decide (a < x)) ++ (vanc p v).filter fun x => decide (a < x) && decide (vst p x < cd)) ↔ a < u ∧ (u ∈ vanc p wv ∨ (u ∈ vanc p v ∧ vst p u < cd)) := fun u => by
    rw [List.mem_append, List.mem_filter, List.mem_filter, Bool.and_eq_true, decide_eq_true_eq, decide_eq_true_eq]
    constructor
    · rintro (⟨z1, z2⟩ | ⟨z1, z2, z3⟩)
      · exact ⟨z2, .inl z1⟩
      · exact ⟨z2, .inr ⟨z1, z3⟩⟩
    · rintro ⟨z1, z2 | ⟨z2, z3⟩⟩
      · exact .inl ⟨z2, z1⟩
      · exact .inr ⟨z2, z1, z3⟩
  have hLn : ((((vanc p wv).filter fun x => decide (a < x)) ++ (vanc p v).filter fun x => decide (a < x) && decide (vst p x < cd))).length ≤ 80 := by
    have h2 := alen hw
    have h3 := alen hv
    have h4 := List.length_filter_le (fun x => decide (a < x)) (vanc p wv)
    have h5 := List.length_filter_le (fun x => decide (a < x) && decide (vst p x < cd)) (vanc p v)
    rw [List.length_append]
    omega
  generalize (((vanc p wv).filter fun x => decide (a < x)) ++ (vanc p v).filter fun x => decide (a < x) && decide (vst p x < cd)) = L at W3 hL hLn
  have hLv : ∀ u, u ∈ L → u < nv p := fun u hu => by
    rcases ((hL u).mp hu).2 with z | z
    · exact ain hw u z
    · exact ain hv u z.1
  obtain ⟨B4, e4, W4, fl⟩ := W3.done h1
  have fl : Da K B4 (.ref p1) (.list (L.map fun x => nI (vst p x))) := fl
  refine s_retN W4 (EvN.imp (l_sortI (ns := (L.filter fun x => isApp (p.getD (vst p x) stm0)).map fun x => ((vst p x : Nat) : Int)) (a_cons (EvB.to (EvN.data (l_lc (n := (L.map fun x => nI (vst p x)).length) (f := fun i => (L.map fun x => nI (vst p x)).getD i .none) (fun i => isApp (p.getD (vst p (L.getD i 0)) stm0)) (fun i => nI (vst p (L.getD i 0)))
    (i_list (e_var fl)) (by rw [List.length_map]; omega) ?_)) ?_) a_nil)) fun ds hd => ?_) rfl q
  · intro i x D acc B5 H5 hi e5 i5 fx R k
    obtain ⟨s, hs, e⟩ := turn_map hi
    have fx : Da K B5 x (nI (vst p s)) := by rw [← e]; exact fx
    have hs' := hLv s (List.mem_of_getElem? hs)
    refine k _ rfl ?_ fun _ => ?_
    · rw [getD_mem' hs]
      exact t_to (t_test (e_inS (ns := ["append", "grow"]) (e_ixT (e_atT (f := dStm) (e_var f1) (e_var fx) (st_of hs')) e_cint atI_0) (e_tup (a_cons e_cstr (a_cons e_cstr a_nil)) lk))) (word_app _)
    · rw [getD_mem' hs]
      exact e_var fx
  · rw [List.length_map, given_filter L 0 (fun x => isApp (p.getD (vst p x) stm0)) (fun x => nI (vst p x)), List.map_map]
    rfl
  · obtain ⟨ms, hp, hso, rfl⟩ := hd
    obtain ⟨U, hU, rfl⟩ := perm_map (f := fun x : Nat => ((vst p x : Nat) : Int)) hp rfl
    refine ⟨U.map (vst p), by rw [List.map_map, List.map_map]; rfl, ?_, fun s => ?_⟩
    · have h1 := hU.length_eq
      have h2 := List.length_filter_le (fun x => isApp (p.getD (vst p x) stm0)) L
      rw [List.length_map]
      omega
    · rw [List.mem_map]
      constructor
      · rintro ⟨u, hu, rfl⟩
        obtain ⟨k1, k2⟩ := List.mem_filter.mp (hU.mem_iff.mp hu)
        obtain ⟨k3, k4⟩ := (hL u).mp k1
        exact ⟨u, ⟨app_kind.mpr k2, k3, k4⟩, rfl⟩
      · rintro ⟨u, ⟨k1, k2, k3⟩, rfl⟩
        exact ⟨u, hU.mem_iff.mpr (List.mem_filter.mpr ⟨(hL u).mpr ⟨k2, k3⟩, app_kind.mp k1⟩), rfl⟩
theorem cl_candidates (d : Df K mg "candidates" s_candidates) (T : Tx K mg) (c_need_read : Cl P w K mg base 3 "need_read" (sp_need_read K) []) (c_candidates_in : Cl P w K mg base 2 "candidates_in" (sp_candidates_in K) []) (c_views : Cl P w K mg base 2 "views" (sp_views K) []) : Cl P w K mg base 4 "candidates" (sp_candidates K) [] := by
  refine cl_of d sc_candidates (fun f fd F => F.bindsN fun _ _ _ _ _ _ us hl => match us, hl with | [_, _], _ => rfl) (SpN.len fun _ => rfl) fun cdv f A outer s H vs Q E hr h => ?_
  have hu := hu_of hr
  refine ⟨_, (pss_cons (ps_asg (pe_cl c_need_read hr (by decide) rfl (pa_cons (pv 0) (pa_cons (pv 1) pa_nil))) (pgTup (n := 3) K (pgs_cons (pg_name (i := 2) sc_candidates.nd rfl (Or.inl rfl)) (pgs_cons (pg_name (i := 3) sc_candidates.nd rfl (Or.inl rfl)) (pgs_cons (pg_name (i := 4) sc_candidates.nd rfl (Or.inl rfl)) pgs_nil)))))
      (pss_one (ps_ret (pe_lc (own := [("candidate", 5), ("writer", 6)]) (by rfl) sc_candidates.nd (pi_list (pe_cl c_candidates_in hr (by decide) rfl (pa_cons (pv 0) (pa_cons (pe_cl c_views hr (by decide) rfl (pa_cons (pv 0) pa_nil)) (pa_cons (pv 2) (pa_cons (pv 3) (pa_cons (pv 4) pa_nil))))))) (blkOk_by (own := [("candidate", 5), ("writer", 6)]) (N := N_candidates) (sc := defScope s_candidates) (by decide +kernel)) (fun _ _ _ _ _ => (pgTup (n := 2) K (pgs_cons (pg_name (i := 5) sc_candidates.nd rfl (Or.inl rfl)) (pgs_cons (pg_name (i := 6) sc_candidates.nd rfl (Or.inl rfl)) pgs_nil)))) (fun _ _ _ _ _ => pts_nil) (fun _ _ _ _ _ => (pv 5)))))), ?_⟩
  obtain ⟨B, ⟨p, k, qr⟩, e0, dl, pre, q⟩ := h
  have W := Wd.start (K := K) e0
  obtain ⟨v1, r1, rfl, f1, dl⟩ := dl.cons_inv
  obtain ⟨v2, r2, rfl, f2, dl⟩ := dl.cons_inv
  cases dl
  obtain ⟨pg, hk⟩ := pre
  have pg : PgOk p := pg
  have hk : (reads p)[k]? = some qr := hk
  have f1 : Da K B v1 (dProg p) := f1
  have f2 : Da K B v2 (nI k) := f2
  obtain ⟨r1, r2, r3⟩ := reads_ok pg.ok p.length k qr (Nat.le_refl _) hk
  have hv : qr.2.1 < nv p := seen_lt (by omega) r2
  refine q_asg W (c_D (a := (p, k, qr)) (a_cons (e_var f1) (a_cons (e_var f2) a_nil)) ⟨pg, hk⟩) fun v B1 H1 e1 W1 fq => ?_
  refine g_tup fq W1.inn rfl fun vs fv => g_cons fv fun va r fa fr => g_cons fr fun vb r fb fr => g_cons fr fun vc r fc fr => g_nil fr ?_
  have hlen := candL_len (p := p) (n := qr.1) (v := qr.2.1) (x := vstart p qr.2.1 + qr.2.2)
  have hpl := pg.len
  have q : RN K B H (fun ds => ds = (candL p qr.1 qr.2.1 (vstart p qr.2.1 + qr.2.2)).map fun e => nI e.1) Q := q
  have hcN : ∀ {c : Ent} {ls : Ls} {σ : L2.St} {ta tb tc td te : TE} {B' : Hp}, EvD K c none ls ta σ B' (dProg p) → EvD K c none ls tb σ B' (dRows (rows p)) → EvD K c none ls tc σ B' (nI qr.1) → EvD K c none ls td σ B' (nI qr.2.1) → EvD K c none ls te σ B' (nI qr.2.2) →
      EvN K c none none ls (tCall (sp_candidates_in K) [] E0 (tCons ta (tCons tb (tCons tc (tCons td (tCons te tNil)))))) σ B' fun ds => ds = (candL p qr.1 qr.2.1 (vstart p qr.2.1 + qr.2.2)).map dPair := fun h1 h2 h3 h4 h5 =>
    c_N (a := (p, qr.1, qr.2.1, qr.2.2)) (a_cons h1 (a_cons h2 (a_cons h3 (a_cons h4 (a_cons h5 a_nil))))) ⟨pg, hv⟩
  generalize candL p qr.1 qr.2.1 (vstart p qr.2.1 + qr.2.2) = L at q hlen hcN
  refine s_retN W1 (EvN.imp (l_lc (n := (L.map dPair).length) (f := fun i => (L.map dPair).getD i .none) (fun i => true) (fun i => nI (L.getD i (0, 0)).1)
    (i_list (EvN.data (hcN (e_var f1) (EvN.data (c_N (a := p) (a_cons (e_var f1) a_nil) pg)) (e_var fa) (e_var fb) (e_var fc)))) (by rw [List.length_map]; omega) ?_) fun ds hd => ?_) rfl q
  · intro i x D acc B5 H5 hi e5 i5 fx R k
    obtain ⟨s, hs, e⟩ := turn_map hi
    have fx : Da K B5 x (dPair s) := by rw [← e]; exact fx
    refine g_tup fx i5 rfl fun vs fv => g_cons fv fun va r fa fr => g_cons fr fun vb r fb fr => g_nil fr ?_
    refine k _ rfl t_yes fun _ => ?_
    rw [getD_mem' hs]
    exact e_var fa
  · rw [hd, List.length_map, given_filter L (0, 0) (fun _ => true) (fun e => nI e.1), List.filter_eq_self.mpr fun _ _ => rfl]
theorem cl_table_policy (d : Df K mg "table_policy" s_table_policy) (T : Tx K mg)  : Cl P w K mg base 1 "table_policy" (sp_table_policy K) [] := by
  refine cl_of d sc_table_policy (fun f fd F => F.bindsN fun _ _ _ _ _ _ us hl => match us, hl with | [_], _ => rfl) (SpB.len fun _ => rfl) fun cdv f A outer s H vs Q E hr h => ?_
  have hu := hu_of hr
  refine ⟨_, (pss_one (ps_ret (pe_tup (pa_cons pe_str (pa_cons (pv 0) pa_nil))))), ?_⟩
  obtain ⟨B, t, e0, dl, pre, q⟩ := h
  have W := Wd.start (K := K) e0
  obtain ⟨v1, r1, rfl, f1, dl⟩ := dl.cons_inv
  cases dl
  exact s_ret W (e_tup (a_cons e_cstr (a_cons (e_var f1) a_nil)) lk) rfl q
theorem cl_with_entry (d : Df K mg "with_entry" s_with_entry) (T : Tx K mg)  : Cl P w K mg base 1 "with_entry" (sp_with_entry K) [] := by
  refine cl_of d sc_with_entry (fun f fd F => F.bindsN fun _ _ _ _ _ _ us hl => match us, hl with | [_, _, _], _ => rfl) (SpB.len fun _ => rfl) fun cdv f A outer s H vs Q E hr h => ?_
  have hu := hu_of hr
  refine ⟨_, (pss_cons (ps_setLc (i := 3) (own := [("entry", 4)]) rfl sc_with_entry.nd rfl rfl (sw_true rfl rfl rfl (by decide +kernel)) (pi_tup (pv 0)) (blkOk_by (own := [("entry", 4)]) (N := N_with_entry) (sc := defScope s_with_entry) (by decide +kernel)) (fun _ _ _ _ _ => (pg_name (i := 4) sc_with_entry.nd rfl (Or.inl rfl))) (fun _ _ _ _ _ => (pts_one (pt_cmpR op_ne (pe_ix (ixT K) (pv 4) pe_int (fun _ _ => rfl)) (pv 1) (nomark _)))) (fun _ _ _ _ _ => (pv 4)))
      (pss_one (ps_ret (pe_callTy call_tuple_of (by rfl) T.tuple (by decide +kernel) (pa_cons (pe_callB cr_sortedPO (by rfl) T.sorted (by decide +kernel) (pa_cons (pe_op op_cat (pv 3) (pe_lst (pa_cons (pe_tup (pa_cons (pv 1) (pa_cons (pv 2) pa_nil))) pa_nil))) pa_nil)) pa_nil))))), ?_⟩
  obtain ⟨B, ⟨t, s0, c0⟩, e0, dl, pre, q⟩ := h
  have W := Wd.start (K := K) e0
  obtain ⟨v1, r1, rfl, f1, dl⟩ := dl.cons_inv
  obtain ⟨v2, r2, rfl, f2, dl⟩ := dl.cons_inv
  obtain ⟨v3, r3, rfl, f3, dl⟩ := dl.cons_inv
  cases dl
  obtain ⟨hs, hl⟩ := pre
  have hs : Srt t := hs
  have hl : t.length ≤ 1000 := hl
  have f1 : Da K B v1 (.tuple (t.map dPair)) := f1
  have f2 : Da K B v2 (nI s0) := f2
  have f3 : Da K B v3 (nI c0) := f3
  refine q_set W (EvN.data (l_lc (n := (t.map dPair).length) (f := fun i => (t.map dPair).getD i .none) (fun i => !decide ((t.getD i (0, 0)).1 = s0)) (fun i => dPair (t.getD i (0, 0)))
    (i_tup (e_var f1)) (by rw [List.length_map]; omega) ?_)) fun v B1 H1 e1 W1 fo => ?_
  · intro i x D acc B5 H5 hi e5 i5 fx R k
    obtain ⟨s, hs, e⟩ := turn_map hi
    have fx : Da K B5 x (dPair s) := by rw [← e]; exact fx
    refine k _ rfl ?_ fun _ => ?_
    · rw [getD_mem' hs]
      exact t_test (e_neN (e_ixT (e_var fx) e_cint rfl) (e_var f2))
    · rw [getD_mem' hs]
      exact e_var fx
  rw [List.length_map, given_filter t (0, 0) (fun e => !decide (e.1 = s0)) dPair] at fo
  refine s_ret (Φ := fun v B' => Da K B' v (dTab (putE s0 c0 t))) W1 (e_tupL (a_cons ?_ a_nil)) rfl q
  have hsub : ((t.filter fun e => !decide (e.1 = s0)) ++ [(s0, c0)]).map dPair = (t.filter fun e => !decide (e.1 = s0)).map dPair ++ [dPair (s0, c0)] := List.map_append ..
  have hnd : (((t.filter fun e => !decide (e.1 = s0)) ++ [(s0, c0)]).map (·.1)).Nodup := by
    rw [List.map_append, List.nodup_append]
    refine ⟨(hs.nodup).sublist (List.filter_sublist.map _), List.nodup_cons.mpr ⟨List.not_mem_nil, List.nodup_nil⟩, fun a ha b hb => ?_⟩
    obtain ⟨e, he, rfl⟩ := List.mem_map.mp ha
    have h2 := (List.mem_filter.mp he).2
    have hb : b = s0 := by simpa using hb
    rw [hb]
    intro z
    rw [decide_eq_true z] at h2
    cases h2
  refine EvB.imp (EvN.dataB (l_sortP (T := (t.filter fun e => !decide (e.1 = s0)) ++ [(s0, c0)]) (a_cons (EvB.to (EvN.data (l_cat (e_var fo) (EvN.data (l_lst (a_cons (e_tup (a_cons (e_var f2) (a_cons (e_var f3) a_nil)) lk) a_nil) lk)) ?_)) ?_) a_nil))) fun v B2 e2 hx => ?_
  · have := List.length_filter_le (fun e : Nat × Nat => !decide (e.1 = s0)) t
    rw [List.length_map]
    show _ + 1 ≤ _
    omega
  · rw [hsub]
    rfl
  · obtain ⟨ds, fd, U, hU, hb, rfl⟩ := hx
    have e : U = putE s0 c0 t := Srt.ext (srt_of_perm hU hb hnd) (putE_srt hs) fun e => by
      rw [hU.mem_iff, putE_mem hs, List.mem_append, List.mem_filter, List.mem_singleton]
      constructor
      · rintro (⟨z1, z2⟩ | z)
        · refine .inr ⟨z1, fun y => ?_⟩
          rw [decide_eq_true y] at z2
          cases z2
        · exact .inl z
      · rintro (z | ⟨z1, z2⟩)
        · exact .inr z
        · exact .inl ⟨z1, by rw [decide_eq_false z2] <;> rfl⟩
    rw [← e]
    exact fd
end GB
namespace GB
open PySem PySem.Spec PyProof.Rows L2
open Evl (Ex)
variable {P : Program} {w : World} {K : PySem.W.Frag} {mg : Str → Option Value} {base : Heap}

theorem nodup_len : ∀ {n : Nat} {l : List Nat}, l.Nodup → (∀ c, c ∈ l → c < n) → l.length ≤ n
  | 0, [], _, _ => Nat.le_refl 0
  | 0, c :: l, _, h => absurd (h c List.mem_cons_self) (Nat.not_lt_zero c)
  | n + 1, l, nd, h => by
    have h1 : (l.filter fun c => decide (c ≠ n)).length ≤ n := nodup_len (nd.sublist List.filter_sublist) fun c hc => by
      obtain ⟨a, b⟩ := List.mem_filter.mp hc
      have b := of_decide_eq_true b
      have := h c a
      omega
    have h2 : l.length ≤ (l.filter fun c => decide (c ≠ n)).length + 1 := by
      clear h h1
      induction l with
      | nil => exact Nat.zero_le _
      | cons a l ih =>
        rw [List.nodup_cons] at nd
        by_cases z : a = n
        · have : l.filter (fun c => decide (c ≠ n)) = l := List.filter_eq_self.mpr fun c hc => decide_eq_true fun y => nd.1 (by rw [z, ← y]; exact hc)
          rw [List.filter_cons_of_neg (by simp [z]), this]
          exact Nat.le_refl _
        · rw [List.filter_cons_of_pos (by simp [z]), List.length_cons, List.length_cons]
          exact Nat.succ_le_succ (ih nd.2)
    omega
theorem take_more {α : Type} {l : List α} {i : Nat} {a : α} (h : l[i]? = some a) : l.take (i + 1) = l.take i ++ [a] := by
  rw [List.take_add_one, h]
  rfl
theorem root_at {p : Prog} {i : Nat} : (vanc p i)[0]? = some (vroot p i) := by
  unfold vroot rootOf vanc
  cases h : anc (vpar p) i with
  | nil => exact absurd h (anc_ne i)
  | cons a l => rfl
def dWr (e : Wr) : PyData := .tuple [nI e.1, .tuple [nI e.2.1, nI e.2.2.1, .int ((e.2.2.2 : Int) - 1)]]
def tstW (p : Prog) (n v x : Nat) (e : Wr) : Bool := decide (e.1 < n) && (decide (e.2.2.1 ≤ x) && decide (x < e.2.2.2)) && decide (vroot p e.2.1 = vroot p v)
theorem cand_of {p : Prog} {E : List Wr} (h : WrAll p E) {n v x : Nat} {e : Nat × Nat} : e ∈ (E.filter (tstW p n v x)).map (fun e => (e.1, e.2.1)) ↔ e ∈ candL p n v x := by
  obtain ⟨c, w⟩ := e
  rw [candL_mem, List.mem_map]
  constructor
  · rintro ⟨f, hf, e⟩
    obtain ⟨h1, h2⟩ := List.mem_filter.mp hf
    unfold tstW at h2
    rw [Bool.and_eq_true, Bool.and_eq_true, Bool.and_eq_true, decide_eq_true_eq, decide_eq_true_eq, decide_eq_true_eq, decide_eq_true_eq] at h2
    obtain ⟨⟨k1, k2, k3⟩, k4⟩ := h2
    obtain ⟨f1, f2, f3, f4⟩ := f
    cases e
    exact ⟨k1, k4, f3, f4, (h.iff _).mp h1, k2, k3⟩
  · rintro ⟨k1, k2, lo, hi, k3, k4, k5⟩
    refine ⟨(c, w, lo, hi), List.mem_filter.mpr ⟨(h.iff _).mpr k3, ?_⟩, rfl⟩
    unfold tstW
    rw [decide_eq_true k1, decide_eq_true k4, decide_eq_true k5, decide_eq_true k2]
    rfl
theorem cl_candidates_in (d : Df K mg "candidates_in" s_candidates_in) (T : Tx K mg) (c_path_in : Cl P w K mg base 1 "path_in" (sp_path_in K) []) (c_writes : Cl P w K mg base 1 "writes" (sp_writes K) []) : Cl P w K mg base 2 "candidates_in" (sp_candidates_in K) [] := by
  refine cl_of d sc_candidates_in (fun f fd F => F.bindsN fun _ _ _ _ _ _ us hl => match us, hl with | [_, _, _, _, _], _ => rfl) (SpN.len fun _ => rfl) fun cdv f A outer s H vs Q E hr h => ?_
  have hu := hu_of hr
  refine ⟨_, (pss_cons (ps_set (i := 5) sc_candidates_in.nd rfl (Or.inl rfl) (pe_op op_add (pe_ix (ixT K) (pe_ix (ixL K) (pv 1) (pv 3) (fun _ _ => rfl)) pe_int (fun _ _ => rfl)) (pv 4)))
      (pss_cons (ps_set (i := 6) sc_candidates_in.nd rfl (Or.inl rfl) (pe_ix (ixL K) (pe_cl c_path_in hr (by decide) rfl (pa_cons (pv 1) (pa_cons (pv 3) pa_nil))) pe_int (fun _ _ => rfl)))
      (pss_cons (ps_set (i := 7) sc_candidates_in.nd rfl (Or.inl rfl) (pe_lst pa_nil))
      (pss_cons (ps_for PassesOwn.never rfl (pi_itemsN (pe_cl c_writes hr (by decide) rfl (pa_cons (pv 0) (pa_cons (pv 1) pa_nil)))) (pgTup (n := 2) K (pgs_cons (pg_name (i := 8) sc_candidates_in.nd rfl (Or.inl rfl)) (pgs_cons (pgTup (n := 3) K (pgs_cons (pg_name (i := 9) sc_candidates_in.nd rfl (Or.inl rfl)) (pgs_cons (pg_name (i := 10) sc_candidates_in.nd rfl (Or.inl rfl)) (pgs_cons (pg_name (i := 11) sc_candidates_in.nd rfl (Or.inl rfl)) pgs_nil)))) pgs_nil))) (pss_one (ps_if (PW.pt (pw_and (pt_cmpR op_lt (pv 8) (pv 2) (nomark _)) (pw_and (pt_chain op_le op_le (pv 10) (pv 5) (pv 11)) (pw_and1 (pt_cmpR op_eq (pe_ix (ixL K) (pe_cl c_path_in hr (by decide) rfl (pa_cons (pv 1) (pa_cons (pv 9) pa_nil))) pe_int (fun _ _ => rfl)) (pv 6) (nomark _)))))) (pss_one (ps_expr (pe_bm PySem.F.plainAttrs_list PySem.F.slot_list_append PySem.F.type_list_append mt_append (pv 7) (pa_cons (pe_tup (pa_cons (pv 8) (pa_cons (pv 9) pa_nil))) pa_nil)))) pss_nil)))
      (pss_one (ps_ret (pe_callB cr_sortedPO (by rfl) T.sorted (by decide +kernel) (pa_cons (pv 7) pa_nil)))))))), ?_⟩
  obtain ⟨B, ⟨p, n, v, x⟩, e0, dl, pre, q⟩ := h
  have W := Wd.start (K := K) e0
  obtain ⟨v1, r1, rfl, f1, dl⟩ := dl.cons_inv
  obtain ⟨v2, r2, rfl, f2, dl⟩ := dl.cons_inv
  obtain ⟨v3, r3, rfl, f3, dl⟩ := dl.cons_inv
  obtain ⟨v4, r4, rfl, f4, dl⟩ := dl.cons_inv
  obtain ⟨v5, r5, rfl, f5, dl⟩ := dl.cons_inv
  cases dl
  obtain ⟨pg, hv⟩ := pre
  have pg : PgOk p := pg
  have hv : v < nv p := hv
  have f1 : Da K B v1 (dProg p) := f1
  have f2 : Da K B v2 (dRows (rows p)) := f2
  have f3 : Da K B v3 (nI n) := f3
  have f4 : Da K B v4 (nI v) := f4
  have f5 : Da K B v5 (nI x) := f5
  have q : RN K B H (fun ds => ds = (candL p n v (vstart p v + x)).map dPair) Q := q
  refine q_set W (e_addN (e_ixT (e_atL (f := dRow) (e_var f2) (e_var f4) (row_at hv)) e_cint (d := nI (vstart p v)) rfl) (e_var f5)) fun vp B1 H1 e1 W1 fp => ?_
  refine q_set W1 (e_atL (f := nI) (EvN.data (c_N (a := (p, v)) (a_cons (e_var f2) (a_cons (e_var f4) a_nil)) ⟨pg, hv⟩)) (e_cint (n := ((0 : Nat) : Int))) root_at) fun vr B2 H2 e2 W2 fr => ?_
  refine q_setN W2 (l_lst a_nil lk) fun p1 ds B3 H3 e3 h1 W3 hd => ?_
  subst hd
  refine q_forK W3 (k_writes (p := p) (a_cons (e_var f1) (a_cons (e_var f2) a_nil)) pg) fun pd kvs o B4 B5 H5 e4 e5 hP hfrz W5 => ?_
  obtain ⟨E, hE, wd⟩ := hP
  have wd := wd.mono e5
  have hEl : ∀ e, e ∈ E → e.2.1 < nv p := fun e he => (wr_view pg.ok ((hE.iff e).mp he)).1
  have hElen : E.length ≤ 80 := by
    have hsub : (E.map (·.1)).Nodup := hE.nd
    have h1 : ∀ c, c ∈ E.map (·.1) → c < p.length := fun c hc => by
      obtain ⟨e, he, rfl⟩ := List.mem_map.mp hc
      exact (wr_view pg.ok ((hE.iff e).mp he)).2.2
    have h2 := nodup_len hsub h1
    rw [List.length_map] at h2
    have := pg.len
    omega
  refine q_for W5 (i_items (f := fun i => dWr (E.getD i (0, 0, 0, 0))) hfrz ?_) (fun i σ B' H' => ∃ a b c d, σ = [some v1, some v2, some v3, some v4, some v5, some vp, some vr, some (.ref p1), a, b, c, d] ∧
      Wd K ⟨B, H, []⟩ none [(p1, .l (((E.take i).filter (tstW p n v (vstart p v + x))).map fun e => dPair (e.1, e.2.1)))] B' H') (fun B6 H6 e6 W6 => ⟨_, _, _, _, rfl, W6⟩) (fun i σ' B' H' iv => by obtain ⟨_, _, _, _, _, h⟩ := iv; exact h.inn) ?_ ?_
  · intro i k u hk
    obtain ⟨e, he, rfl, fe⟩ := wd.get hk
    refine ⟨_, _, ?_, .int _, fe⟩
    rw [getD_mem' he]
    rfl
  · rintro i y σ' B0 B6 H6 B7 H7 hi e6 e7 ⟨xa, xb, xc, xd, rfl, W6⟩ e8 up fx
    have W7 := up _ _ W6
    have hi : i < E.length := by rw [← wd.len]; exact hi
    have he : E[i]? = some E[i] := List.getElem?_eq_getElem hi
    have hmem : E[i] ∈ E := List.getElem_mem hi
    generalize E[i] = e at he hmem
    have fx : Da K B7 y (dWr e) := by
      have fx : Da K B7 y (dWr (E.getD i (0, 0, 0, 0))) := fx
      rw [getD_mem' he] at fx
      exact fx
    obtain ⟨c, ow, lo, hi2⟩ := e
    have how : ow < nv p := hEl _ hmem
    refine g_tup fx W7.inn rfl fun vs fv => g_cons fv fun va r fa fr2 => g_cons fr2 fun vb r fb fr2 => ?_
    refine g_tup fb W7.inn rfl fun vs fv => g_cons fv fun vc r fc fr3 => g_cons fr3 fun vd r fd fr3 => g_cons fr3 fun ve r fe fr3 => ?_
    refine g_name ?_
    refine g_nil fr3 ?_
    refine g_nil fr2 ?_
    have fa : Da K B7 va (nI c) := fa
    have fc : Da K B7 vc (nI ow) := fc
    have fd : Da K B7 vd (nI lo) := fd
    have fe : Da K B7 ve (.int ((hi2 : Int) - 1)) := fe
    have fin : ∀ B8 H8, Ex B7 B8 → Wd K ⟨B, H, []⟩ none [(p1, .l ((((E.take i).filter (tstW p n v (vstart p v + x))).map fun e => dPair (e.1, e.2.1)) ++ (if tstW p n v (vstart p v + x) (c, ow, lo, hi2) then [dPair (c, ow)] else [])))] B8 H8 →
        ∃ B4, Ex B0 B4 ∧ ∃ a b c_1 d, [some v1, some v2, some v3, some v4, some v5, some vp, some vr, some (.ref p1), some va, some vc, some vd, some ve] = [some v1, some v2, some v3, some v4, some v5, some vp, some vr, some (.ref p1), a, b, c_1, d] ∧
          Wd K ⟨B, H, []⟩ none [(p1, .l (((E.take (i + 1)).filter (tstW p n v (vstart p v + x))).map fun e => dPair (e.1, e.2.1)))] B4 H8 := fun B8 H8 e9 W8 => by
      refine ⟨B8, (e7.trans e8).trans e9, _, _, _, _, rfl, ?_⟩
      rw [take_more he, List.filter_append, List.map_append]
      have e2 : ([(c, ow, lo, hi2)].filter (tstW p n v (vstart p v + x))).map (fun e => dPair (e.1, e.2.1)) = (if tstW p n v (vstart p v + x) (c, ow, lo, hi2) then [dPair (c, ow)] else []) := by
        by_cases z : tstW p n v (vstart p v + x) (c, ow, lo, hi2) = true
        · rw [List.filter_cons_of_pos z, if_pos z]
          rfl
        · rw [List.filter_cons_of_neg z, if_neg z]
          rfl
      rw [e2]
      exact W8
    refine s_if (b := tstW p n v (vstart p v + x) (c, ow, lo, hi2)) W7 (t_to (t_and (t_test (e_ltN (e_var fa) (e_var f3))) fun _ => t_and (t_test (e_chainI (e_var fd) (e_var fp) (e_var fe))) fun _ => t_test (e_eqN (e_atL (f := nI) (EvN.data (c_N (a := (p, ow)) (a_cons (e_var f2) (a_cons (e_var fc) a_nil)) ⟨pg, how⟩)) (e_cint (n := ((0 : Nat) : Int))) root_at) (e_var fr))) ?_) (fun hb B8 H8 e9 W8 => ?_) (fun hb B8 H8 e9 W8 => ?_)
    · show (decide (c < n) && ((decide ((lo : Int) ≤ ((vstart p v + x : Nat) : Int)) && decide (((vstart p v + x : Nat) : Int) ≤ (hi2 : Int) - 1)) && decide (vroot p ow = vroot p v))) = (decide (c < n) && (decide (lo ≤ vstart p v + x) && decide (vstart p v + x < hi2)) && decide (vroot p ow = vroot p v))
      have a1 : decide ((lo : Int) ≤ ((vstart p v + x : Nat) : Int)) = decide (lo ≤ vstart p v + x) := by
        by_cases z : lo ≤ vstart p v + x
        · rw [decide_eq_true z, decide_eq_true (by omega)]
        · rw [decide_eq_false z, decide_eq_false (by omega)]
      have a2 : decide (((vstart p v + x : Nat) : Int) ≤ (hi2 : Int) - 1) = decide (vstart p v + x < hi2) := by
        by_cases z : vstart p v + x < hi2
        · rw [decide_eq_true z, decide_eq_true (by omega)]
        · rw [decide_eq_false z, decide_eq_false (by omega)]
      rw [a1, a2]
      simp only [Bool.and_assoc]
    · refine s_appD W8 (.inl h1) (e_tup (a_cons (e_var fa) (a_cons (e_var fc) a_nil)) lk) ?_ fun B9 H9 e10 W9 => ?_
      · have h1 := List.length_filter_le (tstW p n v (vstart p v + x)) (E.take i)
        have h2 := List.length_take_le i E
        rw [List.length_map]
        have : (E.take i).length ≤ E.length := by rw [List.length_take]; omega
        omega
      · refine fin B9 H9 (e9.trans e10) ?_
        rw [if_pos hb]
        exact W9
    · refine fin B8 H8 e9 ?_
      rw [if_neg (by rw [hb]; decide), List.append_nil]
      exact W8
  · rintro σ' B6 H6 e6 ⟨xa, xb, xc, xd, rfl, W6⟩
    rw [wd.len, List.take_length] at W6
    obtain ⟨B7, e7, W7, fl⟩ := W6.done h1
    have eT : ((E.filter (tstW p n v (vstart p v + x))).map fun e => dPair (e.1, e.2.1)) = ((E.filter (tstW p n v (vstart p v + x))).map fun e => (e.1, e.2.1)).map dPair := by
      rw [List.map_map]
      rfl
    rw [eT] at fl
    refine s_retN W7 (EvN.imp (l_sortP (a_cons (e_var fl) a_nil)) fun ds hd => ?_) rfl q
    obtain ⟨U, hU, hb, rfl⟩ := hd
    have hnd : (((E.filter (tstW p n v (vstart p v + x))).map fun e => (e.1, e.2.1)).map (·.1)).Nodup := by
      rw [List.map_map]
      exact hE.nd.sublist (List.filter_sublist.map _)
    rw [Srt.ext (srt_of_perm hU hb hnd) candL_srt fun e => by rw [hU.mem_iff]; exact cand_of hE]
end GB
namespace GB
open PySem PySem.Spec PyProof.Rows L2
open Evl (Ex)
variable {P : Program} {w : World} {K : PySem.W.Frag} {mg : Str → Option Value} {base : Heap}

/-! is_visible, origins -/
theorem mem_copying {p : Prog} (ok : Valid p) {ch : Ch} {u : Nat} (hu : u < nv p) : vst p u ∈ copying p ch ↔ cpOf p ch u = true := st_copied (S := sysOf p ok) (cp := cpOf p ch) hu
theorem cp_app {p : Prog} (ok : Valid p) {ch : Ch} (ge : Ge ch) {u : Nat} (hu : u < nv p) (h : cpOf p ch u = true) : ∃ g, vkind p u = .app g := (runOf p ok ch ge).cp_app hu h
theorem cl_is_visible (d : Df K mg "is_visible" s_is_visible) (T : Tx K mg) (c_links_between : Cl P w K mg base 3 "links_between" (sp_links_between K) []) : Cl P w K mg base 4 "is_visible" (sp_is_visible K) [] := by
  refine cl_of d sc_is_visible (fun f fd F => F.bindsN fun _ _ _ _ _ _ us hl => match us, hl with | [_, _, _, _, _], _ => rfl) (SpB.len fun _ => rfl) fun cdv f A outer s H vs Q E hr h => ?_
  have hu := hu_of hr
  refine ⟨_, (pss_cons (ps_asg (pv 4) (pgTup (n := 2) K (pgs_cons (pg_name (i := 5) sc_is_visible.nd rfl (Or.inl rfl)) (pgs_cons (pg_name (i := 6) sc_is_visible.nd rfl (Or.inl rfl)) pgs_nil))))
      (pss_one (ps_ret (pe_not (pe_callB (cr_any (by rfl)) (by rfl) T.any (by decide +kernel) (pa_cons (pe_lc (own := [("link", 7)]) (by rfl) sc_is_visible.nd (pi_list (pe_cl c_links_between hr (by decide) rfl (pa_cons (pv 0) (pa_cons (pv 1) (pa_cons (pv 6) (pa_cons (pv 3) (pa_cons (pv 5) pa_nil))))))) (blkOk_by (own := [("link", 7)]) (N := N_is_visible) (sc := defScope s_is_visible) (by decide +kernel)) (fun _ _ _ _ _ => (pg_name (i := 7) sc_is_visible.nd rfl (Or.inl rfl))) (fun _ _ _ _ _ => pts_nil) (fun _ _ _ _ _ => (pe_cmpR (opIn K) (pv 7) (pv 2) (by rfl)))) pa_nil)))))), ?_⟩
  obtain ⟨B, ⟨p, ru, v, c0, w0⟩, e0, dl, pre, q⟩ := h
  have W := Wd.start (K := K) e0
  obtain ⟨v1, r1, rfl, f1, dl⟩ := dl.cons_inv
  obtain ⟨v2, r2, rfl, f2, dl⟩ := dl.cons_inv
  obtain ⟨v3, r3, rfl, f3, dl⟩ := dl.cons_inv
  obtain ⟨v4, r4, rfl, f4, dl⟩ := dl.cons_inv
  obtain ⟨v5, r5, rfl, f5, dl⟩ := dl.cons_inv
  cases dl
  obtain ⟨pg, rok, hv, hw, hroot⟩ := pre
  have pg : PgOk p := pg
  have hv : v < nv p := hv
  have hw : w0 < nv p := hw
  have f1 : Da K B v1 (dProg p) := f1
  have f2 : Da K B v2 (dRows (rows p)) := f2
  have f3 : Da K B v3 (.list ((copying p (chOf ru)).map nI)) := f3
  have f4 : Da K B v4 (nI v) := f4
  have f5 : Da K B v5 (dPair (c0, w0)) := f5
  have pl : ∀ i j, vpar p i = some j → j < i := fun _ _ h => vplt pg.ok h
  obtain ⟨a, ha, m1, m2, m3⟩ := meet_some pl hroot
  have ha : meet (vpar p) w0 v = some a := ha
  have ge := chOf_ge rok
  refine q_asg W (e_var f5) fun vx B1 H1 e1 W1 fq => ?_
  refine g_tup fq W1.inn rfl fun vs fv => g_cons fv fun va r fa fr => g_cons fr fun vb r fb fr => g_nil fr ?_
  have fa : Da K B1 va (nI c0) := fa
  have fb : Da K B1 vb (nI w0) := fb
  refine s_ret (Φ := fun v' B' => Da K B' v' (.bool (visB p (cpOf p (chOf ru)) w0 v c0))) W1 (e_bool (e_notV (a := !visB p (cpOf p (chOf ru)) w0 v c0) (e_anyR ?_)) (Bool.not_not _)) rfl q
  refine EvB.imp (EvN.dataB (l_lcR (P := fun ds => ∃ ns : List Nat, ds = ns.map nI ∧ ns.length ≤ 1000 ∧ ∀ s, s ∈ ns ↔ ∃ u, LinkV p w0 v a c0 u ∧ vst p u = s) (fun _ _ => true) (fun ds i => match ds.getD i .none with | .int n => .bool (decide (n.toNat ∈ copying p (chOf ru))) | _ => .none)
    (EvN.dataB (c_N (a := (p, w0, v, c0, a)) (a_cons (e_var f1) (a_cons (e_var f2) (a_cons (e_var fb) (a_cons (e_var f4) (a_cons (e_var fa) a_nil))))) ⟨pg, hw, hv, ha⟩)) ?_ ?_)) ?_
  · rintro ds ⟨ns, rfl, h, _⟩
    rw [List.length_map]
    omega
  · rintro ds ⟨ns, rfl, _, _⟩ i x D acc B5 H5 hi e5 i5 fx R k
    obtain ⟨s, hs, e⟩ := turn_map hi
    rw [e] at fx
    refine k _ rfl t_yes fun _ => ?_
    rw [e]
    exact e_inN (n := s) (e_var fx) (e_var f3)
  · rintro v' B2 e2 ⟨ds, fd, ds0, ⟨ns, rfl, _, hns⟩, rfl⟩
    refine ⟨_, fd, ns.map fun n => decide (n ∈ copying p (chOf ru)), ?_, ?_⟩
    · rw [List.length_map, List.map_map]
      have e : (fun i => match (ns.map nI).getD i .none with | .int n => PyData.bool (decide (n.toNat ∈ copying p (chOf ru))) | _ => .none) = fun i => (fun d => match d with | .int n => PyData.bool (decide (n.toNat ∈ copying p (chOf ru))) | _ => PyData.none) ((ns.map nI).getD i .none) := rfl
      rw [e]
      have h := given_filter (ns.map nI) .none (fun _ => true) (fun d => match d with | .int n => PyData.bool (decide (n.toNat ∈ copying p (chOf ru))) | _ => PyData.none)
      rw [List.length_map] at h
      rw [h, List.filter_eq_self.mpr fun _ _ => rfl, List.map_map]
      rfl
    · rw [List.any_map]
      have key : ∀ a b : Bool, (a = true ↔ ¬ b = true) → a = !b := by
        intro a b h
        cases a <;> cases b <;> simp_all
      refine key _ _ ?_
      rw [visB_iff, List.any_eq_true]
      constructor
      · rintro ⟨s, hs, hc⟩ hvis
        obtain ⟨u, hu, rfl⟩ := (hns s).mp hs
        have hun : u < nv p := by
          rcases hu.2.2 with z | z
          · exact Nat.lt_of_le_of_lt (mem_anc_le z) hw
          · exact Nat.lt_of_le_of_lt (mem_anc_le z.1) hv
        have hc : vst p u ∈ copying p (chOf ru) := of_decide_eq_true hc
        have := hvis a ha u hu.2.2 hu.2.1
        rw [(mem_copying pg.ok hun).mp hc] at this
        cases this
      · intro hn
        apply Classical.byContradiction
        intro hno
        refine hn fun b hb u hu hl => ?_
        rw [ha] at hb
        cases hb
        have hun : u < nv p := by
          rcases hu with z | z
          · exact Nat.lt_of_le_of_lt (mem_anc_le z) hw
          · exact Nat.lt_of_le_of_lt (mem_anc_le z.1) hv
        cases hcp : cpOf p (chOf ru) u with
        | false => rfl
        | true => exact absurd ⟨vst p u, (hns _).mpr ⟨u, ⟨cp_app pg.ok ge hun hcp, hl, hu⟩, rfl⟩, decide_eq_true ((mem_copying pg.ok hun).mpr hcp)⟩ hno
theorem filter_dropLast {α : Type} {f : α → Bool} {l : List α} {a : α} (h : l.getLast? = some a) (hf : f a = false) : (l.dropLast).filter f = l.filter f := by
  obtain ⟨ys, rfl⟩ := List.getLast?_eq_some_iff.mp h
  rw [List.dropLast_concat, List.filter_append, List.filter_cons_of_neg (by rw [hf]; decide), List.filter_nil, List.append_nil]
theorem filter_last {α : Type} {f : α → Bool} {l : List α} {a : α} (h : l.getLast? = some a) (hf : f a = true) : (l.filter f).getLast? = some a := by
  obtain ⟨ys, rfl⟩ := List.getLast?_eq_some_iff.mp h
  rw [List.filter_append, List.filter_cons_of_pos hf, List.filter_nil, List.getLast?_concat]
theorem cl_origins (d : Df K mg "origins" s_origins) (T : Tx K mg) (c_views : Cl P w K mg base 2 "views" (sp_views K) []) (c_copying : Cl P w K mg base 4 "copying" (sp_copying K) []) (c_reads : Cl P w K mg base 1 "reads" (sp_reads K) []) (c_candidates_in : Cl P w K mg base 2 "candidates_in" (sp_candidates_in K) []) (c_is_visible : Cl P w K mg base 4 "is_visible" (sp_is_visible K) []) : Cl P w K mg base 5 "origins" (sp_origins K) [] := by
  refine cl_of d sc_origins (fun f fd F => F.bindsN fun _ _ _ _ _ _ us hl => match us, hl with | [_, _], _ => rfl) (SpN.len fun _ => rfl) fun cdv f A outer s H vs Q E hr h => ?_
  have hu := hu_of hr
  refine ⟨_, (pss_cons (ps_set (i := 2) sc_origins.nd rfl (Or.inl rfl) (pe_cl c_views hr (by decide) rfl (pa_cons (pv 0) pa_nil)))
      (pss_cons (ps_set (i := 3) sc_origins.nd rfl (Or.inl rfl) (pe_cl c_copying hr (by decide) rfl (pa_cons (pv 0) (pa_cons (pv 1) pa_nil))))
      (pss_cons (ps_set (i := 4) sc_origins.nd rfl (Or.inl rfl) (pe_lst pa_nil))
      (pss_cons (ps_for PassesOwn.never rfl (pi_list (pe_cl c_reads hr (by decide) rfl (pa_cons (pv 0) pa_nil))) (pgTup (n := 3) K (pgs_cons (pg_name (i := 5) sc_origins.nd rfl (Or.inl rfl)) (pgs_cons (pg_name (i := 6) sc_origins.nd rfl (Or.inl rfl)) (pgs_cons (pg_name (i := 7) sc_origins.nd rfl (Or.inl rfl)) pgs_nil)))) (pss_cons (ps_set (i := 8) sc_origins.nd rfl (Or.inl rfl) (pe_cl c_candidates_in hr (by decide) rfl (pa_cons (pv 0) (pa_cons (pv 2) (pa_cons (pv 5) (pa_cons (pv 6) (pa_cons (pv 7) pa_nil)))))))
      (pss_cons (ps_while PassesOwn.never (pt_not (pt_val (pe_cl c_is_visible hr (by decide) rfl (pa_cons (pv 0) (pa_cons (pv 2) (pa_cons (pv 3) (pa_cons (pv 6) (pa_cons (pe_ix (ixL K) (pv 8) (pe_un un_neg pe_int) (fun _ _ => rfl)) pa_nil)))))))) (pss_one (ps_expr (pe_bm0 PySem.F.plainAttrs_list PySem.F.slot_list_pop PySem.F.type_list_pop mt_pop (pv 8)))))
      (pss_one (ps_expr (pe_bm PySem.F.plainAttrs_list PySem.F.slot_list_append PySem.F.type_list_append mt_append (pv 4) (pa_cons (pe_ix (ixT K) (pe_ix (ixL K) (pv 8) (pe_un un_neg pe_int) (fun _ _ => rfl)) pe_int (fun _ _ => rfl)) pa_nil)))))))
      (pss_one (ps_ret (pv 4))))))), ?_⟩
  obtain ⟨B, ⟨p, ru⟩, e0, dl, pre, q⟩ := h
  have W := Wd.start (K := K) e0
  obtain ⟨v1, r1, rfl, f1, dl⟩ := dl.cons_inv
  obtain ⟨v2, r2, rfl, f2, dl⟩ := dl.cons_inv
  cases dl
  obtain ⟨pg, rok⟩ := pre
  have pg : PgOk p := pg
  have rok : RuleOk ru := rok
  have f1 : Da K B v1 (dProg p) := f1
  have f2 : Da K B v2 (dRule ru) := f2
  have hpl := pg.len
  refine q_set W (EvN.data (c_N (a := p) (a_cons (e_var f1) a_nil) pg)) fun vk B1 H1 e1 W1 fk => ?_
  refine q_set W1 (EvN.data (c_N (a := (p, ru)) (a_cons (e_var f1) (a_cons (e_var f2) a_nil)) ⟨pg, rok⟩)) fun vc B2 H2 e2 W2 fc => ?_
  refine q_setN W2 (l_lst a_nil lk) fun p1 ds B3 H3 e3 h1 W3 hd => ?_
  subst hd
  have rlen : (reads p).length ≤ 40 := by
    exact Nat.le_trans (readsN_len p p.length) hpl
  refine q_for W3 (i_list (EvN.data (c_N (a := p) (a_cons (e_var f1) a_nil) pg))) (fun i σ B' H' => ∃ a b c d, σ = [some v1, some v2, some vk, some vc, some (.ref p1), a, b, c, d] ∧ Wd K ⟨B, H, []⟩ none [(p1, .l (((reads p).take i).map fun q => nI (orig p (cpOf p (chOf ru)) q)))] B' H')
    (fun B4 H4 e4 W4 => ⟨_, _, _, _, rfl, W4⟩) (fun i σ' B' H' iv => by obtain ⟨_, _, _, _, _, h⟩ := iv; exact h.inn) ?_ ?_
  · rintro i x σ' B0 B4 H4 B5 H5 hi e4 e5 ⟨xa, xb, xc, xd, rfl, W4⟩ e6 up fx
    have W5 := up _ _ W4
    have hi0 : i < (reads p).length := by rw [List.length_map] at hi; exact hi
    obtain ⟨qr, hq, e⟩ := turn_map (f := dRead) hi
    have fx : Da K B5 x (dRead qr) := by rw [← e]; exact fx
    obtain ⟨r1, r2, r3⟩ := reads_ok pg.ok p.length i qr (Nat.le_refl _) hq
    have hv : qr.2.1 < nv p := seen_lt (by omega) r2
    have hO := org_of pg.ok (chOf ru) hq
    refine g_tup fx W5.inn rfl fun vs fv => g_cons fv fun va r fa fr => g_cons fr fun vb r fb fr => g_cons fr fun vd r fd fr => g_nil fr ?_
    have hcand : ∀ e, e ∈ candL p qr.1 qr.2.1 (vstart p qr.2.1 + qr.2.2) → e.2 < nv p ∧ vroot p e.2 = vroot p qr.2.1 := fun e he => by
      obtain ⟨c, w⟩ := e
      have h := candL_mem.mp he
      obtain ⟨lo, hi, ew, _⟩ := h.at_
      exact ⟨(wr_view pg.ok ew).1, h.root⟩
    have hvis : ∃ e, e ∈ (candL p qr.1 qr.2.1 (vstart p qr.2.1 + qr.2.2)).filter fun e => visB p (cpOf p (chOf ru)) e.2 qr.2.1 e.1 := by
      obtain ⟨w, k1, k2⟩ := hO.there
      exact ⟨(_, w), List.mem_filter.mpr ⟨candL_mem.mpr k1, visB_iff.mpr k2⟩⟩
    have horg : orig p (cpOf p (chOf ru)) qr = ((((candL p qr.1 qr.2.1 (vstart p qr.2.1 + qr.2.2)).filter fun e => visB p (cpOf p (chOf ru)) e.2 qr.2.1 e.1).getLast?).getD (0, 0)).1 := rfl
    have hcN : ∀ {c : Ent} {ls : Ls} {σ : L2.St} {ta tb tc td te : TE} {B' : Hp}, EvD K c none ls ta σ B' (dProg p) → EvD K c none ls tb σ B' (dRows (rows p)) → EvD K c none ls tc σ B' (nI qr.1) → EvD K c none ls td σ B' (nI qr.2.1) → EvD K c none ls te σ B' (nI qr.2.2) →
        EvN K c none none ls (tCall (sp_candidates_in K) [] E0 (tCons ta (tCons tb (tCons tc (tCons td (tCons te tNil)))))) σ B' fun ds => ds = (candL p qr.1 qr.2.1 (vstart p qr.2.1 + qr.2.2)).map dPair := fun h1 h2 h3 h4 h5 =>
      c_N (a := (p, qr.1, qr.2.1, qr.2.2)) (a_cons h1 (a_cons h2 (a_cons h3 (a_cons h4 (a_cons h5 a_nil))))) ⟨pg, hv⟩
    generalize candL p qr.1 qr.2.1 (vstart p qr.2.1 + qr.2.2) = L at hcand hvis horg hcN
    refine q_setN W5 (hcN (e_var f1) (e_var fk) (e_var fa) (e_var fb) (e_var fd)) fun pr ds B6 H6 e7 h2 W6 hd => ?_
    subst hd
    refine q_while W6 (fun m σ B' H' => ∃ U : Tab, m = U.length ∧ σ = [some v1, some v2, some vk, some vc, some (.ref p1), some va, some vb, some vd, some (.ref pr)] ∧ (∀ e, e ∈ U → e ∈ L) ∧ U.filter (fun e => visB p (cpOf p (chOf ru)) e.2 qr.2.1 e.1) = L.filter (fun e => visB p (cpOf p (chOf ru)) e.2 qr.2.1 e.1) ∧
        Wd K ⟨B, H, []⟩ none [(pr, .l (U.map dPair)), (p1, .l (((reads p).take i).map fun q => nI (orig p (cpOf p (chOf ru)) q)))] B' H') (m0 := L.length) ⟨L, rfl, rfl, fun _ h => h, rfl, W6⟩ ?_
    rintro m σ' B7 H7 e8 ⟨U, hm, rfl, hsub, hfil, W7⟩
    have hne : U ≠ [] := fun z => by
      obtain ⟨e, he⟩ := hvis
      rw [← hfil, z] at he
      cases he
    obtain ⟨e, hlast⟩ : ∃ e, U.getLast? = some e := by
      cases hl : U.getLast? with
      | none => exact absurd (List.getLast?_eq_none_iff.mp hl) hne
      | some e => exact ⟨e, rfl⟩
    obtain ⟨c0, w0⟩ := e
    obtain ⟨hw, hroot⟩ := hcand _ (hsub _ (List.mem_of_getLast? hlast))
    have hrow : ∀ {σ : L2.St} {B' : Hp}, σ[8]? = some (some (.ref pr)) → EvD K ⟨B, H, []⟩ none [(pr, .l (U.map dPair)), (p1, .l (((reads p).take i).map fun q => nI (orig p (cpOf p (chOf ru)) q)))] (tOp (rIxL K) (tVar 8) (tUn (rU fun i => .int (-i)) (tC (.int 1)))) σ B' (dPair (c0, w0)) := fun hi =>
      e_ixB List.mem_cons_self (e_neg e_cint) (atI_lastM hlast) hi
    refine ⟨none, _, _, W7, t_not (t_B (c_D (a := (p, ru, qr.2.1, c0, w0)) (a_cons (e_var f1) (a_cons (e_var fk) (a_cons (e_var fc) (a_cons (e_var fb) (a_cons (hrow rfl) a_nil))))) ⟨pg, rok, hv, hw, hroot⟩)), fun hb B8 H8 e9 W8 => ?_, fun hb B8 H8 e9 W8 => ?_⟩
    · have hb : visB p (cpOf p (chOf ru)) w0 qr.2.1 c0 = false := by
        have hb : (!visB p (cpOf p (chOf ru)) w0 qr.2.1 c0) = true := hb
        simpa using hb
      refine s_pop W8 (.inl h2) (fun z => hne (List.map_eq_nil_iff.mp z)) fun H9 W9 => ?_
      refine ⟨_, B8, ?_, e8.trans e9, U.dropLast, rfl, rfl, fun e he => hsub e (List.dropLast_subset U he), ?_, ?_⟩
      · rw [hm, List.length_dropLast]
        have := List.length_pos_iff.mpr hne
        omega
      · rw [filter_dropLast hlast hb]
        exact hfil
      · rw [List.map_dropLast]
        exact W9
    · have hb : visB p (cpOf p (chOf ru)) w0 qr.2.1 c0 = true := by
        have hb : (!visB p (cpOf p (chOf ru)) w0 qr.2.1 c0) = false := hb
        simpa using hb
      have ho : orig p (cpOf p (chOf ru)) qr = c0 := by
        rw [horg, ← hfil, filter_last hlast hb]
        rfl
      refine s_appD (d := nI c0) (W8.perm (List.Perm.swap _ _ _)) (.inl h1) (e_ixT (e_ixB (List.mem_cons_of_mem _ List.mem_cons_self) (e_neg e_cint) (atI_lastM hlast)) e_cint rfl) (by rw [List.length_map, List.length_take]; omega) fun B9 H9 e10 W9 => ?_
      refine ⟨B9, ((((e5.trans e6).trans e7).trans e8).trans e9).trans e10, _, _, _, _, rfl, ?_⟩
      have et : (reads p).take (i + 1) = (reads p).take i ++ [qr] := by
        rw [List.take_add_one, hq]
        rfl
      rw [et, List.map_append]
      show Wd K _ none [(p1, .l (_ ++ [nI (orig p (cpOf p (chOf ru)) qr)]))] B9 H9
      rw [ho]
      exact (W9.perm (List.Perm.swap _ _ _)).forget
  · rintro σ' B4 H4 e4 ⟨xa, xb, xc, xd, rfl, W4⟩
    rw [List.length_map, List.take_length] at W4
    refine s_retP W4 h1 rfl q ?_
    show _ = ((reads p).map _).map nI
    rw [List.map_map]
    rfl
end GB
namespace GB
open PySem PySem.Spec PyProof.Rows L2
open Evl (Ex)
variable {P : Program} {w : World} {K : PySem.W.Frag} {mg : Str → Option Value} {base : Heap}

/-! goal_of, first_barred, raise_among -/
theorem vst_inj {p : Prog} {u v : Nat} (hu : u < nv p) (hv : v < nv p) (h : vst p u = vst p v) : u = v := by
  rcases Nat.lt_trichotomy u v with z | z | z
  · have := vstm z hv
    omega
  · exact z
  · have := vstm z hu
    omega
theorem given_range {n : Nat} {f : Nat → Bool} {g : Nat → PyData} : given n f g = ((List.range n).filter f).map g := rfl
theorem cl_goal_of (d : Df K mg "goal_of" s_goal_of) (T : Tx K mg) (c_views : Cl P w K mg base 2 "views" (sp_views K) []) (c_links_between : Cl P w K mg base 3 "links_between" (sp_links_between K) []) (c_reads : Cl P w K mg base 1 "reads" (sp_reads K) []) (c_meeting : Cl P w K mg base 2 "meeting" (sp_meeting K) []) (c_candidates_in : Cl P w K mg base 2 "candidates_in" (sp_candidates_in K) []) : Cl P w K mg base 4 "goal_of" (sp_goal_of K) [] := by
  refine cl_of d sc_goal_of (fun f fd F => F.bindsN fun _ _ _ _ _ _ us hl => match us, hl with | [_, _], _ => rfl) (SpB.len fun _ => rfl) fun cdv f A outer s H vs Q E hr h => ?_
  have hu := hu_of hr
  refine ⟨_, (pss_cons (ps_asg (pv 1) (pgTup (n := 2) K (pgs_cons (pg_name (i := 2) sc_goal_of.nd rfl (Or.inl rfl)) (pgs_cons (pg_name (i := 3) sc_goal_of.nd rfl (Or.inl rfl)) pgs_nil))))
      (pss_cons (ps_asg (pe_ix (ixL K) (pe_cl c_reads hr (by decide) rfl (pa_cons (pv 0) pa_nil)) (pv 2) (fun _ _ => rfl)) (pgTup (n := 3) K (pgs_cons (pg_name (i := 4) sc_goal_of.nd rfl (Or.inl rfl)) (pgs_cons (pg_name (i := 5) sc_goal_of.nd rfl (Or.inl rfl)) (pgs_cons (pg_name (i := 6) sc_goal_of.nd rfl (Or.inl rfl)) pgs_nil)))))
      (pss_cons (ps_set (i := 7) sc_goal_of.nd rfl (Or.inl rfl) (pe_cl c_views hr (by decide) rfl (pa_cons (pv 0) pa_nil)))
      (pss_cons (ps_set (i := 8) sc_goal_of.nd rfl (Or.inl rfl) (pe_dget hu (pe_callTy (call_dictP (by rfl)) (by rfl) T.dict (by decide +kernel) (pa_cons (pe_cl c_candidates_in hr (by decide) rfl (pa_cons (pv 0) (pa_cons (pv 7) (pa_cons (pv 4) (pa_cons (pv 5) (pa_cons (pv 6) pa_nil)))))) pa_nil)) (pv 3) (fun _ _ => rfl)))
      (pss_cons (ps_set (i := 9) sc_goal_of.nd rfl (Or.inr rfl) (pe_cl c_links_between hr (by decide) rfl (pa_cons (pv 0) (pa_cons (pv 7) (pa_cons (pv 8) (pa_cons (pv 5) (pa_cons (pv 3) pa_nil)))))))
      (pss_cons (ps_setLc (i := 10) (own := [("statement", 11), ("parent", 12), ("start", 13), ("length", 14)]) rfl sc_goal_of.nd rfl rfl (sw_true rfl rfl rfl (by decide +kernel)) (pi_list (pv 7)) (blkOk_by (own := [("statement", 11), ("parent", 12), ("start", 13), ("length", 14)]) (N := N_goal_of) (sc := defScope s_goal_of) (by decide +kernel)) (fun _ _ _ _ _ => (pgTup (n := 4) K (pgs_cons (pg_name (i := 11) sc_goal_of.nd rfl (Or.inl rfl)) (pgs_cons (pg_name (i := 12) sc_goal_of.nd rfl (Or.inl rfl)) (pgs_cons (pg_name (i := 13) sc_goal_of.nd rfl (Or.inl rfl)) (pgs_cons (pg_name (i := 14) sc_goal_of.nd rfl (Or.inl rfl)) pgs_nil)))))) (fun _ _ _ _ _ => (pts_one (pt_cmpR (opIn K) (pv 11) (pv 9) (by rfl)))) (fun _ _ _ _ _ => (pe_op op_add (pv 13) (pv 14))))
      (pss_one (ps_ret (pe_tup (pa_cons (pe_cl c_meeting hr (by decide) rfl (pa_cons (pv 7) (pa_cons (pv 8) (pa_cons (pv 5) pa_nil)))) (pa_cons (pv 9) (pa_cons (pe_callBK (cr_maxd (by rfl)) (by rfl) T.max (by decide +kernel) (pa_cons (pv 10) pa_nil) (pk_cons pe_int pk_nil)) pa_nil)))))))))))), ?_⟩
  obtain ⟨B, ⟨p, dm⟩, e0, dl, pre, q⟩ := h
  have W := Wd.start (K := K) e0
  obtain ⟨v1, r1, rfl, f1, dl⟩ := dl.cons_inv
  obtain ⟨v2, r2, rfl, f2, dl⟩ := dl.cons_inv
  cases dl
  obtain ⟨pg, hd⟩ := pre
  have pg : PgOk p := pg
  obtain ⟨qr, w0, hq, hC⟩ := (show DemOk p dm from hd)
  obtain ⟨k0, c0⟩ := dm
  have f1 : Da K B v1 (dProg p) := f1
  have f2 : Da K B v2 (dPair (k0, c0)) := f2
  have hq : (reads p)[k0]? = some qr := hq
  have hC : Cand p qr.1 qr.2.1 (vstart p qr.2.1 + qr.2.2) c0 w0 := hC
  obtain ⟨r1, r2, r3⟩ := reads_ok pg.ok p.length k0 qr (Nat.le_refl _) hq
  have hv : qr.2.1 < nv p := seen_lt (by omega) r2
  obtain ⟨lo, hi, ew, _⟩ := hC.at_
  have hw : w0 < nv p := (wr_view pg.ok ew).1
  have pl : ∀ i j, vpar p i = some j → j < i := fun _ _ h => vplt pg.ok h
  obtain ⟨a, ha, m1, m2, m3⟩ := meet_some pl hC.root
  have ha : meet (vpar p) w0 qr.2.1 = some a := ha
  have hnv := pg.nv
  refine q_asg W (e_var f2) fun vx B1 H1 e1 W1 fq => ?_
  refine g_tup fq W1.inn rfl fun vs fv => g_cons fv fun va r fa fr => g_cons fr fun vb r fb fr => g_nil fr ?_
  have fa : Da K B1 va (nI k0) := fa
  have fb : Da K B1 vb (nI c0) := fb
  refine q_asg W1 (e_atL (f := dRead) (EvN.data (c_N (a := p) (a_cons (e_var f1) a_nil) pg)) (e_var fa) hq) fun vy B2 H2 e2 W2 fq => ?_
  refine g_tup fq W2.inn rfl fun vs fv => g_cons fv fun vc r fc fr => g_cons fr fun vd r fd fr => g_cons fr fun ve r fe fr => g_nil fr ?_
  refine at_ (σ' := [some v1, some v2, some va, some vb, some vc, some vd, some ve, none, none, none, none, none, none, none, none]) rfl ?_
  refine q_set W2 (EvN.data (c_N (a := p) (a_cons (e_var f1) a_nil) pg)) fun vk B3 H3 e3 W3 fk => ?_
  refine q_set W3 (e_dAt (d := nI w0) (n := (c0 : Int)) (k_dictP (L := candL p qr.1 qr.2.1 (vstart p qr.2.1 + qr.2.2)) (a_cons (EvN.data (c_N (a := (p, qr.1, qr.2.1, qr.2.2)) (a_cons (e_var f1) (a_cons (e_var fk) (a_cons (e_var fc) (a_cons (e_var fd) (a_cons (e_var fe) a_nil))))) ⟨pg, hv⟩)) a_nil) candL_srt.nodup)
    (fun p kvs B1 ex => e_var fb) fun kvs B1 _ hk => ⟨_, by rw [hk]; exact kvN_get candL_srt.nodup (candL_mem.mpr hC), .int _⟩) fun vw B4 H4 e4 W4 fw => ?_
  refine q_set W4 (EvN.dataB (c_N (a := (p, w0, qr.2.1, c0, a)) (a_cons (e_var f1) (a_cons (e_var fk) (a_cons (e_var fw) (a_cons (e_var fd) (a_cons (e_var fb) a_nil))))) ⟨pg, hw, hv, ha⟩)) fun vl B5 H5 e5 W5 fl => ?_
  obtain ⟨ds, fl, ns, rfl, hnl, hns⟩ := fl
  refine at_ (σ' := [some v1, some v2, some va, some vb, some vc, some vd, some ve, some vk, some vw, some vl, none, none, none, none, none]) rfl ?_
  refine q_set W5 (EvN.data (l_lc (n := ((rows p).map dRow).length) (f := fun i => ((rows p).map dRow).getD i .none) (fun i => decide (vst p i ∈ ns)) (fun i => nI (vend p i)) (i_list (e_var fk)) (by rw [List.length_map]; exact Nat.le_trans pg.nv (by decide)) ?_)) fun vn B6 H6 e6 W6 fn => ?_
  · intro i x D acc B5 H5 hi e5 i5 fx R k
    have hi' : i < nv p := by rw [List.length_map] at hi; exact hi
    have fx : Da K B5 x (.tuple [nI (vst p i), dO (vpar p i), nI (vstart p i), nI (vlen p i)]) := by
      have e := getD_map (f := dRow) (row_at hi')
      have fx : Da K B5 x (((rows p).map dRow).getD i .none) := fx
      rw [e] at fx
      exact fx
    refine g_tup fx i5 rfl fun vs fv => g_cons fv fun va2 r fa2 fr => g_cons fr fun vb2 r fb2 fr => g_cons fr fun vc2 r fc2 fr => g_cons fr fun vd2 r fd2 fr => g_nil fr ?_
    exact k _ rfl (t_test (e_inN (e_var fa2) (e_var fl))) fun _ => e_addN (e_var fc2) (e_var fd2)
  · have e0 : given ((rows p).map dRow).length (fun i => decide (vst p i ∈ ns)) (fun i => nI (vend p i)) = (((List.range (nv p)).filter fun i => decide (vst p i ∈ ns)).map (vend p)).map nI := by
      rw [List.length_map, List.map_map]
      rfl
    rw [e0] at fn
    have hmem : ∀ u, u ∈ ((List.range (nv p)).filter fun i => decide (vst p i ∈ ns)) ↔ LinkV p w0 qr.2.1 a c0 u := fun u => by
      rw [List.mem_filter, List.mem_range, decide_eq_true_eq, hns]
      constructor
      · rintro ⟨h1, u', h2, h3⟩
        have hun : u' < nv p := by
          rcases h2.2.2 with z | z
          · exact Nat.lt_of_le_of_lt (mem_anc_le z) hw
          · exact Nat.lt_of_le_of_lt (mem_anc_le z.1) hv
        rw [← vst_inj hun h1 h3]
        exact h2
      · intro h
        refine ⟨?_, u, h, rfl⟩
        rcases h.2.2 with z | z
        · exact Nat.lt_of_le_of_lt (mem_anc_le z) hw
        · exact Nat.lt_of_le_of_lt (mem_anc_le z.1) hv
    generalize ((List.range (nv p)).filter fun i => decide (vst p i ∈ ns)) = U at hmem fn
    have q : RB B H (fun v B' => ∃ g, GoalFor p (k0, c0) g ∧ g.e ≤ 1000 ∧ g.ls.length ≤ 1000 ∧ Da K B' v (dGoal g)) Q := q
    refine s_ret (Φ := fun v B' => ∃ g, GoalFor p (k0, c0) g ∧ g.e ≤ 1000 ∧ g.ls.length ≤ 1000 ∧ Da K B' v (dGoal g)) W6 (EvB.imp (e_tup (ds := [nI a, dNats ns, nI (maxN (U.map (vend p)))]) (a_cons (EvB.to (d1 := dO (some a)) (c_D (a := (p, w0, qr.2.1)) (a_cons (e_var fk) (a_cons (e_var fw) (a_cons (e_var fd) a_nil))) ⟨pg, hw, hv⟩) (by show dO (meet (vpar p) w0 qr.2.1) = _; rw [ha])) (a_cons (e_var fl) (a_cons (e_maxd (a_cons (e_var fn) a_nil) fun B1 ex => a_cons e_cint a_nil) a_nil))) lk) ?_) rfl q
    intro v' B7 e7 fg
    have hle : ∀ u, u ∈ U → vend p u ≤ maxN (U.map (vend p)) := fun u hu => (maxN_le (U.map (vend p)) 0).2.1 _ (List.mem_map_of_mem hu)
    refine ⟨⟨a, ns, maxN (U.map (vend p))⟩, ⟨qr, w0, hq, hC, ha, hns, fun u hu => hle u ((hmem u).mpr hu), fun hne => ?_⟩, ?_, hnl, fg⟩
    · have hU : U.map (vend p) ≠ [] := fun z => by
        have z := List.map_eq_nil_iff.mp z
        cases ns with
        | nil => exact hne rfl
        | cons s l =>
          obtain ⟨u, hu, _⟩ := (hns s).mp List.mem_cons_self
          have := (hmem u).mpr hu
          rw [z] at this
          cases this
      obtain ⟨u, hu, e⟩ := List.mem_map.mp (maxN_mem hU)
      exact ⟨u, (hmem u).mp hu, e⟩
    · by_cases hU : U.map (vend p) = []
      · rw [hU]
        exact Nat.zero_le _
      · obtain ⟨u, hu, e⟩ := List.mem_map.mp (maxN_mem hU)
        show maxN (U.map (vend p)) ≤ 1000
        rw [← e]
        exact Nat.le_trans (pg.vend u) (by decide)
theorem cl_first_barred (d : Df K mg "first_barred" s_first_barred) (T : Tx K mg) (c_copying : Cl P w K mg base 4 "copying" (sp_copying K) []) : Cl P w K mg base 5 "first_barred" (sp_first_barred K) [] := by
  refine cl_of d sc_first_barred (fun f fd F => F.bindsN fun _ _ _ _ _ _ us hl => match us, hl with | [_, _], _ => rfl) (SpB.len fun _ => rfl) fun cdv f A outer s H vs Q E hr h => ?_
  have hu := hu_of hr
  obtain ⟨aE, gE, hE⟩ := T.endless
  refine ⟨_, (pss_cons (ps_set (i := 2) sc_first_barred.nd rfl (Or.inr rfl) (pe_cl c_copying hr (by decide) rfl (pa_cons (pv 0) (pa_cons (pe_gt (by rfl) gE) pa_nil))))
      (pss_cons (ps_for PassesOwn.never rfl (pi_enum (by rfl) T.enumerate (pa_cons (pv 1) pa_nil)) (pgTup (n := 2) K (pgs_cons (pg_name (i := 3) sc_first_barred.nd rfl (Or.inl rfl)) (pgs_cons (pg_name (i := 4) sc_first_barred.nd rfl (Or.inl rfl)) pgs_nil))) (pss_cons (ps_setLc (i := 5) (own := [("statement", 6)]) rfl sc_first_barred.nd rfl rfl (sw_true rfl rfl rfl (by decide +kernel)) (pi_list (pe_ix (ixT K) (pv 4) pe_int (fun _ _ => rfl))) (blkOk_by (own := [("statement", 6)]) (N := N_first_barred) (sc := defScope s_first_barred) (by decide +kernel)) (fun _ _ _ _ _ => (pg_name (i := 6) sc_first_barred.nd rfl (Or.inl rfl))) (fun _ _ _ _ _ => (pts_one (pt_cmpR (opIn K) (pv 6) (pv 2) (by rfl)))) (fun _ _ _ _ _ => (pv 6)))
      (pss_one (ps_if (pt_cmpR (opNeD K hr.units) (pv 5) (pe_lst pa_nil) (nomark _)) (pss_one (ps_ret (pe_tup (pa_cons (pv 3) (pa_cons (pe_ix (ixL K) (pv 5) pe_int (fun _ _ => rfl)) pa_nil))))) pss_nil))))
      (pss_one (ps_ret pe_non)))), ?_⟩
  obtain ⟨B, ⟨p, gs⟩, e0, dl, pre, q⟩ := h
  have W := Wd.start (K := K) e0
  obtain ⟨v1, r1, rfl, f1, dl⟩ := dl.cons_inv
  obtain ⟨v2, r2, rfl, f2, dl⟩ := dl.cons_inv
  cases dl
  obtain ⟨pg, hlen, hgs⟩ := pre
  have pg : PgOk p := pg
  have hlen : gs.length ≤ 1000 := hlen
  have hgs : GoalsB gs := hgs
  have f1 : Da K B v1 (dProg p) := f1
  have f2 : Da K B v2 (.list (gs.map dGoal)) := f2
  have q : RB B H (fun v B' => ∃ o : Option (Nat × Nat), (o = none ↔ ∀ g, g ∈ gs → hit (copying p infc) g = false) ∧ Da K B' v (dO2 o)) Q := q
  have hcl : (copying p infc).length ≤ 40 := by
    unfold copying
    rw [List.length_map]
    have h1 := List.length_filter_le (cpOf p infc) (List.range (nv p))
    rw [List.length_range] at h1
    have := pg.nv
    omega
  refine q_set W (EvN.data (c_N (a := (p, Rule.endless)) (a_cons (e_var f1) (a_cons (e_con (Da.endl (K := K) (H := B) hE)) a_nil)) ⟨pg, trivial⟩)) fun vc B1 H1 e1 W1 fc => ?_
  have fc : Da K B1 vc (.list ((copying p infc).map nI)) := fc
  generalize copying p infc = cs at q fc hcl
  refine q_for W1 (i_enum (a_cons (e_var f2) a_nil)) (fun i σ B' H' => ∃ a b c d, σ = [some v1, some v2, some vc, a, b, c, d] ∧ (∀ j g, j < i → gs[j]? = some g → hit cs g = false) ∧ Wd K ⟨B, H, []⟩ none [] B' H')
    (fun B4 H4 e4 W4 => ⟨_, _, _, _, rfl, fun j g h => absurd h (Nat.not_lt_zero _), W4⟩) (fun i σ' B' H' iv => by obtain ⟨_, _, _, _, _, _, h⟩ := iv; exact h.inn) ?_ ?_
  · rintro i x σ' B0 B4 H4 B5 H5 hi e4 e5 ⟨xa, xb, xc, xd, rfl, hno, W4⟩ e6 up fx
    have W5 := up _ _ W4
    obtain ⟨g, hg, e⟩ := turn_map (f := dGoal) hi
    have fx : Da K B5 x (.tuple [nI i, dGoal g]) := by rw [← e]; exact fx
    have hgl := (hgs g (List.mem_of_getElem? hg)).2
    refine g_tup fx W5.inn rfl fun vs fv => g_cons fv fun va r fa fr => g_cons fr fun vb r fb fr => g_nil fr ?_
    have fb : Da K B5 vb (.tuple [nI g.a, .list (g.ls.map nI), nI g.e]) := fb
    refine q_set W5 (EvN.data (l_lc (n := (g.ls.map nI).length) (f := fun i => (g.ls.map nI).getD i .none) (fun i => decide (g.ls.getD i 0 ∈ cs)) (fun i => nI (g.ls.getD i 0)) (i_list (e_ixT (e_var fb) e_cint rfl)) (by rw [List.length_map]; omega) ?_)) fun vbr B6 H6 e7 W6 fbr => ?_
    · intro i x D acc B5 H5 hi e5 i5 fx R k
      obtain ⟨s, hs, e⟩ := turn_map hi
      have fx : Da K B5 x (nI s) := by rw [← e]; exact fx
      refine k _ rfl ?_ fun _ => ?_
      · rw [getD_mem' hs]
        exact t_test (e_inN (e_var fx) (e_var fc))
      · rw [getD_mem' hs]
        exact e_var fx
    rw [List.length_map, given_filter g.ls 0 (fun x => decide (x ∈ cs)) nI] at fbr
    have hh : hit cs g = !(g.ls.filter fun x => decide (x ∈ cs)).isEmpty := by
      cases hf : g.ls.filter (fun x => decide (x ∈ cs)) with
      | nil =>
        refine hit_false.mpr fun s hs hc => ?_
        have : s ∈ g.ls.filter fun x => decide (x ∈ cs) := List.mem_filter.mpr ⟨hs, decide_eq_true hc⟩
        rw [hf] at this
        cases this
      | cons s l =>
        have : s ∈ g.ls.filter fun x => decide (x ∈ cs) := by rw [hf]; exact List.mem_cons_self
        obtain ⟨h1, h2⟩ := List.mem_filter.mp this
        exact hit_true.mpr ⟨s, h1, of_decide_eq_true h2⟩
    generalize g.ls.filter (fun x => decide (x ∈ cs)) = L at hh fbr
    cases L with
    | nil =>
      refine s_ifF W6 (t_to (t_test (e_neNil (e_var fbr) (plain_nats _))) rfl) fun B7 H7 e8 W7 => ?_
      refine ⟨B7, ((e5.trans e6).trans e7).trans e8, _, _, _, _, rfl, fun j g' hj hg' => ?_, W7⟩
      by_cases z : j < i
      · exact hno j g' z hg'
      · have z : j = i := by omega
        rw [z, hg] at hg'
        cases hg'
        exact hh
    | cons s l =>
      refine s_ifT W6 (t_to (t_test (e_neNil (e_var fbr) (plain_nats _))) rfl) fun B7 H7 e8 W7 => ?_
      refine s_retB W7 (e_tup (ds := [nI i, nI s]) (a_cons (e_var fa) (a_cons (e_atL (f := nI) (e_var fbr) (e_cint (n := ((0 : Nat) : Int))) rfl) a_nil)) lk) fun v B8 H8 e9 W8 fv => W8.back rfl q ⟨some (i, s), ⟨fun z => (nomatch z), fun z => ?_⟩, fv⟩
      have := z g (List.mem_of_getElem? hg)
      rw [hh] at this
      cases this
  · rintro σ' B4 H4 e4 ⟨xa, xb, xc, xd, rfl, hno, W4⟩
    rw [List.length_map] at hno
    refine s_ret (Φ := fun v B' => ∃ o : Option (Nat × Nat), (o = none ↔ ∀ g, g ∈ gs → hit cs g = false) ∧ Da K B' v (dO2 o)) W4 (EvB.imp e_cnon fun v B5 e5 fv => ⟨none, ⟨fun _ g hg => ?_, fun _ => rfl⟩, fv⟩) rfl q
    obtain ⟨j, hj⟩ := List.getElem?_of_mem hg
    exact hno j g (List.getElem?_eq_some_iff.mp hj).1 hj
theorem cl_raise_among (d : Df K mg "raise_among" s_raise_among) (T : Tx K mg) (c_path_in : Cl P w K mg base 1 "path_in" (sp_path_in K) []) : Cl P w K mg base 2 "raise_among" (sp_raise_among K) [] := by
  refine cl_of d sc_raise_among (fun f fd F => F.bindsN fun _ _ _ _ _ _ us hl => match us, hl with | [_, _, _], _ => rfl) (SpB.len fun _ => rfl) fun cdv f A outer s H vs Q E hr h => ?_
  have hu := hu_of hr
  refine ⟨_, (pss_cons (ps_asg (pv 2) (pgTup (n := 3) K (pgs_cons (pg_name (i := 3) sc_raise_among.nd rfl (Or.inl rfl)) (pgs_cons (pg_name (i := 4) sc_raise_among.nd rfl (Or.inl rfl)) (pgs_cons (pg_name (i := 5) sc_raise_among.nd rfl (Or.inl rfl)) pgs_nil)))))
      (pss_cons (ps_if (pt_not (pt_val (pe_callB (cr_any (by rfl)) (by rfl) T.any (by decide +kernel) (pa_cons (pe_lc (own := [("statement", 7)]) (by rfl) sc_raise_among.nd (pi_list (pv 4)) (blkOk_by (own := [("statement", 7)]) (N := N_raise_among) (sc := defScope s_raise_among) (by decide +kernel)) (fun _ _ _ _ _ => (pg_name (i := 7) sc_raise_among.nd rfl (Or.inl rfl))) (fun _ _ _ _ _ => pts_nil) (fun _ _ _ _ _ => (pe_cmpR (opIn K) (pv 7) (pv 1) (by rfl)))) pa_nil)))) (pss_one (ps_ret pe_non)) pss_nil)
      (pss_cons (ps_setLc (i := 6) (own := [("view", 11)]) rfl sc_raise_among.nd rfl rfl (sw_true rfl rfl rfl (by decide +kernel)) (pi_list (pe_cl c_path_in hr (by decide) rfl (pa_cons (pv 0) (pa_cons (pv 3) pa_nil)))) (blkOk_by (own := [("view", 11)]) (N := N_raise_among) (sc := defScope s_raise_among) (by decide +kernel)) (fun _ _ _ _ _ => (pg_name (i := 11) sc_raise_among.nd rfl (Or.inl rfl))) (fun _ _ _ _ _ => (pts_one (pt_cmpR (opIn K) (pe_ix (ixT K) (pe_ix (ixL K) (pv 0) (pv 11) (fun _ _ => rfl)) pe_int (fun _ _ => rfl)) (pv 1) (by rfl)))) (fun _ _ _ _ _ => (pv 11)))
      (pss_cons (ps_asg (pe_ix (ixL K) (pv 0) (pe_ix (ixL K) (pv 6) (pe_un un_neg pe_int) (fun _ _ => rfl)) (fun _ _ => rfl)) (pgTup (n := 4) K (pgs_cons (pg_name (i := 7) sc_raise_among.nd rfl (Or.inl rfl)) (pgs_cons (pg_name (i := 8) sc_raise_among.nd rfl (Or.inl rfl)) (pgs_cons (pg_name (i := 9) sc_raise_among.nd rfl (Or.inl rfl)) (pgs_cons (pg_name (i := 10) sc_raise_among.nd rfl (Or.inl rfl)) pgs_nil))))))
      (pss_one (ps_ret (pe_tup (pa_cons (pv 7) (pa_cons (pe_op op_sub (pv 5) (pv 9)) pa_nil))))))))), ?_⟩
  obtain ⟨B, ⟨p, cs, g⟩, e0, dl, pre, q⟩ := h
  have W := Wd.start (K := K) e0
  obtain ⟨v1, r1, rfl, f1, dl⟩ := dl.cons_inv
  obtain ⟨v2, r2, rfl, f2, dl⟩ := dl.cons_inv
  obtain ⟨v3, r3, rfl, f3, dl⟩ := dl.cons_inv
  cases dl
  obtain ⟨pg, ⟨hga, hab⟩, hgl⟩ := pre
  have pg : PgOk p := pg
  have hgl : g.ls.length ≤ 1000 := hgl
  have hga : g.a < nv p := hga
  have hab : hit cs g = true → ∃ h, ((vanc p g.a).filter fun v => decide (vst p v ∈ cs)).getLast? = some h ∧ vstart p h ≤ g.e := hab
  have f1 : Da K B v1 (.list ((rows p).map dRow)) := f1
  have f2 : Da K B v2 (.list (cs.map nI)) := f2
  have f3 : Da K B v3 (.tuple [nI g.a, .list (g.ls.map nI), nI g.e]) := f3
  have q : RD K B H (dO2 (raiseP p cs g)) Q := q
  have hnv := pg.nv
  refine q_asg W (e_var f3) fun vx B1 H1 e1 W1 fq => ?_
  refine g_tup fq W1.inn rfl fun vs fv => g_cons fv fun va r fa fr => g_cons fr fun vb r fb fr => g_cons fr fun vc r fc fr => g_nil fr ?_
  have hany : ∀ {ls : Ls} {σ : L2.St} {B' : Hp}, σ[1]? = some (some v2) → σ[4]? = some (some vb) → Ex B1 B' → σ.length = 12 → EvD K ⟨B, H, []⟩ none ls (tCB (rAny K) (tCons (tLc (iList K (tVar 4)) (gName 7) tYes (tOp (rIn K false) (tVar 7) (tVar 1)) [7]) tNil)) σ B' (.bool (hit cs g)) := fun {ls σ B'} h1 h2 ex hl => by
    refine EvB.to (e_any (bs := g.ls.map fun s => decide (s ∈ cs)) (a_cons (EvB.to (EvN.data (l_lc (n := (g.ls.map nI).length) (f := fun i => (g.ls.map nI).getD i .none) (fun _ => true) (fun i => .bool (decide (g.ls.getD i 0 ∈ cs))) (i_list (e_var fb h2 ex)) (by rw [List.length_map]; omega) ?_)) ?_) a_nil)) ?_
    · intro i x D acc B5 H5 hi e5 i5 fx R k
      obtain ⟨s, hs, e⟩ := turn_map hi
      have fx : Da K B5 x (nI s) := by rw [← e]; exact fx
      refine k _ ?_ t_yes fun _ => ?_
      · show wipe (((wipe σ [7])).set 7 (some x)) [7] = wipe σ [7]
        show (((σ.set 7 none).set 7 (some x)).set 7 none) = σ.set 7 none
        rw [List.set_set, List.set_set]
      · rw [getD_mem' hs]
        refine e_inN (e_var fx ?_) (e_var f2 ?_ (e1.trans (ex.trans e5)))
        · show ((σ.set 7 none).set 7 (some x))[7]? = _
          rw [List.getElem?_set_self (by rw [List.length_set, hl]; decide)]
        · show ((σ.set 7 none).set 7 (some x))[1]? = _
          rw [List.getElem?_set_ne (by decide), List.getElem?_set_ne (by decide)]
          exact h1
    · rw [List.length_map, given_filter g.ls 0 (fun _ => true) (fun s => .bool (decide (s ∈ cs))), List.filter_eq_self.mpr fun _ _ => rfl, List.map_map]
      rfl
    · rw [List.any_map]
      rfl
  cases hh : hit cs g with
  | false =>
    refine q_ifT W1 (t_to (t_not (t_B (hany rfl rfl (Ex.refl _) rfl))) (by rw [hh] <;> rfl)) fun B2 H2 e2 W2 => ?_
    have er : raiseP p cs g = none := by
      unfold raiseP
      rw [if_neg (by rw [hh]; decide)]
    rw [er] at q
    exact s_ret W2 e_cnon rfl q
  | true =>
    refine q_ifF W1 (t_to (t_not (t_B (hany rfl rfl (Ex.refl _) rfl))) (by rw [hh] <;> rfl)) fun B2 H2 e2 W2 => ?_
    obtain ⟨h0, hlast, hst⟩ := hab hh
    have er : raiseP p cs g = some (vst p h0, g.e - vstart p h0) := by
      unfold raiseP
      rw [if_pos hh, hlast]
      rfl
    rw [er] at q
    have alen : (vanc p g.a).length ≤ 40 := by
      have := anc_len (par := vpar p) (fun _ _ h => vplt pg.ok h) (g.a + 1) g.a (Nat.lt_succ_self _)
      show (anc (vpar p) g.a).length ≤ _
      omega
    have ain : ∀ x, x ∈ vanc p g.a → x < nv p := fun x hx => Nat.lt_of_le_of_lt (mem_anc_le hx) hga
    refine q_set W2 (EvN.data (l_lc (n := ((vanc p g.a).map nI).length) (f := fun i => ((vanc p g.a).map nI).getD i .none) (fun i => decide (vst p ((vanc p g.a).getD i 0) ∈ cs)) (fun i => nI ((vanc p g.a).getD i 0))
      (i_list (EvN.data (c_N (a := (p, g.a)) (a_cons (e_var f1) (a_cons (e_var fa) a_nil)) ⟨pg, hga⟩))) (by rw [List.length_map]; omega) ?_)) fun vo B3 H3 e3 W3 fo => ?_
    · intro i x D acc B5 H5 hi e5 i5 fx R k
      obtain ⟨s, hs, e⟩ := turn_map hi
      have fx : Da K B5 x (nI s) := by rw [← e]; exact fx
      refine k _ rfl ?_ fun _ => ?_
      · rw [getD_mem' hs]
        exact t_test (e_inN (e_ixT (e_atL (f := dRow) (e_var f1) (e_var fx) (row_at (ain s (List.mem_of_getElem? hs)))) e_cint (d := nI (vst p s)) rfl) (e_var f2))
      · rw [getD_mem' hs]
        exact e_var fx
    rw [List.length_map, given_filter (vanc p g.a) 0 (fun x => decide (vst p x ∈ cs)) nI] at fo
    have hin : h0 < nv p := ain h0 (List.mem_filter.mp (List.mem_of_getLast? hlast)).1
    generalize (vanc p g.a).filter (fun x => decide (vst p x ∈ cs)) = L at fo hlast
    refine q_asg W3 (e_atL (f := dRow) (e_var f1) (e_lastL (f := nI) (e_var fo) hlast) (row_at hin)) fun vy B4 H4 e4 W4 fq => ?_
    have fq : Da K B4 vy (.tuple [nI (vst p h0), dO (vpar p h0), nI (vstart p h0), nI (vlen p h0)]) := fq
    refine g_tup fq W4.inn rfl fun vs fv => g_cons fv fun vd r fd fr => g_cons fr fun ve r fe fr => g_cons fr fun vf r ff fr => g_cons fr fun vg r fg fr => g_nil fr ?_
    exact s_ret W4 (e_tup (a_cons (e_var fd) (a_cons (e_subN (e_var fc) (e_var ff) hst) a_nil)) lk) rfl q
end GB
namespace GB
open PySem PySem.Spec PyProof.Rows L2
open Evl (Ex)
variable {P : Program} {w : World} {K : PySem.W.Frag} {mg : Str → Option Value} {base : Heap}

/-! next_raise, linked_table -/
theorem cl_next_raise (d : Df K mg "next_raise" s_next_raise) (T : Tx K mg) (c_views : Cl P w K mg base 2 "views" (sp_views K) []) (c_copying : Cl P w K mg base 4 "copying" (sp_copying K) []) (c_table_policy : Cl P w K mg base 1 "table_policy" (sp_table_policy K) []) (c_raise_among : Cl P w K mg base 2 "raise_among" (sp_raise_among K) []) : Cl P w K mg base 5 "next_raise" (sp_next_raise K) [] := by
  refine cl_of d sc_next_raise (fun f fd F => F.bindsN fun _ _ _ _ _ _ us hl => match us, hl with | [_, _, _], _ => rfl) (SpB.len fun _ => rfl) fun cdv f A outer s H vs Q E hr h => ?_
  have hu := hu_of hr
  refine ⟨_, (pss_cons (ps_set (i := 3) sc_next_raise.nd rfl (Or.inl rfl) (pe_cl c_views hr (by decide) rfl (pa_cons (pv 0) pa_nil)))
      (pss_cons (ps_set (i := 4) sc_next_raise.nd rfl (Or.inl rfl) (pe_cl c_copying hr (by decide) rfl (pa_cons (pv 0) (pa_cons (pe_cl c_table_policy hr (by decide) rfl (pa_cons (pv 1) pa_nil)) pa_nil))))
      (pss_cons (ps_for PassesOwn.never rfl (pi_enum (by rfl) T.enumerate (pa_cons (pv 2) pa_nil)) (pgTup (n := 2) K (pgs_cons (pg_name (i := 5) sc_next_raise.nd rfl (Or.inl rfl)) (pgs_cons (pg_name (i := 6) sc_next_raise.nd rfl (Or.inl rfl)) pgs_nil))) (pss_cons (ps_set (i := 7) sc_next_raise.nd rfl (Or.inl rfl) (pe_cl c_raise_among hr (by decide) rfl (pa_cons (pv 3) (pa_cons (pv 4) (pa_cons (pv 6) pa_nil)))))
      (pss_one (ps_if (pt_cmpR op_notN (pv 7) pe_non (nomark _)) (pss_one (ps_ret (pe_op (opCatT K) (pe_tup (pa_cons (pv 5) pa_nil)) (pv 7)))) pss_nil))))
      (pss_one (ps_ret pe_non))))), ?_⟩
  obtain ⟨B, ⟨⟨p, pg⟩, tb, gs⟩, e0, dl, pre, q⟩ := h
  have W := Wd.start (K := K) e0
  obtain ⟨v1, r1, rfl, f1, dl⟩ := dl.cons_inv
  obtain ⟨v2, r2, rfl, f2, dl⟩ := dl.cons_inv
  obtain ⟨v3, r3, rfl, f3, dl⟩ := dl.cons_inv
  cases dl
  obtain ⟨htl, hgl, hgb, hro⟩ := pre
  have htl : tb.length ≤ 1000 := htl
  have hgl : gs.length ≤ 1000 := hgl
  have hgb : GoalsB gs := hgb
  have hro : ∀ g, g ∈ gs → RaiseOk p (copying p (tch tb)) g := hro
  have f1 : Da K B v1 (dProg p) := f1
  have f2 : Da K B v2 (dTab tb) := f2
  have f3 : Da K B v3 (.list (gs.map dGoal)) := f3
  have q : RD K B H (dO3 (nextR (sysOf p pg.ok) (copying p (tch tb)) gs 0)) Q := q
  refine q_set W (EvN.data (c_N (a := p) (a_cons (e_var f1) a_nil) pg)) fun vk B1 H1 e1 W1 fk => ?_
  refine q_set W1 (EvN.data (c_N (a := (p, Rule.table tb)) (a_cons (e_var f1) (a_cons (c_D (a := tb) (a_cons (e_var f2) a_nil) trivial) a_nil)) ⟨pg, htl⟩)) fun vc B2 H2 e2 W2 fc => ?_
  have fc : Da K B2 vc (.list ((copying p (tch tb)).map nI)) := fc
  generalize copying p (tch tb) = cs at q fc hro
  refine q_for W2 (i_enum (a_cons (e_var f3) a_nil)) (fun i σ B' H' => ∃ a b c, σ = [some v1, some v2, some v3, some vk, some vc, a, b, c] ∧ nextR (sysOf p pg.ok) cs (gs.drop i) i = nextR (sysOf p pg.ok) cs gs 0 ∧ Wd K ⟨B, H, []⟩ none [] B' H')
    (fun B4 H4 e4 W4 => ⟨_, _, _, rfl, rfl, W4⟩) (fun i σ' B' H' iv => by obtain ⟨_, _, _, _, _, h⟩ := iv; exact h.inn) ?_ ?_
  · rintro i x σ' B0 B4 H4 B5 H5 hi e4 e5 ⟨xa, xb, xc, rfl, hno, W4⟩ e6 up fx
    have W5 := up _ _ W4
    obtain ⟨g, hg, e⟩ := turn_map (f := dGoal) hi
    have fx : Da K B5 x (.tuple [nI i, dGoal g]) := by rw [← e]; exact fx
    have hgm := List.mem_of_getElem? hg
    have hi' : i < gs.length := (List.getElem?_eq_some_iff.mp hg).1
    have hdr : gs.drop i = g :: gs.drop (i + 1) := by
      rw [List.drop_eq_getElem_cons hi']
      have := (List.getElem?_eq_some_iff.mp hg).2
      rw [this]
    rw [hdr] at hno
    have hno : (match raiseP p cs g with | some r => some (i, r) | none => nextR (sysOf p pg.ok) cs (gs.drop (i + 1)) (i + 1)) = nextR (sysOf p pg.ok) cs gs 0 := hno
    refine g_tup fx W5.inn rfl fun vs fv => g_cons fv fun va r fa fr => g_cons fr fun vb r fb fr => g_nil fr ?_
    refine q_set W5 (c_D (a := (p, cs, g)) (a_cons (e_var fk) (a_cons (e_var fc) (a_cons (e_var fb) a_nil))) ⟨pg, hro g hgm, (hgb g hgm).2⟩) fun vd B6 H6 e7 W6 fd => ?_
    have fd : Da K B6 vd (dO2 (raiseP p cs g)) := fd
    cases hr : raiseP p cs g with
    | none =>
      rw [hr] at fd hno
      refine s_ifF W6 (t_to (t_test (e_opNotN (e_var fd))) rfl) fun B7 H7 e8 W7 => ?_
      exact ⟨B7, ((e5.trans e6).trans e7).trans e8, _, _, _, rfl, hno, W7⟩
    | some r =>
      rw [hr] at fd hno
      have fd : Da K B6 vd (.tuple [nI r.1, nI r.2]) := fd
      refine s_ifT W6 (t_to (t_test (e_opNotN (e_var fd))) rfl) fun B7 H7 e8 W7 => ?_
      refine s_retB W7 (e_catT (e_tup (a_cons (e_var fa) a_nil) lk) (e_var fd) (by simp) (by simp) lk) fun v B8 H8 e9 W8 fv => W8.back rfl q ?_
      rw [← hno]
      exact fv
  · rintro σ' B4 H4 e4 ⟨xa, xb, xc, rfl, hno, W4⟩
    rw [List.length_map, List.drop_length] at hno
    rw [← hno] at q
    exact s_ret W4 e_cnon rfl q
theorem vst_lt {p : Prog} {u : Nat} (hu : u < nv p) : vst p u < p.length := by
  obtain ⟨_, _, _, h, _⟩ := view_from hu
  exact h
theorem reach_len {p : Prog} {ok : Valid p} {gs : List Goal} {T : Tab} (h : Reach (tabs p ok) gs T) (gk : GoalsOk (sysOf p ok) gs) (lk : Lk (runOf p ok infc infc_ge) gs) : T.length ≤ p.length := by
  have inv := h.inv gk lk
  have h1 : (T.map (·.1)).Nodup := h.srt.nodup
  have h2 := nodup_len (n := p.length) h1 fun c hc => by
    obtain ⟨e, he, rfl⟩ := List.mem_map.mp hc
    obtain ⟨u, hu, hs, _⟩ := inv e he
    have hs : vst p u = e.1 := hs
    rw [← hs]
    exact vst_lt hu
  rw [List.length_map] at h2
  exact h2
theorem cl_linked_table (d : Df K mg "linked_table" s_linked_table) (T : Tx K mg) (c_next_raise : Cl P w K mg base 5 "next_raise" (sp_next_raise K) []) (c_with_entry : Cl P w K mg base 1 "with_entry" (sp_with_entry K) []) : Cl P w K mg base 6 "linked_table" (sp_linked_table K) [] := by
  refine cl_of d sc_linked_table (fun f fd F => F.bindsN fun _ _ _ _ _ _ us hl => match us, hl with | [_, _], _ => rfl) (SpB.len fun _ => rfl) fun cdv f A outer s H vs Q E hr h => ?_
  have hu := hu_of hr
  refine ⟨_, (pss_cons (ps_set (i := 2) sc_linked_table.nd rfl (Or.inl rfl) (pe_lst pa_nil))
      (pss_cons (ps_set (i := 3) sc_linked_table.nd rfl (Or.inl rfl) (pe_tup pa_nil))
      (pss_cons (ps_set (i := 4) sc_linked_table.nd rfl (Or.inl rfl) (pe_cl c_next_raise hr (by decide) rfl (pa_cons (pv 0) (pa_cons (pv 3) (pa_cons (pv 1) pa_nil)))))
      (pss_cons (ps_while PassesOwn.never (pt_cmpR op_notN (pv 4) pe_non (nomark _)) (pss_cons (ps_expr (pe_bm PySem.F.plainAttrs_list PySem.F.slot_list_append PySem.F.type_list_append mt_append (pv 2) (pa_cons (pv 4) pa_nil)))
      (pss_cons (ps_set (i := 3) sc_linked_table.nd rfl (Or.inl rfl) (pe_cl c_with_entry hr (by decide) rfl (pa_cons (pv 3) (pa_cons (pe_ix (ixT K) (pv 4) pe_int (fun _ _ => rfl)) (pa_cons (pe_ix (ixT K) (pv 4) pe_int (fun _ _ => rfl)) pa_nil)))))
      (pss_one (ps_set (i := 4) sc_linked_table.nd rfl (Or.inl rfl) (pe_cl c_next_raise hr (by decide) rfl (pa_cons (pv 0) (pa_cons (pv 3) (pa_cons (pv 1) pa_nil)))))))))
      (pss_one (ps_ret (pe_tup (pa_cons (pv 3) (pa_cons (pv 2) pa_nil))))))))), ?_⟩
  obtain ⟨B, ⟨⟨p, pg⟩, D, gs⟩, e0, dl, pre, q⟩ := h
  have W := Wd.start (K := K) e0
  obtain ⟨v1, r1, rfl, f1, dl⟩ := dl.cons_inv
  obtain ⟨v2, r2, rfl, f2, dl⟩ := dl.cons_inv
  cases dl
  obtain ⟨hgl, hgb, hgf, hnb⟩ := pre
  have hgl : gs.length ≤ 1000 := hgl
  have hgb : GoalsB gs := hgb
  have hgf : GoalsFor p D gs := hgf
  have hnb : ∀ g, g ∈ gs → hit (copying p infc) g = false := hnb
  have f1 : Da K B v1 (dProg p) := f1
  have f2 : Da K B v2 (.list (gs.map dGoal)) := f2
  have gk : GoalsOk (sysOf p pg.ok) gs := hgf.ok pg.ok
  have lkk : Lk (runOf p pg.ok infc infc_ge) gs := hnb
  have q : RB B H (fun v B' => ∃ T rs, Reach (tabs p pg.ok) gs T ∧ T.length ≤ 1000 ∧ nextRaise p pg.ok T gs = none ∧ Da K B' v (.tuple [dTab T, .list rs])) Q := q
  have rok : ∀ T, Reach (tabs p pg.ok) gs T → ∀ g, g ∈ gs → RaiseOk p (copying p (tch T)) g := fun T hT g hg => by
    obtain ⟨L, G⟩ := gk g hg
    refine ⟨G.am, fun hh => ?_⟩
    have ne := raise_there hT gk lkk hg hh
    cases hl : (above (sysOf p pg.ok) (copied (sysOf p pg.ok) ((tabs p pg.ok).run T).cp) g).getLast? with
    | none => exact absurd (List.getLast?_eq_none_iff.mp hl) ne
    | some x =>
      obtain ⟨h1, h2⟩ := raise_more hT gk lkk hg hh hl
      have h1 : tabCap T (vst p x) 0 + vstart p x < g.e := h1
      exact ⟨x, hl, by omega⟩
  have tl : ∀ T, Reach (tabs p pg.ok) gs T → T.length ≤ 1000 := fun T hT => by
    have := reach_len hT gk lkk
    have := pg.len
    omega
  refine q_setN W (l_lst a_nil lk) fun p1 ds B1 H1 e1 h1 W1 hd => ?_
  subst hd
  refine q_set W1 (e_tup a_nil lk) fun ve B2 H2 e2 W2 fe => ?_
  refine q_set W2 (c_D (a := ((⟨p, pg⟩ : Pg), [], gs)) (a_cons (e_var f1) (a_cons (e_var (d := dTab []) fe) (a_cons (e_var f2) a_nil))) ⟨Nat.zero_le _, hgl, hgb, rok [] .nil⟩) fun vf B3 H3 e3 W3 ff => ?_
  refine q_while W3 (fun m σ B' H' => ∃ (T : Tab) (rs : List PyData) (ve vf : V), σ = [some v1, some v2, some (.ref p1), some ve, some vf] ∧ m = far 1000 p.length T ∧ Reach (tabs p pg.ok) gs T ∧ Da K B' ve (dTab T) ∧ Da K B' vf (dO3 (nextRaise p pg.ok T gs)) ∧
      rs.length + far 1000 p.length T ≤ 40000 ∧ Wd K ⟨B, H, []⟩ none [(p1, .l rs)] B' H') (m0 := far 1000 p.length []) ⟨[], [], ve, vf, rfl, rfl, .nil, fe.mono e3, ff, ?_, W3⟩ ?_
  · have h := sumTo_bound (f := fun s => 1000 - tabCap [] s 0) (B := 1000) (fun i => Nat.sub_le _ _) p.length
    have := pg.len
    show 0 + sumTo _ _ ≤ 40000
    omega
  · rintro m σ' B4 H4 e4 ⟨T, rs, ve, vf, rfl, hm, hT, fe, ff, hrs, W4⟩
    refine ⟨none, _, !isN (dO3 (nextRaise p pg.ok T gs)), W4, t_test (e_opNotN (e_var ff)), fun hb B5 H5 e5 W5 => ?_, fun hb B5 H5 e5 W5 => ?_⟩
    · cases hn : nextRaise p pg.ok T gs with
      | none =>
        rw [hn] at hb
        cases hb
      | some r =>
        obtain ⟨k, s, c0⟩ := r
        rw [hn] at ff
        have ff : Da K B4 vf (.tuple [nI k, nI s, nI c0]) := ff
        have hput : Reach (tabs p pg.ok) gs (putE s c0 T) := .put hT hn
        have hfar := (far_falls (B := 1000) (n := p.length) hT gk lkk (fun g hg => (hgb g hg).1) (fun u hu => vst_lt hu) hn).1
        refine q_appD W5 (.inl h1) (e_var ff) (by omega) fun B6 H6 e6 W6 => ?_
        refine q_set W6 (c_D (a := (T, s, c0)) (a_cons (e_var fe) (a_cons (e_ixT (e_var ff) e_cint rfl) (a_cons (e_ixT (e_var ff) e_cint rfl) a_nil))) ⟨hT.srt, tl T hT⟩) fun ve2 B7 H7 e7 W7 fe2 => ?_
        refine s_set W7 (c_D (a := ((⟨p, pg⟩ : Pg), putE s c0 T, gs)) (a_cons (e_var f1) (a_cons (e_var fe2) (a_cons (e_var f2) a_nil))) ⟨tl _ hput, hgl, hgb, rok _ hput⟩) fun vf2 B8 H8 e8 W8 ff2 => ?_
        refine ⟨_, B8, ?_, (((e4.trans e5).trans e6).trans e7).trans e8, putE s c0 T, (rs ++ [PyData.tuple [nI k, nI s, nI c0]] : List PyData), ve2, vf2, rfl, rfl, hput, fe2.mono e8, ff2, ?_, W8⟩
        · rw [hm]
          exact hfar
        · rw [List.length_append, List.length_singleton]
          omega
    · cases hn : nextRaise p pg.ok T gs with
      | some r =>
        rw [hn] at hb
        cases hb
      | none =>
        obtain ⟨B6, e6, W6, fl⟩ := W5.done h1
        refine s_ret (Φ := fun v B' => ∃ T rs, Reach (tabs p pg.ok) gs T ∧ T.length ≤ 1000 ∧ nextRaise p pg.ok T gs = none ∧ Da K B' v (.tuple [dTab T, .list rs])) W6 (EvB.imp (e_tup (a_cons (e_var fe) (a_cons (e_var fl) a_nil)) lk) fun v B7 e7 fv => ⟨T, rs, hT, tl T hT, hn, fv⟩) rfl q
end GB
namespace GB
open PySem PySem.Spec PyProof.Rows L2
open Evl (Ex)
variable {P : Program} {w : World} {K : PySem.W.Frag} {mg : Str → Option Value} {base : Heap}

/-! is_demand, need_demands, goals_of, trimmed, first_unmet -/
theorem e_isiT {c : Ent} {dr : Dr} {ls : Ls} {σ : L2.St} {B : Hp} {ta : TE} {ds : List PyData} {n : String} {b : Bool} (ha : EvD K c dr ls ta σ B (.tuple ds)) (ne : ds ≠ [.str "endless"]) (hk : kitB "tuple" n = some b) : EvD K c dr ls (tCB (rIsi K) (tCons ta (tCons (tC (.ty n)) tNil))) σ B (.bool b) := fun B1 H1 e1 W Q q =>
  ha B1 H1 e1 W _ fun v B2 H2 e2 W2 fv => by
    obtain ⟨a, xs, rfl, hx, _⟩ := fv.tup_tr ne
    exact ⟨.ref a, .ty n, _, _, b, rfl, .ty n, .base (.tup (W2.inn _ _ hx)), kit_ty hk, q _ B2 H2 e2 W2 (.bl b)⟩
theorem e_isiL {c : Ent} {dr : Dr} {ls : Ls} {σ : L2.St} {B : Hp} {ta : TE} {ds : List PyData} {n : String} {b : Bool} (ha : EvD K c dr ls ta σ B (.list ds)) (hk : kitB "list" n = some b) : EvD K c dr ls (tCB (rIsi K) (tCons ta (tCons (tC (.ty n)) tNil))) σ B (.bool b) := fun B1 H1 e1 W Q q =>
  ha B1 H1 e1 W _ fun v B2 H2 e2 W2 fv => by
    obtain ⟨a, xs, rfl, hx, _⟩ := fv.lst_inv
    exact ⟨.ref a, .ty n, _, _, b, rfl, .ty n, .base (.lst (W2.inn _ _ hx)), kit_ty hk, q _ B2 H2 e2 W2 (.bl b)⟩
theorem cl_is_demand (d : Df K mg "is_demand" s_is_demand) (T : Tx K mg) (c_is_between : Cl P w K mg base 2 "is_between" (sp_is_between K) []) (c_is_integer : Cl P w K mg base 1 "is_integer" (sp_is_integer K) []) (c_candidates : Cl P w K mg base 4 "candidates" (sp_candidates K) []) (c_reads : Cl P w K mg base 1 "reads" (sp_reads K) []) : Cl P w K mg base 5 "is_demand" (sp_is_demand K) [] := by
  refine cl_of d sc_is_demand (fun f fd F => F.bindsN fun _ _ _ _ _ _ us hl => match us, hl with | [_, _], _ => rfl) (SpB.len fun _ => rfl) fun cdv f A outer s H vs Q E hr h => ?_
  have hu := hu_of hr
  refine ⟨_, (pss_cons (ps_if (PW.pt (pw_or (pt_not (pt_val (pe_callB call_isi (by rfl) T.isinstance (by decide +kernel) (pa_cons (pv 1) (pa_cons (pe_bltn (v := .ty "tuple") (by rfl) T.tuple (by decide +kernel) rfl) pa_nil))))) (pw_or1 (pt_cmpR op_ne (pe_callB call_len_seq (by rfl) T.len PySem.boot_len (pa_cons (pv 1) pa_nil)) pe_int (nomark _))))) (pss_one (ps_ret pe_bl)) pss_nil)
      (pss_cons (ps_if (pt_not (pt_val (pe_cl c_is_between hr (by decide) rfl (pa_cons (pe_ix (ixT K) (pv 1) pe_int (fun _ _ => rfl)) (pa_cons pe_int (pa_cons (pe_op op_sub (pe_callB call_len_seq (by rfl) T.len PySem.boot_len (pa_cons (pe_cl c_reads hr (by decide) rfl (pa_cons (pv 0) pa_nil)) pa_nil)) pe_int) pa_nil)))))) (pss_one (ps_ret pe_bl)) pss_nil)
      (pss_one (ps_ret (pe_and (pe_cl c_is_integer hr (by decide) rfl (pa_cons (pe_ix (ixT K) (pv 1) pe_int (fun _ _ => rfl)) pa_nil)) (pe_one (pe_cmpR (opIn K) (pe_ix (ixT K) (pv 1) pe_int (fun _ _ => rfl)) (pe_cl c_candidates hr (by decide) rfl (pa_cons (pv 0) (pa_cons (pe_ix (ixT K) (pv 1) pe_int (fun _ _ => rfl)) pa_nil))) (by rfl)))))))), ?_⟩
  obtain ⟨B, ⟨p, k0, c0⟩, e0, dl, pre, q⟩ := h
  have W := Wd.start (K := K) e0
  obtain ⟨v1, r1, rfl, f1, dl⟩ := dl.cons_inv
  obtain ⟨v2, r2, rfl, f2, dl⟩ := dl.cons_inv
  cases dl
  obtain ⟨pg, hd⟩ := pre
  have pg : PgOk p := pg
  obtain ⟨qr, w0, hq, hC⟩ := (show DemOk p (k0, c0) from hd)
  have f1 : Da K B v1 (dProg p) := f1
  have f2 : Da K B v2 (.tuple [nI k0, nI c0]) := f2
  have hq : (reads p)[k0]? = some qr := hq
  have hC : Cand p qr.1 qr.2.1 (vstart p qr.2.1 + qr.2.2) c0 w0 := hC
  have hl : k0 < (reads p).length := (List.getElem?_eq_some_iff.mp hq).1
  refine q_ifF W (t_to (t_or (t_not (t_B (e_isiT (e_var f2) (by intro z; cases z) (b := true) (by decide +kernel)))) fun _ => t_test (e_neI (e_lenT (a_cons (e_var f2) a_nil)) e_cint)) rfl) fun B1 H1 e1 W1 => ?_
  refine q_ifF W1 (t_to (t_not (t_B (c_D (a := ((k0 : Int), 0, ((reads p).length : Int) - 1)) (a_cons (e_ixT (e_var f2) e_cint rfl) (a_cons e_cint (a_cons (EvB.to (e_ii (e_lenL (a_cons (EvN.data (c_N (a := p) (a_cons (e_var f1) a_nil) pg)) a_nil)) e_cint) (by rw [List.length_map])) a_nil))) trivial))) ?_) fun B2 H2 e2 W2 => ?_
  · show (!(decide ((0 : Int) ≤ k0) && decide ((k0 : Int) ≤ ((reads p).length : Int) - 1))) = false
    rw [decide_eq_true (by omega), decide_eq_true (by omega)]
    rfl
  · have hin : c0 ∈ (candL p qr.1 qr.2.1 (vstart p qr.2.1 + qr.2.2)).map (·.1) := List.mem_map.mpr ⟨_, candL_mem.mpr hC, rfl⟩
    refine s_ret W2 (e_bool (e_andV (c_D (a := (c0 : Int)) (a_cons (e_ixT (e_var f2) e_cint rfl) a_nil) trivial) fun _ => e_inN (n := c0) (ns := (candL p qr.1 qr.2.1 (vstart p qr.2.1 + qr.2.2)).map (·.1)) (e_ixT (e_var f2) e_cint rfl) (EvB.to (EvN.data (c_N (a := (p, k0, qr)) (a_cons (e_var f1) (a_cons (e_ixT (e_var f2) e_cint rfl) a_nil)) ⟨pg, hq⟩)) (by rw [List.map_map]; rfl))) ?_) rfl q
    rw [decide_eq_true hin]
    rfl
theorem cl_need_demands (d : Df K mg "need_demands" s_need_demands [("most", .int 60)]) (T : Tx K mg) (c_is_demand : Cl P w K mg base 5 "is_demand" (sp_is_demand K) []) : Cl P w K mg base 6 "need_demands" (sp_need_demands K) [.int 60] := by
  obtain ⟨f, fd, F, gm⟩ := d
  obtain ⟨dsv, hdv, hb⟩ := F.binds0 (ps := P_need_demands) 2 (by intro z; cases z) rfl fun D doc pm an cdv ct us ks hu hk => match us, ks, hu, hk with | [_, _], [_], _, _ => ⟨_, _, _, _, _, _, rfl, rfl, rfl⟩
  refine ⟨f, fd, P_need_demands, dsv, F.ok sc_need_demands (SpB.len fun _ => rfl) fun cdv A outer s H vs Q E hr h => ?_, gm, F.kp, hb, hdv⟩
  have hu := hu_of hr
  refine ⟨_, PSs.nox ((pss_cons (ps_if (PW.pt (pw_or (pt_not (pt_val (pe_callB call_isi (by rfl) T.isinstance (by decide +kernel) (pa_cons (pv 1) (pa_cons (pe_bltn (v := .ty "list") (by rfl) T.list (by decide +kernel) rfl) pa_nil))))) (pw_or1 (pt_cmpR op_gt (pe_callB call_len_seq (by rfl) T.len PySem.boot_len (pa_cons (pv 1) pa_nil)) (pv 2) (nomark _))))) (pss_one ps_never) pss_nil)
      (pss_one (ps_for PassesOwn.never rfl (pi_enum (by rfl) T.enumerate (pa_cons (pv 1) pa_nil)) (pgTup (n := 2) K (pgs_cons (pg_name (i := 3) sc_need_demands.nd rfl (Or.inl rfl)) (pgs_cons (pg_name (i := 4) sc_need_demands.nd rfl (Or.inl rfl)) pgs_nil))) (pss_one (ps_if (pt_not (pt_val (pe_cl c_is_demand hr (by decide) rfl (pa_cons (pv 0) (pa_cons (pv 4) pa_nil))))) (pss_one ps_never) pss_nil)))))), ?_⟩
  obtain ⟨B, ⟨p, D⟩, e0, dl, pre, q⟩ := h
  have W := Wd.start (K := K) e0
  obtain ⟨v1, r1, rfl, f1, dl⟩ := dl.cons_inv
  obtain ⟨v2, r2, rfl, f2, dl⟩ := dl.cons_inv
  obtain ⟨v3, r3, rfl, f3, dl⟩ := dl.cons_inv
  cases dl
  obtain ⟨pg, hl, hd⟩ := pre
  have pg : PgOk p := pg
  have hl : D.length ≤ 60 := hl
  have hd : ∀ d, d ∈ D → DemOk p d := hd
  have f1 : Da K B v1 (dProg p) := f1
  have f2 : Da K B v2 (.list (D.map dPair)) := f2
  have f3 : Da K B v3 (.int 60) := f3
  refine q_ifF W (t_to (t_or (t_not (t_B (e_isiL (e_var f2) (b := true) (by decide +kernel)))) fun _ => t_test (e_ib (e_lenL (a_cons (e_var f2) a_nil)) (e_var f3))) ?_) fun B1 H1 e1 W1 => ?_
  · show (false || decide ((60 : Int) < (((D.map dPair).length : Nat) : Int))) = false
    rw [List.length_map, decide_eq_false (by omega)]
    rfl
  refine s_for W1 (i_enum (a_cons (e_var f2) a_nil)) (fun i σ B' H' => ∃ a b, σ = [some v1, some v2, some v3, a, b] ∧ Wd K ⟨B, H, []⟩ none [] B' H')
    (fun B4 H4 e4 W4 => ⟨_, _, rfl, W4⟩) (fun i σ' B' H' iv => by obtain ⟨_, _, _, h⟩ := iv; exact h.inn) ?_ ?_
  · rintro i x σ' B0 B4 H4 B5 H5 hi e4 e5 ⟨xa, xb, rfl, W4⟩ e6 up fx
    have W5 := up _ _ W4
    obtain ⟨dm, hg, e⟩ := turn_map (f := dPair) hi
    have fx : Da K B5 x (.tuple [nI i, dPair dm]) := by rw [← e]; exact fx
    refine g_tup fx W5.inn rfl fun vs fv => g_cons fv fun va r fa fr => g_cons fr fun vb r fb fr => g_nil fr ?_
    refine s_ifF W5 (t_to (t_not (t_B (c_D (a := (p, dm)) (a_cons (e_var f1) (a_cons (e_var fb) a_nil)) ⟨pg, hd dm (List.mem_of_getElem? hg)⟩))) rfl) fun B6 H6 e7 W6 => ?_
    exact ⟨B6, (e5.trans e6).trans e7, _, _, rfl, W6⟩
  · rintro σ' B4 H4 e4 ⟨xa, xb, rfl, W4⟩
    exact W4.back (v := .non) rfl q .non
theorem cl_trimmed (d : Df K mg "trimmed" s_trimmed) (T : Tx K mg) (c_copying : Cl P w K mg base 4 "copying" (sp_copying K) []) (c_table_policy : Cl P w K mg base 1 "table_policy" (sp_table_policy K) []) (c_views : Cl P w K mg base 2 "views" (sp_views K) []) : Cl P w K mg base 5 "trimmed" (sp_trimmed K) [] := by
  refine cl_of d sc_trimmed (fun f fd F => F.bindsN fun _ _ _ _ _ _ us hl => match us, hl with | [_, _], _ => rfl) (SpB.len fun _ => rfl) fun cdv f A outer s H vs Q E hr h => ?_
  have hu := hu_of hr
  refine ⟨_, (pss_cons (ps_set (i := 2) sc_trimmed.nd rfl (Or.inr rfl) (pe_cl c_copying hr (by decide) rfl (pa_cons (pv 0) (pa_cons (pe_cl c_table_policy hr (by decide) rfl (pa_cons (pv 1) pa_nil)) pa_nil))))
      (pss_cons (ps_set (i := 3) sc_trimmed.nd rfl (Or.inr rfl) (pe_dc (own := [("statement", 4), ("parent", 5), ("start", 6), ("length", 7)]) (by rfl) sc_trimmed.nd (pi_list (pe_cl c_views hr (by decide) rfl (pa_cons (pv 0) pa_nil))) (blkOk_by (own := [("statement", 4), ("parent", 5), ("start", 6), ("length", 7)]) (N := N_trimmed) (sc := defScope s_trimmed) (by decide +kernel)) (fun _ _ _ _ _ => (pgTup (n := 4) K (pgs_cons (pg_name (i := 4) sc_trimmed.nd rfl (Or.inl rfl)) (pgs_cons (pg_name (i := 5) sc_trimmed.nd rfl (Or.inl rfl)) (pgs_cons (pg_name (i := 6) sc_trimmed.nd rfl (Or.inl rfl)) (pgs_cons (pg_name (i := 7) sc_trimmed.nd rfl (Or.inl rfl)) pgs_nil)))))) (fun _ _ _ _ _ => pts_nil) (fun _ _ _ _ _ => (pv 4)) (fun _ _ _ _ _ => (pv 7))))
      (pss_one (ps_ret (pe_callTy call_tuple_of (by rfl) T.tuple (by decide +kernel) (pa_cons (pe_lc (own := [("entry", 8)]) (by rfl) sc_trimmed.nd (pi_tup (pv 1)) (blkOk_by (own := [("entry", 8)]) (N := N_trimmed) (sc := defScope s_trimmed) (by decide +kernel)) (fun _ _ _ _ _ => (pg_name (i := 8) sc_trimmed.nd rfl (Or.inl rfl))) (fun _ _ _ _ _ => (pts_one (PW.pt (pw_and (pt_cmpR (opIn K) (pe_ix (ixT K) (pv 8) pe_int (fun _ _ => rfl)) (pv 2) (by rfl)) (pw_and1 (pt_cmpR op_gt (pe_ix (ixT K) (pv 8) pe_int (fun _ _ => rfl)) (pe_dget hu (pv 3) (pe_ix (ixT K) (pv 8) pe_int (fun _ _ => rfl)) (fun _ _ => rfl)) (nomark _))))))) (fun _ _ _ _ _ => (pv 8))) pa_nil)))))), ?_⟩
  obtain ⟨B, ⟨p, tb⟩, e0, dl, pre, q⟩ := h
  have W := Wd.start (K := K) e0
  obtain ⟨v1, r1, rfl, f1, dl⟩ := dl.cons_inv
  obtain ⟨v2, r2, rfl, f2, dl⟩ := dl.cons_inv
  cases dl
  obtain ⟨pg, htl⟩ := pre
  have pg : PgOk p := pg
  have htl : tb.length ≤ 1000 := htl
  have f1 : Da K B v1 (dProg p) := f1
  have f2 : Da K B v2 (.tuple (tb.map dPair)) := f2
  have q : RD K B H (dTab (trimT p tb)) Q := q
  refine q_set W (EvN.data (c_N (a := (p, Rule.table tb)) (a_cons (e_var f1) (a_cons (c_D (a := tb) (a_cons (e_var (d := dTab tb) f2) a_nil) trivial) a_nil)) ⟨pg, htl⟩)) fun vc B1 H1 e1 W1 fc => ?_
  have fc : Da K B1 vc (.list ((copying p (tch tb)).map nI)) := fc
  have hnv := pg.nv
  refine q_setK W1 (k_dc (n := ((rows p).map dRow).length) (f := fun i => ((rows p).map dRow).getD i .none) (fun i => vst p i) (fun i => vlen p i) (i_list (EvN.data (c_N (a := p) (a_cons (e_var f1) a_nil) pg))) (by rw [List.length_map]; exact Nat.le_trans pg.nv (by decide)) ?_) fun pn kvs B2 H2 e2 h2 W2 hk => ?_
  · intro i x D kv0 B5 H5 hi e5 i5 fx R k
    have hi' : i < nv p := by rw [List.length_map] at hi; exact hi
    have fx : Da K B5 x (.tuple [nI (vst p i), dO (vpar p i), nI (vstart p i), nI (vlen p i)]) := by
      have e := getD_map (f := dRow) (row_at hi')
      have fx : Da K B5 x (((rows p).map dRow).getD i .none) := fx
      rw [e] at fx
      exact fx
    refine g_tup fx i5 rfl fun vs fv => g_cons fv fun va2 r fa2 fr => g_cons fr fun vb2 r fb2 fr => g_cons fr fun vc2 r fc2 fr => g_cons fr fun vd2 r fd2 fr => g_nil fr ?_
    exact k _ rfl (e_var fa2) fun B6 ex => e_var fd2
  · have hk : ∀ u, u < nv p → valV kvs (.inl ((vst p u : Nat) : Int)) = some (.int ((vlen p u : Nat) : Int)) := fun u hu => by
      have h := hk u (by rw [List.length_map]; exact hu) fun v hv e => (by
        rw [List.length_map] at hv
        rw [vst_inj hv hu e])
      exact h
    have hcp : ∀ e : Nat × Nat, (decide (e.1 ∈ copying p (tch tb)) && (match (List.range (nv p)).find? fun u => decide (vst p u = e.1) with | some u => decide (vlen p u < e.2) | none => false)) = (List.range (nv p)).any fun h => cpOf p (tch tb) h && decide (vst p h = e.1) && decide (vlen p h < e.2) := fun e => by
      by_cases hm : e.1 ∈ copying p (tch tb)
      · obtain ⟨u, hu, hs⟩ := List.mem_map.mp hm
        obtain ⟨hu1, hu2⟩ := List.mem_filter.mp hu
        have hu1 := List.mem_range.mp hu1
        have hf : (List.range (nv p)).find? (fun x => decide (vst p x = e.1)) = some u := by
          cases hx : (List.range (nv p)).find? (fun x => decide (vst p x = e.1)) with
          | none =>
            have := List.find?_eq_none.mp hx u (List.mem_range.mpr hu1)
            rw [decide_eq_true hs] at this
            exact absurd rfl this
          | some y =>
            have h1 := List.find?_some hx
            have h2 := List.mem_range.mp (List.mem_of_find?_eq_some hx)
            have h1 : vst p y = e.1 := of_decide_eq_true h1
            rw [vst_inj h2 hu1 (h1.trans hs.symm)]
        rw [decide_eq_true hm, hf, Bool.true_and]
        by_cases hl : vlen p u < e.2
        · show decide (vlen p u < e.2) = _
          rw [decide_eq_true hl]
          symm
          rw [List.any_eq_true]
          exact ⟨u, List.mem_range.mpr hu1, by rw [hu2, decide_eq_true hs, decide_eq_true hl]; rfl⟩
        · show decide (vlen p u < e.2) = _
          rw [decide_eq_false hl]
          symm
          rw [List.any_eq_false]
          intro y hy z
          rw [Bool.and_eq_true, Bool.and_eq_true, decide_eq_true_eq, decide_eq_true_eq] at z
          have hy := List.mem_range.mp hy
          rw [vst_inj hy hu1 (z.1.2.trans hs.symm)] at z
          exact hl z.2
      · rw [decide_eq_false hm, Bool.false_and]
        symm
        rw [List.any_eq_false]
        intro y hy z
        rw [Bool.and_eq_true, Bool.and_eq_true, decide_eq_true_eq, decide_eq_true_eq] at z
        have hy := List.mem_range.mp hy
        exact hm (List.mem_map.mpr ⟨y, List.mem_filter.mpr ⟨List.mem_range.mpr hy, z.1.1⟩, z.1.2⟩)
    have hT : trimT p tb = tb.filter fun e => decide (e.1 ∈ copying p (tch tb)) && (match (List.range (nv p)).find? fun u => decide (vst p u = e.1) with | some u => decide (vlen p u < e.2) | none => false) := by
      unfold trimT
      congr 1
      exact funext fun e => (hcp e).symm
    rw [hT] at q
    have hin : ∀ e : Nat × Nat, e.1 ∈ copying p (tch tb) → ∃ u, u < nv p ∧ vst p u = e.1 ∧ (List.range (nv p)).find? (fun x => decide (vst p x = e.1)) = some u := fun e hm => by
      obtain ⟨u, hu, hs⟩ := List.mem_map.mp hm
      have hu1 := List.mem_range.mp (List.mem_filter.mp hu).1
      cases hx : (List.range (nv p)).find? (fun x => decide (vst p x = e.1)) with
      | none =>
        have := List.find?_eq_none.mp hx u (List.mem_range.mpr hu1)
        rw [decide_eq_true hs] at this
        exact absurd rfl this
      | some y =>
        have h1 := List.find?_some hx
        have h1 : vst p y = e.1 := of_decide_eq_true h1
        exact ⟨y, List.mem_range.mp (List.mem_of_find?_eq_some hx), h1, rfl⟩
    generalize copying p (tch tb) = cs at fc q hin
    refine s_ret (Φ := fun v B' => Da K B' v (dTab (tb.filter fun e => decide (e.1 ∈ cs) && (match (List.range (nv p)).find? fun u => decide (vst p u = e.1) with | some u => decide (vlen p u < e.2) | none => false)))) W2 (e_tupL (a_cons (EvB.to (EvN.data (l_lc (n := (tb.map dPair).length) (f := fun i => (tb.map dPair).getD i .none)
      (fun i => decide ((tb.getD i (0, 0)).1 ∈ cs) && (match (List.range (nv p)).find? fun u => decide (vst p u = (tb.getD i (0, 0)).1) with | some u => decide (vlen p u < (tb.getD i (0, 0)).2) | none => false)) (fun i => dPair (tb.getD i (0, 0))) (i_tup (e_var f2)) (by rw [List.length_map]; omega) ?_)) ?_) a_nil)) rfl q
    · intro i x D acc B5 H5 hi e5 i5 fx R k
      obtain ⟨s, hs, e⟩ := turn_map hi
      have fx : Da K B5 x (.tuple [nI s.1, nI s.2]) := by
        have fx : Da K B5 x ((tb.map dPair).getD i .none) := fx
        rw [e] at fx
        exact fx
      refine k _ rfl ?_ fun _ => ?_
      · rw [getD_mem' hs]
        refine t_and (t_test (e_inN (e_ixT (e_var fx) e_cint rfl) (e_var fc))) fun hm => ?_
        obtain ⟨u, hu, hsu, hfu⟩ := hin s (of_decide_eq_true hm)
        rw [hfu]
        exact t_test (e_gtN (a := s.2) (b := vlen p u) (e_ixT (e_var fx) e_cint rfl) (e_dGet (List.mem_cons_of_mem _ List.mem_cons_self) (e_ixT (e_var fx) e_cint (d := nI s.1) rfl) (by rw [← hsu]; exact hk u hu) (.int _)))
      · rw [getD_mem' hs]
        exact e_var fx
    · rw [List.length_map]
      exact congrArg PyData.list (given_filter tb (0, 0) (fun e => decide (e.1 ∈ cs) && (match (List.range (nv p)).find? fun u => decide (vst p u = e.1) with | some u => decide (vlen p u < e.2) | none => false)) dPair)
theorem cl_first_unmet (d : Df K mg "first_unmet" s_first_unmet) (T : Tx K mg) (c_origins : Cl P w K mg base 5 "origins" (sp_origins K) []) (c_table_policy : Cl P w K mg base 1 "table_policy" (sp_table_policy K) []) : Cl P w K mg base 6 "first_unmet" (sp_first_unmet K) [] := by
  refine cl_of d sc_first_unmet (fun f fd F => F.bindsN fun _ _ _ _ _ _ us hl => match us, hl with | [_, _, _], _ => rfl) (SpB.len fun _ => rfl) fun cdv f A outer s H vs Q E hr h => ?_
  have hu := hu_of hr
  refine ⟨_, (pss_cons (ps_set (i := 3) sc_first_unmet.nd rfl (Or.inl rfl) (pe_cl c_origins hr (by decide) rfl (pa_cons (pv 0) (pa_cons (pe_cl c_table_policy hr (by decide) rfl (pa_cons (pv 2) pa_nil)) pa_nil))))
      (pss_cons (ps_for PassesOwn.never rfl (pi_enum (by rfl) T.enumerate (pa_cons (pv 1) pa_nil)) (pgTup (n := 2) K (pgs_cons (pg_name (i := 4) sc_first_unmet.nd rfl (Or.inl rfl)) (pgs_cons (pgTup (n := 2) K (pgs_cons (pg_name (i := 5) sc_first_unmet.nd rfl (Or.inl rfl)) (pgs_cons (pg_name (i := 6) sc_first_unmet.nd rfl (Or.inl rfl)) pgs_nil))) pgs_nil))) (pss_one (ps_if (pt_cmpR op_ne (pe_ix (ixL K) (pv 3) (pv 5) (fun _ _ => rfl)) (pv 6) (nomark _)) (pss_one (ps_ret (pe_tup (pa_cons (pv 4) (pa_cons (pe_ix (ixL K) (pv 3) (pv 5) (fun _ _ => rfl)) pa_nil))))) pss_nil)))
      (pss_one (ps_ret pe_non)))), ?_⟩
  obtain ⟨B, ⟨p, D, tb⟩, e0, dl, pre, q⟩ := h
  have W := Wd.start (K := K) e0
  obtain ⟨v1, r1, rfl, f1, dl⟩ := dl.cons_inv
  obtain ⟨v2, r2, rfl, f2, dl⟩ := dl.cons_inv
  obtain ⟨v3, r3, rfl, f3, dl⟩ := dl.cons_inv
  cases dl
  obtain ⟨pg, hDl, hD, htl⟩ := pre
  have pg : PgOk p := pg
  have hDl : D.length ≤ 1000 := hDl
  have hD : ∀ d, d ∈ D → DemOk p d := hD
  have htl : tb.length ≤ 1000 := htl
  have f1 : Da K B v1 (dProg p) := f1
  have f2 : Da K B v2 (.list (D.map dPair)) := f2
  have f3 : Da K B v3 (dTab tb) := f3
  have q : RB B H (fun v B' => ∃ o : Option (Nat × Nat), (o = none ↔ Met p (cpOf p (tch tb)) D) ∧ Da K B' v (dO2 o)) Q := q
  refine q_set W (EvN.data (c_N (a := (p, Rule.table tb)) (a_cons (e_var f1) (a_cons (c_D (a := tb) (a_cons (e_var f3) a_nil) trivial) a_nil)) ⟨pg, htl⟩)) fun vc B1 H1 e1 W1 fc => ?_
  have fc : Da K B1 vc (.list ((originsL p (cpOf p (tch tb))).map nI)) := fc
  refine q_for W1 (i_enum (a_cons (e_var f2) a_nil)) (fun i σ B' H' => ∃ a b c, σ = [some v1, some v2, some v3, some vc, a, b, c] ∧ (∀ j d, j < i → D[j]? = some d → (originsL p (cpOf p (tch tb)))[d.1]? = some d.2) ∧ Wd K ⟨B, H, []⟩ none [] B' H')
    (fun B4 H4 e4 W4 => ⟨_, _, _, rfl, fun j d h => absurd h (Nat.not_lt_zero _), W4⟩) (fun i σ' B' H' iv => by obtain ⟨_, _, _, _, _, h⟩ := iv; exact h.inn) ?_ ?_
  · rintro i x σ' B0 B4 H4 B5 H5 hi e4 e5 ⟨xa, xb, xc, rfl, hno, W4⟩ e6 up fx
    have W5 := up _ _ W4
    obtain ⟨dm, hg, e⟩ := turn_map (f := dPair) hi
    have fx : Da K B5 x (.tuple [nI i, .tuple [nI dm.1, nI dm.2]]) := by
      have fx : Da K B5 x (.tuple [nI i, (D.map dPair).getD i .none]) := fx
      rw [e] at fx
      exact fx
    have hdm := hD dm (List.mem_of_getElem? hg)
    obtain ⟨qr, w0, hq, _⟩ := hdm
    have ho : (originsL p (cpOf p (tch tb)))[dm.1]? = some (orig p (cpOf p (tch tb)) qr) := origins_at hq
    refine g_tup fx W5.inn rfl fun vs fv => g_cons fv fun va r fa fr => g_cons fr fun vb r fb fr => ?_
    refine g_tup fb W5.inn rfl fun vs fv => g_cons fv fun vd r fd fr2 => g_cons fr2 fun ve r fe fr2 => ?_
    refine g_name ?_
    refine g_nil fr2 ?_
    refine g_nil fr ?_
    refine s_if W5 (t_test (e_neN (e_atL (f := nI) (e_var fc) (e_var fd) ho) (e_var fe))) (fun hb B6 H6 e7 W6 => ?_) (fun hb B6 H6 e7 W6 => ?_)
    · have hne : orig p (cpOf p (tch tb)) qr ≠ dm.2 := fun z => by
        rw [decide_eq_true z] at hb
        cases hb
      refine s_retB W6 (e_tup (ds := [nI i, nI (orig p (cpOf p (tch tb)) qr)]) (a_cons (e_var fa) (a_cons (e_atL (f := nI) (e_var fc) (e_var fd) ho) a_nil)) lk) fun v B7 H7 e8 W7 fv => W7.back rfl q ⟨some (i, orig p (cpOf p (tch tb)) qr), ⟨fun z => (nomatch z), fun z => ?_⟩, fv⟩
      have := z dm (List.mem_of_getElem? hg)
      rw [ho] at this
      exact absurd (Option.some.inj this) hne
    · have he : orig p (cpOf p (tch tb)) qr = dm.2 := by
        apply Classical.byContradiction
        intro z
        rw [decide_eq_false z] at hb
        cases hb
      refine ⟨B6, (e5.trans e6).trans e7, _, _, _, rfl, fun j g' hj hg' => ?_, W6⟩
      by_cases z : j < i
      · exact hno j g' z hg'
      · have z : j = i := by omega
        rw [z, hg] at hg'
        cases hg'
        rw [ho, he]
  · rintro σ' B4 H4 e4 ⟨xa, xb, xc, rfl, hno, W4⟩
    rw [List.length_map] at hno
    refine s_ret (Φ := fun v B' => ∃ o : Option (Nat × Nat), (o = none ↔ Met p (cpOf p (tch tb)) D) ∧ Da K B' v (dO2 o)) W4 (EvB.imp e_cnon fun v B5 e5 fv => ⟨none, ⟨fun _ d hd => ?_, fun _ => rfl⟩, fv⟩) rfl q
    obtain ⟨j, hj⟩ := List.getElem?_of_mem hd
    exact hno j d (List.getElem?_eq_some_iff.mp hj).1 hj
end GB
namespace GB
open PySem PySem.Spec PyProof.Rows L2
open Evl (Ex)
variable {P : Program} {w : World} {K : PySem.W.Frag} {mg : Str → Option Value} {base : Heap}

/-! least_policy -/
theorem inf_same {p : Prog} (ok : Valid p) (ch : Ch) : ∀ n i, i < n → i < nv p → (capOf p ch i = capOf p infc i ∨ capOf p infc i = none) ∧ (cpOf p infc i = true → cpOf p ch i = true)
  | 0, _, h, _ => absurd h (Nat.not_lt_zero _)
  | n + 1, i, h, hi => by
    have a := alt_law ok ch hi
    have b := alt_law ok infc hi
    have sh := view_shape ok hi
    cases k : p.getD (vst p i) stm0 with
    | make l c =>
      rw [k] at a b
      exact ⟨.inl (a.1.trans b.1.symm), fun z => by rw [b.2] at z; cases z⟩
    | slice v lo hi2 =>
      rw [k] at a b sh
      have ih := (inf_same ok ch n v (by have := sh.2.1; omega) (by have := sh.2.1; omega)).1
      refine ⟨?_, fun z => by rw [b.2] at z; cases z⟩
      rw [a.1, b.1]
      rcases ih with z | z
      · exact .inl (by rw [z])
      · exact .inr (by rw [z] <;> rfl)
    | clip v =>
      rw [k] at a b
      exact ⟨.inl (a.1.trans b.1.symm), fun z => by rw [b.2] at z; cases z⟩
    | app g v xs =>
      rw [k] at a b sh
      have ih := (inf_same ok ch n v (by have := sh.2.1; omega) (by have := sh.2.1; omega)).1
      by_cases hb : g = false ∧ leO (some (vlen p i)) (capOf p infc v)
      · have b' := b.1 hb
        refine ⟨?_, fun z => by rw [b'.2] at z; cases z⟩
        rcases ih with z | z
        · have a' := a.1 ⟨hb.1, by rw [z]; exact hb.2⟩
          exact .inl (by rw [a'.1, b'.1, z])
        · exact .inr (by rw [b'.1, z])
      · have b' := b.2 hb
        refine ⟨.inr b'.1, fun _ => ?_⟩
        refine (a.2 fun ha => hb ⟨ha.1, ?_⟩).2
        rcases ih with z | z
        · rw [← z]
          exact ha.2
        · rw [z]
          exact leO.none _
    | write v x y =>
      rw [k] at a
      exact a.elim
    | move v x y z =>
      rw [k] at a
      exact a.elim
    | read v x =>
      rw [k] at a
      exact a.elim
theorem inf_linked {p : Prog} (ok : Valid p) {ch : Ch} (ge : Ge ch) {gs : List Goal} (h : Lk (runOf p ok ch ge) gs) : Lk (runOf p ok infc infc_ge) gs := fun g hg => by
  refine hit_false.mpr fun s hs hc => ?_
  obtain ⟨u, hu, hcp, rfl⟩ := mem_copied.mp hc
  exact hit_false.mp (h g hg) _ hs (mem_copied.mpr ⟨u, hu, (inf_same ok ch (u + 1) u (Nat.lt_succ_self u) hu).2 hcp, rfl⟩)
theorem GoalsFor.len {p : Prog} {D : List Dem} {gs : List Goal} (h : GoalsFor p D gs) : gs.length = D.length := by
  induction h with
  | nil => rfl
  | cons _ _ ih => exact congrArg Nat.succ ih
theorem cl_least_policy (d : Df K mg "least_policy" s_least_policy) (T : Tx K mg) (c_need_demands : Cl P w K mg base 6 "need_demands" (sp_need_demands K) [.int 60]) (c_goals_of : Cl P w K mg base 5 "goals_of" (sp_goals_of K) []) (c_first_barred : Cl P w K mg base 5 "first_barred" (sp_first_barred K) []) (c_linked_table : Cl P w K mg base 6 "linked_table" (sp_linked_table K) []) (c_first_unmet : Cl P w K mg base 6 "first_unmet" (sp_first_unmet K) []) (c_table_policy : Cl P w K mg base 1 "table_policy" (sp_table_policy K) []) (c_trimmed : Cl P w K mg base 5 "trimmed" (sp_trimmed K) []) : Cl P w K mg base 7 "least_policy" (sp_least_policy K) [] := by
  refine cl_of d sc_least_policy (fun f fd F => F.bindsN fun _ _ _ _ _ _ us hl => match us, hl with | [_, _], _ => rfl) (SpB.len fun _ => rfl) fun cdv f A outer s H vs Q E hr h => ?_
  have hu := hu_of hr
  refine ⟨_, (pss_cons (ps_expr (pe_cl c_need_demands hr (by decide) rfl (pa_cons (pv 0) (pa_cons (pv 1) pa_nil))))
      (pss_cons (ps_set (i := 2) sc_least_policy.nd rfl (Or.inl rfl) (pe_cl c_goals_of hr (by decide) rfl (pa_cons (pv 0) (pa_cons (pv 1) pa_nil))))
      (pss_cons (ps_set (i := 3) sc_least_policy.nd rfl (Or.inl rfl) (pe_cl c_first_barred hr (by decide) rfl (pa_cons (pv 0) (pa_cons (pv 2) pa_nil))))
      (pss_cons (ps_if (pt_cmpR op_notN (pv 3) pe_non (nomark _)) (pss_one (ps_ret (pe_op (opCatT K) (pe_tup (pa_cons pe_str pa_nil)) (pv 3)))) pss_nil)
      (pss_cons (ps_asg (pe_cl c_linked_table hr (by decide) rfl (pa_cons (pv 0) (pa_cons (pv 2) pa_nil))) (pgTup (n := 2) K (pgs_cons (pg_name (i := 4) sc_least_policy.nd rfl (Or.inl rfl)) (pgs_cons (pg_name (i := 5) sc_least_policy.nd rfl (Or.inl rfl)) pgs_nil))))
      (pss_cons (ps_set (i := 6) sc_least_policy.nd rfl (Or.inl rfl) (pe_cl c_first_unmet hr (by decide) rfl (pa_cons (pv 0) (pa_cons (pv 1) (pa_cons (pv 4) pa_nil)))))
      (pss_cons (ps_if (pt_cmpR op_isN (pv 6) pe_non (nomark _)) (pss_one (ps_ret (pe_tup (pa_cons pe_str (pa_cons (pe_cl c_table_policy hr (by decide) rfl (pa_cons (pe_cl c_trimmed hr (by decide) rfl (pa_cons (pv 0) (pa_cons (pv 4) pa_nil))) pa_nil)) (pa_cons (pv 5) pa_nil)))))) pss_nil)
      (pss_one (ps_ret (pe_op (opCatT K) (pe_tup (pa_cons pe_str (pa_cons (pv 5) pa_nil))) (pv 6))))))))))), ?_⟩
  obtain ⟨B, ⟨⟨p, pg⟩, D⟩, e0, dl, pre, q⟩ := h
  have W := Wd.start (K := K) e0
  obtain ⟨v1, r1, rfl, f1, dl⟩ := dl.cons_inv
  obtain ⟨v2, r2, rfl, f2, dl⟩ := dl.cons_inv
  cases dl
  obtain ⟨hDl, hD⟩ := pre
  have hDl : D.length ≤ 60 := hDl
  have hD : ∀ d, d ∈ D → DemOk p d := hD
  have f1 : Da K B v1 (dProg p) := f1
  have f2 : Da K B v2 (dDems D) := f2
  have q : RB B H (fun v B' => ∃ o d, IsLeast p pg.ok D o ∧ (∀ U, o = some U → U.length ≤ 1000) ∧ LeastD o d ∧ Da K B' v d) Q := q
  refine q_drop W (c_Ddv (a := (p, D)) (fs := [.int 60]) (a_cons (e_var f1) (a_cons (e_var f2) a_nil)) (fun B => .one (.int 60)) rfl ⟨pg, hDl, hD⟩) fun B1 H1 e1 W1 => ?_
  refine q_set W1 (EvN.dataB (c_N (a := (p, D)) (a_cons (e_var f1) (a_cons (e_var f2) a_nil)) ⟨pg, hD, Nat.le_trans hDl (by decide)⟩)) fun vg B2 H2 e2 W2 fg => ?_
  obtain ⟨ds, fg, gs, hgf, hgb, rfl⟩ := fg
  have hgl : gs.length ≤ 1000 := by
    have : gs.length = D.length := GoalsFor.len hgf
    omega
  refine q_set W2 (c_B (a := (p, gs)) (a_cons (e_var f1) (a_cons (e_var fg) a_nil)) ⟨pg, hgl, hgb⟩) fun vb B3 H3 e3 W3 fb => ?_
  obtain ⟨o, ho, fb⟩ := fb
  have ho : o = none ↔ ∀ g, g ∈ gs → hit (copying p infc) g = false := ho
  cases o with
  | some e =>
    have fb : Da K B3 vb (.tuple [nI e.1, nI e.2]) := fb
    refine q_ifT W3 (t_to (t_test (e_opNotN (e_var fb))) rfl) fun B4 H4 e4 W4 => ?_
    refine s_ret (Φ := fun v B' => ∃ o d, IsLeast p pg.ok D o ∧ (∀ U, o = some U → U.length ≤ 1000) ∧ LeastD o d ∧ Da K B' v d) W4 (EvB.imp (e_catT (e_tup (a_cons e_cstr a_nil) lk) (e_var fb) (by simp) (by simp) lk) fun v B5 e5 fv => ⟨none, _, fun ch ge m => ?_, fun U hU => (nomatch hU), ⟨"copies", [nI e.1, nI e.2], rfl, Nat.le_refl 2, by decide +kernel⟩, fv⟩) rfl q
    have h := inf_linked pg.ok ge (met_linked pg.ok ge hgf m)
    have := ho.mpr h
    cases this
  | none =>
    have hnb := ho.mp rfl
    have fb : Da K B3 vb .none := fb
    refine q_ifF W3 (t_to (t_test (e_opNotN (e_var fb))) rfl) fun B4 H4 e4 W4 => ?_
    refine q_asg W4 (c_B (a := ((⟨p, pg⟩ : Pg), D, gs)) (a_cons (e_var f1) (a_cons (e_var fg) a_nil)) ⟨hgl, hgb, hgf, hnb⟩) fun vt B5 H5 e5 W5 ft => ?_
    obtain ⟨T0, rs, hT, hTl, hnr, ft⟩ := ft
    have hT : Reach (tabs p pg.ok) gs T0 := hT
    have hnr : nextRaise p pg.ok T0 gs = none := hnr
    have hL : Linked p pg.ok D T0 := ⟨gs, hgf, hnb, hT, hnr⟩
    refine g_tup ft W5.inn rfl fun vs fv => g_cons fv fun ve r fe fr => g_cons fr fun vr r frs fr => g_nil fr ?_
    refine q_set W5 (c_B (a := (p, D, T0)) (a_cons (e_var f1) (a_cons (e_var f2) (a_cons (e_var fe) a_nil))) ⟨pg, Nat.le_trans hDl (by decide), hD, hTl⟩) fun vu B6 H6 e6 W6 fu => ?_
    obtain ⟨o, ho, fu⟩ := fu
    have ho : o = none ↔ Met p (cpOf p (tch T0)) D := ho
    cases o with
    | none =>
      have fu : Da K B6 vu .none := fu
      refine q_ifT W6 (t_to (t_test (e_opIsN (e_var fu))) rfl) fun B7 H7 e7 W7 => ?_
      refine s_ret (Φ := fun v B' => ∃ o d, IsLeast p pg.ok D o ∧ (∀ U, o = some U → U.length ≤ 1000) ∧ LeastD o d ∧ Da K B' v d) W7 (EvB.imp (e_tup (a_cons e_cstr (a_cons (c_D (a := trimT p T0) (a_cons (c_D (a := (p, T0)) (a_cons (e_var f1) (a_cons (e_var fe) a_nil)) ⟨pg, hTl⟩) a_nil) trivial) (a_cons (e_var frs) a_nil))) lk) fun v B8 e8 fv => ⟨some (trimT p T0), _, ⟨T0, hL, ho.mp rfl, rfl⟩, fun U hU => ?_, ⟨rs, rfl⟩, fv⟩) rfl q
      cases hU
      exact Nat.le_trans (List.length_filter_le _ _) hTl
    | some e =>
      have fu : Da K B6 vu (.tuple [nI e.1, nI e.2]) := fu
      refine q_ifF W6 (t_to (t_test (e_opIsN (e_var fu))) rfl) fun B7 H7 e7 W7 => ?_
      refine s_ret (Φ := fun v B' => ∃ o d, IsLeast p pg.ok D o ∧ (∀ U, o = some U → U.length ≤ 1000) ∧ LeastD o d ∧ Da K B' v d) W7 (EvB.imp (e_catT (e_tup (a_cons e_cstr (a_cons (e_var frs) a_nil)) lk) (e_var fu) (by simp) (by simp) lk) fun v B8 e8 fv => ⟨none, _, fun ch ge m => ?_, fun U hU => (nomatch hU), ⟨"hidden", [.list rs, nI e.1, nI e.2], rfl, by show 2 ≤ 3; decide, by decide +kernel⟩, fv⟩) rfl q
      have := ho.mpr (hL.met ge m)
      cases this
theorem cl_goals_of (d : Df K mg "goals_of" s_goals_of) (T : Tx K mg) (c_goal_of : Cl P w K mg base 4 "goal_of" (sp_goal_of K) []) : Cl P w K mg base 5 "goals_of" (sp_goals_of K) [] := by
  refine cl_of d sc_goals_of (fun f fd F => F.bindsN fun _ _ _ _ _ _ us hl => match us, hl with | [_, _], _ => rfl) (SpN.len fun _ => rfl) fun cdv f A outer s H vs Q E hr h => ?_
  have hu := hu_of hr
  refine ⟨_, (pss_one (ps_ret (pe_lc (own := [("demand", 2)]) (by rfl) sc_goals_of.nd (pi_list (pv 1)) (blkOk_by (own := [("demand", 2)]) (N := N_goals_of) (sc := defScope s_goals_of) (by decide +kernel)) (fun _ _ _ _ _ => (pg_name (i := 2) sc_goals_of.nd rfl (Or.inl rfl))) (fun _ _ _ _ _ => pts_nil) (fun _ _ _ _ _ => (pe_cl c_goal_of hr (by decide) rfl (pa_cons (pv 0) (pa_cons (pv 2) pa_nil))))))), ?_⟩
  obtain ⟨B, ⟨p, D⟩, e0, dl, pre, q⟩ := h
  have W := Wd.start (K := K) e0
  obtain ⟨v1, r1, rfl, f1, dl⟩ := dl.cons_inv
  obtain ⟨v2, r2, rfl, f2, dl⟩ := dl.cons_inv
  cases dl
  obtain ⟨pg, hD, hDl⟩ := pre
  have pg : PgOk p := pg
  have hD : ∀ d, d ∈ D → DemOk p d := hD
  have hDl : D.length ≤ 1000 := hDl
  have f1 : Da K B v1 (dProg p) := f1
  have f2 : Da K B v2 (.list (D.map dPair)) := f2
  have q : RN K B H (fun ds => ∃ gs, GoalsFor p D gs ∧ GoalsB gs ∧ ds = gs.map dGoal) Q := q
  refine s_retN W (EvN.imp (l_lcP (n := (D.map dPair).length) (f := fun i => (D.map dPair).getD i .none) (fun _ => none) (fun i d => ∃ dm g, D[i]? = some dm ∧ GoalFor p dm g ∧ g.e ≤ 1000 ∧ g.ls.length ≤ 1000 ∧ d = dGoal g) (i_list (e_var f2)) (by rw [List.length_map]; omega) ?_) fun ds hd => ?_) rfl q
  · intro i x D0 acc B5 H5 hi e5 i5 fx R k
    obtain ⟨s, hs, e⟩ := turn_map hi
    have fx : Da K B5 x (dPair s) := by rw [← e]; exact fx
    refine k _ rfl (EvB.imp (c_B (a := (p, s)) (a_cons (e_var f1) (a_cons (e_var fx) a_nil)) ⟨pg, hD s (List.mem_of_getElem? hs)⟩) fun v B6 e6 hv => ?_)
    obtain ⟨g, g1, g2, g3, g4⟩ := hv
    exact ⟨dGoal g, g4, s, g, hs, g1, g2, g3, rfl⟩
  · obtain ⟨hl, hp⟩ := hd
    rw [List.length_map] at hl
    clear q W f2 hD hDl
    have go : ∀ (D : List Dem) (ds : List PyData), ds.length = D.length → (∀ (i : Nat) (d : PyData), ds[i]? = some d → ∃ (dm : Dem) (g : Goal), D[i]? = some dm ∧ GoalFor p dm g ∧ g.e ≤ 1000 ∧ g.ls.length ≤ 1000 ∧ d = dGoal g) → ∃ gs, GoalsFor p D gs ∧ GoalsB gs ∧ ds = gs.map dGoal := by
      intro D
      induction D with
      | nil =>
        intro ds hl _
        exact ⟨[], .nil, fun g hg => (nomatch hg), List.length_eq_zero_iff.mp hl⟩
      | cons dm D ih =>
        intro ds hl hp
        cases ds with
        | nil => cases hl
        | cons d ds =>
          obtain ⟨gs, h1, h2, h3⟩ := ih ds (Nat.succ.inj hl) fun i d h => hp (i + 1) d h
          obtain ⟨dm', g, k1, k2, k3, k4, k5⟩ := hp 0 d rfl
          cases k1
          refine ⟨g :: gs, .cons k2 h1, fun g' hg => ?_, by rw [k5, h3]; rfl⟩
          rcases List.mem_cons.mp hg with z | z
          · rw [z]
            exact ⟨k3, k4⟩
          · exact h2 g' z
    exact go D ds hl hp
end GB
namespace GB
open PySem PySem.Spec PyProof.Rows L2
open Evl (Ex)
variable {P : Program} {w : World} {K : PySem.W.Frag} {mg : Str → Option Value} {base : Heap}

/-! law_rows, law_looks, law_chosen, law_way -/
theorem i_enumS {c : Ent} {dr : Dr} {ls : Ls} {σ : L2.St} {B : Hp} {t : TA} {ds : List PyData} {b : Bool} (h : EaD K c dr ls t σ B [seqD b ds]) : EiB K c dr ls (iEnumE K t) σ B ds.length fun i => .tuple [.int (i : Nat), ds.getD i .none] := by
  cases b with
  | true => exact i_enumET h
  | false => exact i_enumEL h
theorem cl_law_rows (d : Df K mg "_law_rows" s_law_rows) (T : Tx K mg)  : Cl P w K mg base 1 "_law_rows" (sp_law_rows K) [] := by
  refine cl_of d sc_law_rows (fun f fd F => F.bindsN fun _ _ _ _ _ _ us hl => match us, hl with | [_], _ => rfl) (SpN.len fun _ => rfl) fun cdv f A outer s H vs Q E hr h => ?_
  have hu := hu_of hr
  refine ⟨_, (pss_cons (ps_set (i := 1) sc_law_rows.nd rfl (Or.inl rfl) (pe_lst pa_nil))
      (pss_cons (ps_for PassesOwn.never rfl (pi_enumE (by rfl) T.enumerate (pa_cons (pv 0) pa_nil)) (pgTup (n := 2) K (pgs_cons (pg_name (i := 2) sc_law_rows.nd rfl (Or.inl rfl)) (pgs_cons (pg_name (i := 3) sc_law_rows.nd rfl (Or.inl rfl)) pgs_nil))) (pss_cons (ps_set (i := 4) sc_law_rows.nd rfl (Or.inl rfl) (pe_ix (ixT K) (pv 3) pe_int (fun _ _ => rfl)))
      (pss_cons (ps_if (pt_cmpR op_eq (pv 4) pe_str (nomark _)) (pss_one (ps_expr (pe_bm PySem.F.plainAttrs_list PySem.F.slot_list_append PySem.F.type_list_append mt_append (pv 1) (pa_cons (pe_tup (pa_cons (pv 2) (pa_cons pe_non (pa_cons pe_int (pa_cons (pe_ix (ixT K) (pv 3) pe_int (fun _ _ => rfl)) pa_nil))))) pa_nil)))) pss_nil)
      (pss_one (ps_if (pt_cmpR (opIn K) (pv 4) (pe_tup (pa_cons pe_str (pa_cons pe_str (pa_cons pe_str (pa_cons pe_str pa_nil))))) (by rfl)) (pss_cons (ps_asg (pe_slice (slT K) (pe_ix (ixL K) (pv 1) (pe_ix (ixT K) (pv 3) pe_int (fun _ _ => rfl)) (fun _ _ => rfl)) (po_some pe_int) po_none) (pgTup (n := 2) K (pgs_cons (pg_name (i := 5) sc_law_rows.nd rfl (Or.inl rfl)) (pgs_cons (pg_name (i := 6) sc_law_rows.nd rfl (Or.inl rfl)) pgs_nil))))
      (pss_cons (ps_if (pt_cmpR op_eq (pv 4) pe_str (nomark _)) (pss_one (ps_par (i := 5) (j := 6) (by rfl) sc_law_rows.nd rfl rfl (by decide) rfl rfl (pa_cons (pe_op op_add (pv 5) (pe_ix (ixT K) (pv 3) pe_int (fun _ _ => rfl))) (pa_cons (pe_op op_sub (pe_ix (ixT K) (pv 3) pe_int (fun _ _ => rfl)) (pe_ix (ixT K) (pv 3) pe_int (fun _ _ => rfl))) pa_nil)) (by rfl))) pss_nil)
      (pss_cons (ps_if (pt_cmpR (opIn K) (pv 4) (pe_tup (pa_cons pe_str (pa_cons pe_str pa_nil))) (by rfl)) (pss_one (ps_set (i := 6) sc_law_rows.nd rfl (Or.inl rfl) (pe_op op_add (pv 6) (pe_callB call_len_seq (by rfl) T.len PySem.boot_len (pa_cons (pe_ix (ixT K) (pv 3) pe_int (fun _ _ => rfl)) pa_nil))))) pss_nil)
      (pss_one (ps_expr (pe_bm PySem.F.plainAttrs_list PySem.F.slot_list_append PySem.F.type_list_append mt_append (pv 1) (pa_cons (pe_tup (pa_cons (pv 2) (pa_cons (pe_ix (ixT K) (pv 3) pe_int (fun _ _ => rfl)) (pa_cons (pv 5) (pa_cons (pv 6) pa_nil))))) pa_nil))))))) pss_nil)))))
      (pss_one (ps_ret (pv 1))))), ?_⟩
  obtain ⟨B, ⟨p, sb⟩, e0, dl, pre, q⟩ := h
  have W := Wd.start (K := K) e0
  obtain ⟨v1, r1, rfl, f1, dl⟩ := dl.cons_inv
  cases dl
  obtain ⟨pok, hpl⟩ := pre
  have pok : Valid p := pok
  have hpl : p.length ≤ 1000 := hpl
  have f1 : Da K B v1 (seqD sb (p.map dStm)) := f1
  refine q_setN W (l_lst a_nil lk) fun p1 ds B1 H1 e1 h1 W1 hd => ?_
  subst hd
  refine q_for W1 (i_enumS (a_cons (e_var f1) a_nil)) (fun i σ B' H' => ∃ a b c d e, σ = [some v1, some (.ref p1), a, b, c, d, e] ∧ Wd K ⟨B, H, []⟩ none [(p1, .l ((rowsN p i).map dRow))] B' H')
    (fun B3 H3 e3 W3 => ⟨_, _, _, _, _, rfl, W3⟩) (fun i σ' B' H' iv => by obtain ⟨_, _, _, _, _, _, h⟩ := iv; exact h.inn) ?_ ?_
  · rintro i x σ' B0 B3 H3 B4 H4 hi e3 e4 ⟨xa, xb, xc, xd, xe, rfl, W3⟩ e5 up fx
    have W4 := up _ _ W3
    obtain ⟨st, hst, e⟩ := turn_stm hi
    have fx : Da K B4 x (.tuple [nI i, dStm st]) := by rw [← e]; exact fx
    have hl : i < p.length := (List.getElem?_eq_some_iff.mp hst).1
    have o := pok i st hst
    have hlen : ((rowsN p i).map dRow).length < 100000 := by rw [List.length_map]; have := rowsN_le_len p i; omega
    have er := rowsN_succ hst
    refine g_tup fx W4.inn rfl fun vs fv => g_cons fv fun va r fa fr => g_cons fr fun vb r fb fr => g_nil fr ?_
    cases st with
    | make l c =>
      refine q_set W4 (e_ixT (e_var fb) e_cint rfl) fun vw B5 H5 e6 W5 fw => ?_
      obtain rfl := fw.str_eq
      refine q_ifT W5 (t_to (t_test (e_eqS e_str e_cstr)) (by show decide (("make" : Str) = "make") = true; decide +kernel)) fun B6 H6 e7 W6 => ?_
      refine s_appD W6 (.inl h1) (e_tup (a_cons (e_var fa) (a_cons e_cnon (a_cons e_cint (a_cons (e_ixT (e_var fb) e_cint rfl) a_nil)))) lk) hlen fun B7 H7 e8 W7 => ?_
      refine s_ifF W7 (t_to (t_test (e_inS (ns := ["slice", "clip", "append", "grow"]) e_str (e_tup (a_cons e_cstr (a_cons e_cstr (a_cons e_cstr (a_cons e_cstr a_nil)))) lk))) (by show decide (("make" : Str) ∈ (["slice", "clip", "append", "grow"] : List Str)) = false; decide +kernel)) fun B8 H8 e9 W8 => ?_
      refine ⟨B8, (((((e4.trans e5).trans e6).trans e7).trans e8).trans e9), _, _, _, _, _, rfl, ?_⟩
      rw [er, List.map_append]
      exact W8
    | slice v0 lo hj =>
      refine q_set W4 (e_ixT (e_var fb) e_cint rfl) fun vw B5 H5 e6 W5 fw => ?_
      obtain rfl := fw.str_eq
      refine q_ifF W5 (t_to (t_test (e_eqS e_str e_cstr)) (by show decide (("slice" : Str) = "make") = false; decide +kernel)) fun B6 H6 e7 W6 => ?_
      refine s_ifT W6 (t_to (t_test (e_inS (ns := ["slice", "clip", "append", "grow"]) e_str (e_tup (a_cons e_cstr (a_cons e_cstr (a_cons e_cstr (a_cons e_cstr a_nil)))) lk))) (by show decide (("slice" : Str) ∈ (["slice", "clip", "append", "grow"] : List Str)) = true; decide +kernel)) fun B7 H7 e8 W7 => ?_
      have hv : v0 < (rowsN p i).length := o.1
      have hr : (rowsN p i)[v0]? = some ((rowsN p i).getD v0 row0) := get_of hv
      have o2 : lo ≤ hj ∧ hj ≤ ((rowsN p i).getD v0 row0).len := o.2
      have er : rowsN p (i + 1) = rowsN p i ++ [⟨i, some v0, ((rowsN p i).getD v0 row0).start + lo, hj - lo⟩] := er
      rw [er, List.map_append]
      generalize hrw : (rowsN p i).getD v0 row0 = rw0 at hr o2 ⊢
      refine q_asg W7 (EvB.to (e_slT (e_ixB (d := .tuple [nI rw0.st, dO rw0.par, nI rw0.start, nI rw0.len]) List.mem_cons_self (e_ixT (e_var fb) e_cint (d := nI v0) rfl) (atI_map (f := dRow) hr)) (o_some e_cint) o_none (by show ¬ (HT.sIx 4 0 (some 2) = 0 ∧ HT.sIx 4 4 none = 4); decide)) (d1 := .tuple [nI rw0.start, nI rw0.len]) rfl) fun vt B8 H8 e9 W8 ft => ?_
      refine g_tup ft W8.inn rfl fun vs fv => g_cons fv fun vc r fc fr => g_cons fr fun vd r fd fr => g_nil fr ?_
      refine q_ifT W8 (t_to (t_test (e_eqS e_str e_cstr)) (by show decide (("slice" : Str) = "slice") = true; decide +kernel)) fun B9 H9 e10 W9 => ?_
      refine s_par W9 (a_cons (e_addN (e_var fc) (e_ixT (e_var fb) e_cint (d := nI lo) rfl)) (a_cons (e_subN (e_ixT (e_var fb) e_cint (d := nI hj) rfl) (e_ixT (e_var fb) e_cint (d := nI lo) rfl) o2.1) a_nil)) fun vc vd B10 H10 e11 W10 fc fd => ?_
      refine q_ifF W10 (t_to (t_test (e_inS (ns := ["append", "grow"]) e_str (e_tup (a_cons e_cstr (a_cons e_cstr a_nil)) lk))) (by show decide (("slice" : Str) ∈ (["append", "grow"] : List Str)) = false; decide +kernel)) fun B11 H11 e12 W11 => ?_
      refine s_appD W11 (.inl h1) (e_tup (a_cons (e_var fa) (a_cons (e_ixT (e_var fb) e_cint (d := nI v0) rfl) (a_cons (e_var fc) (a_cons (e_var fd) a_nil)))) lk) hlen fun B12 H12 e13 W12 => ?_
      exact ⟨B12, ((e4.trans e5).trans ((((((e6.trans e7).trans e8).trans e9).trans e10).trans e11).trans e12)).trans e13, _, _, _, _, _, rfl, W12⟩
    | clip v0 =>
      refine q_set W4 (e_ixT (e_var fb) e_cint rfl) fun vw B5 H5 e6 W5 fw => ?_
      obtain rfl := fw.str_eq
      refine q_ifF W5 (t_to (t_test (e_eqS e_str e_cstr)) (by show decide (("clip" : Str) = "make") = false; decide +kernel)) fun B6 H6 e7 W6 => ?_
      refine s_ifT W6 (t_to (t_test (e_inS (ns := ["slice", "clip", "append", "grow"]) e_str (e_tup (a_cons e_cstr (a_cons e_cstr (a_cons e_cstr (a_cons e_cstr a_nil)))) lk))) (by show decide (("clip" : Str) ∈ (["slice", "clip", "append", "grow"] : List Str)) = true; decide +kernel)) fun B7 H7 e8 W7 => ?_
      have hv : v0 < (rowsN p i).length := o
      have hr : (rowsN p i)[v0]? = some ((rowsN p i).getD v0 row0) := get_of hv
      have er : rowsN p (i + 1) = rowsN p i ++ [⟨i, some v0, ((rowsN p i).getD v0 row0).start, ((rowsN p i).getD v0 row0).len⟩] := er
      rw [er, List.map_append]
      generalize hrw : (rowsN p i).getD v0 row0 = rw0 at hr ⊢
      refine q_asg W7 (EvB.to (e_slT (e_ixB (d := .tuple [nI rw0.st, dO rw0.par, nI rw0.start, nI rw0.len]) List.mem_cons_self (e_ixT (e_var fb) e_cint (d := nI v0) rfl) (atI_map (f := dRow) hr)) (o_some e_cint) o_none (by show ¬ (HT.sIx 4 0 (some 2) = 0 ∧ HT.sIx 4 4 none = 4); decide)) (d1 := .tuple [nI rw0.start, nI rw0.len]) rfl) fun vt B8 H8 e9 W8 ft => ?_
      refine g_tup ft W8.inn rfl fun vs fv => g_cons fv fun vc r fc fr => g_cons fr fun vd r fd fr => g_nil fr ?_
      refine q_ifF W8 (t_to (t_test (e_eqS e_str e_cstr)) (by show decide (("clip" : Str) = "slice") = false; decide +kernel)) fun B9 H9 e10 W9 => ?_
      refine q_ifF W9 (t_to (t_test (e_inS (ns := ["append", "grow"]) e_str (e_tup (a_cons e_cstr (a_cons e_cstr a_nil)) lk))) (by show decide (("clip" : Str) ∈ (["append", "grow"] : List Str)) = false; decide +kernel)) fun B11 H11 e12 W11 => ?_
      refine s_appD W11 (.inl h1) (e_tup (a_cons (e_var fa) (a_cons (e_ixT (e_var fb) e_cint (d := nI v0) rfl) (a_cons (e_var fc) (a_cons (e_var fd) a_nil)))) lk) hlen fun B12 H12 e13 W12 => ?_
      exact ⟨B12, ((e4.trans e5).trans ((((((e6.trans e7).trans e8).trans e9).trans e10)).trans e12)).trans e13, _, _, _, _, _, rfl, W12⟩
    | app g v0 xs =>
      cases g with
      | false =>
        refine q_set W4 (e_ixT (e_var fb) e_cint rfl) fun vw B5 H5 e6 W5 fw => ?_
        obtain rfl := fw.str_eq
        refine q_ifF W5 (t_to (t_test (e_eqS e_str e_cstr)) (by show decide (("append" : Str) = "make") = false; decide +kernel)) fun B6 H6 e7 W6 => ?_
        refine s_ifT W6 (t_to (t_test (e_inS (ns := ["slice", "clip", "append", "grow"]) e_str (e_tup (a_cons e_cstr (a_cons e_cstr (a_cons e_cstr (a_cons e_cstr a_nil)))) lk))) (by show decide (("append" : Str) ∈ (["slice", "clip", "append", "grow"] : List Str)) = true; decide +kernel)) fun B7 H7 e8 W7 => ?_
        have hv : v0 < (rowsN p i).length := o.1
        have hr : (rowsN p i)[v0]? = some ((rowsN p i).getD v0 row0) := get_of hv
        have er : rowsN p (i + 1) = rowsN p i ++ [⟨i, some v0, ((rowsN p i).getD v0 row0).start, ((rowsN p i).getD v0 row0).len + xs.length⟩] := er
        rw [er, List.map_append]
        generalize hrw : (rowsN p i).getD v0 row0 = rw0 at hr ⊢
        refine q_asg W7 (EvB.to (e_slT (e_ixB (d := .tuple [nI rw0.st, dO rw0.par, nI rw0.start, nI rw0.len]) List.mem_cons_self (e_ixT (e_var fb) e_cint (d := nI v0) rfl) (atI_map (f := dRow) hr)) (o_some e_cint) o_none (by show ¬ (HT.sIx 4 0 (some 2) = 0 ∧ HT.sIx 4 4 none = 4); decide)) (d1 := .tuple [nI rw0.start, nI rw0.len]) rfl) fun vt B8 H8 e9 W8 ft => ?_
        refine g_tup ft W8.inn rfl fun vs fv => g_cons fv fun vc r fc fr => g_cons fr fun vd r fd fr => g_nil fr ?_
        refine q_ifF W8 (t_to (t_test (e_eqS e_str e_cstr)) (by show decide (("append" : Str) = "slice") = false; decide +kernel)) fun B9 H9 e10 W9 => ?_
        refine q_ifT W9 (t_to (t_test (e_inS (ns := ["append", "grow"]) e_str (e_tup (a_cons e_cstr (a_cons e_cstr a_nil)) lk))) (by show decide (("append" : Str) ∈ (["append", "grow"] : List Str)) = true; decide +kernel)) fun B10 H10 e11 W10 => ?_
        refine s_set W10 (EvB.to (d1 := nI (rw0.len + xs.length)) (e_addN (e_var fd) (e_lenT (a_cons (e_ixT (e_var fb) e_cint rfl) a_nil))) (by rw [List.length_map])) fun vd B11 H11 e12 W11 fd => ?_
        refine s_appD W11 (.inl h1) (e_tup (a_cons (e_var fa) (a_cons (e_ixT (e_var fb) e_cint (d := nI v0) rfl) (a_cons (e_var fc) (a_cons (e_var fd) a_nil)))) lk) hlen fun B12 H12 e13 W12 => ?_
        exact ⟨B12, ((e4.trans e5).trans ((((((e6.trans e7).trans e8).trans e9).trans e10).trans e11).trans e12)).trans e13, _, _, _, _, _, rfl, W12⟩
      | true =>
        refine q_set W4 (e_ixT (e_var fb) e_cint rfl) fun vw B5 H5 e6 W5 fw => ?_
        obtain rfl := fw.str_eq
        refine q_ifF W5 (t_to (t_test (e_eqS e_str e_cstr)) (by show decide (("grow" : Str) = "make") = false; decide +kernel)) fun B6 H6 e7 W6 => ?_
        refine s_ifT W6 (t_to (t_test (e_inS (ns := ["slice", "clip", "append", "grow"]) e_str (e_tup (a_cons e_cstr (a_cons e_cstr (a_cons e_cstr (a_cons e_cstr a_nil)))) lk))) (by show decide (("grow" : Str) ∈ (["slice", "clip", "append", "grow"] : List Str)) = true; decide +kernel)) fun B7 H7 e8 W7 => ?_
        have hv : v0 < (rowsN p i).length := o.1
        have hr : (rowsN p i)[v0]? = some ((rowsN p i).getD v0 row0) := get_of hv
        have er : rowsN p (i + 1) = rowsN p i ++ [⟨i, some v0, ((rowsN p i).getD v0 row0).start, ((rowsN p i).getD v0 row0).len + xs.length⟩] := er
        rw [er, List.map_append]
        generalize hrw : (rowsN p i).getD v0 row0 = rw0 at hr ⊢
        refine q_asg W7 (EvB.to (e_slT (e_ixB (d := .tuple [nI rw0.st, dO rw0.par, nI rw0.start, nI rw0.len]) List.mem_cons_self (e_ixT (e_var fb) e_cint (d := nI v0) rfl) (atI_map (f := dRow) hr)) (o_some e_cint) o_none (by show ¬ (HT.sIx 4 0 (some 2) = 0 ∧ HT.sIx 4 4 none = 4); decide)) (d1 := .tuple [nI rw0.start, nI rw0.len]) rfl) fun vt B8 H8 e9 W8 ft => ?_
        refine g_tup ft W8.inn rfl fun vs fv => g_cons fv fun vc r fc fr => g_cons fr fun vd r fd fr => g_nil fr ?_
        refine q_ifF W8 (t_to (t_test (e_eqS e_str e_cstr)) (by show decide (("grow" : Str) = "slice") = false; decide +kernel)) fun B9 H9 e10 W9 => ?_
        refine q_ifT W9 (t_to (t_test (e_inS (ns := ["append", "grow"]) e_str (e_tup (a_cons e_cstr (a_cons e_cstr a_nil)) lk))) (by show decide (("grow" : Str) ∈ (["append", "grow"] : List Str)) = true; decide +kernel)) fun B10 H10 e11 W10 => ?_
        refine s_set W10 (EvB.to (d1 := nI (rw0.len + xs.length)) (e_addN (e_var fd) (e_lenT (a_cons (e_ixT (e_var fb) e_cint rfl) a_nil))) (by rw [List.length_map])) fun vd B11 H11 e12 W11 fd => ?_
        refine s_appD W11 (.inl h1) (e_tup (a_cons (e_var fa) (a_cons (e_ixT (e_var fb) e_cint (d := nI v0) rfl) (a_cons (e_var fc) (a_cons (e_var fd) a_nil)))) lk) hlen fun B12 H12 e13 W12 => ?_
        exact ⟨B12, ((e4.trans e5).trans ((((((e6.trans e7).trans e8).trans e9).trans e10).trans e11).trans e12)).trans e13, _, _, _, _, _, rfl, W12⟩
    | write v0 i0 x0 =>
      refine q_set W4 (e_ixT (e_var fb) e_cint rfl) fun vw B5 H5 e6 W5 fw => ?_
      obtain rfl := fw.str_eq
      refine q_ifF W5 (t_to (t_test (e_eqS e_str e_cstr)) (by show decide (("write" : Str) = "make") = false; decide +kernel)) fun B6 H6 e7 W6 => ?_
      refine s_ifF W6 (t_to (t_test (e_inS (ns := ["slice", "clip", "append", "grow"]) e_str (e_tup (a_cons e_cstr (a_cons e_cstr (a_cons e_cstr (a_cons e_cstr a_nil)))) lk))) (by show decide (("write" : Str) ∈ (["slice", "clip", "append", "grow"] : List Str)) = false; decide +kernel)) fun B7 H7 e8 W7 => ?_
      refine ⟨B7, (((e4.trans e5).trans e6).trans e7).trans e8, _, _, _, _, _, rfl, ?_⟩
      rw [er]
      exact (List.append_nil (rowsN p i)).symm ▸ W7
    | move v0 i0 u0 z =>
      refine q_set W4 (e_ixT (e_var fb) e_cint rfl) fun vw B5 H5 e6 W5 fw => ?_
      obtain rfl := fw.str_eq
      refine q_ifF W5 (t_to (t_test (e_eqS e_str e_cstr)) (by show decide (("move" : Str) = "make") = false; decide +kernel)) fun B6 H6 e7 W6 => ?_
      refine s_ifF W6 (t_to (t_test (e_inS (ns := ["slice", "clip", "append", "grow"]) e_str (e_tup (a_cons e_cstr (a_cons e_cstr (a_cons e_cstr (a_cons e_cstr a_nil)))) lk))) (by show decide (("move" : Str) ∈ (["slice", "clip", "append", "grow"] : List Str)) = false; decide +kernel)) fun B7 H7 e8 W7 => ?_
      refine ⟨B7, (((e4.trans e5).trans e6).trans e7).trans e8, _, _, _, _, _, rfl, ?_⟩
      rw [er]
      exact (List.append_nil (rowsN p i)).symm ▸ W7
    | read v0 i0 =>
      refine q_set W4 (e_ixT (e_var fb) e_cint rfl) fun vw B5 H5 e6 W5 fw => ?_
      obtain rfl := fw.str_eq
      refine q_ifF W5 (t_to (t_test (e_eqS e_str e_cstr)) (by show decide (("read" : Str) = "make") = false; decide +kernel)) fun B6 H6 e7 W6 => ?_
      refine s_ifF W6 (t_to (t_test (e_inS (ns := ["slice", "clip", "append", "grow"]) e_str (e_tup (a_cons e_cstr (a_cons e_cstr (a_cons e_cstr (a_cons e_cstr a_nil)))) lk))) (by show decide (("read" : Str) ∈ (["slice", "clip", "append", "grow"] : List Str)) = false; decide +kernel)) fun B7 H7 e8 W7 => ?_
      refine ⟨B7, (((e4.trans e5).trans e6).trans e7).trans e8, _, _, _, _, _, rfl, ?_⟩
      rw [er]
      exact (List.append_nil (rowsN p i)).symm ▸ W7
  · rintro σ' B3 H3 e3 ⟨xa, xb, xc, xd, xe, rfl, W3⟩
    rw [List.length_map] at W3
    exact s_retP W3 h1 rfl q rfl
theorem cl_law_looks (d : Df K mg "_law_looks" s_law_looks) (T : Tx K mg)  : Cl P w K mg base 1 "_law_looks" (sp_law_looks K) [] := by
  refine cl_of d sc_law_looks (fun f fd F => F.bindsN fun _ _ _ _ _ _ us hl => match us, hl with | [_, _], _ => rfl) (SpN.len fun _ => rfl) fun cdv f A outer s H vs Q E hr h => ?_
  have hu := hu_of hr
  refine ⟨_, (pss_cons (ps_set (i := 2) sc_law_looks.nd rfl (Or.inl rfl) (pe_lst pa_nil))
      (pss_cons (ps_for PassesOwn.never rfl (pi_enumT (by rfl) T.enumerate (pa_cons (pv 0) pa_nil)) (pgTup (n := 2) K (pgs_cons (pg_name (i := 3) sc_law_looks.nd rfl (Or.inl rfl)) (pgs_cons (pg_name (i := 4) sc_law_looks.nd rfl (Or.inl rfl)) pgs_nil))) (pss_cons (ps_if (pt_cmpR op_eq (pe_ix (ixT K) (pv 4) pe_int (fun _ _ => rfl)) pe_str (nomark _)) (pss_one (ps_expr (pe_bm PySem.F.plainAttrs_list PySem.F.slot_list_append PySem.F.type_list_append mt_append (pv 2) (pa_cons (pe_tup (pa_cons (pv 3) (pa_cons (pe_ix (ixT K) (pv 4) pe_int (fun _ _ => rfl)) (pa_cons (pe_op op_add (pe_ix (ixT K) (pe_ix (ixL K) (pv 1) (pe_ix (ixT K) (pv 4) pe_int (fun _ _ => rfl)) (fun _ _ => rfl)) pe_int (fun _ _ => rfl)) (pe_ix (ixT K) (pv 4) pe_int (fun _ _ => rfl))) pa_nil)))) pa_nil)))) pss_nil)
      (pss_one (ps_if (pt_cmpR op_eq (pe_ix (ixT K) (pv 4) pe_int (fun _ _ => rfl)) pe_str (nomark _)) (pss_one (ps_expr (pe_bm PySem.F.plainAttrs_list PySem.F.slot_list_append PySem.F.type_list_append mt_append (pv 2) (pa_cons (pe_tup (pa_cons (pv 3) (pa_cons (pe_ix (ixT K) (pv 4) pe_int (fun _ _ => rfl)) (pa_cons (pe_op op_add (pe_ix (ixT K) (pe_ix (ixL K) (pv 1) (pe_ix (ixT K) (pv 4) pe_int (fun _ _ => rfl)) (fun _ _ => rfl)) pe_int (fun _ _ => rfl)) (pe_ix (ixT K) (pv 4) pe_int (fun _ _ => rfl))) pa_nil)))) pa_nil)))) pss_nil))))
      (pss_one (ps_ret (pv 2))))), ?_⟩
  obtain ⟨B, p, e0, dl, pre, q⟩ := h
  have W := Wd.start (K := K) e0
  obtain ⟨v1, r1, rfl, f1, dl⟩ := dl.cons_inv
  obtain ⟨v2, r2, rfl, f2, dl⟩ := dl.cons_inv
  cases dl
  have pg : PgOk p := pre
  have f1 : Da K B v1 (.tuple (p.map dStm)) := f1
  have f2 : Da K B v2 (.list ((rows p).map dRow)) := f2
  have hpl := pg.len
  refine q_setN W (l_lst a_nil lk) fun p1 ds B1 H1 e1 h1 W1 hd => ?_
  subst hd
  refine q_for W1 (i_enumT (a_cons (e_var f1) a_nil)) (fun i σ B' H' => ∃ a b, σ = [some v1, some v2, some (.ref p1), a, b] ∧ Wd K ⟨B, H, []⟩ none [(p1, .l ((readsN p i).map fun q => dRead (q.1, q.2.1, vstart p q.2.1 + q.2.2)))] B' H')
    (fun B3 H3 e3 W3 => ⟨_, _, rfl, W3⟩) (fun i σ' B' H' iv => by obtain ⟨_, _, _, h⟩ := iv; exact h.inn) ?_ ?_
  · rintro i x σ' B0 B3 H3 B4 H4 hi e3 e4 ⟨xa, xb, rfl, W3⟩ e5 up fx
    have W4 := up _ _ W3
    obtain ⟨st, hst, e⟩ := turn_stm hi
    have fx : Da K B4 x (.tuple [nI i, dStm st]) := by rw [← e]; exact fx
    have hl : i < p.length := (List.getElem?_eq_some_iff.mp hst).1
    have o := pg.ok i st hst
    have hlen : ((readsN p i).map fun q => dRead (q.1, q.2.1, vstart p q.2.1 + q.2.2)).length < 100000 := by rw [List.length_map]; have := readsN_len p i; omega
    refine g_tup fx W4.inn rfl fun vs fv => g_cons fv fun va r fa fr => g_cons fr fun vb r fb fr => g_nil fr ?_
    cases st with
    | make l c =>
      refine q_ifF W4 (t_to (t_test (e_eqS (e_ixT (e_var fb) e_cint rfl) e_cstr)) (by show decide (("make" : Str) = "read") = false; decide +kernel)) fun B5 H5 e6 W5 => ?_
      refine s_ifF W5 (t_to (t_test (e_eqS (e_ixT (e_var fb) e_cint rfl) e_cstr)) (by show decide (("make" : Str) = "move") = false; decide +kernel)) fun B6 H6 e7 W6 => ?_
      refine ⟨B6, ((e4.trans e5).trans e6).trans e7, _, _, rfl, ?_⟩
      rw [readsN_none (by intro v i z; rw [hst] at z; cases z) (by intro v i w q z; rw [hst] at z; cases z)]
      exact W6
    | slice v0 lo hi =>
      refine q_ifF W4 (t_to (t_test (e_eqS (e_ixT (e_var fb) e_cint rfl) e_cstr)) (by show decide (("slice" : Str) = "read") = false; decide +kernel)) fun B5 H5 e6 W5 => ?_
      refine s_ifF W5 (t_to (t_test (e_eqS (e_ixT (e_var fb) e_cint rfl) e_cstr)) (by show decide (("slice" : Str) = "move") = false; decide +kernel)) fun B6 H6 e7 W6 => ?_
      refine ⟨B6, ((e4.trans e5).trans e6).trans e7, _, _, rfl, ?_⟩
      rw [readsN_none (by intro v i z; rw [hst] at z; cases z) (by intro v i w q z; rw [hst] at z; cases z)]
      exact W6
    | clip v0 =>
      refine q_ifF W4 (t_to (t_test (e_eqS (e_ixT (e_var fb) e_cint rfl) e_cstr)) (by show decide (("clip" : Str) = "read") = false; decide +kernel)) fun B5 H5 e6 W5 => ?_
      refine s_ifF W5 (t_to (t_test (e_eqS (e_ixT (e_var fb) e_cint rfl) e_cstr)) (by show decide (("clip" : Str) = "move") = false; decide +kernel)) fun B6 H6 e7 W6 => ?_
      refine ⟨B6, ((e4.trans e5).trans e6).trans e7, _, _, rfl, ?_⟩
      rw [readsN_none (by intro v i z; rw [hst] at z; cases z) (by intro v i w q z; rw [hst] at z; cases z)]
      exact W6
    | app g v0 xs =>
      cases g with
      | false =>
        refine q_ifF W4 (t_to (t_test (e_eqS (e_ixT (e_var fb) e_cint rfl) e_cstr)) (by show decide (("append" : Str) = "read") = false; decide +kernel)) fun B5 H5 e6 W5 => ?_
        refine s_ifF W5 (t_to (t_test (e_eqS (e_ixT (e_var fb) e_cint rfl) e_cstr)) (by show decide (("append" : Str) = "move") = false; decide +kernel)) fun B6 H6 e7 W6 => ?_
        refine ⟨B6, ((e4.trans e5).trans e6).trans e7, _, _, rfl, ?_⟩
        rw [readsN_none (by intro v i z; rw [hst] at z; cases z) (by intro v i w q z; rw [hst] at z; cases z)]
        exact W6
      | true =>
        refine q_ifF W4 (t_to (t_test (e_eqS (e_ixT (e_var fb) e_cint rfl) e_cstr)) (by show decide (("grow" : Str) = "read") = false; decide +kernel)) fun B5 H5 e6 W5 => ?_
        refine s_ifF W5 (t_to (t_test (e_eqS (e_ixT (e_var fb) e_cint rfl) e_cstr)) (by show decide (("grow" : Str) = "move") = false; decide +kernel)) fun B6 H6 e7 W6 => ?_
        refine ⟨B6, ((e4.trans e5).trans e6).trans e7, _, _, rfl, ?_⟩
        rw [readsN_none (by intro v i z; rw [hst] at z; cases z) (by intro v i w q z; rw [hst] at z; cases z)]
        exact W6
    | write v0 i0 x0 =>
      refine q_ifF W4 (t_to (t_test (e_eqS (e_ixT (e_var fb) e_cint rfl) e_cstr)) (by show decide (("write" : Str) = "read") = false; decide +kernel)) fun B5 H5 e6 W5 => ?_
      refine s_ifF W5 (t_to (t_test (e_eqS (e_ixT (e_var fb) e_cint rfl) e_cstr)) (by show decide (("write" : Str) = "move") = false; decide +kernel)) fun B6 H6 e7 W6 => ?_
      refine ⟨B6, ((e4.trans e5).trans e6).trans e7, _, _, rfl, ?_⟩
      rw [readsN_none (by intro v i z; rw [hst] at z; cases z) (by intro v i w q z; rw [hst] at z; cases z)]
      exact W6
    | move v0 i0 u0 z =>
      refine q_ifF W4 (t_to (t_test (e_eqS (e_ixT (e_var fb) e_cint rfl) e_cstr)) (by show decide (("move" : Str) = "read") = false; decide +kernel)) fun B5 H5 e6 W5 => ?_
      have hv : u0 < nv p := seen_lt (by omega) o.2.1
      have er : readsN p (i + 1) = readsN p i ++ [(i, u0, z)] := by show (match p[i]? with | some (.read v i0) => readsN p i ++ [(i, v, i0)] | some (.move _ _ w q) => readsN p i ++ [(i, w, q)] | _ => readsN p i) = _; rw [hst]
      refine s_ifT W5 (t_to (t_test (e_eqS (e_ixT (e_var fb) e_cint rfl) e_cstr)) (by show decide (("move" : Str) = "move") = true; decide +kernel)) fun B6 H6 e7 W6 => ?_
      refine s_appD W6 (.inl h1) (e_tup (a_cons (e_var fa) (a_cons (e_ixT (e_var fb) e_cint (d := nI u0) rfl) (a_cons (e_addN (e_ixT (e_atL (f := dRow) (e_var f2) (e_ixT (e_var fb) e_cint (d := nI u0) rfl) (row_at hv)) e_cint (d := nI (vstart p u0)) rfl) (e_ixT (e_var fb) e_cint (d := nI z) rfl)) a_nil))) lk) hlen fun B7 H7 e8 W7 => ?_
      refine ⟨B7, (((e4.trans e5).trans e6).trans e7).trans e8, _, _, rfl, ?_⟩
      rw [er, List.map_append]
      exact W7
    | read v0 i0 =>
      have hv : v0 < nv p := seen_lt (by omega) o.1
      have er : readsN p (i + 1) = readsN p i ++ [(i, v0, i0)] := by show (match p[i]? with | some (.read v i0) => readsN p i ++ [(i, v, i0)] | some (.move _ _ w q) => readsN p i ++ [(i, w, q)] | _ => readsN p i) = _; rw [hst]
      refine q_ifT W4 (t_to (t_test (e_eqS (e_ixT (e_var fb) e_cint rfl) e_cstr)) (by show decide (("read" : Str) = "read") = true; decide +kernel)) fun B5 H5 e6 W5 => ?_
      refine s_appD W5 (.inl h1) (e_tup (a_cons (e_var fa) (a_cons (e_ixT (e_var fb) e_cint (d := nI v0) rfl) (a_cons (e_addN (e_ixT (e_atL (f := dRow) (e_var f2) (e_ixT (e_var fb) e_cint (d := nI v0) rfl) (row_at hv)) e_cint (d := nI (vstart p v0)) rfl) (e_ixT (e_var fb) e_cint (d := nI i0) rfl)) a_nil))) lk) hlen fun B6 H6 e7 W6 => ?_
      refine s_ifF W6 (t_to (t_test (e_eqS (e_ixT (e_var fb) e_cint rfl) e_cstr)) (by show decide (("read" : Str) = "move") = false; decide +kernel)) fun B7 H7 e8 W7 => ?_
      refine ⟨B7, (((e4.trans e5).trans e6).trans e7).trans e8, _, _, rfl, ?_⟩
      rw [er, List.map_append]
      exact W7
  · rintro σ' B3 H3 e3 ⟨xa, xb, rfl, W3⟩
    rw [List.length_map] at W3
    exact s_retP W3 h1 rfl q rfl
theorem cl_law_way (d : Df K mg "_law_way" s_law_way) (T : Tx K mg)  : Cl P w K mg base 1 "_law_way" (sp_law_way K) [] := by
  refine cl_of d sc_law_way (fun f fd F => F.bindsN fun _ _ _ _ _ _ us hl => match us, hl with | [_, _], _ => rfl) (SpB.len fun _ => rfl) fun cdv f A outer s H vs Q E hr h => ?_
  have hu := hu_of hr
  refine ⟨_, (pss_cons (ps_set (i := 2) sc_law_way.nd rfl (Or.inl rfl) (pe_lst pa_nil))
      (pss_cons (ps_while PassesOwn.never (pt_cmpR op_notN (pv 1) pe_non (nomark _)) (pss_cons (ps_set (i := 2) sc_law_way.nd rfl (Or.inl rfl) (pe_op op_cat (pe_lst (pa_cons (pv 1) pa_nil)) (pv 2)))
      (pss_one (ps_set (i := 1) sc_law_way.nd rfl (Or.inl rfl) (pe_ix (ixT K) (pe_ix (ixL K) (pv 0) (pv 1) (fun _ _ => rfl)) pe_int (fun _ _ => rfl))))))
      (pss_one (ps_ret (pv 2))))), ?_⟩
  obtain ⟨B, ⟨p, v0⟩, e0, dl, pre, q⟩ := h
  have W := Wd.start (K := K) e0
  obtain ⟨v1, r1, rfl, f1, dl⟩ := dl.cons_inv
  obtain ⟨v2, r2, rfl, f2, dl⟩ := dl.cons_inv
  cases dl
  obtain ⟨pg, hv⟩ := pre
  have pg : PgOk p := pg
  have hv : v0 < nv p := hv
  have f1 : Da K B v1 (.list ((rows p).map dRow)) := f1
  have f2 : Da K B v2 (nI v0) := f2
  have q : RD K B H (dNats (vanc p v0)) Q := q
  refine q_set W (EvN.data (l_lst a_nil lk)) fun vf B1 H1 e1 W1 ff => ?_
  refine q_while W1 (fun m σ B' H' => ∃ (vw vf : V) (o : Option Nat) (acc : List Nat), σ = [some v1, some vw, some vf] ∧ Da K B' vw (dO o) ∧ Da K B' vf (.list (acc.map nI)) ∧ Wd K ⟨B, H, []⟩ none [] B' H' ∧ m = (match o with | none => 0 | some u => u + 1) ∧
      (match o with | none => [] | some u => vanc p u) ++ acc = vanc p v0 ∧ (∀ u, o = some u → u < nv p ∧ acc.length + u ≤ v0) ∧ acc.length ≤ v0 + 1) (m0 := v0 + 1)
    ⟨v2, vf, some v0, [], rfl, f2.mono e1, ff, W1, rfl, by rw [List.append_nil], fun u hu => by cases hu; exact ⟨hv, Nat.le_of_eq (Nat.zero_add _)⟩, Nat.zero_le _⟩ ?_
  rintro m σ' B2 H2 e2 ⟨vw, vf, o, acc, rfl, fw, ff, W2, hm, hpa, ho, hal⟩
  have hnv := pg.nv
  refine ⟨none, _, !isN (dO o), W2, t_test (e_opNotN (e_var fw)), fun hb B3 H3 e3 W3 => ?_, fun hb B3 H3 e3 W3 => ?_⟩
  · cases o with
    | none => cases hb
    | some u =>
      obtain ⟨hu, hacc⟩ := ho u rfl
      have fw : Da K B2 vw (nI u) := fw
      refine q_set W3 (EvN.data (l_cat (EvN.data (l_lst (a_cons (e_var fw) a_nil) lk)) (e_var ff) (by rw [List.length_map]; show 1 + _ ≤ _; omega))) fun vf2 B4 H4 e4 W4 ff2 => ?_
      have er : (rows p)[u]? = some ((rows p).getD u row0) := row_at hu
      refine s_set W4 (e_ixT (e_atL (f := dRow) (e_var f1) (e_var fw) er) e_cint (d := dO (vpar p u)) rfl) fun v B5 H5 e5 W5 fv => ?_
      have hp : vanc p u = (match vpar p u with | none => [] | some j => vanc p j) ++ [u] := by
        cases hpu : vpar p u with
        | none => exact anc_none hpu
        | some j => exact anc_some hpu (vplt pg.ok hpu)
      refine ⟨_, B5, ?_, ((e2.trans e3).trans e4).trans e5, v, vf2, vpar p u, u :: acc, rfl, fv, ff2.mono e5, W5, rfl, ?_, fun j hj => ?_, ?_⟩
      · rw [hm]
        cases hpu : vpar p u with
        | none => exact Nat.succ_pos _
        | some j =>
          have := vplt pg.ok hpu
          show j + 1 < u + 1
          omega
      · rw [← hpa]
        show _ ++ (u :: acc) = vanc p u ++ acc
        rw [hp, List.append_assoc]
        rfl
      · have := vplt pg.ok hj
        rw [List.length_cons]
        omega
      · rw [List.length_cons]
        omega
  · cases o with
    | some u => cases hb
    | none =>
      have hpa : acc = vanc p v0 := hpa
      rw [hpa] at ff
      exact s_ret W3 (e_var ff) rfl q
end GB
namespace GB
open PySem PySem.Spec PyProof.Rows L2
open Evl (Ex)
variable {P : Program} {w : World} {K : PySem.W.Frag} {mg : Str → Option Value} {base : Heap}

/-! law_chosen, law_writes, law_writers -/
theorem cl_law_chosen (d : Df K mg "_law_chosen" s_law_chosen) (T : Tx K mg)  : Cl P w K mg base 1 "_law_chosen" (sp_law_chosen K) [] := by
  refine cl_of d sc_law_chosen (fun f fd F => F.bindsN fun _ _ _ _ _ _ us hl => match us, hl with | [_, _, _], _ => rfl) (SpB.len fun _ => rfl) fun cdv f A outer s H vs Q E hr h => ?_
  have hu := hu_of hr
  refine ⟨_, (pss_cons (ps_if (pt_cmpR op_eq (pe_ix (ixT K) (pv 0) pe_int (fun _ _ => rfl)) pe_str (nomark _)) (pss_one (ps_ret pe_non)) pss_nil)
      (pss_cons (ps_if (pt_cmpR op_eq (pe_ix (ixT K) (pv 0) pe_int (fun _ _ => rfl)) pe_str (nomark _)) (pss_one (ps_ret (pe_callB (cr_max (by rfl)) (by rfl) T.max (by decide +kernel) (pa_cons (pe_op op_cat (pe_lst (pa_cons (pv 2) pa_nil)) (pe_lc (own := [("_law_entry", 3)]) (by rfl) sc_law_chosen.nd (pi_tup (pe_ix (ixT K) (pv 0) pe_int (fun _ _ => rfl))) (blkOk_by (own := [("_law_entry", 3)]) (N := N_law_chosen) (sc := defScope s_law_chosen) (by decide +kernel)) (fun _ _ _ _ _ => (pg_name (i := 3) sc_law_chosen.nd rfl (Or.inl rfl))) (fun _ _ _ _ _ => (pts_one (pt_cmpR op_eq (pe_ix (ixT K) (pv 3) pe_int (fun _ _ => rfl)) (pv 1) (nomark _)))) (fun _ _ _ _ _ => (pe_ix (ixT K) (pv 3) pe_int (fun _ _ => rfl))))) pa_nil)))) pss_nil)
      (pss_cons (ps_if (pt_cmpR op_eq (pe_ix (ixT K) (pv 0) pe_int (fun _ _ => rfl)) pe_str (nomark _)) (pss_one (ps_ret (pe_op op_add (pv 2) (pe_ix (ixT K) (pv 0) pe_int (fun _ _ => rfl))))) pss_nil)
      (pss_cons (ps_if (pt_cmpR op_eq (pe_ix (ixT K) (pv 0) pe_int (fun _ _ => rfl)) pe_str (nomark _)) (pss_one (ps_ret (pe_op op_fdivW (pe_op op_sub (pe_op op_add (pe_op op_mul (pv 2) (pe_ix (ixT K) (pv 0) pe_int (fun _ _ => rfl))) (pe_ix (ixT K) (pv 0) pe_int (fun _ _ => rfl))) pe_int) (pe_ix (ixT K) (pv 0) pe_int (fun _ _ => rfl))))) pss_nil)
      (pss_one (ps_ret (pv 2))))))), ?_⟩
  obtain ⟨B, ⟨ru, st, nd⟩, e0, dl, pre, q⟩ := h
  have W := Wd.start (K := K) e0
  obtain ⟨v1, r1, rfl, f1, dl⟩ := dl.cons_inv
  obtain ⟨v2, r2, rfl, f2, dl⟩ := dl.cons_inv
  obtain ⟨v3, r3, rfl, f3, dl⟩ := dl.cons_inv
  cases dl
  obtain ⟨rok, hnd⟩ := pre
  have f2 : Da K B v2 (nI st) := f2
  have f3 : Da K B v3 (nI nd) := f3
  have hnd : nd ≤ 100000 := hnd
  cases ru with
  | exact  =>
    refine q_ifF W (t_to (t_test (e_eqS (e_ixT (e_var f1) e_cint rfl) e_cstr)) (by show decide (("exact" : Str) = "endless") = false; decide +kernel)) fun B1 H1 e1 W1 => ?_
    refine q_ifF W1 (t_to (t_test (e_eqS (e_ixT (e_var f1) e_cint rfl) e_cstr)) (by show decide (("exact" : Str) = "table") = false; decide +kernel)) fun B2 H2 e2 W2 => ?_
    refine q_ifF W2 (t_to (t_test (e_eqS (e_ixT (e_var f1) e_cint rfl) e_cstr)) (by show decide (("exact" : Str) = "step") = false; decide +kernel)) fun B3 H3 e3 W3 => ?_
    refine q_ifF W3 (t_to (t_test (e_eqS (e_ixT (e_var f1) e_cint rfl) e_cstr)) (by show decide (("exact" : Str) = "factor") = false; decide +kernel)) fun B4 H4 e4 W4 => ?_
    exact s_ret W4 (e_var f3) rfl q
  | endless  =>
    refine q_ifT W (t_to (t_test (e_eqS (e_ixT (e_var f1) e_cint rfl) e_cstr)) (by show decide (("endless" : Str) = "endless") = true; decide +kernel)) fun B1 H1 e1 W1 => ?_
    exact s_ret W1 e_cnon rfl q
  | step k =>
    refine q_ifF W (t_to (t_test (e_eqS (e_ixT (e_var f1) e_cint rfl) e_cstr)) (by show decide (("step" : Str) = "endless") = false; decide +kernel)) fun B1 H1 e1 W1 => ?_
    refine q_ifF W1 (t_to (t_test (e_eqS (e_ixT (e_var f1) e_cint rfl) e_cstr)) (by show decide (("step" : Str) = "table") = false; decide +kernel)) fun B2 H2 e2 W2 => ?_
    refine q_ifT W2 (t_to (t_test (e_eqS (e_ixT (e_var f1) e_cint rfl) e_cstr)) (by show decide (("step" : Str) = "step") = true; decide +kernel)) fun B3 H3 e3 W3 => ?_
    exact s_ret W3 (e_addN (e_var f3) (e_ixT (e_var f1) e_cint rfl)) rfl q
  | factor a b =>
    refine q_ifF W (t_to (t_test (e_eqS (e_ixT (e_var f1) e_cint rfl) e_cstr)) (by show decide (("factor" : Str) = "endless") = false; decide +kernel)) fun B1 H1 e1 W1 => ?_
    refine q_ifF W1 (t_to (t_test (e_eqS (e_ixT (e_var f1) e_cint rfl) e_cstr)) (by show decide (("factor" : Str) = "table") = false; decide +kernel)) fun B2 H2 e2 W2 => ?_
    refine q_ifF W2 (t_to (t_test (e_eqS (e_ixT (e_var f1) e_cint rfl) e_cstr)) (by show decide (("factor" : Str) = "step") = false; decide +kernel)) fun B3 H3 e3 W3 => ?_
    refine q_ifT W3 (t_to (t_test (e_eqS (e_ixT (e_var f1) e_cint rfl) e_cstr)) (by show decide (("factor" : Str) = "factor") = true; decide +kernel)) fun B4 H4 e4 W4 => ?_
    obtain ⟨b1, b2, b3⟩ := rok
    refine s_ret W4 (e_iiC (e_ii (e_ii (e_iiC (e_var f3) (e_ixT (e_var f1) e_cint rfl) (.inl ⟨by omega, by omega⟩)) (e_ixT (e_var f1) e_cint rfl)) e_cint) (e_ixT (e_var f1) e_cint rfl) (wide_div (j := (b : Int)) (b := 60) (by omega) (by omega) (by decide) (by decide))) rfl ?_
    have e : (((nd : Nat) : Int) * a + b - 1) / b = (((nd * a + b - 1) / b : Nat) : Int) := by rw [Int.natCast_ediv, Int.natCast_sub (by omega)]; push_cast; rfl
    rw [e]
    exact q
  | table t =>
    refine q_ifF W (t_to (t_test (e_eqS (e_ixT (e_var f1) e_cint rfl) e_cstr)) (by show decide (("table" : Str) = "endless") = false; decide +kernel)) fun B1 H1 e1 W1 => ?_
    refine q_ifT W1 (t_to (t_test (e_eqS (e_ixT (e_var f1) e_cint rfl) e_cstr)) (by show decide (("table" : Str) = "table") = true; decide +kernel)) fun B2 H2 e2 W2 => ?_
    have rok : t.length ≤ 1000 := rok
    have f1 : Da K B v1 (.tuple [.str "table", .tuple (t.map dPair)]) := f1
    refine s_ret W2 (e_max (ns := (nd : Int) :: ((t.filter fun e => decide (e.1 = st)).map fun e => (e.2 : Int))) (a_cons (EvB.to (EvN.data (l_cat (EvN.data (l_lst (a_cons (e_var f3) a_nil) lk)) (EvN.data (l_lc (n := (t.map dPair).length) (f := fun i => (t.map dPair).getD i .none) (fun i => decide ((t.getD i (0, 0)).1 = st)) (fun i => nI (t.getD i (0, 0)).2)
      (i_tup (e_ixT (e_var f1) e_cint rfl)) (by rw [List.length_map]; omega) ?_)) ?_)) ?_) a_nil) (tabCap_list t st nd).1 (tabCap_list t st nd).2) rfl q
    · intro i x D acc B5 H5 hi e5 i5 fx R k
      obtain ⟨s, hs, e⟩ := turn_map hi
      have fx : Da K B5 x (.tuple [nI s.1, nI s.2]) := by
        have fx : Da K B5 x ((t.map dPair).getD i .none) := fx
        rw [e] at fx
        exact fx
      refine k _ rfl ?_ fun _ => ?_
      · rw [getD_mem' hs]
        exact t_test (e_eqN (e_ixT (e_var fx) e_cint rfl) (e_var f2))
      · rw [getD_mem' hs]
        exact e_ixT (e_var fx) e_cint rfl
    · have := given_len (t.map dPair).length (fun i => decide ((t.getD i (0, 0)).1 = st)) (fun i => nI (t.getD i (0, 0)).2)
      rw [List.length_map] at this ⊢
      show 1 + _ ≤ _
      omega
    · rw [List.length_map, given_filter t (0, 0) (fun e => decide (e.1 = st)) (fun e => nI e.2), List.map_cons, List.map_map]
      rfl
def wrC (p : Prog) (c : Nat) : Option Wr := (wr p c).map fun x => (c, x)
def wrN (p : Prog) (n : Nat) : List Wr := (List.range n).filterMap (wrC p)
theorem wrN_succ (p : Prog) (n : Nat) : wrN p (n + 1) = wrN p n ++ (wrC p n).toList := by
  unfold wrN
  rw [List.range_succ, List.filterMap_append]
  cases h : wrC p n <;> simp [h]
theorem mem_wrN {p : Prog} {n : Nat} {e : Wr} : e ∈ wrN p n ↔ e.1 < n ∧ wr p e.1 = some e.2 := by
  unfold wrN
  rw [List.mem_filterMap]
  constructor
  · rintro ⟨c, hc, h⟩
    unfold wrC at h
    cases hw : wr p c with
    | none =>
      rw [hw] at h
      cases h
    | some x =>
      rw [hw] at h
      cases h
      exact ⟨List.mem_range.mp hc, hw⟩
  · rintro ⟨h1, h2⟩
    refine ⟨e.1, List.mem_range.mpr h1, ?_⟩
    unfold wrC
    rw [h2]
    rfl
theorem wrN_len (p : Prog) (n : Nat) : (wrN p n).length ≤ n := by
  unfold wrN
  have := List.length_filterMap_le (wrC p) (List.range n)
  rw [List.length_range] at this
  exact this
theorem wrN_keys {p : Prog} {n : Nat} : (wrN p n).Pairwise fun a b => a.1 < b.1 := by
  induction n with
  | zero => exact List.Pairwise.nil
  | succ n ih =>
    rw [wrN_succ]
    refine List.pairwise_append.mpr ⟨ih, by cases wrC p n <;> simp, fun a ha b hb => ?_⟩
    have h1 := (mem_wrN.mp ha).1
    have hb : wrC p n = some b := by simpa using hb
    unfold wrC at hb
    cases hw : wr p n with
    | none =>
      rw [hw] at hb
      cases hb
    | some x =>
      rw [hw] at hb
      cases hb
      exact h1
theorem wrL_all (p : Prog) (ok : Valid p) : WrAll p (wrL p) := ⟨List.pairwise_map.mpr ((wrN_keys (p := p) (n := p.length)).imp fun {a b} z => Nat.ne_of_lt z), fun e => by
  refine (mem_wrN (p := p) (n := p.length)).trans ⟨fun h => h.2, fun h => ⟨?_, h⟩⟩
  exact (wr_view ok h).2.2⟩
theorem cl_law_writes (d : Df K mg "_law_writes" s_law_writes) (T : Tx K mg)  : Cl P w K mg base 1 "_law_writes" (sp_law_writes K) [] := by
  refine cl_of d sc_law_writes (fun f fd F => F.bindsN fun _ _ _ _ _ _ us hl => match us, hl with | [_, _], _ => rfl) (SpN.len fun _ => rfl) fun cdv f A outer s H vs Q E hr h => ?_
  have hu := hu_of hr
  refine ⟨_, (pss_cons (ps_set (i := 2) sc_law_writes.nd rfl (Or.inl rfl) (pe_lst pa_nil))
      (pss_cons (ps_set (i := 3) sc_law_writes.nd rfl (Or.inl rfl) (pe_callTy (call_dictP (by rfl)) (by rfl) T.dict (by decide +kernel) (pa_cons (pe_lc (own := [("_law_view", 10), ("_law_row", 7)]) (by rfl) sc_law_writes.nd (pi_enum (by rfl) T.enumerate (pa_cons (pv 1) pa_nil)) (blkOk_by (own := [("_law_view", 10), ("_law_row", 7)]) (N := N_law_writes) (sc := defScope s_law_writes) (by decide +kernel)) (fun _ _ _ _ _ => (pgTup (n := 2) K (pgs_cons (pg_name (i := 10) sc_law_writes.nd rfl (Or.inl rfl)) (pgs_cons (pg_name (i := 7) sc_law_writes.nd rfl (Or.inl rfl)) pgs_nil)))) (fun _ _ _ _ _ => pts_nil) (fun _ _ _ _ _ => (pe_tup (pa_cons (pe_ix (ixT K) (pv 7) pe_int (fun _ _ => rfl)) (pa_cons (pv 10) pa_nil))))) pa_nil)))
      (pss_cons (ps_for PassesOwn.never rfl (pi_enumT (by rfl) T.enumerate (pa_cons (pv 0) pa_nil)) (pgTup (n := 2) K (pgs_cons (pg_name (i := 4) sc_law_writes.nd rfl (Or.inl rfl)) (pgs_cons (pg_name (i := 5) sc_law_writes.nd rfl (Or.inl rfl)) pgs_nil))) (pss_cons (ps_set (i := 6) sc_law_writes.nd rfl (Or.inl rfl) (pe_ix (ixT K) (pv 5) pe_int (fun _ _ => rfl)))
      (pss_cons (ps_if (pt_cmpR op_eq (pv 6) pe_str (nomark _)) (pss_one (ps_expr (pe_bm PySem.F.plainAttrs_list PySem.F.slot_list_append PySem.F.type_list_append mt_append (pv 2) (pa_cons (pe_tup (pa_cons (pv 4) (pa_cons (pe_dget hu (pv 3) (pv 4) (fun _ _ => rfl)) (pa_cons pe_int (pa_cons (pe_ix (ixT K) (pv 5) pe_int (fun _ _ => rfl)) pa_nil))))) pa_nil)))) pss_nil)
      (pss_cons (ps_if (pt_cmpR (opIn K) (pv 6) (pe_tup (pa_cons pe_str (pa_cons pe_str pa_nil))) (by rfl)) (pss_cons (ps_set (i := 7) sc_law_writes.nd rfl (Or.inl rfl) (pe_ix (ixL K) (pv 1) (pe_dget hu (pv 3) (pv 4) (fun _ _ => rfl)) (fun _ _ => rfl)))
      (pss_cons (ps_set (i := 8) sc_law_writes.nd rfl (Or.inl rfl) (pe_op op_add (pe_ix (ixT K) (pv 7) pe_int (fun _ _ => rfl)) (pe_ix (ixT K) (pv 7) pe_int (fun _ _ => rfl))))
      (pss_one (ps_expr (pe_bm PySem.F.plainAttrs_list PySem.F.slot_list_append PySem.F.type_list_append mt_append (pv 2) (pa_cons (pe_tup (pa_cons (pv 4) (pa_cons (pe_dget hu (pv 3) (pv 4) (fun _ _ => rfl)) (pa_cons (pe_op op_sub (pv 8) (pe_callB call_len_seq (by rfl) T.len PySem.boot_len (pa_cons (pe_ix (ixT K) (pv 5) pe_int (fun _ _ => rfl)) pa_nil))) (pa_cons (pv 8) pa_nil))))) pa_nil)))))) pss_nil)
      (pss_one (ps_if (pt_cmpR (opIn K) (pv 6) (pe_tup (pa_cons pe_str (pa_cons pe_str pa_nil))) (by rfl)) (pss_cons (ps_set (i := 9) sc_law_writes.nd rfl (Or.inl rfl) (pe_op op_add (pe_ix (ixT K) (pe_ix (ixL K) (pv 1) (pe_ix (ixT K) (pv 5) pe_int (fun _ _ => rfl)) (fun _ _ => rfl)) pe_int (fun _ _ => rfl)) (pe_ix (ixT K) (pv 5) pe_int (fun _ _ => rfl))))
      (pss_one (ps_expr (pe_bm PySem.F.plainAttrs_list PySem.F.slot_list_append PySem.F.type_list_append mt_append (pv 2) (pa_cons (pe_tup (pa_cons (pv 4) (pa_cons (pe_ix (ixT K) (pv 5) pe_int (fun _ _ => rfl)) (pa_cons (pv 9) (pa_cons (pe_op op_add (pv 9) pe_int) pa_nil))))) pa_nil))))) pss_nil))))))
      (pss_one (ps_ret (pv 2)))))), ?_⟩
  obtain ⟨B, p, e0, dl, pre, q⟩ := h
  have W := Wd.start (K := K) e0
  obtain ⟨v1, r1, rfl, f1, dl⟩ := dl.cons_inv
  obtain ⟨v2, r2, rfl, f2, dl⟩ := dl.cons_inv
  cases dl
  have pg : PgOk p := pre
  have f1 : Da K B v1 (.tuple (p.map dStm)) := f1
  have f2 : Da K B v2 (.list ((rows p).map dRow)) := f2
  have hpl := pg.len
  have hnv := pg.nv
  refine q_setN W (l_lst a_nil lk) fun p1 ds B1 H1 e1 h1 W1 hd => ?_
  subst hd
  have hnd : (((List.range (nv p)).map fun u => (vst p u, u)).map (·.1)).Nodup := by
    rw [List.map_map]
    have h : ((List.range (nv p)).Pairwise fun a b => vst p a ≠ vst p b) := by
      refine List.Pairwise.imp_of_mem (R := fun a b => a < b) (fun {a b} ha hb z y => ?_) List.pairwise_lt_range
      have := vstm (p := p) z (List.mem_range.mp hb)
      omega
    exact List.pairwise_map.mpr h
  refine q_setK W1 (k_dictP (L := (List.range (nv p)).map fun u => (vst p u, u)) (a_cons (EvB.to (EvN.data (l_lc (n := ((rows p).map dRow).length) (f := fun i => .tuple [.int (i : Nat), ((rows p).map dRow).getD i .none]) (fun _ => true) (fun i => dPair (vst p i, i)) (i_enum (a_cons (e_var f2) a_nil)) (by rw [List.length_map]; exact Nat.le_trans pg.nv (by decide)) ?_)) ?_) a_nil) hnd) fun pm kvs B2 H2 e2 h2 W2 hk => ?_
  · intro i x D acc B5 H5 hi e5 i5 fx R k
    have hi' : i < nv p := by rw [List.length_map] at hi; exact hi
    have fx : Da K B5 x (.tuple [nI i, .tuple [nI (vst p i), dO (vpar p i), nI (vstart p i), nI (vlen p i)]]) := by
      have e := getD_map (f := dRow) (row_at hi')
      have fx : Da K B5 x (.tuple [nI i, ((rows p).map dRow).getD i .none]) := fx
      rw [e] at fx
      exact fx
    refine g_tup fx i5 rfl fun vs fv => g_cons fv fun va r fa fr => g_cons fr fun vb r fb fr => g_nil fr ?_
    exact k _ rfl t_yes fun _ => e_tup (a_cons (e_ixT (e_var fb) e_cint rfl) (a_cons (e_var fa) a_nil)) lk
  · rw [List.length_map, List.map_map]
    show PyData.list (((List.range (nv p)).filter fun _ => true).map _) = _
    rw [List.filter_eq_self.mpr fun _ _ => rfl]
    rfl
  subst hk
  have hget : ∀ u, u < nv p → valV (kvN ((List.range (nv p)).map fun u => (vst p u, u))) (.inl ((vst p u : Nat) : Int)) = some (.int (u : Int)) := fun u hu => kvN_get hnd (List.mem_map.mpr ⟨u, List.mem_range.mpr hu, rfl⟩)
  generalize kvN ((List.range (nv p)).map fun u => (vst p u, u)) = kvs at W2 hget
  refine q_for (W2.perm (List.Perm.swap _ _ _)) (i_enumT (a_cons (e_var f1) a_nil)) (fun i σ B' H' => ∃ a b c d e g h, σ = [some v1, some v2, some (.ref p1), some (.ref pm), a, b, c, d, e, g, h] ∧ Wd K ⟨B, H, []⟩ none [(p1, .l ((wrN p i).map dW4)), (pm, .dct kvs)] B' H')
    (fun B3 H3 e3 W3 => ⟨_, _, _, _, _, _, _, rfl, W3⟩) (fun i σ' B' H' iv => by obtain ⟨_, _, _, _, _, _, _, _, h⟩ := iv; exact h.inn) ?_ ?_
  · rintro i x σ' B0 B3 H3 B4 H4 hi e3 e4 ⟨xa, xb, xc, xd, xe, xg, xh, rfl, W3⟩ e5 up fx
    have W4 := up _ _ W3
    obtain ⟨st, hst, e⟩ := turn_stm hi
    have fx : Da K B4 x (.tuple [nI i, dStm st]) := by rw [← e]; exact fx
    have hl : i < p.length := (List.getElem?_eq_some_iff.mp hst).1
    have o := pg.ok i st hst
    have hlen : ((wrN p i).map dW4).length < 100000 := by rw [List.length_map]; have := wrN_len p i; omega
    have view : ∀ r, rowOf (rowsN p i) i st = some r → (rowsN p i).length < nv p ∧ vst p (rowsN p i).length = i := fun r hr => by
      obtain ⟨h1, h2⟩ := view_made hst hr
      refine ⟨h1, ?_⟩
      unfold vst
      rw [h2]
      exact rowOf_st hr
    refine g_tup fx W4.inn rfl fun vs fv => g_cons fv fun va r fa fr => g_cons fr fun vb r fb fr => g_nil fr ?_
    refine q_set W4 (e_ixT (e_var fb) e_cint atI_0) fun vw B5 H5 e6 W5 fw => ?_
    obtain rfl := fw.str_eq
    cases st with
    | make l c =>
      obtain ⟨hu, hs⟩ := view _ rfl
      refine q_ifT W5 (t_to (t_test (e_eqS e_str e_cstr)) (by show decide (("make" : Str) = "make") = true; decide +kernel)) fun B6 H6 e7 W6 => ?_
      refine s_appD W6 (.inl h1) (e_tup (a_cons (e_var fa) (a_cons (e_dGet (d := nI (rowsN p i).length) (List.mem_cons_of_mem _ List.mem_cons_self) (e_var fa) (by have h := hget _ hu; rw [hs] at h; exact h) (.int _)) (a_cons e_cint (a_cons (e_ixT (e_var fb) e_cint rfl) a_nil)))) lk) hlen fun B7 H7 e8 W7 => ?_
      refine q_ifF W7 (t_to (t_test (e_inS (ns := ["append", "grow"]) e_str (e_tup (a_cons e_cstr (a_cons e_cstr a_nil)) lk))) (by show decide (("make" : Str) ∈ (["append", "grow"] : List Str)) = false; decide +kernel)) fun B8 H8 e9 W8 => ?_
      refine s_ifF W8 (t_to (t_test (e_inS (ns := ["write", "move"]) e_str (e_tup (a_cons e_cstr (a_cons e_cstr a_nil)) lk))) (by show decide (("make" : Str) ∈ (["write", "move"] : List Str)) = false; decide +kernel)) fun B9 H9 e10 W9 => ?_
      refine ⟨B9, ((((((e4).trans e5).trans e6).trans e7).trans e8).trans e9).trans e10, _, _, _, _, _, _, _, rfl, ?_⟩
      have er : wrC p i = some (i, (rowsN p i).length, 0, c) := by unfold wrC wr; rw [hst]; rfl
      rw [wrN_succ, er, Option.toList_some, List.map_append]
      exact W9
    | slice v0 lo hi =>
      refine q_ifF W5 (t_to (t_test (e_eqS e_str e_cstr)) (by show decide (("slice" : Str) = "make") = false; decide +kernel)) fun B6 H6 e7 W6 => ?_
      refine q_ifF W6 (t_to (t_test (e_inS (ns := ["append", "grow"]) e_str (e_tup (a_cons e_cstr (a_cons e_cstr a_nil)) lk))) (by show decide (("slice" : Str) ∈ (["append", "grow"] : List Str)) = false; decide +kernel)) fun B7 H7 e8 W7 => ?_
      refine s_ifF W7 (t_to (t_test (e_inS (ns := ["write", "move"]) e_str (e_tup (a_cons e_cstr (a_cons e_cstr a_nil)) lk))) (by show decide (("slice" : Str) ∈ (["write", "move"] : List Str)) = false; decide +kernel)) fun B8 H8 e9 W8 => ?_
      refine ⟨B8, (((((e4).trans e5).trans e6).trans e7).trans e8).trans e9, _, _, _, _, _, _, _, rfl, ?_⟩
      have er : wrC p i = none := by unfold wrC wr; rw [hst]; rfl
      rw [wrN_succ, er]
      exact (List.append_nil (wrN p i)).symm ▸ W8
    | clip v0 =>
      refine q_ifF W5 (t_to (t_test (e_eqS e_str e_cstr)) (by show decide (("clip" : Str) = "make") = false; decide +kernel)) fun B6 H6 e7 W6 => ?_
      refine q_ifF W6 (t_to (t_test (e_inS (ns := ["append", "grow"]) e_str (e_tup (a_cons e_cstr (a_cons e_cstr a_nil)) lk))) (by show decide (("clip" : Str) ∈ (["append", "grow"] : List Str)) = false; decide +kernel)) fun B7 H7 e8 W7 => ?_
      refine s_ifF W7 (t_to (t_test (e_inS (ns := ["write", "move"]) e_str (e_tup (a_cons e_cstr (a_cons e_cstr a_nil)) lk))) (by show decide (("clip" : Str) ∈ (["write", "move"] : List Str)) = false; decide +kernel)) fun B8 H8 e9 W8 => ?_
      refine ⟨B8, (((((e4).trans e5).trans e6).trans e7).trans e8).trans e9, _, _, _, _, _, _, _, rfl, ?_⟩
      have er : wrC p i = none := by unfold wrC wr; rw [hst]; rfl
      rw [wrN_succ, er]
      exact (List.append_nil (wrN p i)).symm ▸ W8
    | app g v0 xs =>
      cases g with
      | false =>
        obtain ⟨hu, hs⟩ := view _ rfl
        refine q_ifF W5 (t_to (t_test (e_eqS e_str e_cstr)) (by show decide (("append" : Str) = "make") = false; decide +kernel)) fun B6 H6 e7 W6 => ?_
        refine q_ifT W6 (t_to (t_test (e_inS (ns := ["append", "grow"]) e_str (e_tup (a_cons e_cstr (a_cons e_cstr a_nil)) lk))) (by show decide (("append" : Str) ∈ (["append", "grow"] : List Str)) = true; decide +kernel)) fun B7 H7 e8 W7 => ?_
        have hE : vend p (rowsN p i).length = vend p v0 + xs.length := by
          have hr := (view_made hst (r := ⟨i, some v0, ((rowsN p i).getD v0 row0).start, ((rowsN p i).getD v0 row0).len + xs.length⟩) rfl).2
          have hv := seen_row (by omega) o.1
          unfold vend vstart vlen
          rw [hr, hv]
          simp only
          omega
        refine q_set W7 (e_atL (f := dRow) (e_var f2) (e_dGet (d := nI (rowsN p i).length) (List.mem_cons_of_mem _ List.mem_cons_self) (e_var fa) (by have h := hget _ hu; rw [hs] at h; exact h) (.int _)) (row_at hu)) fun vrw B8 H8 e9 W8 frw => ?_
        have frw : Da K B8 vrw (.tuple [nI (vst p (rowsN p i).length), dO (vpar p (rowsN p i).length), nI (vstart p (rowsN p i).length), nI (vlen p (rowsN p i).length)]) := frw
        refine q_set W8 (EvB.to (d1 := nI (vend p v0 + xs.length)) (e_addN (e_ixT (e_var frw) e_cint rfl) (e_ixT (e_var frw) e_cint rfl)) (congrArg nI hE)) fun vee B9 H9 e10 W9 fee => ?_
        refine s_appD W9 (.inl h1) (e_tup (a_cons (e_var fa) (a_cons (e_dGet (d := nI (rowsN p i).length) (List.mem_cons_of_mem _ List.mem_cons_self) (e_var fa) (by have h := hget _ hu; rw [hs] at h; exact h) (.int _)) (a_cons (EvB.to (d1 := nI (vend p v0)) (e_subN (e_var fee) (EvB.to (d1 := nI xs.length) (e_lenT (a_cons (e_ixT (e_var fb) e_cint rfl) a_nil)) (by rw [List.length_map])) (by omega)) (by rw [Nat.add_sub_cancel])) (a_cons (e_var fee) a_nil)))) lk) hlen fun B10 H10 e11 W10 => ?_
        refine s_ifF W10 (t_to (t_test (e_inS (ns := ["write", "move"]) e_str (e_tup (a_cons e_cstr (a_cons e_cstr a_nil)) lk))) (by show decide (("append" : Str) ∈ (["write", "move"] : List Str)) = false; decide +kernel)) fun B11 H11 e12 W11 => ?_
        refine ⟨B11, ((((((((e4).trans e5).trans e6).trans e7).trans e8).trans e9).trans e10).trans e11).trans e12, _, _, _, _, _, _, _, rfl, ?_⟩
        have er : wrC p i = some (i, (rowsN p i).length, vend p v0, vend p v0 + xs.length) := by unfold wrC wr; rw [hst]; rfl
        rw [wrN_succ, er, Option.toList_some, List.map_append]
        exact W11
      | true =>
        obtain ⟨hu, hs⟩ := view _ rfl
        refine q_ifF W5 (t_to (t_test (e_eqS e_str e_cstr)) (by show decide (("grow" : Str) = "make") = false; decide +kernel)) fun B6 H6 e7 W6 => ?_
        refine q_ifT W6 (t_to (t_test (e_inS (ns := ["append", "grow"]) e_str (e_tup (a_cons e_cstr (a_cons e_cstr a_nil)) lk))) (by show decide (("grow" : Str) ∈ (["append", "grow"] : List Str)) = true; decide +kernel)) fun B7 H7 e8 W7 => ?_
        have hE : vend p (rowsN p i).length = vend p v0 + xs.length := by
          have hr := (view_made hst (r := ⟨i, some v0, ((rowsN p i).getD v0 row0).start, ((rowsN p i).getD v0 row0).len + xs.length⟩) rfl).2
          have hv := seen_row (by omega) o.1
          unfold vend vstart vlen
          rw [hr, hv]
          simp only
          omega
        refine q_set W7 (e_atL (f := dRow) (e_var f2) (e_dGet (d := nI (rowsN p i).length) (List.mem_cons_of_mem _ List.mem_cons_self) (e_var fa) (by have h := hget _ hu; rw [hs] at h; exact h) (.int _)) (row_at hu)) fun vrw B8 H8 e9 W8 frw => ?_
        have frw : Da K B8 vrw (.tuple [nI (vst p (rowsN p i).length), dO (vpar p (rowsN p i).length), nI (vstart p (rowsN p i).length), nI (vlen p (rowsN p i).length)]) := frw
        refine q_set W8 (EvB.to (d1 := nI (vend p v0 + xs.length)) (e_addN (e_ixT (e_var frw) e_cint rfl) (e_ixT (e_var frw) e_cint rfl)) (congrArg nI hE)) fun vee B9 H9 e10 W9 fee => ?_
        refine s_appD W9 (.inl h1) (e_tup (a_cons (e_var fa) (a_cons (e_dGet (d := nI (rowsN p i).length) (List.mem_cons_of_mem _ List.mem_cons_self) (e_var fa) (by have h := hget _ hu; rw [hs] at h; exact h) (.int _)) (a_cons (EvB.to (d1 := nI (vend p v0)) (e_subN (e_var fee) (EvB.to (d1 := nI xs.length) (e_lenT (a_cons (e_ixT (e_var fb) e_cint rfl) a_nil)) (by rw [List.length_map])) (by omega)) (by rw [Nat.add_sub_cancel])) (a_cons (e_var fee) a_nil)))) lk) hlen fun B10 H10 e11 W10 => ?_
        refine s_ifF W10 (t_to (t_test (e_inS (ns := ["write", "move"]) e_str (e_tup (a_cons e_cstr (a_cons e_cstr a_nil)) lk))) (by show decide (("grow" : Str) ∈ (["write", "move"] : List Str)) = false; decide +kernel)) fun B11 H11 e12 W11 => ?_
        refine ⟨B11, ((((((((e4).trans e5).trans e6).trans e7).trans e8).trans e9).trans e10).trans e11).trans e12, _, _, _, _, _, _, _, rfl, ?_⟩
        have er : wrC p i = some (i, (rowsN p i).length, vend p v0, vend p v0 + xs.length) := by unfold wrC wr; rw [hst]; rfl
        rw [wrN_succ, er, Option.toList_some, List.map_append]
        exact W11
    | write v0 i0 x0 =>
      refine q_ifF W5 (t_to (t_test (e_eqS e_str e_cstr)) (by show decide (("write" : Str) = "make") = false; decide +kernel)) fun B6 H6 e7 W6 => ?_
      refine q_ifF W6 (t_to (t_test (e_inS (ns := ["append", "grow"]) e_str (e_tup (a_cons e_cstr (a_cons e_cstr a_nil)) lk))) (by show decide (("write" : Str) ∈ (["append", "grow"] : List Str)) = false; decide +kernel)) fun B7 H7 e8 W7 => ?_
      have hv : v0 < nv p := seen_lt (by omega) o.1
      refine s_ifT W7 (t_to (t_test (e_inS (ns := ["write", "move"]) e_str (e_tup (a_cons e_cstr (a_cons e_cstr a_nil)) lk))) (by show decide (("write" : Str) ∈ (["write", "move"] : List Str)) = true; decide +kernel)) fun B8 H8 e9 W8 => ?_
      refine q_set W8 (e_addN (e_ixT (e_atL (f := dRow) (e_var f2) (e_ixT (e_var fb) e_cint (d := nI v0) rfl) (row_at hv)) e_cint (d := nI (vstart p v0)) rfl) (e_ixT (e_var fb) e_cint (d := nI i0) rfl)) fun vsp B9 H9 e10 W9 fsp => ?_
      refine s_appD W9 (.inl h1) (e_tup (a_cons (e_var fa) (a_cons (e_ixT (e_var fb) e_cint (d := nI v0) rfl) (a_cons (e_var fsp) (a_cons (e_addN (e_var fsp) (e_cint (n := ((1 : Nat) : Int)))) a_nil)))) lk) hlen fun B10 H10 e11 W10 => ?_
      refine ⟨B10, (((((((e4).trans e5).trans e6).trans e7).trans e8).trans e9).trans e10).trans e11, _, _, _, _, _, _, _, rfl, ?_⟩
      have er : wrC p i = some (i, v0, vstart p v0 + i0, vstart p v0 + i0 + 1) := by unfold wrC wr; rw [hst]; rfl
      rw [wrN_succ, er, Option.toList_some, List.map_append]
      exact W10
    | move v0 i0 u0 z =>
      refine q_ifF W5 (t_to (t_test (e_eqS e_str e_cstr)) (by show decide (("move" : Str) = "make") = false; decide +kernel)) fun B6 H6 e7 W6 => ?_
      refine q_ifF W6 (t_to (t_test (e_inS (ns := ["append", "grow"]) e_str (e_tup (a_cons e_cstr (a_cons e_cstr a_nil)) lk))) (by show decide (("move" : Str) ∈ (["append", "grow"] : List Str)) = false; decide +kernel)) fun B7 H7 e8 W7 => ?_
      have hv : v0 < nv p := seen_lt (by omega) o.1.1
      refine s_ifT W7 (t_to (t_test (e_inS (ns := ["write", "move"]) e_str (e_tup (a_cons e_cstr (a_cons e_cstr a_nil)) lk))) (by show decide (("move" : Str) ∈ (["write", "move"] : List Str)) = true; decide +kernel)) fun B8 H8 e9 W8 => ?_
      refine q_set W8 (e_addN (e_ixT (e_atL (f := dRow) (e_var f2) (e_ixT (e_var fb) e_cint (d := nI v0) rfl) (row_at hv)) e_cint (d := nI (vstart p v0)) rfl) (e_ixT (e_var fb) e_cint (d := nI i0) rfl)) fun vsp B9 H9 e10 W9 fsp => ?_
      refine s_appD W9 (.inl h1) (e_tup (a_cons (e_var fa) (a_cons (e_ixT (e_var fb) e_cint (d := nI v0) rfl) (a_cons (e_var fsp) (a_cons (e_addN (e_var fsp) (e_cint (n := ((1 : Nat) : Int)))) a_nil)))) lk) hlen fun B10 H10 e11 W10 => ?_
      refine ⟨B10, (((((((e4).trans e5).trans e6).trans e7).trans e8).trans e9).trans e10).trans e11, _, _, _, _, _, _, _, rfl, ?_⟩
      have er : wrC p i = some (i, v0, vstart p v0 + i0, vstart p v0 + i0 + 1) := by unfold wrC wr; rw [hst]; rfl
      rw [wrN_succ, er, Option.toList_some, List.map_append]
      exact W10
    | read v0 i0 =>
      refine q_ifF W5 (t_to (t_test (e_eqS e_str e_cstr)) (by show decide (("read" : Str) = "make") = false; decide +kernel)) fun B6 H6 e7 W6 => ?_
      refine q_ifF W6 (t_to (t_test (e_inS (ns := ["append", "grow"]) e_str (e_tup (a_cons e_cstr (a_cons e_cstr a_nil)) lk))) (by show decide (("read" : Str) ∈ (["append", "grow"] : List Str)) = false; decide +kernel)) fun B7 H7 e8 W7 => ?_
      refine s_ifF W7 (t_to (t_test (e_inS (ns := ["write", "move"]) e_str (e_tup (a_cons e_cstr (a_cons e_cstr a_nil)) lk))) (by show decide (("read" : Str) ∈ (["write", "move"] : List Str)) = false; decide +kernel)) fun B8 H8 e9 W8 => ?_
      refine ⟨B8, (((((e4).trans e5).trans e6).trans e7).trans e8).trans e9, _, _, _, _, _, _, _, rfl, ?_⟩
      have er : wrC p i = none := by unfold wrC wr; rw [hst]; rfl
      rw [wrN_succ, er]
      exact (List.append_nil (wrN p i)).symm ▸ W8
  · rintro σ' B3 H3 e3 ⟨xa, xb, xc, xd, xe, xg, xh, rfl, W3⟩
    rw [List.length_map] at W3
    exact s_retP W3 h1 rfl q rfl
theorem cl_law_writers (d : Df K mg "_law_writers" s_law_writers) (T : Tx K mg) (c_law_writes : Cl P w K mg base 1 "_law_writes" (sp_law_writes K) []) (c_law_way : Cl P w K mg base 1 "_law_way" (sp_law_way K) []) : Cl P w K mg base 2 "_law_writers" (sp_law_writers K) [] := by
  refine cl_of d sc_law_writers (fun f fd F => F.bindsN fun _ _ _ _ _ _ us hl => match us, hl with | [_, _, _], _ => rfl) (SpN.len fun _ => rfl) fun cdv f A outer s H vs Q E hr h => ?_
  have hu := hu_of hr
  refine ⟨_, (pss_cons (ps_set (i := 3) sc_law_writers.nd rfl (Or.inl rfl) (pe_ix (ixL K) (pe_cl c_law_way hr (by decide) rfl (pa_cons (pv 1) (pa_cons (pe_ix (ixT K) (pv 2) pe_int (fun _ _ => rfl)) pa_nil))) pe_int (fun _ _ => rfl)))
      (pss_cons (ps_set (i := 4) sc_law_writers.nd rfl (Or.inl rfl) (pe_lst pa_nil))
      (pss_cons (ps_for PassesOwn.never rfl (pi_list (pe_cl c_law_writes hr (by decide) rfl (pa_cons (pv 0) (pa_cons (pv 1) pa_nil)))) (pgTup (n := 4) K (pgs_cons (pg_name (i := 5) sc_law_writers.nd rfl (Or.inl rfl)) (pgs_cons (pg_name (i := 6) sc_law_writers.nd rfl (Or.inl rfl)) (pgs_cons (pg_name (i := 7) sc_law_writers.nd rfl (Or.inl rfl)) (pgs_cons (pg_name (i := 8) sc_law_writers.nd rfl (Or.inl rfl)) pgs_nil))))) (pss_cons (ps_set (i := 9) sc_law_writers.nd rfl (Or.inl rfl) (pe_and (pe_cmpR op_lt (pv 5) (pe_ix (ixT K) (pv 2) pe_int (fun _ _ => rfl)) (nomark _)) (pe_one (pe_chain op_le op_lt (pv 7) (pe_ix (ixT K) (pv 2) pe_int (fun _ _ => rfl)) (pv 8)))))
      (pss_one (ps_if (PW.pt (pw_and (pt_val (pv 9)) (pw_and1 (pt_cmpR op_eq (pe_ix (ixL K) (pe_cl c_law_way hr (by decide) rfl (pa_cons (pv 1) (pa_cons (pv 6) pa_nil))) pe_int (fun _ _ => rfl)) (pv 3) (nomark _))))) (pss_one (ps_expr (pe_bm PySem.F.plainAttrs_list PySem.F.slot_list_append PySem.F.type_list_append mt_append (pv 4) (pa_cons (pe_tup (pa_cons (pv 5) (pa_cons (pv 6) pa_nil))) pa_nil)))) pss_nil))))
      (pss_one (ps_ret (pv 4)))))), ?_⟩
  obtain ⟨B, ⟨p, n, v, x⟩, e0, dl, pre, q⟩ := h
  have W := Wd.start (K := K) e0
  obtain ⟨v1, r1, rfl, f1, dl⟩ := dl.cons_inv
  obtain ⟨v2, r2, rfl, f2, dl⟩ := dl.cons_inv
  obtain ⟨v3, r3, rfl, f3, dl⟩ := dl.cons_inv
  cases dl
  obtain ⟨pg, hv⟩ := pre
  have pg : PgOk p := pg
  have hv : v < nv p := hv
  have f1 : Da K B v1 (dProg p) := f1
  have f2 : Da K B v2 (dRows (rows p)) := f2
  have f3 : Da K B v3 (.tuple [nI n, nI v, nI x]) := f3
  have q : RN K B H (fun ds => ds = (candL p n v x).map dPair) Q := q
  have hE := wrL_all p pg.ok
  have hElen : (wrL p).length ≤ 40 := Nat.le_trans (wrN_len p p.length) pg.len
  have hso : (wrL p).Pairwise fun a b => a.1 < b.1 := wrN_keys
  refine q_set W (e_atL (f := nI) (c_D (a := (p, v)) (a_cons (e_var f2) (a_cons (e_ixT (e_var f3) e_cint rfl) a_nil)) ⟨pg, hv⟩) (e_cint (n := ((0 : Nat) : Int))) root_at) fun vr B2 H2 e2 W2 fr => ?_
  refine q_setN W2 (l_lst a_nil lk) fun p1 ds B3 H3 e3 h1 W3 hd => ?_
  subst hd
  refine q_for W3 (i_list (EvN.data (c_N (a := p) (a_cons (e_var f1) (a_cons (e_var f2) a_nil)) pg))) (fun i σ B' H' => ∃ a b c d e, σ = [some v1, some v2, some v3, some vr, some (.ref p1), a, b, c, d, e] ∧
      Wd K ⟨B, H, []⟩ none [(p1, .l ((((wrL p).take i).filter (tstW p n v x)).map fun e => dPair (e.1, e.2.1)))] B' H') (fun B6 H6 e6 W6 => ⟨_, _, _, _, _, rfl, W6⟩) (fun i σ' B' H' iv => by obtain ⟨_, _, _, _, _, _, h⟩ := iv; exact h.inn) ?_ ?_
  · rintro i y σ' B0 B6 H6 B7 H7 hi e6 e7 ⟨xa, xb, xc, xd, xe, rfl, W6⟩ e8 up fx
    have W7 := up _ _ W6
    obtain ⟨e, he, ee⟩ := turn_map (f := dW4) hi
    have fx : Da K B7 y (dW4 e) := by rw [← ee]; exact fx
    have hmem : e ∈ wrL p := List.mem_of_getElem? he
    obtain ⟨c, ow, lo, hi2⟩ := e
    have how : ow < nv p := (wr_view pg.ok ((hE.iff _).mp hmem)).1
    have fx : Da K B7 y (.tuple [nI c, nI ow, nI lo, nI hi2]) := fx
    refine g_tup fx W7.inn rfl fun vs fv => g_cons fv fun va r fa fr2 => g_cons fr2 fun vb r fb fr2 => g_cons fr2 fun vc r fc fr2 => g_cons fr2 fun vd r fd fr2 => g_nil fr2 ?_
    refine q_set W7 (EvB.to (d1 := .bool (decide (c < n) && (decide (lo ≤ x) && decide (x < hi2)))) (e_andV (e_ltN (e_var fa) (e_ixT (e_var f3) e_cint (d := nI n) rfl)) fun _ => e_chainI (e_var fc) (e_ixT (e_var f3) e_cint (d := nI x) rfl) (e_var fd)) ?_) fun vn B8 H8 e9 W8 fn => ?_
    · have a1 : decide ((lo : Int) ≤ (x : Int)) = decide (lo ≤ x) := by
        by_cases z : lo ≤ x
        · rw [decide_eq_true z, decide_eq_true (by omega)]
        · rw [decide_eq_false z, decide_eq_false (by omega)]
      have a2 : decide ((x : Int) < (hi2 : Int)) = decide (x < hi2) := by
        by_cases z : x < hi2
        · rw [decide_eq_true z, decide_eq_true (by omega)]
        · rw [decide_eq_false z, decide_eq_false (by omega)]
      rw [a1, a2]
    have fin : ∀ B9 H9, Ex B8 B9 → Wd K ⟨B, H, []⟩ none [(p1, .l (((((wrL p).take i).filter (tstW p n v x)).map fun e => dPair (e.1, e.2.1)) ++ (if tstW p n v x (c, ow, lo, hi2) then [dPair (c, ow)] else [])))] B9 H9 →
        ∃ B4, Ex B0 B4 ∧ ∃ a b c_1 d e, [some v1, some v2, some v3, some vr, some (.ref p1), some va, some vb, some vc, some vd, some vn] = [some v1, some v2, some v3, some vr, some (.ref p1), a, b, c_1, d, e] ∧
          Wd K ⟨B, H, []⟩ none [(p1, .l ((((wrL p).take (i + 1)).filter (tstW p n v x)).map fun e => dPair (e.1, e.2.1)))] B4 H9 := fun B9 H9 e10 W9 => by
      refine ⟨B9, ((e7.trans e8).trans e9).trans e10, _, _, _, _, _, rfl, ?_⟩
      rw [take_more he, List.filter_append, List.map_append]
      have e2 : ([(c, ow, lo, hi2)].filter (tstW p n v x)).map (fun e => dPair (e.1, e.2.1)) = (if tstW p n v x (c, ow, lo, hi2) then [dPair (c, ow)] else []) := by
        by_cases z : tstW p n v x (c, ow, lo, hi2) = true
        · rw [List.filter_cons_of_pos z, if_pos z]
          rfl
        · rw [List.filter_cons_of_neg z, if_neg z]
          rfl
      rw [e2]
      exact W9
    refine s_if (b := tstW p n v x (c, ow, lo, hi2)) W8 (t_to (t_and (t_B (e_var fn)) fun _ => t_test (e_eqN (e_atL (f := nI) (c_D (a := (p, ow)) (a_cons (e_var f2) (a_cons (e_var fb) a_nil)) ⟨pg, how⟩) (e_cint (n := ((0 : Nat) : Int))) root_at) (e_var fr))) rfl) (fun hb B9 H9 e10 W9 => ?_) (fun hb B9 H9 e10 W9 => ?_)
    · refine s_appD W9 (.inl h1) (e_tup (a_cons (e_var fa) (a_cons (e_var fb) a_nil)) lk) ?_ fun B10 H10 e11 W10 => ?_
      · have h1 := List.length_filter_le (tstW p n v x) ((wrL p).take i)
        rw [List.length_map]
        have : ((wrL p).take i).length ≤ (wrL p).length := by rw [List.length_take]; omega
        omega
      · refine fin B10 H10 (e10.trans e11) ?_
        rw [if_pos hb]
        exact W10
    · refine fin B9 H9 e10 ?_
      rw [if_neg (by rw [hb]; decide), List.append_nil]
      exact W9
  · rintro σ' B6 H6 e6 ⟨xa, xb, xc, xd, xe, rfl, W6⟩
    rw [List.length_map, List.take_length] at W6
    refine s_retP W6 h1 rfl q ?_
    have eT : ((wrL p).filter (tstW p n v x)).map (fun e => (e.1, e.2.1)) = candL p n v x := Srt.ext (List.pairwise_map.mpr (List.Pairwise.filter _ hso)) candL_srt fun e => cand_of hE
    rw [← eT, List.map_map]
    rfl
end GB
namespace GB
open PySem PySem.Spec PyProof.Rows L2
open Evl (Ex)
variable {P : Program} {w : World} {K : PySem.W.Frag} {mg : Str → Option Value} {base : Heap}

/-! ### the law holds -/
namespace Hd
structure All (K : PySem.W.Frag) (mg : Str → Option Value) : Prop where
  a_is_integer : Df K mg "is_integer" s_is_integer
  a_is_between : Df K mg "is_between" s_is_between
  a_span_of : Df K mg "span_of" s_span_of
  a_views : Df K mg "views" s_views
  a_reads : Df K mg "reads" s_reads
  a_chosen : Df K mg "chosen" s_chosen
  a_allotted : Df K mg "allotted" s_allotted
  a_allotments : Df K mg "allotments" s_allotments
  a_copying : Df K mg "copying" s_copying
  a_path_in : Df K mg "path_in" s_path_in
  a_meeting : Df K mg "meeting" s_meeting
  a_need_read : Df K mg "need_read" s_need_read
  a_writes : Df K mg "writes" s_writes
  a_candidates_in : Df K mg "candidates_in" s_candidates_in
  a_links_between : Df K mg "links_between" s_links_between
  a_candidates : Df K mg "candidates" s_candidates
  a_table_policy : Df K mg "table_policy" s_table_policy
  a_with_entry : Df K mg "with_entry" s_with_entry
  a_goal_of : Df K mg "goal_of" s_goal_of
  a_first_barred : Df K mg "first_barred" s_first_barred
  a_raise_among : Df K mg "raise_among" s_raise_among
  a_next_raise : Df K mg "next_raise" s_next_raise
  a_linked_table : Df K mg "linked_table" s_linked_table
  a_is_visible : Df K mg "is_visible" s_is_visible
  a_origins : Df K mg "origins" s_origins
  a_is_demand : Df K mg "is_demand" s_is_demand
  a_need_demands : Df K mg "need_demands" s_need_demands [("most", .int 60)]
  a_goals_of : Df K mg "goals_of" s_goals_of
  a_trimmed : Df K mg "trimmed" s_trimmed
  a_first_unmet : Df K mg "first_unmet" s_first_unmet
  a_least_policy : Df K mg "least_policy" s_least_policy
  a_law_start : Df K mg "_law_start" s_law_start
  a_law_draw : Df K mg "_law_draw" s_law_draw
  a_law_place : Df K mg "_law_place" s_law_place
  a_law_index : Df K mg "_law_index" s_law_index
  a_law_values : Df K mg "_law_values" s_law_values
  a_law_statement : Df K mg "_law_statement" s_law_statement
  a_law_code : Df K mg "_law_code" s_law_code
  a_law_rows : Df K mg "_law_rows" s_law_rows
  a_law_looks : Df K mg "_law_looks" s_law_looks
  a_law_chosen : Df K mg "_law_chosen" s_law_chosen
  a_law_new_block : Df K mg "_law_new_block" s_law_new_block
  a_law_appended : Df K mg "_law_appended" s_law_appended
  a_law_run : Df K mg "_law_run" s_law_run
  a_law_writes : Df K mg "_law_writes" s_law_writes
  a_law_way : Df K mg "_law_way" s_law_way
  a_law_writers : Df K mg "_law_writers" s_law_writers
  a_law_rule : Df K mg "_law_rule" s_law_rule
  a_law_is_at_most : Df K mg "_law_is_at_most" s_law_is_at_most
  a_law_is_met : Df K mg "_law_is_met" s_law_is_met
  a_law_wanted : Df K mg "_law_wanted" s_law_wanted
  a_law_caps : Df K mg "_law_caps" s_law_caps
  a_law_again : Df K mg "_law_again" s_law_again
  a_law_is_right : Df K mg "_law_is_right" s_law_is_right
  a_law : Df K mg "law" s_law
theorem all_of {h : Heap} (KX : K.In h) (G : h.Ns mainGlobals mg) (c : He.SaysD fa fn K) : All K mg where
  a_is_integer := by
    obtain ⟨fd, F⟩ := c.def_ 0 (d := d_is_integer) rfl
    exact ⟨_, fd, F, He.glo_ok KX G (c.fact 0 (f := .glo "is_integer") rfl)⟩
  a_is_between := by
    obtain ⟨fd, F⟩ := c.def_ 1 (d := d_is_between) rfl
    exact ⟨_, fd, F, He.glo_ok KX G (c.fact 1 (f := .glo "is_between") rfl)⟩
  a_span_of := by
    obtain ⟨fd, F⟩ := c.def_ 2 (d := d_span_of) rfl
    exact ⟨_, fd, F, He.glo_ok KX G (c.fact 2 (f := .glo "span_of") rfl)⟩
  a_views := by
    obtain ⟨fd, F⟩ := c.def_ 3 (d := d_views) rfl
    exact ⟨_, fd, F, He.glo_ok KX G (c.fact 3 (f := .glo "views") rfl)⟩
  a_reads := by
    obtain ⟨fd, F⟩ := c.def_ 4 (d := d_reads) rfl
    exact ⟨_, fd, F, He.glo_ok KX G (c.fact 4 (f := .glo "reads") rfl)⟩
  a_chosen := by
    obtain ⟨fd, F⟩ := c.def_ 5 (d := d_chosen) rfl
    exact ⟨_, fd, F, He.glo_ok KX G (c.fact 5 (f := .glo "chosen") rfl)⟩
  a_allotted := by
    obtain ⟨fd, F⟩ := c.def_ 6 (d := d_allotted) rfl
    exact ⟨_, fd, F, He.glo_ok KX G (c.fact 6 (f := .glo "allotted") rfl)⟩
  a_allotments := by
    obtain ⟨fd, F⟩ := c.def_ 7 (d := d_allotments) rfl
    exact ⟨_, fd, F, He.glo_ok KX G (c.fact 7 (f := .glo "allotments") rfl)⟩
  a_copying := by
    obtain ⟨fd, F⟩ := c.def_ 8 (d := d_copying) rfl
    exact ⟨_, fd, F, He.glo_ok KX G (c.fact 8 (f := .glo "copying") rfl)⟩
  a_path_in := by
    obtain ⟨fd, F⟩ := c.def_ 9 (d := d_path_in) rfl
    exact ⟨_, fd, F, He.glo_ok KX G (c.fact 9 (f := .glo "path_in") rfl)⟩
  a_meeting := by
    obtain ⟨fd, F⟩ := c.def_ 10 (d := d_meeting) rfl
    exact ⟨_, fd, F, He.glo_ok KX G (c.fact 10 (f := .glo "meeting") rfl)⟩
  a_need_read := by
    obtain ⟨fd, F⟩ := c.def_ 11 (d := d_need_read) rfl
    exact ⟨_, fd, F, He.glo_ok KX G (c.fact 11 (f := .glo "need_read") rfl)⟩
  a_writes := by
    obtain ⟨fd, F⟩ := c.def_ 12 (d := d_writes) rfl
    exact ⟨_, fd, F, He.glo_ok KX G (c.fact 12 (f := .glo "writes") rfl)⟩
  a_candidates_in := by
    obtain ⟨fd, F⟩ := c.def_ 13 (d := d_candidates_in) rfl
    exact ⟨_, fd, F, He.glo_ok KX G (c.fact 13 (f := .glo "candidates_in") rfl)⟩
  a_links_between := by
    obtain ⟨fd, F⟩ := c.def_ 14 (d := d_links_between) rfl
    exact ⟨_, fd, F, He.glo_ok KX G (c.fact 14 (f := .glo "links_between") rfl)⟩
  a_candidates := by
    obtain ⟨fd, F⟩ := c.def_ 15 (d := d_candidates) rfl
    exact ⟨_, fd, F, He.glo_ok KX G (c.fact 15 (f := .glo "candidates") rfl)⟩
  a_table_policy := by
    obtain ⟨fd, F⟩ := c.def_ 16 (d := d_table_policy) rfl
    exact ⟨_, fd, F, He.glo_ok KX G (c.fact 16 (f := .glo "table_policy") rfl)⟩
  a_with_entry := by
    obtain ⟨fd, F⟩ := c.def_ 17 (d := d_with_entry) rfl
    exact ⟨_, fd, F, He.glo_ok KX G (c.fact 17 (f := .glo "with_entry") rfl)⟩
  a_goal_of := by
    obtain ⟨fd, F⟩ := c.def_ 18 (d := d_goal_of) rfl
    exact ⟨_, fd, F, He.glo_ok KX G (c.fact 18 (f := .glo "goal_of") rfl)⟩
  a_first_barred := by
    obtain ⟨fd, F⟩ := c.def_ 19 (d := d_first_barred) rfl
    exact ⟨_, fd, F, He.glo_ok KX G (c.fact 19 (f := .glo "first_barred") rfl)⟩
  a_raise_among := by
    obtain ⟨fd, F⟩ := c.def_ 20 (d := d_raise_among) rfl
    exact ⟨_, fd, F, He.glo_ok KX G (c.fact 20 (f := .glo "raise_among") rfl)⟩
  a_next_raise := by
    obtain ⟨fd, F⟩ := c.def_ 21 (d := d_next_raise) rfl
    exact ⟨_, fd, F, He.glo_ok KX G (c.fact 21 (f := .glo "next_raise") rfl)⟩
  a_linked_table := by
    obtain ⟨fd, F⟩ := c.def_ 22 (d := d_linked_table) rfl
    exact ⟨_, fd, F, He.glo_ok KX G (c.fact 22 (f := .glo "linked_table") rfl)⟩
  a_is_visible := by
    obtain ⟨fd, F⟩ := c.def_ 23 (d := d_is_visible) rfl
    exact ⟨_, fd, F, He.glo_ok KX G (c.fact 23 (f := .glo "is_visible") rfl)⟩
  a_origins := by
    obtain ⟨fd, F⟩ := c.def_ 24 (d := d_origins) rfl
    exact ⟨_, fd, F, He.glo_ok KX G (c.fact 24 (f := .glo "origins") rfl)⟩
  a_is_demand := by
    obtain ⟨fd, F⟩ := c.def_ 25 (d := d_is_demand) rfl
    exact ⟨_, fd, F, He.glo_ok KX G (c.fact 25 (f := .glo "is_demand") rfl)⟩
  a_need_demands := by
    obtain ⟨fd, F⟩ := c.def_ 26 (d := d_need_demands) rfl
    exact ⟨_, fd, F, He.glo_ok KX G (c.fact 26 (f := .glo "need_demands") rfl)⟩
  a_goals_of := by
    obtain ⟨fd, F⟩ := c.def_ 27 (d := d_goals_of) rfl
    exact ⟨_, fd, F, He.glo_ok KX G (c.fact 27 (f := .glo "goals_of") rfl)⟩
  a_trimmed := by
    obtain ⟨fd, F⟩ := c.def_ 28 (d := d_trimmed) rfl
    exact ⟨_, fd, F, He.glo_ok KX G (c.fact 28 (f := .glo "trimmed") rfl)⟩
  a_first_unmet := by
    obtain ⟨fd, F⟩ := c.def_ 29 (d := d_first_unmet) rfl
    exact ⟨_, fd, F, He.glo_ok KX G (c.fact 29 (f := .glo "first_unmet") rfl)⟩
  a_least_policy := by
    obtain ⟨fd, F⟩ := c.def_ 30 (d := d_least_policy) rfl
    exact ⟨_, fd, F, He.glo_ok KX G (c.fact 30 (f := .glo "least_policy") rfl)⟩
  a_law_start := by
    obtain ⟨fd, F⟩ := c.def_ 31 (d := d_law_start) rfl
    exact ⟨_, fd, F, He.glo_ok KX G (c.fact 31 (f := .glo "_law_start") rfl)⟩
  a_law_draw := by
    obtain ⟨fd, F⟩ := c.def_ 32 (d := d_law_draw) rfl
    exact ⟨_, fd, F, He.glo_ok KX G (c.fact 32 (f := .glo "_law_draw") rfl)⟩
  a_law_place := by
    obtain ⟨fd, F⟩ := c.def_ 33 (d := d_law_place) rfl
    exact ⟨_, fd, F, He.glo_ok KX G (c.fact 33 (f := .glo "_law_place") rfl)⟩
  a_law_index := by
    obtain ⟨fd, F⟩ := c.def_ 34 (d := d_law_index) rfl
    exact ⟨_, fd, F, He.glo_ok KX G (c.fact 34 (f := .glo "_law_index") rfl)⟩
  a_law_values := by
    obtain ⟨fd, F⟩ := c.def_ 35 (d := d_law_values) rfl
    exact ⟨_, fd, F, He.glo_ok KX G (c.fact 35 (f := .glo "_law_values") rfl)⟩
  a_law_statement := by
    obtain ⟨fd, F⟩ := c.def_ 36 (d := d_law_statement) rfl
    exact ⟨_, fd, F, He.glo_ok KX G (c.fact 36 (f := .glo "_law_statement") rfl)⟩
  a_law_code := by
    obtain ⟨fd, F⟩ := c.def_ 37 (d := d_law_code) rfl
    exact ⟨_, fd, F, He.glo_ok KX G (c.fact 37 (f := .glo "_law_code") rfl)⟩
  a_law_rows := by
    obtain ⟨fd, F⟩ := c.def_ 38 (d := d_law_rows) rfl
    exact ⟨_, fd, F, He.glo_ok KX G (c.fact 38 (f := .glo "_law_rows") rfl)⟩
  a_law_looks := by
    obtain ⟨fd, F⟩ := c.def_ 39 (d := d_law_looks) rfl
    exact ⟨_, fd, F, He.glo_ok KX G (c.fact 39 (f := .glo "_law_looks") rfl)⟩
  a_law_chosen := by
    obtain ⟨fd, F⟩ := c.def_ 40 (d := d_law_chosen) rfl
    exact ⟨_, fd, F, He.glo_ok KX G (c.fact 40 (f := .glo "_law_chosen") rfl)⟩
  a_law_new_block := by
    obtain ⟨fd, F⟩ := c.def_ 41 (d := d_law_new_block) rfl
    exact ⟨_, fd, F, He.glo_ok KX G (c.fact 41 (f := .glo "_law_new_block") rfl)⟩
  a_law_appended := by
    obtain ⟨fd, F⟩ := c.def_ 42 (d := d_law_appended) rfl
    exact ⟨_, fd, F, He.glo_ok KX G (c.fact 42 (f := .glo "_law_appended") rfl)⟩
  a_law_run := by
    obtain ⟨fd, F⟩ := c.def_ 43 (d := d_law_run) rfl
    exact ⟨_, fd, F, He.glo_ok KX G (c.fact 43 (f := .glo "_law_run") rfl)⟩
  a_law_writes := by
    obtain ⟨fd, F⟩ := c.def_ 44 (d := d_law_writes) rfl
    exact ⟨_, fd, F, He.glo_ok KX G (c.fact 44 (f := .glo "_law_writes") rfl)⟩
  a_law_way := by
    obtain ⟨fd, F⟩ := c.def_ 45 (d := d_law_way) rfl
    exact ⟨_, fd, F, He.glo_ok KX G (c.fact 45 (f := .glo "_law_way") rfl)⟩
  a_law_writers := by
    obtain ⟨fd, F⟩ := c.def_ 46 (d := d_law_writers) rfl
    exact ⟨_, fd, F, He.glo_ok KX G (c.fact 46 (f := .glo "_law_writers") rfl)⟩
  a_law_rule := by
    obtain ⟨fd, F⟩ := c.def_ 47 (d := d_law_rule) rfl
    exact ⟨_, fd, F, He.glo_ok KX G (c.fact 47 (f := .glo "_law_rule") rfl)⟩
  a_law_is_at_most := by
    obtain ⟨fd, F⟩ := c.def_ 48 (d := d_law_is_at_most) rfl
    exact ⟨_, fd, F, He.glo_ok KX G (c.fact 48 (f := .glo "_law_is_at_most") rfl)⟩
  a_law_is_met := by
    obtain ⟨fd, F⟩ := c.def_ 49 (d := d_law_is_met) rfl
    exact ⟨_, fd, F, He.glo_ok KX G (c.fact 49 (f := .glo "_law_is_met") rfl)⟩
  a_law_wanted := by
    obtain ⟨fd, F⟩ := c.def_ 50 (d := d_law_wanted) rfl
    exact ⟨_, fd, F, He.glo_ok KX G (c.fact 50 (f := .glo "_law_wanted") rfl)⟩
  a_law_caps := by
    obtain ⟨fd, F⟩ := c.def_ 51 (d := d_law_caps) rfl
    exact ⟨_, fd, F, He.glo_ok KX G (c.fact 51 (f := .glo "_law_caps") rfl)⟩
  a_law_again := by
    obtain ⟨fd, F⟩ := c.def_ 52 (d := d_law_again) rfl
    exact ⟨_, fd, F, He.glo_ok KX G (c.fact 52 (f := .glo "_law_again") rfl)⟩
  a_law_is_right := by
    obtain ⟨fd, F⟩ := c.def_ 53 (d := d_law_is_right) rfl
    exact ⟨_, fd, F, He.glo_ok KX G (c.fact 53 (f := .glo "_law_is_right") rfl)⟩
  a_law := by
    obtain ⟨fd, F⟩ := c.def_ 54 (d := d_law) rfl
    exact ⟨_, fd, F, He.glo_ok KX G (c.fact 54 (f := .glo "law") rfl)⟩
theorem tx_of {h : Heap} (KX : K.In h) (G : h.Ns mainGlobals mg) (c : He.SaysD fa fn K) (x : exB K = true) : Tx K mg where
  endless := ⟨_, He.glo_ok KX G (c.fact 55 (f := .glo "ENDLESS") rfl), fun H => He.tupB_ok x H⟩
  len := He.free_ok KX G (c.fact 56 (f := .free "len") rfl)
  isinstance := He.free_ok KX G (c.fact 57 (f := .free "isinstance") rfl)
  abs := He.free_ok KX G (c.fact 58 (f := .free "abs") rfl)
  any := He.free_ok KX G (c.fact 59 (f := .free "any") rfl)
  repr := He.free_ok KX G (c.fact 60 (f := .free "repr") rfl)
  max := He.free_ok KX G (c.fact 61 (f := .free "max") rfl)
  sorted := He.free_ok KX G (c.fact 62 (f := .free "sorted") rfl)
  tuple := He.free_ok KX G (c.fact 63 (f := .free "tuple") rfl)
  list := He.free_ok KX G (c.fact 64 (f := .free "list") rfl)
  int := He.free_ok KX G (c.fact 65 (f := .free "int") rfl)
  bool := He.free_ok KX G (c.fact 66 (f := .free "bool") rfl)
  dict := He.free_ok KX G (c.fact 67 (f := .free "dict") rfl)
  range := He.free_ok KX G (c.fact 68 (f := .free "range") rfl)
  enumerate := He.free_ok KX G (c.fact 69 (f := .free "enumerate") rfl)
  zip := He.free_ok KX G (c.fact 70 (f := .free "zip") rfl)
theorem law_def (A : All K mg) (T : Tx K mg) {f : Addr} {fd : FuncData} (F : FnP K "law" s_law [] f fd) : FnG P w K mg base 10 f fd P_law (sp_law K) := by
  have c_is_integer := cl_is_integer (P := P) (w := w) (base := base) A.a_is_integer T
  have c_span_of := cl_span_of (P := P) (w := w) (base := base) A.a_span_of T
  have c_reads := cl_reads (P := P) (w := w) (base := base) A.a_reads T
  have c_chosen := cl_chosen (P := P) (w := w) (base := base) A.a_chosen T
  have c_path_in := cl_path_in (P := P) (w := w) (base := base) A.a_path_in T
  have c_writes := cl_writes (P := P) (w := w) (base := base) A.a_writes T
  have c_table_policy := cl_table_policy (P := P) (w := w) (base := base) A.a_table_policy T
  have c_with_entry := cl_with_entry (P := P) (w := w) (base := base) A.a_with_entry T
  have c_law_start := cl_law_start (P := P) (w := w) (base := base) A.a_law_start T
  have c_law_draw := cl_law_draw (P := P) (w := w) (base := base) A.a_law_draw T
  have c_law_rows := cl_law_rows (P := P) (w := w) (base := base) A.a_law_rows T
  have c_law_looks := cl_law_looks (P := P) (w := w) (base := base) A.a_law_looks T
  have c_law_chosen := cl_law_chosen (P := P) (w := w) (base := base) A.a_law_chosen T
  have c_law_new_block := cl_law_new_block (P := P) (w := w) (base := base) A.a_law_new_block T
  have c_law_writes := cl_law_writes (P := P) (w := w) (base := base) A.a_law_writes T
  have c_law_way := cl_law_way (P := P) (w := w) (base := base) A.a_law_way T
  have c_law_is_at_most := cl_law_is_at_most (P := P) (w := w) (base := base) A.a_law_is_at_most T
  have c_is_between := cl_is_between (P := P) (w := w) (base := base) A.a_is_between T (c_is_integer := c_is_integer)
  have c_views := cl_views (P := P) (w := w) (base := base) A.a_views T (c_span_of := c_span_of)
  have c_allotted := cl_allotted (P := P) (w := w) (base := base) A.a_allotted T (c_chosen := c_chosen)
  have c_meeting := cl_meeting (P := P) (w := w) (base := base) A.a_meeting T (c_path_in := c_path_in)
  have c_candidates_in := cl_candidates_in (P := P) (w := w) (base := base) A.a_candidates_in T (c_path_in := c_path_in) (c_writes := c_writes)
  have c_raise_among := cl_raise_among (P := P) (w := w) (base := base) A.a_raise_among T (c_path_in := c_path_in)
  have c_law_place := cl_law_place (P := P) (w := w) (base := base) A.a_law_place T (c_law_draw := c_law_draw)
  have c_law_index := cl_law_index (P := P) (w := w) (base := base) A.a_law_index T (c_law_draw := c_law_draw)
  have c_law_values := cl_law_values (P := P) (w := w) (base := base) A.a_law_values T (c_law_draw := c_law_draw)
  have c_law_appended := cl_law_appended (P := P) (w := w) (base := base) A.a_law_appended T (c_law_new_block := c_law_new_block) (c_law_chosen := c_law_chosen)
  have c_law_writers := cl_law_writers (P := P) (w := w) (base := base) A.a_law_writers T (c_law_writes := c_law_writes) (c_law_way := c_law_way)
  have c_law_rule := cl_law_rule (P := P) (w := w) (base := base) A.a_law_rule T (c_law_draw := c_law_draw)
  have c_allotments := cl_allotments (P := P) (w := w) (base := base) A.a_allotments T (c_views := c_views) (c_allotted := c_allotted)
  have c_need_read := cl_need_read (P := P) (w := w) (base := base) A.a_need_read T (c_reads := c_reads) (c_is_between := c_is_between)
  have c_links_between := cl_links_between (P := P) (w := w) (base := base) A.a_links_between T (c_meeting := c_meeting) (c_path_in := c_path_in)
  have c_law_statement := cl_law_statement (P := P) (w := w) (base := base) A.a_law_statement T (c_law_draw := c_law_draw) (c_law_place := c_law_place) (c_law_index := c_law_index) (c_law_values := c_law_values)
  have c_law_run := cl_law_run (P := P) (w := w) (base := base) A.a_law_run T (c_law_rows := c_law_rows) (c_law_appended := c_law_appended)
  have c_copying := cl_copying (P := P) (w := w) (base := base) A.a_copying T (c_allotments := c_allotments) (c_views := c_views)
  have c_candidates := cl_candidates (P := P) (w := w) (base := base) A.a_candidates T (c_need_read := c_need_read) (c_candidates_in := c_candidates_in) (c_views := c_views)
  have c_goal_of := cl_goal_of (P := P) (w := w) (base := base) A.a_goal_of T (c_views := c_views) (c_links_between := c_links_between) (c_reads := c_reads) (c_meeting := c_meeting) (c_candidates_in := c_candidates_in)
  have c_is_visible := cl_is_visible (P := P) (w := w) (base := base) A.a_is_visible T (c_links_between := c_links_between)
  have c_law_code := cl_law_code (P := P) (w := w) (base := base) A.a_law_code T (c_law_place := c_law_place) (c_law_draw := c_law_draw) (c_law_statement := c_law_statement) (c_law_rows := c_law_rows) (c_law_index := c_law_index)
  have c_law_is_met := cl_law_is_met (P := P) (w := w) (base := base) A.a_law_is_met T (c_law_run := c_law_run)
  have c_law_wanted := cl_law_wanted (P := P) (w := w) (base := base) A.a_law_wanted T (c_law_draw := c_law_draw) (c_law_looks := c_law_looks) (c_law_run := c_law_run) (c_law_writers := c_law_writers)
  have c_first_barred := cl_first_barred (P := P) (w := w) (base := base) A.a_first_barred T (c_copying := c_copying)
  have c_next_raise := cl_next_raise (P := P) (w := w) (base := base) A.a_next_raise T (c_views := c_views) (c_copying := c_copying) (c_table_policy := c_table_policy) (c_raise_among := c_raise_among)
  have c_origins := cl_origins (P := P) (w := w) (base := base) A.a_origins T (c_views := c_views) (c_copying := c_copying) (c_reads := c_reads) (c_candidates_in := c_candidates_in) (c_is_visible := c_is_visible)
  have c_is_demand := cl_is_demand (P := P) (w := w) (base := base) A.a_is_demand T (c_is_between := c_is_between) (c_is_integer := c_is_integer) (c_candidates := c_candidates) (c_reads := c_reads)
  have c_goals_of := cl_goals_of (P := P) (w := w) (base := base) A.a_goals_of T (c_goal_of := c_goal_of)
  have c_trimmed := cl_trimmed (P := P) (w := w) (base := base) A.a_trimmed T (c_copying := c_copying) (c_table_policy := c_table_policy) (c_views := c_views)
  have c_linked_table := cl_linked_table (P := P) (w := w) (base := base) A.a_linked_table T (c_next_raise := c_next_raise) (c_with_entry := c_with_entry)
  have c_need_demands := cl_need_demands (P := P) (w := w) (base := base) A.a_need_demands T (c_is_demand := c_is_demand)
  have c_first_unmet := cl_first_unmet (P := P) (w := w) (base := base) A.a_first_unmet T (c_origins := c_origins) (c_table_policy := c_table_policy)
  have c_least_policy := cl_least_policy (P := P) (w := w) (base := base) A.a_least_policy T (c_need_demands := c_need_demands) (c_goals_of := c_goals_of) (c_first_barred := c_first_barred) (c_linked_table := c_linked_table) (c_first_unmet := c_first_unmet) (c_table_policy := c_table_policy) (c_trimmed := c_trimmed)
  have c_law_caps := cl_law_caps (P := P) (w := w) (base := base) A.a_law_caps T (c_least_policy := c_least_policy) (c_law_run := c_law_run)
  have c_law_again := cl_law_again (P := P) (w := w) (base := base) A.a_law_again T (c_least_policy := c_least_policy) (c_law_run := c_law_run)
  have c_law_is_right := cl_law_is_right (P := P) (w := w) (base := base) A.a_law_is_right T (c_least_policy := c_least_policy) (c_law_caps := c_law_caps) (c_law_run := c_law_run) (c_law_is_at_most := c_law_is_at_most) (c_law_is_met := c_law_is_met) (c_law_again := c_law_again)
  exact fn_law (P := P) (w := w) (base := base) F T (c_law_start := c_law_start) (c_law_code := c_law_code) (c_law_rows := c_law_rows) (c_law_rule := c_law_rule) (c_law_wanted := c_law_wanted) (c_law_is_right := c_law_is_right) (c_law_caps := c_law_caps) (c_law_again := c_law_again) (c_law_run := c_law_run)
/-- the law's def by its own address -/
theorem law_fn {h : Heap} {f : Addr} (KX : K.In h) (G : h.Ns mainGlobals mg) (c : He.SaysD fa fn K) (x : exB K = true) (hf : mg "law" = some (.ref f)) :
    ∃ fd : FuncData, (∀ (s : Shared) (v : Value), BindsTo s fd ⟨[v], []⟩ [("_law_script", v)]) ∧ ∀ base : Heap, FnG P w K mg base 10 f fd ["_law_script"] (sp_law K) := by
  have A := all_of KX G c
  have T := tx_of KX G c x
  obtain ⟨f0, fd, F, e⟩ := A.a_law
  have ef : f0 = f := by
    rw [hf] at e
    cases e
    rfl
  subst ef
  have bA := FunD.bindsA (ps := P_law) F fun _ _ _ _ _ _ us hl => match us, hl with | [_], _ => rfl
  exact ⟨fd, fun s v => bA s [v] rfl, fun base => law_def A T F⟩
end Hd
end GB
open PySem PySem.W PySem.Calls PyProof.Rows
theorem PySem.Challenge.cw_growblind_k85_whole_order_of_least_polic_holds : PySem.Challenge.rw_growblind_k85_whole_order_of_least_polic.Holds := by
  refine GB.Hd.holds_by (Att.attach_call (l := PySem.Challenge.rw_growblind_k85_whole_order_of_least_polic) (n := 63) rfl GB.Hd.law_dfl fun w s₀ s₁ mg mb fa o pm cd doc a vs ns G Y ho hd hcd hmg hobj hints hlen hg => ?_)
  obtain ⟨K, KX, c⟩ := Y
  have hmg : mg ("law" : PySem.Str) = some (.ref fa) := by
    rw [← GB.Hd.law_name]
    exact hmg
  have c1 : He.SaysD GB.Hd.fa GB.Hd.fn K := congrArg (fun z : GB.Hd.AlK => z.1) c
  have c2 : GB.Hd.exB K = true := congrArg (fun z : GB.Hd.AlK => z.2) c
  obtain ⟨fd, hb, hF⟩ := GB.Hd.law_fn (P := PySem.Challenge.rw_growblind_k85_whole_order_of_least_polic.prog) (w := w) KX G.T.g c1 c2 hmg
  exact GB.law_callG KX G.T.g G.T.b G.T.builtins G.T.nolimit hg hobj hints (Nat.le_trans hlen (by decide)) ⟨rfl, by decide, by decide⟩ (fun base _ _ => hF base) hb fun H hS => ⟨a, ns, rfl, hS, fun _ => rfl⟩
