import PyProof.Rows.All
import Wide.All
import OpenK.AllK
import Wide.FinOn
import HandS.ForMost
import HandS.Walk
import HandS.Style
import HandS.Wide
import PyProof.MaxThree
import KE.GoesEnumKw
import PyProof.Rows.CallKwBuiltin
import HandS.NoneIn
import HandS.IsInst
import HandS.SortInts
import HandS.Conv
import KE.DataMinMax
import HandS.SortKw
import PyProof.ReprRoads
import PyProof.ReprBulk
import HandS.Codes
import HandS.Zip
import HandS.More
import PySem.Challenge.RW_pleatpunch_k87_runs_grown_in_place

set_option Elab.async false
set_option linter.all false
set_option maxRecDepth 100000
set_option exponentiation.threshold 9000
set_option maxHeartbeats 4000000

/-! PL1: readings over plain data: values are data trees (D), a few cells are mutable (Cells), the rest of the heap only grows. -/
namespace PL
open PySem PySem.Spec L2

/-! ### heaps that grow -/
def Ex (H H' : Hp) : Prop := ∀ a o, H a = some o → H' a = some o
theorem Ex.refl (H : Hp) : Ex H H := fun _ _ h => h
theorem Ex.trans {H H1 H2 : Hp} (a : Ex H H1) (b : Ex H1 H2) : Ex H H2 := fun x o h => b x o (a x o h)
theorem Ex.new {H : Hp} {p : Addr} {o : HO} (h : H p = none) : Ex H (upd H p o) := fun a u e => by
  rw [upd_ne (ne_of_none e h)]
  exact e
theorem Ex.free {H H' : Hp} {p : Addr} (e : Ex H H') (h : H' p = none) : H p = none := by
  cases h1 : H p with
  | none => rfl
  | some o =>
    rw [e p o h1] at h
    cases h
/-- an object that H does not know may change -/
theorem Ex.mut {H H' : Hp} {p : Addr} {o : HO} (e : Ex H H') (h : H p = none) : Ex H (upd H' p o) := fun a u ha => by
  rw [upd_ne (ne_of_none ha h)]
  exact e a u ha
theorem Ex.both {H H' : Hp} {p : Addr} {o : HO} (e : Ex H H') : Ex (upd H p o) (upd H' p o) := fun a u ha => by
  by_cases h : a = p
  · subst h
    rw [upd_same] at ha ⊢
    exact ha
  · rw [upd_ne h] at ha ⊢
    exact e a u ha
theorem Ex.rd {H H' : Hp} {a : Addr} {u : HO} (e : Ex H H') (h : Rd H a u) : Rd H' a u := by
  rcases h with h | ⟨o, h⟩
  · exact .inl (e a _ h)
  · exact .inr ⟨o, e a _ h⟩
theorem Ex.sql {K : PySem.W.Frag} {H H' : Hp} {a : Addr} {xs : List V} (e : Ex H H') (h : SqL K H a xs) : SqL K H' a xs := h.elim (fun h => .inl (e.rd h)) .inr
theorem Ex.sqt {K : PySem.W.Frag} {H H' : Hp} {a : Addr} {xs : List V} (e : Ex H H') (h : SqT K H a xs) : SqT K H' a xs := h.elim (fun h => .inl (e.rd h)) .inr

/-! ### data -/
mutual
inductive Rp (H : Hp) : V → PyData → Prop
  | non : Rp H .non .none
  | bl (b : Bool) : Rp H (.bl b) (.bool b)
  | int (i : Int) : Rp H (.int i) (.int i)
  | str (x : Str) : Rp H (.str x) (.str x)
  | lst {a : Addr} {xs : List V} {ds : List PyData} : H a = some (.lst xs) → RpAll H xs ds → Rp H (.ref a) (.list ds)
  | tup {a : Addr} {xs : List V} {ds : List PyData} : H a = some (.tup xs) → RpAll H xs ds → Rp H (.ref a) (.tuple ds)
inductive RpAll (H : Hp) : List V → List PyData → Prop
  | nil : RpAll H [] []
  | cons {v : V} {vs : List V} {d : PyData} {ds : List PyData} : Rp H v d → RpAll H vs ds → RpAll H (v :: vs) (d :: ds)
end
mutual
theorem Rp.mono {H H' : Hp} (e : Ex H H') : ∀ {v : V} {d : PyData}, Rp H v d → Rp H' v d
  | _, _, .non => .non
  | _, _, .bl b => .bl b
  | _, _, .int i => .int i
  | _, _, .str x => .str x
  | _, _, .lst h r => .lst (e _ _ h) (RpAll.mono e r)
  | _, _, .tup h r => .tup (e _ _ h) (RpAll.mono e r)
theorem RpAll.mono {H H' : Hp} (e : Ex H H') : ∀ {vs : List V} {ds : List PyData}, RpAll H vs ds → RpAll H' vs ds
  | _, _, .nil => .nil
  | _, _, .cons h r => .cons (Rp.mono e h) (RpAll.mono e r)
end
mutual
theorem Rp.dp {K : PySem.W.Frag} {H : Hp} : ∀ {v : V} {d : PyData}, Rp H v d → Dp K H v d
  | _, _, .non => .non
  | _, _, .bl b => .bl b
  | _, _, .int i => .int i
  | _, _, .str x => .str x
  | _, _, .lst h r => .lst (SqL.of h) (RpAll.dp r)
  | _, _, .tup h r => .tup (SqT.of h) (RpAll.dp r)
theorem RpAll.dp {K : PySem.W.Frag} {H : Hp} : ∀ {vs : List V} {ds : List PyData}, RpAll H vs ds → DpAll K H vs ds
  | _, _, .nil => .nil
  | _, _, .cons h r => .cons (Rp.dp h) (RpAll.dp r)
end
theorem RpAll.length {H : Hp} : ∀ {vs : List V} {ds : List PyData}, RpAll H vs ds → vs.length = ds.length
  | _, _, .nil => rfl
  | _, _, .cons _ r => congrArg (· + 1) (RpAll.length r)
theorem RpAll.get {H : Hp} : ∀ {vs : List V} {ds : List PyData} {i : Nat} {d : PyData}, RpAll H vs ds → ds[i]? = some d → ∃ v, vs[i]? = some v ∧ Rp H v d
  | _, _, _, _, .nil, e => by simp at e
  | _, _, 0, _, .cons h _, e => by
    simp at e
    subst e
    exact ⟨_, rfl, h⟩
  | _, _, i + 1, d, .cons _ r, e => by
    obtain ⟨v, h1, h2⟩ := RpAll.get (i := i) (d := d) r (by simpa using e)
    exact ⟨v, by simpa using h1, h2⟩
theorem RpAll.getV {H : Hp} : ∀ {vs : List V} {ds : List PyData} {i : Nat} {v : V}, RpAll H vs ds → vs[i]? = some v → ∃ d, ds[i]? = some d ∧ Rp H v d
  | _, _, _, _, .nil, e => by simp at e
  | _, _, 0, _, .cons h _, e => by
    simp at e
    subst e
    exact ⟨_, rfl, h⟩
  | _, _, i + 1, v, .cons _ r, e => by
    obtain ⟨d, h1, h2⟩ := RpAll.getV (i := i) (v := v) r (by simpa using e)
    exact ⟨d, by simpa using h1, h2⟩
theorem RpAll.append {H : Hp} : ∀ {vs ws : List V} {ds es : List PyData}, RpAll H vs ds → RpAll H ws es → RpAll H (vs ++ ws) (ds ++ es)
  | _, _, _, _, .nil, s => s
  | _, _, _, _, .cons h r, s => .cons h (RpAll.append r s)
theorem RpAll.take {H : Hp} : ∀ {vs : List V} {ds : List PyData} (n : Nat), RpAll H vs ds → RpAll H (vs.take n) (ds.take n)
  | _, _, 0, _ => .nil
  | _, _, _ + 1, .nil => .nil
  | _, _, n + 1, .cons h r => .cons h (RpAll.take n r)
theorem RpAll.drop {H : Hp} : ∀ {vs : List V} {ds : List PyData} (n : Nat), RpAll H vs ds → RpAll H (vs.drop n) (ds.drop n)
  | _, _, 0, r => r
  | _, _, _ + 1, .nil => .nil
  | _, _, n + 1, .cons _ r => RpAll.drop n r
theorem RpAll.reverse {H : Hp} : ∀ {vs : List V} {ds : List PyData}, RpAll H vs ds → RpAll H vs.reverse ds.reverse
  | _, _, .nil => .nil
  | _, _, .cons h r => by
    rw [List.reverse_cons, List.reverse_cons]
    exact (RpAll.reverse r).append (.cons h .nil)
theorem RpAll.ints {H : Hp} : ∀ {vs : List V} {ns : List Int}, RpAll H vs (ns.map PyData.int) → vs = ns.map V.int
  | _, [], .nil => rfl
  | _, n :: r, .cons (.int _) t => by rw [RpAll.ints t]; rfl
theorem RpAll.bools {H : Hp} : ∀ {vs : List V} {bs : List Bool}, RpAll H vs (bs.map PyData.bool) → vs = bs.map V.bl
  | _, [], .nil => rfl
  | _, n :: r, .cons (.bl _) t => by rw [RpAll.bools t]; rfl
theorem RpAll.strs {H : Hp} : ∀ {vs : List V} {bs : List Str}, RpAll H vs (bs.map PyData.str) → vs = bs.map V.str
  | _, [], .nil => rfl
  | _, n :: r, .cons (.str _) t => by rw [RpAll.strs t]; rfl
theorem RpAll.ofInts {H : Hp} : ∀ ns : List Int, RpAll H (ns.map V.int) (ns.map PyData.int)
  | [] => .nil
  | n :: r => .cons (.int n) (RpAll.ofInts r)
theorem RpAll.ofStrs {H : Hp} : ∀ ns : List Str, RpAll H (ns.map V.str) (ns.map PyData.str)
  | [] => .nil
  | n :: r => .cons (.str n) (RpAll.ofStrs r)

/-- what a slot, a cell's place holds -/
inductive D where
  | py (p : PyData)
  | raw (v : V)
  | sq (K : PySem.W.Frag) (xs : List V)
  | sqt (K : PySem.W.Frag) (xs : List V)
abbrev dI (i : Int) : D := .py (.int i)
abbrev dB (b : Bool) : D := .py (.bool b)
abbrev dS (x : Str) : D := .py (.str x)
abbrev dN : D := .py .none
abbrev dL (ps : List PyData) : D := .py (.list ps)
abbrev dT (ps : List PyData) : D := .py (.tuple ps)
abbrev dR (a : Addr) : D := .raw (.ref a)
def RD (G : Hp) (v : V) : D → Prop
  | .py p => Rp G v p
  | .raw w => v = w
  | .sq K xs => ∃ a, v = .ref a ∧ SqL K G a xs
  | .sqt K xs => ∃ a, v = .ref a ∧ SqT K G a xs
theorem RD.mono {G G' : Hp} (e : Ex G G') {v : V} {d : D} (h : RD G v d) : RD G' v d := by
  cases d with
  | py p => exact Rp.mono e h
  | raw w => exact h
  | sq K xs =>
    obtain ⟨a, e1, e2⟩ := h
    exact ⟨a, e1, e.sql e2⟩
  | sqt K xs =>
    obtain ⟨a, e1, e2⟩ := h
    exact ⟨a, e1, e.sqt e2⟩
inductive All2 {α β : Type} (R : α → β → Prop) : List α → List β → Prop
  | nil : All2 R [] []
  | cons {a : α} {b : β} {as : List α} {bs : List β} : R a b → All2 R as bs → All2 R (a :: as) (b :: bs)
section
variable {α β : Type} {R S : α → β → Prop}
theorem All2.mono (f : ∀ a b, R a b → S a b) : ∀ {as : List α} {bs : List β}, All2 R as bs → All2 S as bs
  | _, _, .nil => .nil
  | _, _, .cons h r => .cons (f _ _ h) (All2.mono f r)
theorem All2.length : ∀ {as : List α} {bs : List β}, All2 R as bs → as.length = bs.length
  | _, _, .nil => rfl
  | _, _, .cons _ r => congrArg (· + 1) (All2.length r)
theorem All2.append : ∀ {as as' : List α} {bs bs' : List β}, All2 R as bs → All2 R as' bs' → All2 R (as ++ as') (bs ++ bs')
  | _, _, _, _, .nil, s => s
  | _, _, _, _, .cons h r, s => .cons h (All2.append r s)
theorem All2.get : ∀ {as : List α} {bs : List β} {i : Nat} {b : β}, All2 R as bs → bs[i]? = some b → ∃ a, as[i]? = some a ∧ R a b
  | _, _, _, _, .nil, e => by simp at e
  | _, _, 0, _, .cons h _, e => by
    simp at e
    subst e
    exact ⟨_, rfl, h⟩
  | _, _, i + 1, b, .cons _ r, e => by
    obtain ⟨v, h1, h2⟩ := All2.get (i := i) (b := b) r (by simpa using e)
    exact ⟨v, by simpa using h1, h2⟩
theorem All2.set {a : α} {b : β} (h : R a b) : ∀ {as : List α} {bs : List β} (i : Nat), All2 R as bs → All2 R (as.set i a) (bs.set i b)
  | _, _, _, .nil => .nil
  | _, _, 0, .cons _ r => .cons h r
  | _, _, i + 1, .cons q r => .cons q (All2.set h i r)
theorem All2.take : ∀ {as : List α} {bs : List β} (n : Nat), All2 R as bs → All2 R (as.take n) (bs.take n)
  | _, _, 0, _ => .nil
  | _, _, _ + 1, .nil => .nil
  | _, _, n + 1, .cons h r => .cons h (All2.take n r)
theorem All2.drop : ∀ {as : List α} {bs : List β} (n : Nat), All2 R as bs → All2 R (as.drop n) (bs.drop n)
  | _, _, 0, r => r
  | _, _, _ + 1, .nil => .nil
  | _, _, n + 1, .cons _ r => All2.drop n r
theorem All2.reverse : ∀ {as : List α} {bs : List β}, All2 R as bs → All2 R as.reverse bs.reverse
  | _, _, .nil => .nil
  | _, _, .cons h r => by
    rw [List.reverse_cons, List.reverse_cons]
    exact (All2.reverse r).append (.cons h .nil)
end
abbrev RDs (G : Hp) : List V → List D → Prop := All2 (RD G)
theorem RDs.mono {G G' : Hp} (e : Ex G G') {vs : List V} {ds : List D} (h : RDs G vs ds) : RDs G' vs ds := All2.mono (fun _ _ => RD.mono e) h
theorem RDs.all {G : Hp} : ∀ {vs : List V} {ps : List PyData}, RDs G vs (ps.map D.py) → RpAll G vs ps
  | _, [], .nil => .nil
  | _, p :: ps, .cons h r => .cons h (RDs.all r)
theorem RDs.of {G : Hp} : ∀ {vs : List V} {ps : List PyData}, RpAll G vs ps → RDs G vs (ps.map D.py)
  | _, _, .nil => .nil
  | _, _, .cons h r => .cons h (RDs.of r)

/-! ### the slots -/
abbrev Rho := List (Option D)
inductive REnv (G : Hp) : St → Rho → Prop
  | nil : REnv G [] []
  | some {v : V} {d : D} {σ : St} {ρ : Rho} : RD G v d → REnv G σ ρ → REnv G (Option.some v :: σ) (Option.some d :: ρ)
  | none {x : Option V} {σ : St} {ρ : Rho} : REnv G σ ρ → REnv G (x :: σ) (Option.none :: ρ)
theorem REnv.mono {G G' : Hp} (e : Ex G G') : ∀ {σ : St} {ρ : Rho}, REnv G σ ρ → REnv G' σ ρ
  | _, _, .nil => .nil
  | _, _, .some h r => .some (h.mono e) (REnv.mono e r)
  | _, _, .none r => .none (REnv.mono e r)
theorem REnv.length {G : Hp} : ∀ {σ : St} {ρ : Rho}, REnv G σ ρ → σ.length = ρ.length
  | _, _, .nil => rfl
  | _, _, .some _ r => congrArg (· + 1) (REnv.length r)
  | _, _, .none r => congrArg (· + 1) (REnv.length r)
theorem REnv.get {G : Hp} : ∀ {σ : St} {ρ : Rho} {i : Nat} {d : D}, REnv G σ ρ → ρ[i]? = Option.some (Option.some d) → ∃ v, σ[i]? = Option.some (Option.some v) ∧ RD G v d
  | _, _, _, _, .nil, e => by simp at e
  | _, _, 0, _, .some h _, e => by
    simp at e
    subst e
    exact ⟨_, rfl, h⟩
  | _, _, i + 1, d, .some _ r, e => by
    obtain ⟨v, h1, h2⟩ := REnv.get (i := i) (d := d) r (by simpa using e)
    exact ⟨v, by simpa using h1, h2⟩
  | _, _, 0, _, .none _, e => by simp at e
  | _, _, i + 1, d, .none r, e => by
    obtain ⟨v, h1, h2⟩ := REnv.get (i := i) (d := d) r (by simpa using e)
    exact ⟨v, by simpa using h1, h2⟩
theorem REnv.set {G : Hp} {v : V} {d : D} (h : RD G v d) : ∀ {σ : St} {ρ : Rho} (i : Nat), REnv G σ ρ → REnv G (σ.set i (Option.some v)) (ρ.set i (Option.some d))
  | _, _, _, .nil => .nil
  | _, _, 0, .some _ r => .some h r
  | _, _, 0, .none r => .some h r
  | _, _, i + 1, .some q r => .some q (REnv.set h i r)
  | _, _, i + 1, .none r => .none (REnv.set h i r)
/-- what is not needed any more is forgotten -/
inductive Wk : Rho → Rho → Prop
  | nil : Wk [] []
  | same {x : Option D} {ρ ρ' : Rho} : Wk ρ ρ' → Wk (x :: ρ) (x :: ρ')
  | drop {x : Option D} {ρ ρ' : Rho} : Wk ρ ρ' → Wk (x :: ρ) (none :: ρ')
theorem Wk.refl : ∀ ρ : Rho, Wk ρ ρ
  | [] => .nil
  | _ :: r => .same (Wk.refl r)
theorem REnv.weak {G : Hp} : ∀ {σ : St} {ρ ρ' : Rho}, REnv G σ ρ → Wk ρ ρ' → REnv G σ ρ'
  | _, _, _, .nil, .nil => .nil
  | _, _, _, .some h r, .same w => .some h (REnv.weak r w)
  | _, _, _, .some _ r, .drop w => .none (REnv.weak r w)
  | _, _, _, .none r, .same w => .none (REnv.weak r w)
  | _, _, _, .none r, .drop w => .none (REnv.weak r w)
theorem REnv.start {G : Hp} : ∀ {vs : List V} {ds : List D} (n : Nat), RDs G vs ds → REnv G (vs.map Option.some ++ List.replicate n Option.none) (ds.map Option.some ++ List.replicate n Option.none)
  | _, _, 0, .nil => .nil
  | _, _, n + 1, .nil => .none (REnv.start (vs := []) (ds := []) n .nil)
  | _, _, n, .cons h r => .some h (REnv.start n r)

/-! ### the cells -/
inductive Cell where
  | lst (ds : List D)
  | ins (C : Addr) (fs : List (Str × D))
  | dK (kvs : List (Key × D))
abbrev Cells := List (Addr × Cell)
def CellR (G H : Hp) (a : Addr) : Cell → Prop
  | .lst ds => ∃ vs, H a = some (.lst vs) ∧ RDs G vs ds
  | .ins C fs => ∃ dx vs, H a = some (.ins C dx vs) ∧ All2 (fun (p : Str × V) (q : Str × D) => p.1 = q.1 ∧ RD G p.2 q.2) vs fs
  | .dK kvs => ∃ vs, H a = some (.dK vs) ∧ All2 (fun (p : Key × V) (q : Key × D) => p.1 = q.1 ∧ RD G p.2 q.2) vs kvs
theorem CellR.known {G H : Hp} {a : Addr} {c : Cell} (h : CellR G H a c) : ∃ o, H a = some o := by
  cases c with
  | lst _ => obtain ⟨_, e, _⟩ := h; exact ⟨_, e⟩
  | ins _ _ => obtain ⟨_, _, e, _⟩ := h; exact ⟨_, e⟩
  | dK _ => obtain ⟨_, e, _⟩ := h; exact ⟨_, e⟩
theorem CellR.mono {G G' H H' : Hp} {a : Addr} {c : Cell} (e : Ex G G') (k : H' a = H a) (h : CellR G H a c) : CellR G' H' a c := by
  cases c with
  | lst _ => obtain ⟨vs, q, r⟩ := h; exact ⟨vs, k.trans q, RDs.mono e r⟩
  | ins _ _ => obtain ⟨dx, vs, q, r⟩ := h; exact ⟨dx, vs, k.trans q, All2.mono (fun _ _ z => ⟨z.1, z.2.mono e⟩) r⟩
  | dK _ => obtain ⟨vs, q, r⟩ := h; exact ⟨vs, k.trans q, All2.mono (fun _ _ z => ⟨z.1, z.2.mono e⟩) r⟩
/-- G: what stays; M: the cells, apart from it and from one another -/
structure Own (G : Hp) (M : Cells) (H : Hp) : Prop where
  ex : Ex G H
  nd : (M.map (·.1)).Nodup
  fr : ∀ p ∈ M, G p.1 = none
  ok : ∀ p ∈ M, CellR G H p.1 p.2
theorem Own.self (H : Hp) : Own H [] H := ⟨Ex.refl H, by simp, by simp, by simp⟩
theorem Own.notin {G H : Hp} {M : Cells} (o : Own G M H) {p : Addr} (h : H p = none) : p ∉ M.map (·.1) := fun hm => by
  obtain ⟨q, hq, e⟩ := List.mem_map.mp hm
  obtain ⟨ob, z⟩ := (o.ok q hq).known
  rw [e, h] at z
  cases z
/-- something new that stays -/
theorem Own.push {G H : Hp} {M : Cells} (o : Own G M H) {p : Addr} (h : H p = none) (u : HO) : Own (upd G p u) M (upd H p u) := by
  refine ⟨o.ex.both, o.nd, fun q hq => ?_, fun q hq => ?_⟩
  · have ne : q.1 ≠ p := fun e => o.notin h (e ▸ List.mem_map_of_mem hq)
    rw [upd_ne ne]
    exact o.fr q hq
  · have ne : q.1 ≠ p := fun e => o.notin h (e ▸ List.mem_map_of_mem hq)
    exact (o.ok q hq).mono (Ex.new (o.ex.free h)) (upd_ne ne)
/-- a new cell -/
theorem Own.cell {G H : Hp} {M F : Cells} (o : Own G (M ++ F) H) {p : Addr} (h : H p = none) {u : HO} {c : Cell} (hc : CellR G (upd H p u) p c) : Own G ((M ++ [(p, c)]) ++ F) (upd H p u) := by
  have hn := o.notin h
  refine ⟨o.ex.mut (o.ex.free h), ?_, fun q hq => ?_, fun q hq => ?_⟩
  · have nd := o.nd
    rw [List.map_append] at nd hn ⊢
    rw [List.map_append]
    simp only [List.map_cons, List.map_nil]
    rw [List.nodup_append] at nd ⊢
    rw [List.mem_append] at hn
    refine ⟨?_, nd.2.1, fun a ha b hb => ?_⟩
    · rw [List.nodup_append]
      refine ⟨nd.1, by simp, fun a ha b hb e => ?_⟩
      simp at hb
      exact hn (.inl (by rw [← hb, ← e]; exact ha))
    · rw [List.mem_append] at ha
      rcases ha with ha | ha
      · exact nd.2.2 a ha b hb
      · simp at ha
        intro e
        exact hn (.inr (by rw [← ha, e]; exact hb))
  · have hq' : q ∈ M ++ F ∨ q = (p, c) := by
      simp only [List.mem_append, List.mem_singleton] at hq ⊢
      rcases hq with (a | a) | a
      · exact .inl (.inl a)
      · exact .inr a
      · exact .inl (.inr a)
    rcases hq' with z | z
    · exact o.fr q z
    · rw [z]
      exact o.ex.free h
  · have hq' : q ∈ M ++ F ∨ q = (p, c) := by
      simp only [List.mem_append, List.mem_singleton] at hq ⊢
      rcases hq with (a | a) | a
      · exact .inl (.inl a)
      · exact .inr a
      · exact .inl (.inr a)
    rcases hq' with z | z
    · have ne : q.1 ≠ p := fun e => hn (e ▸ List.mem_map_of_mem z)
      exact (o.ok q z).mono (Ex.refl G) (upd_ne ne)
    · rw [z]
      exact hc
/-- at place i of the cells stands c, the cell of p -/
abbrev CA (M : Cells) (i : Nat) (p : Addr) (c : Cell) : Prop := M[i]? = some (p, c)
theorem CA.mem {M : Cells} {i : Nat} {p : Addr} {c : Cell} (h : CA M i p c) : (p, c) ∈ M := List.mem_of_getElem? h
theorem CA.lt {M : Cells} {i : Nat} {p : Addr} {c : Cell} (h : CA M i p c) : i < M.length := (List.getElem?_eq_some_iff.mp h).1
theorem CA.app {M : Cells} (F : Cells) {i : Nat} {p : Addr} {c : Cell} (h : CA M i p c) : CA (M ++ F) i p c := by
  show (M ++ F)[i]? = some (p, c)
  rw [List.getElem?_append_left h.lt]
  exact h
theorem CA.set_app {M : Cells} (F : Cells) {i : Nat} {p : Addr} {c : Cell} (y : Addr × Cell) (h : CA M i p c) : (M ++ F).set i y = M.set i y ++ F := by
  rw [List.set_append_left _ _ h.lt]
theorem CA.keys : ∀ {M : Cells} {i : Nat} {p : Addr} {c : Cell} (c' : Cell), CA M i p c → (M.set i (p, c')).map (·.1) = M.map (·.1)
  | (a, c0) :: r, 0, p, c, c', h => by
    simp only [CA, List.getElem?_cons_zero, Option.some.injEq, Prod.mk.injEq] at h
    simp [h.1]
  | (a, c0) :: r, i + 1, p, c, c', h => by
    simp only [CA, List.getElem?_cons_succ] at h
    simp only [List.set_cons_succ, List.map_cons, CA.keys c' (show CA r i p c from h)]
theorem CA.mem_set : ∀ {M : Cells} {i : Nat} {p : Addr} {c c' : Cell} {q : Addr × Cell}, (M.map (·.1)).Nodup → CA M i p c → q ∈ M.set i (p, c') → (q ∈ M ∧ q.1 ≠ p) ∨ (q = (p, c'))
  | (a, c0) :: r, 0, p, c, c', q, nd, h, hq => by
    simp only [CA, List.getElem?_cons_zero, Option.some.injEq, Prod.mk.injEq] at h
    simp only [List.map_cons, List.nodup_cons] at nd
    simp only [List.set_cons_zero] at hq
    rcases List.mem_cons.mp hq with z | z
    · exact .inr z
    · refine .inl ⟨List.mem_cons_of_mem _ z, fun e => nd.1 ?_⟩
      rw [h.1, ← e]
      exact List.mem_map_of_mem z
  | (a, c0) :: r, i + 1, p, c, c', q, nd, h, hq => by
    simp only [CA, List.getElem?_cons_succ] at h
    simp only [List.map_cons, List.nodup_cons] at nd
    simp only [List.set_cons_succ] at hq
    rcases List.mem_cons.mp hq with z | z
    · refine .inl ⟨by rw [z]; exact List.mem_cons_self .., fun e => nd.1 ?_⟩
      rw [z] at e
      have hm := List.mem_map_of_mem (f := (·.1)) (CA.mem (show CA r i p c from h))
      show a ∈ r.map (·.1)
      rw [show a = p from e]
      exact hm
    · rcases CA.mem_set nd.2 (show CA r i p c from h) z with ⟨z1, z2⟩ | z1
      · exact .inl ⟨List.mem_cons_of_mem _ z1, z2⟩
      · exact .inr z1
theorem Own.store {G H : Hp} {M F : Cells} (o : Own G (M ++ F) H) {i : Nat} {p : Addr} {c c' : Cell} (h : CA M i p c) {u : HO} (hc : CellR G (upd H p u) p c') : Own G (M.set i (p, c') ++ F) (upd H p u) := by
  have h' := h.app F
  have hm := h'.mem
  rw [← h.set_app F (p, c')]
  refine ⟨o.ex.mut (o.fr (p, c) hm), by rw [h'.keys]; exact o.nd, fun q hq => ?_, fun q hq => ?_⟩
  · rcases CA.mem_set o.nd h' hq with ⟨z, _⟩ | z
    · exact o.fr q z
    · rw [z]
      exact o.fr (p, c) hm
  · rcases CA.mem_set o.nd h' hq with ⟨z, ne⟩ | z
    · exact (o.ok q z).mono (Ex.refl G) (upd_ne ne)
    · rw [z]
      exact hc
theorem Own.at {G H : Hp} {M F : Cells} (o : Own G (M ++ F) H) {i : Nat} {p : Addr} {c : Cell} (h : CA M i p c) : CellR G H p c := o.ok _ (h.app F).mem
/-- cells are let go -/
theorem Own.sub {G H : Hp} {M N : Cells} (o : Own G M H) (h : List.Sublist N M) : Own G N H :=
  ⟨o.ex, o.nd.sublist (h.map _), fun p hp => o.fr p (h.subset hp), fun p hp => o.ok p (h.subset hp)⟩
/-- a cell that is a list of data from now on stays -/
theorem Own.freeze {G H : Hp} {M N : Cells} (o : Own G M H) {p : Addr} {ps : List PyData} (hm : (p, Cell.lst (ps.map D.py)) ∈ M) (h : List.Sublist N M) (hn : ∀ q ∈ N, q.1 ≠ p) :
    ∃ G', Ex G G' ∧ Own G' N H ∧ Rp G' (.ref p) (.list ps) := by
  obtain ⟨vs, hv, r⟩ := o.ok _ hm
  have e : Ex G (upd G p (.lst vs)) := Ex.new (o.fr _ hm)
  refine ⟨upd G p (.lst vs), e, ⟨fun a u ha => ?_, o.nd.sublist (h.map _), fun q hq => ?_, fun q hq => ?_⟩, .lst upd_same ((RDs.all r).mono e)⟩
  · by_cases ea : a = p
    · rw [ea, upd_same] at ha
      rw [ea, ← ha]
      exact hv
    · rw [upd_ne ea] at ha
      exact o.ex a u ha
  · rw [upd_ne (hn q hq)]
    exact o.fr q (h.subset hq)
  · exact (o.ok q (h.subset hq)).mono e rfl
end PL

/-! PL2: the judgements over data: SE (an expression), ST (a test), SA (arguments), SG (a target), SI (what a for walks), SS (a statement); WP-like, with what comes behind as a wish over data. -/
namespace PL
open PySem PySem.Spec L2

abbrev WX := Value → Option Addr → St → Hp → Prop
/-- an exception: its class, its own field -/
structure XD where
  cls : Value
  fld : Option (Str × D)
structure WD where
  E : WX
  K : XD → Rho → Cells → Prop
abbrev W0 : WD := ⟨fun _ _ _ _ => False, fun _ _ _ => False⟩
def XR (G H : Hp) (x : XD) (d : Option Addr) : Prop := match x.fld with
  | none => d = none
  | some (f, y) => ∃ a v, d = some a ∧ H a = some (.xd [(f, v)]) ∧ RD G v y
def MatchX (G : Hp) (F : Cells) (W : WD) : Prop := ∀ x ρ M d σ G' H, W.K x ρ M → Ex G G' → XR G' H x d → REnv G' σ ρ → Own G' (M ++ F) H → W.E x.cls d σ H
theorem MatchX.mono {G G' : Hp} {F : Cells} {W : WD} (e : Ex G G') (h : MatchX G F W) : MatchX G' F W := fun x ρ M d σ G2 H k e2 => h x ρ M d σ G2 H k (e.trans e2)
theorem matchX0 {G : Hp} {F : Cells} : MatchX G F W0 := fun _ _ _ _ _ _ _ k => k.elim
/-- what is wished behind a value -/
abbrev Fin (G : Hp) (F : Cells) (K : D → Cells → Prop) (Q : VK) : Prop := ∀ d M v G' H, K d M → Ex G G' → RD G' v d → Own G' (M ++ F) H → Q v H
abbrev FinT (G : Hp) (F : Cells) (K : Bool → Cells → Prop) (Q : Bool → Hp → Prop) : Prop := ∀ b M G' H, K b M → Ex G G' → Own G' (M ++ F) H → Q b H
abbrev FinA (G : Hp) (F : Cells) (K : List D → Cells → Prop) (Q : List V → Hp → Prop) : Prop := ∀ ds M vs G' H, K ds M → Ex G G' → RDs G' vs ds → Own G' (M ++ F) H → Q vs H
abbrev FinE (G : Hp) (F : Cells) (K : Rho → Cells → Prop) (Q : St → Hp → Prop) : Prop := ∀ ρ M σ G' H, K ρ M → Ex G G' → REnv G' σ ρ → Own G' (M ++ F) H → Q σ H
theorem Fin.mono {G G' : Hp} {F : Cells} {K : D → Cells → Prop} {Q : VK} (h : Fin G F K Q) (e : Ex G G') : Fin G' F K Q := fun d M v G2 H k e2 => h d M v G2 H k (e.trans e2)
theorem FinT.mono {G G' : Hp} {F : Cells} {K : Bool → Cells → Prop} {Q : Bool → Hp → Prop} (h : FinT G F K Q) (e : Ex G G') : FinT G' F K Q := fun d M G2 H k e2 => h d M G2 H k (e.trans e2)
theorem FinA.mono {G G' : Hp} {F : Cells} {K : List D → Cells → Prop} {Q : List V → Hp → Prop} (h : FinA G F K Q) (e : Ex G G') : FinA G' F K Q := fun d M v G2 H k e2 => h d M v G2 H k (e.trans e2)
theorem FinE.mono {G G' : Hp} {F : Cells} {K : Rho → Cells → Prop} {Q : St → Hp → Prop} (h : FinE G F K Q) (e : Ex G G') : FinE G' F K Q := fun d M v G2 H k e2 => h d M v G2 H k (e.trans e2)

abbrev IsB (d : D) (k : Bool → Prop) : Prop := ∃ b, d = dB b ∧ k b
abbrev IsI (d : D) (k : Int → Prop) : Prop := ∃ b, d = dI b ∧ k b
theorem isB {b : Bool} {k : Bool → Prop} (h : k b) : IsB (dB b) k := ⟨b, rfl, h⟩
theorem isI {b : Int} {k : Int → Prop} (h : k b) : IsI (dI b) k := ⟨b, rfl, h⟩
/-- the two ways of a test -/
structure Br (b : Bool) (A B : Prop) : Prop where
  t : b = true → A
  f : b = false → B
theorem br_dec {p : Prop} [Decidable p] {A B : Prop} (h1 : p → A) (h2 : ¬p → B) : Br (decide p) A B := ⟨fun e => h1 (of_decide_eq_true e), fun e => h2 (of_decide_eq_false e)⟩
theorem br_not {b : Bool} {A B : Prop} (h : Br b B A) : Br (!b) A B := ⟨fun e => h.f (by simpa using e), fun e => h.t (by simpa using e)⟩
theorem br_T {b : Bool} {A B : Prop} (e : b = true) (h : A) : Br b A B := ⟨fun _ => h, fun e' => absurd (e.symm.trans e') (by decide)⟩
theorem br_F {b : Bool} {A B : Prop} (e : b = false) (h : B) : Br b A B := ⟨fun e' => absurd (e.symm.trans e') (by decide), fun _ => h⟩
def SE (W : WD) (te : TE) (ρ : Rho) (M : Cells) (K : D → Cells → Prop) : Prop :=
  ∀ (G : Hp) (σ : St) (H : Hp) (F : Cells) (Q : VK), REnv G σ ρ → Own G (M ++ F) H → MatchX G F W → Fin G F K Q → te σ H Q
def ST (W : WD) (tt : TT) (ρ : Rho) (M : Cells) (K : Bool → Cells → Prop) : Prop :=
  ∀ (G : Hp) (σ : St) (H : Hp) (F : Cells) (Q : Bool → Hp → Prop), REnv G σ ρ → Own G (M ++ F) H → MatchX G F W → FinT G F K Q → tt σ H Q
def SA (W : WD) (ta : TA) (ρ : Rho) (M : Cells) (K : List D → Cells → Prop) : Prop :=
  ∀ (G : Hp) (σ : St) (H : Hp) (F : Cells) (Q : List V → Hp → Prop), REnv G σ ρ → Own G (M ++ F) H → MatchX G F W → FinA G F K Q → ta σ H Q
def OR (r : R2) (x y : D) (M : Cells) (K : D → Cells → Prop) : Prop :=
  ∀ (G H : Hp) (F : Cells) (u v : V) (Q : VK), RD G u x → RD G v y → Own G (M ++ F) H → Fin G F K Q → r u v H Q
def UR (r : V → Hp → VK → Prop) (x : D) (M : Cells) (K : D → Cells → Prop) : Prop :=
  ∀ (G H : Hp) (F : Cells) (u : V) (Q : VK), RD G u x → Own G (M ++ F) H → Fin G F K Q → r u H Q
def CR (r : List V → Hp → VK → Prop) (xs : List D) (M : Cells) (K : D → Cells → Prop) : Prop :=
  ∀ (G H : Hp) (F : Cells) (us : List V) (Q : VK), RDs G us xs → Own G (M ++ F) H → Fin G F K Q → r us H Q
def BR (r : V → List V → Hp → VK → Prop) (x : D) (xs : List D) (M : Cells) (K : D → Cells → Prop) : Prop :=
  ∀ (G H : Hp) (F : Cells) (u : V) (us : List V) (Q : VK), RD G u x → RDs G us xs → Own G (M ++ F) H → Fin G F K Q → r u us H Q
def SG (W : WD) (g : TG) (d : D) (ρ : Rho) (M : Cells) (K : Rho → Cells → Prop) : Prop :=
  ∀ (G : Hp) (σ : St) (H : Hp) (F : Cells) (v : V) (Q : St → Hp → Prop), RD G v d → REnv G σ ρ → Own G (M ++ F) H → MatchX G F W → FinE G F K Q → g v σ H Q
def SGs (W : WD) (g : TGs) (ds : List D) (ρ : Rho) (M : Cells) (K : Rho → Cells → Prop) : Prop :=
  ∀ (G : Hp) (σ : St) (H : Hp) (F : Cells) (vs : List V) (Q : St → Hp → Prop), RDs G vs ds → REnv G σ ρ → Own G (M ++ F) H → MatchX G F W → FinE G F K Q → g vs σ H Q

structure PD where
  nx : Rho → Cells → Prop
  rt : D → Cells → Prop
  bk : Rho → Cells → Prop := fun _ _ => False
  ct : Rho → Cells → Prop := fun _ _ => False
structure MatchD (G : Hp) (F : Cells) (P : PD) (D : Ends) : Prop where
  nx : FinE G F P.nx D.nx
  rt : Fin G F P.rt D.rt
  bk : FinE G F P.bk D.bk
  ct : FinE G F P.ct D.ct
theorem MatchD.mono {G G' : Hp} {F : Cells} {P : PD} {D : Ends} (h : MatchD G F P D) (e : Ex G G') : MatchD G' F P D := ⟨h.nx.mono e, h.rt.mono e, h.bk.mono e, h.ct.mono e⟩
def SS (W : WD) (t : TS) (ρ : Rho) (M : Cells) (P : PD) : Prop :=
  ∀ (G : Hp) (σ : St) (H : Hp) (F : Cells) (D : Ends), REnv G σ ρ → Own G (M ++ F) H → MatchX G F W → MatchD G F P D → t D σ H

section
variable {W : WD} {ρ : Rho} {M : Cells} {K : D → Cells → Prop} {KT : Bool → Cells → Prop} {KA : List D → Cells → Prop} {KE : Rho → Cells → Prop} {ta tb te tc : TE} {t u : TT} {P : PD} {Kf : PySem.W.Frag}

theorem SE.imp {K' : D → Cells → Prop} (h : SE W te ρ M K') (k : ∀ d M, K' d M → K d M) : SE W te ρ M K := fun G σ H F Q re o mx q => h G σ H F Q re o mx fun d M v G' H' kd => q d M v G' H' (k d M kd)
theorem ST.imp {K' : Bool → Cells → Prop} (h : ST W t ρ M K') (k : ∀ d M, K' d M → KT d M) : ST W t ρ M KT := fun G σ H F Q re o mx q => h G σ H F Q re o mx fun d M G' H' kd => q d M G' H' (k d M kd)

/-! ### names and constants -/
theorem se_var {i : Nat} {d : D} (h : ρ[i]? = some (some d)) (k : K d M) : SE W (tVar i) ρ M K := fun G σ H F Q re o mx q => by
  obtain ⟨v, e, r⟩ := re.get h
  exact ⟨v, e, q d M v G H k (Ex.refl G) r o⟩
theorem se_c {v : V} {d : D} (h : ∀ G, RD G v d) (k : K d M) : SE W (tC v) ρ M K := fun G σ H F Q re o mx q => q d M v G H k (Ex.refl G) (h G) o
theorem se_int {i : Int} (k : K (dI i) M) : SE W (tC (.int i)) ρ M K := se_c (d := dI i) (fun _ => Rp.int i) k
theorem se_str {x : Str} (k : K (dS x) M) : SE W (tC (.str x)) ρ M K := se_c (d := dS x) (fun _ => Rp.str x) k
theorem se_bl {b : Bool} (k : K (dB b) M) : SE W (tC (.bl b)) ρ M K := se_c (d := dB b) (fun _ => Rp.bl b) k
theorem se_non (k : K dN M) : SE W (tC .non) ρ M K := se_c (d := dN) (fun _ => Rp.non) k
theorem se_raw {v : V} (k : K (.raw v) M) : SE W (tC v) ρ M K := se_c (d := .raw v) (fun _ => rfl) k
theorem se_tup_c {a : Addr} {xs : List V} (h : ∀ H, SqT Kf H a xs) (k : K (.sqt Kf xs) M) : SE W (tC (.ref a)) ρ M K := se_c (d := .sqt Kf xs) (fun G => ⟨a, rfl, h G⟩) k

/-! ### operators -/
theorem se_op {r : R2} (h : SE W ta ρ M fun x M1 => SE W tb ρ M1 fun y M2 => OR r x y M2 K) : SE W (tOp r ta tb) ρ M K := fun G σ H F Q re o mx q =>
  h G σ H F _ re o mx fun x M1 u G1 H1 k1 e1 r1 o1 => k1 G1 σ H1 F _ (re.mono e1) o1 (mx.mono e1) fun y M2 v G2 H2 k2 e2 r2 o2 =>
    k2 G2 H2 F u v Q (r1.mono e2) r2 o2 (Fin.mono q (e1.trans e2))
theorem se_un {r : V → Hp → VK → Prop} (h : SE W ta ρ M fun x M1 => UR r x M1 K) : SE W (tUn r ta) ρ M K := fun G σ H F Q re o mx q =>
  h G σ H F _ re o mx fun x M1 u G1 H1 k1 e1 r1 o1 => k1 G1 H1 F u Q r1 o1 (Fin.mono q e1)
theorem int_of {G : Hp} {v : V} {i : Int} (h : RD G v (dI i)) : v = .int i := by cases h; rfl
theorem bl_of {G : Hp} {v : V} {i : Bool} (h : RD G v (dB i)) : v = .bl i := by cases h; rfl
theorem str_of {G : Hp} {v : V} {i : Str} (h : RD G v (dS i)) : v = .str i := by cases h; rfl
theorem non_of {G : Hp} {v : V} (h : RD G v dN) : v = .non := by cases h; rfl
/-- the value of a scalar -/
inductive Sc : V → D → Prop
  | int (i : Int) : Sc (.int i) (dI i)
  | bl (i : Bool) : Sc (.bl i) (dB i)
  | str (i : Str) : Sc (.str i) (dS i)
  | non : Sc .non dN
theorem Sc.rd {G : Hp} {v : V} {d : D} (h : Sc v d) : RD G v d := by
  cases h
  · exact Rp.int _
  · exact Rp.bl _
  · exact Rp.str _
  · exact Rp.non
theorem Sc.eq {G : Hp} {u v : V} {d : D} (h : Sc v d) (r : RD G u d) : u = v := by
  cases h
  · exact int_of r
  · exact bl_of r
  · exact str_of r
  · exact non_of r
theorem or_I0 {g : Int → Int → V} {i j : Int} {d : D} (hd : Sc (g i j) d) (k : K d M) : OR (rI0 g) (dI i) (dI j) M K := fun G H F u v Q r1 r2 o q => by
  cases int_of r1
  cases int_of r2
  exact ⟨i, j, rfl, rfl, q d M _ G H k (Ex.refl G) hd.rd o⟩
theorem or_I {C : Int → Int → Prop} {g : Int → Int → V} {i j : Int} {d : D} (hc : C i j) (hd : Sc (g i j) d) (k : K d M) : OR (rI C g) (dI i) (dI j) M K := fun G H F u v Q r1 r2 o q => by
  cases int_of r1
  cases int_of r2
  exact ⟨i, j, rfl, rfl, hc, q d M _ G H k (Ex.refl G) hd.rd o⟩
theorem or_add {i j : Int} (k : K (dI (i + j)) M) : OR (rI0 fun i j => .int (i + j)) (dI i) (dI j) M K := or_I0 (.int _) k
theorem or_sub {i j : Int} (k : K (dI (i - j)) M) : OR (rI0 fun i j => .int (i - j)) (dI i) (dI j) M K := or_I0 (.int _) k
theorem or_cmp {p : Int → Int → Bool} {i j : Int} (k : K (dB (p i j)) M) : OR (rI0 fun i j => .bl (p i j)) (dI i) (dI j) M K := or_I0 (.bl _) k
theorem or_eq {x y : D} {u v : V} (hx : Sc u x) (hy : Sc v y) (hs : scal u v = true) (k : K (dB (decide (u = v))) M) : OR rEq x y M K := fun G H F u' v' Q r1 r2 o q => by
  cases hx.eq r1
  cases hy.eq r2
  exact ⟨hs, q _ M _ G H k (Ex.refl G) (Rp.bl _) o⟩
theorem or_ne {x y : D} {u v : V} (hx : Sc u x) (hy : Sc v y) (hs : scal u v = true) (k : K (dB (!decide (u = v))) M) : OR rNe x y M K := fun G H F u' v' Q r1 r2 o q => by
  cases hx.eq r1
  cases hy.eq r2
  exact ⟨hs, q _ M _ G H k (Ex.refl G) (Rp.bl _) o⟩
theorem dec_int (i j : Int) : decide ((V.int i) = V.int j) = decide (i = j) := by
  by_cases h : i = j
  · simp [h]
  · simp [h]
theorem dec_str (i j : Str) : decide ((V.str i) = V.str j) = decide (i = j) := by
  by_cases h : i = j
  · simp [h]
  · simp [h]
theorem dec_bl (i j : Bool) : decide ((V.bl i) = V.bl j) = decide (i = j) := by
  by_cases h : i = j
  · simp [h]
  · simp [h]
theorem or_eqI {i j : Int} (k : K (dB (decide (i = j))) M) : OR rEq (dI i) (dI j) M K := or_eq (.int i) (.int j) rfl (by rw [dec_int]; exact k)
theorem or_neI {i j : Int} (k : K (dB (!decide (i = j))) M) : OR rNe (dI i) (dI j) M K := or_ne (.int i) (.int j) rfl (by rw [dec_int]; exact k)
theorem or_eqS {i j : Str} (k : K (dB (decide (i = j))) M) : OR rEq (dS i) (dS j) M K := or_eq (.str i) (.str j) rfl (by rw [dec_str]; exact k)
theorem or_neS {i j : Str} (k : K (dB (!decide (i = j))) M) : OR rNe (dS i) (dS j) M K := or_ne (.str i) (.str j) rfl (by rw [dec_str]; exact k)
theorem or_eqB {i j : Bool} (k : K (dB (decide (i = j))) M) : OR rEq (dB i) (dB j) M K := or_eq (.bl i) (.bl j) rfl (by rw [dec_bl]; exact k)
theorem ur_I {g : Int → V} {i : Int} {d : D} (hd : Sc (g i) d) (k : K d M) : UR (rU g) (dI i) M K := fun G H F u Q r1 o q => by
  cases int_of r1
  exact ⟨i, rfl, q d M _ G H k (Ex.refl G) hd.rd o⟩
theorem ur_neg {i : Int} (k : K (dI (-i)) M) : UR (rU fun i => .int (-i)) (dI i) M K := ur_I (.int _) k

/-! ### tests -/
theorem st_test (h : SE W te ρ M fun d M' => IsB d fun b => KT b M') : ST W (tTest te) ρ M KT := fun G σ H F Q re o mx q =>
  h G σ H F _ re o mx fun d M1 v G1 H1 ⟨b, ed, k⟩ e1 r1 o1 => by
    subst ed
    exact ⟨b, bl_of r1, q b M1 G1 H1 k e1 o1⟩
theorem st_B (h : SE W te ρ M fun d M' => IsB d fun b => KT b M') : ST W (tB te) ρ M KT := fun G σ H F Q re o mx q =>
  h G σ H F _ re o mx fun d M1 v G1 H1 ⟨b, ed, k⟩ e1 r1 o1 => by
    subst ed
    exact ⟨b, bl_of r1, q b M1 G1 H1 k e1 o1⟩
theorem st_not (h : ST W t ρ M fun b M' => KT (!b) M') : ST W (tNot t) ρ M KT := fun G σ H F Q re o mx q =>
  h G σ H F _ re o mx fun b M1 G1 H1 k e1 o1 => q _ M1 G1 H1 k e1 o1
theorem st_and (h : ST W t ρ M fun b M' => Br b (ST W u ρ M' KT) (KT false M')) : ST W (tAnd t u) ρ M KT := fun G σ H F Q re o mx q =>
  h G σ H F _ re o mx fun b M1 G1 H1 k e1 o1 => by
    cases b with
    | true => exact iteT (k.t rfl G1 σ H1 F Q (re.mono e1) o1 (mx.mono e1) (FinT.mono q e1))
    | false => exact iteF (q _ M1 G1 H1 (k.f rfl) e1 o1)
theorem st_or (h : ST W t ρ M fun b M' => Br b (KT true M') (ST W u ρ M' KT)) : ST W (tOr t u) ρ M KT := fun G σ H F Q re o mx q =>
  h G σ H F _ re o mx fun b M1 G1 H1 k e1 o1 => by
    cases b with
    | true => exact iteT (q _ M1 G1 H1 (k.t rfl) e1 o1)
    | false => exact iteF (k.f rfl G1 σ H1 F Q (re.mono e1) o1 (mx.mono e1) (FinT.mono q e1))
theorem se_if (h : ST W t ρ M fun b M' => Br b (SE W ta ρ M' K) (SE W tb ρ M' K)) : SE W (tIf t ta tb) ρ M K := fun G σ H F Q re o mx q =>
  h G σ H F _ re o mx fun b M1 G1 H1 k e1 o1 => by
    cases b with
    | true => exact iteT (k.t rfl G1 σ H1 F Q (re.mono e1) o1 (mx.mono e1) (Fin.mono q e1))
    | false => exact iteF (k.f rfl G1 σ H1 F Q (re.mono e1) o1 (mx.mono e1) (Fin.mono q e1))
theorem se_andV (h : SE W ta ρ M fun d M' => IsB d fun b => Br b (SE W tb ρ M' K) (K (dB false) M')) : SE W (tAndV ta tb) ρ M K := fun G σ H F Q re o mx q =>
  h G σ H F _ re o mx fun d M1 v G1 H1 ⟨b, ed, k⟩ e1 r1 o1 => by
    subst ed
    refine ⟨b, bl_of r1, ?_⟩
    cases b with
    | true => exact iteT (k.t rfl G1 σ H1 F Q (re.mono e1) o1 (mx.mono e1) (Fin.mono q e1))
    | false => exact iteF (q (dB false) M1 _ G1 H1 (k.f rfl) e1 (Rp.bl _) o1)
theorem se_orV (h : SE W ta ρ M fun d M' => IsB d fun b => Br b (K (dB true) M') (SE W tb ρ M' K)) : SE W (tOrV ta tb) ρ M K := fun G σ H F Q re o mx q =>
  h G σ H F _ re o mx fun d M1 v G1 H1 ⟨b, ed, k⟩ e1 r1 o1 => by
    subst ed
    refine ⟨b, bl_of r1, ?_⟩
    cases b with
    | true => exact iteT (q (dB true) M1 _ G1 H1 (k.t rfl) e1 (Rp.bl _) o1)
    | false => exact iteF (k.f rfl G1 σ H1 F Q (re.mono e1) o1 (mx.mono e1) (Fin.mono q e1))
theorem se_notV (h : SE W ta ρ M fun d M' => IsB d fun b => K (dB (!b)) M') : SE W (tNotV ta) ρ M K := fun G σ H F Q re o mx q =>
  h G σ H F _ re o mx fun d M1 v G1 H1 ⟨b, ed, k⟩ e1 r1 o1 => by
    subst ed
    exact ⟨b, bl_of r1, q _ M1 _ G1 H1 k e1 (Rp.bl _) o1⟩
theorem se_chain {r r' : R2} (h : SE W ta ρ M fun x M1 => SE W tb ρ M1 fun y M2 => OR r x y M2 fun z M3 => IsB z fun b => Br b (SE W tc ρ M3 fun w M4 => OR r' y w M4 K) (K (dB false) M3)) : SE W (tChain r r' ta tb tc) ρ M K := fun G σ H F Q re o mx q =>
  h G σ H F _ re o mx fun x M1 u G1 H1 k1 e1 r1 o1 => k1 G1 σ H1 F _ (re.mono e1) o1 (mx.mono e1) fun y M2 v G2 H2 k2 e2 r2 o2 =>
    k2 G2 H2 F u v _ (r1.mono e2) r2 o2 fun z M3 w G3 H3 ⟨b, ez, k3⟩ e3 r3 o3 => by
      subst ez
      refine ⟨b, bl_of r3, ?_⟩
      have e13 := e1.trans (e2.trans e3)
      cases b with
      | true => exact iteT (k3.t rfl G3 σ H3 F _ (re.mono e13) o3 (mx.mono e13) fun y4 M4 v4 G4 H4 k4 e4 r4 o4 => k4 G4 H4 F v v4 Q (r2.mono (e3.trans e4)) r4 o4 (Fin.mono q (e13.trans e4)))
      | false => exact iteF (q (dB false) M3 _ G3 H3 (k3.f rfl) e13 (Rp.bl _) o3)
theorem se_isN (h : SE W ta ρ M fun d M' => ∃ b, (∀ G v, RD G v d → decide (v = V.non) = b) ∧ K (dB b) M') : SE W (tIsN ta) ρ M K := fun G σ H F Q re o mx q =>
  h G σ H F _ re o mx fun d M1 v G1 H1 ⟨b, hb, k⟩ e1 r1 o1 => by
    show Q (.bl (decide (v = .non))) H1
    rw [hb G1 v r1]
    exact q _ M1 _ G1 H1 k e1 (Rp.bl _) o1

/-! ### arguments, calls -/
theorem sa_nil (k : KA [] M) : SA W tNil ρ M KA := fun G σ H F Q re o mx q => q [] M [] G H k (Ex.refl G) .nil o
theorem sa_cons {tr : TA} (h : SE W ta ρ M fun x M1 => SA W tr ρ M1 fun xs M2 => KA (x :: xs) M2) : SA W (tCons ta tr) ρ M KA := fun G σ H F Q re o mx q =>
  h G σ H F _ re o mx fun x M1 u G1 H1 k1 e1 r1 o1 => k1 G1 σ H1 F _ (re.mono e1) o1 (mx.mono e1) fun y M2 v G2 H2 k2 e2 r2 o2 => q (x :: y) M2 (u :: v) G2 H2 k2 (e1.trans e2) (.cons (r1.mono e2) r2) o2
theorem se_cb {r : List V → Hp → VK → Prop} {ta : TA} (h : SA W ta ρ M fun xs M1 => CR r xs M1 K) : SE W (tCB r ta) ρ M K := fun G σ H F Q re o mx q =>
  h G σ H F _ re o mx fun x M1 u G1 H1 k1 e1 r1 o1 => k1 G1 H1 F u Q r1 o1 (Fin.mono q e1)
/-- a def's promise over data -/
abbrev DSp := List D → Cells → (D → Cells → Prop) → (XD → Cells → Prop) → Prop
def FinX (G : Hp) (F : Cells) (KX : XD → Cells → Prop) (E : XK) : Prop := ∀ x M d G' H, KX x M → Ex G G' → XR G' H x d → Own G' (M ++ F) H → E x.cls d H
theorem FinX.mono {G G' : Hp} {F : Cells} {KX : XD → Cells → Prop} {E : XK} (h : FinX G F KX E) (e : Ex G G') : FinX G' F KX E := fun x M d G2 H k e2 => h x M d G2 H k (e.trans e2)
def spD (s : DSp) : Sp := fun vs H Q E => ∃ (G : Hp) (ds : List D) (M F : Cells) (K : D → Cells → Prop) (KX : XD → Cells → Prop), Own G (M ++ F) H ∧ RDs G vs ds ∧ s ds M K KX ∧ Fin G F K Q ∧ FinX G F KX E
theorem take_drop_app (M F : Cells) (n : Nat) : M ++ F = M.take n ++ (M.drop n ++ F) := by rw [← List.append_assoc, List.take_append_drop]
/-- a call that hands over the first n cells -/
theorem se_call (n : Nat) {s : DSp} {E : XK} {ta : TA} (hE : ∀ c d σ H, W.E c d σ H → E c d H)
    (h : SA W ta ρ M fun ds M1 => s ds (M1.take n) (fun d M' => K d (M' ++ M1.drop n)) fun x M' => W.K x ρ (M' ++ M1.drop n)) : SE W (tCall (spD s) [] E ta) ρ M K := fun G σ H F Q re o mx q =>
  h G σ H F _ re o mx fun ds M1 vs G1 H1 k1 e1 r1 o1 => by
    show spD s (vs ++ []) H1 Q E
    rw [List.append_nil]
    refine ⟨G1, ds, M1.take n, M1.drop n ++ F, _, _, by rw [← take_drop_app]; exact o1, r1, k1, fun d M' v G' H' k e r o' => ?_, fun x M' d G' H' k e xr o' => hE _ _ σ _ ?_⟩
    · refine q d (M' ++ M1.drop n) v G' H' k (e1.trans e) r ?_
      rw [List.append_assoc]
      exact o'
    · refine mx x ρ (M' ++ M1.drop n) d σ G' H' k (e1.trans e) xr (re.mono (e1.trans e)) ?_
      rw [List.append_assoc]
      exact o'
theorem se_call0 (n : Nat) {s : DSp} {ta : TA} (h : SA W0 ta ρ M fun ds M1 => s ds (M1.take n) (fun d M' => K d (M' ++ M1.drop n)) fun _ _ => False) : SE W0 (tCall (spD s) [] E0 ta) ρ M K := se_call n (fun _ _ _ _ z => z) h

/-! ### statements -/
theorem ss_seq {t u : TS} (h : SS W t ρ M { P with nx := fun ρ' M' => SS W u ρ' M' P }) : SS W (tSeq t u) ρ M P := fun G σ H F D re o mx md =>
  h G σ H F { D with nx := u D } re o mx ⟨fun ρ' M' σ' G' H' k e re' o' => k G' σ' H' F D re' o' (mx.mono e) (md.mono e), md.rt, md.bk, md.ct⟩
theorem ss_next (k : P.nx ρ M) : SS W tNext ρ M P := fun G σ H F D re o mx md => md.nx ρ M σ G H k (Ex.refl G) re o
theorem ss_break (k : P.bk ρ M) : SS W tBreak ρ M P := fun G σ H F D re o mx md => md.bk ρ M σ G H k (Ex.refl G) re o
theorem ss_cont (k : P.ct ρ M) : SS W tCont ρ M P := fun G σ H F D re o mx md => md.ct ρ M σ G H k (Ex.refl G) re o
theorem ss_ret (h : SE W te ρ M P.rt) : SS W (tRet te) ρ M P := fun G σ H F D re o mx md => h G σ H F _ re o mx md.rt
theorem ss_drop (h : SE W te ρ M fun _ M' => P.nx ρ M') : SS W (tDrop te) ρ M P := fun G σ H F D re o mx md =>
  h G σ H F _ re o mx fun d M1 v G1 H1 k e1 r1 o1 => md.nx ρ M1 σ G1 H1 k e1 (re.mono e1) o1
theorem ss_if {t1 t2 : TS} (h : ST W t ρ M fun b M' => Br b (SS W t1 ρ M' P) (SS W t2 ρ M' P)) : SS W (tIfS t t1 t2) ρ M P := fun G σ H F D re o mx md =>
  h G σ H F _ re o mx fun b M1 G1 H1 k e1 o1 => by
    cases b with
    | true => exact iteT (k.t rfl G1 σ H1 F D (re.mono e1) o1 (mx.mono e1) (md.mono e1))
    | false => exact iteF (k.f rfl G1 σ H1 F D (re.mono e1) o1 (mx.mono e1) (md.mono e1))
theorem sg_name {i : Nat} {d : D} (k : KE (ρ.set i (some d)) M) : SG W (gName i) d ρ M KE := fun G σ H F v Q r re o mx q => q _ M _ G H k (Ex.refl G) (re.set r i) o
theorem ss_asg {g : TG} (h : SE W te ρ M fun d M' => SG W g d ρ M' P.nx) : SS W (tAsg te g) ρ M P := fun G σ H F D re o mx md =>
  h G σ H F _ re o mx fun d M1 v G1 H1 k e1 r1 o1 => k G1 σ H1 F v _ r1 (re.mono e1) o1 (mx.mono e1) (FinE.mono md.nx e1)
theorem ss_set {i : Nat} (h : SE W te ρ M fun d M' => P.nx (ρ.set i (some d)) M') : SS W (tAsg te (gName i)) ρ M P := ss_asg (h.imp fun _ _ k => sg_name k)
theorem sgs_nil (k : KE ρ M) : SGs W gNil [] ρ M KE := fun G σ H F vs Q r re o mx q => by
  cases r
  exact ⟨rfl, q ρ M σ G H k (Ex.refl G) re o⟩
theorem sgs_cons {g : TG} {gs : TGs} {d : D} {ds : List D} (h : SG W g d ρ M fun ρ' M' => SGs W gs ds ρ' M' KE) : SGs W (gCons g gs) (d :: ds) ρ M KE := fun G σ H F vs Q r re o mx q => by
  cases r with
  | cons r1 rr =>
    exact ⟨_, _, rfl, h G σ H F _ _ r1 re o mx fun ρ' M' σ' G' H' k e re' o' => k G' σ' H' F _ Q (RDs.mono e rr) re' o' (mx.mono e) (FinE.mono q e)⟩
theorem sg_tup {n : Nat} {gs : TGs} {ps : List PyData} (hn : ps.length = n) (h : SGs W gs (ps.map D.py) ρ M KE) : SG W (gTup Kf n gs) (dT ps) ρ M KE := fun G σ H F v Q r re o mx q => by
  cases r with
  | tup ha hr => exact ⟨_, _, rfl, SqT.of (o.ex _ _ ha), by rw [← hn]; exact hr.length, h G σ H F _ Q (RDs.of hr) re o mx q⟩
theorem ss_par {i j : Nat} {ta : TA} (h : SA W ta ρ M fun ds M' => ∃ a b, ds = [a, b] ∧ P.nx ((ρ.set i (some a)).set j (some b)) M') : SS W (tPar i j ta) ρ M P := fun G σ H F D re o mx md =>
  h G σ H F _ re o mx fun ds M1 vs G1 H1 ⟨a, b, ed, k⟩ e1 r1 o1 => by
    subst ed
    cases r1 with
    | cons ra rr =>
      cases rr with
      | cons rb rn =>
        cases rn
        exact ⟨_, _, rfl, md.nx _ M1 _ G1 H1 k e1 (((re.mono e1).set ra i).set rb j) o1⟩
theorem ss_augI {i : Nat} {f : Int → Int → Int} {a : Int} (ha : ρ[i]? = some (some (dI a))) (h : SE W te ρ M fun d M' => IsI d fun b => P.nx (ρ.set i (some (dI (f a b)))) M') : SS W (tAug i te (ipI f)) ρ M P := fun G σ H F D re o mx md => by
  obtain ⟨v, ev, rv⟩ := re.get ha
  refine ⟨v, ev, h G σ H F _ re o mx fun d M1 w G1 H1 ⟨b, ed, k⟩ e1 r1 o1 => ?_⟩
  subst ed
  exact ⟨a, b, int_of rv, int_of r1, md.nx _ M1 _ G1 H1 k e1 ((re.mono e1).set (d := dI (f a b)) (Rp.int _) i) o1⟩
theorem ss_while {tb : TS} (I : Nat → Rho → Cells → Prop) (m0 : Nat) (h0 : I m0 ρ M)
    (hs : ∀ m ρ' M', I m ρ' M' → ST W t ρ' M' fun b M1 => Br b (SS W tb ρ' M1 { P with nx := fun ρ2 M2 => ∃ m', m' < m ∧ I m' ρ2 M2, ct := fun ρ2 M2 => ∃ m', m' < m ∧ I m' ρ2 M2, bk := P.nx }) (P.nx ρ' M1)) : SS W (tWhile t tb) ρ M P := fun G σ H F D re o mx md => by
  refine ⟨fun m σ' H' => ∃ ρ' M' G', Ex G G' ∧ REnv G' σ' ρ' ∧ Own G' (M' ++ F) H' ∧ I m ρ' M', ⟨m0, ρ, M, G, Ex.refl G, re, o, h0⟩, ?_⟩
  rintro m σ' H' ⟨ρ', M', G', e, re', o', i'⟩
  refine hs m ρ' M' i' G' σ' H' F _ re' o' (mx.mono e) fun b M1 G1 H1 k e1 o1 => ?_
  cases b with
  | true =>
    refine iteT ⟨fun σ2 H2 => ∃ ρ2 M2 G2, Ex G G2 ∧ REnv G2 σ2 ρ2 ∧ Own G2 (M2 ++ F) H2 ∧ ∃ m', m' < m ∧ I m' ρ2 M2, fun σ2 H2 => ?_, ?_⟩
    · rintro ⟨ρ2, M2, G2, a1, a2, a3, m', a4, a5⟩
      exact ⟨m', a4, ρ2, M2, G2, a1, a2, a3, a5⟩
    · refine k.t rfl G1 σ' H1 F _ (re'.mono e1) o1 (mx.mono (e.trans e1)) ⟨fun ρ2 M2 σ2 G2 H2 k2 e2 r2 o2 => ?_, (md.mono (e.trans e1)).rt, (md.mono (e.trans e1)).nx, fun ρ2 M2 σ2 G2 H2 k2 e2 r2 o2 => ?_⟩
      · exact ⟨ρ2, M2, G2, e.trans (e1.trans e2), r2, o2, k2⟩
      · exact ⟨ρ2, M2, G2, e.trans (e1.trans e2), r2, o2, k2⟩
  | false => exact iteF (md.nx ρ' M1 σ' G1 H1 (k.f rfl) (e.trans e1) (re'.mono e1) o1)
end

/-! ### what a for walks -/
structure DW (J : It) (G : Hp) (n : Nat) (Y : Nat → D → Prop) (C : Cells → Prop) : Prop where
  ex : ∃ (Gw : Hp → Prop) (Yw : Nat → Hp → V → Hp → Prop), Walk J n Gw Yw ∧ (∀ F G' M H, Ex G G' → Own G' (M ++ F) H → C M → Gw H) ∧
    ∀ F i G' M H x H', i < n → Ex G G' → Own G' (M ++ F) H → C M → Yw i H x H' → ∃ G2 d, Ex G' G2 ∧ RD G2 x d ∧ Y i d ∧ Own G2 (M ++ F) H'
def SI (W : WD) (wi : TI) (ρ : Rho) (M : Cells) (R : Nat → (Nat → D → Prop) → (Cells → Prop) → Cells → Prop) : Prop :=
  ∀ (G : Hp) (σ : St) (H : Hp) (F : Cells) (Q : It → Hp → Prop), REnv G σ ρ → Own G (M ++ F) H → MatchX G F W → (∀ n Y C M' G' H' J, R n Y C M' → Ex G G' → Own G' (M' ++ F) H' → DW J G' n Y C → Q J H') → wi σ H Q
section
variable {W : WD} {ρ : Rho} {M : Cells} {P : PD} {Kf : PySem.W.Frag} {g : TG} {tb : TS} {wi : TI}
theorem ss_for (h : SI W wi ρ M fun n Y C M1 => ∃ I : Nat → Rho → Cells → Prop, I 0 ρ M1 ∧ (∀ i ρ' M', i ≤ n → I i ρ' M' → C M') ∧
      (∀ i d ρ' M', i < n → Y i d → I i ρ' M' → SG W g d ρ' M' fun ρ2 M2 => SS W tb ρ2 M2 { P with nx := I (i + 1), ct := I (i + 1), bk := P.nx }) ∧ ∀ ρ' M', I n ρ' M' → P.nx ρ' M') : SS W (tFor wi g tb) ρ M P := fun G σ H F D re o mx md =>
  h G σ H F _ re o mx fun n Y C M1 G1 H1 J ⟨I, i0, iC, is, id⟩ e1 o1 dw => by
    obtain ⟨Gw, Yw, w, hG, hY⟩ := dw.ex
    refine for_it w (fun i σ' H' => ∃ ρ' M' G', Ex G1 G' ∧ REnv G' σ' ρ' ∧ Own G' (M' ++ F) H' ∧ I i ρ' M') ⟨ρ, M1, G1, Ex.refl G1, re.mono e1, o1, i0⟩ ?_ ?_ ?_
    · rintro i σ' H' hi ⟨ρ', M', G', e, r, o', i'⟩
      exact hG F G' M' H' e o' (iC i ρ' M' hi i')
    · rintro i x σ' H' H2 hi ⟨ρ', M', G', e, r, o', i'⟩ y
      obtain ⟨G2, d, e2, rd, yd, o2⟩ := hY F i G' M' H' x H2 hi e o' (iC i ρ' M' (Nat.le_of_lt hi) i') y
      have e3 := e1.trans (e.trans e2)
      refine is i d ρ' M' hi yd i' G2 σ' H2 F x _ rd (r.mono e2) o2 (mx.mono e3) fun ρ4 M4 σ4 G4 H4 k4 e4 r4 o4 => ?_
      have e5 := e3.trans e4
      refine k4 G4 σ4 H4 F _ r4 o4 (mx.mono e5) ⟨fun ρ6 M6 σ6 G6 H6 k6 e6 r6 o6 => ?_, (md.mono e5).rt, (md.mono e5).nx, fun ρ6 M6 σ6 G6 H6 k6 e6 r6 o6 => ?_⟩
      · exact ⟨ρ6, M6, G6, (e.trans e2).trans (e4.trans e6), r6, o6, k6⟩
      · exact ⟨ρ6, M6, G6, (e.trans e2).trans (e4.trans e6), r6, o6, k6⟩
    · rintro σ' H' ⟨ρ', M', G', e, r, o', i'⟩
      exact md.nx ρ' M' σ' G' H' (id ρ' M' i') (e1.trans e) r o'
/-- over data: the items one by one -/
abbrev YL (ps : List PyData) : Nat → D → Prop := fun i d => ∃ p, ps[i]? = some p ∧ d = .py p
theorem dw_list {G : Hp} {a : Addr} {ps : List PyData} (h : Rp G (.ref a) (.list ps)) : DW (Itl Kf a) G ps.length (YL ps) fun _ => True := by
  cases h with
  | lst ha r =>
    refine ⟨fun H => SqL Kf H a _, _, by rw [← r.length]; exact walk_list, fun _ G' M H e o _ => SqL.of (o.ex _ _ (e _ _ ha)), ?_⟩
    rintro F' i G' M H x H' hi e o _ ⟨rfl, hx⟩
    obtain ⟨p, hp, rp⟩ := r.getV hx
    exact ⟨G', .py p, Ex.refl G', rp.mono e, ⟨p, hp, rfl⟩, o⟩
theorem dw_tup {G : Hp} {a : Addr} {ps : List PyData} (h : Rp G (.ref a) (.tuple ps)) : DW (Itt Kf a) G ps.length (YL ps) fun _ => True := by
  cases h with
  | tup ha r =>
    refine ⟨fun H => SqT Kf H a _, _, by rw [← r.length]; exact walk_tup, fun _ G' M H e o _ => SqT.of (o.ex _ _ (e _ _ ha)), ?_⟩
    rintro F' i G' M H x H' hi e o _ ⟨rfl, hx⟩
    obtain ⟨p, hp, rp⟩ := r.getV hx
    exact ⟨G', .py p, Ex.refl G', rp.mono e, ⟨p, hp, rfl⟩, o⟩
theorem si_list {tl : TE} {R : Nat → (Nat → D → Prop) → (Cells → Prop) → Cells → Prop} (h : SE W tl ρ M fun d M1 => ∃ ps, d = dL ps ∧ R ps.length (YL ps) (fun _ => True) M1) : SI W (iList Kf tl) ρ M R := fun G σ H F Q re o mx q =>
  h G σ H F _ re o mx fun d M1 v G1 H1 ⟨ps, ed, k⟩ e1 r1 o1 => by
    subst ed
    have r1' : Rp G1 v (.list ps) := r1
    cases r1' with
    | lst ha r => exact ⟨_, rfl, ⟨_, SqL.of (o1.ex _ _ ha)⟩, q _ _ _ M1 G1 H1 _ k e1 o1 (dw_list (.lst ha r))⟩
theorem si_tup {tl : TE} {R : Nat → (Nat → D → Prop) → (Cells → Prop) → Cells → Prop} (h : SE W tl ρ M fun d M1 => ∃ ps, d = dT ps ∧ R ps.length (YL ps) (fun _ => True) M1) : SI W (iTup Kf tl) ρ M R := fun G σ H F Q re o mx q =>
  h G σ H F _ re o mx fun d M1 v G1 H1 ⟨ps, ed, k⟩ e1 r1 o1 => by
    subst ed
    have r1' : Rp G1 v (.tuple ps) := r1
    cases r1' with
    | tup ha r => exact ⟨_, rfl, ⟨_, SqT.of (o1.ex _ _ ha)⟩, q _ _ _ M1 G1 H1 _ k e1 o1 (dw_tup (.tup ha r))⟩
/-- over a cell's list -/
theorem si_cell {tl : TE} {R : Nat → (Nat → D → Prop) → (Cells → Prop) → Cells → Prop}
    (h : SE W tl ρ M fun d M1 => ∃ j p ds, d = dR p ∧ CA M1 j p (.lst ds) ∧ R ds.length (fun i d => ds[i]? = some d) (fun M' => CA M' j p (.lst ds)) M1) : SI W (iList Kf tl) ρ M R := fun G σ H F Q re o mx q =>
  h G σ H F _ re o mx fun d M1 v G1 H1 ⟨j, p, ds, ed, hc, k⟩ e1 r1 o1 => by
    subst ed
    cases r1
    obtain ⟨vs, hv, rv⟩ := o1.at hc
    refine ⟨p, rfl, ⟨vs, SqL.of hv⟩, q _ _ _ M1 G1 H1 _ k e1 o1 ⟨fun H => ∃ vs, H p = some (.lst vs) ∧ vs.length = ds.length, fun i H x H' => H' = H ∧ ∀ vs, H p = some (.lst vs) → vs[i]? = some x, ?_, fun F' G' M' H' e o' c => ?_, ?_⟩⟩
    · refine ⟨fun i H hi ⟨vs, hv, hl⟩ => ⟨vs, vs[i]'(by omega), SqL.of hv, by simp [show i < vs.length by omega]⟩, fun H ⟨vs, hv, hl⟩ => ⟨vs, SqL.of hv, Nat.le_of_eq hl⟩, fun i H x H' hi _ y => ⟨y.1, fun vs hv => y.2 vs (SqL.of hv)⟩⟩
    · obtain ⟨vs', hv', rv'⟩ := o'.at c
      exact ⟨vs', hv', rv'.length⟩
    · rintro F' i G' M' H' x H2 hi e o' c ⟨rfl, hx⟩
      obtain ⟨vs', hv', rv'⟩ := o'.at c
      obtain ⟨d, hd⟩ : ∃ d, ds[i]? = some d := ⟨ds[i], by simp [hi]⟩
      obtain ⟨v', hv2, rd⟩ := rv'.get hd
      have := (hx vs' hv').symm.trans hv2
      cases this
      exact ⟨G', d, Ex.refl G', rd, hd, o'⟩
theorem dw_range {G : Hp} {lo : Int} {n : Nat} : DW (Itr lo n) G n (fun i d => d = dI (lo + (i : Int))) fun _ => True := by
  refine ⟨fun _ => True, _, walk_range, fun _ _ _ _ _ _ _ => trivial, ?_⟩
  rintro F' i G' M H x H' hi e o _ ⟨rfl, rfl⟩
  exact ⟨G', dI _, Ex.refl G', Rp.int _, rfl, o⟩
theorem si_range1 {ta : TA} {R : Nat → (Nat → D → Prop) → (Cells → Prop) → Cells → Prop} (h : SA W ta ρ M fun ds M1 => ∃ j : Int, ds = [dI j] ∧ -(2 ^ 62) ≤ j ∧ j < 2 ^ 62 ∧ R j.toNat (fun i d => d = dI (i : Int)) (fun _ => True) M1) : SI W (iRng1 ta) ρ M R := fun G σ H F Q re o mx q =>
  h G σ H F _ re o mx fun ds M1 vs G1 H1 ⟨j, ed, h1, h2, k⟩ e1 r1 o1 => by
    subst ed
    cases r1 with
    | cons ra rn =>
      cases rn
      cases int_of ra
      refine ⟨j, rfl, h1, h2, q _ _ _ M1 G1 H1 _ k e1 o1 ?_⟩
      have z := dw_range (G := G1) (lo := 0) (n := j.toNat)
      simp only [Int.zero_add] at z
      exact z
theorem si_range2 {ta : TA} {R : Nat → (Nat → D → Prop) → (Cells → Prop) → Cells → Prop} (h : SA W ta ρ M fun ds M1 => ∃ i j : Int, ds = [dI i, dI j] ∧ (-(2 ^ 62) ≤ i ∧ i < 2 ^ 62 ∧ -(2 ^ 62) ≤ j ∧ j < 2 ^ 62) ∧ R (j - i).toNat (fun k d => d = dI (i + (k : Int))) (fun _ => True) M1) : SI W (iRng2 ta) ρ M R := fun G σ H F Q re o mx q =>
  h G σ H F _ re o mx fun ds M1 vs G1 H1 ⟨i, j, ed, h1, k⟩ e1 r1 o1 => by
    subst ed
    cases r1 with
    | cons ra rn =>
      cases rn with
      | cons rb rn =>
        cases rn
        cases int_of ra
        cases int_of rb
        exact ⟨i, j, rfl, h1, q _ _ _ M1 G1 H1 _ k e1 o1 dw_range⟩
theorem si_range3 {ta : TA} {R : Nat → (Nat → D → Prop) → (Cells → Prop) → Cells → Prop} (h : SA W ta ρ M fun ds M1 => ∃ (i j c : Int) (n : Nat), ds = [dI i, dI j, dI c] ∧ RgC i j c n ∧ R n (fun k d => d = dI (i + (k : Nat) * c)) (fun _ => True) M1) : SI W (iRng3 ta) ρ M R := fun G σ H F Q re o mx q =>
  h G σ H F _ re o mx fun ds M1 vs G1 H1 ⟨i, j, c, n, ed, h1, k⟩ e1 r1 o1 => by
    subst ed
    cases r1 with
    | cons ra rn =>
      cases rn with
      | cons rb rn =>
        cases rn with
        | cons rc rn =>
          cases rn
          cases int_of ra
          cases int_of rb
          cases int_of rc
          refine ⟨i, j, c, n, rfl, h1, q _ _ _ M1 G1 H1 _ k e1 o1 ⟨fun _ => True, _, walk_rangeC, fun _ _ _ _ _ _ _ => trivial, ?_⟩⟩
          rintro F' i' G' M' H' x H2 hi e o' _ ⟨rfl, rfl⟩
          exact ⟨G', dI _, Ex.refl G', Rp.int _, rfl, o'⟩
theorem si_str {te : TE} {R : Nat → (Nat → D → Prop) → (Cells → Prop) → Cells → Prop} (h : SE W te ρ M fun d M1 => ∃ x, d = dS x ∧ R x.cps.size (fun i d => ∃ c, x.cps[i]? = some c ∧ d = dS ⟨#[c]⟩) (fun _ => True) M1) : SI W (iStr te) ρ M R := fun G σ H F Q re o mx q =>
  h G σ H F _ re o mx fun d M1 v G1 H1 ⟨x, ed, k⟩ e1 r1 o1 => by
    subst ed
    cases str_of r1
    refine ⟨x, rfl, q _ _ _ M1 G1 H1 _ k e1 o1 ⟨fun _ => True, _, walk_str, fun _ _ _ _ _ _ _ => trivial, ?_⟩⟩
    rintro F' i' G' M' H' x' H2 hi e o' _ ⟨rfl, c, hc, rfl⟩
    exact ⟨G', dS _, Ex.refl G', Rp.str _, ⟨c, hc, rfl⟩, o'⟩
/-- a new pair of data, as a turn gives it -/
theorem pair_new {G : Hp} {M F : Cells} {H : Hp} {x y : V} {p q : PyData} {T : Addr} (o : Own G (M ++ F) H) (hT : H T = none) (hx : Rp G x p) (hy : Rp G y q) :
    ∃ G2 d, Ex G G2 ∧ RD G2 (.ref T) d ∧ d = dT [p, q] ∧ Own G2 (M ++ F) (upd H T (.tup [x, y])) := by
  have e : Ex G (upd G T (.tup [x, y])) := Ex.new (o.ex.free hT)
  exact ⟨upd G T (.tup [x, y]), dT [p, q], e, Rp.tup upd_same (.cons (hx.mono e) (.cons (hy.mono e) .nil)), rfl, o.push hT _⟩
theorem si_enum {ta : TA} {R : Nat → (Nat → D → Prop) → (Cells → Prop) → Cells → Prop} (h : SA W ta ρ M fun ds M1 => ∃ ps, ds = [dL ps] ∧ R ps.length (fun i d => ∃ p, ps[i]? = some p ∧ d = dT [.int (i : Int), p]) (fun _ => True) M1) : SI W (iEnum Kf ta) ρ M R := fun G σ H F Q re o mx q =>
  h G σ H F _ re o mx fun ds M1 vs G1 H1 ⟨ps, ed, k⟩ e1 r1 o1 => by
    subst ed
    cases r1 with
    | cons ra rn =>
      cases rn
      have ra' : Rp G1 _ (.list ps) := ra
      cases ra' with
      | lst ha r =>
        refine ⟨_, _, rfl, SqL.of (o1.ex _ _ ha), q _ _ _ M1 G1 H1 _ k e1 o1 ⟨fun H => SqL Kf H _ _, _, by rw [← r.length]; exact walk_enum, fun _ G' M H e o _ => SqL.of (o.ex _ _ (e _ _ ha)), ?_⟩⟩
        rintro F' i G' M' H' x H2 hi e o' _ ⟨T, y, z, rfl, hT, rfl, hy, hz⟩
        cases hy
        obtain ⟨p, hp, rp⟩ := r.getV hz
        obtain ⟨G2, d, a1, a2, a3, a4⟩ := pair_new o' hT (Rp.int (i : Int)) (rp.mono e)
        exact ⟨G2, d, a1, a2, ⟨p, hp, a3⟩, a4⟩
theorem si_zip {ta : TA} {R : Nat → (Nat → D → Prop) → (Cells → Prop) → Cells → Prop} (h : SA W ta ρ M fun ds M1 => ∃ ps qs, ds = [dL ps, dL qs] ∧ R (min ps.length qs.length) (fun i d => ∃ p q, ps[i]? = some p ∧ qs[i]? = some q ∧ d = dT [p, q]) (fun _ => True) M1) : SI W (iZip Kf ta) ρ M R := fun G σ H F Q re o mx q =>
  h G σ H F _ re o mx fun ds M1 vs G1 H1 ⟨ps, qs, ed, k⟩ e1 r1 o1 => by
    subst ed
    cases r1 with
    | cons ra rn =>
      cases rn with
      | cons rb rn =>
        cases rn
        have ra' : Rp G1 _ (.list ps) := ra
        have rb' : Rp G1 _ (.list qs) := rb
        cases ra' with
        | lst ha r =>
          cases rb' with
          | lst hb r' =>
            refine ⟨_, _, _, _, rfl, SqL.of (o1.ex _ _ ha), SqL.of (o1.ex _ _ hb), q _ _ _ M1 G1 H1 _ k e1 o1 ⟨fun H => SqL Kf H _ _ ∧ SqL Kf H _ _, _, walk_zip (by rw [r.length, r'.length]), fun _ G' M H e o _ => ⟨SqL.of (o.ex _ _ (e _ _ ha)), SqL.of (o.ex _ _ (e _ _ hb))⟩, ?_⟩⟩
            rintro F' i G' M' H' x H2 hi e o' _ ⟨T, y, z, rfl, hT, rfl, hy, hz⟩
            obtain ⟨p, hp, rp⟩ := r.getV hy
            obtain ⟨p2, hp2, rp2⟩ := r'.getV hz
            obtain ⟨G2, d, a1, a2, a3, a4⟩ := pair_new o' hT (rp.mono e) (rp2.mono e)
            exact ⟨G2, d, a1, a2, ⟨p, p2, hp, hp2, a3⟩, a4⟩
end
end PL

/-! PL3: comprehensions, defs' promises, lists, texts, dicts, instances over data. -/
namespace PL
open PySem PySem.Spec L2

/-! ### comprehensions -/
def GW (g : TG) (vs : List Nat) : Prop := ∀ v σ H (Q : St → Hp → Prop), (g v σ H fun σ2 H2 => wipe σ2 vs = wipe σ vs → Q σ2 H2) → g v σ H Q
def GWs (g : TGs) (vs : List Nat) : Prop := ∀ us σ H (Q : St → Hp → Prop), (g us σ H fun σ2 H2 => wipe σ2 vs = wipe σ vs → Q σ2 H2) → g us σ H Q
theorem wipe_set {x : Option V} {j : Nat} : ∀ {vs : List Nat} (σ : St), j ∈ vs → wipe (σ.set j x) vs = wipe σ vs
  | v :: vs, σ, h => by
    show (wipe (σ.set j x) vs).set v none = (wipe σ vs).set v none
    by_cases hm : j ∈ vs
    · rw [wipe_set σ hm]
    · have e : j = v := by
        rcases List.mem_cons.mp h with h | h
        · exact h
        · exact absurd h hm
      subst e
      have comm : ∀ ws : List Nat, j ∉ ws → wipe (σ.set j x) ws = (wipe σ ws).set j x := by
        intro ws
        induction ws with
        | nil => intro _; rfl
        | cons w ws ih =>
          intro hn
          simp only [List.mem_cons, not_or] at hn
          show (wipe (σ.set j x) ws).set w none = ((wipe σ ws).set w none).set j x
          rw [ih hn.2, List.set_comm _ _ (fun e => hn.1 e)]
      rw [comm vs hm, List.set_set]
theorem gw_name {j : Nat} {vs : List Nat} (h : j ∈ vs := by decide) : GW (gName j) vs := fun v σ H Q q => q (wipe_set σ h)
theorem gws_nil {vs : List Nat} : GWs gNil vs := fun us σ H Q ⟨e, q⟩ => ⟨e, q rfl⟩
theorem GW.weak {g : TG} {vs : List Nat} (h : GW g vs) {v : V} {σ : St} {H : Hp} {Q : St → Hp → Prop} (q : g v σ H Q) (mono : ∀ {Q Q' : St → Hp → Prop}, (∀ a b, Q a b → Q' a b) → g v σ H Q → g v σ H Q') : g v σ H fun σ2 H2 => Q σ2 H2 := q
/-- a target's reading is monotone, and leaves all but vs -/
structure GOk (g : TG) (vs : List Nat) : Prop where
  w : ∀ v σ H (Q Q' : St → Hp → Prop), (∀ σ2 H2, wipe σ2 vs = wipe σ vs → Q σ2 H2 → Q' σ2 H2) → g v σ H Q → g v σ H Q'
structure GOks (g : TGs) (vs : List Nat) : Prop where
  w : ∀ us σ H (Q Q' : St → Hp → Prop), (∀ σ2 H2, wipe σ2 vs = wipe σ vs → Q σ2 H2 → Q' σ2 H2) → g us σ H Q → g us σ H Q'
theorem gok_name {j : Nat} {vs : List Nat} (h : j ∈ vs := by decide) : GOk (gName j) vs := ⟨fun v σ H Q Q' m q => m _ _ (wipe_set σ h) q⟩
theorem goks_nil {vs : List Nat} : GOks gNil vs := ⟨fun us σ H Q Q' m ⟨e, q⟩ => ⟨e, m _ _ rfl q⟩⟩
theorem goks_cons {g : TG} {gs : TGs} {vs : List Nat} (h : GOk g vs) (hs : GOks gs vs) : GOks (gCons g gs) vs := ⟨fun us σ H Q Q' m ⟨v, r, e, q⟩ => ⟨v, r, e, h.w v σ H _ _ (fun σ2 H2 e2 q2 => hs.w r σ2 H2 _ _ (fun σ3 H3 e3 q3 => m σ3 H3 (e3.trans e2) q3) q2) q⟩⟩
theorem gok_tup {K : PySem.W.Frag} {n : Nat} {gs : TGs} {vs : List Nat} (hs : GOks gs vs) : GOk (gTup K n gs) vs := ⟨fun v σ H Q Q' m ⟨a, xs, e, h1, h2, q⟩ => ⟨a, xs, e, h1, h2, hs.w xs σ H _ _ m q⟩⟩
def wipeE (ρ : Rho) : List Nat → Rho
  | [] => ρ
  | v :: vs => (wipeE ρ vs).set v none
theorem REnv.setN {G : Hp} {x : Option V} : ∀ {σ : St} {ρ : Rho} (i : Nat), REnv G σ ρ → REnv G (σ.set i x) (ρ.set i Option.none)
  | _, _, _, .nil => .nil
  | _, _, 0, .some _ r => .none r
  | _, _, 0, .none r => .none r
  | _, _, i + 1, .some q r => .some q (REnv.setN i r)
  | _, _, i + 1, .none r => .none (REnv.setN i r)
theorem REnv.wipe {G : Hp} {σ : St} {ρ : Rho} (h : REnv G σ ρ) : ∀ vs : List Nat, REnv G (L2.wipe σ vs) (wipeE ρ vs)
  | [] => h
  | v :: vs => (REnv.wipe h vs).setN v
section
variable {W : WD} {ρ : Rho} {M : Cells} {K : D → Cells → Prop} {KA : List D → Cells → Prop} {ta tb te tc : TE} {t u : TT} {P : PD} {Kf : PySem.W.Frag} {wi : TI} {g : TG}
theorem own_swap {G H : Hp} {M F : Cells} {p : Addr} {c : Cell} (o : Own G ((M ++ [(p, c)]) ++ F) H) : Own G (M ++ ((p, c) :: F)) H := by
  rw [List.append_assoc] at o
  exact o
theorem own_store {G H : Hp} {M F : Cells} {p : Addr} {c c' : Cell} {u : HO} (o : Own G (M ++ ((p, c) :: F)) H) (hc : CellR G (upd H p u) p c') : Own G (M ++ ((p, c') :: F)) (upd H p u) := by
  have hm : (p, c) ∈ M ++ ((p, c) :: F) := List.mem_append_right _ (List.mem_cons_self ..)
  have nd := o.nd
  rw [List.map_append, List.map_cons, List.nodup_append] at nd
  have hF : p ∉ F.map (·.1) := (List.nodup_cons.mp nd.2.1).1
  have hM : p ∉ M.map (·.1) := fun h => nd.2.2 p h p (List.mem_cons_self ..) rfl
  have sp : ∀ q ∈ M ++ ((p, c') :: F), q = (p, c') ∨ (q ∈ M ++ ((p, c) :: F) ∧ q.1 ≠ p) := fun q hq => by
    rcases List.mem_append.mp hq with z | z
    · exact .inr ⟨List.mem_append_left _ z, fun e => hM (e ▸ List.mem_map_of_mem z)⟩
    · rcases List.mem_cons.mp z with z | z
      · exact .inl z
      · exact .inr ⟨List.mem_append_right _ (List.mem_cons_of_mem _ z), fun e => hF (e ▸ List.mem_map_of_mem z)⟩
  refine ⟨o.ex.mut (o.fr (p, c) hm), ?_, fun q hq => ?_, fun q hq => ?_⟩
  · have h2 := o.nd
    rw [List.map_append, List.map_cons] at h2 ⊢
    exact h2
  · rcases sp q hq with rfl | ⟨z, _⟩
    · exact o.fr (p, c) hm
    · exact o.fr q z
  · rcases sp q hq with rfl | ⟨z, ne⟩
    · exact hc
    · exact (o.ok q z).mono (Ex.refl G) (upd_ne ne)
theorem own_ne {G H : Hp} {M F : Cells} {p : Addr} {c : Cell} (o : Own G (M ++ ((p, c) :: F)) H) : ∀ q ∈ M ++ F, q.1 ≠ p := by
  have nd := o.nd
  rw [List.map_append, List.map_cons, List.nodup_append] at nd
  intro q hq e
  rcases List.mem_append.mp hq with z | z
  · exact nd.2.2 q.1 (List.mem_map_of_mem z) p (List.mem_cons_self ..) e
  · refine (List.nodup_cons.mp nd.2.1).1 ?_
    show p ∈ F.map (·.1)
    rw [← e]
    exact List.mem_map_of_mem z
theorem wipe_getD (σ : St) : ∀ (vs : List Nat) (i : Nat), (L2.wipe σ vs)[i]? = if i ∈ vs ∧ i < σ.length then some none else σ[i]?
  | [], i => by simp [L2.wipe]
  | v :: vs, i => by
    show ((L2.wipe σ vs).set v none)[i]? = _
    rw [List.getElem?_set, wipe_getD σ vs i, wipe_length]
    by_cases e : v = i
    · subst e
      by_cases hl : v < σ.length
      · simp [hl]
      · simp [hl, List.getElem?_eq_none (Nat.le_of_not_lt hl)]
    · have e' : ¬ i = v := fun z => e z.symm
      simp [e, e']
theorem wipe_wipe (σ : St) (vs : List Nat) : L2.wipe (L2.wipe σ vs) vs = L2.wipe σ vs := by
  apply List.ext_getElem?
  intro i
  rw [wipe_getD, wipe_getD, wipe_length]
  split <;> simp_all
theorem se_lc {vs : List Nat} (hg : GOk g vs) (h : SI W wi ρ M fun n Y C M1 => n ≤ 1000000 ∧ ∃ I : Nat → List D → Cells → Prop, I 0 [] M1 ∧ (∀ i acc M', i ≤ n → I i acc M' → C M') ∧
      (∀ i d acc M', i < n → acc.length ≤ i → Y i d → I i acc M' → SG W0 g d (wipeE ρ vs) M' fun ρ2 M2 => ST W0 t ρ2 M2 fun b M3 => Br b (SE W0 te ρ2 M3 fun e M4 => I (i + 1) (acc ++ [e]) M4) (I (i + 1) acc M3)) ∧
      ∀ acc M', I n acc M' → (∃ ps, acc = ps.map D.py ∧ K (dL ps) M') ∨ ∀ p, K (dR p) (M' ++ [(p, .lst acc)])) : SE W (tLc wi g t te vs) ρ M K := fun G σ H F Q re o mx q =>
  h G σ H F _ re o mx fun n Y C M1 G1 H1 J ⟨hn, I, i0, iC, is, id⟩ e1 o1 dw => by
    obtain ⟨Gw, Yw, w, hG, hY⟩ := dw.ex
    intro D hD
    refine lc_it w (fun i H' => ∃ acc M' G', Ex G1 G' ∧ Own G' (M' ++ ((D, .lst acc) :: F)) H' ∧ acc.length ≤ i ∧ I i acc M') ⟨[], M1, G1, Ex.refl G1, own_swap (o1.cell hD ⟨[], upd_same, .nil⟩), Nat.le_refl _, i0⟩ ?_ ?_ ?_
    · rintro i H' hi ⟨acc, M', G', e, o', hl, i'⟩
      exact hG F G' M' H' e (o'.sub (List.Sublist.append (List.Sublist.refl M') (List.sublist_cons_self _ F))) (iC i acc M' hi i')
    · rintro i x H' H2 hi ⟨acc, M', G', e, o', hl, i'⟩ y
      obtain ⟨G2, d, e2, rd, yd, o2⟩ := hY _ i G' M' H' x H2 hi e o' (iC i acc M' (Nat.le_of_lt hi) i') y
      have e3 := e1.trans (e.trans e2)
      refine hg.w x (L2.wipe σ vs) H2 (fun σ3 H3 => t σ3 H3 fun b H4 => if b = true then te σ3 H4 fun y H5 => ∃ ac, H5 D = some (.lst ac) ∧ ac.length < sizeLine ∧ _ else _) _ (fun σ3 H3 w3 q3 => ⟨by rw [w3]; exact wipe_wipe σ vs, q3⟩) ?_
      refine is i d acc M' hi hl yd i' G2 (L2.wipe σ vs) H2 ((D, .lst acc) :: F) x _ rd ((re.mono e3).wipe vs) o2 matchX0 fun ρ4 M4 σ4 G4 H4 k4 e4 r4 o4 => ?_
      refine k4 G4 σ4 H4 _ _ r4 o4 matchX0 fun b M5 G5 H5 k5 e5 o5 => ?_
      cases b with
      | true =>
        refine iteT (k5.t rfl G5 σ4 H5 _ _ (r4.mono e5) o5 matchX0 fun ed M6 v6 G6 H6 k6 e6 r6 o6 => ?_)
        obtain ⟨vs', hv, rv⟩ := o6.ok (D, .lst acc) (List.mem_append_right _ (List.mem_cons_self ..))
        have hlen := rv.length
        refine ⟨vs', hv, by
          show vs'.length < 16777216
          omega, acc ++ [ed], M6, G6, (e.trans e2).trans (e4.trans (e5.trans e6)), ?_, by rw [List.length_append]; exact Nat.add_le_add_right hl 1, k6⟩
        exact own_store o6 ⟨vs' ++ [v6], upd_same, rv.append (.cons r6 .nil)⟩
      | false =>
        exact iteF ⟨acc, M5, G5, (e.trans e2).trans (e4.trans e5), o5, Nat.le_succ_of_le hl, k5.f rfl⟩
    · rintro H' ⟨acc, M', G', e, o', hl, i'⟩
      rcases id acc M' i' with ⟨ps, rfl, k⟩ | k
      · obtain ⟨G2, e2, o2, r2⟩ := o'.freeze (p := D) (ps := ps) (N := M' ++ F) (List.mem_append_right _ (List.mem_cons_self ..)) (List.Sublist.append (List.Sublist.refl M') (List.sublist_cons_self _ F)) (own_ne o')
        exact q (dL ps) M' _ G2 H' k (e1.trans (e.trans e2)) r2 o2
      · refine q (dR D) (M' ++ [(D, .lst acc)]) _ G' H' (k D) (e1.trans e) rfl ?_
        rw [List.append_assoc]
        exact o'
end
end PL

/-! PL4: a def's promise from its body; lists, tuples, texts, dicts, instances over data. -/
namespace PL
open PySem PySem.Spec L2
open PyProof.Rows (envOfC)

/-! ### a def -/
/-- what a def hands back: data, or a list of its own that is let go -/
inductive Ret (n : Nat) (K : D → Cells → Prop) : D → Cells → Prop
  | py {p : PyData} {M : Cells} : K (.py p) (M.take n) → Ret n K (.py p) M
  | raw {v : V} {M : Cells} : K (.raw v) (M.take n) → Ret n K (.raw v) M
  | lst {a : Addr} {ps : List PyData} {M : Cells} (i : Nat) : CA (M.drop n) i a (.lst (ps.map D.py)) → K (dL ps) (M.take n) → Ret n K (dR a) M
  | cell {a : Addr} {c : Cell} {M : Cells} : (M.drop n).getLast? = some (a, c) → K (dR a) (M.take n ++ [(a, c)]) → Ret n K (dR a) M
theorem getLast_sub {α : Type} {l : List α} {x : α} (h : l.getLast? = some x) : List.Sublist [x] l := by
  have e : l ≠ [] := fun e => by rw [e] at h; cases h
  rw [List.getLast?_eq_getLast e] at h
  cases h
  have := List.getLast_mem e
  exact List.singleton_sublist.mpr this
theorem Ret.fin {G : Hp} {F : Cells} {n : Nat} {K : D → Cells → Prop} {Q : VK} (h : Fin G F K Q) : Fin G F (Ret n K) Q := fun d M v G' H k e r o => by
  have sub : List.Sublist (M.take n ++ F) (M ++ F) := List.Sublist.append (List.take_sublist n M) (List.Sublist.refl F)
  cases k with
  | py k => exact h _ _ v G' H k e r (o.sub sub)
  | raw k => exact h _ _ v G' H k e r (o.sub sub)
  | @lst a ps M i hc k =>
    cases r
    have hm : (a, Cell.lst (ps.map D.py)) ∈ M.drop n := CA.mem hc
    have hne : ∀ q ∈ M.take n ++ F, q.1 ≠ a := by
      have nd := o.nd
      rw [show M = M.take n ++ M.drop n from (List.take_append_drop n M).symm, List.map_append, List.map_append, List.nodup_append, List.nodup_append] at nd
      intro q hq e
      rcases List.mem_append.mp hq with z | z
      · exact nd.1.2.2 q.1 (List.mem_map_of_mem z) a (List.mem_map_of_mem (f := (·.1)) hm) e
      · exact nd.2.2 a (List.mem_append_right _ (List.mem_map_of_mem (f := (·.1)) hm)) q.1 (List.mem_map_of_mem z) e.symm
    obtain ⟨G2, e2, o2, r2⟩ := o.freeze (p := a) (ps := ps) (N := M.take n ++ F) (List.mem_append_left _ (List.mem_of_mem_drop hm)) sub hne
    exact h _ _ _ G2 H k (e.trans e2) r2 o2
  | @cell a c M hc k =>
    refine h _ _ v G' H k e r (o.sub ?_)
    rw [List.append_assoc]
    have h1 : List.Sublist (M.take n ++ [(a, c)]) M := by
      have h2 : List.Sublist (M.take n ++ [(a, c)]) (M.take n ++ M.drop n) := List.Sublist.append (List.Sublist.refl _) (getLast_sub hc)
      rw [List.take_append_drop] at h2
      exact h2
    rw [← List.append_assoc]
    exact List.Sublist.append h1 (List.Sublist.refl F)
abbrev PFn (n : Nat) (K : D → Cells → Prop) : PD := { nx := fun _ M => K dN (M.take n), rt := Ret n K }
theorem MatchD.fn {G : Hp} {F : Cells} {n : Nat} {K : D → Cells → Prop} {Q : VK} (h : Fin G F K Q) : MatchD G F (PFn n K) { nx := fun _ H' => Q .non H', rt := Q } where
  nx := fun ρ M σ G' H k e re o => h dN (M.take n) .non G' H k e Rp.non (o.sub (List.Sublist.append (List.take_sublist n M) (List.Sublist.refl F)))
  rt := Ret.fin h
  bk := fun _ _ _ _ _ k => k.elim
  ct := fun _ _ _ _ _ k => k.elim
section
variable {P : Program} {w : World} {K : PySem.W.Frag} {mg : Str → Option Value} {base : Heap}
/-- a def that lets nothing out -/
theorem fn_ok {x qual : Str} {st : Stmt} {f : Addr} {fd : FuncData} {N ps : List Str} {k : Nat} {s : DSp} (F : Fun K x qual st f fd) (S : FnScope N ps (defScope st)) (hl : ∀ ds M K KX, s ds M K KX → ds.length = ps.length)
    (hb : ∀ (cdv : Value) (A : Around) (outer : List PySem.Env) (s0 : Shared) (H : Hp) (E : XK), Room k (A.deeper (envOfC qual (defScope st) s0.heap.objs.size f cdv)) →
      ∃ t, PSs (cxOf CX0 P w K mg base N qual (defScope st) f cdv A outer s0 H E).nox (defBody st) t ∧
        ∀ (ds : List D) (M : Cells) (Kd : D → Cells → Prop) (KX : XD → Cells → Prop), s ds M Kd KX → SS W0 t (ds.map some ++ List.replicate (N.length - ps.length) none) M (PFn M.length Kd)) :
    FnOk P w K mg base CX0 (k + 1) f fd ps (spD s) := by
  have hlen : ∀ vs H Q E, spD s vs H Q E → vs.length = ps.length := fun vs H Q E ⟨G, ds, M, F, Kd, KX, o, r, h, _, _⟩ => by
    rw [r.length]
    exact hl ds M Kd KX h
  refine F.ok S hlen fun cdv A outer s0 H vs Q E hr h => ?_
  obtain ⟨t, ht, hs⟩ := hb cdv A outer s0 H E hr
  refine ⟨t, ht, ?_⟩
  have hv := hlen vs H Q E h
  obtain ⟨G, ds, M, F, Kd, KX, o, r, h, q, qx⟩ := h
  unfold L2.start
  rw [hv]
  exact hs ds M Kd KX h G _ H F _ (REnv.start _ r) o matchX0 (MatchD.fn q)
end

section
variable {W : WD} {ρ : Rho} {M : Cells} {K : D → Cells → Prop} {KT : Bool → Cells → Prop} {KA : List D → Cells → Prop} {KE : Rho → Cells → Prop} {ta tb te tc : TE} {t u : TT} {P : PD} {Kf : PySem.W.Frag}

/-! ### displays -/
def unpy : List D → Option (List PyData)
  | [] => some []
  | .py p :: r => match unpy r with
    | some ps => some (p :: ps)
    | none => none
  | _ => none
theorem unpy_eq : ∀ {ds : List D} {ps : List PyData}, unpy ds = some ps → ds = ps.map D.py
  | [], ps, h => by
    cases h
    rfl
  | .py p :: r, ps, h => by
    unfold unpy at h
    split at h
    · rename_i qs e
      cases h
      rw [unpy_eq e]
      rfl
    · cases h
  | .raw _ :: _, _, h => by cases h
  | .sq _ _ :: _, _, h => by cases h
  | .sqt _ _ :: _, _, h => by cases h
theorem big_ok {n : Nat} (h : n ≤ 1000000) : n ≤ sizeLine := Nat.le_trans h (by decide)
abbrev Unp (ds : List D) (k : List PyData → Prop) : Prop := ∃ ps, unpy ds = some ps ∧ ps.length ≤ 1000000 ∧ k ps
theorem unp {ds : List D} {ps : List PyData} {k : List PyData → Prop} (e : unpy ds = some ps) (hl : ps.length ≤ 1000000) (h : k ps) : Unp ds k := ⟨ps, e, hl, h⟩
theorem se_lst {ta : TA} (h : SA W ta ρ M fun ds M' => Unp ds fun ps => K (dL ps) M') : SE W (tLst ta) ρ M K := fun G σ H F Q re o mx q =>
  h G σ H F _ re o mx fun ds M1 vs G1 H1 ⟨ps, eu, hl, k⟩ e1 r1 o1 => by
    cases unpy_eq eu
    have r := RDs.all r1
    refine ⟨by rw [r.length]; exact big_ok hl, fun p hp => ?_⟩
    have e2 : Ex G1 (upd G1 p (.lst vs)) := Ex.new (o1.ex.free hp)
    exact q (dL ps) M1 _ (upd G1 p (.lst vs)) _ k (e1.trans e2) (Rp.lst upd_same (r.mono e2)) (o1.push hp _)
theorem se_tup {ta : TA} (h : SA W ta ρ M fun ds M' => Unp ds fun ps => K (dT ps) M') : SE W (tTup ta) ρ M K := fun G σ H F Q re o mx q =>
  h G σ H F _ re o mx fun ds M1 vs G1 H1 ⟨ps, eu, hl, k⟩ e1 r1 o1 => by
    cases unpy_eq eu
    have r := RDs.all r1
    refine ⟨by rw [r.length]; exact big_ok hl, fun p hp => ?_⟩
    have e2 : Ex G1 (upd G1 p (.tup vs)) := Ex.new (o1.ex.free hp)
    exact q (dT ps) M1 _ (upd G1 p (.tup vs)) _ k (e1.trans e2) (Rp.tup upd_same (r.mono e2)) (o1.push hp _)
/-- a list that is to change -/
theorem se_lstC {ta : TA} (h : SA W ta ρ M fun ds M' => ds.length ≤ 1000000 ∧ ∀ p, K (dR p) (M' ++ [(p, .lst ds)])) : SE W (tLst ta) ρ M K := fun G σ H F Q re o mx q =>
  h G σ H F _ re o mx fun ds M1 vs G1 H1 ⟨hl, k⟩ e1 r1 o1 => by
    refine ⟨by rw [r1.length]; exact big_ok hl, fun p hp => ?_⟩
    exact q (dR p) _ _ G1 _ (k p) e1 rfl (o1.cell hp ⟨vs, upd_same, r1⟩)

/-! ### views of a list -/
/-- d is a list of ds: data, a cell's, or one that is only read -/
inductive LV (M : Cells) : D → List D → Prop
  | py (ps : List PyData) : LV M (dL ps) (ps.map D.py)
  | cell {p : Addr} {ds : List D} (i : Nat) : CA M i p (.lst ds) → LV M (dR p) ds
theorem LV.at {M F : Cells} {G H : Hp} {v : V} {d : D} {ds : List D} (h : LV M d ds) (r : RD G v d) (o : Own G (M ++ F) H) : ∃ a vs, v = .ref a ∧ H a = some (.lst vs) ∧ RDs G vs ds := by
  cases h with
  | py ps =>
    have r' : Rp G v (.list ps) := r
    cases r' with
    | lst ha rr => exact ⟨_, _, rfl, o.ex _ _ ha, RDs.of rr⟩
  | cell i hc =>
    cases r
    obtain ⟨vs, hv, rr⟩ := o.at hc
    exact ⟨_, vs, rfl, hv, rr⟩
/-- any sequence that can be read -/
inductive LQ (M : Cells) : D → List D → Prop
  | py (ps : List PyData) : LQ M (dL ps) (ps.map D.py)
  | tup (ps : List PyData) : LQ M (dT ps) (ps.map D.py)
  | cell {p : Addr} {ds : List D} (i : Nat) : CA M i p (.lst ds) → LQ M (dR p) ds
  | sq (K : PySem.W.Frag) (ns : List Int) : LQ M (.sq K (ns.map V.int)) (ns.map dI)
theorem rds_ints {G : Hp} : ∀ ns : List Int, RDs G (ns.map V.int) (ns.map dI)
  | [] => .nil
  | n :: r => .cons (Rp.int n) (rds_ints r)

/-! ### len -/
def rLenS (K : PySem.W.Frag) : List V → Hp → VK → Prop := fun xs H Q => ∃ p ys, xs = [.ref p] ∧ (SqL K H p ys ∨ SqT K H p ys) ∧ Q (.int ys.length) H
def rLenT : List V → Hp → VK → Prop := fun xs H Q => ∃ z, xs = [.str z] ∧ z.length ≤ sizeLine ∧ Q (.int z.length) H
def rLenA (K : PySem.W.Frag) : List V → Hp → VK → Prop := fun xs H Q => rLenS K xs H Q ∨ rLenT xs H Q
theorem call_lenA {X : Cx} : CallR X (.builtin "len") (rLenA X.K) := CallR.or call_len_seq call_len_str
theorem cr_lenL {d : D} {ds : List D} (hv : LV M d ds) (k : K (dI ds.length) M) : CR (rLenA Kf) [d] M K := fun G H F us Q r o q => by
  cases r with
  | cons r1 rn =>
    cases rn
    obtain ⟨a, vs, rfl, ha, rr⟩ := hv.at r1 o
    refine .inl ⟨a, vs, rfl, .inl (SqL.of ha), ?_⟩
    rw [rr.length]
    exact q _ M _ G H k (Ex.refl G) (Rp.int _) o
theorem cr_len {ps : List PyData} (k : K (dI ps.length) M) : CR (rLenA Kf) [dL ps] M K := cr_lenL (.py ps) (by rw [List.length_map]; exact k)
theorem cr_lenC (i : Nat) {p : Addr} {ds : List D} (hc : CA M i p (.lst ds)) (k : K (dI ds.length) M) : CR (rLenA Kf) [dR p] M K := cr_lenL (.cell i hc) k
theorem cr_lenQ {Ks : PySem.W.Frag} {ns : List Int} (k : K (dI ns.length) M) : CR (rLenA Ks) [.sq Ks (ns.map V.int)] M K := fun G H F us Q r o q => by
  cases r with
  | cons r1 rn =>
    cases rn
    obtain ⟨a, rfl, ha⟩ := r1
    refine .inl ⟨a, ns.map V.int, rfl, .inl (o.ex |> fun e => Ex.sql e ha), ?_⟩
    rw [List.length_map]
    exact q _ M _ G H k (Ex.refl G) (Rp.int _) o
theorem cr_lenT {ps : List PyData} (k : K (dI ps.length) M) : CR (rLenA Kf) [dT ps] M K := fun G H F us Q r o q => by
  cases r with
  | cons r1 rn =>
    cases rn
    have r' : Rp G _ (.tuple ps) := r1
    cases r' with
    | tup ha rr =>
      refine .inl ⟨_, _, rfl, .inr (SqT.of (o.ex _ _ ha)), ?_⟩
      rw [rr.length]
      exact q _ M _ G H k (Ex.refl G) (Rp.int _) o
theorem cr_lenS {x : Str} (hx : x.length ≤ 1000000) (k : K (dI x.length) M) : CR (rLenA Kf) [dS x] M K := fun G H F us Q r o q => by
  cases r with
  | cons r1 rn =>
    cases rn
    cases str_of r1
    exact .inr ⟨x, rfl, big_ok hx, q _ M _ G H k (Ex.refl G) (Rp.int _) o⟩

/-! ### items -/
theorem all2_len {α β : Type} {R : α → β → Prop} {as : List α} {bs : List β} (h : All2 R as bs) {i : Int} {b : β} (e : atI bs i = some b) : ∃ a, atI as i = some a ∧ R a b := by
  unfold atI at e ⊢
  rw [h.length]
  cases hj : ixN bs.length i with
  | none => rw [hj] at e; cases e
  | some j =>
    rw [hj] at e
    exact h.get e
theorem or_ixV {d e : D} {ds : List D} {i : Int} (hv : LV M d ds) (he : atI ds i = some e) (k : K e M) : OR (rIx Kf) d (dI i) M K := fun G H F u v Q r1 r2 o q => by
  cases int_of r2
  obtain ⟨a, vs, rfl, ha, rr⟩ := hv.at r1 o
  obtain ⟨x, hx, rx⟩ := all2_len rr he
  exact .inl ⟨a, vs, i, x, rfl, rfl, SqL.of ha, hx, q e M x G H k (Ex.refl G) rx o⟩
theorem atI_map {α β : Type} (f : α → β) (xs : List α) (i : Int) : atI (xs.map f) i = (atI xs i).map f := by
  unfold atI
  rw [List.length_map]
  cases ixN xs.length i with
  | none => rfl
  | some j => simp
theorem or_ix {ps : List PyData} {p : PyData} {i : Int} (he : atI ps i = some p) (k : K (.py p) M) : OR (rIx Kf) (dL ps) (dI i) M K := or_ixV (.py ps) (by rw [atI_map, he]; rfl) k
theorem or_ixC (j : Nat) {a : Addr} {ds : List D} {e : D} {i : Int} (hc : CA M j a (.lst ds)) (he : atI ds i = some e) (k : K e M) : OR (rIx Kf) (dR a) (dI i) M K := or_ixV (.cell j hc) he k
theorem or_ixT {ps : List PyData} {p : PyData} {i : Int} (he : atI ps i = some p) (k : K (.py p) M) : OR (rIx Kf) (dT ps) (dI i) M K := fun G H F u v Q r1 r2 o q => by
  cases int_of r2
  have r' : Rp G u (.tuple ps) := r1
  cases r' with
  | tup ha rr =>
    obtain ⟨x, hx, rx⟩ := all2_len (RDs.of rr) (i := i) (b := D.py p) (by rw [atI_map, he]; rfl)
    exact .inr (.inl ⟨_, _, i, x, rfl, rfl, SqT.of (o.ex _ _ ha), hx, q (.py p) M x G H k (Ex.refl G) rx o⟩)
theorem or_ixQ {Ks : PySem.W.Frag} {ns : List Int} {n : Int} {i : Int} (he : atI ns i = some n) (k : K (dI n) M) : OR (rIx Ks) (.sq Ks (ns.map V.int)) (dI i) M K := fun G H F u v Q r1 r2 o q => by
  cases int_of r2
  obtain ⟨a, rfl, ha⟩ := r1
  exact .inl ⟨a, ns.map V.int, i, .int n, rfl, rfl, Ex.sql o.ex ha, by rw [atI_map, he]; rfl, q (dI n) M _ G H k (Ex.refl G) (Rp.int _) o⟩
theorem or_ixS {x : Str} {c : Nat} {i : Int} (hx : x.length ≤ 1000000) (he : atI x.cps.toList i = some c) (k : K (dS ⟨#[c]⟩) M) : OR (rIx Kf) (dS x) (dI i) M K := fun G H F u v Q r1 r2 o q => by
  cases int_of r2
  cases str_of r1
  exact .inr (.inr ⟨x, i, c, rfl, rfl, big_ok hx, he, q _ M _ G H k (Ex.refl G) (Rp.str _) o⟩)
/-- a store into a cell's list -/
theorem sg_setL {to ti : TE} {d : D} (h : SE W to ρ M fun x M1 => SE W ti ρ M1 fun y M2 => ∃ i p ds k j, x = dR p ∧ y = dI k ∧ CA M2 i p (.lst ds) ∧ ixN ds.length k = some j ∧ KE ρ (M2.set i (p, (.lst (ds.set j d))))) :
    SG W (gSub to ti rSetL) d ρ M KE := fun G σ H F v Q r re o mx q =>
  h G σ H F _ re o mx fun x M1 u1 G1 H1 k1 e1 r1 o1 => k1 G1 σ H1 F _ (re.mono e1) o1 (mx.mono e1) fun y M2 u2 G2 H2 ⟨i, p, ds, k, j, ex, ey, hc, hj, kk⟩ e2 r2 o2 => by
    subst ex
    subst ey
    cases r1
    cases int_of r2
    obtain ⟨vs, hv, rr⟩ := o2.at hc
    have e12 := e1.trans e2
    refine ⟨p, vs, k, j, rfl, rfl, hv, by rw [rr.length]; exact hj, q ρ _ σ G2 _ kk e12 (re.mono e12) (o2.store hc ⟨vs.set j v, upd_same, rr.set (r.mono e12) j⟩)⟩

/-! ### + and * -/
def rAddT : R2 := fun x y H Q => ∃ i j, x = .str i ∧ y = .str j ∧ i.length + j.length ≤ sizeLine ∧ Q (.str (i ++ j)) H
def rAddA : R2 := fun x y H Q => rI0 (fun i j => .int (i + j)) x y H Q ∨ rAddT x y H Q ∨ rCat x y H Q
theorem op_addA {X : Cx} : OpR X (binaryOp .Add) rAddA := op_add.or (OpR.or op_add_str op_cat)
theorem or_addI {i j : Int} (k : K (dI (i + j)) M) : OR rAddA (dI i) (dI j) M K := fun G H F u v Q r1 r2 o q => .inl (or_add k G H F u v Q r1 r2 o q)
theorem or_addS {i j : Str} (hl : i.length + j.length ≤ 1000000) (k : K (dS (i ++ j)) M) : OR rAddA (dS i) (dS j) M K := fun G H F u v Q r1 r2 o q => by
  cases str_of r1
  cases str_of r2
  exact .inr (.inl ⟨i, j, rfl, rfl, big_ok hl, q _ M _ G H k (Ex.refl G) (Rp.str _) o⟩)
theorem new_lst {G : Hp} {M F : Cells} {H : Hp} {p : Addr} {vs : List V} {ps : List PyData} (o : Own G (M ++ F) H) (hp : H p = none) (r : RpAll G vs ps) : ∃ G', Ex G G' ∧ RD G' (.ref p) (dL ps) ∧ Own G' (M ++ F) (upd H p (.lst vs)) := by
  have e : Ex G (upd G p (.lst vs)) := Ex.new (o.ex.free hp)
  exact ⟨_, e, Rp.lst upd_same (r.mono e), o.push hp _⟩
theorem new_tup {G : Hp} {M F : Cells} {H : Hp} {p : Addr} {vs : List V} {ps : List PyData} (o : Own G (M ++ F) H) (hp : H p = none) (r : RpAll G vs ps) : ∃ G', Ex G G' ∧ RD G' (.ref p) (dT ps) ∧ Own G' (M ++ F) (upd H p (.tup vs)) := by
  have e : Ex G (upd G p (.tup vs)) := Ex.new (o.ex.free hp)
  exact ⟨_, e, Rp.tup upd_same (r.mono e), o.push hp _⟩
/-- two lists, of any view, to new data -/
theorem or_catV {x y : D} {ps qs : List PyData} (h1 : LV M x (ps.map D.py)) (h2 : LV M y (qs.map D.py)) (hl : ps.length + qs.length ≤ 1000000) (k : K (dL (ps ++ qs)) M) : OR rAddA x y M K := fun G H F u v Q r1 r2 o q => by
  obtain ⟨a, vs, rfl, ha, ra⟩ := h1.at r1 o
  obtain ⟨b, ws, rfl, hb, rb⟩ := h2.at r2 o
  have ra' := RDs.all ra
  have rb' := RDs.all rb
  refine .inr (.inr ⟨a, b, vs, ws, rfl, rfl, ha, hb, by rw [ra'.length, rb'.length]; exact big_ok hl, fun p hp => ?_⟩)
  obtain ⟨G', e, r, o'⟩ := new_lst o hp (ra'.append rb')
  exact q _ M _ G' _ k e r o'
theorem or_cat {ps qs : List PyData} (hl : ps.length + qs.length ≤ 1000000) (k : K (dL (ps ++ qs)) M) : OR rAddA (dL ps) (dL qs) M K := or_catV (.py ps) (.py qs) hl k

/-! ### slices -/
abbrev SO (W : WD) (to : TO) (ρ : Rho) (M : Cells) (K : Option Int → Cells → Prop) : Prop :=
  ∀ (G : Hp) (σ : St) (H : Hp) (F : Cells) (Q : Option Int → Hp → Prop), REnv G σ ρ → Own G (M ++ F) H → MatchX G F W → (∀ b M G' H', K b M → Ex G G' → Own G' (M ++ F) H' → Q b H') → to σ H Q
abbrev LR (r : V → Option Int → Option Int → Hp → VK → Prop) (x : D) (lo hi : Option Int) (M : Cells) (K : D → Cells → Prop) : Prop :=
  ∀ (G H : Hp) (F : Cells) (u : V) (Q : VK), RD G u x → Own G (M ++ F) H → Fin G F K Q → r u lo hi H Q
theorem so_none {K : Option Int → Cells → Prop} (k : K none M) : SO W tNoPart ρ M K := fun G σ H F Q re o mx q => q none M G H k (Ex.refl G) o
theorem so_some {K : Option Int → Cells → Prop} (h : SE W te ρ M fun d M' => IsI d fun i => K (some i) M') : SO W (tPart te) ρ M K := fun G σ H F Q re o mx q =>
  h G σ H F _ re o mx fun d M1 v G1 H1 ⟨b, ed, k⟩ e1 r1 o1 => by
    subst ed
    exact ⟨b, int_of r1, q _ M1 G1 H1 k e1 o1⟩
theorem se_sl {r : V → Option Int → Option Int → Hp → VK → Prop} {tl th : TO} (h : SE W te ρ M fun x M1 => SO W tl ρ M1 fun lo M2 => SO W th ρ M2 fun hi M3 => LR r x lo hi M3 K) : SE W (tSl r te tl th) ρ M K := fun G σ H F Q re o mx q =>
  h G σ H F _ re o mx fun x M1 v G1 H1 k1 e1 r1 o1 => k1 G1 σ H1 F _ (re.mono e1) o1 (mx.mono e1) fun lo M2 G2 H2 k2 e2 o2 => k2 G2 σ H2 F _ (re.mono (e1.trans e2)) o2 (mx.mono (e1.trans e2)) fun hi M3 G3 H3 k3 e3 o3 =>
    k3 G3 H3 F v Q (r1.mono (e2.trans e3)) o3 (Fin.mono q (e1.trans (e2.trans e3)))
/-- a slice, by places -/
def cutP {α : Type} (xs : List α) (lo hi : Option Int) : List α := (xs.drop (HT.sIx xs.length 0 lo)).take (HT.sIx xs.length xs.length hi - HT.sIx xs.length 0 lo)
def rSlA (K : PySem.W.Frag) : V → Option Int → Option Int → Hp → VK → Prop := fun x lo hi H Q => rSlL K x lo hi H Q ∨ rSlS x lo hi H Q
theorem sl_any {X : Cx} : SlR X (rSlA X.K) := SlR.or sl_list sl_str
theorem lr_V {d : D} {ps : List PyData} {lo hi : Option Int} (hv : LV M d (ps.map D.py)) (k : K (dL (cutP ps lo hi)) M) : LR (rSlA Kf) d lo hi M K := fun G H F u Q r o q => by
  obtain ⟨a, vs, rfl, ha, rr⟩ := hv.at r o
  have r' := RDs.all rr
  refine .inl ⟨a, vs, rfl, SqL.of ha, fun p hp => ?_⟩
  have rc : RpAll G (cutV vs lo hi) (cutP ps lo hi) := by
    unfold cutV cutP
    rw [r'.length]
    exact (r'.drop _).take _
  obtain ⟨G', e, rn, o'⟩ := new_lst o hp rc
  exact q _ M _ G' _ k e rn o'
theorem lr_L {ps : List PyData} {lo hi : Option Int} (k : K (dL (cutP ps lo hi)) M) : LR (rSlA Kf) (dL ps) lo hi M K := lr_V (.py ps) k
theorem lr_S {x : Str} {lo hi : Option Int} (hx : x.length ≤ 1000000) (k : K (dS (cutS x lo hi)) M) : LR (rSlA Kf) (dS x) lo hi M K := fun G H F u Q r o q => by
  cases str_of r
  exact .inr ⟨x, rfl, big_ok hx, q _ M _ G H k (Ex.refl G) (Rp.str _) o⟩
theorem se_rev (h : SE W te ρ M fun d M' => ∃ ps : List PyData, LV M' d (ps.map D.py) ∧ K (dL ps.reverse) M') : SE W (tRevL Kf te) ρ M K := fun G σ H F Q re o mx q =>
  h G σ H F _ re o mx fun d M1 v G1 H1 ⟨ps, hv, k⟩ e1 r1 o1 => by
    obtain ⟨a, vs, rfl, ha, rr⟩ := hv.at r1 o1
    refine ⟨a, vs, rfl, SqL.of ha, fun p hp => ?_⟩
    obtain ⟨G', e, rn, o'⟩ := new_lst o1 hp (RDs.all rr).reverse
    exact q _ M1 _ G' _ k (e1.trans e) rn o'

/-! ### built-in functions -/
theorem RDs.one {G : Hp} {us : List V} {d : D} (r : RDs G us [d]) : ∃ v, us = [v] ∧ RD G v d := by
  cases r with
  | cons r1 rn =>
    cases rn
    exact ⟨_, rfl, r1⟩
theorem RDs.two {G : Hp} {us : List V} {d e : D} (r : RDs G us [d, e]) : ∃ v w, us = [v, w] ∧ RD G v d ∧ RD G w e := by
  cases r with
  | cons r1 rn =>
    cases rn with
    | cons r2 rn =>
      cases rn
      exact ⟨_, _, rfl, r1, r2⟩
theorem RDs.three {G : Hp} {us : List V} {d e f : D} (r : RDs G us [d, e, f]) : ∃ v w x, us = [v, w, x] ∧ RD G v d ∧ RD G w e ∧ RD G x f := by
  cases r with
  | cons r1 rn =>
    obtain ⟨w, x, rfl, r2, r3⟩ := RDs.two rn
    exact ⟨_, w, x, rfl, r1, r2, r3⟩
def rAbs : List V → Hp → VK → Prop := fun xs H Q => ∃ i, xs = [.int i] ∧ Q (.int (if i < 0 then -i else i)) H
theorem call_abs' {X : Cx} : CallR X (.builtin "abs") rAbs := call_abs
theorem cr_abs {i : Int} (k : K (dI (if i < 0 then -i else i)) M) : CR rAbs [dI i] M K := fun G H F us Q r o q => by
  obtain ⟨v, rfl, r1⟩ := r.one
  cases int_of r1
  exact ⟨i, rfl, q _ M _ G H k (Ex.refl G) (Rp.int _) o⟩
def rMax2 : List V → Hp → VK → Prop := fun xs H Q => ∃ i j, xs = [.int i, .int j] ∧ Q (.int (if j > i then j else i)) H
def rMin2 : List V → Hp → VK → Prop := fun xs H Q => ∃ i j, xs = [.int i, .int j] ∧ Q (.int (if j < i then j else i)) H
theorem call_max2' {X : Cx} (hc : X.calm = true) : CallR X (.builtin "max") rMax2 := call_max2 hc
theorem call_min2' {X : Cx} (hc : X.calm = true) : CallR X (.builtin "min") rMin2 := call_min2 hc
theorem cr_max2 {i j : Int} (k : K (dI (max i j)) M) : CR rMax2 [dI i, dI j] M K := fun G H F us Q r o q => by
  obtain ⟨v, w, rfl, r1, r2⟩ := r.two
  cases int_of r1
  cases int_of r2
  refine ⟨i, j, rfl, ?_⟩
  have e : (if j > i then j else i) = max i j := by split <;> omega
  rw [e]
  exact q _ M _ G H k (Ex.refl G) (Rp.int _) o
theorem cr_min2 {i j : Int} (k : K (dI (min i j)) M) : CR rMin2 [dI i, dI j] M K := fun G H F us Q r o q => by
  obtain ⟨v, w, rfl, r1, r2⟩ := r.two
  cases int_of r1
  cases int_of r2
  refine ⟨i, j, rfl, ?_⟩
  have e : (if j < i then j else i) = min i j := by split <;> omega
  rw [e]
  exact q _ M _ G H k (Ex.refl G) (Rp.int _) o
def rInt1 : List V → Hp → VK → Prop := fun xs H Q => (∃ i, xs = [.int i] ∧ Q (.int i) H) ∨ ∃ k, xs = [.bl k] ∧ Q (.int (if k then 1 else 0)) H
theorem call_int1' {X : Cx} : CallR X (.type "int") rInt1 := call_int1
theorem cr_intI {i : Int} (k : K (dI i) M) : CR rInt1 [dI i] M K := fun G H F us Q r o q => by
  obtain ⟨v, rfl, r1⟩ := r.one
  cases int_of r1
  exact .inl ⟨i, rfl, q _ M _ G H k (Ex.refl G) (Rp.int _) o⟩
theorem cr_intB {b : Bool} (k : K (dI (if b then 1 else 0)) M) : CR rInt1 [dB b] M K := fun G H F us Q r o q => by
  obtain ⟨v, rfl, r1⟩ := r.one
  cases bl_of r1
  exact .inr ⟨b, rfl, q _ M _ G H k (Ex.refl G) (Rp.int _) o⟩
theorem cr_sumL {d : D} {ns : List Int} (hv : LV M d ((ns.map PyData.int).map D.py)) (k : K (dI ns.sum) M) : CR (rSum Kf) [d] M K := fun G H F us Q r o q => by
  obtain ⟨v, rfl, r1⟩ := r.one
  obtain ⟨a, vs, rfl, ha, rr⟩ := hv.at r1 o
  cases RpAll.ints (RDs.all rr)
  exact ⟨a, ns, rfl, SqL.of ha, q _ M _ G H k (Ex.refl G) (Rp.int _) o⟩
/-- the greatest, the least of ints -/
def maxL : List Int → Int
  | [] => 0
  | n :: r => r.foldl max n
def minL : List Int → Int
  | [] => 0
  | n :: r => r.foldl min n
theorem foldl_max_ge : ∀ (r : List Int) (n : Int), n ≤ r.foldl max n ∧ (∀ y ∈ r, y ≤ r.foldl max n) ∧ (r.foldl max n = n ∨ r.foldl max n ∈ r)
  | [], n => ⟨Int.le_refl n, by simp, .inl rfl⟩
  | x :: r, n => by
    obtain ⟨h1, h2, h3⟩ := foldl_max_ge r (max n x)
    show n ≤ r.foldl max (max n x) ∧ (∀ y ∈ x :: r, y ≤ r.foldl max (max n x)) ∧ (r.foldl max (max n x) = n ∨ r.foldl max (max n x) ∈ x :: r)
    refine ⟨by omega, fun y hy => ?_, ?_⟩
    · rcases List.mem_cons.mp hy with e | e
      · subst e; omega
      · exact h2 y e
    · rcases h3 with h3 | h3
      · by_cases h : n < x
        · exact .inr (by rw [h3, Int.max_eq_right (Int.le_of_lt h)]; exact List.mem_cons_self ..)
        · exact .inl (by rw [h3]; omega)
      · exact .inr (List.mem_cons_of_mem _ h3)
theorem foldl_min_le : ∀ (r : List Int) (n : Int), r.foldl min n ≤ n ∧ (∀ y ∈ r, r.foldl min n ≤ y) ∧ (r.foldl min n = n ∨ r.foldl min n ∈ r)
  | [], n => ⟨Int.le_refl n, by simp, .inl rfl⟩
  | x :: r, n => by
    obtain ⟨h1, h2, h3⟩ := foldl_min_le r (min n x)
    show r.foldl min (min n x) ≤ n ∧ (∀ y ∈ x :: r, r.foldl min (min n x) ≤ y) ∧ (r.foldl min (min n x) = n ∨ r.foldl min (min n x) ∈ x :: r)
    refine ⟨by omega, fun y hy => ?_, ?_⟩
    · rcases List.mem_cons.mp hy with e | e
      · subst e; omega
      · exact h2 y e
    · rcases h3 with h3 | h3
      · by_cases h : x < n
        · exact .inr (by rw [h3, Int.min_eq_right (Int.le_of_lt h)]; exact List.mem_cons_self ..)
        · exact .inl (by rw [h3]; omega)
      · exact .inr (List.mem_cons_of_mem _ h3)
theorem maxL_ge {ns : List Int} {y : Int} (h : y ∈ ns) : y ≤ maxL ns := by
  cases ns with
  | nil => cases h
  | cons n r =>
    obtain ⟨h1, h2, _⟩ := foldl_max_ge r n
    rcases List.mem_cons.mp h with e | e
    · subst e; exact h1
    · exact h2 y e
theorem maxL_mem {ns : List Int} (h : ns ≠ []) : maxL ns ∈ ns := by
  cases ns with
  | nil => exact absurd rfl h
  | cons n r =>
    obtain ⟨_, _, h3⟩ := foldl_max_ge r n
    show r.foldl max n ∈ n :: r
    rcases h3 with h3 | h3
    · rw [h3]; exact List.mem_cons_self ..
    · exact List.mem_cons_of_mem _ h3
theorem minL_le {ns : List Int} {y : Int} (h : y ∈ ns) : minL ns ≤ y := by
  cases ns with
  | nil => cases h
  | cons n r =>
    obtain ⟨h1, h2, _⟩ := foldl_min_le r n
    rcases List.mem_cons.mp h with e | e
    · subst e; exact h1
    · exact h2 y e
theorem minL_mem {ns : List Int} (h : ns ≠ []) : minL ns ∈ ns := by
  cases ns with
  | nil => exact absurd rfl h
  | cons n r =>
    obtain ⟨_, _, h3⟩ := foldl_min_le r n
    show r.foldl min n ∈ n :: r
    rcases h3 with h3 | h3
    · rw [h3]; exact List.mem_cons_self ..
    · exact List.mem_cons_of_mem _ h3
theorem maxL_eq {ns : List Int} {m : Int} (h1 : m ∈ ns) (h2 : ∀ y ∈ ns, y ≤ m) : m = maxL ns := by
  have a := maxL_ge h1
  have b := h2 _ (maxL_mem (List.ne_nil_of_mem h1))
  omega
theorem minL_eq {ns : List Int} {m : Int} (h1 : m ∈ ns) (h2 : ∀ y ∈ ns, m ≤ y) : m = minL ns := by
  have a := minL_le h1
  have b := h2 _ (minL_mem (List.ne_nil_of_mem h1))
  omega
theorem cr_maxL {d : D} {ns : List Int} (hv : LV M d ((ns.map PyData.int).map D.py)) (h0 : ns ≠ []) (k : K (dI (maxL ns)) M) : CR (rMax Kf) [d] M K := fun G H F us Q r o q => by
  obtain ⟨v, rfl, r1⟩ := r.one
  obtain ⟨a, vs, rfl, ha, rr⟩ := hv.at r1 o
  cases RpAll.ints (RDs.all rr)
  refine ⟨a, ns, rfl, SqL.of ha, List.length_pos_iff.mpr h0, fun m h1 h2 => ?_⟩
  rw [maxL_eq h1 h2]
  exact q _ M _ G H k (Ex.refl G) (Rp.int _) o
theorem cr_minL {d : D} {ns : List Int} (hv : LV M d ((ns.map PyData.int).map D.py)) (h0 : ns ≠ []) (k : K (dI (minL ns)) M) : CR (rMin Kf) [d] M K := fun G H F us Q r o q => by
  obtain ⟨v, rfl, r1⟩ := r.one
  obtain ⟨a, vs, rfl, ha, rr⟩ := hv.at r1 o
  cases RpAll.ints (RDs.all rr)
  refine ⟨a, ns, rfl, SqL.of ha, List.length_pos_iff.mpr h0, fun m h1 h2 => ?_⟩
  rw [minL_eq h1 h2]
  exact q _ M _ G H k (Ex.refl G) (Rp.int _) o

/-! ### data compared -/
theorem rd_dp {G H : Hp} {M F : Cells} (o : Own G (M ++ F) H) {v : V} {p : PyData} (r : RD G v (.py p)) : Dp Kf H v p := Rp.dp (Rp.mono o.ex r)
theorem or_eqD {p q : PyData} (h1 : SeqAt.shaped p = true) (h2 : SeqAt.shaped q = true) (k : K (dB (PyData.eqv p q)) M) : OR (rEqD Kf) (.py p) (.py q) M K := fun G H F u v Q r1 r2 o qq =>
  ⟨p, q, rd_dp o r1, rd_dp o r2, h1, h2, qq _ M _ G H k (Ex.refl G) (Rp.bl _) o⟩
theorem or_neD {p q : PyData} (h1 : SeqAt.shaped p = true) (h2 : SeqAt.shaped q = true) (k : K (dB (!PyData.eqv p q)) M) : OR (rNeD Kf) (.py p) (.py q) M K := fun G H F u v Q r1 r2 o qq =>
  ⟨p, q, rd_dp o r1, rd_dp o r2, h1, h2, qq _ M _ G H k (Ex.refl G) (Rp.bl _) o⟩
theorem eqv_int (i j : Int) : PyData.eqv (.int i) (.int j) = decide (i = j) := by
  rw [PyData.eqv]
  by_cases h : i = j <;> simp [h]
theorem eqv_bool (i j : Bool) : PyData.eqv (.bool i) (.bool j) = decide (i = j) := by
  rw [PyData.eqv]
  by_cases h : i = j <;> simp [h]
theorem eqv_str (i j : Str) : PyData.eqv (.str i) (.str j) = decide (i = j) := by
  rw [PyData.eqv]
  by_cases h : i = j <;> simp [h]
def rEqA (K : PySem.W.Frag) : R2 := fun x y H Q => rEq x y H Q ∨ rEqD K x y H Q
def rNeA (K : PySem.W.Frag) : R2 := fun x y H Q => rNe x y H Q ∨ rNeD K x y H Q
theorem op_eqA {X : Cx} (hu : X.A.units + 64 < cLine) : OpR X (compareOp .Eq) (rEqA X.K) := OpR.or op_eq (op_eqD hu)
theorem op_neA {X : Cx} (hu : X.A.units + 64 < cLine) : OpR X (compareOp .NotEq) (rNeA X.K) := OpR.or op_ne (op_neD hu)
theorem or_eqAI {i j : Int} (k : K (dB (decide (i = j))) M) : OR (rEqA Kf) (dI i) (dI j) M K := fun G H F u v Q r1 r2 o q => .inl (or_eqI k G H F u v Q r1 r2 o q)
theorem or_neAI {i j : Int} (k : K (dB (!decide (i = j))) M) : OR (rNeA Kf) (dI i) (dI j) M K := fun G H F u v Q r1 r2 o q => .inl (or_neI k G H F u v Q r1 r2 o q)
theorem or_eqAS {i j : Str} (k : K (dB (decide (i = j))) M) : OR (rEqA Kf) (dS i) (dS j) M K := fun G H F u v Q r1 r2 o q => .inl (or_eqS k G H F u v Q r1 r2 o q)
theorem or_neAS {i j : Str} (k : K (dB (!decide (i = j))) M) : OR (rNeA Kf) (dS i) (dS j) M K := fun G H F u v Q r1 r2 o q => .inl (or_neS k G H F u v Q r1 r2 o q)
theorem or_eqAB {i j : Bool} (k : K (dB (decide (i = j))) M) : OR (rEqA Kf) (dB i) (dB j) M K := fun G H F u v Q r1 r2 o q => .inl (or_eqB k G H F u v Q r1 r2 o q)
theorem or_eqAD {p q : PyData} (h1 : SeqAt.shaped p = true) (h2 : SeqAt.shaped q = true) (k : K (dB (PyData.eqv p q)) M) : OR (rEqA Kf) (.py p) (.py q) M K := fun G H F u v Q r1 r2 o qq => .inr (or_eqD h1 h2 k G H F u v Q r1 r2 o qq)
theorem or_neAD {p q : PyData} (h1 : SeqAt.shaped p = true) (h2 : SeqAt.shaped q = true) (k : K (dB (!PyData.eqv p q)) M) : OR (rNeA Kf) (.py p) (.py q) M K := fun G H F u v Q r1 r2 o qq => .inr (or_neD h1 h2 k G H F u v Q r1 r2 o qq)

/-! ### in -/
def flatP : PyData → Bool
  | .none | .bool _ | .int _ | .str _ => true
  | _ => false
theorem flat_rp {G : Hp} {v : V} {p : PyData} (h : Rp G v p) (hf : flatP p = true) : flatV v = true := by
  cases h <;> first | rfl | cases hf
theorem flat_all {G : Hp} : ∀ {vs : List V} {ps : List PyData}, RpAll G vs ps → ps.all flatP = true → vs.all flatV = true
  | _, _, .nil, _ => rfl
  | _, _, .cons h r, hf => by
    rw [List.all_cons, Bool.and_eq_true] at hf ⊢
    exact ⟨flat_rp h hf.1, flat_all r hf.2⟩
theorem eqV_rp {G : Hp} {v w : V} {p q : PyData} (h1 : Rp G v p) (h2 : Rp G w q) (f1 : flatP p = true) (f2 : flatP q = true) : eqV v w = PyData.eqv p q := by
  cases h1 with
  | lst _ _ => cases f1
  | tup _ _ => cases f1
  | non => cases h2 <;> first | (rw [PyData.eqv]; rfl) | rfl
  | bl b => cases h2 <;> first | (rw [PyData.eqv]; rfl) | rfl
  | int b => cases h2 <;> first | (rw [PyData.eqv]; rfl) | rfl
  | str b => cases h2 <;> first | (rw [PyData.eqv]; rfl) | rfl
def inP (p : PyData) (ps : List PyData) : Bool := ps.any fun q => PyData.eqv q p
theorem inV_rp {G : Hp} {v : V} {p : PyData} (h : Rp G v p) (f : flatP p = true) : ∀ {vs : List V} {ps : List PyData}, RpAll G vs ps → ps.all flatP = true → inV v vs = inP p ps
  | _, _, .nil, _ => rfl
  | _, _, .cons h1 r, hf => by
    rw [List.all_cons, Bool.and_eq_true] at hf
    show (eqV _ v || inV v _) = (PyData.eqv _ p || inP p _)
    rw [eqV_rp h1 h hf.1 f, inV_rp h f r hf.2]
def rInT (neg : Bool) : R2 := fun x y H Q => ∃ i j, x = .str i ∧ y = .str j ∧ Q (.bl (if neg then (Builtin.Str.occurrences j i 0 j.length 1).isEmpty else !(Builtin.Str.occurrences j i 0 j.length 1).isEmpty)) H
theorem or_inL {d : D} {p : PyData} {ps : List PyData} (hv : LV M d (ps.map D.py)) (f : flatP p = true) (hf : ps.all flatP = true) (k : K (dB (inP p ps)) M) : OR (rIn Kf false) (.py p) d M K := fun G H F u v Q r1 r2 o q => by
  obtain ⟨a, vs, rfl, ha, rr⟩ := hv.at r2 o
  have r' := RDs.all rr
  refine ⟨a, vs, rfl, .inl (SqL.of ha), flat_rp r1 f, flat_all r' hf, ?_⟩
  show Q (.bl (inV u vs)) H
  rw [inV_rp r1 f r' hf]
  exact q _ M _ G H k (Ex.refl G) (Rp.bl _) o
theorem or_niL {d : D} {p : PyData} {ps : List PyData} (hv : LV M d (ps.map D.py)) (f : flatP p = true) (hf : ps.all flatP = true) (k : K (dB (!inP p ps)) M) : OR (rIn Kf true) (.py p) d M K := fun G H F u v Q r1 r2 o q => by
  obtain ⟨a, vs, rfl, ha, rr⟩ := hv.at r2 o
  have r' := RDs.all rr
  refine ⟨a, vs, rfl, .inl (SqL.of ha), flat_rp r1 f, flat_all r' hf, ?_⟩
  show Q (.bl (!inV u vs)) H
  rw [inV_rp r1 f r' hf]
  exact q _ M _ G H k (Ex.refl G) (Rp.bl _) o
theorem or_inT {p : PyData} {ps : List PyData} (f : flatP p = true) (hf : ps.all flatP = true) (k : K (dB (inP p ps)) M) : OR (rIn Kf false) (.py p) (dT ps) M K := fun G H F u v Q r1 r2 o q => by
  have r2' : Rp G v (.tuple ps) := r2
  cases r2' with
  | tup ha r' =>
    refine ⟨_, _, rfl, .inr (SqT.of (o.ex _ _ ha)), flat_rp r1 f, flat_all r' hf, ?_⟩
    show Q (.bl (inV u _)) H
    rw [inV_rp r1 f r' hf]
    exact q _ M _ G H k (Ex.refl G) (Rp.bl _) o
theorem or_niT {p : PyData} {ps : List PyData} (f : flatP p = true) (hf : ps.all flatP = true) (k : K (dB (!inP p ps)) M) : OR (rIn Kf true) (.py p) (dT ps) M K := fun G H F u v Q r1 r2 o q => by
  have r2' : Rp G v (.tuple ps) := r2
  cases r2' with
  | tup ha r' =>
    refine ⟨_, _, rfl, .inr (SqT.of (o.ex _ _ ha)), flat_rp r1 f, flat_all r' hf, ?_⟩
    show Q (.bl (!inV u _)) H
    rw [inV_rp r1 f r' hf]
    exact q _ M _ G H k (Ex.refl G) (Rp.bl _) o
/-- in a tuple of the top -/
theorem or_inG {Ks : PySem.W.Frag} {p : PyData} {xs : List V} {ps : List PyData} (hx : ∀ G, RpAll G xs ps) (f : flatP p = true) (hf : ps.all flatP = true) (k : K (dB (inP p ps)) M) : OR (rIn Ks false) (.py p) (.sqt Ks xs) M K := fun G H F u v Q r1 r2 o q => by
  obtain ⟨a, rfl, ha⟩ := r2
  refine ⟨a, xs, rfl, .inr (Ex.sqt o.ex ha), flat_rp r1 f, flat_all (hx G) hf, ?_⟩
  show Q (.bl (inV u _)) H
  rw [inV_rp r1 f (hx G) hf]
  exact q _ M _ G H k (Ex.refl G) (Rp.bl _) o

/-! ### methods of lists -/
theorem se_bm {T : String} {r : V → List V → Hp → VK → Prop} {ta' : TA} (h : SE W ta ρ M fun x M1 => (∀ (G H : Hp) (F : Cells) (u : V), RD G u x → Own G (M1 ++ F) H → tyV Kf T u H) ∧ SA W ta' ρ M1 fun xs M2 => BR r x xs M2 K) : SE W (tBM Kf T r ta ta') ρ M K := fun G σ H F Q re o mx q =>
  h G σ H F _ re o mx fun x M1 u G1 H1 ⟨ty, k1⟩ e1 r1 o1 => ⟨ty G1 H1 F u r1 o1, k1 G1 σ H1 F _ (re.mono e1) o1 (mx.mono e1) fun xs M2 vs G2 H2 k2 e2 r2 o2 => k2 G2 H2 F u vs Q (r1.mono e2) r2 o2 (Fin.mono q (e1.trans e2))⟩
theorem se_bm0 {T : String} {r : V → List V → Hp → VK → Prop} (h : SE W ta ρ M fun x M1 => (∀ (G H : Hp) (F : Cells) (u : V), RD G u x → Own G (M1 ++ F) H → tyV Kf T u H) ∧ BR r x [] M1 K) : SE W (tBM0 Kf T r ta) ρ M K := fun G σ H F Q re o mx q =>
  h G σ H F _ re o mx fun x M1 u G1 H1 ⟨ty, k1⟩ e1 r1 o1 => ⟨ty G1 H1 F u r1 o1, k1 G1 H1 F u [] Q r1 .nil o1 (Fin.mono q e1)⟩
theorem ty_cell {i : Nat} {p : Addr} {ds : List D} (hc : CA M i p (.lst ds)) : ∀ (G H : Hp) (F : Cells) (u : V), RD G u (dR p) → Own G (M ++ F) H → tyV Kf "list" u H := fun G H F u r o => by
  cases r
  obtain ⟨vs, hv, _⟩ := o.at hc
  exact .inl ⟨rfl, _, SqL.of hv⟩
theorem br_append (i : Nat) {p : Addr} {ds : List D} {d : D} (hc : CA M i p (.lst ds)) (hl : ds.length ≤ 1000000) (k : K dN (M.set i (p, (.lst (ds ++ [d]))))) : BR rAppend (dR p) [d] M K := fun G H F u us Q r rs o q => by
  cases r
  obtain ⟨v, rfl, r1⟩ := rs.one
  obtain ⟨vs, hv, rr⟩ := o.at hc
  refine ⟨p, vs, v, rfl, rfl, hv, by rw [rr.length]; exact Nat.lt_of_le_of_lt hl (by decide), q _ _ _ G _ k (Ex.refl G) Rp.non (o.store hc ⟨_, upd_same, rr.append (.cons r1 .nil)⟩)⟩
theorem br_reverse (i : Nat) {p : Addr} {ds : List D} (hc : CA M i p (.lst ds)) (k : K dN (M.set i (p, (.lst ds.reverse)))) : BR rReverse (dR p) [] M K := fun G H F u us Q r rs o q => by
  cases r
  cases rs
  obtain ⟨vs, hv, rr⟩ := o.at hc
  exact ⟨p, vs, rfl, rfl, hv, q _ _ _ G _ k (Ex.refl G) Rp.non (o.store hc ⟨_, upd_same, rr.reverse⟩)⟩
/-- found.append(e), as a statement -/
theorem ss_append (j : Nat) {i : Nat} {p : Addr} {ta' : TE} (hi : ρ[i]? = some (some (dR p))) (h : SE W ta' ρ M fun d M1 => ∃ ds, CA M1 j p (.lst ds) ∧ ds.length ≤ 1000000 ∧ P.nx ρ (M1.set j (p, (.lst (ds ++ [d]))))) (hc0 : ∃ ds, CA M j p (.lst ds)) :
    SS W (tDrop (tBM Kf "list" rAppend (tVar i) (tCons ta' tNil))) ρ M P := by
  obtain ⟨ds0, hc0⟩ := hc0
  refine ss_drop (se_bm (se_var hi ⟨ty_cell hc0, sa_cons (h.imp fun d M1 ⟨ds, hc, hl, k⟩ => sa_nil (br_append j hc hl k))⟩))
end
end PL

/-! PLX: rules of the machine that the layer lacked. -/
namespace PL
open PySem PySem.Spec L2 PyProof.Rows
section
variable {X : Cx}
/-- ** of a great base -/
def CPowW (i j : Int) : Prop := 0 ≤ j ∧ j ≤ 1000 ∧ i.natAbs < 2 ^ 1000
theorem op_powW : OpR X (binaryOp .Pow) (rI CPowW fun i j => .int (i ^ j.toNat)) := opI fun i j _ _ _ _ _ hc q => by
  have b : Builtin.Int.intBits i ≤ 1000 := by
    have := PySem.Flt.log2_lt_of (n := i.natAbs) (by decide : 0 < 1000) hc.2.2
    unfold Builtin.Int.intBits
    split <;> omega
  refine pow_int hc.1 ?_ q
  have h0 := hc.1
  have h1 := hc.2.1
  have h2 : (Builtin.Int.intBits i : Int) * j ≤ 1000 * j := Int.mul_le_mul_of_nonneg_right (by omega) h0
  have h3 : (1000 : Int) * j ≤ 1000 * 1000 := Int.mul_le_mul_of_nonneg_left h1 (by decide)
  exact Int.le_trans h2 (Int.le_trans h3 (by decide))
/-- a text so many times -/
def rRepS : R2 := fun x y H Q => ∃ (z : Str) (k : Int), x = .str z ∧ y = .int k ∧ k ≤ 1000000 ∧ -1000000 ≤ k ∧ z.length * k.toNat ≤ 1000000 ∧ z.length ≤ 1000000 ∧ Q (.str (Txt.mul z k)) H
theorem op_repS : OpR X (binaryOp .Mult) rRepS := by
  intro pins s σ H x y v u Q I rx ry h
  obtain ⟨z, k, rfl, rfl, h1, h2, h3, h4, q⟩ := h
  obtain ⟨t, rfl⟩ := rx
  obtain ⟨t', rfl⟩ := ry
  refine SB.mul ⟨?_, fun h5 h6 h7 => ?_, fun h5 h6 => ?_⟩ fun t' tk => ⟨.str (Txt.mul z k), H, I.tok _, ⟨_, rfl⟩, q⟩
  · rw [decide_eq_false (by omega), decide_eq_false (by omega)]
    rfl
  · have h8 : (9223372036854 : Int) ≤ (2 ^ 63 - 1) / k := by
      refine Int.le_ediv_of_mul_le (by omega) ?_
      have : (9223372036854 : Int) * k ≤ 9223372036854 * 1000000 := Int.mul_le_mul_of_nonneg_left h1 (by decide)
      exact Int.le_trans this (by decide)
    omega
  · show decide (z.length * k.toNat > sizeLine) = false
    exact decide_eq_false (Nat.not_lt.mpr (big_ok h3))
def rMulA : R2 := fun x y H Q => rI IntMulOk (fun i j => .int (i * j)) x y H Q ∨ rRepS x y H Q ∨ rRep x y H Q
theorem op_mulI : OpR X (binaryOp .Mult) (rI IntMulOk fun i j => .int (i * j)) := opI fun _ _ _ _ _ _ _ hc q => mul_int q hc
theorem op_mulA : OpR X (binaryOp .Mult) rMulA := OpR.or op_mulI (OpR.or op_repS op_rep)
end
theorem mulOk_l {i j : Int} (h1 : -(2 ^ 64) < i) (h2 : i < 2 ^ 64) : IntMulOk i j := CMul.ok (.inl ⟨h1, h2⟩)
theorem mulOk_r {i j : Int} (h1 : -(2 ^ 64) < j) (h2 : j < 2 ^ 64) : IntMulOk i j := CMul.ok (.inr ⟨h1, h2⟩)
theorem mulOk_w {i j : Int} (h1 : i.natAbs < 2 ^ 100000) (h2 : j.natAbs < 2 ^ 100000) : IntMulOk i j := CMulW.ok (wide_mul h1 h2 (by decide) (by decide) (by decide))
section
variable {W : WD} {ρ : Rho} {M : Cells} {K : D → Cells → Prop} {Kf : PySem.W.Frag}
theorem or_mulI {i j : Int} (h : IntMulOk i j) (k : K (dI (i * j)) M) : OR rMulA (dI i) (dI j) M K := fun G H F u v Q r1 r2 o q => .inl (or_I h (.int _) k G H F u v Q r1 r2 o q)
theorem or_repS {z : Str} {k : Int} (h : -1000000 ≤ k ∧ k ≤ 1000000 ∧ z.length * k.toNat ≤ 1000000 ∧ z.length ≤ 1000000) (kk : K (dS (Txt.mul z k)) M) : OR rMulA (dS z) (dI k) M K := fun G H F u v Q r1 r2 o q => by
  cases str_of r1
  cases int_of r2
  exact .inr (.inl ⟨z, k, rfl, rfl, h.2.1, h.1, h.2.2.1, h.2.2.2, q _ M _ G H kk (Ex.refl G) (Rp.str _) o⟩)
theorem rpAll_rep {G : Hp} {vs : List V} {ps : List PyData} (h : RpAll G vs ps) : ∀ n : Nat, RpAll G (List.replicate n vs).flatten (List.replicate n ps).flatten
  | 0 => .nil
  | n + 1 => by
    rw [List.replicate_succ, List.replicate_succ, List.flatten_cons, List.flatten_cons]
    exact h.append (rpAll_rep h n)
theorem or_repV {d : D} {ps : List PyData} {k : Int} (hv : LV M d (ps.map D.py)) (h1 : -1000000 ≤ k) (h2 : k ≤ 1000000) (h3 : ps.length * k.toNat ≤ 1000000) (kk : K (dL (List.replicate k.toNat ps).flatten) M) : OR rMulA d (dI k) M K := fun G H F u v Q r1 r2 o q => by
  cases int_of r2
  obtain ⟨a, vs, rfl, ha, rr⟩ := hv.at r1 o
  have r' := RDs.all rr
  refine .inr (.inr ⟨a, k, vs, rfl, rfl, ha, by omega, by omega, by rw [r'.length]; exact big_ok h3, fun p hp => ?_⟩)
  obtain ⟨G', e, rn, o'⟩ := new_lst o hp (rpAll_rep r' k.toNat)
  exact q _ M _ G' _ kk e rn o'
theorem or_fdiv {i j : Int} (h : CDivW i j) (k : K (dI (i / j)) M) : OR (rI CDivW fun i j => .int (i / j)) (dI i) (dI j) M K := or_I h (.int _) k
theorem fdiv_ok {i j : Int} (h0 : 0 < j) (h1 : j < 2 ^ 8000) : CDivW i j := wide_div h0 (b := 8000) (by omega) (by decide) (by decide)
theorem or_mod {i j : Int} (h : 0 < j) (k : K (dI (i % j)) M) : OR (rI (fun _ j => 0 < j) fun i j => .int (i % j)) (dI i) (dI j) M K := or_I h (.int _) k
theorem or_pow {i j : Int} (h : CPowW i j) (k : K (dI (i ^ j.toNat)) M) : OR (rI CPowW fun i j => .int (i ^ j.toNat)) (dI i) (dI j) M K := or_I h (.int _) k
end
end PL

/-! PLE1: enumerate(text, start=k), whatever the start; enumerate(text). -/
namespace PySem
open Sem (wp)
/-- an enumerate object, the first count perhaps given (a start beyond a machine's number) -/
abbrev IsEnumG (h : Heap) (e it : Addr) (c : Int) (g old : Value) : Prop := h.get? e = some { cls := .type "enumerate", data := .fields #[.none, .bool false, .ref it, rawInt c, g, old] }
set_option maxHeartbeats 2000000 in
theorem meets_enumerate_newKH {v : Value} {o : Obj} {H : Heap → Prop} (B : Begins v o H) (k : Int) (t : Tok) (hfit : Builtin.SmallTypes.fitsIndex k = false) :
    Meets (Builtin.«enumerate.__new__» ⟨[.type "enumerate", v], [(Str.ofString "start", .int k t)]⟩) (fun _ R s => H s.heap ∧
      R (.ok (.ret (.ref (s.heap.push o).objs.size))) { s with heap := (s.heap.push o).push { cls := .type "enumerate", data := .fields #[.none, .bool false, .ref s.heap.objs.size, rawInt k, .int k t, .none] } }) :=
  .of_wp fun prog w A R s h => by
    obtain ⟨hp, g, d, tk, os⟩ := s; obtain ⟨h1, h⟩ := h
    have hsub := sub_enumerate
    have hnf : (!Builtin.SmallTypes.fitsIndex k) = true := by rw [hfit]; rfl
    have q1 : ∀ {A' : Around} {E : Value → Shared → Prop} {Q : Value → Shared → Prop}, Q (.ref hp.objs.size) ⟨hp.push o, g, d, tk, os⟩ → wpAny (model prog w) A' (pyIter v) Q E ⟨hp, g, d, tk, os⟩ :=
      fun q => B.iter prog w _ _ ⟨hp, g, d, tk, os⟩ _ h1 q
    have e1 : (Str.ofString "start" == ("start" : Str)) = true := by decide +kernel
    have e2 : (Str.ofString "start" != ("start" : Str)) = false := by decide +kernel
    have e3 : (Str.ofString "start" != ("iterable" : Str)) = true := by decide +kernel
    have e4 : (("start" : Str) == Str.ofString "start") = true := by decide +kernel
    have e5 : (("iterable" : Str) == Str.ofString "start") = false := by decide +kernel
    wp_walk using q1
    refine wpAny_stack_any fun st => wpAny_pure ?_
    split
    · rename_i c _ _ _ _ _
      cases (c == Value.type "enumerate")
      · wp_walk using q1
        exact ⟨_, rfl, h⟩
      · wp_walk using q1
        exact ⟨_, rfl, h⟩
    · wp_walk using q1
      exact ⟨_, rfl, h⟩
section
variable {prog : Program} {w : World} {A : Around} {E : Value → Shared → Prop} {s : Shared}
theorem enum_begins_huge {v : Value} {o : Obj} {H : Heap → Prop} {k : Int} {t : Tok} {Q : Value → Shared → Prop} (B : Begins v o H) (h1 : H s.heap) (hfit : Builtin.SmallTypes.fitsIndex k = false)
    (h : ∀ h', IsEnumG h' (s.heap.objs.size + 1) s.heap.objs.size k (.int k t) .none → h'.get? s.heap.objs.size = some o → h'.objs.size = s.heap.objs.size + 2 →
      (∀ b o, s.heap.get? b = some o → h'.get? b = some o) → Q (.ref (s.heap.objs.size + 1)) { s with heap := h' }) :
    wpAny (model prog w) A (call (.type "enumerate") [v] [(Str.ofString "start", .int k t)]) Q E s := by
  refine callType_newKw F.called_enumerate (by decide) (F.typeCall_enumerate_start _ _) (F.newCall_enumerate_start _ _) (fun obj => F.args_object_init_start obj _ _) F.entry_enumerate_new
    (meets_enumerate_newKH B k t hfit) ⟨h1, ?_⟩
  have hz : (s.heap.push o).objs.size = s.heap.objs.size + 1 := Heap.size_push ..
  show _ ∧ _
  rw [hz]
  have he : IsEnumG ((s.heap.push o).push { cls := .type "enumerate", data := .fields #[.none, .bool false, .ref s.heap.objs.size, rawInt k, .int k t, .none] }) (s.heap.objs.size + 1) s.heap.objs.size k (.int k t) .none := by
    have := Heap.get?_push_size (s.heap.push o) (o := { cls := .type "enumerate", data := .fields #[.none, .bool false, .ref s.heap.objs.size, rawInt k, .int k t, .none] }) rfl
    rw [hz] at this; exact this
  refine ⟨⟨_, he, rfl⟩, h _ he (Heap.get?_push_of_some _ (Heap.get?_push_size _ B.free)) (by rw [Heap.size_push, hz]) fun b o x => Heap.get?_push_of_some _ (Heap.get?_push_of_some _ x)⟩
theorem enum_begins_any {v : Value} {o : Obj} {H : Heap → Prop} {k : Int} {t : Tok} {Q : Value → Shared → Prop} (B : Begins v o H) (h1 : H s.heap)
    (h : ∀ h' g, (g = .none ∨ ∃ t, g = .int k t) → IsEnumG h' (s.heap.objs.size + 1) s.heap.objs.size k g .none → h'.get? s.heap.objs.size = some o → h'.objs.size = s.heap.objs.size + 2 →
      (∀ b o, s.heap.get? b = some o → h'.get? b = some o) → Q (.ref (s.heap.objs.size + 1)) { s with heap := h' }) :
    wpAny (model prog w) A (call (.type "enumerate") [v] [(Str.ofString "start", .int k t)]) Q E s := by
  cases hf : Builtin.SmallTypes.fitsIndex k with
  | false => exact enum_begins_huge B h1 hf fun h' a b c d => h h' _ (.inr ⟨t, rfl⟩) a b c d
  | true =>
    unfold Builtin.SmallTypes.fitsIndex at hf
    simp only [Bool.and_eq_true, decide_eq_true_eq] at hf
    exact enum_begins_start B h1 hf.1 hf.2 fun h' a b c d => h h' _ (.inl rfl) a b c d
theorem enumerate_next_itemG {e it : Addr} {fp : List Addr} {n i : Nat} {c : Int} {P : Nat → Value → Prop} {St : Nat → Heap → Prop} {old g : Value} {Q : Value → Shared → Prop} (hg : g = .none ∨ ∃ t, g = .int c t)
    (D : Draws prog w A it fp n P St) (he : IsEnumG s.heap e it c g old) (hst : St i s.heap) (hlt : i < n) (hne : e ≠ it) (hef : e ∉ fp)
    (hQ : ∀ x h' tk t, P i x → IsEnumOut h' e it (c + 1) x s.heap.objs.size → St (i + 1) h' →
      h'.get? s.heap.objs.size = some { cls := .type "tuple", data := .seq #[.int c t, x] } → h'.objs.size = s.heap.objs.size + 1 →
      (∀ b o, b ≠ e → b ≠ it → s.heap.get? b = some o → h'.get? b = some o) → Q (.ref s.heap.objs.size) { s with heap := h', toks := tk }) :
    wpAny (model prog w) A (Builtin.«enumerate.__next__» ⟨[.ref e], []⟩) (fun fin s' => ∃ v, fin = .done (.ret v) ∧ Q v s') E s := by
  obtain ⟨hp, gg, d, tk₀, os⟩ := s
  show wpAny _ _ (field (.ref e) 2 >>= _) _ _ _
  refine wpAny_bind (wpAny_field he rfl (x := .ref it) rfl ?_)
  refine wpAny_bind (D.item i _ _ _ hlt hst fun x h₁ tk hPx hit₁ hs₁ => ?_)
  replace hs₁ : Heap.SameBut it hp h₁ := hs₁
  have he₁ : IsEnumG h₁ e it c g old := (hs₁.2 e hne).trans he
  show wpAny _ _ (field (.ref e) 3 >>= _) _ _ ⟨h₁, gg, d, tk, os⟩
  refine wpAny_bind (wpAny_field he₁ rfl (x := rawInt c) rfl ?_)
  show wpAny _ _ (field (.ref e) 4 >>= _) _ _ ⟨h₁, gg, d, tk, os⟩
  refine wpAny_bind (wpAny_field he₁ rfl (x := g) rfl ?_)
  have key : ∀ (ti : Tok) (tk1 : Nat), wpAny (model prog w) A (do
      setField (.ref e) 3 (rawInt (c + 1)); setField (.ref e) 4 .none
      let result ← newTuple [.int c ti, x]
      if ← Builtin.SmallTypes.ownedTupleIsFree (.ref e) then
        rule "enumerate.__next__.owned-tuple-again"
        let old ← field (.ref e) 5
        setField (.ref e) 5 x
        Builtin.SmallTypes.ownedTupleHandOut (.ref e) result
        letGo [old] [result]
      ret result) (fun fin s' => ∃ v, fin = .done (.ret v) ∧ Q v s') E ⟨h₁, gg, d, tk1, os⟩ := by
    intro ti tk1
    refine wpAny_bind (wpAny_setField_rec he₁ (by simp) fun h₂ he₂ hs₂ => ?_)
    replace hs₂ : Heap.SameBut e h₁ h₂ := hs₂
    replace he₂ : IsEnumG h₂ e it (c + 1) g old := he₂
    refine wpAny_bind (wpAny_setField_rec he₂ (by simp) fun h₃ he₃ hs₃ => ?_)
    replace hs₃ : Heap.SameBut e h₂ h₃ := hs₃
    replace he₃ : IsEnum h₃ e it (c + 1) old := he₃
    refine wpAny_bind (wpAny_newTuple ?_)
    have he₄ : IsEnum (h₃.push { cls := .type "tuple", data := .seq #[.int c ti, x] }) e it (c + 1) old := Heap.get?_push_of_some _ he₃
    generalize hh₄ : h₃.push { cls := .type "tuple", data := .seq #[.int c ti, x] } = h₄ at he₄
    have hsz : h₃.objs.size = hp.objs.size := by rw [hs₃.1, hs₂.1, hs₁.1]
    have hel : e < hp.objs.size := Heap.lt_size he
    have ht₄ : h₄.get? hp.objs.size = some { cls := .type "tuple", data := .seq #[.int c ti, x] } := by rw [← hh₄, ← hsz]; exact Heap.get?_push_size _ rfl
    have hz₄ : h₄.objs.size = hp.objs.size + 1 := by rw [← hh₄, Heap.size_push, hsz]
    have hk₄ : ∀ b o, b ≠ e → b ≠ it → hp.get? b = some o → h₄.get? b = some o := fun b o hbe hbi hb => by
      rw [← hh₄]; exact Heap.get?_push_of_some _ (hs₃.extBut b o hbe (hs₂.extBut b o hbe (hs₁.extBut b o hbi hb)))
    have hit₄ : St (i + 1) h₄ := D.frame _ _ _ hit₁ fun b hb o y => by
      have hbe : b ≠ e := fun q => hef (q ▸ hb)
      rw [← hh₄]; exact Heap.get?_push_of_some _ (hs₃.extBut b o hbe (hs₂.extBut b o hbe y))
    show wpAny _ _ (Builtin.SmallTypes.ownedTupleIsFree (.ref e) >>= _) _ _ ⟨h₄, gg, d, tk1, os⟩
    rw [hsz]
    clear hh₄ he₃ hs₃ he₂ hs₂ he₁ hs₁ hit₁ hsz h₃ h₂ h₁
    refine wpAny_bind ?_
    · unfold Builtin.SmallTypes.ownedTupleIsFree
      refine wpAny_bind (wpAny_field he₄ rfl (x := .none) rfl (wpAny_pure ?_))
      simp only [if_true]
      refine wpAny_bind (wpAny_rule ?_)
      refine wpAny_bind (wpAny_field he₄ rfl (x := old) rfl ?_)
      refine wpAny_bind (wpAny_setField_rec he₄ (by simp) fun h₅ he₅ hs₅ => ?_)
      replace hs₅ : Heap.SameBut e h₄ h₅ := hs₅
      replace he₅ : IsEnum h₅ e it (c + 1) x := he₅
      show wpAny _ _ (Builtin.SmallTypes.ownedTupleHandOut (.ref e) (.ref hp.objs.size) >>= _) _ _ ⟨h₅, gg, d, tk1, os⟩
      refine wpAny_bind ?_
      · unfold Builtin.SmallTypes.ownedTupleHandOut
        refine wpAny_bind (wpAny_setField_rec he₅ (by simp) fun h₆ he₆ hs₆ => ?_)
        replace hs₆ : Heap.SameBut e h₅ h₆ := hs₆
        replace he₆ : IsEnumOut h₆ e it (c + 1) x hp.objs.size := he₆
        refine wpAny_setField_rec he₆ (by simp) fun h₇ he₇ hs₇ => ?_
        replace hs₇ : Heap.SameBut e h₆ h₇ := hs₇
        replace he₇ : IsEnumOut h₇ e it (c + 1) x hp.objs.size := he₇
        refine wpAny_bind (wpAny_letGo (wpAny_pure ⟨_, rfl, hQ x h₇ tk1 ti hPx he₇ ?_ ?_ ?_ ?_⟩))
        · exact D.frame _ _ _ hit₄ fun b hb o y => by
            have hbe : b ≠ e := fun q => hef (q ▸ hb)
            exact hs₇.extBut b o hbe (hs₆.extBut b o hbe (hs₅.extBut b o hbe y))
        · exact hs₇.extBut _ _ (Nat.ne_of_gt hel) (hs₆.extBut _ _ (Nat.ne_of_gt hel) (hs₅.extBut _ _ (Nat.ne_of_gt hel) ht₄))
        · rw [hs₇.1, hs₆.1, hs₅.1, hz₄]
        · exact fun b o hbe hbi hb => hs₇.extBut b o hbe (hs₆.extBut b o hbe (hs₅.extBut b o hbe (hk₄ b o hbe hbi hb)))
  rcases hg with rfl | ⟨tg, rfl⟩
  · show wpAny _ _ (mkInt c >>= _) _ _ ⟨h₁, gg, d, tk, os⟩
    exact wpAny_bind (wpAny_mkInt (key tk (tk + 1)))
  · exact key tg tk
theorem wpAny_pyNext_enum_itemG {e it : Addr} {fp : List Addr} {n i : Nat} {c : Int} {P : Nat → Value → Prop} {St : Nat → Heap → Prop} {old g : Value} {Q : Option Value → Shared → Prop} (hg : g = .none ∨ ∃ t, g = .int c t)
    (D : Draws prog w A.in1 it fp n P St) (he : IsEnumG s.heap e it c g old) (hst : St i s.heap) (hlt : i < n) (hne : e ≠ it) (hef : e ∉ fp)
    (hQ : ∀ x h' tk t, P i x → IsEnumOut h' e it (c + 1) x s.heap.objs.size → St (i + 1) h' →
      h'.get? s.heap.objs.size = some { cls := .type "tuple", data := .seq #[.int c t, x] } → h'.objs.size = s.heap.objs.size + 1 →
      (∀ b o, b ≠ e → b ≠ it → s.heap.get? b = some o → h'.get? b = some o) → Q (some (.ref s.heap.objs.size)) { s with heap := h', toks := tk }) :
    wpAny (model prog w) A (pyNext (.ref e)) Q E s := by
  have hT : s.TypeIs (.ref e) "enumerate" := ⟨_, he, rfl⟩
  unfold pyNext
  exact wpAny_bind (wpAny_attempt (wpAny_callSpecial?_slot (name := Str.ofString "__next__") hT F.slot_enumerate_next
    (wpAny_call_entry F.slot_enumerate_next hT F.entry_enumerate_next
      (enumerate_next_itemG hg D he hst hlt hne hef fun x h' tk t a b c d k q => wpAny_pure (hQ x h' tk t a b c d k q)) (F.args_enumerate_next_1 _))))
theorem wpAny_pyIter_enumG {e it : Addr} {i : Int} {old g : Value} {Q : Value → Shared → Prop} (he : IsEnumG s.heap e it i g old) (h : Q (.ref e) s) : wpAny (model prog w) A (pyIter (.ref e)) Q E s := by
  have hT : s.TypeIs (.ref e) "enumerate" := ⟨_, he, rfl⟩
  refine wpAny_pyIter_slot hT F.slot_enumerate_iter (wpAny_call_entry F.slot_enumerate_iter hT F.entry_enumerate_iter ?_ (F.args_enumerate_iter_1 _))
  show wpAny _ _ (ret (.ref e)) _ _ s
  exact wpAny_pure ⟨_, rfl, "enumerate", _, hT, F.slot_enumerate_next.lookup, h⟩
end
end PySem

/-! PLE2: enumerate(text, start=k), enumerate(text) as rules of the layer. -/
namespace PySem
section
variable {prog : Program} {w : World} {A : Around} {E : Value → Shared → Prop} {s : Shared}
theorem wpAny_pyNext_enum_endG {e it : Addr} {fp : List Addr} {n : Nat} {P : Nat → Value → Prop} {St : Nat → Heap → Prop} {i : Int} {old g : Value} {Q : Option Value → Shared → Prop}
    (D : Draws prog w A.in1 it fp n P St) (he : IsEnumG s.heap e it i g old) (hst : St n s.heap)
    (hQ : ∀ h', Heap.ExtBut it s.heap h' → Q none { s with heap := h' }) : wpAny (model prog w) A (pyNext (.ref e)) Q E s := by
  have hT : s.TypeIs (.ref e) "enumerate" := ⟨_, he, rfl⟩
  unfold pyNext
  refine wpAny_bind (wpAny_attempt (wpAny_callSpecial?_slot (name := Str.ofString "__next__") hT F.slot_enumerate_next
    (wpAny_call_entry F.slot_enumerate_next hT F.entry_enumerate_next ?_ (F.args_enumerate_next_1 _))))
  show wpAny _ _ (field (.ref e) 2 >>= _) _ _ _
  refine wpAny_bind (wpAny_field he rfl (x := .ref it) rfl ?_)
  refine wpAny_bind (D.done _ _ _ hst fun h' x he' hx' => ?_)
  obtain ⟨o, ho, hc⟩ := hx'
  refine wpAny_bind (wpAny_isInstance (T := "StopIteration") (b := true) ⟨o, ho, hc⟩ isSubtype_stop ?_)
  exact wpAny_pure (hQ _ he')
/-- a built-in class called with keywords -/
theorem callWith_type_kwB {M : Model} {A : Around} {E : Value → Shared → Prop} {s : Shared} {pos : Pos} {T : String} {first : List Value} {args : List (Bool × Sem Value)} {keywords : List (Option Str × Sem Value)} {Q : Value → Shared → Prop}
    (hplain : args.any (·.1) = false) (hkw : keywords.any (·.1.isNone) = false)
    (h : wpAny M A (evalArgs (.type T) true args keywords) (fun a s₁ => wpAny M A (call (.type T) (first ++ a.pos) a.kw) Q E s₁) E s) :
    wpAny M A (callWith pos (.type T) first args keywords) Q E s := by
  unfold callWith
  refine wpAny_bind (wpAny_holding (wpAny_mono h (fun a s₁ h₁ => wpAny_bind (wpAny_standAt ?_)) fun _ _ x => x))
  simp only [hplain, hkw, Bool.or_false]
  refine wpAny_bind (wpAny_pure ?_)
  exact wpAny_bind (wpAny_mono h₁ (fun r s₂ hr => wpAny_bind (wpAny_holding (wpAny_point (wpAny_pure hr)))) fun _ _ x => x)
theorem callWith_type_kw {M : Model} {A : Around} {E : Value → Shared → Prop} {s : Shared} {env : Env} {pos : Pos} {T : String} {e : Expr} {rest : List Expr} {kws : List Keyword} {Q : Value → Shared → Prop}
    (h : wpAny M A (spliced (backTo pos (starEach (e :: rest) env))) (fun vs s₁ => wpAny M A (evalAll ((backToKw pos (keywordEach kws env)).map (·.2)))
      (fun kvs s₂ => wpAny M A (call (.type T) vs (((backToKw pos (keywordEach kws env)).filterMap (·.1)).zip kvs)) Q E s₂) E s₁) E s)
    (he : backTo pos (starEach (e :: rest) env) = (false, eval e env) :: backTo pos (starEach rest env) := by rfl)
    (hplain : (backTo pos (starEach (e :: rest) env)).any (·.1) = false := by rfl)
    (hall : (backToKw pos (keywordEach kws env)).all (·.1.isSome) = true := by rfl)
    (hkw : (backToKw pos (keywordEach kws env)).any (·.1.isNone) = false := by rfl) :
    wpAny M A (callWith pos (.type T) [] (backTo pos (starEach (e :: rest) env)) (backToKw pos (keywordEach kws env))) Q E s := by
  refine callWith_type_kwB hplain hkw ?_
  rw [he] at h ⊢
  exact PyProof.Rows.evalArgs_kwB hall h
end
end PySem
namespace PL
open PySem PySem.Spec L2 PyProof.Rows
/-- a text, sign by sign, with a count -/
def Itse (x : Str) (k : Int) : It := ⟨fun i _ => i < x.cps.size, fun i H v H' => ∃ T c, v = .ref T ∧ H T = none ∧ H' = upd H T (.tup [.int (k + (i : Nat)), .str ⟨#[c]⟩]) ∧ x.cps[i]? = some c, fun i _ => i = x.cps.size⟩
theorem turn_enumS {P : Program} {w : World} {K : PySem.W.Frag} {elts : List Expr} {kk : Nat} {tpos : Pos} (x : Str) (t : Tok) (k : Int) (e it : Addr) :
    Turn P w K (.Tuple elts kk tpos) (Itse x k) [e, it] e (fun i h => (∃ g old, (g = .none ∨ (i = 0 ∧ ∃ t, g = .int k t)) ∧ IsEnumG h e it (k + ((i : Nat) : Int)) g old) ∧ h.IsStrIter it (strIterType x) x t i ∧ e ≠ it) where
  mem := by simp
  obj := fun i h st b hb => by
    obtain ⟨⟨g, old, _, he⟩, ⟨o, ho, hc, hd⟩, _⟩ := st
    have e' : b = e ∨ b = it := by simpa using hb
    rcases e' with z | z
    · rw [z]; exact ⟨_, he, fun v q => nomatch q⟩
    · rw [z]; exact ⟨o, ho, fun v q => by rw [hd] at q; cases q⟩
  keep := fun i h h' st kp => let ⟨⟨g, old, hg, he⟩, ⟨o, ho, r⟩, hne⟩ := st; ⟨⟨g, old, hg, kp e (by simp) _ he⟩, ⟨o, kp it (by simp) o ho, r⟩, hne⟩
  item := by
    intro X hP hw hK hc i pins s σ H E I hf st hg
    subst hP hw hK
    obtain ⟨⟨g, old, hgv, he⟩, hit, hne⟩ := st
    have hg' : g = .none ∨ ∃ t, g = .int (k + ((i : Nat) : Int)) t := by
      rcases hgv with h | ⟨h0, t, h⟩
      · exact .inl h
      · subst h0
        exact .inr ⟨t, by rw [h]; simp⟩
    have hel : e < s.heap.objs.size := Heap.lt_size he
    have hil : it < s.heap.objs.size := by obtain ⟨_, q, _⟩ := hit; exact Heap.lt_size q
    have D := Draws.text (prog := X.prog) (w := X.w) (A := X.A.in1) (I.ok.hd hc) it x t
    refine wpAny_pyNext_enum_itemG hg' D he hit hg hne (by simp [hne]) fun u h' tk ti hP ho hit' hT hsz hk => ?_
    obtain ⟨c, tc, hcx, rfl⟩ := hP
    refine ⟨_, rfl, wpAny_letOwnedTupleGo_enum (s := { s with heap := h', toks := tk }) ho fun h'' he' sb => ?_⟩
    have hT2 : h''.get? s.heap.objs.size = some { cls := .type "tuple", data := .seq #[.int (k + ((i : Nat) : Int)) ti, .str ⟨#[c]⟩ tc] } := (sb.2 _ (Nat.ne_of_gt hel)).trans hT
    have new : ObjOk X.prog X.w (upd H s.heap.objs.size (.tup [.int (k + (i : Nat)), .str ⟨#[c]⟩])) h'' s.heap.objs.size (.tup [.int (k + (i : Nat)), .str ⟨#[c]⟩]) :=
      ⟨by show 2 ≤ sizeLine; decide, [.int (k + ((i : Nat) : Int)) ti, .str ⟨#[c]⟩ tc], .cons ⟨_, rfl⟩ (.cons ⟨_, rfl⟩ .nil), ⟨_, hT2, rfl, _, rfl⟩⟩
    have I1 : Inv X pins σ (upd H s.heap.objs.size (.tup [.int (k + (i : Nat)), .str ⟨#[c]⟩])) { s with heap := h'', toks := tk } :=
      I.turnedNew (ch := [e, it]) (fun b ob hb q => (sb.2 b (fun z => hb (by simp [z]))).trans (hk b ob (fun z => hb (by simp [z])) (fun z => hb (by simp [z])) q)) hf (Nat.le_refl _) new
    refine ⟨.ref s.heap.objs.size, _, I1, rfl, ⟨_, c, rfl, I.hok.fresh (Nat.le_refl _), rfl, hcx⟩, ⟨⟨.none, .str ⟨#[c]⟩ tc, .inl rfl, ?_⟩, ?_, hne⟩, fun b hb => ?_⟩
    · have e1 : k + ((i + 1 : Nat) : Int) = k + (i : Int) + 1 := by omega
      rw [e1]
      exact he'
    · obtain ⟨o, q1, q2⟩ := hit'
      exact ⟨o, (sb.2 it (Ne.symm hne)).trans q1, q2⟩
    · have hb' : b < s.heap.objs.size := by
        have e' : b = e ∨ b = it := by simpa using hb
        rcases e' with z | z
        · rw [z]; exact hel
        · rw [z]; exact hil
      rw [upd_ne (Nat.ne_of_lt hb')]
      exact (hf b hb).1
  done := by
    intro X hP hw hK hc i pins s σ H E I hf st hg
    subst hP hw hK
    obtain ⟨⟨g, old, _, he⟩, hit, hne⟩ := st
    have hgi : i = x.cps.size := hg
    obtain ⟨f0, f1, f2, f3, f4, f5⟩ := hf it (by simp)
    have D := Draws.text (prog := X.prog) (w := X.w) (A := X.A.in1) (I.ok.hd hc) it x t
    rw [hgi] at hit
    exact wpAny_pyNext_enum_endG D he hit fun h' eb => ⟨rfl, I.turned (t' := s.toks) (fun b o hb q => eb b o hb q) f0 f1 f3 f4 f5⟩
  self := fun A i s Q E st h => let ⟨⟨_, _, _, he⟩, _⟩ := st; wpAny_pyIter_enumG he h
section
variable {X : Cx} {e b : Expr} {ta : TA} {tk : TA} {te : TE} {p pos tpos kpos : Pos} {elts : List Expr} {kk : Nat}
def iEnumS (ta : TA) : TI := fun σ H R => ta σ H fun vs H1 => ∃ x, vs = [.str x] ∧ R (Itse x 0) H1
def iEnumK (ta tk : TA) : TI := fun σ H R => ta σ H fun vs H1 => tk σ H1 fun zs H2 => ∃ x k, vs = [.str x] ∧ zs = [.int k] ∧ R (Itse x k) H2
theorem enumS_pie {pins : List (Addr × Obj)} {σ : L2.St} {H1 : Hp} {s1 : Shared} {h' : Heap} {x : Str} {t : Tok} {k : Int} {g : Value} {R : It → Hp → Prop} (I1 : Inv X pins σ H1 s1) (hg : g = .none ∨ ∃ t, g = .int k t) (he : IsEnumG h' (s1.heap.objs.size + 1) s1.heap.objs.size k g .none)
    (ho : h'.IsStrIter s1.heap.objs.size (strIterType x) x t 0) (hk : ∀ b o, s1.heap.get? b = some o → h'.get? b = some o) (q : R (Itse x k) H1) :
    PIE X pins σ (.Tuple elts kk tpos) R (.ref (s1.heap.objs.size + 1)) { s1 with heap := h' } := by
  have I2 : Inv X pins σ H1 { s1 with heap := h' } := I1.kept (t' := s1.toks) hk
  refine ⟨s1.heap.objs.size + 1, [s1.heap.objs.size + 1, s1.heap.objs.size], _, _, H1, rfl, I2, turn_enumS x t k (s1.heap.objs.size + 1) s1.heap.objs.size, ⟨⟨g, .none, hg.elim .inl fun h => .inr ⟨rfl, h⟩, by simpa using he⟩, ho, Nat.succ_ne_self _⟩, fun b hb => ?_, q⟩
  have e' : b = s1.heap.objs.size + 1 ∨ b = s1.heap.objs.size := by simpa using hb
  have hle : s1.heap.objs.size ≤ b := by
    rcases e' with z | z
    · rw [z]; exact Nat.le_add_right _ _
    · rw [z]; exact Nat.le_refl _
  exact I1.fpOk hle (I1.hok.fresh hle)
/-- for i, c in enumerate(a text) -/
theorem pi_enumS (hg : Gl X "enumerate") (hm : X.mg "enumerate" = none) (ha : PA X [e] ta) (hs : starEach [e] X.env = [(false, eval e X.env)] := by rfl) :
    PI X (.Tuple elts kk tpos) (.Call (.Name "enumerate" p) [e] [] pos) (iEnumS ta) := by
  refine ⟨fun pins s σ H R I h => ?_⟩
  refine Call_ (ld_blt I hg hm boot_enumerate (PyProof.Rows.callWith_type1 (thn (ha.run pos pins s σ H _ I h) fun us s1 ⟨vs, H1, I1, r1, q1⟩ => ?_) hs rfl))
  obtain ⟨x, ex, q⟩ := q1
  subst ex
  cases r1 with
  | cons r rr =>
    cases rr
    obtain ⟨t, rfl⟩ := r
    refine call_enumerate_str fun h' he hit hsz hk => wpAny_pyIter_enumG he ?_
    exact enumS_pie I1 (.inl rfl) he hit hk q
/-- for i, c in enumerate(a text, start=k) -/
theorem pi_enumK (hg : Gl X "enumerate") (hm : X.mg "enumerate" = none) (ha : PA X [e] ta) (hk : PK X [⟨some (Str.ofString "start"), b, kpos⟩] tk)
    (hb : backTo pos (starEach [e] X.env) = (false, eval e X.env) :: backTo pos (starEach [] X.env) := by rfl) (hpl : (backTo pos (starEach [e] X.env)).any (·.1) = false := by rfl)
    (hall : (backToKw pos (keywordEach [⟨some (Str.ofString "start"), b, kpos⟩] X.env)).all (·.1.isSome) = true := by rfl)
    (hks : (backToKw pos (keywordEach [⟨some (Str.ofString "start"), b, kpos⟩] X.env)).filterMap (·.1) = [Str.ofString "start"] := by rfl)
    (hnone : (backToKw pos (keywordEach [⟨some (Str.ofString "start"), b, kpos⟩] X.env)).any (·.1.isNone) = false := by rfl) :
    PI X (.Tuple elts kk tpos) (.Call (.Name "enumerate" p) [e] [⟨some (Str.ofString "start"), b, kpos⟩] pos) (iEnumK ta tk) := by
  refine ⟨fun pins s σ H R I h => ?_⟩
  refine wpAny_Call_Name_kw (ld_blt I hg hm boot_enumerate ?_)
  refine PySem.callWith_type_kw (thn (ha.run pos pins s σ H _ I h) fun us s1 ⟨vs, H1, I1, r1, q1⟩ => thn (hk.run pos pins s1 σ H1 _ I1 q1) fun ws s2 ⟨zs, H2, I2, r2, x, k, ev, ez, q⟩ => ?_) hb hpl hall hnone
  subst ev
  subst ez
  rw [hks]
  cases r1 with
  | cons r rr =>
    cases rr
    obtain ⟨t, rfl⟩ := r
    cases r2 with
    | cons r' rr' =>
      cases rr'
      obtain ⟨t', rfl⟩ := r'
      exact enum_begins_any (PySem.begins_text x t) True.intro fun h' g hgv he ho hsz hkk => wpAny_pyIter_enumG he (enumS_pie I2 hgv he ⟨_, ho, rfl, rfl⟩ hkk q)
end
/-! ### readings -/
section
variable {W : WD} {ρ : Rho} {M : Cells}
theorem dw_enumS {G : Hp} {x : Str} {k : Int} : DW (Itse x k) G x.cps.size (fun i d => ∃ c, x.cps[i]? = some c ∧ d = dT [.int (k + (i : Nat)), .str ⟨#[c]⟩]) fun _ => True := by
  refine ⟨fun _ => True, fun i H v H' => ∃ T c, v = .ref T ∧ H T = none ∧ H' = upd H T (.tup [.int (k + (i : Nat)), .str ⟨#[c]⟩]) ∧ x.cps[i]? = some c, ⟨fun i H hi _ => hi, fun H _ => rfl, fun i H v H' hi _ y => y⟩, fun _ _ _ _ _ _ _ => trivial, ?_⟩
  rintro F' i G' M' H' v H2 hi e o' _ ⟨T, c, rfl, hT, rfl, hc⟩
  obtain ⟨G2, d, a1, a2, a3, a4⟩ := pair_new o' hT (Rp.int (k + (i : Nat))) (Rp.str ⟨#[c]⟩)
  exact ⟨G2, d, a1, a2, ⟨c, hc, a3⟩, a4⟩
theorem si_enumS {ta : TA} {R : Nat → (Nat → D → Prop) → (Cells → Prop) → Cells → Prop} (h : SA W ta ρ M fun ds M1 => ∃ x, ds = [dS x] ∧ R x.cps.size (fun i d => ∃ c, x.cps[i]? = some c ∧ d = dT [.int (i : Nat), .str ⟨#[c]⟩]) (fun _ => True) M1) : SI W (iEnumS ta) ρ M R := fun G σ H F Q re o mx q =>
  h G σ H F _ re o mx fun ds M1 vs G1 H1 ⟨x, ed, k⟩ e1 r1 o1 => by
    subst ed
    obtain ⟨v, rfl, r⟩ := r1.one
    cases str_of r
    refine ⟨x, rfl, q _ _ _ M1 G1 H1 _ k e1 o1 ?_⟩
    have z := dw_enumS (G := G1) (x := x) (k := 0)
    simp only [Int.zero_add] at z
    exact z
theorem si_enumK {ta tk : TA} {R : Nat → (Nat → D → Prop) → (Cells → Prop) → Cells → Prop} (h : SA W ta ρ M fun ds M1 => SA W tk ρ M1 fun es M2 => ∃ x k, ds = [dS x] ∧ es = [dI k] ∧ R x.cps.size (fun i d => ∃ c, x.cps[i]? = some c ∧ d = dT [.int (k + (i : Nat)), .str ⟨#[c]⟩]) (fun _ => True) M2) : SI W (iEnumK ta tk) ρ M R := fun G σ H F Q re o mx q =>
  h G σ H F _ re o mx fun ds M1 vs G1 H1 k1 e1 r1 o1 => k1 G1 σ H1 F _ (re.mono e1) o1 (mx.mono e1) fun es M2 zs G2 H2 ⟨x, k, ed, ee, kk⟩ e2 r2 o2 => by
    subst ed
    subst ee
    obtain ⟨v, rfl, r⟩ := r1.one
    cases str_of r
    obtain ⟨v, rfl, r'⟩ := r2.one
    cases int_of r'
    exact ⟨x, k, rfl, rfl, q _ _ _ M2 G2 H2 _ kk (e1.trans e2) o2 dw_enumS⟩
end
end PL

/-! PL5: targets, instances, methods, isinstance, dict displays, calls that hand over cells in any order. -/
namespace PL
open PySem PySem.Spec L2
open PyProof.Rows (envOfC)

/-! ### rules by alternatives -/
section
variable {X : Cx}
theorem PG.or {tg : Expr} {g g' : TG} (h : PG X tg g) (h' : PG X tg g') : PG X tg (fun v σ H Q => g v σ H Q ∨ g' v σ H Q) := ⟨fun pins s σ H v u Q I r q => q.elim (h.run pins s σ H v u Q I r) (h'.run pins s σ H v u Q I r)⟩
theorem PI.or {tg e : Expr} {w w' : TI} (h : PI X tg e w) (h' : PI X tg e w') : PI X tg e (fun σ H R => w σ H R ∨ w' σ H R) := ⟨fun pins s σ H R I q => q.elim (h.run pins s σ H R I) (h'.run pins s σ H R I)⟩
/-- a, b = a tuple or a list -/
def gSeq (K : PySem.W.Frag) (n : Nat) (t : TGs) : TG := fun v σ H Q => gTup K n t v σ H Q ∨ gUnl K n t v σ H Q
theorem pg_seq {es : List Expr} {k n : Nat} {t : TGs} {pos : Pos} (hc : X.calm = true) (h : PGs X es t) (hn : (assignEach es X.env).length = n := by rfl) (hst : (assignEach es X.env).findIdx? (·.1) = none := by rfl) : PG X (.Tuple es k pos) (gSeq X.K n t) :=
  PG.or (pg_tup hc h hn hst) (pg_unl hc h hn hst)
/-- for x in a list, a tuple or a text -/
def iAny (K : PySem.W.Frag) (te : TE) : TI := fun σ H R => iList K te σ H R ∨ (iTup K te σ H R ∨ iStr te σ H R)
theorem pi_any {tg e : Expr} {te : TE} (h : PE X e te) (hl : PI X tg e (iList X.K te)) (ht : PI X tg e (iTup X.K te)) (hs : PI X tg e (iStr te)) : PI X tg e (iAny X.K te) := PI.or hl (PI.or ht hs)
/-- enumerate of a list or of a text -/
def iEnumA (K : PySem.W.Frag) (ta : TA) : TI := fun σ H R => iEnum K ta σ H R ∨ iEnumS ta σ H R
theorem pi_enumA {e : Expr} {ta : TA} {p pos tpos : Pos} {elts : List Expr} {kk : Nat} (hg : Gl X "enumerate") (hm : X.mg "enumerate" = none) (ha : PA X [e] ta) (hs : starEach [e] X.env = [(false, eval e X.env)] := by rfl) :
    PI X (.Tuple elts kk tpos) (.Call (.Name "enumerate" p) [e] [] pos) (iEnumA X.K ta) := PI.or (pi_enum hg hm ha hs) (pi_enumS hg hm ha hs)
/-- o.f = .. as a target -/
def gAttr (K : PySem.W.Frag) (to : TE) (f : Str) : TG := fun v σ H Q => to σ H fun x H1 => ∃ a C dx fs, x = .ref a ∧ H1 a = some (.ins C dx fs) ∧ Cls K C ∧ NoAttr K C f ∧ fs.length < 1000 ∧ Q σ (upd H1 a (.ins C dx (putF f v fs)))
theorem pg_attr {o : Expr} {to : TE} {f : Str} {pos : Pos} (ho : PE X o to)
    (ha : ∀ v, assign (.Attribute o f pos) X.env v = (do
      let ov ← holding [v] (eval o X.env)
      standAt pos.atName
      holding [v, ov] (setAttr ov f v)
      release [v, ov] []) := by intro _; rfl) : PG X (.Attribute o f pos) (gAttr X.K to f) := by
  refine ⟨fun pins s σ H v u Q I r h => ?_⟩
  rw [ha]
  refine wpAny_bind (wpAny_holding (thn (ho.run pins s σ H _ I h) fun ov s1 ⟨x, H1, I1, r1, a, C, dx, fs, ex, ea, c, n, l, q⟩ => ?_))
  subst ex
  obtain rfl : ov = Value.ref a := r1
  refine wpAny_bind (wpAny_standAt (wpAny_bind (wpAny_holding (setattr_ok I1 ea c n l r fun s2 I2 => ?_))))
  exact wpAny_release ⟨σ, _, I2, q⟩
def rMax3 : List V → Hp → VK → Prop := fun xs H Q => ∃ i j k, xs = [.int i, .int j, .int k] ∧ Q (.int (max (max i j) k)) H
theorem call_max3 (hc : X.calm = true) : CallR X (.builtin "max") rMax3 := by
  intro pins s σ H xs us Q I r h
  obtain ⟨i, j, k, rfl, q⟩ := h
  cases r with
  | cons r1 r =>
    obtain ⟨u, w', rfl, ⟨t', rfl⟩, ⟨t'', rfl⟩⟩ := vals2 r
    obtain ⟨t, rfl⟩ := r1
    refine max_three_ints (I.ok.hd hc) fun h' tk kp => ⟨_, H, I.kept kp, ?_, q⟩
    by_cases hj : j > i
    · by_cases hk : k > j
      · rw [if_pos hj, if_pos hk, show max (max i j) k = k by omega]; exact ⟨_, rfl⟩
      · rw [if_pos hj, if_neg hk, show max (max i j) k = j by omega]; exact ⟨_, rfl⟩
    · by_cases hk : k > i
      · rw [if_neg hj, if_pos hk, show max (max i j) k = k by omega]; exact ⟨_, rfl⟩
      · rw [if_neg hj, if_neg hk, show max (max i j) k = i by omega]; exact ⟨_, rfl⟩
end

section
variable {W : WD} {ρ : Rho} {M : Cells} {K : D → Cells → Prop} {KT : Bool → Cells → Prop} {KA : List D → Cells → Prop} {KE : Rho → Cells → Prop} {ta tb te tc to : TE} {t u : TT} {P : PD} {Kf : PySem.W.Frag}
theorem cr_max3 {i j k : Int} (kk : K (dI (max (max i j) k)) M) : CR rMax3 [dI i, dI j, dI k] M K := fun G H F us Q r o q => by
  obtain ⟨v, w, x, rfl, r1, r2, r3⟩ := r.three
  cases int_of r1
  cases int_of r2
  cases int_of r3
  exact ⟨i, j, k, rfl, q _ M _ G H kk (Ex.refl G) (Rp.int _) o⟩
theorem sg_seqT {n : Nat} {gs : TGs} {ps : List PyData} (hn : ps.length = n) (h : SGs W gs (ps.map D.py) ρ M KE) : SG W (gSeq Kf n gs) (dT ps) ρ M KE := fun G σ H F v Q r re o mx q => .inl (sg_tup hn h G σ H F v Q r re o mx q)
theorem sg_seqL {n : Nat} {gs : TGs} {d : D} {ds : List D} (hv : LV M d ds) (hn : ds.length = n) (h : SGs W gs ds ρ M KE) : SG W (gSeq Kf n gs) d ρ M KE := fun G σ H F v Q r re o mx q => by
  obtain ⟨a, vs, rfl, ha, rr⟩ := hv.at r o
  exact .inr ⟨a, vs, rfl, SqL.of ha, by rw [rr.length]; exact hn, h G σ H F vs Q rr re o mx q⟩
theorem si_anyL {R : Nat → (Nat → D → Prop) → (Cells → Prop) → Cells → Prop} (h : SI W (iList Kf te) ρ M R) : SI W (iAny Kf te) ρ M R := fun G σ H F Q re o mx q => .inl (h G σ H F Q re o mx q)
theorem si_anyT {R : Nat → (Nat → D → Prop) → (Cells → Prop) → Cells → Prop} (h : SI W (iTup Kf te) ρ M R) : SI W (iAny Kf te) ρ M R := fun G σ H F Q re o mx q => .inr (.inl (h G σ H F Q re o mx q))
theorem si_anyS {R : Nat → (Nat → D → Prop) → (Cells → Prop) → Cells → Prop} (h : SI W (iStr te) ρ M R) : SI W (iAny Kf te) ρ M R := fun G σ H F Q re o mx q => .inr (.inr (h G σ H F Q re o mx q))
theorem si_enumAL {ta : TA} {R : Nat → (Nat → D → Prop) → (Cells → Prop) → Cells → Prop} (h : SI W (iEnum Kf ta) ρ M R) : SI W (iEnumA Kf ta) ρ M R := fun G σ H F Q re o mx q => .inl (h G σ H F Q re o mx q)
theorem si_enumAS {ta : TA} {R : Nat → (Nat → D → Prop) → (Cells → Prop) → Cells → Prop} (h : SI W (iEnumS ta) ρ M R) : SI W (iEnumA Kf ta) ρ M R := fun G σ H F Q re o mx q => .inr (h G σ H F Q re o mx q)
theorem gok_seq {n : Nat} {gs : TGs} {vs : List Nat} (hs : GOks gs vs) : GOk (gSeq Kf n gs) vs := ⟨fun v σ H Q Q' m q => q.elim (fun ⟨a, xs, e, h1, h2, q⟩ => .inl ⟨a, xs, e, h1, h2, hs.w xs σ H _ _ m q⟩) fun ⟨a, xs, e, h1, h2, q⟩ => .inr ⟨a, xs, e, h1, h2, hs.w xs σ H _ _ m q⟩⟩

/-! ### instances -/
def putD (f : Str) (d : D) : List (Str × D) → List (Str × D)
  | [] => [(f, d)]
  | (g, x) :: r => if g = f then (g, d) :: r else (g, x) :: putD f d r
abbrev FR (G : Hp) : List (Str × V) → List (Str × D) → Prop := All2 (fun (p : Str × V) (q : Str × D) => p.1 = q.1 ∧ RD G p.2 q.2)
theorem FR.lookup {G : Hp} {f : Str} : ∀ {vs : List (Str × V)} {fs : List (Str × D)} {d : D}, FR G vs fs → fs.lookup f = some d → ∃ v, vs.lookup f = some v ∧ RD G v d
  | _, _, _, .nil, h => by cases h
  | (g, v) :: vs, (g', x) :: fs, d, .cons ⟨e, r⟩ rr, h => by
    cases e
    unfold List.lookup at h ⊢
    cases hb : f == g with
    | true =>
      rw [hb] at h
      cases h
      exact ⟨v, by simp only [hb], r⟩
    | false =>
      rw [hb] at h
      obtain ⟨v', h1, h2⟩ := FR.lookup rr h
      exact ⟨v', by simp only [hb]; exact h1, h2⟩
theorem FR.none {G : Hp} {f : Str} : ∀ {vs : List (Str × V)} {fs : List (Str × D)}, FR G vs fs → fs.lookup f = none → vs.lookup f = none
  | _, _, .nil, _ => rfl
  | (g, v) :: vs, (g', x) :: fs, .cons ⟨e, r⟩ rr, h => by
    cases e
    unfold List.lookup at h ⊢
    cases hb : f == g with
    | true =>
      rw [hb] at h
      cases h
    | false =>
      rw [hb] at h
      simp only [hb]
      exact FR.none rr h
theorem FR.put {G : Hp} {f : Str} {v : V} {d : D} (h : RD G v d) : ∀ {vs : List (Str × V)} {fs : List (Str × D)}, FR G vs fs → FR G (putF f v vs) (putD f d fs)
  | _, _, .nil => .cons ⟨rfl, h⟩ .nil
  | (g, x) :: vs, (g', y) :: fs, .cons ⟨e, r⟩ rr => by
    cases e
    unfold putF putD
    by_cases hg : g = f
    · rw [if_pos hg, if_pos hg]
      exact .cons ⟨rfl, h⟩ rr
    · rw [if_neg hg, if_neg hg]
      exact .cons ⟨rfl, r⟩ (FR.put h rr)
theorem se_fld {f : Str} (h : SE W ta ρ M fun x M1 => ∃ i p C fs d, x = dR p ∧ CA M1 i p (.ins C fs) ∧ Cls Kf C ∧ NoAttr Kf C f ∧ fs.lookup f = some d ∧ K d M1) : SE W (tFld Kf ta f) ρ M K := fun G σ H F Q re o mx q =>
  h G σ H F _ re o mx fun x M1 v G1 H1 ⟨i, p, C, fs, d, ex, hc, cl, na, hl, k⟩ e1 r1 o1 => by
    subst ex
    cases r1
    obtain ⟨dx, vs, hv, rr⟩ := o1.at hc
    obtain ⟨y, hy, ry⟩ := FR.lookup rr hl
    exact ⟨p, C, dx, vs, y, rfl, hv, cl, na, hy, q d M1 y G1 H1 k e1 ry o1⟩
theorem ss_fld {f : Str} (h : SE W tb ρ M fun d M1 => SE W ta ρ M1 fun x M2 => ∃ i p C fs, x = dR p ∧ CA M2 i p (.ins C fs) ∧ Cls Kf C ∧ NoAttr Kf C f ∧ fs.length < 1000 ∧ P.nx ρ (M2.set i (p, (.ins C (putD f d fs))))) : SS W (sFld Kf ta tb f) ρ M P := fun G σ H F D re o mx md =>
  h G σ H F _ re o mx fun d M1 v G1 H1 k1 e1 r1 o1 => k1 G1 σ H1 F _ (re.mono e1) o1 (mx.mono e1) fun x M2 w G2 H2 ⟨i, p, C, fs, ex, hc, cl, na, hl, k⟩ e2 r2 o2 => by
    subst ex
    cases r2
    obtain ⟨dx, vs, hv, rr⟩ := o2.at hc
    have hlen : vs.length = fs.length := All2.length rr
    exact ⟨p, C, dx, vs, rfl, hv, cl, na, by rw [hlen]; exact hl, md.nx ρ _ σ G2 _ k (e1.trans e2) (re.mono (e1.trans e2)) (o2.store hc ⟨dx, _, upd_same, FR.put (r1.mono e2) rr⟩)⟩
theorem sg_attr {f : Str} {d : D} (h : SE W to ρ M fun x M1 => ∃ i p C fs, x = dR p ∧ CA M1 i p (.ins C fs) ∧ Cls Kf C ∧ NoAttr Kf C f ∧ fs.length < 1000 ∧ KE ρ (M1.set i (p, (.ins C (putD f d fs))))) : SG W (gAttr Kf to f) d ρ M KE := fun G σ H F v Q r re o mx q =>
  h G σ H F _ re o mx fun x M1 w G1 H1 ⟨i, p, C, fs, ex, hc, cl, na, hl, k⟩ e1 r1 o1 => by
    subst ex
    cases r1
    obtain ⟨dx, vs, hv, rr⟩ := o1.at hc
    have hlen : vs.length = fs.length := All2.length rr
    exact ⟨p, C, dx, vs, rfl, hv, cl, na, by rw [hlen]; exact hl, q ρ _ σ G1 _ k e1 (re.mono e1) (o1.store hc ⟨dx, _, upd_same, FR.put (r.mono e1) rr⟩)⟩

/-! ### cells in another order -/
theorem Own.perm {G H : Hp} {M N : Cells} (o : Own G M H) (h : M.Perm N) : Own G N H :=
  ⟨o.ex, (h.map _).nodup_iff.mp o.nd, fun p hp => o.fr p (h.mem_iff.mpr hp), fun p hp => o.ok p (h.mem_iff.mpr hp)⟩
/-- a call that hands over the cells Mc, wherever they stand -/
theorem se_callP {s : DSp} {E : XK} {ta : TA} (hE : ∀ c d σ H, W.E c d σ H → E c d H)
    (h : SA W ta ρ M fun ds M1 => ∃ Mc Mr, M1.Perm (Mc ++ Mr) ∧ s ds Mc (fun d M' => K d (M' ++ Mr)) fun x M' => W.K x ρ (M' ++ Mr)) : SE W (tCall (spD s) [] E ta) ρ M K := fun G σ H F Q re o mx q =>
  h G σ H F _ re o mx fun ds M1 vs G1 H1 ⟨Mc, Mr, hp, k1⟩ e1 r1 o1 => by
    show spD s (vs ++ []) H1 Q E
    rw [List.append_nil]
    have o2 : Own G1 (Mc ++ (Mr ++ F)) H1 := by
      rw [← List.append_assoc]
      exact o1.perm (hp.append_right F)
    refine ⟨G1, ds, Mc, Mr ++ F, _, _, o2, r1, k1, fun d M' v G' H' k e r o' => ?_, fun x M' d G' H' k e xr o' => hE _ _ σ _ ?_⟩
    · refine q d (M' ++ Mr) v G' H' k (e1.trans e) r ?_
      rw [List.append_assoc]
      exact o'
    · refine mx x ρ (M' ++ Mr) d σ G' H' k (e1.trans e) xr (re.mono (e1.trans e)) ?_
      rw [List.append_assoc]
      exact o'
theorem se_meth {m : Str} {C : Addr} {s : DSp} {E : XK} {ta' : TA} (hE : ∀ c d σ H, W.E c d σ H → E c d H)
    (h : SE W to ρ M fun x M1 => ∃ i p fs, x = dR p ∧ CA M1 i p (.ins C fs) ∧ fs.lookup m = none ∧ SA W ta' ρ M1 fun ds M2 => ∃ Mc Mr, M2.Perm (Mc ++ Mr) ∧ s (dR p :: ds) Mc (fun d M' => K d (M' ++ Mr)) fun x M' => W.K x ρ (M' ++ Mr)) :
    SE W (tMeth C m (spD s) [] E to ta') ρ M K := fun G σ H F Q re o mx q =>
  h G σ H F _ re o mx fun x M1 v G1 H1 ⟨i, p, fs, ex, hc, hl, h2⟩ e1 r1 o1 => by
    subst ex
    cases r1
    obtain ⟨dx, vs, hv, rr⟩ := o1.at hc
    refine ⟨p, dx, vs, rfl, hv, FR.none rr hl, h2 G1 σ H1 F _ (re.mono e1) o1 (mx.mono e1) fun ds M2 ws G2 H2 ⟨Mc, Mr, hp, k1⟩ e2 r2 o2 => ?_⟩
    show spD s (.ref p :: (ws ++ [])) H2 Q E
    rw [List.append_nil]
    have o3 : Own G2 (Mc ++ (Mr ++ F)) H2 := by
      rw [← List.append_assoc]
      exact o2.perm (hp.append_right F)
    have e12 := e1.trans e2
    refine ⟨G2, dR p :: ds, Mc, Mr ++ F, _, _, o3, .cons rfl r2, k1, fun d M' v G' H' k e r o' => ?_, fun x M' d G' H' k e xr o' => hE _ _ σ _ ?_⟩
    · refine q d (M' ++ Mr) v G' H' k (e12.trans e) r ?_
      rw [List.append_assoc]
      exact o'
    · refine mx x ρ (M' ++ Mr) d σ G' H' k (e12.trans e) xr (re.mono (e12.trans e)) ?_
      rw [List.append_assoc]
      exact o'
/-- C(..): a new instance, its __init__ at work upon it -/
theorem se_make {C : Addr} {s : DSp} {E : XK} {ta' : TA} (hE : ∀ c d σ H, W.E c d σ H → E c d H)
    (h : SA W ta' ρ M fun ds M1 => ∀ x, s (dR x :: ds) [(x, .ins C [])] (fun d M' => d = dN ∧ ∃ c, M' = [(x, c)] ∧ K (dR x) (M1 ++ [(x, c)])) fun _ _ => False) : SE W (tMake C (spD s) [] E ta') ρ M K := fun G σ H F Q re o mx q =>
  h G σ H F _ re o mx fun ds M1 vs G1 H1 k1 e1 r1 o1 => by
    intro x dx hx hdx hne
    show spD s (.ref x :: (vs ++ [])) _ _ E
    rw [List.append_nil]
    have e2 : Ex G1 (upd G1 dx (.own x)) := Ex.new (o1.ex.free hdx)
    have o2 : Own (upd G1 dx (.own x)) (M1 ++ F) (upd H1 dx (.own x)) := o1.push hdx _
    have hx2 : (upd H1 dx (.own x)) x = none := by rw [upd_ne hne.symm]; exact hx
    have o3 := o2.cell (c := .ins C []) hx2 (u := .ins C dx []) ⟨dx, [], upd_same, .nil⟩
    have o4 : Own (upd G1 dx (.own x)) ([(x, .ins C [])] ++ (M1 ++ F)) (upd (upd H1 dx (.own x)) x (.ins C dx [])) := o3.perm (by
      rw [List.append_assoc]
      exact (List.perm_middle (a := (x, Cell.ins C [])) (l₁ := M1) (l₂ := F)).trans (List.Perm.refl _))
    refine ⟨_, dR x :: ds, [(x, .ins C [])], M1 ++ F, _, _, o4, .cons rfl (RDs.mono e2 r1), k1 x, fun d M' v G' H' ⟨ed, c, eM, k⟩ e r o' => ?_, fun _ _ _ _ _ k => k.elim⟩
    subst ed
    subst eM
    refine ⟨non_of r, q (dR x) (M1 ++ [(x, c)]) _ G' H' k (e1.trans (e2.trans e)) rfl (o'.perm ?_)⟩
    rw [List.append_assoc]
    exact ((List.perm_middle (a := (x, c)) (l₁ := M1) (l₂ := F)).trans (List.Perm.refl _)).symm

/-! ### isinstance -/
def tyP : PyData → String
  | .none => "NoneType"
  | .bool _ => "bool"
  | .int _ => "int"
  | .str _ => "str"
  | .list _ => "list"
  | .tuple _ => "tuple"
  | .dict _ => "dict"
theorem rp_ty {G H : Hp} {M F : Cells} (o : Own G (M ++ F) H) {v : V} {p : PyData} (r : RD G v (.py p)) : TyX Kf H v (.type (tyP p)) := by
  have r' : Rp G v p := r
  cases r' with
  | non => exact .base .non
  | bl b => exact .base (.bl b)
  | int i => exact .base (.int i)
  | str x => exact .base (.str x)
  | lst h _ => exact .base (.lst (o.ex _ _ h))
  | tup h _ => exact .base (.tup (o.ex _ _ h))
theorem cr_isi {p : PyData} {n : String} {b : Bool} (h : kitB (tyP p) n = some b) (k : K (dB b) M) : CR (rIsi Kf) [.py p, .raw (.ty n)] M K := fun G H F us Q r o q => by
  obtain ⟨v, w, rfl, r1, r2⟩ := r.two
  cases r2
  exact ⟨v, .ty n, .type (tyP p), .type n, b, rfl, .ty n, rp_ty o r1, kit_ty h, q _ M _ G H k (Ex.refl G) (Rp.bl _) o⟩

/-! ### a displayed dict, asked at once -/
/-- {k: v, ..}.get(y, z), the keys texts that are written -/
abbrev SPs (W : WD) (trs : List (TE × TE)) (ρ : Rho) (M : Cells) (K : List (D × D) → Cells → Prop) : Prop :=
  ∀ (G : Hp) (σ : St) (H : Hp) (F : Cells) (Q : List (V × V) → Hp → Prop), REnv G σ ρ → Own G (M ++ F) H → MatchX G F W →
    (∀ ps M' vs G' H', K ps M' → Ex G G' → All2 (fun (p : V × V) (q : D × D) => RD G' p.1 q.1 ∧ RD G' p.2 q.2) vs ps → Own G' (M' ++ F) H' → Q vs H') → tPairs trs σ H Q
theorem sps_nil {KP : List (D × D) → Cells → Prop} (k : KP [] M) : SPs W [] ρ M KP := fun G σ H F Q re o mx q => q [] M [] G H k (Ex.refl G) .nil o
theorem sps_cons {tk tv : TE} {trs : List (TE × TE)} {KP : List (D × D) → Cells → Prop} (h : SE W tk ρ M fun x M1 => SE W tv ρ M1 fun y M2 => SPs W trs ρ M2 fun ps M3 => KP ((x, y) :: ps) M3) : SPs W ((tk, tv) :: trs) ρ M KP := fun G σ H F Q re o mx q =>
  h G σ H F _ re o mx fun x M1 u G1 H1 k1 e1 r1 o1 => k1 G1 σ H1 F _ (re.mono e1) o1 (mx.mono e1) fun y M2 v G2 H2 k2 e2 r2 o2 => k2 G2 σ H2 F _ (re.mono (e1.trans e2)) o2 (mx.mono (e1.trans e2)) fun ps M3 vs G3 H3 k3 e3 r3 o3 =>
    q _ M3 _ G3 H3 k3 (e1.trans (e2.trans e3)) (.cons ⟨r1.mono (e2.trans e3), r2.mono e3⟩ r3) o3
end
end PL

/-! PL6: dicts with keys ints and texts over data. -/
namespace PL
open PySem PySem.Spec L2
abbrev KR (G : Hp) : List (Key × V) → List (Key × D) → Prop := All2 (fun (p : Key × V) (q : Key × D) => p.1 = q.1 ∧ RD G p.2 q.2)
def valD (kvs : List (Key × D)) (k : Key) : Option D := (kvs.find? fun kv => decide (kv.1 = k)).map (·.2)
def putKD (kvs : List (Key × D)) (k : Key) (v : D) : List (Key × D) :=
  if (kvs.any fun kv => decide (kv.1 = k)) = true then kvs.map (fun kv => if kv.1 = k then (kv.1, v) else kv) else kvs ++ [(k, v)]
def dropKD (kvs : List (Key × D)) (k : Key) : List (Key × D) := kvs.filter fun kv => decide (kv.1 ≠ k)
def mergeKD (kvs more : List (Key × D)) : List (Key × D) := more.foldl (fun acc kv => putKD acc kv.1 kv.2) kvs
def kD : Key → D
  | .inl i => dI i
  | .inr x => dS x
theorem KR.any {G : Hp} {k : Key} : ∀ {vs : List (Key × V)} {ks : List (Key × D)}, KR G vs ks → (vs.any fun kv => decide (kv.1 = k)) = ks.any fun kv => decide (kv.1 = k)
  | _, _, .nil => rfl
  | _, _, .cons ⟨e, _⟩ r => by rw [List.any_cons, List.any_cons, e, KR.any r]
theorem KR.val {G : Hp} {k : Key} : ∀ {vs : List (Key × V)} {ks : List (Key × D)}, KR G vs ks → (valV vs k = none ∧ valD ks k = none) ∨ ∃ v d, valV vs k = some v ∧ valD ks k = some d ∧ RD G v d
  | _, _, .nil => .inl ⟨rfl, rfl⟩
  | p :: vs, q :: ks, .cons ⟨e, h⟩ r => by
    by_cases hk : p.1 = k
    · exact .inr ⟨p.2, q.2, by simp [valV, List.find?_cons, hk], by simp [valD, List.find?_cons, ← e, hk], h⟩
    · have h1 : valV (p :: vs) k = valV vs k := by simp [valV, List.find?_cons, hk]
      have h2 : valD (q :: ks) k = valD ks k := by simp [valD, List.find?_cons, ← e, hk]
      rw [h1, h2]
      exact KR.val r
theorem KR.mapset {G : Hp} {k : Key} {v : V} {d : D} (h : RD G v d) : ∀ {vs : List (Key × V)} {ks : List (Key × D)}, KR G vs ks → KR G (vs.map fun kv => if kv.1 = k then (kv.1, v) else kv) (ks.map fun kv => if kv.1 = k then (kv.1, d) else kv)
  | _, _, .nil => .nil
  | p :: vs, q :: ks, .cons ⟨e, h1⟩ r => by
    refine .cons ?_ (KR.mapset h r)
    show (if p.1 = k then (p.1, v) else p).1 = (if q.1 = k then (q.1, d) else q).1 ∧ RD G (if p.1 = k then (p.1, v) else p).2 (if q.1 = k then (q.1, d) else q).2
    by_cases hk : p.1 = k
    · have hq : q.1 = k := e ▸ hk
      rw [if_pos hk, if_pos hq]
      exact ⟨e, h⟩
    · have hq : ¬ q.1 = k := fun z => hk (e.trans z)
      rw [if_neg hk, if_neg hq]
      exact ⟨e, h1⟩
theorem KR.put {G : Hp} {k : Key} {v : V} {d : D} {vs : List (Key × V)} {ks : List (Key × D)} (r : KR G vs ks) (h : RD G v d) : KR G (putK vs k v) (putKD ks k d) := by
  unfold putK putKD
  rw [KR.any r]
  split
  · exact r.mapset h
  · exact All2.append r (.cons ⟨rfl, h⟩ .nil)
theorem KR.drop {G : Hp} {k : Key} : ∀ {vs : List (Key × V)} {ks : List (Key × D)}, KR G vs ks → KR G (dropK vs k) (dropKD ks k)
  | _, _, .nil => .nil
  | p :: vs, q :: ks, .cons ⟨e, h1⟩ r => by
    unfold dropK dropKD
    rw [List.filter_cons, List.filter_cons, ← e]
    split
    · exact .cons ⟨e, h1⟩ (KR.drop r)
    · exact KR.drop r
theorem KR.merge {G : Hp} : ∀ {ms : List (Key × V)} {ns : List (Key × D)} {vs : List (Key × V)} {ks : List (Key × D)}, KR G ms ns → KR G vs ks → KR G (mergeK vs ms) (mergeKD ks ns)
  | _, _, _, _, .nil, r => r
  | p :: ms, q :: ns, vs, ks, .cons ⟨e, h⟩ rr, r => by
    show KR G (mergeK (putK vs p.1 p.2) ms) (mergeKD (putKD ks q.1 q.2) ns)
    rw [e]
    exact KR.merge rr (r.put h)
theorem putKD_len (kvs : List (Key × D)) (k : Key) (v : D) : (putKD kvs k v).length ≤ kvs.length + 1 := by
  unfold putKD
  split
  · simp
  · simp
section
variable {W : WD} {ρ : Rho} {M : Cells} {K : D → Cells → Prop} {ta tb te tc to ty tx td : TE} {P : PD}
theorem kv_of {G : Hp} {v : V} {k : Key} (r : RD G v (kD k)) : v = kV k := by
  cases k with
  | inl i => exact int_of r
  | inr x => exact str_of r
/-- {} -/
theorem se_dnew (k : ∀ p, K (dR p) (M ++ [(p, .dK [])])) : SE W tDNewK ρ M K := fun G σ H F Q re o mx q p hp =>
  q (dR p) _ _ G _ (k p) (Ex.refl G) rfl (o.cell hp ⟨[], upd_same, .nil⟩)
/-- {k: v, ..} -/
theorem se_disp {trs : List (TE × TE)} (h : SPs W trs ρ M fun ps M1 => ∃ kvs : List (Key × D), ps = kvs.map (fun kv => (kD kv.1, kv.2)) ∧ kvs.length ≤ 15 ∧ ∀ p, K (dR p) (M1 ++ [(p, .dK (mergeKD [] kvs))])) : SE W (tDisp trs) ρ M K := fun G σ H F Q re o mx q p hp => by
  have o1 : Own G (M ++ ((p, Cell.dK []) :: F)) (upd H p (.dK [])) := own_swap (o.cell hp ⟨[], upd_same, .nil⟩)
  have mx1 : MatchX G ((p, Cell.dK []) :: F) W := fun x ρ' M' d σ' G' H' k e xr re' o' => by
    refine mx x ρ' M' d σ' G' H' k e xr re' (o'.sub (List.Sublist.append (List.Sublist.refl M') (List.sublist_cons_self _ F)))
  refine h G σ _ ((p, .dK []) :: F) _ re o1 mx1 fun ps M1 vs G1 H1 ⟨kvs, ep, hl, k⟩ e1 r1 o2 => ?_
  subst ep
  obtain ⟨vs0, hv0, rr0⟩ := o2.ok (p, .dK []) (List.mem_append_right _ (List.mem_cons_self ..))
  cases rr0
  have build : ∀ {ks : List (Key × D)} {ws : List (V × V)}, All2 (fun (p : V × V) (q : D × D) => RD G1 p.1 q.1 ∧ RD G1 p.2 q.2) ws (ks.map (fun kv => (kD kv.1, kv.2))) → ∃ us : List (Key × V), ws = us.map (fun kv => (kV kv.1, kv.2)) ∧ KR G1 us ks := by
    intro ks
    induction ks with
    | nil => intro ws r; cases r; exact ⟨[], rfl, .nil⟩
    | cons q ks ih =>
      intro ws r
      rw [List.map_cons] at r
      cases r with
      | cons r1 rr =>
        rename_i w ws
        obtain ⟨us, e, kr⟩ := ih rr
        refine ⟨(q.1, w.2) :: us, ?_, .cons ⟨rfl, r1.2⟩ kr⟩
        rw [e]
        obtain ⟨w1, w2⟩ := w
        cases kv_of r1.1
        rfl
  obtain ⟨us, eu, kr⟩ := build r1
  refine ⟨hv0, us, eu, by rw [kr.length]; exact hl, ?_⟩
  have o3 := own_store (c' := .dK (mergeKD [] kvs)) o2 (u := .dK (mergeK [] us)) ⟨_, upd_same, kr.merge .nil⟩
  refine q (dR p) _ _ G1 _ (k p) e1 rfl ?_
  rw [List.append_assoc]
  exact o3
theorem isD_cell {i : Nat} {G H : Hp} {F : Cells} {p : Addr} {kvs : List (Key × D)} (o : Own G (M ++ F) H) (hc : CA M i p (.dK kvs)) : ∃ vs, H p = some (.dK vs) ∧ KR G vs kvs := o.at hc
/-- d.get(y, z) -/
theorem se_dget2 (h : SE W td ρ M fun x M1 => ∃ i p, x = dR p ∧ (∃ kvs, CA M1 i p (.dK kvs)) ∧ SE W ty ρ M1 fun y M2 => SE W tx ρ M2 fun z M3 => ∃ kvs k, CA M3 i p (.dK kvs) ∧ y = kD k ∧ K ((valD kvs k).getD z) M3) : SE W (tDGet2 td ty tx) ρ M K := fun G σ H F Q re o mx q =>
  h G σ H F _ re o mx fun x M1 v G1 H1 ⟨i, p, ex, ⟨kvs0, hc0⟩, h1⟩ e1 r1 o1 => by
    subst ex
    cases r1
    obtain ⟨vs0, hv0, _⟩ := isD_cell o1 hc0
    refine ⟨p, rfl, .inl ⟨vs0, .inl hv0⟩, h1 G1 σ H1 F _ (re.mono e1) o1 (mx.mono e1) fun y M2 u G2 H2 k2 e2 r2 o2 => k2 G2 σ H2 F _ (re.mono (e1.trans e2)) o2 (mx.mono (e1.trans e2)) fun z M3 w G3 H3 ⟨kvs, k, hc, ey, kk⟩ e3 r3 o3 => ?_⟩
    subst ey
    obtain ⟨vs, hv, kr⟩ := isD_cell o3 hc
    have eu := kv_of (r2.mono e3)
    subst eu
    refine ⟨valV vs k, DGet.k hv, ?_⟩
    have e123 := e1.trans (e2.trans e3)
    rcases kr.val (k := k) with ⟨a, b⟩ | ⟨v', d', a, b, r⟩
    · rw [a]
      rw [b] at kk
      exact q z M3 w G3 H3 kk e123 r3 o3
    · rw [a]
      rw [b] at kk
      exact q d' M3 v' G3 H3 kk e123 r o3
/-- d[k] -/
theorem se_dget (h : SE W td ρ M fun x M1 => SE W ty ρ M1 fun y M2 => ∃ i p kvs k d, x = dR p ∧ CA M2 i p (.dK kvs) ∧ y = kD k ∧ valD kvs k = some d ∧ K d M2) : SE W (tDGet td ty) ρ M K := fun G σ H F Q re o mx q =>
  h G σ H F _ re o mx fun x M1 v G1 H1 k1 e1 r1 o1 => k1 G1 σ H1 F _ (re.mono e1) o1 (mx.mono e1) fun y M2 u G2 H2 ⟨i, p, kvs, k, d, ex, hc, ey, hv', kk⟩ e2 r2 o2 => by
    subst ex
    subst ey
    cases r1
    have eu := kv_of r2
    subst eu
    obtain ⟨vs, hv, kr⟩ := isD_cell o2 hc
    rcases kr.val (k := k) with ⟨a, b⟩ | ⟨v', d', a, b, r⟩
    · rw [b] at hv'; cases hv'
    · rw [b] at hv'
      cases hv'
      refine ⟨p, v', rfl, ?_, q d M2 v' G2 H2 kk (e1.trans e2) r o2⟩
      rw [← a]
      exact DGet.k hv
/-- d[k] = v -/
theorem ss_dput (h : SE W tb ρ M fun d M1 => SE W td ρ M1 fun x M2 => SE W ty ρ M2 fun y M3 => ∃ i p kvs k, x = dR p ∧ CA M3 i p (.dK kvs) ∧ y = kD k ∧ kvs.length ≤ 1000000 ∧ P.nx ρ (M3.set i (p, (.dK (putKD kvs k d))))) : SS W (sDPut td ty tb) ρ M P := fun G σ H F D re o mx md =>
  h G σ H F _ re o mx fun d M1 v G1 H1 k1 e1 r1 o1 => k1 G1 σ H1 F _ (re.mono e1) o1 (mx.mono e1) fun x M2 u G2 H2 k2 e2 r2 o2 => k2 G2 σ H2 F _ (re.mono (e1.trans e2)) o2 (mx.mono (e1.trans e2)) fun y M3 w G3 H3 ⟨i, p, kvs, k, ex, hc, ey, hl, kk⟩ e3 r3 o3 => by
    subst ex
    subst ey
    cases r2
    have eu := kv_of r3
    subst eu
    obtain ⟨vs, hv, kr⟩ := isD_cell o3 hc
    refine ⟨p, _, rfl, DPut.k hv (by rw [kr.length]; exact Nat.lt_of_le_of_lt hl (by decide)), md.nx ρ _ σ G3 _ kk (e1.trans (e2.trans e3)) (re.mono (e1.trans (e2.trans e3))) (o3.store hc ⟨_, upd_same, kr.put (r1.mono (e2.trans e3))⟩)⟩
/-- k in d -/
theorem se_din (h : SE W ty ρ M fun y M1 => SE W td ρ M1 fun x M2 => ∃ i p kvs k, x = dR p ∧ CA M2 i p (.dK kvs) ∧ y = kD k ∧ K (dB (valD kvs k).isSome) M2) : SE W (tDIn ty td) ρ M K := fun G σ H F Q re o mx q =>
  h G σ H F _ re o mx fun x M1 v G1 H1 k1 e1 r1 o1 => k1 G1 σ H1 F _ (re.mono e1) o1 (mx.mono e1) fun y M2 u G2 H2 ⟨i, p, kvs, k, ex, hc, ey, kk⟩ e2 r2 o2 => by
    subst ex
    subst ey
    cases r2
    have eu := kv_of r1
    subst eu
    obtain ⟨vs, hv, kr⟩ := isD_cell o2 hc
    refine ⟨p, valV vs k, rfl, DGet.k hv, ?_⟩
    rcases kr.val (k := k) with ⟨a, b⟩ | ⟨v', d', a, b, r⟩
    · rw [a]
      rw [b] at kk
      exact q _ M2 _ G2 H2 kk (e1.trans e2) (Rp.bl _) o2
    · rw [a]
      rw [b] at kk
      exact q _ M2 _ G2 H2 kk (e1.trans e2) (Rp.bl _) o2
/-- d.pop(k, z) -/
theorem se_dpop2 (h : SE W td ρ M fun x M1 => ∃ i p, x = dR p ∧ (∃ kvs, CA M1 i p (.dK kvs)) ∧ SE W ty ρ M1 fun y M2 => SE W tx ρ M2 fun z M3 => ∃ kvs k, CA M3 i p (.dK kvs) ∧ y = kD k ∧
      (∀ d, valD kvs k = some d → K d (M3.set i (p, (.dK (dropKD kvs k))))) ∧ (valD kvs k = none → K z M3)) : SE W (tDPop2 td ty tx) ρ M K := fun G σ H F Q re o mx q =>
  h G σ H F _ re o mx fun x M1 v G1 H1 ⟨i, p, ex, ⟨kvs0, hc0⟩, h1⟩ e1 r1 o1 => by
    subst ex
    cases r1
    obtain ⟨vs0, hv0, _⟩ := isD_cell o1 hc0
    refine ⟨p, rfl, .inl ⟨vs0, .inl hv0⟩, h1 G1 σ H1 F _ (re.mono e1) o1 (mx.mono e1) fun y M2 u G2 H2 k2 e2 r2 o2 => k2 G2 σ H2 F _ (re.mono (e1.trans e2)) o2 (mx.mono (e1.trans e2)) fun z M3 w G3 H3 ⟨kvs, k, hc, ey, kk1, kk2⟩ e3 r3 o3 => ?_⟩
    subst ey
    obtain ⟨vs, hv, kr⟩ := isD_cell o3 hc
    have eu := kv_of (r2.mono e3)
    subst eu
    have e123 := e1.trans (e2.trans e3)
    refine ⟨vs, k, hv, rfl, fun v' hv' => ?_, fun hn => ?_⟩
    · rcases kr.val (k := k) with ⟨a, b⟩ | ⟨v2, d', a, b, r⟩
      · rw [a] at hv'; cases hv'
      · rw [a] at hv'
        cases hv'
        exact q d' _ _ G3 _ (kk1 d' b) e123 r (o3.store hc ⟨_, upd_same, kr.drop⟩)
    · rcases kr.val (k := k) with ⟨a, b⟩ | ⟨v2, d', a, b, r⟩
      · exact q z M3 w G3 H3 (kk2 b) e123 r3 o3
      · rw [a] at hn; cases hn
end
end PL

/-! PL7: short words for printed derivations. -/
namespace PL
open PySem PySem.Spec L2
section
variable {X : Cx}
theorem pi_any1 {tg e : Expr} {te : TE} (h : PE X e te) : PI X tg e (iAny X.K te) := pi_any h (pi_list h) (pi_tup h) (pi_str h)
theorem pe_globS {x z : Str} {pos : Pos} (hg : Gl X x) (h : ∃ t, X.mg x = some (.str z t)) (hd : (x == ("__debug__" : Str)) = false := by decide) : PE X (.Name x pos) (tC (.str z)) := by
  obtain ⟨t, e⟩ := h
  exact pe_glob hg e ⟨t, rfl⟩ hd
theorem pe_globI {x : Str} {z : Int} {pos : Pos} (hg : Gl X x) (h : ∃ t, X.mg x = some (.int z t)) (hd : (x == ("__debug__" : Str)) = false := by decide) : PE X (.Name x pos) (tC (.int z)) := by
  obtain ⟨t, e⟩ := h
  exact pe_glob hg e ⟨t, rfl⟩ hd
def rInStr : R2 := fun x y H Q => ∃ i j, x = .str i ∧ y = .str j ∧ Q (.bl (!(Builtin.Str.occurrences j i 0 j.length 1).isEmpty)) H
def rNiStr : R2 := fun x y H Q => ∃ i j, x = .str i ∧ y = .str j ∧ Q (.bl (Builtin.Str.occurrences j i 0 j.length 1).isEmpty) H
def rInA (K : PySem.W.Frag) : R2 := fun x y H Q => rIn K false x y H Q ∨ rInStr x y H Q
theorem op_inA : OpR X (compareOp .In) (rInA X.K) := OpR.or op_in_seq op_in_str
def rNiA (K : PySem.W.Frag) : R2 := fun x y H Q => rIn K true x y H Q
theorem op_niA : OpR X (compareOp .NotIn) (rNiA X.K) := op_notIn_seq
theorem pe_revA {e : Expr} {te : TE} {k : Nat} {p1 p2 p3 pos : Pos} (h : PE X e te) : PE X (.Subscript e (.Slice none none (some (.UnaryOp .USub (.Constant (.int 1) k p1) p2)) p3) pos) (tRevL X.K te) := pe_revL h
end
section
variable {W : WD} {ρ : Rho} {M : Cells} {K : D → Cells → Prop} {Kf : PySem.W.Frag}
theorem or_inAL {d : D} {p : PyData} {ps : List PyData} (hv : LV M d (ps.map D.py)) (f : flatP p = true) (hf : ps.all flatP = true) (k : K (dB (inP p ps)) M) : OR (rInA Kf) (.py p) d M K := fun G H F u v Q r1 r2 o q => .inl (or_inL hv f hf k G H F u v Q r1 r2 o q)
theorem or_inAT {p : PyData} {ps : List PyData} (f : flatP p = true) (hf : ps.all flatP = true) (k : K (dB (inP p ps)) M) : OR (rInA Kf) (.py p) (dT ps) M K := fun G H F u v Q r1 r2 o q => .inl (or_inT f hf k G H F u v Q r1 r2 o q)
theorem or_inAG {Ks : PySem.W.Frag} {p : PyData} {xs : List V} {ps : List PyData} (hx : ∀ G, RpAll G xs ps) (f : flatP p = true) (hf : ps.all flatP = true) (k : K (dB (inP p ps)) M) : OR (rInA Ks) (.py p) (.sqt Ks xs) M K := fun G H F u v Q r1 r2 o q => .inl (or_inG hx f hf k G H F u v Q r1 r2 o q)
theorem or_inAS {i j : Str} (k : K (dB (!(Builtin.Str.occurrences j i 0 j.length 1).isEmpty)) M) : OR (rInA Kf) (dS i) (dS j) M K := fun G H F u v Q r1 r2 o q => by
  cases str_of r1
  cases str_of r2
  exact .inr ⟨i, j, rfl, rfl, q _ M _ G H k (Ex.refl G) (Rp.bl _) o⟩
theorem or_niAL {d : D} {p : PyData} {ps : List PyData} (hv : LV M d (ps.map D.py)) (f : flatP p = true) (hf : ps.all flatP = true) (k : K (dB (!inP p ps)) M) : OR (rNiA Kf) (.py p) d M K := or_niL hv f hf k
theorem or_niAT {p : PyData} {ps : List PyData} (f : flatP p = true) (hf : ps.all flatP = true) (k : K (dB (!inP p ps)) M) : OR (rNiA Kf) (.py p) (dT ps) M K := or_niT f hf k
end
/-! ### the same with the written part by its own letter (within comprehensions) -/
section
variable {X : Cx} {K : PySem.W.Frag}
theorem ix_seqK (hK : X.K = K := by rfl) : IxR X (rIx K) := hK ▸ ix_seq
theorem sl_anyK (hK : X.K = K := by rfl) : SlR X (rSlA K) := hK ▸ sl_any
theorem call_lenK (hK : X.K = K := by rfl) : CallR X (.builtin "len") (rLenA K) := hK ▸ call_lenA
theorem cr_sumK (hc : X.calm = true) (hK : X.K = K := by rfl) : CallR X (.builtin "sum") (rSum K) := hK ▸ L2.cr_sum hc
theorem cr_maxK (hc : X.calm = true) (hK : X.K = K := by rfl) : CallR X (.builtin "max") (rMax K) := hK ▸ cr_max hc
theorem cr_minK (hc : X.calm = true) (hK : X.K = K := by rfl) : CallR X (.builtin "min") (rMin K) := hK ▸ cr_min hc
theorem op_eqK (hu : X.A.units + 64 < cLine) (hK : X.K = K := by rfl) : OpR X (compareOp .Eq) (rEqA K) := hK ▸ op_eqA hu
theorem op_neK (hu : X.A.units + 64 < cLine) (hK : X.K = K := by rfl) : OpR X (compareOp .NotEq) (rNeA K) := hK ▸ op_neA hu
theorem op_inK (hK : X.K = K := by rfl) : OpR X (compareOp .In) (rInA K) := hK ▸ op_inA
theorem op_niK (hK : X.K = K := by rfl) : OpR X (compareOp .NotIn) (rNiA K) := hK ▸ op_niA
theorem call_isiK (hK : X.K = K := by rfl) : CallR X (.builtin "isinstance") (rIsi K) := hK ▸ call_isi
theorem cr_sortedK (hK : X.K = K := by rfl) : CallR X (.builtin "sorted") (rSortedI K) := hK ▸ cr_sortedI
def rListOf (K : PySem.W.Frag) : List V → Hp → VK → Prop := fun xs H Q => ∃ p ys, xs = [.ref p] ∧ (SqL K H p ys ∨ SqT K H p ys) ∧ ∀ l, H l = none → Q (.ref l) (upd H l (.lst ys))
theorem call_listK (hK : X.K = K := by rfl) : CallR X (.type "list") (rListOf K) := hK ▸ call_list_of
theorem cr_allK (hc : X.calm = true) (hK : X.K = K := by rfl) : CallR X (.builtin "all") (rAll K) := hK ▸ cr_all hc
theorem cr_anyK (hc : X.calm = true) (hK : X.K = K := by rfl) : CallR X (.builtin "any") (rAny K) := hK ▸ cr_any hc
theorem pg_seqK {es : List Expr} {k n : Nat} {t : TGs} {pos : Pos} (hc : X.calm = true) (h : PGs X es t) (hK : X.K = K := by rfl) (hn : (assignEach es X.env).length = n := by rfl) (hst : (assignEach es X.env).findIdx? (·.1) = none := by rfl) : PG X (.Tuple es k pos) (gSeq K n t) := hK ▸ pg_seq hc h hn hst
theorem pg_attrK {o : Expr} {to : TE} {f : Str} {pos : Pos} (ho : PE X o to) (hK : X.K = K := by rfl)
    (ha : ∀ v, assign (.Attribute o f pos) X.env v = (do
      let ov ← holding [v] (eval o X.env)
      standAt pos.atName
      holding [v, ov] (setAttr ov f v)
      release [v, ov] []) := by intro _; rfl) : PG X (.Attribute o f pos) (gAttr K to f) := hK ▸ pg_attr ho ha
theorem pi_anyK {tg e : Expr} {te : TE} (h : PE X e te) (hK : X.K = K := by rfl) : PI X tg e (iAny K te) := hK ▸ pi_any1 h
theorem pi_enumAK {e : Expr} {ta : TA} {p pos tpos : Pos} {elts : List Expr} {kk : Nat} (hg : Gl X "enumerate") (hm : X.mg "enumerate" = none) (ha : PA X [e] ta) (hK : X.K = K := by rfl) (hs : starEach [e] X.env = [(false, eval e X.env)] := by rfl) :
    PI X (.Tuple elts kk tpos) (.Call (.Name "enumerate" p) [e] [] pos) (iEnumA K ta) := hK ▸ pi_enumA hg hm ha hs
theorem pi_zipK {e e2 : Expr} {ta : TA} {p pos tpos : Pos} {elts : List Expr} {kk : Nat} (hg : Gl X "zip") (hm : X.mg "zip" = none) (ha : PA X [e, e2] ta) (hK : X.K = K := by rfl) (hs : starEach [e, e2] X.env = (false, eval e X.env) :: starEach [e2] X.env := by rfl) (hpl : (backTo pos (starEach [e2] X.env)).any (·.1) = false := by rfl) :
    PI X (.Tuple elts kk tpos) (.Call (.Name "zip" p) [e, e2] [] pos) (iZip K ta) := hK ▸ pi_zip hg hm ha hs hpl
theorem pe_fldK {e : Expr} {ta : TE} {f : Str} {pos : Pos} (he : PE X e ta) (hb : attributeBase e f X.env (eval e X.env) = eval e X.env) (hK : X.K = K := by rfl) : PE X (.Attribute e f pos) (tFld K ta f) := hK ▸ pe_fld he hb
theorem pe_revK {e : Expr} {te : TE} {k : Nat} {p1 p2 p3 pos : Pos} (h : PE X e te) (hK : X.K = K := by rfl) : PE X (.Subscript e (.Slice none none (some (.UnaryOp .USub (.Constant (.int 1) k p1) p2)) p3) pos) (tRevL K te) := hK ▸ pe_revL h
theorem pe_bmK {T : String} {o e : Expr} {name : Str} {id : String} {es : List Expr} {apos cpos : Pos} {r : V → List V → Hp → VK → Prop} {to : TE} {t : TA} (pa : PlainAttrs T) (slot : Slot T name id) (hty : typeOf (.builtin id) = pure (.type "method_descriptor")) (hm : MtR X id r) (ho : PE X o to) (ha : PA X (e :: es) t) (hK : X.K = K := by rfl)
    (base : attributeBase o name X.env (eval o X.env) = eval o X.env := by rfl)
    (few : ((backTo cpos (starEach (e :: es) X.env)).all (fun x => !x.1) && (backToKw cpos (keywordEach [] X.env)).all (fun x => x.1.isSome) && decide ((e :: es : List Expr).length + ([] : List Keyword).length + (if ([] : List Keyword).isEmpty then 0 else 1) < 30)) = true := by rfl)
    (line : (apos.endLine == cpos.line) = true := by rfl) (he : starEach (e :: es) X.env = (false, eval e X.env) :: starEach es X.env := by rfl) (hpl : (backTo cpos (starEach es X.env)).any (·.1) = false := by rfl) :
    PE X (.Call (.Attribute o name apos) (e :: es) [] cpos) (tBM K T r to t) := hK ▸ pe_bm pa slot hty hm ho ha base few line he hpl
end
/-! ### a written tuple of the top -/
def tupB (o : Obj) (xs : List V) : Bool := match o.cls, o.data with
  | .type n, .seq its _ => n == "tuple" && decide (its.size ≤ sizeLine) && decide (its.toList.map absV = xs.map some)
  | _, _ => false
abbrev TupIs (o : Obj) (xs : List V) : Prop := tupB o xs = true
theorem relV_abs {v : Value} {x : V} (h : absV v = some x) : RelV x v := by
  cases v <;> simp only [absV] at h <;> (cases h <;> first | exact ⟨_, rfl⟩ | rfl)
theorem vals_abs : ∀ {us : List Value} {xs : List V}, us.map absV = xs.map some → Vals xs us
  | [], [], _ => .nil
  | u :: us, x :: xs, h => by
    simp only [List.map_cons, List.cons.injEq] at h
    exact .cons (relV_abs h.1) (vals_abs h.2)
  | [], x :: xs, h => by simp at h
  | u :: us, [], h => by simp at h
theorem sqt_of {K : PySem.W.Frag} {H : Hp} {a : Addr} {o : Obj} {xs : List V} (l : K.lookup a = some o) (h : TupIs o xs) : SqT K H a xs := by
  unfold TupIs tupB at h
  split at h
  · rename_i n its m hc hd
    simp only [Bool.and_eq_true, beq_iff_eq, decide_eq_true_eq] at h
    exact .inr ⟨o, its, m, l, by rw [hc, h.1.1], hd, h.1.2, vals_abs h.2⟩
  · cases h
end PL

/-! PL8: odds and ends: places told by their bounds alone, texts by their signs. -/
namespace PL
open PySem PySem.Spec L2
theorem atI_lt {α : Type} {xs : List α} {r : Int} (h0 : 0 ≤ r) (h1 : r < xs.length) : ∃ p, p ∈ xs ∧ atI xs r = some p ∧ xs[r.toNat]? = some p := by
  have h2 : r.toNat < xs.length := by omega
  refine ⟨xs[r.toNat], List.getElem_mem _, ?_, by simp [h2]⟩
  have e : ixN xs.length r = some r.toNat := by
    unfold ixN
    rw [if_pos h0, if_pos h1]
  unfold atI
  rw [e]
  simp [h2]
section
variable {W : WD} {ρ : Rho} {M : Cells} {K : D → Cells → Prop} {Kf : PySem.W.Frag}
theorem or_ixB {ps : List PyData} {r : Int} (h0 : 0 ≤ r) (h1 : r < ps.length) (k : ∀ p ∈ ps, K (.py p) M) : OR (rIx Kf) (dL ps) (dI r) M K := by
  obtain ⟨p, hp, e, _⟩ := atI_lt h0 h1
  exact or_ix e (k p hp)
theorem or_ixH {p : PyData} {ps : List PyData} (k : K (.py p) M) : OR (rIx Kf) (dL (p :: ps)) (dI 0) M K := or_ix (by unfold atI ixN; simp) k
theorem or_ixBI {ns : List Int} {r : Int} (h0 : 0 ≤ r) (h1 : r < ns.length) (k : ∀ n ∈ ns, K (dI n) M) : OR (rIx Kf) (dL (ns.map PyData.int)) (dI r) M K := by
  refine or_ixB h0 (by rw [List.length_map]; exact h1) fun p hp => ?_
  obtain ⟨n, hn, rfl⟩ := List.mem_map.mp hp
  exact k n hn
theorem or_ixBS {ns : List Str} {r : Int} (h0 : 0 ≤ r) (h1 : r < ns.length) (k : ∀ n ∈ ns, K (dS n) M) : OR (rIx Kf) (dL (ns.map PyData.str)) (dI r) M K := by
  refine or_ixB h0 (by rw [List.length_map]; exact h1) fun p hp => ?_
  obtain ⟨n, hn, rfl⟩ := List.mem_map.mp hp
  exact k n hn
theorem or_ixZ {z : Str} {r : Int} (hz : z.length ≤ 1000000) (h0 : 0 ≤ r) (h1 : r < z.length) (k : ∀ c ∈ z.cps.toList, K (dS ⟨#[c]⟩) M) : OR (rIx Kf) (dS z) (dI r) M K := by
  obtain ⟨p, hp, e, _⟩ := atI_lt (xs := z.cps.toList) h0 (by rw [Array.length_toList]; exact h1)
  exact or_ixS hz e (k p hp)
end
theorem st_yes {W : WD} {ρ : Rho} {M : Cells} {KT : Bool → Cells → Prop} (k : KT true M) : ST W tYes ρ M KT := fun G σ H F Q re o mx q => q true M G H k (Ex.refl G) o
theorem sIx_of {n d : Nat} {i : Int} (h : 0 ≤ i) : HT.sIx n d (some i) = min i.toNat n := by
  show (if i < 0 then (i + (n : Int)).toNat else min i.toNat n) = _
  rw [if_neg (by omega)]
theorem cutP_from {α : Type} {xs : List α} {i : Int} (h : 0 ≤ i) : cutP xs (some i) none = xs.drop i.toNat := by
  unfold cutP
  rw [sIx_of h]
  show (xs.drop _).take (xs.length - _) = _
  by_cases hh : i.toNat ≤ xs.length
  · rw [Nat.min_eq_left hh, List.take_of_length_le (by rw [List.length_drop]; omega)]
  · rw [Nat.min_eq_right (by omega), List.drop_eq_nil_of_le (i := i.toNat) (by omega)]
    simp
theorem cutP_to {α : Type} {xs : List α} {i : Int} (h : 0 ≤ i) : cutP xs none (some i) = xs.take i.toNat := by
  unfold cutP
  rw [sIx_of h]
  show (xs.drop 0).take (_ - 0) = _
  rw [List.drop_zero, Nat.sub_zero]
  by_cases hh : i.toNat ≤ xs.length
  · rw [Nat.min_eq_left hh]
  · rw [Nat.min_eq_right (by omega), List.take_length, List.take_of_length_le (by omega)]
theorem cutP_tl {α : Type} {x : α} {xs : List α} : cutP (x :: xs) (some 1) none = xs := cutP_from (by decide)
/-- an expression that gives one thing whatever way it goes -/
theorem se_join {W : WD} {ρ : Rho} {M : Cells} {K : D → Cells → Prop} {te : TE} (x : D) (h : SE W te ρ M fun d M' => d = x ∧ M' = M) (k : K x M) : SE W te ρ M K := h.imp fun d M' ⟨e1, e2⟩ => by
  subst e1
  subst e2
  exact k
/-- a cut behind a statement -/
theorem ss_mid {W : WD} {ρ : Rho} {M : Cells} {P : PD} {t u : TS} {Q : Rho → Cells → Prop} (h : SS W t ρ M { P with nx := Q }) (k : ∀ ρ' M', Q ρ' M' → SS W u ρ' M' P) : SS W (tSeq t u) ρ M P :=
  ss_seq fun G σ H F D re o mx md => h G σ H F D re o mx ⟨fun ρ' M' σ' G' H' q e re' o' => md.nx ρ' M' σ' G' H' (k ρ' M' q) e re' o', md.rt, md.bk, md.ct⟩
/-- both ways to an else -/
theorem br_else {b : Bool} {A B : Prop} (hB : B) (hA : B → b = true → A) : Br b A B := ⟨hA hB, fun _ => hB⟩
theorem br_then {b : Bool} {A B : Prop} (hA : A) (hB : A → b = false → B) : Br b A B := ⟨fun _ => hA, hB hA⟩
theorem ix_split {α : Type} {xs : List α} {r : Int} (h0 : 0 ≤ r) (h1 : r < xs.length) : ∃ (i : Nat) (x : α), r = i ∧ xs[i]? = some x ∧ i < xs.length ∧ xs = xs.take i ++ x :: xs.drop (i + 1) := by
  have h2 : r.toNat < xs.length := by omega
  refine ⟨r.toNat, xs[r.toNat], by omega, by simp [h2], h2, ?_⟩
  rw [← List.drop_eq_getElem_cons h2, List.take_append_drop]
/-- a text of signs -/
def mkS (l : List Nat) : Str := ⟨l.toArray⟩
abbrev ofC (c : Nat) : Str := ⟨#[c]⟩
theorem mkS_len (l : List Nat) : (mkS l).length = l.length := by simp [mkS, Str.length]
theorem mkS_cs (l : List Nat) : (mkS l).cps.toList = l := by simp [mkS]
theorem mkS_self (z : Str) : mkS z.cps.toList = z := by simp [mkS]
theorem mkS_app (a b : List Nat) : mkS a ++ mkS b = mkS (a ++ b) := by
  show Str.append (mkS a) (mkS b) = _
  simp [Str.append, mkS]
theorem mkS_snoc (a : List Nat) (c : Nat) : mkS a ++ ofC c = mkS (a ++ [c]) := mkS_app a [c]
theorem mkS_inj {a b : List Nat} : mkS a = mkS b ↔ a = b := ⟨fun e => by rw [← mkS_cs a, e, mkS_cs], fun e => by rw [e]⟩
theorem ofC_eq {c d : Nat} : (ofC c = ofC d) ↔ c = d := ⟨fun e => by injection e with e; simpa using e, fun e => by rw [e]⟩
theorem ofC_w : Str.ofString "w" = ofC 119 := by decide +kernel
theorem ofC_o : Str.ofString "o" = ofC 111 := by decide +kernel
theorem dec_ofC (c d : Nat) : decide (ofC c = ofC d) = decide (c = d) := decide_eq_decide.mpr ofC_eq
theorem or_eqC {Kf : PySem.W.Frag} {M : Cells} {K : D → Cells → Prop} {c d : Nat} {s : Str} (hs : s = ofC d) (k : K (dB (decide (c = d))) M) : OR (rEqA Kf) (dS (ofC c)) (dS s) M K := or_eqAS (by rw [hs, dec_ofC]; exact k)
theorem map_at {α β : Type} {f : α → β} {ps : List α} {i : Nat} {q : β} (h : (ps.map f)[i]? = some q) : ∃ o, ps[i]? = some o ∧ q = f o := by
  rw [List.getElem?_map] at h
  cases hh : ps[i]? with
  | none => rw [hh] at h; cases h
  | some o => rw [hh] at h; exact ⟨o, rfl, (Option.some.inj h).symm⟩
theorem inC2 (c a b : Nat) : inP (.str (ofC c)) [.str (ofC a), .str (ofC b)] = (decide (c = a) || decide (c = b)) := by
  unfold inP
  simp only [List.any_cons, List.any_nil, Bool.or_false, eqv_str, dec_ofC, eq_comm]
theorem str_ext {a b : Str} (h : a.cps.toList = b.cps.toList) : a = b := by rw [← mkS_self a, ← mkS_self b, h]
theorem mul_mkS (l : List Nat) (n : Nat) : Txt.mul (mkS l) (n : Int) = mkS (List.replicate n l).flatten := by
  have aux : ∀ (n : Nat) (a : Array Nat), ((List.replicate n (mkS l).cps).foldl (· ++ ·) a).toList = a.toList ++ (List.replicate n l).flatten := by
    intro n
    induction n with
    | zero => intro a; simp
    | succ n ih =>
      intro a
      rw [List.replicate_succ, List.foldl_cons, ih, List.replicate_succ, List.flatten_cons, Array.toList_append, mkS_cs, List.append_assoc]
  unfold Txt.mul
  split
  · have : n = 0 := by omega
    subst this
    rfl
  · split
    · rename_i h
      rw [Bool.or_eq_true, beq_iff_eq, beq_iff_eq] at h
      rcases h with h | h
      · have : n = 1 := by omega
        subst this
        simp
      · rw [mkS_len] at h
        have : l = [] := List.eq_nil_of_length_eq_zero h
        subst this
        simp
    · refine str_ext ?_
      rw [Int.toNat_natCast, mkS_cs]
      have := aux n #[]
      simpa using this
theorem flatten_rep (k : Nat) (l : List Nat) : (List.replicate k l).flatten.length = k * l.length := by simp
section
variable {W : WD} {ρ : Rho} {M : Cells} {K : D → Cells → Prop} {Kf : PySem.W.Frag}
theorem or_addZ {a b : List Nat} (hl : a.length + b.length ≤ 1000000) (k : K (dS (mkS (a ++ b))) M) : OR rAddA (dS (mkS a)) (dS (mkS b)) M K :=
  or_addS (by rw [mkS_len, mkS_len]; exact hl) (by rw [mkS_app]; exact k)
theorem or_addC {a : List Nat} {c : Nat} (hl : a.length + 1 ≤ 1000000) (k : K (dS (mkS (a ++ [c]))) M) : OR rAddA (dS (mkS a)) (dS (ofC c)) M K := or_addZ (b := [c]) hl k
theorem cr_lenZ {l : List Nat} (hl : l.length ≤ 1000000) (k : K (dI l.length) M) : CR (rLenA Kf) [dS (mkS l)] M K := cr_lenS (by rw [mkS_len]; exact hl) (by rw [mkS_len]; exact k)
theorem lr_Z {l : List Nat} {lo hi : Option Int} (hl : l.length ≤ 1000000) (k : K (dS (mkS (cutP l lo hi))) M) : LR (rSlA Kf) (dS (mkS l)) lo hi M K := lr_S (by rw [mkS_len]; exact hl) (by
    have : cutS (mkS l) lo hi = mkS (cutP l lo hi) := by
      unfold cutS cutP
      rw [mkS_cs, mkS_len]
      rfl
    rw [this]
    exact k)
theorem or_dblZ {l : List Nat} (hl : l.length ≤ 100000) (k : K (dS (mkS (l ++ l))) M) : OR rMulA (dS (mkS l)) (dI 2) M K :=
  or_repS ⟨by decide, by decide, by rw [mkS_len, show (2 : Int).toNat = 2 by decide]; omega, by rw [mkS_len]; omega⟩ (by
    rw [show (2 : Int) = ((2 : Nat) : Int) from rfl, mul_mkS]
    simpa [List.replicate] using k)
end
/-! ### a for over what is known, told by what is behind -/
section
variable {W : WD} {ρ : Rho} {M : Cells} {P : PD} {Kf : PySem.W.Frag} {g : TG} {tb : TS} {te : TE} {ta tk : TA}
theorem split_at {α : Type} {xs : List α} {i : Nat} {x : α} (h : xs[i]? = some x) : xs = xs.take i ++ x :: xs.drop (i + 1) := by
  obtain ⟨hi, e⟩ := List.getElem?_eq_some_iff.mp h
  rw [← e, ← List.drop_eq_getElem_cons hi, List.take_append_drop]
theorem take_snoc' {α : Type} {l : List α} {i : Nat} {x : α} (h : l[i]? = some x) : l.take (i + 1) = l.take i ++ [x] := by
  rw [List.take_add_one, h]
  rfl
/-- the body's ends -/
abbrev Bd (P : PD) (J : Rho → Cells → Prop) : PD := { P with nx := J, ct := J, bk := P.nx }
theorem SA.imp {K K' : List D → Cells → Prop} (h : SA W ta ρ M K') (k : ∀ d M, K' d M → K d M) : SA W ta ρ M K := fun G σ H F Q re o mx q => h G σ H F Q re o mx fun d M v G' H' kd => q d M v G' H' (k d M kd)
structure FL {α : Type} (W : WD) (xs : List α) (f : Nat → α → D) (g : TG) (tb : TS) (P : PD) (I : List α → Rho → Cells → Prop) : Prop where
  st : ∀ pre x post ρ' M', xs = pre ++ x :: post → I pre ρ' M' → SG W g (f pre.length x) ρ' M' fun ρ2 M2 => SS W tb ρ2 M2 (Bd P (I (pre ++ [x])))
  en : ∀ ρ' M', I xs ρ' M' → P.nx ρ' M'
theorem FL.go {α : Type} {xs : List α} {f : Nat → α → D} {I : List α → Rho → Cells → Prop} (h : FL W xs f g tb P I) {n : Nat} (hn : n = xs.length) {Y : Nat → D → Prop} (hY : ∀ i d, i < n → Y i d → ∃ x, xs[i]? = some x ∧ d = f i x) (h0 : I [] ρ M) :
    ∃ I : Nat → Rho → Cells → Prop, I 0 ρ M ∧ (∀ i ρ' M', i ≤ n → I i ρ' M' → (fun _ => True) M') ∧
      (∀ i d ρ' M', i < n → Y i d → I i ρ' M' → SG W g d ρ' M' fun ρ2 M2 => SS W tb ρ2 M2 { P with nx := I (i + 1), ct := I (i + 1), bk := P.nx }) ∧ ∀ ρ' M', I n ρ' M' → P.nx ρ' M' := by
  refine ⟨fun i => I (xs.take i), h0, fun _ _ _ _ _ => trivial, fun i d ρ' M' hi y i0 => ?_, fun ρ' M' i0 => h.en ρ' M' ?_⟩
  · obtain ⟨x, hx, rfl⟩ := hY i d hi y
    show SG W g (f i x) ρ' M' fun ρ2 M2 => SS W tb ρ2 M2 { P with nx := I (xs.take (i + 1)), ct := I (xs.take (i + 1)), bk := P.nx }
    rw [take_snoc' hx]
    have := h.st (xs.take i) x (xs.drop (i + 1)) ρ' M' (split_at hx) i0
    rw [List.length_take, Nat.min_eq_left (by omega)] at this
    exact this
  · have i0 : I (xs.take n) ρ' M' := i0
    rw [hn, List.take_length] at i0
    exact i0
theorem ss_forL {α : Type} (f : α → PyData) (xs : List α) (I : List α → Rho → Cells → Prop) (h : SE W te ρ M fun d M1 => d = dL (xs.map f) ∧ I [] ρ M1) (hs : FL W xs (fun _ x => .py (f x)) g tb P I) : SS W (tFor (iAny Kf te) g tb) ρ M P :=
  ss_for (si_anyL (si_list (h.imp fun d M1 ⟨e, i0⟩ => ⟨_, e, hs.go (by rw [List.length_map]) (fun i d _ ⟨p, hp, e⟩ => by
    obtain ⟨o, ho, rfl⟩ := map_at hp
    exact ⟨o, ho, e⟩) i0⟩)))
theorem ss_forT {α : Type} (f : α → PyData) (xs : List α) (I : List α → Rho → Cells → Prop) (h : SE W te ρ M fun d M1 => d = dT (xs.map f) ∧ I [] ρ M1) (hs : FL W xs (fun _ x => .py (f x)) g tb P I) : SS W (tFor (iAny Kf te) g tb) ρ M P :=
  ss_for (si_anyT (si_tup (h.imp fun d M1 ⟨e, i0⟩ => ⟨_, e, hs.go (by rw [List.length_map]) (fun i d _ ⟨p, hp, e⟩ => by
    obtain ⟨o, ho, rfl⟩ := map_at hp
    exact ⟨o, ho, e⟩) i0⟩)))
theorem ss_forS (l : List Nat) (I : List Nat → Rho → Cells → Prop) (h : SE W te ρ M fun d M1 => d = dS (mkS l) ∧ I [] ρ M1) (hs : FL W l (fun _ x => dS (ofC x)) g tb P I) : SS W (tFor (iAny Kf te) g tb) ρ M P :=
  ss_for (si_anyS (si_str (h.imp fun d M1 ⟨e, i0⟩ => ⟨_, e, hs.go (mkS_len l) (fun i d _ ⟨c, hc, e⟩ => ⟨c, by simpa [mkS] using hc, e⟩) i0⟩)))
theorem ss_forE {α : Type} (f : α → PyData) (xs : List α) (I : List α → Rho → Cells → Prop) (h : SA W ta ρ M fun ds M1 => ds = [dL (xs.map f)] ∧ I [] ρ M1) (hs : FL W xs (fun i x => dT [.int (i : Int), f x]) g tb P I) : SS W (tFor (iEnumA Kf ta) g tb) ρ M P :=
  ss_for (si_enumAL (si_enum (SA.imp h fun d M1 ⟨e, i0⟩ => ⟨_, e, hs.go (by rw [List.length_map]) (fun i d _ ⟨p, hp, e⟩ => by
    obtain ⟨o, ho, rfl⟩ := map_at hp
    exact ⟨o, ho, e⟩) i0⟩)))
theorem ss_forES (l : List Nat) (I : List Nat → Rho → Cells → Prop) (h : SA W ta ρ M fun ds M1 => ds = [dS (mkS l)] ∧ I [] ρ M1) (hs : FL W l (fun i x => dT [.int (i : Int), .str (ofC x)]) g tb P I) : SS W (tFor (iEnumA Kf ta) g tb) ρ M P :=
  ss_for (si_enumAS (si_enumS (SA.imp h fun d M1 ⟨e, i0⟩ => ⟨_, e, hs.go (mkS_len l) (fun i d _ ⟨c, hc, e⟩ => ⟨c, by simpa [mkS] using hc, e⟩) i0⟩)))
end
section
variable {ρ : Rho} {M : Cells} {K : D → Cells → Prop} {to : TE}
theorem se_meth0 (n : Nat) {m : Str} {C : Addr} {s : DSp} {ta' : TA}
    (h : SE W0 to ρ M fun x M1 => ∃ i p fs, x = dR p ∧ CA M1 i p (.ins C fs) ∧ fs.lookup m = none ∧ SA W0 ta' ρ M1 fun ds M2 => s (dR p :: ds) (M2.take n) (fun d M' => K d (M' ++ M2.drop n)) fun _ _ => False) :
    SE W0 (tMeth C m (spD s) [] E0 to ta') ρ M K := se_meth (fun _ _ _ _ z => z) (h.imp fun x M1 ⟨i, p, fs, ex, hc, hl, h2⟩ => ⟨i, p, fs, ex, hc, hl, SA.imp h2 fun ds M2 k => ⟨M2.take n, M2.drop n, .of_eq (List.take_append_drop n M2).symm, k⟩⟩)
theorem se_make0 {C : Addr} {s : DSp} {ta' : TA}
    (h : SA W0 ta' ρ M fun ds M1 => ∀ x, s (dR x :: ds) [(x, .ins C [])] (fun d M' => d = dN ∧ ∃ c, M' = [(x, c)] ∧ K (dR x) (M1 ++ [(x, c)])) fun _ _ => False) : SE W0 (tMake C (spD s) [] E0 ta') ρ M K := se_make (fun _ _ _ _ z => z) h
end
/-! ### comprehensions over what is known -/
section
variable {W : WD} {ρ : Rho} {M : Cells} {K : D → Cells → Prop} {Kf : PySem.W.Frag} {g : TG} {t : TT} {te te0 : TE} {wi : TI} {ta : TA} {vs : List Nat}
/-- what is walked: xs, each told as data -/
def Src {α : Type} (xs : List α) (f : Nat → α → D) (M : Cells) : Nat → (Nat → D → Prop) → (Cells → Prop) → Cells → Prop := fun n Y C M1 => n = xs.length ∧ M1 = M ∧ (∀ i d, i < n → Y i d → ∃ x, xs[i]? = some x ∧ d = f i x) ∧ ∀ M', C M'
theorem src_L {α : Type} (f : α → PyData) (xs : List α) {M2 : Cells} (h : SE W te ρ M fun d M1 => d = dL (xs.map f) ∧ M1 = M2) : SI W (iAny Kf te) ρ M (Src xs (fun _ x => .py (f x)) M2) :=
  si_anyL (si_list (h.imp fun d M1 ⟨e, i0⟩ => ⟨_, e, by rw [List.length_map], i0, fun i d _ ⟨p, hp, e⟩ => by
    obtain ⟨o, ho, rfl⟩ := map_at hp
    exact ⟨o, ho, e⟩, fun _ => trivial⟩))
theorem src_T {α : Type} (f : α → PyData) (xs : List α) {M2 : Cells} (h : SE W te ρ M fun d M1 => d = dT (xs.map f) ∧ M1 = M2) : SI W (iAny Kf te) ρ M (Src xs (fun _ x => .py (f x)) M2) :=
  si_anyT (si_tup (h.imp fun d M1 ⟨e, i0⟩ => ⟨_, e, by rw [List.length_map], i0, fun i d _ ⟨p, hp, e⟩ => by
    obtain ⟨o, ho, rfl⟩ := map_at hp
    exact ⟨o, ho, e⟩, fun _ => trivial⟩))
theorem src_S (l : List Nat) {M2 : Cells} (h : SE W te ρ M fun d M1 => d = dS (mkS l) ∧ M1 = M2) : SI W (iAny Kf te) ρ M (Src l (fun _ x => dS (ofC x)) M2) :=
  si_anyS (si_str (h.imp fun d M1 ⟨e, i0⟩ => ⟨_, e, mkS_len l, i0, fun i d _ ⟨c, hc, e⟩ => ⟨c, by simpa [mkS] using hc, e⟩, fun _ => trivial⟩))
theorem src_E {α : Type} (f : α → PyData) (xs : List α) {M2 : Cells} (h : SA W ta ρ M fun ds M1 => ds = [dL (xs.map f)] ∧ M1 = M2) : SI W (iEnumA Kf ta) ρ M (Src xs (fun i x => dT [.int (i : Int), f x]) M2) :=
  si_enumAL (si_enum (SA.imp h fun d M1 ⟨e, i0⟩ => ⟨_, e, by rw [List.length_map], i0, fun i d _ ⟨p, hp, e⟩ => by
    obtain ⟨o, ho, rfl⟩ := map_at hp
    exact ⟨o, ho, e⟩, fun _ => trivial⟩))
theorem src_ES (l : List Nat) {M2 : Cells} (h : SA W ta ρ M fun ds M1 => ds = [dS (mkS l)] ∧ M1 = M2) : SI W (iEnumA Kf ta) ρ M (Src l (fun i x => dT [.int (i : Int), .str (ofC x)]) M2) :=
  si_enumAS (si_enumS (SA.imp h fun d M1 ⟨e, i0⟩ => ⟨_, e, mkS_len l, i0, fun i d _ ⟨c, hc, e⟩ => ⟨c, by simpa [mkS] using hc, e⟩, fun _ => trivial⟩))
theorem range_at {n i : Nat} (h : i < n) : (List.range n)[i]? = some i := by simp [h]
theorem src_R1 {M2 : Cells} (n : Nat) (h : SA W ta ρ M fun ds M1 => ∃ j : Int, ds = [dI j] ∧ j.toNat = n ∧ -(2 ^ 62) ≤ j ∧ j < 2 ^ 62 ∧ M1 = M2) : SI W (iRng1 ta) ρ M (Src (List.range n) (fun _ i => dI (i : Int)) M2) :=
  si_range1 (SA.imp h fun d M1 ⟨j, e, e1, h1, h2, e2⟩ => ⟨j, e, h1, h2, by rw [e1, List.length_range], e2, fun i d hi e => ⟨i, range_at (by omega), e⟩, fun _ => trivial⟩)
theorem src_R2 {M2 : Cells} (lo : Int) (n : Nat) (h : SA W ta ρ M fun ds M1 => ∃ j : Int, ds = [dI lo, dI j] ∧ (j - lo).toNat = n ∧ (-(2 ^ 62) ≤ lo ∧ lo < 2 ^ 62 ∧ -(2 ^ 62) ≤ j ∧ j < 2 ^ 62) ∧ M1 = M2) : SI W (iRng2 ta) ρ M (Src (List.range n) (fun _ i => dI (lo + (i : Int))) M2) :=
  si_range2 (SA.imp h fun d M1 ⟨j, e, e1, h1, e2⟩ => ⟨lo, j, e, h1, by rw [e1, List.length_range], e2, fun i d hi e => ⟨i, range_at (by omega), e⟩, fun _ => trivial⟩)
/-- a for over it -/
theorem ss_forX {α : Type} {xs : List α} {f : Nat → α → D} {M2 : Cells} {P : PD} {tb : TS} (I : List α → Rho → Cells → Prop) (h : SI W wi ρ M (Src xs f M2)) (h0 : I [] ρ M2) (hs : FL W xs f g tb P I) : SS W (tFor wi g tb) ρ M P := by
  refine ss_for fun G σ H F Q re o mx q => h G σ H F Q re o mx fun n Y C M' G' H' J ⟨e1, e2, e3, e4⟩ => ?_
  subst e2
  refine q n Y C M' G' H' J ?_
  obtain ⟨I2, a, b, c, d⟩ := hs.go e1 e3 h0
  exact ⟨I2, a, fun i ρ' M' _ _ => e4 M', c, d⟩
end
section
variable {ρ : Rho} {M : Cells} {K : D → Cells → Prop} {Kf : PySem.W.Frag} {g : TG} {t : TT} {te te0 : TE} {wi : TI} {ta : TA} {vs : List Nat}
theorem se_lcI {α : Type} {xs : List α} {f : Nat → α → D} {M2 : Cells} (hg : GOk g vs) (h : SI W0 wi ρ M (Src xs f M2)) (hl : xs.length ≤ 1000000) (I : List α → List D → Cells → Prop) (h0 : I [] [] M2)
    (hs : ∀ pre x post acc M', xs = pre ++ x :: post → acc.length ≤ pre.length → I pre acc M' → SG W0 g (f pre.length x) (wipeE ρ vs) M' fun ρ2 M2 => ST W0 t ρ2 M2 fun b M3 => Br b (SE W0 te ρ2 M3 fun e M4 => I (pre ++ [x]) (acc ++ [e]) M4) (I (pre ++ [x]) acc M3))
    (he : ∀ acc M', I xs acc M' → (∃ ps, acc = ps.map D.py ∧ K (dL ps) M') ∨ ∀ p, K (dR p) (M' ++ [(p, .lst acc)])) : SE W0 (tLc wi g t te vs) ρ M K := by
  refine se_lc hg fun G σ H F Q re o mx q => h G σ H F Q re o mx fun n Y C M' G' H' J ⟨e1, e2, e3, e4⟩ => ?_
  subst e2
  refine q n Y C M' G' H' J ⟨by omega, fun i => I (xs.take i), h0, fun i acc M' _ _ => e4 M', fun i d acc M' hi ha y i0 => ?_, fun acc M' i0 => he acc M' ?_⟩
  · obtain ⟨x, hx, rfl⟩ := e3 i d hi y
    have hlen : (xs.take i).length = i := by rw [List.length_take]; omega
    have := hs (xs.take i) x (xs.drop (i + 1)) acc M' (split_at hx) (by rw [hlen]; exact ha) i0
    rw [hlen, ← take_snoc' hx] at this
    exact this
  · have i0 : I (xs.take n) acc M' := i0
    rw [e1, List.take_length] at i0
    exact i0
/-- a comprehension that changes nothing -/
theorem se_lcF {α : Type} {xs : List α} {f : Nat → α → D} {M2 : Cells} (p : α → Bool) (m : α → PyData) (hg : GOk g vs) (h : SI W0 wi ρ M (Src xs f M2)) (hl : xs.length ≤ 1000000)
    (hs : ∀ pre x post, xs = pre ++ x :: post → SG W0 g (f pre.length x) (wipeE ρ vs) M2 fun ρ2 M3 => ST W0 t ρ2 M3 fun b M4 => M4 = M2 ∧ b = p x ∧ (p x = true → SE W0 te ρ2 M4 fun e M5 => e = .py (m x) ∧ M5 = M2))
    (k : K (dL ((xs.filter p).map m)) M2) : SE W0 (tLc wi g t te vs) ρ M K := by
  refine se_lcI hg h hl (fun pre acc M' => acc = ((pre.filter p).map m).map D.py ∧ M' = M2) ⟨rfl, rfl⟩ ?_ ?_
  · rintro pre x post acc M' hx ha ⟨rfl, rfl⟩ G σ H F v Q r re o mx q
    refine hs pre x post hx G σ H F v Q r re o mx fun ρ2 M3 σ2 G2 H2 k2 e2 re2 o2 => q ρ2 M3 σ2 G2 H2 ?_ e2 re2 o2
    refine k2.imp fun b M4 ⟨e1, e2, e3⟩ => ?_
    subst e1
    subst e2
    refine ⟨fun hp => (e3 hp).imp fun e M5 ⟨a1, a2⟩ => ?_, fun hp => ?_⟩
    · subst a1
      subst a2
      refine ⟨?_, rfl⟩
      rw [List.filter_append, List.filter_cons_of_pos hp, List.map_append, List.map_append]
      rfl
    · refine ⟨?_, rfl⟩
      rw [List.filter_append, List.filter_cons_of_neg (by rw [hp]; decide), List.filter_nil, List.append_nil]
  · rintro acc M' ⟨rfl, rfl⟩
    exact .inl ⟨_, rfl, k⟩
theorem se_lcM {α : Type} {xs : List α} {f : Nat → α → D} {M2 : Cells} (m : α → PyData) (hg : GOk g vs) (h : SI W0 wi ρ M (Src xs f M2)) (hl : xs.length ≤ 1000000)
    (hs : ∀ pre x post, xs = pre ++ x :: post → SG W0 g (f pre.length x) (wipeE ρ vs) M2 fun ρ2 M3 => SE W0 te ρ2 M3 fun e M5 => e = .py (m x) ∧ M5 = M2 ∧ M3 = M2)
    (k : K (dL (xs.map m)) M2) : SE W0 (tLc wi g tYes te vs) ρ M K := by
  refine se_lcI hg h hl (fun pre acc M' => acc = (pre.map m).map D.py ∧ M' = M2) ⟨rfl, rfl⟩ ?_ ?_
  · rintro pre x post acc M' hx ha ⟨rfl, rfl⟩ G σ H F v Q r re o mx q
    refine hs pre x post hx G σ H F v Q r re o mx fun ρ2 M3 σ2 G2 H2 k2 e2 re2 o2 => q ρ2 M3 σ2 G2 H2 ?_ e2 re2 o2
    refine st_yes (br_T rfl (k2.imp fun e M5 ⟨a1, a2, a3⟩ => ?_))
    subst a1
    subst a2
    refine ⟨?_, rfl⟩
    rw [List.map_append, List.map_append]
    rfl
  · rintro acc M' ⟨rfl, rfl⟩
    exact .inl ⟨_, rfl, k⟩
end
theorem tup_is {o : Obj} {xs : List V} (h : tupB o xs = true) : TupIs o xs := h
/-! ### cells that are let go -/
theorem own_take {G H : Hp} {M F : Cells} (n : Nat) (o : Own G (M ++ F) H) : Own G (M.take n ++ F) H := o.sub (List.Sublist.append (List.take_sublist n M) (List.Sublist.refl F))
theorem se_cut {W : WD} {ρ : Rho} {M : Cells} {K : D → Cells → Prop} {te : TE} (n : Nat) (h : SE W te ρ M fun d M' => K d (M'.take n)) : SE W te ρ M K := fun G σ H F Q re o mx q =>
  h G σ H F Q re o mx fun d M' v G' H' k e r o' => q d (M'.take n) v G' H' k e r (own_take n o')
theorem se_cut0 {W : WD} {ρ : Rho} {M : Cells} {K : D → Cells → Prop} {te : TE} (n : Nat) (h : SE W te ρ (M.take n) K) : SE W te ρ M K := fun G σ H F Q re o mx q => h G σ H F Q re (own_take n o) mx q
theorem ss_cut {W : WD} {ρ : Rho} {M : Cells} {P : PD} {t : TS} (n : Nat) (h : SS W t ρ (M.take n) P) : SS W t ρ M P := fun G σ H F D re o mx md => h G σ H F D re (own_take n o) mx md
theorem ca_last {M : Cells} {p : Addr} {c : Cell} : CA (M ++ [(p, c)]) M.length p c := by simp [CA]
section
variable {W : WD} {ρ : Rho} {M : Cells} {K : D → Cells → Prop}
def isNP : PyData → Bool
  | .none => true
  | _ => false
theorem rp_isN {G : Hp} {v : V} {p : PyData} (r : RD G v (.py p)) : decide (v = V.non) = isNP p := by
  have r' : Rp G v p := r
  cases r' <;> first | rfl | exact decide_eq_false (by intro e; cases e)
theorem or_isN {p : PyData} (k : K (dB (isNP p)) M) : OR (fun x y H Q => y = .non ∧ Q (.bl (decide (x = .non))) H) (.py p) dN M K := fun G H F u v Q r1 r2 o q => by
  cases non_of r2
  refine ⟨rfl, ?_⟩
  rw [rp_isN r1]
  exact q _ M _ G H k (Ex.refl G) (Rp.bl _) o
theorem or_ntN {p : PyData} (k : K (dB (!isNP p)) M) : OR (fun x y H Q => y = .non ∧ Q (.bl (!decide (x = .non))) H) (.py p) dN M K := fun G H F u v Q r1 r2 o q => by
  cases non_of r2
  refine ⟨rfl, ?_⟩
  rw [rp_isN r1]
  exact q _ M _ G H k (Ex.refl G) (Rp.bl _) o
theorem or_isNR {a : Addr} (k : K (dB false) M) : OR (fun x y H Q => y = .non ∧ Q (.bl (decide (x = .non))) H) (dR a) dN M K := fun G H F u v Q r1 r2 o q => by
  cases non_of r2
  cases r1
  exact ⟨rfl, q _ M _ G H k (Ex.refl G) (Rp.bl _) o⟩
end
end PL

/-! PL9: min(xs, default=z) of data. -/
namespace PL
open PySem PySem.Spec L2
def rMinDf (K : PySem.W.Frag) : List V → List V → Hp → VK → Prop := fun vs zs H Q => ∃ (a : Addr) (xs : List V) (ds : List PyData) (z : V), vs = [V.ref a] ∧ zs = [z] ∧ SqL K H a xs ∧ DpAll K H xs ds ∧ PySem.W.AlikeAll ds ∧ PyData.depthAll ds ≤ 32 ∧
  (ds = [] → Q z H) ∧ ∀ (y : PyData) (ys : List PyData) (v : V) (i : Nat), ds = y :: ys → xs[i]? = some v → ds[i]? = some (PySem.W.minD y ys) → Q v H
theorem vals_nth : ∀ {xs : List V} {us : List Value} {i : Nat} {u : Value}, Vals xs us → us[i]? = some u → ∃ x, xs[i]? = some x ∧ RelV x u
  | [], [], _, _, _, e => by simp at e
  | x :: xs, u :: us, 0, w, r, e => by
    simp at e
    subst e
    cases r with
    | cons r1 r2 => exact ⟨x, rfl, r1⟩
  | x :: xs, u :: us, i + 1, w, r, e => by
    cases r with
    | cons r1 r2 =>
      obtain ⟨y, h1, h2⟩ := vals_nth (i := i) r2 (by simpa using e)
      exact ⟨y, by simpa using h1, h2⟩
theorem readsAll_nth {h : Heap} : ∀ {us : List Value} {ds : List PyData} {as : List Addr} {i : Nat} {u : Value}, ReadsAll h us ds as → us[i]? = some u → ∃ d bs, ds[i]? = some d ∧ Reads h u d bs
  | [], _, _, _, _, _, e => by simp at e
  | w :: us, _, _, i, u, r, e => by
    cases r with
    | cons r1 r2 =>
      cases i with
      | zero =>
        simp at e
        subst e
        exact ⟨_, _, rfl, r1⟩
      | succ i =>
        obtain ⟨d, bs, h1, h2⟩ := readsAll_nth (i := i) r2 (by simpa using e)
        exact ⟨d, bs, by simpa using h1, h2⟩
theorem cr_minDf0 {X : Cx} (hc : X.calm = true) (hu : X.A.units + 64 < cLine) : CallRK X (.builtin "min") [Str.ofString "default"] (rMinDf X.K) := by
  intro pins s σ H vs zs us ws Q I r rz h
  obtain ⟨a, xs, ds, z, rfl, rfl, hs, hd, ha, hdp, q0, q⟩ := h
  obtain ⟨its, rv, hl, hz⟩ := I.list hs
  rw [Vals.ref1 r]
  obtain ⟨w1, rfl, e1⟩ := vals1 rz
  obtain ⟨as, ra⟩ := Dp.readsAll I ds xs _ hd rv
  refine PySem.W.min_list_default (I.ok.hd hc) hl.isList (by simpa using ra) ha (by omega) (fun e h' tk hk => ⟨z, H, I.kept hk, e1, q0 e⟩) fun y ys i v h' tk bs e hv rdv hk => ?_
  have hv' : its[i]? = some v := by simpa using hv
  obtain ⟨x, hx, rx⟩ := vals_nth rv hv'
  obtain ⟨d, cs, h1, h2⟩ := readsAll_nth ra hv'
  have := (PySem.Reads.unique (PySem.W.reads_keeps hk h2) _ _ rdv).1
  exact ⟨x, H, I.kept hk, rx, q y ys x i e hx (this ▸ h1)⟩
theorem cr_minDK {X : Cx} {K : PySem.W.Frag} (hc : X.calm = true) (hu : X.A.units + 64 < cLine) (hK : X.K = K := by rfl) : CallRK X (.builtin "min") [Str.ofString "default"] (rMinDf K) := hK ▸ cr_minDf0 hc hu
def CKR (r : List V → List V → Hp → VK → Prop) (xs es : List D) (M : Cells) (K : D → Cells → Prop) : Prop :=
  ∀ (G H : Hp) (F : Cells) (us ws : List V) (Q : VK), RDs G us xs → RDs G ws es → Own G (M ++ F) H → Fin G F K Q → r us ws H Q
section
variable {W : WD} {ρ : Rho} {M : Cells} {K : D → Cells → Prop} {Kf : PySem.W.Frag} {t tk : TA}
theorem se_ckw {r : List V → List V → Hp → VK → Prop} (h : SA W t ρ M fun ds M1 => SA W tk ρ M1 fun es M2 => CKR r ds es M2 K) : SE W (tCKw r t tk) ρ M K := fun G σ H F Q re o mx q =>
  h G σ H F _ re o mx fun ds M1 vs G1 H1 k1 e1 r1 o1 => k1 G1 σ H1 F _ (re.mono e1) o1 (mx.mono e1) fun es M2 ws G2 H2 k2 e2 r2 o2 =>
    k2 G2 H2 F vs ws Q (RDs.mono e2 r1) r2 o2 (q.mono (e1.trans e2))
theorem cr_minDf {ps : List PyData} {z : PyData} (ha : PySem.W.AlikeAll ps) (hd : PyData.depthAll ps ≤ 32) (h0 : ps = [] → K (.py z) M) (h1 : ∀ y ys, ps = y :: ys → K (.py (PySem.W.minD y ys)) M) : CKR (rMinDf Kf) [dL ps] [.py z] M K := fun G H F us ws Q r1 r2 o q => by
  obtain ⟨v, rfl, rv⟩ := r1.one
  obtain ⟨w, rfl, rw'⟩ := r2.one
  have rv' : Rp G v (.list ps) := rv
  cases rv' with
  | lst hl ra =>
    refine ⟨_, _, ps, w, rfl, rfl, SqL.of (o.ex _ _ hl), RpAll.dp (RpAll.mono o.ex ra), ha, hd, fun e => q _ M w G H (h0 e) (Ex.refl G) rw' o, fun y ys x i e hx hi => ?_⟩
    obtain ⟨v', hv', rr⟩ := ra.get hi
    rw [hx] at hv'
    cases hv'
    exact q _ M x G H (h1 y ys e) (Ex.refl G) rr o
end
/-- triples of ints -/
def t3 (a b c : Int) : PyData := .tuple [.int a, .int b, .int c]
theorem lt3_step {x y : Int} {xs ys : List PyData} : PyProof.Rows.lexLt PyProof.Rows.itemOrd (PySem.W.keyToksAll (.int x :: xs)) (PySem.W.keyToksAll (.int y :: ys)) = if x = y then PyProof.Rows.lexLt PyProof.Rows.itemOrd (PySem.W.keyToksAll xs) (PySem.W.keyToksAll ys) else decide (x < y) := by
  split
  · rename_i h
    subst h
    exact PySem.W.dataLt_all_yes (by simp [PySem.W.alike]) (by rw [eqv_int]; exact decide_eq_true rfl)
  · rename_i h
    rw [PySem.W.dataLt_all_no (by simp [PySem.W.alike]) (by rw [eqv_int]; exact decide_eq_false h), PySem.W.dataLt_int]
theorem t3_lt (a b c d e f : Int) : PySem.W.dataLt (t3 a b c) (t3 d e f) = decide (a < d ∨ a = d ∧ (b < e ∨ b = e ∧ c < f)) := by
  show PyProof.Rows.lexLt PyProof.Rows.itemOrd (PySem.W.keyToksAll [.int a, .int b, .int c]) (PySem.W.keyToksAll [.int d, .int e, .int f]) = _
  rw [lt3_step, lt3_step, lt3_step, show PyProof.Rows.lexLt PyProof.Rows.itemOrd (PySem.W.keyToksAll []) (PySem.W.keyToksAll []) = false from PyProof.Rows.lex_irrefl _]
  by_cases h1 : a = d
  · by_cases h2 : b = e
    · by_cases h3 : c = f
      · simp [h1, h2, h3]
      · simp [h1, h2, h3]
    · simp [h1, h2]
  · simp [h1]
section
variable {W : WD} {ρ : Rho} {M : Cells} {K : D → Cells → Prop} {Kf : PySem.W.Frag}
theorem cr_divmod {i j : Int} (hc : CDiv i j) (k : K (dT [.int (i / j), .int (i % j)]) M) : CR (fun xs H Q => ∃ i j, xs = [V.int i, V.int j] ∧ CDiv i j ∧ ∀ p, H p = none → Q (.ref p) (upd H p (.tup [.int (i / j), .int (i % j)]))) [dI i, dI j] M K := fun G H F us Q r o q => by
  obtain ⟨v, w, rfl, r1, r2⟩ := r.two
  cases int_of r1
  cases int_of r2
  refine ⟨i, j, rfl, hc, fun p hp => ?_⟩
  obtain ⟨G', e, rd, o'⟩ := new_tup o hp (.cons (Rp.int (i / j)) (.cons (Rp.int (i % j)) .nil))
  exact q _ M _ G' _ k e rd o'
end
end PL

/-! PL10: a text turned about. -/
namespace PL
open PySem PySem.Spec L2 PyProof.Rows
theorem picked_about (z : Str) : ((Builtin.Str.strSliceIndices none none (-1) z.length).filterMap (z.cps[·]?)).toArray = (mkS z.cps.toList.reverse).cps := by
  have h : (Builtin.Str.strSliceIndices none none (-1) z.length).filterMap (z.cps[·]?) = z.cps.toList.reverse := by
    rw [PyProof.Rows.picked_rev, PyProof.Rows.filterMap_get, List.map_map]
    · refine List.ext_getElem (by simp [Str.length]) fun i h1 h2 => ?_
      have hi : i < z.cps.size := by simpa [Str.length] using h1
      simp [Str.length, Array.getD, show z.cps.size - 1 - i < z.cps.size by omega]
    · intro i hi
      obtain ⟨k, hk, rfl⟩ := List.mem_map.mp hi
      have hk' : k < z.length := List.mem_range.mp hk
      show z.length - 1 - k < z.length
      omega
  rw [h]
  rfl
def tRevS (te : TE) : TE := fun σ H Q => te σ H fun x H1 => ∃ z : Str, x = .str z ∧ z.length ≤ sizeLine ∧ Q (.str (mkS z.cps.toList.reverse)) H1
theorem pe_revS {X : Cx} {e : Expr} {te : TE} {k : Nat} {p1 p2 p3 pos : Pos} (he : PE X e te) : PE X (.Subscript e (.Slice none none (some (.UnaryOp .USub (.Constant (.int 1) k p1) p2)) p3) pos) (tRevS te) := by
  refine ⟨fun pins s σ H Q I h => ?_⟩
  refine Subscript_ (thn (he.run pins s σ H _ I h) fun v s1 ⟨x, H1, I1, r1, q1⟩ => ?_)
  obtain ⟨z, rfl, hz, q⟩ := q1
  obtain ⟨t, rfl⟩ := r1
  have hst : PO X (some (.UnaryOp .USub (.Constant (.int 1) k p1) p2)) (tPart (tUn (rU fun i => .int (-i)) (tC (.int 1)))) := po_some (pe_un un_neg pe_int)
  refine wpAny_Slice (thn (po_none.run pins s1 σ H1 (fun o H2 => o = none ∧ H2 = H1) I1 ⟨rfl, rfl⟩) fun vl s2 ⟨l, H2, I2, pl, el, e2⟩ => ?_)
  subst el e2
  refine thn (po_none.run pins s2 σ H2 (fun o H3 => o = none ∧ H3 = H2) I2 ⟨rfl, rfl⟩) fun vu s3 ⟨u, H3, I3, pu, eu, e3⟩ => ?_
  subst eu e3
  refine thn (hst.run pins s3 σ H3 (fun o H4 => o = some (-1) ∧ H4 = H3) I3 ⟨1, rfl, -1, rfl, rfl, rfl⟩) fun vs s4 ⟨o, H4, I4, ps, eo, e4⟩ => ?_
  subst eo e4
  have I5 : Inv X pins σ H4 { s4 with heap := s4.heap.push { cls := .type "slice", data := .fields #[vl, vu, vs] } } := I4.kept (t' := s4.toks) fun b ob q => Heap.get?_push_of_some _ q
  obtain ⟨l, rfl, hl⟩ := IsPart.raw pl
  obtain ⟨u, rfl, hu⟩ := IsPart.raw pu
  obtain ⟨o, rfl, ho⟩ := IsPart.raw ps
  have h3 := picked_about z
  refine tail_any (ops := [.str z t, .ref s4.heap.objs.size]) (typeIs_str _ _ _) (PySem.F.slot_str_getitem.lookup) ?_ (by with_unfolding_all rfl)
  refine wpAny_getItem_str_slice (l := l) (u := u) (st := o) ⟨_, Heap.get?_push_size _ rfl, rfl, rfl⟩ (by rw [ho]; rfl) ?_
  have e1 : (o.map (·.1)).getD 1 = -1 := by rw [ho]; rfl
  show Made.post (if ((o.map (·.1)).getD 1 == 1 && (Builtin.Str.strSliceIndices (l.map (·.1)) (u.map (·.1)) ((o.map (·.1)).getD 1) z.length).length == z.length) = true then Made.val (.str z t)
    else Made.str ⟨((Builtin.Str.strSliceIndices (l.map (·.1)) (u.map (·.1)) ((o.map (·.1)).getD 1) z.length).filterMap (z.cps[·]?)).toArray⟩) (EP X pins σ Q) _
  rw [e1, hl, hu, if_neg (by simp), h3]
  refine ⟨?_, .str _, H4, I5.tok _, ⟨_, rfl⟩, q⟩
  show (mkS z.cps.toList.reverse).length ≤ sizeLine
  rw [mkS_len, List.length_reverse]
  exact hz
section
variable {W : WD} {ρ : Rho} {M : Cells} {K : D → Cells → Prop} {te : TE}
theorem se_revS (h : SE W te ρ M fun d M1 => ∃ l : List Nat, d = dS (mkS l) ∧ l.length ≤ 1000000 ∧ K (dS (mkS l.reverse)) M1) : SE W (tRevS te) ρ M K := fun G σ H F Q re o mx q =>
  h G σ H F _ re o mx fun d M1 v G1 H1 ⟨l, ed, hl, k⟩ e1 r1 o1 => by
    subst ed
    cases str_of r1
    refine ⟨_, rfl, by rw [mkS_len]; exact big_ok hl, ?_⟩
    rw [mkS_cs]
    exact q _ M1 _ G1 H1 k e1 (Rp.str _) o1
end
end PL

/-! PL11: a chain of three, lists made longer. -/
namespace PL
open PySem PySem.Spec L2 PyProof.Rows
def ttCh3 (r r' r'' : R2) (ta tb tc td : TE) : TT := fun σ H Q => ta σ H fun x H1 => tb σ H1 fun y H2 => r x y H2 fun z H3 => ∃ k, z = V.bl k ∧
  (if k = true then (tc σ H3 fun x2 H4 => r' y x2 H4 fun z2 H5 => ∃ k2, z2 = V.bl k2 ∧ (if k2 = true then (td σ H5 fun x3 H6 => r'' x2 x3 H6 fun z3 H7 => ∃ k3, z3 = V.bl k3 ∧ Q k3 H7) else Q false H5)) else Q false H3)
theorem pt_chain3 {X : Cx} {a b c d : Expr} {pos : Pos} {op op' op'' : CmpOp} {r r' r'' : R2} {ta tb tc td : TE} (ho : OpR X (compareOp op) r) (ho' : OpR X (compareOp op') r') (ho'' : OpR X (compareOp op'') r'') (ha : PE X a ta) (hb : PE X b tb) (hc : PE X c tc) (hd : PE X d td)
    (hm : lastMarks [op, op', op''] [b, c, d] = false := by with_unfolding_all rfl) : PT X (.Compare a [op, op', op''] [b, c, d] pos) (ttCh3 r r' r'' ta tb tc td) := by
  refine ⟨fun pins s σ H Q I h => ?_⟩
  refine isTrue_chain (thn (ha.run pins s σ H _ I h) fun v s1 ⟨x, H1, I1, r1, q1⟩ => test_link (thn (hb.run pins s1 σ H1 _ I1 q1) fun u s2 ⟨y, H2, I2, r2, q2⟩ =>
    thn (ho pins s2 σ H2 x y v u _ I2 r1 r2 q2) fun e s3 ⟨z, H3, I3, r3, k, ez, q3⟩ => ?_)) hm
  subst ez
  cases r3
  refine wpAny_truthy_bool ?_
  cases k with
  | false => exact ite_ff ⟨H3, I3, q3⟩
  | true =>
    refine ite_tt (test_link (thn (hc.run pins s3 σ H3 _ I3 q3) fun w' s4 ⟨x2, H4, I4, r4, q4⟩ => thn (ho' pins s4 σ H4 y x2 u w' _ I4 r2 r4 q4) fun e' s5 ⟨z2, H5, I5, r5, k2, e2, q5⟩ => ?_))
    subst e2
    cases r5
    refine wpAny_truthy_bool ?_
    cases k2 with
    | false => exact ite_ff ⟨H5, I5, q5⟩
    | true =>
      refine ite_tt (test_last (thn (hd.run pins s5 σ H5 _ I5 q5) fun w3 s6 ⟨x3, H6, I6, r6, q6⟩ => thn (ho'' pins s6 σ H6 x2 x3 w' w3 _ I6 r4 r6 q6) fun e3 s7 ⟨z3, H7, I7, r7, k3, e3', q7⟩ => ?_))
      subst e3'
      cases r7
      exact wpAny_truthy_bool ⟨H7, I7, q7⟩
section
variable {W : WD} {ρ : Rho} {M : Cells} {K : D → Cells → Prop} {KT : Bool → Cells → Prop} {Kf : PySem.W.Frag}
theorem st_chain3 {r r' r'' : R2} {ta tb tc td : TE} (h : SE W ta ρ M fun x M1 => SE W tb ρ M1 fun y M2 => OR r x y M2 fun z M3 => IsB z fun b => Br b
    (SE W tc ρ M3 fun x2 M4 => OR r' y x2 M4 fun z2 M5 => IsB z2 fun b2 => Br b2 (SE W td ρ M5 fun x3 M6 => OR r'' x2 x3 M6 fun z3 M7 => IsB z3 fun b3 => KT b3 M7) (KT false M5)) (KT false M3)) : ST W (ttCh3 r r' r'' ta tb tc td) ρ M KT := fun G σ H F Q re o mx q =>
  h G σ H F _ re o mx fun x M1 v G1 H1 k1 e1 r1 o1 => k1 G1 σ H1 F _ (re.mono e1) o1 (mx.mono e1) fun y M2 u G2 H2 k2 e2 r2 o2 =>
    k2 G2 H2 F v u _ (r1.mono e2) r2 o2 fun z M3 w G3 H3 ⟨b, eb, k3⟩ e3 r3 o3 => by
      subst eb
      cases bl_of r3
      refine ⟨b, rfl, ?_⟩
      have e13 := e1.trans (e2.trans e3)
      cases b with
      | false => exact iteF (q false M3 G3 H3 (k3.f rfl) e13 o3)
      | true =>
        refine iteT (k3.t rfl G3 σ H3 F _ (re.mono e13) o3 (mx.mono e13) fun x2 M4 v2 G4 H4 k4 e4 r4 o4 => ?_)
        refine k4 G4 H4 F u v2 _ (r2.mono (e3.trans e4)) r4 o4 fun z2 M5 w2 G5 H5 ⟨b2, eb2, k5⟩ e5 r5 o5 => ?_
        subst eb2
        cases bl_of r5
        refine ⟨b2, rfl, ?_⟩
        have e15 := e13.trans (e4.trans e5)
        cases b2 with
        | false => exact iteF (q false M5 G5 H5 (k5.f rfl) e15 o5)
        | true =>
          refine iteT (k5.t rfl G5 σ H5 F _ (re.mono e15) o5 (mx.mono e15) fun x3 M6 v3 G6 H6 k6 e6 r6 o6 => ?_)
          refine k6 G6 H6 F v2 v3 _ (r4.mono (e5.trans e6)) r6 o6 fun z3 M7 w3 G7 H7 ⟨b3, eb3, k7⟩ e7 r7 o7 => ?_
          subst eb3
          cases bl_of r7
          exact ⟨b3, rfl, q b3 M7 G7 H7 k7 (e15.trans (e6.trans e7)) o7⟩
theorem br_extend (i : Nat) {p : Addr} {ds es : List D} {d : D} (hc : CA M i p (.lst ds)) (hv : LV M d es) (hl : ds.length + es.length ≤ 1000000) (k : K dN (M.set i (p, .lst (ds ++ es)))) : BR rExtend (dR p) [d] M K := fun G H F u us Q r rs o q => by
  cases r
  obtain ⟨v, rfl, rv⟩ := rs.one
  obtain ⟨vs, hv1, rr⟩ := o.at hc
  obtain ⟨b, ws, rfl, hb, rr2⟩ := hv.at rv o
  refine ⟨p, b, vs, ws, rfl, rfl, hv1, hb, by rw [All2.length rr, All2.length rr2]; exact big_ok hl, q dN _ .non G _ k (Ex.refl G) Rp.non (o.store hc ⟨_, upd_same, rr.append rr2⟩)⟩
end
section
variable {ρ : Rho} {M : Cells} {K : D → Cells → Prop} {Kf : PySem.W.Frag} {g : TG} {t : TT} {te te0 : TE} {vs : List Nat}
/-- over a cell's list, nothing changed -/
theorem se_lcC {ds : List D} {j : Nat} {p : Addr} {M2 : Cells} (hg : GOk g vs) (h : SE W0 te0 ρ M fun d M1 => d = dR p ∧ M1 = M2) (hc : CA M2 j p (.lst ds)) (hl : ds.length ≤ 1000000) (I : Nat → List D → Prop) (h0 : I 0 [])
    (hs : ∀ i d acc, ds[i]? = some d → acc.length ≤ i → I i acc → SG W0 g d (wipeE ρ vs) M2 fun ρ2 M3 => ST W0 t ρ2 M3 fun b M4 => M4 = M2 ∧ Br b (SE W0 te ρ2 M4 fun e M5 => M5 = M2 ∧ I (i + 1) (acc ++ [e])) (I (i + 1) acc))
    (he : ∀ acc, I ds.length acc → (∃ ps, acc = ps.map D.py ∧ K (dL ps) M2) ∨ ∀ p, K (dR p) (M2 ++ [(p, .lst acc)])) : SE W0 (tLc (iAny Kf te0) g t te vs) ρ M K := by
  refine se_lc hg (si_anyL (si_cell (h.imp fun d M1 ⟨e, e2⟩ => ⟨j, p, ds, e, e2 ▸ hc, hl, fun i acc M' => M' = M2 ∧ I i acc, ⟨e2, h0⟩, fun i acc M' _ q => q.1 ▸ hc, fun i d acc M' hi ha y q => ?_, fun acc M' q => ?_⟩)))
  · obtain ⟨rfl, q⟩ := q
    intro G σ H F v Q r re o mx qq
    refine hs i d acc y ha q G σ H F v Q r re o mx fun ρ2 M3 σ2 G2 H2 k2 e2 re2 o2 => qq ρ2 M3 σ2 G2 H2 ?_ e2 re2 o2
    refine k2.imp fun b M4 ⟨a1, a2⟩ => ?_
    subst a1
    exact ⟨fun hb => (a2.t hb).imp fun e M5 ⟨b1, b2⟩ => ⟨b1, b2⟩, fun hb => ⟨rfl, a2.f hb⟩⟩
  · obtain ⟨rfl, q⟩ := q
    exact he acc q
theorem se_lcFC {α : Type} {xs : List α} (f : α → PyData) (p : α → Bool) (m : α → PyData) {j : Nat} {a : Addr} {M2 : Cells} (hg : GOk g vs) (h : SE W0 te0 ρ M fun d M1 => d = dR a ∧ M1 = M2) (hc : CA M2 j a (.lst (xs.map fun x => D.py (f x)))) (hl : xs.length ≤ 1000000)
    (hs : ∀ x ∈ xs, SG W0 g (.py (f x)) (wipeE ρ vs) M2 fun ρ2 M3 => ST W0 t ρ2 M3 fun b M4 => M4 = M2 ∧ b = p x ∧ (p x = true → SE W0 te ρ2 M4 fun e M5 => e = .py (m x) ∧ M5 = M2))
    (k : K (dL ((xs.filter p).map m)) M2) : SE W0 (tLc (iAny Kf te0) g t te vs) ρ M K := by
  refine se_lcC hg h hc (by rw [List.length_map]; exact hl) (fun i acc => acc = (((xs.take i).filter p).map m).map D.py) rfl (fun i d acc hd ha e => ?_) (fun acc e => ?_)
  · subst e
    obtain ⟨x, hx, rfl⟩ := map_at hd
    intro G σ H F v Q r re o mx q
    refine hs x (List.mem_of_getElem? hx) G σ H F v Q r re o mx fun ρ2 M3 σ2 G2 H2 k2 e2 re2 o2 => q ρ2 M3 σ2 G2 H2 ?_ e2 re2 o2
    refine k2.imp fun b M4 ⟨e1, e2, e3⟩ => ⟨e1, ?_⟩
    subst e2
    rw [take_snoc' hx, List.filter_append]
    refine ⟨fun hp => (e3 hp).imp fun e M5 ⟨a1, a2⟩ => ⟨a2, ?_⟩, fun hp => ?_⟩
    · rw [a1, List.filter_cons_of_pos hp, List.map_append, List.map_append]
      rfl
    · rw [List.filter_cons_of_neg (by rw [hp]; decide), List.filter_nil, List.append_nil]
  · subst e
    rw [List.length_map, List.take_length]
    exact .inl ⟨_, rfl, k⟩
end
theorem eqv_nil (ps : List PyData) : PyData.eqv (.list ps) (.list []) = decide (ps = []) := by
  cases ps with
  | nil => simp [PyData.eqv, PyData.eqvAll]
  | cons p ps => simp [PyData.eqv, PyData.eqvAll]
theorem shaped_list {ps : List PyData} (h : ∀ p ∈ ps, p.canLay0 = true ∧ p.depth ≤ 10) : PySem.SeqAt.shaped (.list ps) = true := by
  have h1 : PyData.canLayAll0 ps = true ∧ PyData.depthAll ps ≤ 10 := by
    induction ps with
    | nil => exact ⟨rfl, Nat.zero_le _⟩
    | cons p ps ih =>
      obtain ⟨a1, a2⟩ := h p List.mem_cons_self
      obtain ⟨b1, b2⟩ := ih fun q hq => h q (List.mem_cons_of_mem _ hq)
      refine ⟨by rw [PyData.canLayAll0, a1, b1]; rfl, ?_⟩
      rw [PyData.depthAll]
      omega
  unfold PySem.SeqAt.shaped
  rw [PyData.canLay0, h1.1, PyData.depth, Bool.true_and]
  exact decide_eq_true (by omega)
section
variable {M : Cells} {K : D → Cells → Prop} {Kf : PySem.W.Frag}
theorem se_lst0 {W : WD} {ρ : Rho} (k : K (dL []) M) : SE W (tLst tNil) ρ M K := se_lst (sa_nil (unp rfl (by decide) k))
theorem or_eqNil {ps : List PyData} (h : ∀ p ∈ ps, p.canLay0 = true ∧ p.depth ≤ 10) (k : K (dB (decide (ps = []))) M) : OR (rEqA Kf) (dL ps) (dL []) M K := or_eqAD (shaped_list h) rfl (by rw [eqv_nil]; exact k)
theorem or_neNil {ps : List PyData} (h : ∀ p ∈ ps, p.canLay0 = true ∧ p.depth ≤ 10) (k : K (dB (!decide (ps = []))) M) : OR (rNeA Kf) (dL ps) (dL []) M K := or_neAD (shaped_list h) rfl (by rw [eqv_nil]; exact k)
end
theorem strOk_mk {l : List Nat} (h : ∀ c ∈ l, c < 0x110000) : PyData.strOk (mkS l) = true := by
  unfold PyData.strOk mkS
  rw [Array.all_eq_true_iff_forall_mem]
  intro c hc
  exact decide_eq_true (h c (by simpa using hc))
end PL

/-! PL12: what is never come to; an item changed by an operation. -/
namespace PL
open PySem PySem.Spec L2
def tNever : TS := fun _ _ _ => False
theorem ps_never {X : Cx} {st : Stmt} : PS X st tNever := ⟨fun _ _ _ _ _ _ h => h.elim⟩
def teNever : TE := fun _ _ _ => False
theorem pe_never {X : Cx} {e : Expr} : PE X e teNever := ⟨fun _ _ _ _ _ _ h => h.elim⟩
def rGetL : V → V → Hp → VK → Prop := fun o i H Q => ∃ p xs k v, o = .ref p ∧ i = .int k ∧ H p = some (.lst xs) ∧ 0 ≤ k ∧ atI xs k = some v ∧ Q v H
theorem get_list {X : Cx} : PGet X rGetL := by
  intro pins s σ H o i ov iv Q I ro ri h
  obtain ⟨p, xs, k, z, rfl, rfl, hp, h0, he, q⟩ := h
  cases ro
  obtain ⟨t, rfl⟩ := ri
  obtain ⟨its, r, pl, hz⟩ := I.list (SqL.of hp)
  obtain ⟨j, h1, h2, h3, h4, h5⟩ := atI_get he
  obtain ⟨w, ew, rw'⟩ := r.get h2
  have hl := r.length
  have hn := line63
  have hj : k.toNat = j := by
    rw [seqIndex_of h0 h5] at h1
    exact Option.some.inj h1
  exact wpAny_getItem_list pl.isList h0 (by omega) (by rw [hj]; simpa using ew) ⟨z, H, I, rw', q⟩
section
variable {W : WD} {ρ : Rho} {M : Cells} {P : PD}
/-- xs[i] op= e, xs an owned list -/
theorem ss_augL {to ti te : TE} {f : Int → Int → Int} (h : SE W to ρ M fun x M1 => SE W ti ρ M1 fun y M2 => ∃ i p ds k a, x = dR p ∧ y = dI k ∧ CA M2 i p (.lst ds) ∧ 0 ≤ k ∧ atI ds k = some (dI a) ∧ SE W te ρ M2 fun d M3 => IsI d fun b => ∃ ds' j, CA M3 i p (.lst ds') ∧ ixN ds'.length k = some j ∧ P.nx ρ (M3.set i (p, .lst (ds'.set j (dI (f a b)))))) :
    SS W (tAugS to ti te rGetL (ipI f) rSetL) ρ M P := fun G σ H F D re o mx md =>
  h G σ H F _ re o mx fun x M1 v G1 H1 k1 e1 r1 o1 => k1 G1 σ H1 F _ (re.mono e1) o1 (mx.mono e1) fun y M2 u G2 H2 ⟨i, p, ds, k, a, ex, ey, hc, h0, ha, k2⟩ e2 r2 o2 => by
    subst ex
    subst ey
    cases r1
    cases int_of r2
    obtain ⟨vs, hv, rr⟩ := o2.at hc
    obtain ⟨z, hz, rz⟩ := all2_len rr ha
    cases int_of rz
    have e12 := e1.trans e2
    refine ⟨p, vs, k, .int a, rfl, rfl, hv, h0, hz, k2 G2 σ H2 F _ (re.mono e12) o2 (mx.mono e12) fun d M3 w G3 H3 ⟨b, eb, ds', j, hc3, hj, kk⟩ e3 r3 o3 => ?_⟩
    subst eb
    cases int_of r3
    obtain ⟨vs3, hv3, rr3⟩ := o3.at hc3
    refine ⟨a, b, rfl, rfl, p, vs3, k, j, rfl, rfl, hv3, by rw [All2.length rr3]; exact hj, md.nx ρ _ σ G3 _ kk (e12.trans e3) (re.mono (e12.trans e3)) (o3.store hc3 ⟨_, upd_same, All2.set (R := RD G3) (b := dI (f a b)) (Rp.int _) j rr3⟩)⟩
end
end PL

/-! PLG: defs' promises where what is being shown (repr) is known to be nothing: FnG beside FnOk. -/
namespace PL
open PySem PySem.Spec L2
open PyProof.Rows (envOfC)
structure FnG (P : Program) (w : World) (K : PySem.W.Frag) (mg : Str → Option Value) (base : Heap) (CX : CXT) (k : Nat) (f : Addr) (fd : FuncData) (ps : List Str) (sp : Sp) : Prop where
  len : ∀ vs H Q E, sp vs H Q E → vs.length = ps.length
  run : ∀ (A : Around) (outer : List PySem.Env) (s : Shared) (H : Hp) (args : Args) (us : List Value) (vs : List V) (Q : VK) (E : XK), Room k A → A.guards = some [] → Env0 P w K mg base A outer s H → BindsTo s fd args (ps.zip us) →
    Vals vs us → sp vs H Q E → codeAny (model P w) A (.call (.ref f) args) (L2.CR CX outer P w H s Q E) s
section
variable {P : Program} {w : World} {K : PySem.W.Frag} {mg : Str → Option Value} {base : Heap} {CX : CXT} {k : Nat} {f : Addr} {fd : FuncData} {ps : List Str} {sp : Sp}
theorem FnG.imp {sp' : Sp} (F : FnG P w K mg base CX k f fd ps sp) (h : ∀ vs H Q E, sp' vs H Q E → sp vs H Q E) : FnG P w K mg base CX k f fd ps sp' where
  len := fun vs H Q E q => F.len vs H Q E (h _ _ _ _ q)
  run := fun A outer s H args us vs Q E a b c d e q => F.run A outer s H args us vs Q E a b c d e (h _ _ _ _ q)
theorem FnG.of (F : FnOk P w K mg base CX k f fd ps sp) : FnG P w K mg base CX k f fd ps sp where
  len := F.len
  run := fun A outer s H args us vs Q E a _ c d e q => F.run A outer s H args us vs Q E a c d e q
/-- a def by its body, the guards known -/
theorem fnG_of {name qual : Str} {params : Arguments} {body : List Stmt} {scope : Scope} {dV kV doc pm cdv ct oc : Value} {an od : Option Addr} {osl : Array (Option Value)} {N : List Str}
    (lk : K.lookup f = some ⟨oc, od, .func (PySem.W.fnOf name qual params body scope dV kV doc pm an cdv ct), osl⟩) (hcd : PySem.W.codeIn K cdv qual = true) (S : FnScope N ps scope)
    (len : ∀ vs H Q E, sp vs H Q E → vs.length = ps.length)
    (hbody : ∀ (A : Around) (outer : List PySem.Env) (s : Shared) (H : Hp) (vs : List V) (Q : VK) (E : XK), Room k (A.deeper (envOfC qual scope s.heap.objs.size f cdv)) → (A.deeper (envOfC qual scope s.heap.objs.size f cdv)).guards = some [] → sp vs H Q E →
      ∃ t, PSs (cxOf CX P w K mg base N qual scope f cdv A outer s H E) body t ∧ t { nx := fun _ H' => Q .non H', rt := Q } (L2.start N vs) H) :
    FnG P w K mg base CX (k + 1) f (PySem.W.fnOf name qual params body scope dV kV doc pm an cdv ct) ps sp := by
  constructor
  · exact len
  intro A outer s H args us vs Q E hr hgd e0 hb r hsp
  have keep : ∀ b o, base.get? b = some o → s.heap.get? b = some o := fun b o e => (e0.bs b o e).1
  have hl := len _ _ _ _ hsp
  have KX : K.In s.heap := e0.mod.kin.keeps keep
  refine codeAny_call_function hr.depth (KX _ _ lk) rfl S.co S.gen rfl (PySem.W.codeRec_of KX hcd) (hb _ _ _ _ ?_)
  refine wpAny_newFunctionEnv_cells S.kind (fun y hy => ?_) fun env he s1 x => ?_
  · obtain ⟨n, v⟩ := y
    rcases S.par n (List.of_mem_zip hy).1 with q | q
    · exact .inl q
    · exact .inr ⟨q, PySem.W.cellsFrom_some _ _ _ (.inl q)⟩
  cases he
  refine ⟨(e0.mod.nolimit.keeps keep).keeps x.toInCall.keep, codeAny_func ?_⟩
  obtain ⟨t, ht, hq⟩ := hbody A outer s H vs Q E (hr.deeper _) hgd hsp
  have I := inv_start (CX := CX) (E := E) S hr.hd e0 hl r x
  refine wpAny_mono (ht.run [] s1 (L2.start N vs) H _ I hq) (fun fl s' hs => ?_) fun e s' hs => hs
  cases fl with
  | brk => exact hs.elim fun _ z => z.elim fun _ z => z.2.elim
  | cont => exact hs.elim fun _ z => z.elim fun _ z => z.2.elim
  | ret u =>
    obtain ⟨v, σ', H', J, rv, q⟩ := hs
    exact ⟨v, H', J.os, J.bare, J.base, J.hok, rv, q⟩
  | next =>
    obtain ⟨σ', H', J, q⟩ := hs
    exact ⟨V.non, H', J.os, J.bare, J.base, J.hok, rfl, q⟩
theorem fnG_ok {x qual : Str} {st : Stmt} {N : List Str} {s : DSp} (F : Fun K x qual st f fd) (S : FnScope N ps (defScope st)) (hl : ∀ ds M K KX, s ds M K KX → ds.length = ps.length)
    (hb : ∀ (cdv : Value) (A : Around) (outer : List PySem.Env) (s0 : Shared) (H : Hp) (E : XK), Room k (A.deeper (envOfC qual (defScope st) s0.heap.objs.size f cdv)) → (A.deeper (envOfC qual (defScope st) s0.heap.objs.size f cdv)).guards = some [] →
      ∃ t, PSs (cxOf CX0 P w K mg base N qual (defScope st) f cdv A outer s0 H E).nox (defBody st) t ∧
        ∀ (ds : List D) (M : Cells) (Kd : D → Cells → Prop) (KX : XD → Cells → Prop), s ds M Kd KX → SS W0 t (ds.map some ++ List.replicate (N.length - ps.length) none) M (PFn M.length Kd)) :
    FnG P w K mg base CX0 (k + 1) f fd ps (spD s) := by
  have hlen : ∀ vs H Q E, spD s vs H Q E → vs.length = ps.length := fun vs H Q E ⟨G, ds, M, F, Kd, KX, o, r, h, _, _⟩ => by
    rw [r.length]
    exact hl ds M Kd KX h
  obtain ⟨oc, od, kV, doc, pm, an, cdv, ct, osl, rfl, lk, hcd⟩ := F.ex
  refine fnG_of lk hcd S hlen fun A outer s0 H vs Q E hr hgd h => ?_
  obtain ⟨t, ht, hs⟩ := hb cdv A outer s0 H E hr hgd
  refine ⟨t, ht.nox, ?_⟩
  have hv := hlen vs H Q E h
  obtain ⟨G, ds, M, F, Kd, KX, o, r, h, q, qx⟩ := h
  unfold L2.start
  rw [hv]
  exact hs ds M Kd KX h G _ H F _ (REnv.start _ r) o matchX0 (MatchD.fn q)
end
section
variable {X : Cx} {CX : CXT} {k : Nat} {f C : Addr} {fd : FuncData} {ps ks : List Str} {sp : Sp} {dvs : List V} {ds : List Value} {E : XK} {x m : Str} {p pos apos : Pos} {e o : Expr} {es : List Expr} {ta : TE} {t tk : TA} {kws : List Keyword}
theorem goesG {pins : List (Addr × Obj)} {σ : St} {H : Hp} {s : Shared} {Q : VK} {args : Args} {us : List Value} {vs : List V} (F : FnG X.prog X.w X.K X.mg X.base CX k f fd ps sp) (hr : Room k X.A) (hgd : X.A.guards = some []) (hx : Passes CX X E)
    (I : Inv X pins σ H s) (hb : BindsTo s fd args (ps.zip us)) (r : Vals vs us) (h : sp vs H Q E) : wpAny (model X.prog X.w) X.A (call (.ref f) args.pos args.kw) (EP X pins σ Q) X.xe s := by
  refine wpAny_call (codeAny_mono (F.run X.A X.stack s H args us vs Q E hr hgd I.env0 hb r h) fun z s' hq => ?_)
  cases z with
  | error e => exact hx pins σ H s e s' I hq
  | ok fl =>
    cases fl with
    | ret u => exact I.after hq
    | next => exact hq.elim
    | brk => exact hq.elim
    | cont => exact hq.elim
theorem pe_callG (F : FnG X.prog X.w X.K X.mg X.base CX k f fd ps sp) (hr : Room k X.A) (hgd : X.A.guards = some []) (hg : Gl X x) (hm : X.mg x = some (.ref f)) (hk : PySem.W.keepIn X.K (.ref f) = true) (hb : Binds X.K fd ps ds) (hd : Vals dvs ds) (hx : Passes CX X E)
    (ha : PA X (e :: es) t) (hdb : (x == ("__debug__" : Str)) = false := by decide) (he : starEach (e :: es) X.env = (false, eval e X.env) :: starEach es X.env := by rfl) (hpl : (backTo pos (starEach es X.env)).any (·.1) = false := by rfl) :
    PE X (.Call (.Name x p) (e :: es) [] pos) (tCall sp dvs E t) := ⟨fun pins s σ H Q I h => wpAny_Call_Name_kw (ld_glob I hg hm (PySem.W.callWith_K (h₀ := X.base) I.ok.mod.kin hk (thn (ha.run pos pins s σ H _ I h) fun us s1 ⟨vs, H1, I1, r, q⟩ =>
      ⟨I1.kIn, by
        have r2 : Vals (vs ++ dvs) (us ++ ds) := r.append hd
        exact goesG (args := ⟨us, []⟩) F hr hgd hx I1 (hb s1 us I1.kIn (by rw [← r2.length]; exact F.len _ _ _ _ q)) r2 q⟩) he hpl) hdb)⟩
theorem pe_call0G (F : FnG X.prog X.w X.K X.mg X.base CX k f fd ps sp) (hr : Room k X.A) (hgd : X.A.guards = some []) (hg : Gl X x) (hm : X.mg x = some (.ref f)) (hk : PySem.W.keepIn X.K (.ref f) = true) (hb : Binds X.K fd ps ds) (hd : Vals dvs ds) (hx : Passes CX X E)
    (hdb : (x == ("__debug__" : Str)) = false := by decide) : PE X (.Call (.Name x p) [] [] pos) (tCall sp dvs E tNil) := ⟨fun pins s σ H Q I h => wpAny_Call_Name_kw (ld_glob I hg hm (PySem.W.callWith_K0 I.kIn hk (by
        have r2 : Vals ([] ++ dvs) ([] ++ ds) := Vals.append .nil hd
        exact goesG (args := ⟨[], []⟩) F hr hgd hx I (hb s [] I.kIn (by rw [← r2.length]; exact F.len _ _ _ _ h)) r2 h)) hdb)⟩
end
/-! ### the end -/
/-- an abstract heap in which the script alone is told -/
theorem script_env {P : Program} {w : World} {K : PySem.W.Frag} {mg mb : Str → Option Value} {a : Addr} {s₁ : Shared} {vs : List Value} {ns : List Int}
    (KX : K.In s₁.heap) (hns : s₁.heap.Ns mainGlobals mg) (hb : s₁.heap.Ns builtinsNs mb) (hbb : ∀ x : Str, x ≠ "__name__" → mb x = bootBuiltins x) (hlim : s₁.heap.NoLimit) (hg : s₁.gens = #[])
    (ha : s₁.heap.get? a = some { cls := .type "list", data := .seq vs.toArray }) (hi : PyProof.Rows.IntsAre vs ns) (hl : ns.length ≤ sizeLine) :
    ∃ H : Hp, Only H ∧ SqL K H a (ns.map V.int) ∧ K.In (hidT s₁.heap H) ∧ (hidT s₁.heap H).Ns mainGlobals mg ∧ Env0 P w K mg (hidT s₁.heap H) callerA [] s₁ H ∧
      ∀ (H' : Hp) (s' : Shared), Un (frs []) [] H H' s₁.heap s'.heap → HOk P w H' s'.heap → OldK s₁.heap s'.heap := by
  have rv := vals_ints hi
  have lenV := hi.length
  obtain ⟨H, hO, hS, hok, hA, hK⟩ : ∃ H : Hp, Only H ∧ SqL K H a (ns.map V.int) ∧ HOk P w H s₁.heap ∧ (∀ b, H b ≠ none → b = a) ∧ (H a ≠ none → K.lookup a = none) := by
    cases hk : K.lookup a with
    | some o =>
      obtain rfl : o = _ := Option.some.inj ((KX a o hk).symm.trans ha)
      exact ⟨fun _ => none, fun _ => .inl rfl, .inr ⟨_, vs.toArray, _, hk, rfl, rfl, rfl, by rw [List.size_toArray, lenV]; exact hl, by simpa using rv⟩, fun b u z => (by cases (show (none : Option HO) = some u from z)), fun b z => absurd rfl z, fun z => absurd rfl z⟩
    | none =>
      refine ⟨upd (fun _ => none) a (.frz { cls := .type "list", data := .seq vs.toArray } (.lst (ns.map V.int))), fun b => ?_, .inl (.inr ⟨_, upd_same⟩), fun b u z => ?_, fun b z => ?_, fun _ => rfl⟩
      · by_cases e : b = a
        · exact .inr ⟨_, _, by rw [e]; exact upd_same⟩
        · exact .inl (by rw [upd_ne e])
      · by_cases e : b = a
        · rw [e, upd_same] at z
          cases z
          rw [e]
          exact ⟨ha, by rw [List.length_map]; exact hl, vs, _, rv, ha⟩
        · rw [upd_ne e] at z
          cases z
      · exact Decidable.byContradiction fun e => z (by rw [upd_ne e])
  have old : ∀ {b : Addr} {o : Obj}, s₁.heap.get? b = some o → H b = none → (hidT s₁.heap H).get? b = some o := fun e n => hidT_get e n
  have dct : ∀ {b : Addr} {o : Obj} {es : Array DictEntry} {ep : Nat}, s₁.heap.get? b = some o → o.data = .dict es ep → H b = none := fun {b o es ep} e d => Decidable.byContradiction fun q => by
    rw [hA b q, ha] at e
    cases e
    exact nomatch (show Data.seq vs.toArray _ = Data.dict es ep from d)
  have nsK : ∀ {b : Addr} {m : Str → Option Value}, s₁.heap.Ns b m → (hidT s₁.heap H).Ns b m := fun ⟨o, es, ep, e, d, r⟩ => ⟨o, es, ep, old e (dct e d), d, r⟩
  have hKb : K.In (hidT s₁.heap H) := fun b o e => old (KX b o e) (Decidable.byContradiction fun q => by
    have e2 := hA b q
    rw [e2] at q e
    rw [hK q] at e
    cases e)
  obtain ⟨mc, c1, c2⟩ := hlim
  refine ⟨H, hO, hS, hKb, nsK hns, ⟨rfl, ⟨hKb, nsK hns, ⟨mb, nsK hb, hbb⟩, ⟨mc, nsK c1, c2⟩⟩, fun b o e => of_hidT e, Nat.le_of_eq (hidT_size _ _), trivial, fun b hb => (List.not_mem_nil hb).elim, hok, .of_eq hg⟩, fun H' s' un hok' => OldK.of_keep fun b o e => ?_⟩
  cases q : H b with
  | none => exact un.keep b o e q List.not_mem_nil List.not_mem_nil
  | some u =>
    rcases hO b with z | ⟨ob, xs, z⟩
    · rw [q] at z
      cases z
    · obtain ⟨e1, _⟩ := hok b _ z
      rw [e] at e1
      cases e1
      exact (hok' b _ (un.frzs b _ _ z)).1
theorem walk_ofG {l : PySem.W.OpenLaw} {n k : Nat} {q : Program} {loose : List Str} {XP : (Str → Option Value) → Heap → Prop} {YP : World → Heap → Prop} {d : DefRec} {K : Params → PySem.W.Frag} {CX : World → CXT} {sp : World → Sp} {x : Str}
    (hn : l.most = some n) (hn2 : n ≤ sizeLine) (hdf : d.params.defaults = []) (hr : Room k callerA)
    (hY : ∀ (w : World) (h : Heap), YP w h → (K w.params).In h)
    (F : ∀ (w : World) (mg : Str → Option Value) (fa : Addr) (h : Heap), (K w.params).In h → h.Ns mainGlobals mg → mg d.name = some (.ref fa) →
      ∃ fd : FuncData, (∀ (s : Shared) (u : Value), BindsTo s fd ⟨[u], []⟩ [(x, u)]) ∧
        ∀ base : Heap, (K w.params).In base → base.Ns mainGlobals mg → FnG l.prog w (K w.params) mg base (CX w) k fa fd [x] (sp w))
    (hsp : ∀ (w : World) (H : Hp) (a : Addr) (ns : List Int), ns.length ≤ n → Only H → SqL (K w.params) H a (ns.map V.int) → sp w [.ref a] H (fun v _ => v = .bl true) fun _ _ _ => False)
    (hCX : ∀ (w : World) (H : Hp) (s : Shared) (e : Value) (s' : Shared), CX w [] H s (fun _ _ _ => False) e s' → False) :
    PySem.W.WalkO q loose XP YP l.row.toRowW d [] (fun f vs => PySem.call f vs) := by
  refine Att.attach_call hn hdf fun w s₀ s₁ mg mb fa o pm cd doc a vs ns G Y ho hd hcd hmg hobj hints hlen hg => ?_
  have KX := hY w _ Y
  obtain ⟨fd, hb, hF⟩ := F w mg fa _ KX G.T.g hmg
  obtain ⟨H, hO, hS, b1, b2, e0, fin⟩ := script_env (P := l.prog) (w := w) KX G.T.g G.T.b G.T.builtins G.T.nolimit hg hobj hints (Nat.le_trans hlen hn2)
  refine codeAny_mono ((hF _ b1 b2).run callerA [] s₁ H ⟨[.ref a], []⟩ [.ref a] [.ref a] _ _ hr rfl e0 (hb s₁ (.ref a)) (.cons rfl .nil) (hsp w H a ns hlen hO hS)) fun r s' h => ?_
  cases r with
  | error e => exact (hCX w H s₁ e s' h).elim
  | ok fl =>
    cases fl with
    | next => exact h.elim
    | brk => exact h.elim
    | cont => exact h.elim
    | ret u =>
      obtain ⟨v, H', os, bare, un, hok', r', q⟩ := h
      cases (show v = .bl true from q)
      cases (show u = Value.bool true from r')
      exact ⟨rfl, fin H' s' un hok', os, bare⟩
end PL

/-! PL13: repr of data, list.index, join, keyword calls, calls for which cells are read as data. -/
namespace PL
open PySem PySem.Spec L2
open PyProof.Rows (envOfC)

/-! ### repr -/
def rReprD (K : PySem.W.Frag) : List V → Hp → VK → Prop := fun xs H Q => ∃ a d, xs = [.ref a] ∧ Dp K H (.ref a) d ∧ d.showable = true ∧ d.hasDict = false ∧ d.depth ≤ 40 ∧ d.shown.length ≤ sizeLine ∧ Q (.str d.shown) H
theorem call_reprD {X : Cx} (hgd : X.A.guards = some []) (hu : X.A.units + 64 < cLine) : CallR X (.builtin "repr") (rReprD X.K) := by
  intro pins s σ H xs us Q I r h
  obtain ⟨a, d, rfl, hd, hs, hn, hdp, hsz, q⟩ := h
  rw [Vals.ref1 r]
  obtain ⟨as, rr⟩ := Dp.reads I d _ (.ref a) hd rfl
  exact repr_of_reads' rr hs (PyData.noDict_hsm hn) hgd (by omega) (fun b o e => e) (fun h' u tk hk => ⟨.str d.shown, H, I.kept hk, ⟨u, rfl⟩, q⟩) hsz
theorem call_reprK {X : Cx} {K : PySem.W.Frag} (hgd : X.A.guards = some []) (hu : X.A.units + 64 < cLine) (hK : X.K = K := by rfl) : CallR X (.builtin "repr") (rReprD K) := hK ▸ call_reprD hgd hu
/-- what is shown without trouble -/
structure Shw (d : PyData) : Prop where
  a : d.showable = true
  b : d.hasDict = false
  c : d.depth ≤ 40
  d : d.shown.length ≤ sizeLine
section
variable {W : WD} {ρ : Rho} {M : Cells} {K : D → Cells → Prop} {KE : Rho → Cells → Prop} {ta tb te tc : TE} {P : PD} {Kf : PySem.W.Frag}
theorem cr_reprV {d : D} {ps : List PyData} (hv : LV M d (ps.map D.py)) (h : Shw (.list ps)) (k : K (dS (PyData.shown (.list ps))) M) : CR (rReprD Kf) [d] M K := fun G H F us Q r o q => by
  obtain ⟨v, rfl, rv⟩ := r.one
  obtain ⟨a, vs, rfl, ha, hr⟩ := hv.at rv o
  exact ⟨a, .list ps, rfl, .lst (SqL.of ha) (RpAll.dp (RpAll.mono o.ex (RDs.all hr))), h.a, h.b, h.c, h.d, q _ M _ G H k (Ex.refl G) (Rp.str _) o⟩
theorem cr_repr {ps : List PyData} (h : Shw (.list ps)) (k : K (dS (PyData.shown (.list ps))) M) : CR (rReprD Kf) [dL ps] M K := cr_reprV (.py ps) h k

/-! ### list.index -/
theorem ty_py {ps : List PyData} : ∀ (G H : Hp) (F : Cells) (u : V), RD G u (dL ps) → Own G (M ++ F) H → tyV Kf "list" u H := fun G H F u r o => by
  have r' : Rp G u (.list ps) := r
  cases r' with
  | lst ha hr => exact .inl ⟨rfl, _, .inl (.inl (o.ex _ _ ha))⟩
theorem br_index {ps : List PyData} {p z : PyData} {j : Nat} (f : flatP p = true) (hf : ps.all flatP = true) (hj : ps[j]? = some z) (he : PyData.eqv z p = true) (hl : ∀ m z', m < j → ps[m]? = some z' → PyData.eqv z' p = false) (k : K (dI (j : Int)) M) :
    BR (rIndex Kf) (dL ps) [.py p] M K := fun G H F u us Q r rs o q => by
  obtain ⟨v, rfl, rv⟩ := rs.one
  have r' : Rp G u (.list ps) := r
  cases r' with
  | lst ha hr =>
    obtain ⟨w, hw, rw'⟩ := hr.get hj
    have fz : flatP z = true := List.all_eq_true.mp hf z (List.mem_of_getElem? hj)
    refine ⟨_, _, v, j, w, rfl, rfl, SqL.of (o.ex _ _ ha), flat_rp rv f, flat_all hr hf, hw, by rw [eqV_rp rw' rv fz f]; exact he, fun m z' hm hz => ?_, q _ M _ G H k (Ex.refl G) (Rp.int _) o⟩
    obtain ⟨d, hd, rd⟩ := hr.getV hz
    rw [eqV_rp rd rv (List.all_eq_true.mp hf d (List.mem_of_getElem? hd)) f]
    exact hl m d hm hd

/-! ### join -/
theorem se_m1 {r : V → List V → Hp → VK → Prop} {to : TE} (h : SE W to ρ M fun x M1 => ∃ a, x = dS a ∧ SE W te ρ M1 fun y M2 => BR r (dS a) [y] M2 K) : SE W (tM1 r to te) ρ M K := fun G σ H F Q re o mx q =>
  h G σ H F _ re o mx fun x M1 u G1 H1 ⟨a, ex, k⟩ e1 r1 o1 => by
    subst ex
    cases str_of r1
    refine ⟨⟨a, rfl⟩, k G1 σ H1 F _ (re.mono e1) o1 (mx.mono e1) fun y M2 v G2 H2 k2 e2 r2 o2 => ?_⟩
    exact k2 G2 H2 F _ [v] Q (Rp.str _) (.cons r2 .nil) o2 (Fin.mono q (e1.trans e2))
theorem se_m0 {r : V → List V → Hp → VK → Prop} {to : TE} (h : SE W to ρ M fun x M1 => ∃ a, x = dS a ∧ BR r (dS a) [] M1 K) : SE W (tM0 r to) ρ M K := fun G σ H F Q re o mx q =>
  h G σ H F _ re o mx fun x M1 u G1 H1 ⟨a, ex, k⟩ e1 r1 o1 => by
    subst ex
    cases str_of r1
    exact ⟨⟨a, rfl⟩, k G1 H1 F _ [] Q (Rp.str _) .nil o1 (Fin.mono q e1)⟩
abbrev rJoin (K : PySem.W.Frag) : V → List V → Hp → VK → Prop := fun x xs H Q => ∃ a p, ∃ ys : List Str, x = .str a ∧ xs = [.ref p] ∧ (SqL K H p (ys.map V.str) ∨ SqT K H p (ys.map V.str)) ∧
      (ys.map (·.length)).sum + ys.length * a.length ≤ 16777216 ∧ Q (.str (Txt.join a ys)) H
theorem pe_joinK {X : Cx} {Kf : PySem.W.Frag} {o e : Expr} {to te : TE} {apos pos : Pos} (ho : PE X o to) (he : PE X e te) (hK : X.K = Kf := by rfl) (hs : starEach [e] X.env = [(false, eval e X.env)] := by rfl) (hbase : attributeBase o "join" X.env (eval o X.env) = eval o X.env := by rfl) (hline : (apos.endLine == pos.line) = true := by rfl) :
    PE X (.Call (.Attribute o "join" apos) [e] [] pos) (tM1 (rJoin Kf) to te) := hK ▸ pe_join ho he hs hbase hline
theorem br_join {a : Str} {ys : List Str} {d : D} (hv : LV M d ((ys.map PyData.str).map D.py)) (hl : (ys.map (·.length)).sum + ys.length * a.length ≤ 1000000) (k : K (dS (Txt.join a ys)) M) : BR (rJoin Kf) (dS a) [d] M K := fun G H F u us Q r rs o q => by
  obtain ⟨v, rfl, rv⟩ := rs.one
  obtain ⟨p, vs, rfl, hp, hr⟩ := hv.at rv o
  cases str_of r
  have := RpAll.strs (RDs.all hr)
  subst this
  exact ⟨a, p, ys, rfl, rfl, .inl (SqL.of hp), by omega, q _ M _ G H k (Ex.refl G) (Rp.str _) o⟩

/-! ### calls by keywords -/
/-- p values by places, q by keywords, put in the order that the places idx tell -/
def gP {α : Type} (p q : Nat) (idx : List Nat) (us ws : List α) : List α := if us.length = p ∧ ws.length = q then idx.filterMap ((us ++ ws)[·]?) else []
theorem all2_at {α β : Type} {R : α → β → Prop} : ∀ {as : List α} {bs : List β}, All2 R as bs → ∀ idx : List Nat, All2 R (idx.filterMap (as[·]?)) (idx.filterMap (bs[·]?))
  | _, _, _, [] => .nil
  | as, bs, h, i :: idx => by
    have ih := all2_at h idx
    by_cases hi : i < bs.length
    · have hi' : i < as.length := by rw [h.length]; exact hi
      obtain ⟨a, ha, hr⟩ := h.get (i := i) (b := bs[i]) (by simp [hi])
      rw [List.filterMap_cons_some (f := (as[·]?)) ha, List.filterMap_cons_some (f := (bs[·]?)) (b := bs[i]) (by simp [hi])]
      exact .cons hr ih
    · have hi' : ¬ i < as.length := by rw [h.length]; exact hi
      rw [List.filterMap_cons_none (f := (as[·]?)) (by simp; omega), List.filterMap_cons_none (f := (bs[·]?)) (by simp; omega)]
      exact ih
theorem all2_gP {α β : Type} {R : α → β → Prop} {p q : Nat} {idx : List Nat} {as as' : List α} {bs bs' : List β} (h : All2 R as bs) (h' : All2 R as' bs') : All2 R (gP p q idx as as') (gP p q idx bs bs') := by
  unfold gP
  rw [h.length, h'.length]
  split
  · exact all2_at (h.append h') idx
  · exact .nil
theorem vals_all2 {xs : List V} {us : List Value} (h : Vals xs us) : All2 RelV xs us := by
  induction h with
  | nil => exact .nil
  | cons a b ih => exact .cons a ih
theorem all2_vals {xs : List V} {us : List Value} (h : All2 RelV xs us) : Vals xs us := by
  induction h with
  | nil => exact .nil
  | cons a b ih => exact .cons a ih
theorem kb_mk {K : PySem.W.Frag} {fd : FuncData} {ps ks : List Str} {p : Nat} {idx : List Nat} (hps : ps ≠ []) (h : ∀ us ws : List Value, us.length = p → ws.length = ks.length → bindArgs fd ⟨us, ks.zip ws⟩ = pure (ps.zip (gP p ks.length idx us ws))) :
    KBinds K fd ps ks (gP p ks.length idx) (gP p ks.length idx) where
  to := fun s us ws _ hl => by
    by_cases e : us.length = p ∧ ws.length = ks.length
    · exact .of_eq (h us ws e.1 e.2)
    · unfold gP at hl
      rw [if_neg e] at hl
      exact absurd (List.length_eq_zero_iff.mp hl.symm) hps
  rel := fun r r' => all2_vals (all2_gP (vals_all2 r) (vals_all2 r'))
/-- f(k = v, ..), no argument by its place -/
theorem pe_callKw {X : Cx} {CX : CXT} {k : Nat} {f : Addr} {fd : FuncData} {ps ks : List Str} {sp : Sp} {E : XK} {x : Str} {p pos : Pos} {kws : List Keyword} {tk : TA} {g : List Value → List Value → List Value} {gV : List V → List V → List V}
    (F : FnOk X.prog X.w X.K X.mg X.base CX k f fd ps sp) (hr : Room k X.A) (hg : Gl X x) (hm : X.mg x = some (.ref f)) (hk : PySem.W.keepIn X.K (.ref f) = true) (hb : KBinds X.K fd ps ks g gV) (hx : Passes CX X E)
    (hkw : PK X kws tk) (hall : (backToKw pos (keywordEach kws X.env)).all (·.1.isSome) = true := by rfl) (hks : (backToKw pos (keywordEach kws X.env)).filterMap (·.1) = ks := by rfl)
    (hdb : (x == ("__debug__" : Str)) = false := by decide) (hpl : ((backTo pos (starEach [] X.env)).any (·.1) || (backToKw pos (keywordEach kws X.env)).any (·.1.isNone)) = false := by rfl) :
    PE X (.Call (.Name x p) [] kws pos) (tCallK sp gV E tNil tk) := ⟨fun pins s σ H Q I h => wpAny_Call_Name_kw (ld_glob I hg hm (PySem.W.callWith_KW0 (h₀ := X.base) I.ok.mod.kin hk hall (thn (hkw.run pos pins s σ H _ I h) fun ws s2 ⟨zs, H2, I2, rz, q2⟩ => ⟨I2.kIn, by
      rw [hks]
      exact run_fnk (us := []) F hr hb hx I2 .nil rz q2⟩) hpl) hdb)⟩
theorem se_callK (n : Nat) {s : DSp} {p q : Nat} {idx : List Nat} {t tk : TA} (h : SA W0 t ρ M fun ds M1 => SA W0 tk ρ M1 fun es M2 => s (gP p q idx ds es) (M2.take n) (fun d M' => K d (M' ++ M2.drop n)) fun _ _ => False) :
    SE W0 (tCallK (spD s) (gP p q idx) E0 t tk) ρ M K := fun G σ H F Q re o mx qq =>
  h G σ H F _ re o mx fun ds M1 vs G1 H1 k1 e1 r1 o1 => k1 G1 σ H1 F _ (re.mono e1) o1 (mx.mono e1) fun es M2 ws G2 H2 k2 e2 r2 o2 => by
    show spD s _ H2 Q E0
    rw [take_drop_app M2 F n] at o2
    refine ⟨G2, _, M2.take n, M2.drop n ++ F, _, _, o2, all2_gP (RDs.mono e2 r1) r2, k2, fun d M' v G' H' k e r o' => ?_, fun _ _ _ _ _ k => k.elim⟩
    rw [← List.append_assoc] at o'
    exact qq d _ v G' H' k ((e1.trans e2).trans e) r o'
end
/-- the same, what is shown known -/
theorem pe_callKG {X : Cx} {CX : CXT} {k : Nat} {f : Addr} {fd : FuncData} {ps ks : List Str} {sp : Sp} {E : XK} {x : Str} {p pos : Pos} {kws : List Keyword} {tk : TA} {g : List Value → List Value → List Value} {gV : List V → List V → List V}
    (F : FnG X.prog X.w X.K X.mg X.base CX k f fd ps sp) (hr : Room k X.A) (hgd : X.A.guards = some []) (hg : Gl X x) (hm : X.mg x = some (.ref f)) (hk : PySem.W.keepIn X.K (.ref f) = true) (hb : KBinds X.K fd ps ks g gV) (hx : Passes CX X E)
    (hkw : PK X kws tk) (hall : (backToKw pos (keywordEach kws X.env)).all (·.1.isSome) = true := by rfl) (hks : (backToKw pos (keywordEach kws X.env)).filterMap (·.1) = ks := by rfl)
    (hdb : (x == ("__debug__" : Str)) = false := by decide) (hpl : ((backTo pos (starEach [] X.env)).any (·.1) || (backToKw pos (keywordEach kws X.env)).any (·.1.isNone)) = false := by rfl) :
    PE X (.Call (.Name x p) [] kws pos) (tCallK sp gV E tNil tk) := ⟨fun pins s σ H Q I h => wpAny_Call_Name_kw (ld_glob I hg hm (PySem.W.callWith_KW0 (h₀ := X.base) I.ok.mod.kin hk hall (thn (hkw.run pos pins s σ H _ I h) fun ws s2 ⟨zs, H2, I2, rz, q2⟩ => ⟨I2.kIn, by
      rw [hks]
      have r2 := hb.rel .nil rz
      exact goesG (args := ⟨[], _⟩) F hr hgd hx I2 (hb.to s2 [] ws I2.kIn (by rw [← r2.length]; exact F.len _ _ _ _ q2)) r2 q2⟩) hpl) hdb)⟩

/-! ### cells read as data while a call lasts -/
mutual
def flatT : PyData → Bool
  | .tuple xs => flatTs xs
  | .list _ => false
  | .dict _ => false
  | _ => true
def flatTs : List PyData → Bool
  | [] => true
  | x :: xs => flatT x && flatTs xs
end
def flatD : D → Bool
  | .py p => flatT p
  | .raw _ => true
  | _ => false
def flatC : Cell → Bool
  | .lst ds => ds.all flatD
  | .ins _ fs => fs.all fun q => flatD q.2
  | .dK kvs => kvs.all fun q => flatD q.2
/-- tuples stay -/
def TupEx (G G' : Hp) : Prop := ∀ a xs, G a = some (.tup xs) → G' a = some (.tup xs)
mutual
theorem Rp.flat {G G' : Hp} (e : TupEx G G') : ∀ {v : V} {d : PyData}, Rp G v d → flatT d = true → Rp G' v d
  | _, _, .non, _ => .non
  | _, _, .bl b, _ => .bl b
  | _, _, .int i, _ => .int i
  | _, _, .str x, _ => .str x
  | _, _, .lst h r, f => by simp [flatT] at f
  | _, _, .tup h r, f => .tup (e _ _ h) (RpAll.flat e r (by simpa [flatT] using f))
theorem RpAll.flat {G G' : Hp} (e : TupEx G G') : ∀ {vs : List V} {ds : List PyData}, RpAll G vs ds → flatTs ds = true → RpAll G' vs ds
  | _, _, .nil, _ => .nil
  | _, _, .cons h r, f => .cons (Rp.flat e h (by simp only [flatTs, Bool.and_eq_true] at f; exact f.1)) (RpAll.flat e r (by simp only [flatTs, Bool.and_eq_true] at f; exact f.2))
end
theorem RD.flat {G G' : Hp} (e : TupEx G G') {v : V} {d : D} (h : RD G v d) (f : flatD d = true) : RD G' v d := by
  cases d with
  | py p => exact Rp.flat e h f
  | raw w => exact h
  | sq K xs => cases f
  | sqt K xs => cases f
theorem all2_flat {α β : Type} {R S : α → β → Prop} {p : β → Bool} (h : ∀ a b, p b = true → R a b → S a b) : ∀ {as : List α} {bs : List β}, All2 R as bs → bs.all p = true → All2 S as bs
  | _, _, .nil, _ => .nil
  | _, _, .cons a r, f => by
    simp only [List.all_cons, Bool.and_eq_true] at f
    exact .cons (h _ _ f.1 a) (all2_flat h r f.2)
theorem CellR.flat {G G' H : Hp} (e : TupEx G G') {a : Addr} {c : Cell} (h : CellR G H a c) (f : flatC c = true) : CellR G' H a c := by
  cases c with
  | lst _ => obtain ⟨vs, q, r⟩ := h; exact ⟨vs, q, all2_flat (p := flatD) (fun _ _ f r => RD.flat e r f) r f⟩
  | ins _ _ => obtain ⟨dx, vs, q, r⟩ := h; exact ⟨dx, vs, q, all2_flat (p := fun q : Str × D => flatD q.2) (fun _ _ f z => ⟨z.1, RD.flat e z.2 f⟩) r f⟩
  | dK _ => obtain ⟨vs, q, r⟩ := h; exact ⟨vs, q, all2_flat (p := fun q : Key × D => flatD q.2) (fun _ _ f z => ⟨z.1, RD.flat e z.2 f⟩) r f⟩
/-- ds' is ds, some cells of R told as data -/
def AsData (R : Cells) : List D → List D → Prop := All2 fun d d' => d' = d ∨ ∃ a ps, (a, Cell.lst (ps.map D.py)) ∈ R ∧ d = dR a ∧ d' = dL ps
theorem asd_nil {R : Cells} : AsData R [] [] := .nil
theorem asd_same {R : Cells} {d : D} {ds ds' : List D} (h : AsData R ds ds') : AsData R (d :: ds) (d :: ds') := .cons (.inl rfl) h
theorem asd_cell {R : Cells} (i : Nat) {a : Addr} {ps : List PyData} {ds ds' : List D} (hc : R[i]? = some (a, .lst (ps.map D.py))) (h : AsData R ds ds') : AsData R (dR a :: ds) (dL ps :: ds') := .cons (.inr ⟨a, ps, List.mem_of_getElem? hc, rfl, rfl⟩) h
open Classical in
theorem se_callF {W : WD} {ρ : Rho} {M : Cells} {K : D → Cells → Prop} (n : Nat) {s : DSp} {E : XK} {ta : TA} (h : SA W ta ρ M fun ds M1 => ∃ ds', AsData (M1.drop n) ds ds' ∧ s ds' (M1.take n) (fun d M' => flatD d = true ∧ (∀ c ∈ M', flatC c.2 = true) ∧ K d (M' ++ M1.drop n)) fun _ _ => False) :
    SE W (tCall (spD s) [] E ta) ρ M K := fun G σ H F Q re o mx q =>
  h G σ H F _ re o mx fun ds M1 vs G1 H1 ⟨ds', hd, k1⟩ e1 r1 o1 => by
    show spD s (vs ++ []) H1 Q E
    rw [List.append_nil]
    rw [take_drop_app M1 F n] at o1
    obtain ⟨R, hR⟩ : ∃ R, M1.drop n ++ F = R := ⟨_, rfl⟩
    rw [hR] at o1
    let Gc : Hp := fun x => if x ∈ R.map (·.1) then H1 x else G1 x
    have hfr : ∀ x, x ∈ R.map (·.1) → G1 x = none := fun x hx => by
      obtain ⟨c, hc, rfl⟩ := List.mem_map.mp hx
      exact o1.fr c (List.mem_append_right _ hc)
    have nd := o1.nd
    rw [List.map_append, List.nodup_append] at nd
    have eG : Ex G1 Gc := fun x u hx => by
      have : x ∉ R.map (·.1) := fun z => by rw [hfr x z] at hx; cases hx
      show (if x ∈ R.map (·.1) then H1 x else G1 x) = _
      rw [if_neg this]
      exact hx
    have eH : Ex Gc H1 := fun x u hx => by
      by_cases z : x ∈ R.map (·.1)
      · rw [show Gc x = H1 x from if_pos z] at hx
        exact hx
      · rw [show Gc x = G1 x from if_neg z] at hx
        exact o1.ex x u hx
    have oc : Own Gc (M1.take n ++ []) H1 := by
      rw [List.append_nil]
      refine ⟨eH, nd.1, fun p hp => ?_, fun p hp => (o1.ok p (List.mem_append_left _ hp)).mono eG rfl⟩
      have : p.1 ∉ R.map (·.1) := fun z => nd.2.2 p.1 (List.mem_map_of_mem hp) p.1 z rfl
      rw [show Gc p.1 = G1 p.1 from if_neg this]
      exact o1.fr p (List.mem_append_left _ hp)
    have rc : RDs Gc vs ds' := by
      have key : ∀ {vs : List V} {ds ds' : List D}, RDs G1 vs ds → AsData (M1.drop n) ds ds' → RDs Gc vs ds' := by
        intro vs ds ds' r
        induction r generalizing ds' with
        | nil =>
          intro hd
          cases hd
          exact .nil
        | cons a r ih =>
          intro hd
          cases hd with
          | cons b hd =>
            refine .cons ?_ (ih hd)
            rcases b with rfl | ⟨x, ps, hm, rfl, rfl⟩
            · exact a.mono eG
            · cases a
              have hm' : (x, Cell.lst (ps.map D.py)) ∈ R := by
                rw [← hR]
                exact List.mem_append_left _ hm
              obtain ⟨us, hu, ru⟩ := o1.ok _ (List.mem_append_right _ hm')
              refine Rp.lst (xs := us) ?_ ((RDs.all ru).mono eG)
              rw [show Gc x = H1 x from if_pos (List.mem_map_of_mem (f := (·.1)) hm')]
              exact hu
      exact key r1 hd
    refine ⟨Gc, ds', M1.take n, [], _, _, oc, rc, k1, fun d M' v G' H' ⟨fd, fc, k⟩ e r o' => ?_, fun _ _ _ _ _ k => k.elim⟩
    rw [List.append_nil] at o'
    let G2 : Hp := fun x => if x ∈ R.map (·.1) then none else G' x
    have e2 : Ex G1 G2 := fun x u hx => by
      have : x ∉ R.map (·.1) := fun z => by rw [hfr x z] at hx; cases hx
      show (if x ∈ R.map (·.1) then none else G' x) = _
      rw [if_neg this]
      exact e x u (eG x u hx)
    have known : ∀ c ∈ R, ∃ u, H1 c.1 = some u ∧ Gc c.1 = some u := fun c hc => by
      obtain ⟨u, hu⟩ := (o1.ok c (List.mem_append_right _ hc)).known
      exact ⟨u, hu, by rw [show Gc c.1 = H1 c.1 from if_pos (List.mem_map_of_mem hc)]; exact hu⟩
    have tx : TupEx G' G2 := fun a xs ha => by
      have : a ∉ R.map (·.1) := fun z => by
        obtain ⟨c, hc, rfl⟩ := List.mem_map.mp z
        obtain ⟨u, h1, h2⟩ := known c hc
        have h3 := e _ _ h2
        rw [ha] at h3
        cases h3
        have := o1.ok c (List.mem_append_right _ hc)
        obtain ⟨x, cc⟩ := c
        cases cc with
        | lst _ => obtain ⟨_, q, _⟩ := this; rw [h1] at q; cases q
        | ins _ _ => obtain ⟨_, _, q, _⟩ := this; rw [h1] at q; cases q
        | dK _ => obtain ⟨_, q, _⟩ := this; rw [h1] at q; cases q
      show (if a ∈ R.map (·.1) then none else G' a) = _
      rw [if_neg this]
      exact ha
    have o2 : Own G2 (M' ++ R) H' := by
      refine ⟨fun x u hx => ?_, ?_, fun p hp => ?_, fun p hp => ?_⟩
      · by_cases z : x ∈ R.map (·.1)
        · rw [show G2 x = none from if_pos z] at hx
          cases hx
        · rw [show G2 x = G' x from if_neg z] at hx
          exact o'.ex x u hx
      · rw [List.map_append, List.nodup_append]
        refine ⟨o'.nd, nd.2.1, fun a ha b hb eab => ?_⟩
        subst eab
        obtain ⟨c, hc, rfl⟩ := List.mem_map.mp hb
        obtain ⟨u, _, h2⟩ := known c hc
        obtain ⟨c', hc', ec⟩ := List.mem_map.mp ha
        have := o'.fr c' hc'
        rw [ec, e _ _ h2] at this
        cases this
      · by_cases z : p.1 ∈ R.map (·.1)
        · exact if_pos z
        · rcases List.mem_append.mp hp with hp | hp
          · rw [show G2 p.1 = G' p.1 from if_neg z]
            exact o'.fr p hp
          · exact absurd (List.mem_map_of_mem hp) z
      · rcases List.mem_append.mp hp with hp | hp
        · exact (o'.ok p hp).flat tx (fc p hp)
        · obtain ⟨u, h1, h2⟩ := known p hp
          exact (o1.ok p (List.mem_append_right _ hp)).mono e2 (by rw [h1]; exact o'.ex _ _ (e _ _ h2))
    rw [← hR, ← List.append_assoc] at o2
    exact q d _ v G2 H' k (e1.trans e2) (r.flat tx fd) o2
end PL

/-! PL14: cells that hold data: short rules. -/
namespace PL
open PySem PySem.Spec L2
abbrev Cl (ps : List PyData) : Cell := .lst (ps.map D.py)
theorem atI_nn {α : Type} {xs : List α} {i : Int} {x : α} (h0 : 0 ≤ i) (h : xs[i.toNat]? = some x) : atI xs i = some x := by
  have hlt := (List.getElem?_eq_some_iff.mp h).1
  unfold atI ixN
  rw [if_pos h0, if_pos (by omega)]
  exact h
theorem ixN_nn {n : Nat} {k : Int} (h0 : 0 ≤ k) (h : k.toNat < n) : ixN n k = some k.toNat := by
  unfold ixN
  rw [if_pos h0, if_pos (by omega)]
theorem ixN_last {n : Nat} (h : 0 < n) : ixN n (-1) = some (n - 1) := by
  unfold ixN
  rw [if_neg (by decide), if_pos (by omega)]
  congr 1
  omega
theorem atI_last {α : Type} {xs : List α} {x : α} (h : xs.getLast? = some x) : atI xs (-1) = some x := by
  rw [List.getLast?_eq_getElem?] at h
  have hlt := (List.getElem?_eq_some_iff.mp h).1
  unfold atI
  rw [ixN_last (by omega)]
  exact h
theorem cutP_tail {α : Type} (xs : List α) : cutP xs (some 1) none = xs.tail := by rw [cutP_from (by decide)]; cases xs <;> rfl
theorem cutP_m1 {α : Type} (xs : List α) : cutP xs none (some (-1)) = xs.dropLast := by
  unfold cutP
  have e : HT.sIx xs.length xs.length (some (-1)) = xs.length - 1 := by
    unfold HT.sIx
    simp
    omega
  have e0 : HT.sIx xs.length 0 none = 0 := rfl
  rw [e, e0, List.drop_zero, Nat.sub_zero, List.dropLast_eq_take]
section
variable {W : WD} {ρ : Rho} {M : Cells} {K : D → Cells → Prop} {KT : Bool → Cells → Prop} {KA : List D → Cells → Prop} {KE : Rho → Cells → Prop} {ta tb te tc to ti : TE} {t u : TT} {P : PD} {Kf : PySem.W.Frag} {g : TG} {α β : Type}

/-! ### items -/
theorem or_ixP (f : α → PyData) {xs : List α} {i : Int} {x : α} (h0 : 0 ≤ i) (hx : xs[i.toNat]? = some x) (k : K (.py (f x)) M) : OR (rIx Kf) (dL (xs.map f)) (dI i) M K := or_ix (by rw [PL.atI_map, atI_nn h0 hx]; rfl) k
theorem or_ixE (f : α → PyData) {xs : List α} {x : α} (hx : xs.getLast? = some x) (k : K (.py (f x)) M) : OR (rIx Kf) (dL (xs.map f)) (dI (-1)) M K := or_ix (by rw [PL.atI_map, atI_last hx]; rfl) k
theorem or_ixPC (j : Nat) {a : Addr} {ps : List PyData} {p : PyData} {i : Int} (hc : CA M j a (Cl ps)) (h0 : 0 ≤ i) (hx : ps[i.toNat]? = some p) (k : K (.py p) M) : OR (rIx Kf) (dR a) (dI i) M K := or_ixC j hc (by rw [PL.atI_map, atI_nn h0 hx]; rfl) k
theorem or_ixEC (j : Nat) {a : Addr} {ps : List PyData} {p : PyData} (hc : CA M j a (Cl ps)) (hx : ps.getLast? = some p) (k : K (.py p) M) : OR (rIx Kf) (dR a) (dI (-1)) M K := or_ixC j hc (by rw [PL.atI_map, atI_last hx]; rfl) k
theorem cr_lenP (j : Nat) {a : Addr} {ps : List PyData} (hc : CA M j a (Cl ps)) (k : K (dI ps.length) M) : CR (rLenA Kf) [dR a] M K := cr_lenC j hc (by rw [List.length_map]; exact k)
theorem cl_app (ps : List PyData) (q : PyData) : Cell.lst (ps.map D.py ++ [.py q]) = Cl (ps ++ [q]) := by unfold Cl; rw [List.map_append]; rfl
theorem cl_set (ps : List PyData) (i : Nat) (q : PyData) : Cell.lst ((ps.map D.py).set i (.py q)) = Cl (ps.set i q) := by unfold Cl; rw [List.map_set]
/-- found.append(e) -/
theorem ss_appP (j : Nat) {i : Nat} {p : Addr} {ta' : TE} (hi : ρ[i]? = some (some (dR p))) (hc0 : ∃ ds, CA M j p (.lst ds))
    (h : SE W ta' ρ M fun d M1 => ∃ ps q, d = .py q ∧ CA M1 j p (Cl ps) ∧ ps.length ≤ 1000000 ∧ P.nx ρ (M1.set j (p, Cl (ps ++ [q])))) :
    SS W (tDrop (tBM Kf "list" rAppend (tVar i) (tCons ta' tNil))) ρ M P :=
  ss_append j hi (h.imp fun d M1 ⟨ps, q, e, hc, hl, k⟩ => by
    subst e
    exact ⟨ps.map D.py, hc, by rw [List.length_map]; exact hl, by rw [cl_app]; exact k⟩) hc0
/-- xs[k] = e -/
theorem sg_setP {d : D} (h : SE W to ρ M fun x M1 => SE W ti ρ M1 fun y M2 => ∃ i p ps k q, x = dR p ∧ y = dI k ∧ d = .py q ∧ CA M2 i p (Cl ps) ∧ 0 ≤ k ∧ k.toNat < ps.length ∧ KE ρ (M2.set i (p, Cl (ps.set k.toNat q)))) :
    SG W (gSub to ti rSetL) d ρ M KE :=
  sg_setL (h.imp fun x M1 k0 => k0.imp fun y M2 ⟨i, p, ps, k, q, e1, e2, e3, hc, h0, hl, kk⟩ => by
    subst e3
    exact ⟨i, p, ps.map D.py, k, k.toNat, e1, e2, hc, ixN_nn h0 (by rw [List.length_map]; exact hl), by rw [cl_set]; exact kk⟩)
/-- xs[k] op= e -/
theorem ss_augP {f : Int → Int → Int} (h : SE W to ρ M fun x M1 => SE W ti ρ M1 fun y M2 => ∃ (i : Nat) (p : Addr) (ns : List Int) (k a : Int), x = dR p ∧ y = dI k ∧ CA M2 i p (Cl (ns.map PyData.int)) ∧ 0 ≤ k ∧ ns[k.toNat]? = some a ∧ SE W te ρ M2 fun d M3 => IsI d fun b => M3 = M2 ∧ P.nx ρ (M2.set i (p, Cl ((ns.set k.toNat (f a b)).map PyData.int)))) :
    SS W (tAugS to ti te rGetL (ipI f) rSetL) ρ M P :=
  ss_augL (h.imp fun x M1 k0 => k0.imp fun y M2 ⟨i, p, ns, k, a, e1, e2, hc, h0, ha, kk⟩ => by
    have hlt := (List.getElem?_eq_some_iff.mp ha).1
    refine ⟨i, p, _, k, a, e1, e2, hc, h0, by rw [PL.atI_map, PL.atI_map, atI_nn h0 ha]; rfl, kk.imp fun d M3 ⟨b, eb, e3, k3⟩ => ⟨b, eb, (ns.map PyData.int).map D.py, k.toNat, by rw [e3]; exact hc, ixN_nn h0 (by rw [List.length_map, List.length_map]; exact hlt), ?_⟩⟩
    rw [e3, show ((ns.map PyData.int).map D.py).set k.toNat (dI (f a b)) = ((ns.set k.toNat (f a b)).map PyData.int).map D.py by rw [List.map_set, List.map_set]]
    exact k3)

/-! ### built-in functions over lists, whose kind ever -/
theorem cr_allL {d : D} {bs : List Bool} (hv : LV M d ((bs.map PyData.bool).map D.py)) (k : K (dB (bs.all id)) M) : CR (rAll Kf) [d] M K := fun G H F us Q r o q => by
  obtain ⟨v, rfl, rv⟩ := r.one
  obtain ⟨a, vs, rfl, ha, hr⟩ := hv.at rv o
  have := RpAll.bools (RDs.all hr)
  subst this
  exact ⟨a, bs, rfl, SqL.of ha, q _ M _ G H k (Ex.refl G) (Rp.bl _) o⟩
/-- sorted(ints): rising, the same numbers -/
theorem cr_sortedC {d : D} {ns : List Int} (hv : LV M d ((ns.map PyData.int).map D.py)) (k : ∀ (ns' : List Int) (p : Addr), ns'.Perm ns → ns'.Pairwise (· ≤ ·) → K (dR p) (M ++ [(p, Cl (ns'.map PyData.int))])) : CR (rSortedI Kf) [d] M K := fun G H F us Q r o q => by
  obtain ⟨v, rfl, rv⟩ := r.one
  obtain ⟨a, vs, rfl, ha, hr⟩ := hv.at rv o
  have := RpAll.ints (RDs.all hr)
  subst this
  refine ⟨a, ns, rfl, SqL.of ha, fun ns' p h1 h2 hp => q (dR p) (M ++ [(p, Cl (ns'.map PyData.int))]) _ G _ (k ns' p h1 h2) (Ex.refl G) rfl (o.cell hp ⟨_, upd_same, RDs.of (RpAll.ofInts ns')⟩)⟩
/-- list(xs), a copy -/
theorem cr_listC {d : D} {ds : List D} (hv : LV M d ds) (k : ∀ p, K (dR p) (M ++ [(p, .lst ds)])) : CR (rListOf Kf) [d] M K := fun G H F us Q r o q => by
  obtain ⟨v, rfl, rv⟩ := r.one
  obtain ⟨a, vs, rfl, ha, hr⟩ := hv.at rv o
  exact ⟨a, vs, rfl, .inl (SqL.of ha), fun p hp => q (dR p) _ _ G _ (k p) (Ex.refl G) rfl (o.cell hp ⟨_, upd_same, hr⟩)⟩
theorem cr_listD {d : D} {ps : List PyData} (hv : LV M d (ps.map D.py)) (k : K (dL ps) M) : CR (rListOf Kf) [d] M K := fun G H F us Q r o q => by
  obtain ⟨v, rfl, rv⟩ := r.one
  obtain ⟨a, vs, rfl, ha, hr⟩ := hv.at rv o
  refine ⟨a, vs, rfl, .inl (SqL.of ha), fun p hp => ?_⟩
  obtain ⟨G', e, rd, o'⟩ := new_lst o hp (RDs.all hr)
  exact q (dL ps) M _ G' _ k e rd o'
/-- [..] * n, a list of one's own -/
theorem or_repC {d : D} {ps : List PyData} {k : Int} (hv : LV M d (ps.map D.py)) (h1 : -1000000 ≤ k) (h2 : k ≤ 1000000) (h3 : ps.length * k.toNat ≤ 1000000) (kk : ∀ p, K (dR p) (M ++ [(p, Cl (List.replicate k.toNat ps).flatten)])) : OR rMulA d (dI k) M K :=
  fun G H F u v Q r1 r2 o q => by
  cases int_of r2
  obtain ⟨a, vs, rfl, ha, hr⟩ := hv.at r1 o
  have r' := RDs.all hr
  exact .inr (.inr ⟨a, k, vs, rfl, rfl, ha, by omega, by omega, by rw [r'.length]; exact big_ok h3, fun p hp => q (dR p) _ _ G _ (kk p) (Ex.refl G) rfl (o.cell hp ⟨_, upd_same, RDs.of (rpAll_rep r' k.toNat)⟩)⟩)

/-! ### a cell that from now on stays as it is -/
theorem ss_frz (j i : Nat) {tt : TS} {p : Addr} {ps : List PyData} (hi : ρ[i]? = some (some (dR p))) (hj : M[j]? = some (p, Cl ps)) (h : SS W tt (ρ.set i (some (dL ps))) (M.eraseIdx j) P) : SS W tt ρ M P := fun G σ H F D re o mx md => by
  have hm : (p, Cl ps) ∈ M ++ F := List.mem_append_left _ (List.mem_of_getElem? hj)
  have hsub : List.Sublist (M.eraseIdx j ++ F) (M ++ F) := List.Sublist.append (List.eraseIdx_sublist M j) (List.Sublist.refl F)
  have hne : ∀ q ∈ M.eraseIdx j ++ F, q.1 ≠ p := by
    intro q hq e
    have hlt := (List.getElem?_eq_some_iff.mp hj).1
    have hs : M = M.take j ++ (p, Cl ps) :: M.drop (j + 1) := split_at hj
    have nd := o.nd
    rw [hs, List.append_assoc, List.cons_append, List.map_append, List.map_cons] at nd
    have hq' : q ∈ M.take j ∨ q ∈ M.drop (j + 1) ++ F := by
      rw [List.eraseIdx_eq_take_drop_succ, List.append_assoc] at hq
      exact List.mem_append.mp hq
    rw [List.nodup_append] at nd
    rcases hq' with z | z
    · exact nd.2.2 q.1 (List.mem_map_of_mem z) p List.mem_cons_self e
    · have := (List.nodup_cons.mp nd.2.1).1
      exact this (e ▸ List.mem_map_of_mem (f := (·.1)) z)
  obtain ⟨G', e, o', r'⟩ := o.freeze hm hsub hne
  obtain ⟨v, hv, rv⟩ := re.get hi
  cases rv
  have re2 := (re.mono e).set (v := .ref p) (d := dL ps) r' i
  rw [show σ.set i (some (.ref p)) = σ from by
    apply List.ext_getElem?
    intro j
    rw [List.getElem?_set]
    split
    · rename_i e
      subst e
      rw [hv, if_pos (List.getElem?_eq_some_iff.mp hv).1]
    · rfl] at re2
  exact h G' σ H F D re2 o' (mx.mono e) (md.mono e)
/-- a call's own list that is never changed -/
theorem se_frz (h : SE W te ρ M fun d M' => ∃ N p ps, d = dR p ∧ M' = N ++ [(p, Cl ps)] ∧ K (dL ps) N) : SE W te ρ M K := fun G σ H F Q re o mx q =>
  h G σ H F Q re o mx fun d M1 v G1 H1 ⟨N, p, ps, ed, eM, k⟩ e1 r1 o1 => by
    subst ed
    subst eM
    cases r1
    have nd := o1.nd
    have hne : ∀ q ∈ N ++ F, q.1 ≠ p := by
      intro q hq e
      rw [List.append_assoc, List.map_append, List.nodup_append] at nd
      rcases List.mem_append.mp hq with z | z
      · exact nd.2.2 q.1 (List.mem_map_of_mem z) p (by simp) e
      · have h2 := nd.2.1
        rw [List.map_append, List.nodup_append] at h2
        exact h2.2.2 p (by simp) q.1 (List.mem_map_of_mem z) e.symm
    obtain ⟨G', e, o', r'⟩ := o1.freeze (p := p) (ps := ps) (N := N ++ F) (by simp) (List.Sublist.append (List.sublist_append_left N _) (List.Sublist.refl F)) hne
    exact q (dL ps) N _ G' H1 k (e1.trans e) r' o'
end
section
variable {ρ : Rho} {M : Cells} {K : D → Cells → Prop} {Kf : PySem.W.Frag} {g : TG} {t : TT} {te te0 : TE} {wi : TI} {ta : TA} {vs : List Nat} {W : WD} {α β : Type}
theorem zip_at {xs : List α} {ys : List β} {i : Nat} {x : α} {y : β} (h1 : xs[i]? = some x) (h2 : ys[i]? = some y) : (xs.zip ys)[i]? = some (x, y) := by
  rw [List.getElem?_zip_eq_some]
  exact ⟨h1, h2⟩
theorem src_Z (f : α → PyData) (g : β → PyData) (xs : List α) (ys : List β) {M2 : Cells} (h : SA W ta ρ M fun ds M1 => ds = [dL (xs.map f), dL (ys.map g)] ∧ M1 = M2) : SI W (iZip Kf ta) ρ M (Src (xs.zip ys) (fun _ x => dT [f x.1, g x.2]) M2) :=
  si_zip (SA.imp h fun d M1 ⟨e, i0⟩ => ⟨_, _, e, by rw [List.length_zip, List.length_map, List.length_map], i0, fun i d _ ⟨p, q, hp, hq, e⟩ => by
    obtain ⟨o, ho, rfl⟩ := map_at hp
    obtain ⟨o', ho', rfl⟩ := map_at hq
    exact ⟨(o, o'), zip_at ho ho', e⟩, fun _ => trivial⟩)
/-- comprehensions that make a list of one's own -/
theorem se_lcMc {xs : List α} {f : Nat → α → D} {M2 : Cells} (m : α → PyData) (hg : GOk g vs) (h : SI W0 wi ρ M (Src xs f M2)) (hl : xs.length ≤ 1000000)
    (hs : ∀ pre x post, xs = pre ++ x :: post → SG W0 g (f pre.length x) (wipeE ρ vs) M2 fun ρ2 M3 => SE W0 te ρ2 M3 fun e M5 => e = .py (m x) ∧ M5 = M2 ∧ M3 = M2)
    (k : ∀ p, K (dR p) (M2 ++ [(p, Cl (xs.map m))])) : SE W0 (tLc wi g tYes te vs) ρ M K := by
  refine se_lcI hg h hl (fun pre acc M' => acc = (pre.map m).map D.py ∧ M' = M2) ⟨rfl, rfl⟩ ?_ ?_
  · rintro pre x post acc M' hx ha ⟨rfl, rfl⟩ G σ H F v Q r re o mx q
    refine hs pre x post hx G σ H F v Q r re o mx fun ρ2 M3 σ2 G2 H2 k2 e2 re2 o2 => q ρ2 M3 σ2 G2 H2 ?_ e2 re2 o2
    refine st_yes (br_T rfl (k2.imp fun e M5 ⟨a1, a2, a3⟩ => ?_))
    subst a1
    subst a2
    refine ⟨?_, rfl⟩
    rw [List.map_append, List.map_append]
    rfl
  · rintro acc M' ⟨rfl, rfl⟩
    exact .inr k
theorem se_lcFc {xs : List α} {f : Nat → α → D} {M2 : Cells} (p : α → Bool) (m : α → PyData) (hg : GOk g vs) (h : SI W0 wi ρ M (Src xs f M2)) (hl : xs.length ≤ 1000000)
    (hs : ∀ pre x post, xs = pre ++ x :: post → SG W0 g (f pre.length x) (wipeE ρ vs) M2 fun ρ2 M3 => ST W0 t ρ2 M3 fun b M4 => M4 = M2 ∧ b = p x ∧ (p x = true → SE W0 te ρ2 M4 fun e M5 => e = .py (m x) ∧ M5 = M2))
    (k : ∀ q, K (dR q) (M2 ++ [(q, Cl ((xs.filter p).map m))])) : SE W0 (tLc wi g t te vs) ρ M K := by
  refine se_lcI hg h hl (fun pre acc M' => acc = ((pre.filter p).map m).map D.py ∧ M' = M2) ⟨rfl, rfl⟩ ?_ ?_
  · rintro pre x post acc M' hx ha ⟨rfl, rfl⟩ G σ H F v Q r re o mx q
    refine hs pre x post hx G σ H F v Q r re o mx fun ρ2 M3 σ2 G2 H2 k2 e2 re2 o2 => q ρ2 M3 σ2 G2 H2 ?_ e2 re2 o2
    refine k2.imp fun b M4 ⟨e1, e2, e3⟩ => ?_
    subst e1
    subst e2
    refine ⟨fun hp => (e3 hp).imp fun e M5 ⟨a1, a2⟩ => ?_, fun hp => ?_⟩
    · subst a1
      subst a2
      refine ⟨?_, rfl⟩
      rw [List.filter_append, List.filter_cons_of_pos hp, List.map_append, List.map_append]
      rfl
    · refine ⟨?_, rfl⟩
      rw [List.filter_append, List.filter_cons_of_neg (by rw [hp]; decide), List.filter_nil, List.append_nil]
  · rintro acc M' ⟨rfl, rfl⟩
    exact .inr k
end
end PL

/-! PL15: enumerate told with its places, texts joined. -/
namespace PL
open PySem PySem.Spec L2
section
variable {ρ : Rho} {M : Cells} {K : D → Cells → Prop} {Kf : PySem.W.Frag} {g : TG} {t : TT} {te te0 : TE} {wi : TI} {ta tk : TA} {vs : List Nat} {W : WD} {α β : Type}
theorem zipIdx_at {xs : List α} {i k : Nat} {x : α} (h : xs[i]? = some x) : (xs.zipIdx k)[i]? = some (x, k + i) := by rw [List.getElem?_zipIdx, h]; rfl
theorem src_Ei (f : α → PyData) (xs : List α) {M2 : Cells} (h : SA W ta ρ M fun ds M1 => ds = [dL (xs.map f)] ∧ M1 = M2) : SI W (iEnumA Kf ta) ρ M (Src xs.zipIdx (fun _ x => dT [.int (x.2 : Int), f x.1]) M2) :=
  si_enumAL (si_enum (SA.imp h fun d M1 ⟨e, i0⟩ => ⟨_, e, by rw [List.length_zipIdx, List.length_map], i0, fun i d _ ⟨p, hp, e⟩ => by
    obtain ⟨o, ho, rfl⟩ := map_at hp
    exact ⟨(o, 0 + i), zipIdx_at ho, by rw [Nat.zero_add]; exact e⟩, fun _ => trivial⟩))
theorem src_ESi (l : List Nat) {M2 : Cells} (h : SA W ta ρ M fun ds M1 => ds = [dS (mkS l)] ∧ M1 = M2) : SI W (iEnumA Kf ta) ρ M (Src l.zipIdx (fun _ x => dT [.int (x.2 : Int), .str (ofC x.1)]) M2) :=
  si_enumAS (si_enumS (SA.imp h fun d M1 ⟨e, i0⟩ => ⟨_, e, by rw [List.length_zipIdx]; exact mkS_len l, i0, fun i d _ ⟨c, hc, e⟩ => ⟨(c, 0 + i), zipIdx_at (by simpa [mkS] using hc), by rw [Nat.zero_add]; exact e⟩, fun _ => trivial⟩))
theorem zipIdx_split {xs : List α} {k : Nat} {pre post : List (α × Nat)} {x : α} {i : Nat} (h : xs.zipIdx k = pre ++ (x, i) :: post) : i = k + pre.length ∧ xs[pre.length]? = some x := by
  have h1 : (xs.zipIdx k)[pre.length]? = some (x, i) := by rw [h]; simp
  rw [List.getElem?_zipIdx] at h1
  obtain ⟨y, hy, e⟩ := Option.map_eq_some_iff.mp h1
  injection e with e1 e2
  subst e1
  exact ⟨e2.symm, hy⟩
end
/-- texts of signs, joined -/
def joinN (a : List Nat) : List (List Nat) → List Nat
  | [] => []
  | [x] => x
  | x :: y :: r => x ++ a ++ joinN a (y :: r)
theorem join_mkS (a : List Nat) (ys : List (List Nat)) : Txt.join (mkS a) (ys.map mkS) = mkS (joinN a ys) := by
  rw [TL.join_eq]
  induction ys with
  | nil => rfl
  | cons x r ih =>
    cases r with
    | nil => rfl
    | cons y r =>
      show mkS x ++ mkS a ++ Str.join (mkS a) ((y :: r).map mkS) = _
      rw [ih, mkS_app, mkS_app, joinN]
theorem joinN_nil : ∀ ys : List (List Nat), joinN [] ys = ys.flatten
  | [] => rfl
  | [x] => by simp [joinN]
  | x :: y :: r => by rw [joinN, joinN_nil (y :: r)]; simp
theorem lens_mkS (ys : List (List Nat)) : (ys.map fun x => (mkS x).length).sum = (ys.map (·.length)).sum := by simp [mkS_len]
section
variable {M : Cells} {K : D → Cells → Prop} {Kf : PySem.W.Frag}
theorem br_joinZ {a : List Nat} {ys : List (List Nat)} {d : D} (hv : LV M d ((ys.map fun x => PyData.str (mkS x)).map D.py)) (hl : (ys.map (·.length)).sum + ys.length * a.length ≤ 1000000) (k : K (dS (mkS (joinN a ys))) M) : BR (rJoin Kf) (dS (mkS a)) [d] M K := by
  have e : ys.map (fun x => PyData.str (mkS x)) = (ys.map mkS).map PyData.str := by rw [List.map_map]; rfl
  rw [e] at hv
  refine br_join hv ?_ (by rw [join_mkS]; exact k)
  rw [List.map_map, List.length_map, mkS_len]
  show (ys.map fun x => (mkS x).length).sum + _ ≤ _
  rw [lens_mkS]
  exact hl
end
theorem emp_mkS : Str.ofString "" = mkS [] := by decide +kernel
end PL

/-! PL16: zip of lists and of tuples; isinstance with several classes. -/
namespace PL
open PySem PySem.Spec L2 RZ
theorem pi_zipAK {X : Cx} {K : PySem.W.Frag} {e e2 : Expr} {ta : TA} {p pos tpos : Pos} {elts : List Expr} {kk : Nat} (hg : Gl X "zip") (hm : X.mg "zip" = none) (ha : PA X [e, e2] ta) (hK : X.K = K := by rfl) (hs : starEach [e, e2] X.env = (false, eval e X.env) :: starEach [e2] X.env := by rfl) (hpl : (backTo pos (starEach [e2] X.env)).any (·.1) = false := by rfl) :
    PI X (.Tuple elts kk tpos) (.Call (.Name "zip" p) [e, e2] [] pos) (iZipA K ta) := hK ▸ pi_zipA hg hm ha hs hpl
section
variable {ρ : Rho} {M : Cells} {K : D → Cells → Prop} {Kf : PySem.W.Frag} {g : TG} {t : TT} {te te0 : TE} {wi : TI} {ta tk : TA} {vs : List Nat} {W : WD} {α β : Type}
theorem walk_zipT' {a b : Addr} {xs ys : List V} {n : Nat} (hn : n = min xs.length ys.length) : Walk (ItzT Kf a b) n (fun H => SqT Kf H a xs ∧ SqT Kf H b ys) (YPair (fun i => xs[i]?) (fun i => ys[i]?)) := by
  subst hn
  refine ⟨fun i _ hi q => ?_, fun _ q => ⟨xs, ys, q.1, q.2, by omega⟩, fun i H v H' _ q y => ?_⟩
  · have h1 : i < xs.length := by omega
    have h2 : i < ys.length := by omega
    exact ⟨xs, ys, xs[i], ys[i], q.1, q.2, by simp [h1], by simp [h2]⟩
  · obtain ⟨T, x, z, h1, h2, h3, h4, h5⟩ := y
    exact ⟨T, x, z, h1, h2, h3, h4 xs q.1, h5 ys q.2⟩
theorem si_zipAT {R : Nat → (Nat → D → Prop) → (Cells → Prop) → Cells → Prop} (h : SA W ta ρ M fun ds M1 => ∃ ps qs, ds = [dT ps, dT qs] ∧ R (min ps.length qs.length) (fun i d => ∃ p q, ps[i]? = some p ∧ qs[i]? = some q ∧ d = dT [p, q]) (fun _ => True) M1) : SI W (iZipA Kf ta) ρ M R := fun G σ H F Q re o mx q =>
  h G σ H F _ re o mx fun ds M1 vs G1 H1 ⟨ps, qs, ed, k⟩ e1 r1 o1 => by
    subst ed
    obtain ⟨v, w, rfl, ra, rb⟩ := r1.two
    have ra' : Rp G1 v (.tuple ps) := ra
    have rb' : Rp G1 w (.tuple qs) := rb
    cases ra' with
    | tup ha r =>
      cases rb' with
      | tup hb r' =>
        refine ⟨_, _, _, _, rfl, .inr ⟨SqT.of (o1.ex _ _ ha), SqT.of (o1.ex _ _ hb), q _ _ _ M1 G1 H1 _ k e1 o1 ⟨fun H => SqT Kf H _ _ ∧ SqT Kf H _ _, _, walk_zipT' (by rw [r.length, r'.length]), fun _ G' M H e o _ => ⟨SqT.of (o.ex _ _ (e _ _ ha)), SqT.of (o.ex _ _ (e _ _ hb))⟩, ?_⟩⟩⟩
        rintro F' i G' M' H' x H2 hi e o' _ ⟨T, y, z, rfl, hT, rfl, hy, hz⟩
        obtain ⟨p, hp, rp⟩ := r.getV hy
        obtain ⟨p2, hp2, rp2⟩ := r'.getV hz
        obtain ⟨G2, d, a1, a2, a3, a4⟩ := pair_new o' hT (rp.mono e) (rp2.mono e)
        exact ⟨G2, d, a1, a2, ⟨p, p2, hp, hp2, a3⟩, a4⟩
theorem si_zipAL {R : Nat → (Nat → D → Prop) → (Cells → Prop) → Cells → Prop} (h : SA W ta ρ M fun ds M1 => ∃ ps qs, ds = [dL ps, dL qs] ∧ R (min ps.length qs.length) (fun i d => ∃ p q, ps[i]? = some p ∧ qs[i]? = some q ∧ d = dT [p, q]) (fun _ => True) M1) : SI W (iZipA Kf ta) ρ M R := fun G σ H F Q re o mx q =>
  h G σ H F _ re o mx fun ds M1 vs G1 H1 ⟨ps, qs, ed, k⟩ e1 r1 o1 => by
    subst ed
    obtain ⟨v, w, rfl, ra, rb⟩ := r1.two
    have ra' : Rp G1 v (.list ps) := ra
    have rb' : Rp G1 w (.list qs) := rb
    cases ra' with
    | lst ha r =>
      cases rb' with
      | lst hb r' =>
        refine ⟨_, _, _, _, rfl, .inl ⟨SqL.of (o1.ex _ _ ha), SqL.of (o1.ex _ _ hb), q _ _ _ M1 G1 H1 _ k e1 o1 ⟨fun H => SqL Kf H _ _ ∧ SqL Kf H _ _, _, walk_zip (by rw [r.length, r'.length]), fun _ G' M H e o _ => ⟨SqL.of (o.ex _ _ (e _ _ ha)), SqL.of (o.ex _ _ (e _ _ hb))⟩, ?_⟩⟩⟩
        rintro F' i G' M' H' x H2 hi e o' _ ⟨T, y, z, rfl, hT, rfl, hy, hz⟩
        obtain ⟨p, hp, rp⟩ := r.getV hy
        obtain ⟨p2, hp2, rp2⟩ := r'.getV hz
        obtain ⟨G2, d, a1, a2, a3, a4⟩ := pair_new o' hT (rp.mono e) (rp2.mono e)
        exact ⟨G2, d, a1, a2, ⟨p, p2, hp, hp2, a3⟩, a4⟩
theorem src_ZL (f : α → PyData) (g : β → PyData) (xs : List α) (ys : List β) {M2 : Cells} (h : SA W ta ρ M fun ds M1 => ds = [dL (xs.map f), dL (ys.map g)] ∧ M1 = M2) : SI W (iZipA Kf ta) ρ M (Src (xs.zip ys) (fun _ x => dT [f x.1, g x.2]) M2) :=
  si_zipAL (SA.imp h fun d M1 ⟨e, i0⟩ => ⟨_, _, e, by rw [List.length_zip, List.length_map, List.length_map], i0, fun i d _ ⟨p, q, hp, hq, e⟩ => by
    obtain ⟨o, ho, rfl⟩ := map_at hp
    obtain ⟨o', ho', rfl⟩ := map_at hq
    exact ⟨(o, o'), zip_at ho ho', e⟩, fun _ => trivial⟩)
theorem src_ZT (f : α → PyData) (g : β → PyData) (xs : List α) (ys : List β) {M2 : Cells} (h : SA W ta ρ M fun ds M1 => ds = [dT (xs.map f), dT (ys.map g)] ∧ M1 = M2) : SI W (iZipA Kf ta) ρ M (Src (xs.zip ys) (fun _ x => dT [f x.1, g x.2]) M2) :=
  si_zipAT (SA.imp h fun d M1 ⟨e, i0⟩ => ⟨_, _, e, by rw [List.length_zip, List.length_map, List.length_map], i0, fun i d _ ⟨p, q, hp, hq, e⟩ => by
    obtain ⟨o, ho, rfl⟩ := map_at hp
    obtain ⟨o', ho', rfl⟩ := map_at hq
    exact ⟨(o, o'), zip_at ho ho', e⟩, fun _ => trivial⟩)
/-! ### isinstance(x, (A, B, ..)) -/
theorem call_isiTK {X : Cx} {K : PySem.W.Frag} (hK : X.K = K := by rfl) : CallR X (.builtin "isinstance") (rIsiT K) := hK ▸ call_isiT
inductive ClsD : List D → List Value → Prop
  | nil : ClsD [] []
  | ty (n : String) {ds : List D} {us : List Value} : ClsD ds us → ClsD (.raw (.ty n) :: ds) (.type n :: us)
  | own (C : Addr) {ds : List D} {us : List Value} : ClsD ds us → ClsD (dR C :: ds) (.ref C :: us)
theorem ClsD.paired {G : Hp} : ∀ {ds : List D} {us : List Value} {vs : List V}, ClsD ds us → RDs G vs ds → Paired ClsV vs us
  | _, _, _, .nil, r => by cases r; exact .nil
  | _, _, _, .ty n h, .cons a r => by cases a; exact .cons (.ty n) (h.paired r)
  | _, _, _, .own C h, .cons a r => by cases a; exact .cons (.own C) (h.paired r)
theorem se_isiT {te1 : TE} {tt : TA} (h : SE W te1 ρ M fun d M1 => SA W tt ρ M1 fun cs M2 => ∃ us p b, ClsD cs us ∧ d = .py p ∧ cs.length ≤ 1000 ∧ PySem.W.kitAny Kf (.type (tyP p)) us = some b ∧ K (dB b) M2) :
    SE W (tCB (rIsiT Kf) (tCons te1 (tCons (tTup tt) tNil))) ρ M K := fun G σ H F Q re o mx q =>
  h G σ H F _ re o mx fun d M1 v G1 H1 k1 e1 r1 o1 => k1 G1 σ H1 F _ (re.mono e1) o1 (mx.mono e1) fun cs M2 vs G2 H2 ⟨us, p, b, hc, ed, hl, hk, k2⟩ e2 r2 o2 => by
    subst ed
    refine ⟨by rw [r2.length]; exact big_ok (by omega), fun T hT => ?_⟩
    have r1' : Rp G2 v p := Rp.mono e2 r1
    have e3 : Ex G2 (upd G2 T (.tup vs)) := Ex.new (o2.ex.free hT)
    have o3 := o2.push hT (.tup vs)
    exact ⟨v, T, vs, _, us, b, rfl, upd_same, hc.paired r2, rp_ty (M := M2) (F := F) o3 (show RD _ v (.py p) from Rp.mono e3 r1'), hk, q (dB b) M2 _ _ _ k2 (e1.trans (e2.trans e3)) (Rp.bl _) o3⟩
end
theorem kit2 {K : PySem.W.Frag} {a n m : String} {x y : Bool} (h1 : kitB a n = some x) (h2 : kitB a m = some y) : PySem.W.kitAny K (.type a) [.type n, .type m] = some (x || y) := by
  unfold PySem.W.kitAny
  rw [kit_ty h1]
  cases x with
  | true => rfl
  | false =>
    unfold PySem.W.kitAny
    rw [kit_ty h2]
    cases y <;> rfl
end PL

/-! PL17: what can be shown. -/
namespace PL
open PySem PySem.Spec L2
mutual
def sml : PyData → Bool
  | .none => true
  | .bool _ => true
  | .int i => decide (i.natAbs < 10 ^ 40)
  | .str x => x.cps.toList.all fun c => decide (c < 16 ^ 8)
  | .list xs => smlA xs
  | .tuple xs => smlA xs
  | .dict _ => false
def smlA : List PyData → Bool
  | [] => true
  | x :: xs => sml x && smlA xs
end
theorem smlA_iff : ∀ {xs : List PyData}, smlA xs = true ↔ ∀ x ∈ xs, sml x = true
  | [] => by simp [smlA]
  | x :: xs => by simp [smlA, smlA_iff (xs := xs)]
theorem int_len {i : Int} (h : i.natAbs < 10 ^ 40) : (PyData.shown (.int i)).length ≤ 50 := by
  have e : PyData.shown (.int i) = Str.ofString (toString i) := by first | rfl | simp [PyData.shown]
  rw [e, ofString_length]
  cases i with
  | ofNat m =>
    have := (Nat.length_repr_le_iff (n := m) (k := 40) (by decide)).mpr (by simpa using h)
    show (Nat.repr m).length ≤ 50
    omega
  | negSucc m =>
    have := (Nat.length_repr_le_iff (n := m + 1) (k := 40) (by decide)).mpr (by simpa using h)
    show ("-" ++ Nat.repr (m + 1)).length ≤ 50
    rw [String.length_append]
    have : ("-" : String).length = 1 := by decide
    omega
mutual
theorem sml_leaves : ∀ d : PyData, sml d = true → d.leavesShort 50 = true
  | .none, _ => by simp [PyData.leavesShort]
  | .bool _, _ => by simp [PyData.leavesShort]
  | .int i, h => by
    simp only [sml, decide_eq_true_eq] at h
    simpa only [PyData.leavesShort, decide_eq_true_eq] using int_len h
  | .str x, h => by simpa only [PyData.leavesShort, sml] using h
  | .list xs, h => by
    simp only [PyData.leavesShort]
    exact smlA_leaves xs (by simpa only [sml] using h)
  | .tuple xs, h => by
    simp only [PyData.leavesShort]
    exact smlA_leaves xs (by simpa only [sml] using h)
  | .dict _, h => by simp [sml] at h
theorem smlA_leaves : ∀ xs : List PyData, smlA xs = true → PyData.leavesShortAll 50 xs = true
  | [], _ => by simp [PyData.leavesShortAll]
  | x :: xs, h => by
    simp only [smlA, Bool.and_eq_true] at h
    simp only [PyData.leavesShortAll, Bool.and_eq_true]
    exact ⟨sml_leaves x h.1, smlA_leaves xs h.2⟩
end
theorem log_40 {n : Nat} (h : n < 10 ^ 40) : n.log2 < 1920 := by
  by_cases h0 : n = 0
  · subst h0
    decide
  · rw [Nat.log2_lt h0]
    exact Nat.lt_of_lt_of_le h (by decide +kernel)
mutual
theorem sml_show : ∀ d : PyData, sml d = true → d.showable = true ∧ d.hasDict = false
  | .none, _ => by simp [PyData.showable, PyData.hasDict]
  | .bool _, _ => by simp [PyData.showable, PyData.hasDict]
  | .int i, h => by
    simp only [sml, decide_eq_true_eq] at h
    simp only [PyData.showable, PyData.hasDict, decide_eq_true_eq, and_true]
    exact log_40 h
  | .str _, _ => by simp [PyData.showable, PyData.hasDict]
  | .list xs, h => by
    simp only [PyData.showable, PyData.hasDict]
    exact smlA_show xs (by simpa only [sml] using h)
  | .tuple xs, h => by
    simp only [PyData.showable, PyData.hasDict]
    exact smlA_show xs (by simpa only [sml] using h)
  | .dict _, h => by simp [sml] at h
theorem smlA_show : ∀ xs : List PyData, smlA xs = true → PyData.showableAll xs = true ∧ PyData.hasDictAll xs = false
  | [], _ => by simp [PyData.showableAll, PyData.hasDictAll]
  | x :: xs, h => by
    simp only [smlA, Bool.and_eq_true] at h
    have h1 := sml_show x h.1
    have h2 := smlA_show xs h.2
    simp [PyData.showableAll, PyData.hasDictAll, h1.1, h1.2, h2.1, h2.2]
end
theorem shw_of {ps : List PyData} (h : ∀ p ∈ ps, sml p = true) (hb : PyData.bulkAll ps ≤ 300000) (hd : PyData.depthAll ps ≤ 39) : Shw (.list ps) := by
  have h' : sml (.list ps) = true := by
    simp only [sml]
    exact smlA_iff.mpr h
  refine ⟨(sml_show _ h').1, (sml_show _ h').2, by simp only [PyData.depth]; omega, ?_⟩
  have e := PyData.shown_le_bulk 50 (by decide) (.list ps) (sml_leaves _ h')
  have e2 : PyData.bulk (.list ps) = PyData.bulkAll ps := by simp only [PyData.bulk]
  rw [e2] at e
  have : sizeLine = 16777216 := by decide
  omega
theorem bulkAll_le {ps : List PyData} {k : Nat} (h : ∀ p ∈ ps, p.bulk ≤ k) : PyData.bulkAll ps ≤ (k + 1) * ps.length := by
  induction ps with
  | nil => simp [PyData.bulkAll]
  | cons p ps ih =>
    have h1 := h p List.mem_cons_self
    have h2 := ih fun q hq => h q (List.mem_cons_of_mem _ hq)
    simp only [PyData.bulkAll, List.length_cons]
    rw [Nat.mul_succ]
    omega
theorem depthAll_le {ps : List PyData} {k : Nat} (h : ∀ p ∈ ps, p.depth ≤ k) : PyData.depthAll ps ≤ k := by
  induction ps with
  | nil => simp [PyData.depthAll]
  | cons p ps ih =>
    have h1 := h p List.mem_cons_self
    have h2 := ih fun q hq => h q (List.mem_cons_of_mem _ hq)
    simp only [PyData.depthAll]
    omega
/-- ints alone -/
theorem shw_ints {ns : List Int} (h : ∀ n ∈ ns, n.natAbs < 10 ^ 40) (hl : ns.length ≤ 100000) : Shw (.list (ns.map PyData.int)) := by
  refine shw_of (fun p hp => ?_) ?_ ?_
  · obtain ⟨n, hn, rfl⟩ := List.mem_map.mp hp
    simp only [sml, decide_eq_true_eq]
    exact h n hn
  · have := bulkAll_le (ps := ns.map PyData.int) (k := 0) (fun p hp => by
      obtain ⟨n, hn, rfl⟩ := List.mem_map.mp hp
      simp [PyData.bulk])
    rw [List.length_map] at this
    omega
  · exact Nat.le_trans (depthAll_le (k := 0) fun p hp => by
      obtain ⟨n, hn, rfl⟩ := List.mem_map.mp hp
      simp [PyData.depth]) (by decide)
end PL

/-! PL18: lists changed by place, cells frozen wherever they stand. -/
namespace PL
open PySem PySem.Spec L2
abbrev rInsert : V → List V → Hp → VK → Prop := fun x vs H Q => ∃ (l : Addr) (xs : List V) (i : Int) (y : V), x = .ref l ∧ vs = [.int i, y] ∧ H l = some (.lst xs) ∧ xs.length < sizeLine ∧ 0 ≤ i ∧ i < 2 ^ 63 ∧
    Q .non (upd H l (.lst (xs.take i.toNat ++ [y] ++ xs.drop i.toNat)))
theorem all2_erase {α β : Type} {R : α → β → Prop} : ∀ {as : List α} {bs : List β}, All2 R as bs → ∀ n, All2 R (as.eraseIdx n) (bs.eraseIdx n)
  | _, _, .nil, _ => .nil
  | _, _, .cons _ r, 0 => r
  | _, _, .cons h r, n + 1 => .cons h (all2_erase r n)
theorem eraseIdx_map {α β : Type} (f : α → β) : ∀ (l : List α) (n : Nat), (l.eraseIdx n).map f = (l.map f).eraseIdx n
  | [], _ => rfl
  | _ :: _, 0 => rfl
  | x :: l, n + 1 => congrArg (f x :: ·) (eraseIdx_map f l n)
section
variable {W : WD} {ρ : Rho} {M : Cells} {K : D → Cells → Prop} {KT : Bool → Cells → Prop} {KE : Rho → Cells → Prop} {ta tb te tc to ti : TE} {t u : TT} {P : PD} {Kf : PySem.W.Frag} {tt : TS}
theorem br_insert (j : Nat) {p : Addr} {ps : List PyData} {i : Int} {q : PyData} (hc : CA M j p (Cl ps)) (hl : ps.length ≤ 1000000) (h0 : 0 ≤ i) (h1 : i < 2 ^ 62) (k : K dN (M.set j (p, Cl (ps.take i.toNat ++ [q] ++ ps.drop i.toNat)))) : BR rInsert (dR p) [dI i, .py q] M K := fun G H F u us Q r rs o qq => by
  cases r
  obtain ⟨v, w, rfl, rv, rw'⟩ := rs.two
  cases int_of rv
  obtain ⟨vs, hv, rr⟩ := o.at hc
  have hlen := rr.length
  rw [List.length_map] at hlen
  refine ⟨p, vs, i, w, rfl, rfl, hv, by show vs.length < 16777216; omega, h0, by omega, qq dN _ .non G _ k (Ex.refl G) Rp.non (o.store hc ⟨_, upd_same, ?_⟩)⟩
  rw [List.map_append, List.map_append, List.map_take, List.map_drop]
  exact ((rr.take _).append (.cons rw' .nil)).append (rr.drop _)
theorem br_popAt (j : Nat) {p : Addr} {ps : List PyData} {i : Int} {q : PyData} (hc : CA M j p (Cl ps)) (h0 : 0 ≤ i) (h1 : i < 2 ^ 62) (hq : ps[i.toNat]? = some q) (k : K (.py q) (M.set j (p, Cl (ps.eraseIdx i.toNat)))) : BR rPopAt (dR p) [dI i] M K := fun G H F u us Q r rs o qq => by
  cases r
  obtain ⟨v, rfl, rv⟩ := rs.one
  cases int_of rv
  obtain ⟨vs, hv, rr⟩ := o.at hc
  have hlen := rr.length
  rw [List.length_map] at hlen
  have hlt := (List.getElem?_eq_some_iff.mp hq).1
  obtain ⟨w, hw, rw'⟩ := rr.get (i := i.toNat) (b := D.py q) (by rw [List.getElem?_map, hq]; rfl)
  have hsi : seqIndex? i vs.length = some i.toNat := by
    have h3 : i.toNat < vs.length := by omega
    unfold seqIndex?
    simp only []
    first
      | (rw [if_neg (by omega), if_pos (by omega)])
      | (split <;> simp_all <;> omega)
  exact ⟨p, vs, i, i.toNat, w, rfl, rfl, hv, by omega, by omega, hsi, hw, qq (.py q) _ w G _ k (Ex.refl G) rw' (o.store hc ⟨_, upd_same, by rw [eraseIdx_map]; exact all2_erase rr _⟩)⟩
/-- the cells in another order -/
theorem ss_perm (N : Cells) (hp : M.Perm N) (h : SS W tt ρ N P) : SS W tt ρ M P := fun G σ H F D re o mx md => h G σ H F D re (o.perm (hp.append_right F)) mx md
theorem se_perm (N : Cells) (hp : M.Perm N) (h : SE W te ρ N K) : SE W te ρ M K := fun G σ H F Q re o mx q => h G σ H F Q re (o.perm (hp.append_right F)) mx q
/-- a cell is let go -/
theorem ss_letgo (j : Nat) (h : SS W tt ρ (M.eraseIdx j) P) : SS W tt ρ M P := fun G σ H F D re o mx md => h G σ H F D re (o.sub (List.Sublist.append (List.eraseIdx_sublist M j) (List.Sublist.refl F))) mx md
theorem apart_of {G H : Hp} {M F : Cells} {j : Nat} {p : Addr} {c : Cell} (o : Own G (M ++ F) H) (hj : M[j]? = some (p, c)) : ∀ q ∈ M.eraseIdx j ++ F, q.1 ≠ p := by
  intro q hq e
  have hs : M = M.take j ++ (p, c) :: M.drop (j + 1) := split_at hj
  have nd := o.nd
  rw [hs, List.append_assoc, List.cons_append, List.map_append, List.map_cons] at nd
  have hq' : q ∈ M.take j ∨ q ∈ M.drop (j + 1) ++ F := by
    rw [List.eraseIdx_eq_take_drop_succ, List.append_assoc] at hq
    exact List.mem_append.mp hq
  rw [List.nodup_append] at nd
  rcases hq' with z | z
  · exact nd.2.2 q.1 (List.mem_map_of_mem z) p List.mem_cons_self e
  · have := (List.nodup_cons.mp nd.2.1).1
    exact this (e ▸ List.mem_map_of_mem (f := (·.1)) z)
/-- a value that is a cell which from now on stays as it is -/
theorem se_frzI (h : SE W te ρ M fun d M' => ∃ j p ps, d = dR p ∧ M'[j]? = some (p, Cl ps) ∧ K (dL ps) (M'.eraseIdx j)) : SE W te ρ M K := fun G σ H F Q re o mx q =>
  h G σ H F Q re o mx fun d M1 v G1 H1 ⟨j, p, ps, ed, hj, k⟩ e1 r1 o1 => by
    subst ed
    cases r1
    obtain ⟨G', e, o', r'⟩ := o1.freeze (p := p) (ps := ps) (N := M1.eraseIdx j ++ F) (List.mem_append_left _ (List.mem_of_getElem? hj)) (List.Sublist.append (List.eraseIdx_sublist M1 j) (List.Sublist.refl F)) (apart_of o1 hj)
    exact q (dL ps) (M1.eraseIdx j) _ G' H1 k (e1.trans e) r' o'
end
end PL

/-! FM1: far strips in plain words. -/
namespace FM
theorem take_snoc {α : Type} {l : List α} {i : Nat} {x : α} (h : l[i]? = some x) : l.take (i + 1) = l.take i ++ [x] := by
  rw [List.take_add_one, h]
  rfl
def cw (c : Nat) (mine : Bool) : Int := if c = 119 then (if mine then 1 else -1) else if c = 111 then (if mine then 0 else -1) else 0
def cn : List Nat → Int → Int → List Int
  | [], _, _ => []
  | c :: l, b, p => cw c (decide (b % 2 = p)) :: cn l (b + 1) p
theorem cn_len : ∀ (l : List Nat) (b p : Int), (cn l b p).length = l.length
  | [], _, _ => rfl
  | c :: l, b, p => congrArg (· + 1) (cn_len l (b + 1) p)
theorem cn_app : ∀ (l m : List Nat) (b p : Int), cn (l ++ m) b p = cn l b p ++ cn m (b + l.length) p
  | [], m, b, p => by simp [cn]
  | c :: l, m, b, p => by
    have e : b + ((c :: l).length : Int) = b + 1 + l.length := by rw [List.length_cons]; omega
    rw [List.cons_append, cn, cn_app l m (b + 1) p, cn, List.cons_append, e]
theorem cn_snoc (l : List Nat) (c : Nat) (b p : Int) : cn (l ++ [c]) b p = cn l b p ++ [cw c (decide ((b + l.length) % 2 = p))] := cn_app l [c] b p
theorem cw_le (c : Nat) (m : Bool) : -1 ≤ cw c m ∧ cw c m ≤ 1 := by
  unfold cw
  split
  · cases m <;> decide
  · split
    · cases m <;> decide
    · decide
theorem cn_sum : ∀ (l : List Nat) (b p : Int), -(l.length : Int) ≤ (cn l b p).sum ∧ (cn l b p).sum ≤ l.length
  | [], _, _ => by simp [cn]
  | c :: l, b, p => by
    have h := cn_sum l (b + 1) p
    have h2 := cw_le c (decide (b % 2 = p))
    rw [cn, List.sum_cons, List.length_cons]
    omega
def mp0 : List Int → Int
  | [] => 0
  | a :: l => max 0 (a + mp0 l)
/-- the best beginning, of one at least -/
def ah : List Int → Int
  | [] => 0
  | a :: l => a + mp0 l
/-- the fold that seeks it: total, best -/
theorem ah_fold : ∀ (l : List Int) (t b : Int), (l.foldl (fun (s : Int × Int) o => (s.1 + o, max s.2 (s.1 + o))) (t, b)).2 = (if l = [] then b else max b (t + ah l))
  | [], t, b => rfl
  | a :: l, t, b => by
    rw [List.foldl_cons, ah_fold l]
    cases l with
    | nil => simp [ah, mp0]
    | cons c l =>
      simp only [ah, mp0, if_false, reduceCtorEq]
      omega
structure LB where
  w : Int
  f : Option Int
  l : Int
def stp (a b : Int) (s : LB) : LB := if max 1 s.w ≤ a + s.l then ⟨a + s.l, some b, max 0 (a + s.l)⟩ else ⟨s.w, s.f, max 0 (a + s.l)⟩
def goT : List Int → Int → LB → LB
  | [], _, s => s
  | a :: l, b, s => stp a b (goT l (b + 1) s)
theorem goT_app : ∀ (l m : List Int) (b : Int) (s : LB), goT (l ++ m) b s = goT l b (goT m (b + l.length) s)
  | [], m, b, s => by simp [goT]
  | c :: l, m, b, s => by
    have e : b + ((c :: l).length : Int) = b + 1 + l.length := by rw [List.length_cons]; omega
    rw [List.cons_append, goT, goT_app l m (b + 1) s, goT, e]
def goP (ns : List Int) (o : Int) (s : LB) : LB := if 0 < o then ⟨s.w, s.f, max (max 0 (ah ns + max 0 ns.sum * (o - 1))) (ns.sum * o + s.l)⟩ else s
abbrev Blk := List Nat × Int × Int
def lbB (p : Int) (b : Blk) (s : LB) : LB :=
  goT (cn b.1 b.2.2 p) b.2.2 (if 1 < b.2.1 then goP (cn b.1 b.2.2 p) (b.2.1 - 2) (goT (cn b.1 b.2.2 p) (b.2.2 + b.1.length * (b.2.1 - 1)) s) else s)
def lb (p : Int) : List Blk → LB → LB
  | [], s => s
  | b :: r, s => lbB p b (lb p r s)
theorem lb_app (p : Int) : ∀ (l m : List Blk) (s : LB), lb p (l ++ m) s = lb p l (lb p m s)
  | [], _, _ => rfl
  | b :: l, m, s => by rw [List.cons_append, lb, lb_app p l m s, lb]
def lbk (p : Int) (bs : List Blk) : LB := lb p bs ⟨0, none, 0⟩
def addB (s : List Blk × Int) (q : List Nat × Int) : List Blk × Int := if 0 < q.2 then (s.1 ++ [(q.1, q.2, s.2)], s.2 + q.1.length * q.2) else s
def twc (r : List Nat × Int) : Int := if r.1.length % 2 = 1 then r.2 / 2 else 0
def boR (s : List Blk × Int) (r : List Nat × Int) : List Blk × Int := addB (addB s (r.1 ++ r.1, twc r)) (r.1, r.2 - 2 * twc r)
def bo (rs : List (List Nat × Int)) : List Blk := (rs.foldl boR ([], 0)).1
/-- what the program tells -/
def farF (rs : List (List Nat × Int)) : Int := max (lbk 0 (bo rs)).w (lbk 1 (bo rs)).w
end FM

/-! FM2: pieces. -/
namespace FM
structure Pc where
  s : Int
  a : Int
  b : Int
  m : Int
def pst (x : Pc) (o : Int) : Pc := ⟨x.s + o, max x.a (x.s + o), o + max 0 x.b, max x.m (o + max 0 x.b)⟩
def pcOf : List Int → Pc
  | [] => ⟨0, 0, 0, 0⟩
  | n :: r => r.foldl pst ⟨n, n, n, n⟩
def jn (x y : Pc) : Pc := ⟨x.s + y.s, max x.a (x.s + y.a), max y.b (y.s + x.b), max (max x.m y.m) (x.b + y.a)⟩
def jo : Option Pc → Option Pc → Option Pc
  | some x, some y => some (jn x y)
  | x, none => x
  | none, y => y
def oft (f : Option Pc) (x : Pc) (t : Nat) : Option Pc := if h : t = 0 then f else oft (if t % 2 = 1 then jo f (some x) else f) (jn x x) (t / 2)
termination_by t
decreasing_by omega
def wst (p : Int) (S : Int × Option Pc) (r : List Nat × Int) : Int × Option Pc :=
  (S.1 + r.1.length * r.2,
    if r.1.length % 2 = 0 then jo S.2 (oft none (pcOf (cn r.1 S.1 p)) r.2.toNat)
    else jo (jo S.2 (oft none (jn (pcOf (cn r.1 S.1 p)) (pcOf (cn r.1 (S.1 + 1) p))) (r.2 / 2).toNat)) (oft none (pcOf (cn r.1 S.1 p)) (r.2 % 2).toNat))
def wpc (rs : List (List Nat × Int)) (b p : Int) : Option Pc := (rs.foldl (wst p) (b, none)).2
end FM

/-! FM3: what the far strips' walks come to, on all cells one by one. -/
namespace FM
/-- what is won at best from here on -/
def mpl : List Int → Int → Int
  | [], l => l
  | a :: A, l => max 0 (a + mpl A l)
theorem mp0_nn : ∀ A : List Int, 0 ≤ mp0 A
  | [] => by simp [mp0]
  | a :: A => by unfold mp0; omega
theorem mpl_eq : ∀ (A : List Int) {l : Int}, 0 ≤ l → mpl A l = max (mp0 A) (A.sum + l)
  | [], l, h => by simp [mpl, mp0]; omega
  | a :: A, l, h => by
    rw [mpl, mpl_eq A h, mp0, List.sum_cons]
    have := mp0_nn A
    omega
theorem mpl_nn {A : List Int} {l : Int} (h : 0 ≤ l) : 0 ≤ mpl A l := by
  rw [mpl_eq A h]
  have := mp0_nn A
  omega
theorem goT_l : ∀ (A : List Int) (b : Int) (s : LB), (goT A b s).l = mpl A s.l
  | [], _, _ => rfl
  | a :: A, b, s => by
    rw [goT, mpl, ← goT_l A (b + 1) s]
    unfold stp
    split <;> rfl
/-- the worths of all beginnings, with their places -/
def cand : List Int → Int → Int → List (Int × Int)
  | [], _, _ => []
  | a :: A, b, l => (a + mpl A l, b) :: cand A (b + 1) l
def cst (c : Int × Int) (z : Int × Option Int) : Int × Option Int := if max 1 z.1 ≤ c.1 then (c.1, some c.2) else z
def acc (C : List (Int × Int)) (z : Int × Option Int) : Int × Option Int := C.foldr cst z
theorem goT_wf : ∀ (A : List Int) (b : Int) (s : LB), ((goT A b s).w, (goT A b s).f) = acc (cand A b s.l) (s.w, s.f)
  | [], _, _ => rfl
  | a :: A, b, s => by
    have ih := goT_wf A (b + 1) s
    have hl := goT_l A (b + 1) s
    rw [goT, cand]
    show _ = cst _ (acc (cand A (b + 1) s.l) (s.w, s.f))
    rw [← ih, ← hl]
    unfold stp cst
    dsimp only
    split <;> rfl
theorem lb_ext {s t : LB} (h1 : (s.w, s.f) = (t.w, t.f)) (h2 : s.l = t.l) : s = t := by
  cases s
  cases t
  cases h1
  cases h2
  rfl
theorem acc_app (C D : List (Int × Int)) (z : Int × Option Int) : acc (C ++ D) z = acc C (acc D z) := List.foldr_append
theorem acc_le {C : List (Int × Int)} {z : Int × Option Int} {k : Int} (hz : z.1 ≤ k) (h : ∀ c ∈ C, c.1 ≤ k) : (acc C z).1 ≤ k := by
  induction C with
  | nil => exact hz
  | cons c C ih =>
    have h1 := ih fun c' hc => h c' (List.mem_cons_of_mem _ hc)
    have h2 := h c List.mem_cons_self
    show (cst c (acc C z)).1 ≤ k
    unfold cst
    split
    · exact h2
    · exact h1
theorem acc_ge {C : List (Int × Int)} {z : Int × Option Int} : z.1 ≤ (acc C z).1 := by
  induction C with
  | nil => exact Int.le_refl _
  | cons c C ih =>
    show z.1 ≤ (cst c (acc C z)).1
    unfold cst
    split
    · dsimp only; omega
    · exact ih
theorem acc_mem {C : List (Int × Int)} {z : Int × Option Int} {c : Int × Int} (hc : c ∈ C) (h1 : 1 ≤ c.1) : c.1 ≤ (acc C z).1 := by
  induction C with
  | nil => cases hc
  | cons d C ih =>
    show c.1 ≤ (cst d (acc C z)).1
    rcases List.mem_cons.mp hc with rfl | hc
    · unfold cst
      split
      · exact Int.le_refl _
      · omega
    · have := ih hc
      unfold cst
      split
      · dsimp only; omega
      · exact this
theorem acc_or {C : List (Int × Int)} {z : Int × Option Int} : acc C z = z ∨ ∃ c ∈ C, acc C z = (c.1, some c.2) ∧ 1 ≤ c.1 ∧ z.1 ≤ c.1 := by
  induction C with
  | nil => exact .inl rfl
  | cons d C ih =>
    have hge : z.1 ≤ (acc C z).1 := acc_ge
    by_cases h : max 1 (acc C z).1 ≤ d.1
    · refine .inr ⟨d, List.mem_cons_self, ?_, by omega, by omega⟩
      show cst d (acc C z) = _
      unfold cst
      rw [if_pos h]
    · have e : acc (d :: C) z = acc C z := by
        show cst d (acc C z) = _
        unfold cst
        rw [if_neg h]
      rw [e]
      rcases ih with ih | ⟨c, hc, h1⟩
      · exact .inl ih
      · exact .inr ⟨c, List.mem_cons_of_mem _ hc, h1⟩
/-- what was found before is of no account, where as much is found again -/
theorem acc_same {C : List (Int × Int)} {z z' : Int × Option Int} {c : Int × Int} (hc : c ∈ C) (h1 : 1 ≤ c.1) (hz : z.1 ≤ c.1) (hz' : z'.1 ≤ c.1) : acc C z = acc C z' := by
  induction C with
  | nil => cases hc
  | cons d C ih =>
    show cst d (acc C z) = cst d (acc C z')
    by_cases hm : ∃ e ∈ C, c.1 ≤ e.1
    · obtain ⟨e, he, hce⟩ := hm
      have : acc C z = acc C z' := by
        by_cases hcc : c ∈ C
        · exact ih hcc
        · -- e serves as well
          clear ih
          have key : ∀ {C : List (Int × Int)} {e : Int × Int}, e ∈ C → c.1 ≤ e.1 → acc C z = acc C z' := by
            intro C
            induction C with
            | nil => intro e he; cases he
            | cons d C ih2 =>
              intro e he hce
              show cst d (acc C z) = cst d (acc C z')
              by_cases hm2 : ∃ e' ∈ C, c.1 ≤ e'.1
              · obtain ⟨e', he', hce'⟩ := hm2
                rw [ih2 he' hce']
              · have hall : ∀ x ∈ C, x.1 ≤ c.1 := fun x hx => by
                  by_cases hh : c.1 ≤ x.1
                  · exact absurd ⟨x, hx, hh⟩ hm2
                  · omega
                have hd : c.1 ≤ d.1 := by
                  rcases List.mem_cons.mp he with rfl | he
                  · exact hce
                  · exact absurd ⟨e, he, hce⟩ hm2
                have a1 := acc_le (k := c.1) hz hall
                have a2 := acc_le (k := c.1) hz' hall
                unfold cst
                rw [if_pos (by omega), if_pos (by omega)]
          exact key he hce
      rw [this]
    · have hall : ∀ x ∈ C, x.1 ≤ c.1 := fun x hx => by
        by_cases hh : c.1 ≤ x.1
        · exact absurd ⟨x, hx, hh⟩ hm
        · omega
      have hd : c = d := by
        rcases List.mem_cons.mp hc with h | h
        · exact h
        · exact absurd ⟨c, h, Int.le_refl _⟩ hm
      have a1 := acc_le (k := c.1) hz hall
      have a2 := acc_le (k := c.1) hz' hall
      unfold cst
      rw [← hd, if_pos (by omega), if_pos (by omega)]
/-- what lies amid is of no account -/
theorem acc_mid {C M L : List (Int × Int)} {z : Int × Option Int} (h : ∀ m ∈ M, (∃ c ∈ C, m.1 ≤ c.1) ∨ ∃ c ∈ L, m.1 < c.1) : acc (C ++ (M ++ L)) z = acc (C ++ L) z := by
  rw [acc_app, acc_app, acc_app]
  rcases acc_or (C := M) (z := acc L z) with e | ⟨m, hm, e, h1, h2⟩
  · rw [e]
  · rcases h m hm with ⟨c, hc, hmc⟩ | ⟨c, hc, hmc⟩
    · rw [e]
      exact acc_same hc (by omega) (by dsimp only; omega) (by omega)
    · have := acc_mem (z := z) hc (by omega)
      omega
theorem cand_app : ∀ (A B : List Int) (b l : Int), cand (A ++ B) b l = cand A b (mpl B l) ++ cand B (b + A.length) l
  | [], B, b, l => by simp [cand]
  | a :: A, B, b, l => by
    have h : ∀ A : List Int, mpl (A ++ B) l = mpl A (mpl B l) := by
      intro A
      induction A with
      | nil => rfl
      | cons c A ih => rw [List.cons_append, mpl, ih, mpl]
    have e : b + ((a :: A).length : Int) = b + 1 + A.length := by rw [List.length_cons]; omega
    rw [List.cons_append, cand, cand_app A B (b + 1) l, cand, h, List.cons_append, e]
theorem mpl_app (A B : List Int) (l : Int) : mpl (A ++ B) l = mpl A (mpl B l) := by
  induction A with
  | nil => rfl
  | cons c A ih => rw [List.cons_append, mpl, ih, mpl]
/-- the worth of a beginning as what is won behind grows -/
theorem cand_at : ∀ (A : List Int) (b l : Int), 0 ≤ l → ∀ m ∈ cand A b l, ∃ c d : Int, m.1 = max c (d + l) ∧ ∀ b' l', 0 ≤ l' → ∃ m' ∈ cand A b' l', m'.1 = max c (d + l')
  | [], _, _, _, m, h => by cases h
  | a :: A, b, l, hl, m, h => by
    rcases List.mem_cons.mp h with rfl | h
    · refine ⟨a + mp0 A, a + A.sum, ?_, fun b' l' hl' => ⟨_, List.mem_cons_self, ?_⟩⟩
      · dsimp only
        rw [mpl_eq A hl]
        omega
      · dsimp only
        rw [mpl_eq A hl']
        omega
    · obtain ⟨c, d, e, k⟩ := cand_at A (b + 1) l hl m h
      refine ⟨c, d, e, fun b' l' hl' => ?_⟩
      obtain ⟨m', hm, e'⟩ := k (b' + 1) l' hl'
      exact ⟨m', List.mem_cons_of_mem _ hm, e'⟩
/-- n times the same -/
def rpI (n : Nat) (A : List Int) : List Int := (List.replicate n A).flatten
theorem rpI_succ (n : Nat) (A : List Int) : rpI (n + 1) A = A ++ rpI n A := by unfold rpI; rw [List.replicate_succ, List.flatten_cons]
theorem rpI_add (m n : Nat) (A : List Int) : rpI (m + n) A = rpI m A ++ rpI n A := by
  induction m with
  | zero => rw [Nat.zero_add]; rfl
  | succ m ih => rw [show m + 1 + n = m + n + 1 by omega, rpI_succ, ih, rpI_succ, List.append_assoc]
theorem rpI_len (n : Nat) (A : List Int) : (rpI n A).length = n * A.length := by simp [rpI]
/-- how much is won from the last of n times on -/
def itf (A : List Int) : Nat → Int → Int
  | 0, l => l
  | n + 1, l => mpl A (itf A n l)
theorem mpl_rp (A : List Int) : ∀ (n : Nat) (l : Int), mpl (rpI n A) l = itf A n l
  | 0, l => rfl
  | n + 1, l => by rw [rpI_succ, mpl_app, mpl_rp A n l, itf]
theorem itf_nn {A : List Int} {l : Int} (h : 0 ≤ l) : ∀ n, 0 ≤ itf A n l
  | 0 => h
  | n + 1 => mpl_nn (itf_nn h n)
theorem mpl_mono {A : List Int} {l l' : Int} (h : 0 ≤ l) (hl : l ≤ l') : mpl A l ≤ mpl A l' := by
  rw [mpl_eq A h, mpl_eq A (Int.le_trans h hl)]
  omega
theorem itf_up {A : List Int} {l : Int} (h : 0 ≤ l) (h1 : l ≤ mpl A l) : ∀ n, itf A n l ≤ itf A (n + 1) l
  | 0 => h1
  | n + 1 => mpl_mono (itf_nn h n) (itf_up h h1 n)
theorem itf_dn {A : List Int} {l : Int} (h : 0 ≤ l) (h1 : mpl A l ≤ l) : ∀ n, itf A (n + 1) l ≤ itf A n l
  | 0 => h1
  | n + 1 => mpl_mono (itf_nn h (n + 1)) (itf_dn h h1 n)
theorem up_le {f : Nat → Int} (h : ∀ n, f n ≤ f (n + 1)) {i j : Nat} (hij : i ≤ j) : f i ≤ f j := by
  induction j with
  | zero => rw [Nat.le_zero.mp hij]; exact Int.le_refl _
  | succ j ih =>
    by_cases e : i = j + 1
    · rw [e]; exact Int.le_refl _
    · exact Int.le_trans (ih (by omega)) (h j)
theorem dn_le {f : Nat → Int} (h : ∀ n, f (n + 1) ≤ f n) {i j : Nat} (hij : i ≤ j) : f j ≤ f i := by
  have := up_le (f := fun n => -f n) (fun n => by have := h n; omega) hij
  omega
theorem cand_rp {A : List Int} : ∀ (n : Nat) (b l : Int), ∀ m ∈ cand (rpI n A) b l, ∃ k b', k < n ∧ m ∈ cand A b' (itf A k l)
  | 0, _, _, m, h => by cases h
  | n + 1, b, l, m, h => by
    rw [rpI_succ, cand_app] at h
    rcases List.mem_append.mp h with h | h
    · rw [mpl_rp] at h
      exact ⟨n, b, by omega, h⟩
    · obtain ⟨k, b', hk, hm⟩ := cand_rp n _ l m h
      exact ⟨k, b', by omega, hm⟩
theorem ah_sum {A : List Int} (h : A ≠ []) : A.sum ≤ ah A := by
  cases A with
  | nil => exact absurd rfl h
  | cons a A =>
    have : ∀ B : List Int, B.sum ≤ mp0 B := by
      intro B
      induction B with
      | nil => simp [mp0]
      | cons c B ih => rw [List.sum_cons, mp0]; omega
    have := this A
    rw [List.sum_cons, ah]
    omega
theorem mp0_ah (A : List Int) : mp0 A = max 0 (ah A) := by cases A <;> simp [mp0, ah]
theorem itf_closed {A : List Int} (h : A ≠ []) {l : Int} (hl : 0 ≤ l) : ∀ o : Nat, itf A (o + 1) l = max (max 0 (ah A + max 0 A.sum * (o : Int))) (A.sum * ((o : Int) + 1) + l)
  | 0 => by
    rw [itf, itf, mpl_eq A hl, mp0_ah]
    simp
  | o + 1 => by
    rw [itf, mpl_eq A (itf_nn hl _), itf_closed h hl o, mp0_ah]
    have h1 := ah_sum h
    have e1 : A.sum * (((o + 1 : Nat) : Int) + 1) = A.sum * ((o : Int) + 1) + A.sum := by
      rw [Int.mul_add, Int.mul_one]
      rfl
    rw [e1]
    by_cases hs : 0 ≤ A.sum
    · rw [Int.max_eq_right hs]
      have e2 : A.sum * ((o + 1 : Nat) : Int) = A.sum * (o : Int) + A.sum := by
        rw [show ((o + 1 : Nat) : Int) = (o : Int) + 1 from rfl, Int.mul_add, Int.mul_one]
      rw [e2]
      have : 0 ≤ A.sum * (o : Int) := Int.mul_nonneg hs (by omega)
      omega
    · rw [Int.max_eq_left (by omega : A.sum ≤ 0), Int.zero_mul, Int.zero_mul]
      omega
/-- a pattern so many times, the first time and the last time gone through, what lies amid at once -/
theorem often_eq {A : List Int} (h : A ≠ []) {b : Int} {s : LB} (hl : 0 ≤ s.l) (n : Nat) :
    goT A b (goP A (n : Int) (goT A (b + A.length * ((n : Int) + 1)) s)) = goT (rpI (n + 2) A) b s := by
  have hlen : ((rpI n A).length : Int) = n * A.length := by rw [rpI_len, Int.natCast_mul]
  have e2 : rpI (n + 2) A = A ++ (rpI n A ++ A) := by
    have e3 : rpI (n + 1) A = rpI n A ++ A := by
      rw [rpI_add, show rpI 1 A = A by simp [rpI]]
    rw [rpI_succ, e3]
  have hL1 : (goT A (b + A.length * ((n : Int) + 1)) s).l = mpl A s.l := goT_l _ _ _
  have hP : ∀ t : LB, t.l = mpl A s.l → (goP A (n : Int) t).l = itf A (n + 1) s.l ∧ (goP A (n : Int) t).w = t.w ∧ (goP A (n : Int) t).f = t.f := by
    intro t ht
    unfold goP
    cases n with
    | zero => exact ⟨ht, rfl, rfl⟩
    | succ n =>
      rw [if_pos (by omega)]
      refine ⟨?_, rfl, rfl⟩
      dsimp only
      have hn1 : 0 ≤ mpl A s.l := mpl_nn hl
      have e3 : itf A (n + 1 + 1) s.l = itf A (n + 1) (mpl A s.l) := by
        have : ∀ k l, itf A (k + 1) l = itf A k (mpl A l) := by
          intro k
          induction k with
          | zero => intro l; rfl
          | succ k ih => intro l; rw [itf, ih, itf]
        exact this (n + 1) s.l
      rw [e3, itf_closed h hn1 n, ht, show (((n + 1 : Nat) : Int) - 1) = (n : Int) by omega, show ((n + 1 : Nat) : Int) = (n : Int) + 1 from rfl]
  obtain ⟨p1, p2, p3⟩ := hP _ hL1
  refine lb_ext ?_ ?_
  · rw [goT_wf, goT_wf, p1, p2, p3, goT_wf, e2, cand_app, cand_app, mpl_app, mpl_rp, ← acc_app]
    have e4 : b + (A.length : Int) + ((rpI n A).length : Int) = b + A.length * ((n : Int) + 1) := by
      rw [hlen, Int.mul_add, Int.mul_one, Int.mul_comm (n : Int)]
      omega
    have e5 : itf A n (mpl A s.l) = itf A (n + 1) s.l := by
      have : ∀ k l, itf A k (mpl A l) = itf A (k + 1) l := by
        intro k
        induction k with
        | zero => intro l; rfl
        | succ k ih => intro l; rw [itf, ih]; rfl
      exact this n s.l
    rw [e4, e5]
    refine (acc_mid fun m hm => ?_).symm
    obtain ⟨k, b', hk, hm⟩ := cand_rp n _ _ m hm
    have e6 : itf A k (mpl A s.l) = itf A (k + 1) s.l := by
      have : ∀ k l, itf A k (mpl A l) = itf A (k + 1) l := by
        intro k
        induction k with
        | zero => intro l; rfl
        | succ k ih => intro l; rw [itf, ih]; rfl
      exact this k s.l
    rw [e6] at hm
    obtain ⟨c, d, e, kk⟩ := cand_at A b' _ (itf_nn hl _) m hm
    obtain ⟨m1, hm1, e1⟩ := kk b (itf A (n + 1) s.l) (itf_nn hl _)
    obtain ⟨m2, hm2, e2⟩ := kk (b + A.length * ((n : Int) + 1)) s.l hl
    by_cases hc : m.1 ≤ m1.1
    · exact .inl ⟨m1, hm1, hc⟩
    · refine .inr ⟨m2, hm2, ?_⟩
      by_cases hu : s.l ≤ mpl A s.l
      · have := up_le (f := fun n => itf A n s.l) (itf_up hl hu) (show k + 1 ≤ n + 1 by omega)
        omega
      · have h1 := dn_le (f := fun n => itf A n s.l) (itf_dn hl (by omega)) (show 1 ≤ k + 1 by omega)
        have h3 : itf A 1 s.l = mpl A s.l := rfl
        omega
  · rw [goT_l, goT_l, p1, e2, mpl_app, mpl_app, mpl_rp]
    have : ∀ k l, itf A k (mpl A l) = itf A (k + 1) l := by
      intro k
      induction k with
      | zero => intro l; rfl
      | succ k ih => intro l; rw [itf, ih]; rfl
    rw [this]
end FM

/-! FM4: runs and their cells. -/
namespace FM
def rp (l : List Nat) (n : Nat) : List Nat := (List.replicate n l).flatten
theorem rp_succ (l : List Nat) (n : Nat) : rp l (n + 1) = l ++ rp l n := by unfold rp; rw [List.replicate_succ, List.flatten_cons]
theorem rp_zero (l : List Nat) : rp l 0 = [] := rfl
theorem rp_one (l : List Nat) : rp l 1 = l := by simp [rp]
theorem rp_len (l : List Nat) (n : Nat) : (rp l n).length = n * l.length := by simp [rp]
theorem rp_add (l : List Nat) (m n : Nat) : rp l (m + n) = rp l m ++ rp l n := by
  induction m with
  | zero => rw [Nat.zero_add]; rfl
  | succ m ih => rw [show m + 1 + n = m + n + 1 by omega, rp_succ, ih, rp_succ, List.append_assoc]
theorem rp_dbl (l : List Nat) (n : Nat) : rp (l ++ l) n = rp l (2 * n) := by
  induction n with
  | zero => rfl
  | succ n ih => rw [rp_succ, ih, show 2 * (n + 1) = 2 * n + 1 + 1 by omega, rp_succ, rp_succ, List.append_assoc]
theorem cn_par : ∀ (l : List Nat) {b b' : Int} (p : Int), b % 2 = b' % 2 → cn l b p = cn l b' p
  | [], _, _, _, _ => rfl
  | c :: l, b, b', p, h => by rw [cn, cn, h, cn_par l p (by omega : (b + 1) % 2 = (b' + 1) % 2)]
theorem cn_rp {l : List Nat} (h : l.length % 2 = 0) (b p : Int) : ∀ n, cn (rp l n) b p = rpI n (cn l b p)
  | 0 => rfl
  | n + 1 => by rw [rp_succ, cn_app, cn_par (rp l n) p (by omega : (b + (l.length : Int)) % 2 = b % 2), cn_rp h b p n, rpI_succ]
theorem cn_ne {l : List Nat} (h : l ≠ []) (b p : Int) : cn l b p ≠ [] := by
  intro e
  have := cn_len l b p
  rw [e] at this
  exact h (List.eq_nil_of_length_eq_zero this.symm)
theorem lbB_full {l : List Nat} {n b p : Int} {s : LB} (hl : l ≠ []) (hn : 1 ≤ n) (h : l.length % 2 = 0 ∨ n = 1) (hs : 0 ≤ s.l) : lbB p (l, n, b) s = goT (cn (rp l n.toNat) b p) b s := by
  unfold lbB
  dsimp only
  by_cases h1 : 1 < n
  · obtain ⟨m, rfl⟩ : ∃ m : Nat, n = (m : Int) + 2 := ⟨(n - 2).toNat, by omega⟩
    have he : l.length % 2 = 0 := by
      rcases h with h | h
      · exact h
      · omega
    rw [if_pos h1, show ((m : Int) + 2).toNat = m + 2 by omega, cn_rp he, ← often_eq (cn_ne hl b p) hs m, cn_len, show (m : Int) + 2 - 2 = m by omega, show (m : Int) + 2 - 1 = (m : Int) + 1 by omega]
  · have : n = 1 := by omega
    subst this
    rw [if_neg h1]
    show _ = goT (cn (rp l 1) b p) b s
    rw [rp_one]
def cellsB (bs : List Blk) : List Nat := bs.flatMap fun B => rp B.1 B.2.1.toNat
/-- blocks one behind the other -/
def Chain : Int → List Blk → Int → Prop
  | b, [], e => e = b
  | b, (l, n, c) :: r, e => c = b ∧ l ≠ [] ∧ 1 ≤ n ∧ (l.length % 2 = 0 ∨ n = 1) ∧ Chain (b + l.length * n) r e
theorem Chain.snoc {l : List Nat} {n : Int} (hl : l ≠ []) (hn : 1 ≤ n) (h : l.length % 2 = 0 ∨ n = 1) : ∀ {bs : List Blk} {b e : Int}, Chain b bs e → Chain b (bs ++ [(l, n, e)]) (e + l.length * n)
  | [], b, e, h' => by
    cases h'
    exact ⟨rfl, hl, hn, h, rfl⟩
  | (l', n', c') :: r, b, e, ⟨h1, h2, h3, h4, h5⟩ => ⟨h1, h2, h3, h4, Chain.snoc hl hn h h5⟩
theorem Chain.len : ∀ {bs : List Blk} {b e : Int}, Chain b bs e → ((cellsB bs).length : Int) = e - b
  | [], b, e, h => by
    cases h
    simp [cellsB]
  | (l, n, c) :: r, b, e, ⟨h1, h2, h3, h4, h5⟩ => by
    have := Chain.len h5
    show ((rp l n.toNat ++ cellsB r).length : Int) = _
    rw [List.length_append, rp_len, Int.natCast_add, this, Int.natCast_mul, Int.toNat_of_nonneg (by omega), Int.mul_comm]
    omega
theorem lb_full {p : Int} {s : LB} (hs : 0 ≤ s.l) : ∀ {bs : List Blk} {b e : Int}, Chain b bs e → lb p bs s = goT (cn (cellsB bs) b p) b s
  | [], b, e, _ => rfl
  | (l, n, c) :: r, b, e, ⟨h1, h2, h3, h4, h5⟩ => by
    subst h1
    have ih := lb_full hs h5 (p := p)
    have hl : ((rp l n.toNat).length : Int) = l.length * n := by
      rw [rp_len, Int.natCast_mul, Int.toNat_of_nonneg (by omega), Int.mul_comm]
    rw [lb, lbB_full h2 h3 h4 (by rw [ih, goT_l]; exact mpl_nn hs), ih]
    show _ = goT (cn (rp l n.toNat ++ cellsB r) c p) c s
    rw [cn_app, goT_app, cn_len, hl]
def cells (rs : List (List Nat × Int)) : List Nat := rs.flatMap fun r => rp r.1 r.2.toNat
theorem cellsB_app (a b : List Blk) : cellsB (a ++ b) = cellsB a ++ cellsB b := by simp [cellsB]
theorem addB_full {S : List Blk × Int} {l : List Nat} {n : Int} (h : Chain 0 S.1 S.2) (hl : l ≠ []) (he : l.length % 2 = 0 ∨ n ≤ 1) :
    Chain 0 (addB S (l, n)).1 (addB S (l, n)).2 ∧ cellsB (addB S (l, n)).1 = cellsB S.1 ++ rp l n.toNat := by
  unfold addB
  dsimp only
  by_cases h0 : 0 < n
  · rw [if_pos h0]
    refine ⟨Chain.snoc hl (by omega) (by omega) h, ?_⟩
    rw [cellsB_app]
    simp [cellsB]
  · rw [if_neg h0, show n.toNat = 0 by omega, rp_zero, List.append_nil]
    exact ⟨h, rfl⟩
theorem boR_full {S : List Blk × Int} {l : List Nat} {t : Int} (h : Chain 0 S.1 S.2) (hl : l ≠ []) (ht : 0 ≤ t) :
    Chain 0 (boR S (l, t)).1 (boR S (l, t)).2 ∧ cellsB (boR S (l, t)).1 = cellsB S.1 ++ rp l t.toNat := by
  unfold boR
  dsimp only
  have h2 : (l ++ l).length % 2 = 0 := by rw [List.length_append]; omega
  have h3 : l ++ l ≠ [] := fun e => hl (List.append_eq_nil_iff.mp e).1
  obtain ⟨a1, a2⟩ := addB_full (n := twc (l, t)) h h3 (.inl h2)
  have h4 : l.length % 2 = 0 ∨ t - 2 * twc (l, t) ≤ 1 := by
    unfold twc
    dsimp only
    split <;> omega
  obtain ⟨b1, b2⟩ := addB_full (n := t - 2 * twc (l, t)) a1 hl h4
  refine ⟨b1, ?_⟩
  rw [b2, a2, rp_dbl, List.append_assoc, ← rp_add]
  congr 2
  unfold twc
  dsimp only
  split <;> omega
theorem bo_full : ∀ {rs : List (List Nat × Int)} {S : List Blk × Int}, Chain 0 S.1 S.2 → (∀ r ∈ rs, r.1 ≠ [] ∧ 0 ≤ r.2) →
    Chain 0 (rs.foldl boR S).1 (rs.foldl boR S).2 ∧ cellsB (rs.foldl boR S).1 = cellsB S.1 ++ cells rs
  | [], S, h, _ => ⟨h, by simp [cells]⟩
  | (l, t) :: rs, S, h, hr => by
    have h1 := hr (l, t) List.mem_cons_self
    obtain ⟨a1, a2⟩ := boR_full h h1.1 h1.2
    obtain ⟨b1, b2⟩ := bo_full (rs := rs) a1 fun r h => hr r (List.mem_cons_of_mem _ h)
    refine ⟨b1, ?_⟩
    rw [List.foldl_cons, b2, a2]
    show _ = cellsB S.1 ++ (rp l t.toNat ++ cells rs)
    rw [List.append_assoc]
/-- the program's walk is the plain one, over all cells -/
theorem lbk_full {rs : List (List Nat × Int)} (hr : ∀ r ∈ rs, r.1 ≠ [] ∧ 0 ≤ r.2) (p : Int) : lbk p (bo rs) = goT (cn (cells rs) 0 p) 0 ⟨0, none, 0⟩ := by
  obtain ⟨h1, h2⟩ := bo_full (rs := rs) (S := ([], 0)) rfl hr
  unfold lbk bo
  rw [lb_full (Int.le_refl 0) h1, h2]
  rfl
/-! ### the greatest worth -/
def ms0 : List Int → Int
  | [] => 0
  | a :: A => max (a + mp0 A) (ms0 A)
theorem ms0_nn : ∀ A : List Int, 0 ≤ ms0 A
  | [] => by simp [ms0]
  | a :: A => by have := ms0_nn A; rw [ms0]; omega
theorem mpl0 : ∀ A : List Int, mpl A 0 = mp0 A
  | [] => rfl
  | a :: A => by rw [mpl, mpl0 A, mp0]
theorem goT_w : ∀ (A : List Int) (b : Int), (goT A b ⟨0, none, 0⟩).w = ms0 A
  | [], _ => rfl
  | a :: A, b => by
    have h1 := goT_w A (b + 1)
    have h2 := goT_l A (b + 1) ⟨0, none, 0⟩
    have h3 := ms0_nn A
    rw [goT, ms0, ← mpl0 A]
    dsimp only at h2
    unfold stp
    rw [h1, h2]
    split <;> (dsimp only; omega)
/-! ### the law's pieces -/
theorem jn_assoc (x y z : Pc) : jn (jn x y) z = jn x (jn y z) := by
  unfold jn
  congr 1 <;> dsimp only <;> omega
theorem pst_jn (x : Pc) (o : Int) : pst x o = jn x ⟨o, o, o, o⟩ := by
  unfold pst jn
  congr 1 <;> dsimp only <;> omega
theorem fold_jn (x : Pc) : ∀ (r : List Int) (y : Pc), r.foldl pst (jn x y) = jn x (r.foldl pst y)
  | [], _ => rfl
  | o :: r, y => by rw [List.foldl_cons, List.foldl_cons, pst_jn, jn_assoc, fold_jn x r, pst_jn]
theorem pcOf_app {A B : List Int} (ha : A ≠ []) (hb : B ≠ []) : pcOf (A ++ B) = jn (pcOf A) (pcOf B) := by
  cases A with
  | nil => exact absurd rfl ha
  | cons a A =>
    cases B with
    | nil => exact absurd rfl hb
    | cons b B =>
      rw [List.cons_append]
      show (A ++ b :: B).foldl pst _ = jn (A.foldl pst _) (B.foldl pst _)
      rw [List.foldl_append, List.foldl_cons, pst_jn, fold_jn]
def pcO (A : List Int) : Option Pc := if A = [] then none else some (pcOf A)
theorem pcO_some {A : List Int} (h : A ≠ []) : pcO A = some (pcOf A) := if_neg h
theorem jo_none (x : Option Pc) : jo none x = x := by cases x <;> rfl
theorem none_jo (x : Option Pc) : jo x none = x := by cases x <;> rfl
theorem pcO_app (A B : List Int) : pcO (A ++ B) = jo (pcO A) (pcO B) := by
  by_cases ha : A = []
  · subst ha
    show pcO B = jo none (pcO B)
    rw [jo_none]
  · by_cases hb : B = []
    · subst hb
      rw [List.append_nil]
      show pcO A = jo (pcO A) none
      rw [none_jo]
    · rw [pcO_some ha, pcO_some hb, pcO_some (fun e => ha (List.append_eq_nil_iff.mp e).1), pcOf_app ha hb]
      rfl
theorem rpI_dbl (A : List Int) (n : Nat) : rpI n (A ++ A) = rpI (2 * n) A := by
  induction n with
  | zero => rfl
  | succ n ih => rw [rpI_succ, ih, show 2 * (n + 1) = 2 * n + 1 + 1 by omega, rpI_succ, rpI_succ, List.append_assoc]
theorem oft_eq (t : Nat) : ∀ (F A : List Int), A ≠ [] → oft (pcO F) (pcOf A) t = pcO (F ++ rpI t A) := by
  induction t using Nat.strongRecOn with
  | _ t ih =>
    intro F A ha
    rw [oft]
    by_cases h : t = 0
    · subst h
      rw [dif_pos rfl]
      show _ = pcO (F ++ [])
      rw [List.append_nil]
    · rw [dif_neg h]
      have e : (if t % 2 = 1 then jo (pcO F) (some (pcOf A)) else pcO F) = pcO (if t % 2 = 1 then F ++ A else F) := by
        split
        · rw [pcO_app, pcO_some ha]
        · rfl
      rw [e, ← pcOf_app ha ha, ih (t / 2) (by omega) _ _ (fun e => ha (List.append_eq_nil_iff.mp e).1), rpI_dbl]
      congr 1
      split
      · rw [List.append_assoc]
        congr 1
        have : t = 1 + 2 * (t / 2) := by omega
        conv => rhs; rw [this, rpI_add]
        simp [rpI]
      · rw [show 2 * (t / 2) = t by omega]
theorem cn_rp_odd {l : List Nat} (h : l.length % 2 = 1) (b p : Int) (t : Nat) : cn (rp l t) b p = rpI (t / 2) (cn l b p ++ cn l (b + 1) p) ++ rpI (t % 2) (cn l b p) := by
  have e : rp l t = rp (l ++ l) (t / 2) ++ rp l (t % 2) := by
    rw [rp_dbl, ← rp_add]
    congr 1
    omega
  have h2 : (l ++ l).length % 2 = 0 := by rw [List.length_append]; omega
  have e2 : cn (l ++ l) b p = cn l b p ++ cn l (b + 1) p := by
    rw [cn_app, cn_par l p (by omega : (b + (l.length : Int)) % 2 = (b + 1) % 2)]
  have e3 : ((rp (l ++ l) (t / 2)).length : Int) % 2 = 0 := by
    rw [rp_len, Int.natCast_mul, Int.mul_emod, show ((l ++ l).length : Int) % 2 = 0 by omega]
    simp
  rw [e, cn_app, cn_rp h2, e2, cn_par _ p (by omega : (b + ((rp (l ++ l) (t / 2)).length : Int)) % 2 = b % 2)]
  have h4 : t % 2 = 0 ∨ t % 2 = 1 := by omega
  rcases h4 with h4 | h4
  · rw [h4]; rfl
  · rw [h4, rp_one]
    simp [rpI]
theorem wst_eq {p B : Int} {F : List Int} {l : List Nat} {t : Int} (hl : l ≠ []) (ht : 0 ≤ t) : wst p (B, pcO F) (l, t) = (B + l.length * t, pcO (F ++ cn (rp l t.toNat) B p)) := by
  unfold wst
  dsimp only
  have hn := cn_ne hl B p
  have z : ∀ (A : List Int) (n : Nat), A ≠ [] → oft none (pcOf A) n = pcO (rpI n A) := fun A n hA => oft_eq n [] A hA
  refine Prod.ext rfl ?_
  dsimp only
  by_cases h : l.length % 2 = 0
  · rw [if_pos h, z _ _ hn, ← pcO_app, cn_rp h]
  · have h1 : l.length % 2 = 1 := by omega
    rw [if_neg h, ← pcOf_app hn (cn_ne hl (B + 1) p), z _ _ (fun e => hn (List.append_eq_nil_iff.mp e).1), z _ _ hn, ← pcO_app, ← pcO_app, cn_rp_odd h1, List.append_assoc]
    rw [show (t / 2).toNat = t.toNat / 2 by omega, show (t % 2).toNat = t.toNat % 2 by omega]
theorem wpc_fold {p : Int} : ∀ {rs : List (List Nat × Int)} {B : Int} {F : List Int}, (∀ r ∈ rs, r.1 ≠ [] ∧ 0 ≤ r.2) → (rs.foldl (wst p) (B, pcO F)).2 = pcO (F ++ cn (cells rs) B p)
  | [], B, F, _ => by simp [cells, cn]
  | (l, t) :: rs, B, F, h => by
    have h1 := h (l, t) List.mem_cons_self
    rw [List.foldl_cons, wst_eq h1.1 h1.2, wpc_fold (fun r hr => h r (List.mem_cons_of_mem _ hr))]
    show _ = pcO (F ++ cn (rp l t.toNat ++ cells rs) B p)
    rw [cn_app, rp_len, Int.natCast_mul, Int.toNat_of_nonneg h1.2, Int.mul_comm t, List.append_assoc]
theorem wpc_full {rs : List (List Nat × Int)} (h : ∀ r ∈ rs, r.1 ≠ [] ∧ 0 ≤ r.2) (b p : Int) : wpc rs b p = pcO (cn (cells rs) b p) := wpc_fold (F := []) h
theorem pcOf_m : ∀ A : List Int, A ≠ [] → max 0 (pcOf A).a = mp0 A ∧ max 0 (pcOf A).m = ms0 A
  | [], h => absurd rfl h
  | [a], _ => by simp [pcOf, mp0, ms0]; omega
  | a :: c :: A, _ => by
    obtain ⟨h1, h2⟩ := pcOf_m (c :: A) (by simp)
    have e : pcOf (a :: c :: A) = jn ⟨a, a, a, a⟩ (pcOf (c :: A)) := pcOf_app (A := [a]) (B := c :: A) (by simp) (by simp)
    rw [e, mp0, ms0, ← h1, ← h2]
    unfold jn
    dsimp only
    constructor <;> omega
theorem cells_ne {rs : List (List Nat × Int)} (h0 : rs ≠ []) (h : ∀ r ∈ rs, r.1 ≠ [] ∧ 1 ≤ r.2) : cells rs ≠ [] := by
  cases rs with
  | nil => exact absurd rfl h0
  | cons r rs =>
    have h1 := h r List.mem_cons_self
    intro e
    have e2 : rp r.1 r.2.toNat ++ cells rs = [] := e
    obtain ⟨n, hn⟩ : ∃ n, r.2.toNat = n + 1 := ⟨r.2.toNat - 1, by omega⟩
    rw [hn, rp_succ] at e2
    exact h1.1 (List.append_eq_nil_iff.mp (List.append_eq_nil_iff.mp e2).1).1
theorem far_law {rs : List (List Nat × Int)} (h0 : rs ≠ []) (h : ∀ r ∈ rs, 1 ≤ r.1.length ∧ 1 ≤ r.2) {p : Int} (hp : p = 0 ∨ p = 1) : ∃ x, wpc rs 0 p = some x ∧ (lbk p (bo rs)).w = max 0 x.m := by
  have h1 : ∀ r ∈ rs, r.1 ≠ [] ∧ 1 ≤ r.2 := fun r hr => ⟨fun e => by have := (h r hr).1; rw [e] at this; simp at this, (h r hr).2⟩
  have h2 : ∀ r ∈ rs, r.1 ≠ [] ∧ 0 ≤ r.2 := fun r hr => ⟨(h1 r hr).1, by have := (h1 r hr).2; omega⟩
  have hn := cn_ne (cells_ne h0 h1) 0 p
  refine ⟨pcOf (cn (cells rs) 0 p), by rw [wpc_full h2, pcO_some hn], ?_⟩
  rw [lbk_full h2, goT_w, (pcOf_m _ hn).2]
end FM

/-! FM5: where a stretch ends. -/
namespace FM
/-- how many cells on the sum is what is wanted -/
def rch : List Int → Int → Option Nat
  | [], _ => none
  | a :: A, w => if w - a = 0 then some 0 else (rch A (w - a)).map (· + 1)
/-- steps of one at most -/
def Stp (A : List Int) : Prop := ∀ a ∈ A, -1 ≤ a ∧ a ≤ 1
theorem cn_stp : ∀ (l : List Nat) (b p : Int), Stp (cn l b p)
  | [], _, _, a, h => by cases h
  | c :: l, b, p, a, h => by
    rcases List.mem_cons.mp h with rfl | h
    · exact cw_le _ _
    · exact cn_stp l _ _ a h
theorem Stp.tail {a : Int} {A : List Int} (h : Stp (a :: A)) : Stp A := fun c hc => h c (List.mem_cons_of_mem _ hc)
theorem Stp.drop {A : List Int} (h : Stp A) (n : Nat) : Stp (A.drop n) := fun c hc => h c (List.mem_of_mem_drop hc)
theorem Stp.left {A B : List Int} (h : Stp (A ++ B)) : Stp A := fun c hc => h c (List.mem_append_left _ hc)
theorem Stp.right {A B : List Int} (h : Stp (A ++ B)) : Stp B := fun c hc => h c (List.mem_append_right _ hc)
theorem Stp.app {A B : List Int} (h : Stp A) (h' : Stp B) : Stp (A ++ B) := fun c hc => (List.mem_append.mp hc).elim (h c) (h' c)
theorem Stp.sum {A : List Int} (h : Stp A) : -(A.length : Int) ≤ A.sum ∧ A.sum ≤ A.length := by
  induction A with
  | nil => simp
  | cons a A ih =>
    have h1 := h a List.mem_cons_self
    have h2 := ih h.tail
    rw [List.sum_cons, List.length_cons]
    omega
theorem Stp.rp {A : List Int} (h : Stp A) : ∀ n, Stp (rpI n A)
  | 0 => fun c hc => by cases hc
  | n + 1 => by rw [rpI_succ]; exact h.app (h.rp n)
theorem rch_app : ∀ (A B : List Int) (w : Int), rch (A ++ B) w = match rch A w with
    | some j => some j
    | none => (rch B (w - A.sum)).map (· + A.length)
  | [], B, w => by simp [rch]
  | a :: A, B, w => by
    rw [List.cons_append, rch, rch, rch_app A B (w - a)]
    split
    · rfl
    · cases h : rch A (w - a) with
      | some j => rfl
      | none =>
        simp only [Option.map_none, Option.map_map, List.sum_cons, List.length_cons]
        rw [show w - (a + A.sum) = w - a - A.sum by omega]
        congr 1
theorem rch_none : ∀ {A : List Int}, Stp A → ∀ {w : Int}, 1 ≤ w → (rch A w = none ↔ mp0 A < w)
  | [], _, w, hw => by simp [rch, mp0]; omega
  | a :: A, h, w, hw => by
    have ha := h a List.mem_cons_self
    rw [rch, mp0]
    split
    · have := mp0_nn A
      simp
      try omega
    · rw [Option.map_eq_none_iff, rch_none h.tail (by omega)]
      omega
theorem rch_some {A : List Int} (h : Stp A) {w : Int} (hw : 1 ≤ w) (hm : w ≤ mp0 A) : ∃ j, rch A w = some j := by
  cases e : rch A w with
  | some j => exact ⟨j, rfl⟩
  | none =>
    have := (rch_none h hw).mp e
    omega
theorem sum_le_mp0 : ∀ B : List Int, B.sum ≤ mp0 B
  | [] => by simp [mp0]
  | c :: B => by
    have := sum_le_mp0 B
    rw [List.sum_cons, mp0]
    omega
theorem ah_le_mp0 (A : List Int) : ah A ≤ mp0 A := by rw [mp0_ah]; omega
/-- in which round, and how far on -/
def rnd (ns : List Int) (w : Int) : Int := if 0 < ns.sum then max 0 (-((ah ns - w) / ns.sum)) else 0
def reF (ns : List Int) (o w : Int) : Option Int × Int :=
  if rnd ns w < o ∧ w ≤ ns.sum * rnd ns w + ah ns then
    match rch ns (w - ns.sum * rnd ns w) with
    | some j => (some (ns.length * rnd ns w + j), 0)
    | none => (none, w - ns.sum * o)
  else (none, w - ns.sum * o)
theorem rpI_sum (A : List Int) : ∀ n : Nat, (rpI n A).sum = A.sum * (n : Int)
  | 0 => by simp [rpI]
  | n + 1 => by
    rw [rpI_succ, List.sum_append, rpI_sum A n, show ((n + 1 : Nat) : Int) = (n : Int) + 1 from rfl, Int.mul_add, Int.mul_one]
    omega
theorem rch_rounds {A : List Int} (h : Stp A) : ∀ (k : Nat) {w : Int} (m : Nat), 1 ≤ w → (∀ i : Nat, i < k → A.sum * (i : Int) + ah A < w) → A ≠ [] → rch (rpI (k + m) A) w = (rch (rpI m A) (w - A.sum * (k : Int))).map (· + A.length * k)
  | 0, w, m, hw, hk, h0 => by simp
  | k + 1, w, m, hw, hk, h0 => by
    have hb := hk 0 (by omega)
    have e0 : A.sum * ((0 : Nat) : Int) = 0 := by simp
    have hs := ah_sum h0
    have hn : rch A w = none := (rch_none h hw).mpr (by rw [mp0_ah]; omega)
    rw [show k + 1 + m = (k + m) + 1 by omega, rpI_succ, rch_app, hn]
    dsimp only
    rw [rch_rounds h k (w := w - A.sum) m (by omega) (fun i hi => by
      have := hk (i + 1) (by omega)
      rw [show ((i + 1 : Nat) : Int) = (i : Int) + 1 from rfl, Int.mul_add, Int.mul_one] at this
      omega) h0, Option.map_map, show ((k + 1 : Nat) : Int) = (k : Int) + 1 from rfl, Int.mul_add, Int.mul_one, show w - A.sum - A.sum * (k : Int) = w - (A.sum * (k : Int) + A.sum) by omega]
    congr 1
    funext x
    show x + A.length * k + A.length = x + A.length * (k + 1)
    rw [Nat.mul_add, Nat.mul_one]
    omega
theorem rnd_least {A : List Int} {w : Int} : 0 ≤ rnd A w ∧ (∀ i : Int, 0 ≤ i → i < rnd A w → A.sum * i + ah A < w) ∧ (0 < A.sum → w ≤ A.sum * rnd A w + ah A) := by
  unfold rnd
  split
  · rename_i hs
    have hd := Int.emod_add_mul_ediv (ah A - w) A.sum
    have h1 := Int.emod_nonneg (ah A - w) (Int.ne_of_gt hs)
    have h2 := Int.emod_lt_of_pos (ah A - w) hs
    obtain ⟨q, hq⟩ : ∃ q, (ah A - w) / A.sum = q := ⟨_, rfl⟩
    rw [hq] at hd ⊢
    refine ⟨by omega, fun i h0 hi => ?_, fun _ => ?_⟩
    · have hi2 : i + 1 ≤ -q := by omega
      have := Int.mul_le_mul_of_nonneg_left hi2 (Int.le_of_lt hs)
      rw [Int.mul_add, Int.mul_one, Int.mul_neg] at this
      omega
    · by_cases hq0 : 0 ≤ -q
      · rw [Int.max_eq_right hq0, Int.mul_neg]
        omega
      · rw [Int.max_eq_left (by omega), Int.mul_zero]
        have := Int.mul_nonneg (Int.le_of_lt hs) (show 0 ≤ q by omega)
        omega
  · exact ⟨Int.le_refl 0, fun i h0 hi => by omega, fun h => absurd h (by assumption)⟩
theorem rnd_none {A : List Int} {w : Int} {o : Nat} (h : ¬(rnd A w < o ∧ w ≤ A.sum * rnd A w + ah A)) : ∀ i : Nat, i < o → A.sum * (i : Int) + ah A < w := by
  obtain ⟨h0, h1, h2⟩ := rnd_least (A := A) (w := w)
  intro i hi
  by_cases hr : (i : Int) < rnd A w
  · exact h1 i (by omega) hr
  · have h3 : ¬ w ≤ A.sum * rnd A w + ah A := fun hh => h ⟨by omega, hh⟩
    have h4 : ¬ 0 < A.sum := fun hh => h3 (h2 hh)
    have e : rnd A w = 0 := by unfold rnd; rw [if_neg h4]
    rw [e, Int.mul_zero] at h3
    have := Int.mul_nonneg_of_nonpos_of_nonpos (show A.sum ≤ 0 by omega) (show -(i : Int) ≤ 0 by omega)
    rw [Int.mul_neg] at this
    omega
/-- what the program's rounds come to -/
theorem reF_eq {A : List Int} (h : Stp A) (h0 : A ≠ []) {o : Nat} {w : Int} (hw : 1 ≤ w) : reF A (o : Int) w = match rch (rpI o A) w with
    | some j => (some (j : Int), 0)
    | none => (none, w - (rpI o A).sum) := by
  obtain ⟨r0, r1, r2⟩ := rnd_least (A := A) (w := w)
  unfold reF
  rw [rpI_sum]
  by_cases hc : rnd A w < (o : Int) ∧ w ≤ A.sum * rnd A w + ah A
  · rw [if_pos hc]
    obtain ⟨r, hr⟩ : ∃ r : Nat, rnd A w = (r : Int) := ⟨(rnd A w).toNat, by omega⟩
    rw [hr] at hc r1 r2 ⊢
    obtain ⟨m, rfl⟩ : ∃ m, o = r + (m + 1) := ⟨o - r - 1, by omega⟩
    have hle : 1 ≤ w - A.sum * (r : Int) := by
      by_cases hz : r = 0
      · subst hz
        simp
        omega
      · have := r1 ((r : Int) - 1) (by omega) (by omega)
        rw [Int.mul_sub, Int.mul_one] at this
        have := ah_sum h0
        omega
    obtain ⟨j, hj⟩ := rch_some h hle (by have := ah_le_mp0 A; omega)
    rw [rch_rounds h r (m + 1) hw (fun i hi => r1 i (by omega) (by omega)) h0, rpI_succ, rch_app, hj]
    dsimp only [Option.map_some]
    congr 2
    rw [Int.natCast_add, Int.natCast_mul]
    omega
  · rw [if_neg hc]
    have hn : rch (rpI o A) w = none := by
      have := rch_rounds h o 0 hw (rnd_none hc) h0
      rw [Nat.add_zero] at this
      rw [this]
      rfl
    rw [hn]
/-- some patterns, each so often, with the number of the cell where it begins -/
def paF : List (List Int × Int × Int) → Int → Option Int × Int
  | [], w => (none, w)
  | q :: r, w => match reF q.1 q.2.1 w with
    | (some c, _) => (some (q.2.2 + c), 0)
    | (none, w') => paF r w'
def parts (ns : List Int) (o g pl at_ : Int) : List (List Int × Int × Int) := [(ns.drop pl.toNat, 1, at_ + pl), (ns, o - g - 1, at_ + ns.length)]
def laB (p first : Int) (b : Blk) (w : Int) : Option Int × Int :=
  let g := (max 0 (first - b.2.2)) / (b.1.length : Int)
  let pl := (max 0 (first - b.2.2)) % (b.1.length : Int)
  if g < b.2.1 then paF (parts (cn b.1 b.2.2 p) b.2.1 g pl (b.2.2 + g * b.1.length)) w else (none, w)
def la (p first : Int) : List Blk → Int → Option Int
  | [], _ => none
  | b :: r, w => match laB p first b w with
    | (some x, _) => some x
    | (none, w') => la p first r w'
theorem rpI_drop (A : List Int) (g pl m : Nat) (h : pl ≤ A.length) : (rpI (g + 1 + m) A).drop (g * A.length + pl) = A.drop pl ++ rpI m A := by
  rw [show g + 1 + m = g + (1 + m) by omega, rpI_add, ← List.drop_drop, List.drop_left' (rpI_len g A), show 1 + m = m + 1 by omega, rpI_succ, List.drop_append_of_le_length h]
theorem rpI_one (A : List Int) : rpI 1 A = A := by simp [rpI]
theorem laB_eq {l : List Nat} {n b p first : Int} (hl : l ≠ []) (hn : 1 ≤ n) (h : l.length % 2 = 0 ∨ n = 1) {w : Int} (hw : 1 ≤ w) :
    laB p first (l, n, b) w = match rch ((cn (rp l n.toNat) b p).drop (first - b).toNat) w with
    | some j => (some (max first b + j), 0)
    | none => (none, w - ((cn (rp l n.toNat) b p).drop (first - b).toNat).sum) := by
  have hlen : 0 < l.length := List.length_pos_iff.mpr hl
  have hcl := cn_len l b p
  have hc0 := cn_ne hl b p
  have hst := cn_stp l b p
  have hrp : cn (rp l n.toNat) b p = rpI n.toNat (cn l b p) := by
    rcases h with h | h
    · exact cn_rp h b p _
    · subst h
      show cn (rp l 1) b p = rpI 1 (cn l b p)
      rw [rp_one, rpI_one]
  obtain ⟨d, hd⟩ : ∃ d : Nat, max 0 (first - b) = (d : Int) := ⟨(max 0 (first - b)).toNat, by omega⟩
  have hd2 : (first - b).toNat = d := by omega
  have hd3 : max first b = b + d := by omega
  unfold laB
  dsimp only
  rw [hd, hd2, hd3, hrp]
  have hg : ((d : Int) / (l.length : Int)) = ((d / l.length : Nat) : Int) := (Int.natCast_ediv _ _).symm
  have hp : ((d : Int) % (l.length : Int)) = ((d % l.length : Nat) : Int) := (Int.natCast_emod _ _).symm
  rw [hg, hp]
  have hdm := Nat.div_add_mod d l.length
  have hml := Nat.mod_lt d hlen
  obtain ⟨g, hgg⟩ : ∃ g, d / l.length = g := ⟨_, rfl⟩
  obtain ⟨pl, hpp⟩ : ∃ pl, d % l.length = pl := ⟨_, rfl⟩
  rw [hgg, hpp] at hdm ⊢
  rw [hpp] at hml
  rw [Nat.mul_comm] at hdm
  generalize cn l b p = C at hcl hc0 hst
  by_cases hlt : (g : Int) < n
  · rw [if_pos hlt]
    obtain ⟨m, hm⟩ : ∃ m : Nat, n.toNat = g + 1 + m := ⟨n.toNat - g - 1, by omega⟩
    have e1 : n - (g : Int) - 1 = (m : Int) := by omega
    have e2 : (rpI n.toNat C).drop d = C.drop pl ++ rpI m C := by
      rw [hm, ← hdm, ← hcl]
      exact rpI_drop C g pl m (by omega)
    have hne : C.drop pl ≠ [] := fun e => by
      have := congrArg List.length e
      rw [List.length_drop] at this
      simp at this
      omega
    have a1 := reF_eq (hst.drop pl) hne (o := 1) hw
    rw [rpI_one] at a1
    rw [e2, rch_app]
    unfold parts
    rw [e1, show ((pl : Nat) : Int).toNat = pl from Int.toNat_natCast pl]
    show paF _ w = _
    rw [paF]
    dsimp only
    rw [show (1 : Int) = ((1 : Nat) : Int) from rfl, a1]
    have hmul : ((g * l.length : Nat) : Int) = (g : Int) * (l.length : Int) := Int.natCast_mul _ _
    cases hr : rch (C.drop pl) w with
    | some j =>
      dsimp only
      congr 2
      omega
    | none =>
      dsimp only
      have hw2 : 1 ≤ w - (C.drop pl).sum := by
        have := (rch_none (hst.drop pl) hw).mp hr
        have := sum_le_mp0 (C.drop pl)
        omega
      rw [paF]
      dsimp only
      rw [reF_eq hst hc0 hw2]
      cases hr2 : rch (rpI m C) (w - (C.drop pl).sum) with
      | some j =>
        dsimp only [Option.map_some]
        congr 2
        rw [List.length_drop]
        omega
      | none =>
        dsimp only [Option.map_none]
        rw [paF, List.sum_append]
        congr 1
        omega
  · rw [if_neg hlt]
    have e2 : (rpI n.toNat C).drop d = [] := by
      refine List.drop_eq_nil_of_le ?_
      rw [rpI_len, hcl, ← hdm]
      have : n.toNat * l.length ≤ g * l.length := Nat.mul_le_mul_right _ (by omega)
      omega
    rw [e2]
    show _ = (none, w - ([] : List Int).sum)
    simp
theorem la_eq {p first : Int} : ∀ {bs : List Blk} {b e w : Int}, Chain b bs e → 1 ≤ w → la p first bs w = Option.map (fun j : Nat => max first b + (j : Int)) (rch ((cn (cellsB bs) b p).drop (first - b).toNat) w)
  | [], b, e, w, _, _ => by simp [la, cellsB, cn, rch]
  | (l, n, c) :: r, b, e, w, ⟨h1, h2, h3, h4, h5⟩, hw => by
    subst h1
    have hlen : ((rp l n.toNat).length : Int) = l.length * n := by
      rw [rp_len, Int.natCast_mul, Int.toNat_of_nonneg (by omega), Int.mul_comm]
    rw [la, laB_eq h2 h3 h4 hw]
    show _ = Option.map _ (rch ((cn (rp l n.toNat ++ cellsB r) c p).drop (first - c).toNat) w)
    rw [cn_app, hlen]
    have hcl := cn_len (rp l n.toNat) c p
    have hst := cn_stp (rp l n.toNat) c p
    have hln : (l.length : Int) * n = ((cn (rp l n.toNat) c p).length : Int) := by rw [hcl, hlen]
    rw [hln] at h5 ⊢
    clear hln hlen hcl
    generalize cn (rp l n.toNat) c p = B at hst h5 ⊢
    rw [List.drop_append, rch_app]
    by_cases hin : (first - c).toNat ≤ B.length
    · cases hr : rch (B.drop (first - c).toNat) w with
      | some j => rfl
      | none =>
        dsimp only
        have hw2 : 1 ≤ w - (B.drop (first - c).toNat).sum := by
          have := (rch_none (hst.drop _) hw).mp hr
          have := sum_le_mp0 (B.drop (first - c).toNat)
          omega
        rw [la_eq h5 hw2, show (first - (c + (B.length : Int))).toNat = (first - c).toNat - B.length by omega, Option.map_map]
        congr 1
        funext x
        show _ = max first c + ((x + (B.drop (first - c).toNat).length : Nat) : Int)
        rw [List.length_drop]
        omega
    · have e0 : B.drop (first - c).toNat = [] := List.drop_eq_nil_of_le (by omega)
      rw [e0]
      show la p first r (w - ([] : List Int).sum) = Option.map _ (Option.map (fun x => x + 0) (rch _ (w - ([] : List Int).sum)))
      rw [show w - ([] : List Int).sum = w by simp, la_eq h5 hw, show (first - (c + (B.length : Int))).toNat = (first - c).toNat - B.length by omega, Option.map_map]
      congr 1
      funext x
      show _ = max first c + ((x + 0 : Nat) : Int)
      omega
end FM

/-! FM6: the least tight stretch of all cells. -/
namespace FM
abbrev z0 : LB := ⟨0, none, 0⟩
theorem ah_le_ms0 : ∀ {A : List Int} {i : Nat}, i < A.length → ah (A.drop i) ≤ ms0 A
  | a :: A, 0, _ => by
    rw [List.drop_zero, ah, ms0]
    omega
  | a :: A, i + 1, h => by
    have := ah_le_ms0 (A := A) (i := i) (by simpa using h)
    rw [List.drop_succ_cons, ms0]
    omega
theorem goT_f : ∀ (A : List Int) (b : Int), 0 < ms0 A → ∃ i : Nat, i < A.length ∧ (goT A b z0).f = some (b + i) ∧ ah (A.drop i) = ms0 A ∧ ∀ k, k < i → ah (A.drop k) < ms0 A
  | [], _, h => by simp [ms0] at h
  | a :: A, b, h => by
    have hw := goT_w A (b + 1)
    have hl := goT_l A (b + 1) z0
    have hm := mpl0 A
    rw [goT]
    unfold stp
    rw [hw, hl]
    dsimp only
    rw [hm]
    by_cases hc : max 1 (ms0 A) ≤ a + mp0 A
    · rw [if_pos hc]
      refine ⟨0, by simp, by simp, ?_, fun k hk => absurd hk (by omega)⟩
      rw [List.drop_zero, ah, ms0]
      omega
    · rw [if_neg hc]
      rw [ms0] at h
      obtain ⟨i, h1, h2, h3, h4⟩ := goT_f A (b + 1) (by omega)
      refine ⟨i + 1, by simpa using h1, ?_, ?_, fun k hk => ?_⟩
      · dsimp only
        rw [h2]
        congr 1
        omega
      · rw [List.drop_succ_cons, h3, ms0]
        omega
      · cases k with
        | zero =>
          rw [List.drop_zero, ah, ms0]
          omega
        | succ k =>
          have := h4 k (by omega)
          rw [List.drop_succ_cons, ms0]
          omega
/-- the least stretch of the greatest worth -/
def tg1 (A : List Int) : Option (Nat × Nat) := match (goT A 0 z0).f with
  | some i => match rch (A.drop i.toNat) (ms0 A) with
    | some j => some (i.toNat, i.toNat + j)
    | none => none
  | none => none
theorem tg1_some {A : List Int} (hs : Stp A) (h : 0 < ms0 A) : ∃ i j, tg1 A = some (i, i + j) ∧ i < A.length ∧ (goT A 0 z0).f = some (i : Int) ∧ rch (A.drop i) (ms0 A) = some j ∧ ah (A.drop i) = ms0 A ∧ ∀ k, k < i → ah (A.drop k) < ms0 A := by
  obtain ⟨i, h1, h2, h3, h4⟩ := goT_f A 0 h
  obtain ⟨j, hj⟩ := rch_some (hs.drop i) (w := ms0 A) (by omega) (by rw [← h3]; exact ah_le_mp0 _)
  have h5 : (goT A 0 z0).f = some (i : Int) := by rw [h2]; congr 1; omega
  refine ⟨i, j, ?_, h1, h5, hj, h3, h4⟩
  unfold tg1
  rw [h5]
  dsimp only
  rw [Int.toNat_natCast, hj]
end FM

/-! FM7: what far_tight tells, as data. -/
namespace FM
open PL PySem
theorem t3_all {α : Type} (m : α → PyData) : ∀ {xs : List α}, (∀ x ∈ xs, ∃ a b c, m x = t3 a b c) → PySem.W.AlikeAll (xs.map m) ∧ PyData.depthAll (xs.map m) ≤ 32 := by
  intro xs h
  refine ⟨⟨fun x hx y hy => ?_, fun x hx => ?_⟩, ?_⟩
  · obtain ⟨a, ha, rfl⟩ := List.mem_map.mp hx
    obtain ⟨b, hb, rfl⟩ := List.mem_map.mp hy
    obtain ⟨_, _, _, e⟩ := h a ha
    obtain ⟨_, _, _, e2⟩ := h b hb
    rw [e, e2]
    simp [t3, PySem.W.alike, PySem.W.alikeAll]
  · obtain ⟨a, ha, rfl⟩ := List.mem_map.mp hx
    obtain ⟨_, _, _, e⟩ := h a ha
    rw [e]
    intro e2
    cases e2
  · have : ∀ ys : List α, (∀ x ∈ ys, ∃ a b c, m x = t3 a b c) → PyData.depthAll (ys.map m) ≤ 3 := by
      intro ys
      induction ys with
      | nil => intro _; simp [PyData.depthAll]
      | cons y ys ih =>
        intro h
        obtain ⟨_, _, _, e⟩ := h y List.mem_cons_self
        have := ih fun x hx => h x (List.mem_cons_of_mem _ hx)
        rw [List.map_cons, e]
        simp [t3, PyData.depthAll, PyData.depth]
        omega
    have := this xs h
    omega
/-- of one parity: whether it is of the greatest worth, and its least stretch -/
def tgP (A : Nat → List Int) (x : Nat) : Bool := decide (ms0 (A x) = max (ms0 (A 0)) (ms0 (A 1))) && decide (0 < ms0 (A x))
def tgM (A : Nat → List Int) (x : Nat) : PyData := match tg1 (A x) with
  | some (i, j) => t3 i j x
  | none => .none
def tgD (A : Nat → List Int) : PyData := match ([0, 1].filter (tgP A)).map (tgM A) with
  | [] => .none
  | y :: ys => PySem.W.minD y ys
end FM

/-! FM8: the same cells told otherwise. -/
namespace FM
open PL PySem
/-- idle signs are alike -/
def idl (c : Nat) : Nat := if c = 46 then 48 else c
theorem cw_idl (c : Nat) (m : Bool) : cw (idl c) m = cw c m := by
  unfold idl
  split
  · rename_i h
    subst h
    rfl
  · rfl
theorem cn_idl : ∀ (l : List Nat) (b p : Int), cn (l.map idl) b p = cn l b p
  | [], _, _ => rfl
  | c :: l, b, p => by rw [List.map_cons, cn, cn, cw_idl, cn_idl l]
/-- the same cells, but for idle signs -/
def Same (rs rs' : List (List Nat × Int)) : Prop := (cells rs').map idl = (cells rs).map idl
theorem Same.cn {rs rs' : List (List Nat × Int)} (h : Same rs rs') (b p : Int) : cn (cells rs') b p = cn (cells rs) b p := by
  rw [← cn_idl (cells rs'), h, cn_idl]
theorem Same.refl (rs : List (List Nat × Int)) : Same rs rs := rfl
theorem Same.trans {a b c : List (List Nat × Int)} (h : Same a b) (h' : Same b c) : Same a c := Eq.trans h' h
theorem cells_app (a b : List (List Nat × Int)) : cells (a ++ b) = cells a ++ cells b := by simp [cells]
theorem Same.mid {A B ns : List (List Nat × Int)} {r : List Nat × Int} (h : Same [r] ns) : Same (A ++ r :: B) (A ++ ns ++ B) := by
  unfold Same at *
  rw [show A ++ r :: B = A ++ [r] ++ B by simp, cells_app, cells_app, cells_app, cells_app, List.map_append, List.map_append, h, List.map_append, List.map_append]
theorem cells_one (l : List Nat) (t : Int) : cells [(l, t)] = rp l t.toNat := by simp [cells]
theorem cells_two (l : List Nat) (t : Int) (l' : List Nat) (t' : Int) : cells [(l, t), (l', t')] = rp l t.toNat ++ rp l' t'.toNat := by simp [cells]
theorem same_part {l : List Nat} {t k : Int} (h0 : 0 ≤ k) (h1 : k ≤ t) : Same [(l, t)] [(l, k), (l, t - k)] := by
  unfold Same
  rw [cells_one, cells_two, ← rp_add, show k.toNat + (t - k).toNat = t.toNat by omega]
theorem same_dbl {l : List Nat} {t : Int} (h0 : 0 ≤ t) : Same [(l, t)] ((l ++ l, t / 2) :: List.replicate (t % 2).toNat (l, 1)) := by
  unfold Same
  have e : cells ((l ++ l, t / 2) :: List.replicate (t % 2).toNat (l, (1 : Int))) = rp (l ++ l) (t / 2).toNat ++ cells (List.replicate (t % 2).toNat (l, (1 : Int))) := rfl
  have e2 : cells (List.replicate (t % 2).toNat (l, (1 : Int))) = rp l (t % 2).toNat := by
    have : (t % 2).toNat = 0 ∨ (t % 2).toNat = 1 := by omega
    rcases this with h | h <;> rw [h]
    · rfl
    · rw [List.replicate_one, cells_one]
      rfl
  rw [e, e2, cells_one, rp_dbl, ← rp_add, show 2 * (t / 2).toNat + (t % 2).toNat = t.toNat by omega]
theorem same_cut {l : List Nat} {t : Int} {k : Nat} (h0 : 1 ≤ t) : Same [(l, t)] (List.replicate (if 1 < t then 1 else 0) (l, t - 1) ++ [(l.take k, 1), (l.drop k, 1)]) := by
  unfold Same
  have e2 : cells (List.replicate (if 1 < t then 1 else 0) (l, t - 1)) = rp l (t - 1).toNat := by
    split
    · rw [List.replicate_one, cells_one]
    · rw [show (t - 1).toNat = 0 by omega]
      rfl
  rw [cells_app, e2, cells_two, cells_one]
  show _ = List.map idl (rp l t.toNat)
  have e3 : rp (l.take k) (1 : Int).toNat ++ rp (l.drop k) (1 : Int).toNat = rp l 1 := by
    show rp (l.take k) 1 ++ rp (l.drop k) 1 = _
    rw [rp_one, rp_one, rp_one, List.take_append_drop]
  rw [e3, ← rp_add, show (t - 1).toNat + 1 = t.toNat by omega]
theorem same_glue {l q : List Nat} : cells [(l ++ q, 1)] = cells [(l, 1), (q, 1)] := by
  rw [cells_one, cells_two]
  show rp (l ++ q) 1 = rp l 1 ++ rp q 1
  rw [rp_one, rp_one, rp_one]
theorem rp_map (f : Nat → Nat) (l : List Nat) (n : Nat) : (rp l n).map f = rp (l.map f) n := by
  induction n with
  | zero => rfl
  | succ n ih => rw [rp_succ, List.map_append, ih, rp_succ]
theorem same_sign {l l' : List Nat} {t : Int} (h : l'.map idl = l.map idl) : Same [(l, t)] [(l', t)] := by
  unfold Same
  rw [cells_one, cells_one, rp_map, rp_map, h]
theorem tgD_cases (A : Nat → List Int) (hs : ∀ x, Stp (A x)) : tgD A = .none ∨ ∃ a b c, tgD A = t3 a b c := by
  have hall : ∀ x ∈ [0, 1].filter (tgP A), ∃ a b c, tgM A x = t3 a b c := by
    intro x hx
    have hx := (List.mem_filter.mp hx).2
    unfold tgP at hx
    rw [Bool.and_eq_true, decide_eq_true_iff, decide_eq_true_iff] at hx
    obtain ⟨i, j, e1, _⟩ := tg1_some (hs x) hx.2
    exact ⟨i, (i + j : Nat), x, by unfold tgM; rw [e1]⟩
  have key : ∀ (ys : List PyData) (y : PyData), (∃ a b c, y = t3 a b c) → (∀ z ∈ ys, ∃ a b c, z = t3 a b c) → ∃ a b c, PySem.W.minD y ys = t3 a b c := by
    intro ys
    induction ys with
    | nil => intro y h _; exact h
    | cons z ys ih =>
      intro y h hz
      show ∃ a b c, PySem.W.minD (if PySem.W.dataLt z y then z else y) ys = t3 a b c
      refine ih _ ?_ fun w hw => hz w (List.mem_cons_of_mem _ hw)
      split
      · exact hz z List.mem_cons_self
      · exact h
  unfold tgD
  cases h : [0, 1].filter (tgP A) with
  | nil => exact .inl rfl
  | cons x xs =>
    rw [h] at hall
    refine .inr (key (xs.map (tgM A)) (tgM A x) (hall x List.mem_cons_self) fun z hz => ?_)
    obtain ⟨w, hw, rfl⟩ := List.mem_map.mp hz
    exact hall w (List.mem_cons_of_mem _ hw)
theorem farF_eq {rs : List (List Nat × Int)} (h : ∀ r ∈ rs, r.1 ≠ [] ∧ 0 ≤ r.2) : farF rs = max (ms0 (cn (cells rs) 0 0)) (ms0 (cn (cells rs) 0 1)) := by
  unfold farF
  rw [lbk_full h, lbk_full h, goT_w, goT_w]
/-- what both tell, as one datum, can be compared -/
theorem due_shaped {z : Int} {A : Nat → List Int} (hs : ∀ x, Stp (A x)) : PySem.SeqAt.shaped (.tuple [.int z, tgD A]) = true ∧ PyData.eqv (.tuple [.int z, tgD A]) (.tuple [.int z, tgD A]) = true := by
  rcases tgD_cases A hs with e | ⟨a, b, c, e⟩ <;> rw [e]
  · exact ⟨by simp [PySem.SeqAt.shaped, PyData.canLay0, PyData.canLayAll0, PyData.depth, PyData.depthAll], PySem.W.eqv_refl_alike _ (by simp [PySem.W.alike, PySem.W.alikeAll])⟩
  · exact ⟨by simp [PySem.SeqAt.shaped, t3, PyData.canLay0, PyData.canLayAll0, PyData.depth, PyData.depthAll], PySem.W.eqv_refl_alike _ (by simp [t3, PySem.W.alike, PySem.W.alikeAll])⟩
end FM

/-! FM9: one cell otherwise, turned about, once more. -/
namespace FM
open PL PySem
/-- a change at one place, by so much at most -/
theorem mp0_one (A B : List Int) {a a' d : Int} (hd : 0 ≤ d) (h : a' ≤ a + d) : mp0 (A ++ a' :: B) ≤ mp0 (A ++ a :: B) + d := by
  induction A with
  | nil =>
    show max 0 _ ≤ max 0 _ + d
    omega
  | cons c A ih =>
    show max 0 (c + mp0 (A ++ a' :: B)) ≤ max 0 (c + mp0 (A ++ a :: B)) + d
    omega
theorem ms0_one (A B : List Int) {a a' d : Int} (hd : 0 ≤ d) (h : a' ≤ a + d) : ms0 (A ++ a' :: B) ≤ ms0 (A ++ a :: B) + d := by
  induction A with
  | nil =>
    show max _ _ ≤ max _ _ + d
    omega
  | cons c A ih =>
    have := mp0_one A B hd h
    show max (c + mp0 (A ++ a' :: B)) (ms0 (A ++ a' :: B)) ≤ max (c + mp0 (A ++ a :: B)) (ms0 (A ++ a :: B)) + d
    omega
theorem mp0_app (A B : List Int) : mp0 (A ++ B) ≤ mp0 A + mp0 B := by
  induction A with
  | nil =>
    show mp0 B ≤ 0 + mp0 B
    omega
  | cons c A ih =>
    have := mp0_nn B
    show max 0 (c + mp0 (A ++ B)) ≤ max 0 (c + mp0 A) + mp0 B
    omega
theorem mp0_le_ms0 (A : List Int) : mp0 A ≤ ms0 A := by
  cases A with
  | nil => exact Int.le_refl _
  | cons a A =>
    have := ms0_nn A
    rw [mp0, ms0]
    omega
theorem ms0_sub (A B : List Int) : ms0 (A ++ B) ≤ ms0 A + ms0 B := by
  induction A with
  | nil =>
    show ms0 B ≤ 0 + ms0 B
    omega
  | cons c A ih =>
    have h1 := mp0_app A B
    have h2 := mp0_le_ms0 B
    show max (c + mp0 (A ++ B)) (ms0 (A ++ B)) ≤ max (c + mp0 A) (ms0 A) + ms0 B
    omega
theorem mp0_pre (A B : List Int) : mp0 A ≤ mp0 (A ++ B) := by
  induction A with
  | nil => exact mp0_nn B
  | cons c A ih =>
    show max 0 (c + mp0 A) ≤ max 0 (c + mp0 (A ++ B))
    omega
theorem ms0_pre (A B : List Int) : ms0 A ≤ ms0 (A ++ B) := by
  induction A with
  | nil => exact ms0_nn B
  | cons c A ih =>
    have := mp0_pre A B
    show max (c + mp0 A) (ms0 A) ≤ max (c + mp0 (A ++ B)) (ms0 (A ++ B))
    omega
/-! turned about -/
def flp (x : Pc) : Pc := ⟨x.s, x.b, x.a, x.m⟩
theorem flp_jn (x y : Pc) : flp (jn x y) = jn (flp y) (flp x) := by
  unfold flp jn
  congr 1 <;> dsimp only <;> omega
theorem pcOf_rev : ∀ {A : List Int}, A ≠ [] → pcOf A.reverse = flp (pcOf A)
  | [], h => absurd rfl h
  | [a], _ => rfl
  | a :: c :: A, _ => by
    have ih := pcOf_rev (A := c :: A) (by simp)
    have e1 : pcOf (a :: c :: A) = jn ⟨a, a, a, a⟩ (pcOf (c :: A)) := pcOf_app (A := [a]) (B := c :: A) (by simp) (by simp)
    have e2 : (a :: c :: A).reverse = (c :: A).reverse ++ [a] := by rw [List.reverse_cons]
    rw [e2, pcOf_app (by simp) (by simp), ih, e1, flp_jn]
    rfl
theorem ms0_rev (A : List Int) : ms0 A.reverse = ms0 A := by
  by_cases h : A = []
  · rw [h]
    rfl
  · rw [← (pcOf_m _ (fun e => h (List.reverse_eq_nil_iff.mp e))).2, ← (pcOf_m A h).2, pcOf_rev h]
    rfl
theorem cn_rev : ∀ (l : List Nat) (b p : Int), (cn l b p).reverse = cn l.reverse (b + l.length - 1) p ∨ True := fun _ _ _ => .inr trivial
/-- counts told from the other end -/
def cd : List Nat → Int → Int → List Int
  | [], _, _ => []
  | c :: l, b, p => cw c (decide (b % 2 = p)) :: cd l (b - 1) p
theorem cd_cn : ∀ (l : List Nat) {b b' : Int} (p : Int), b % 2 = b' % 2 → cd l b p = cn l b' p
  | [], _, _, _, _ => rfl
  | c :: l, b, b', p, h => by rw [cd, cn, h, cd_cn l p (by omega : (b - 1) % 2 = (b' + 1) % 2)]
theorem cd_app : ∀ (l m : List Nat) (b p : Int), cd (l ++ m) b p = cd l b p ++ cd m (b - l.length) p
  | [], m, b, p => by simp [cd]
  | c :: l, m, b, p => by
    have e : b - ((c :: l).length : Int) = b - 1 - l.length := by rw [List.length_cons]; omega
    rw [List.cons_append, cd, cd_app l m (b - 1) p, cd, List.cons_append, e]
theorem cn_revd : ∀ (l : List Nat) (b p : Int), (cn l b p).reverse = cd l.reverse (b + l.length - 1) p
  | [], _, _ => rfl
  | c :: l, b, p => by
    rw [cn, List.reverse_cons, cn_revd l (b + 1) p, List.reverse_cons, cd_app, List.length_reverse, List.length_cons]
    rw [show b + 1 + (l.length : Int) - 1 = b + ((l.length + 1 : Nat) : Int) - 1 by omega]
    congr 1
    show _ = [cw c (decide ((b + ((l.length + 1 : Nat) : Int) - 1 - l.length) % 2 = p))]
    rw [show b + ((l.length + 1 : Nat) : Int) - 1 - (l.length : Int) = b by omega]
theorem far_rev (l : List Nat) : max (ms0 (cn l.reverse 0 0)) (ms0 (cn l.reverse 0 1)) = max (ms0 (cn l 0 0)) (ms0 (cn l 0 1)) := by
  have key : ∀ p : Int, ms0 (cn l 0 p) = ms0 (cn l.reverse (0 + l.length - 1) p) := fun p => by
    rw [← ms0_rev, cn_revd, cd_cn _ p rfl]
  have flip : ∀ (m : List Nat) (b p : Int), (p = 0 ∨ p = 1) → cn m (b + 1) p = cn m b (1 - p) := by
    intro m
    induction m with
    | nil => intro b p _; rfl
    | cons c m ih =>
      intro b p hp
      rw [cn, cn, ih (b + 1) p hp]
      congr 2
      exact decide_eq_decide.mpr (by omega)
  by_cases h : (l.length : Int) % 2 = 1
  · rw [key 0, key 1, cn_par _ 0 (by omega : (0 + (l.length : Int) - 1) % 2 = 0 % 2), cn_par _ 1 (by omega : (0 + (l.length : Int) - 1) % 2 = 0 % 2)]
  · rw [key 0, key 1, cn_par _ 0 (by omega : (0 + (l.length : Int) - 1) % 2 = (0 + 1) % 2), cn_par _ 1 (by omega : (0 + (l.length : Int) - 1) % 2 = (0 + 1) % 2), flip _ 0 0 (.inl rfl), flip _ 0 1 (.inr rfl)]
    show _ = max (ms0 (cn l.reverse 0 1)) (ms0 (cn l.reverse 0 0))
    omega
theorem rp_rev (l : List Nat) : ∀ n, (rp l n).reverse = rp l.reverse n
  | 0 => rfl
  | n + 1 => by
    rw [rp_succ, List.reverse_append, rp_rev l n, show n + 1 = n + 1 from rfl, rp_add l.reverse n 1, rp_one]
theorem cells_rev : ∀ rs : List (List Nat × Int), cells (rs.reverse.map fun r => (r.1.reverse, r.2)) = (cells rs).reverse
  | [] => rfl
  | r :: rs => by
    rw [List.reverse_cons, List.map_append, cells_app, cells_rev rs]
    show (cells rs).reverse ++ cells [(r.1.reverse, r.2)] = (rp r.1 r.2.toNat ++ cells rs).reverse
    rw [cells_one, List.reverse_append, rp_rev]
/-! once more -/
theorem once_more (l : List Nat) (n : Nat) : max (ms0 (cn (rp l (n + 1)) 0 0)) (ms0 (cn (rp l (n + 1)) 0 1)) ≤ max (ms0 (cn (rp l n) 0 0)) (ms0 (cn (rp l n) 0 1)) + max (ms0 (cn l 0 0)) (ms0 (cn l 0 1)) ∧
    max (ms0 (cn (rp l n) 0 0)) (ms0 (cn (rp l n) 0 1)) ≤ max (ms0 (cn (rp l (n + 1)) 0 0)) (ms0 (cn (rp l (n + 1)) 0 1)) := by
  have flip : ∀ (m : List Nat) (b p : Int), (p = 0 ∨ p = 1) → cn m (b + 1) p = cn m b (1 - p) := by
    intro m
    induction m with
    | nil => intro b p _; rfl
    | cons c m ih =>
      intro b p hp
      rw [cn, cn, ih (b + 1) p hp]
      congr 2
      exact decide_eq_decide.mpr (by omega)
  have hb : ∀ p : Int, (p = 0 ∨ p = 1) → ms0 (cn l (0 + (rp l n).length) p) ≤ max (ms0 (cn l 0 0)) (ms0 (cn l 0 1)) := by
    intro p hp
    by_cases h : ((rp l n).length : Int) % 2 = 0
    · rw [cn_par l p (by omega : (0 + ((rp l n).length : Int)) % 2 = 0 % 2)]
      rcases hp with rfl | rfl <;> omega
    · rw [cn_par l p (by omega : (0 + ((rp l n).length : Int)) % 2 = (0 + 1) % 2), flip l 0 p hp]
      rcases hp with rfl | rfl
      · show ms0 (cn l 0 1) ≤ _
        omega
      · show ms0 (cn l 0 0) ≤ _
        omega
  rw [rp_add l n 1, rp_one, cn_app, cn_app]
  have h1 := ms0_sub (cn (rp l n) 0 0) (cn l (0 + (rp l n).length) 0)
  have h2 := ms0_sub (cn (rp l n) 0 1) (cn l (0 + (rp l n).length) 1)
  have h3 := ms0_pre (cn (rp l n) 0 0) (cn l (0 + (rp l n).length) 0)
  have h4 := ms0_pre (cn (rp l n) 0 1) (cn l (0 + (rp l n).length) 1)
  have h5 := hb 0 (.inl rfl)
  have h6 := hb 1 (.inr rfl)
  omega
/-- one cell otherwise -/
theorem one_cell (A B : List Nat) {c c' : Nat} {d : Int} (hd : 0 ≤ d) (h : ∀ m, cw c' m ≤ cw c m + d) :
    max (ms0 (cn (A ++ c' :: B) 0 0)) (ms0 (cn (A ++ c' :: B) 0 1)) ≤ max (ms0 (cn (A ++ c :: B) 0 0)) (ms0 (cn (A ++ c :: B) 0 1)) + d := by
  have key : ∀ p : Int, ms0 (cn (A ++ c' :: B) 0 p) ≤ ms0 (cn (A ++ c :: B) 0 p) + d := by
    intro p
    rw [cn_app, cn_app, cn, cn]
    exact ms0_one _ _ hd (h _)
  have h0 := key 0
  have h1 := key 1
  omega
end FM

/-! FM10: a strip cut in two. -/
namespace FM
open PL PySem
def ctR (cell b : Int) (r : List Nat × Int) : Int := max 0 (min r.2 ((cell - b) / r.1.length))
def ctP (cell b : Int) (r : List Nat × Int) : Int := if ctR cell b r < r.2 ∧ b < cell then (cell - b) % r.1.length else 0
def ctA (cell b : Int) (r : List Nat × Int) : List (List Nat × Int) := [(r.1, ctR cell b r), (r.1.take (ctP cell b r).toNat, 1)]
def ctB (cell b : Int) (r : List Nat × Int) : List (List Nat × Int) := [(r.1.drop (ctP cell b r).toNat, if 0 < ctP cell b r then 1 else 0), (r.1, r.2 - ctR cell b r - (if 0 < ctP cell b r then 1 else 0))]
def ctS (cell : Int) (S : Int × List (List Nat × Int) × List (List Nat × Int)) (r : List Nat × Int) : Int × List (List Nat × Int) × List (List Nat × Int) :=
  (S.1 + r.1.length * r.2, S.2.1 ++ ctA cell S.1 r, S.2.2 ++ ctB cell S.1 r)
/-- what stands is kept -/
def kp (r : List Nat × Int) : Bool := decide (r.1 ≠ []) && decide (0 < r.2)
def ctF (rs : List (List Nat × Int)) (cell : Int) : Int × List (List Nat × Int) × List (List Nat × Int) := rs.foldl (ctS cell) (0, [], [])
theorem cells_kp (ns : List (List Nat × Int)) : cells (ns.filter kp) = cells ns := by
  induction ns with
  | nil => rfl
  | cons r ns ih =>
    have e : cells (r :: ns) = rp r.1 r.2.toNat ++ cells ns := rfl
    by_cases h : kp r = true
    · rw [List.filter_cons_of_pos h, e, ← ih]
      rfl
    · rw [List.filter_cons_of_neg h, ih, e]
      have : rp r.1 r.2.toNat = [] := by
        unfold kp at h
        rw [Bool.and_eq_true, decide_eq_true_iff, decide_eq_true_iff] at h
        by_cases h1 : r.1 = []
        · rw [h1]
          have : ∀ n, rp [] n = [] := fun n => by
            induction n with
            | zero => rfl
            | succ n ih => rw [rp_succ, ih]; rfl
          exact this _
        · rw [show r.2.toNat = 0 by have : ¬ 0 < r.2 := fun hh => h ⟨h1, hh⟩; omega]
          rfl
      rw [this]
      rfl
theorem ct_one {l : List Nat} {t b cell : Int} (hl : l ≠ []) (ht : 0 ≤ t) : cells (ctA cell b (l, t)) = (rp l t.toNat).take (cell - b).toNat ∧ cells (ctB cell b (l, t)) = (rp l t.toNat).drop (cell - b).toNat := by
  have hlen : 0 < l.length := List.length_pos_iff.mpr hl
  have hln : (0 : Int) < l.length := by omega
  by_cases hc : b < cell
  · obtain ⟨d, hd⟩ : ∃ d : Nat, cell - b = (d : Int) := ⟨(cell - b).toNat, by omega⟩
    have hq : (cell - b) / (l.length : Int) = ((d / l.length : Nat) : Int) := by rw [hd]; exact (Int.natCast_ediv _ _).symm
    have hm : (cell - b) % (l.length : Int) = ((d % l.length : Nat) : Int) := by rw [hd]; exact (Int.natCast_emod _ _).symm
    have hdm := Nat.div_add_mod d l.length
    have hml := Nat.mod_lt d hlen
    rw [Nat.mul_comm] at hdm
    obtain ⟨g, hg⟩ : ∃ g, d / l.length = g := ⟨_, rfl⟩
    obtain ⟨pl, hp⟩ : ∃ pl, d % l.length = pl := ⟨_, rfl⟩
    rw [hg] at hq hdm
    rw [hp] at hm hdm hml
    have hdt : (cell - b).toNat = g * l.length + pl := by omega
    by_cases hgt : (g : Int) < t
    · have e1 : ctR cell b (l, t) = (g : Int) := by
        unfold ctR
        dsimp only
        rw [hq]
        omega
      have e2 : ctP cell b (l, t) = (pl : Int) := by
        unfold ctP
        rw [e1]
        dsimp only
        rw [if_pos ⟨hgt, hc⟩, hm]
      obtain ⟨m, hmm⟩ : ∃ m : Nat, t.toNat = g + 1 + m := ⟨t.toNat - g - 1, by omega⟩
      have e3 : rp l t.toNat = rp l g ++ (l ++ rp l m) := by rw [hmm, show g + 1 + m = g + (1 + m) by omega, rp_add, rp_add, rp_one]
      unfold ctA ctB
      rw [e1, e2, hdt, e3, cells_two, cells_two]
      dsimp only
      rw [Int.toNat_natCast, Int.toNat_natCast]
      have t1 : ∀ X : List Nat, (rp l g ++ X).take (g * l.length + pl) = rp l g ++ X.take pl := fun X => by
        rw [← rp_len l g]
        exact List.take_length_add_append pl
      have t2 : ∀ X : List Nat, (rp l g ++ X).drop (g * l.length + pl) = X.drop pl := fun X => by
        rw [← rp_len l g]
        exact List.drop_length_add_append pl
      constructor
      · rw [t1, List.take_append_of_le_length (by omega)]
        show rp l g ++ rp (l.take pl) 1 = _
        rw [rp_one]
      · rw [t2, List.drop_append_of_le_length (by omega)]
        by_cases hp0 : 0 < (pl : Int)
        · rw [if_pos hp0, show (t - (g : Int) - 1).toNat = m by omega]
          show rp (l.drop pl) 1 ++ rp l m = _
          rw [rp_one]
        · have : pl = 0 := by omega
          subst this
          rw [if_neg hp0, show (t - (g : Int) - 0).toNat = 1 + m by omega, rp_add, rp_one]
          rfl
    · have e1 : ctR cell b (l, t) = t := by
        unfold ctR
        dsimp only
        rw [hq]
        omega
      have e2 : ctP cell b (l, t) = 0 := by
        unfold ctP
        rw [e1, if_neg (by dsimp only; omega)]
      have hle : (rp l t.toNat).length ≤ (cell - b).toNat := by
        rw [rp_len, hdt]
        have : t.toNat * l.length ≤ g * l.length := Nat.mul_le_mul_right _ (by omega)
        omega
      unfold ctA ctB
      rw [e1, e2, List.take_of_length_le hle, List.drop_eq_nil_of_le hle, cells_two, cells_two]
      dsimp only
      rw [if_neg (by decide), show (t - t - 0).toNat = 0 by omega]
      constructor
      · show rp l t.toNat ++ rp (l.take 0) 1 = _
        rw [rp_one]
        simp
      · rfl
  · have hdv : (cell - b) / (l.length : Int) ≤ 0 := by
      have := Int.ediv_le_ediv hln (show cell - b ≤ 0 by omega)
      rw [Int.zero_ediv] at this
      exact this
    have e1 : ctR cell b (l, t) = 0 := by
      unfold ctR
      dsimp only
      omega
    have e2 : ctP cell b (l, t) = 0 := by
      unfold ctP
      rw [if_neg (fun h => hc h.2)]
    unfold ctA ctB
    rw [e1, e2, show (cell - b).toNat = 0 by omega, cells_two, cells_two]
    dsimp only
    rw [if_neg (by decide), show (t - 0 - 0).toNat = t.toNat by omega]
    constructor
    · show rp l 0 ++ rp (l.take 0) 1 = _
      rw [rp_one]
      simp [rp]
    · simp [rp]
theorem ct_full {cell : Int} : ∀ {rs : List (List Nat × Int)} {b : Int} {A B : List (List Nat × Int)}, (∀ r ∈ rs, r.1 ≠ [] ∧ 0 ≤ r.2) →
    cells (rs.foldl (ctS cell) (b, A, B)).2.1 = cells A ++ (cells rs).take (cell - b).toNat ∧ cells (rs.foldl (ctS cell) (b, A, B)).2.2 = cells B ++ (cells rs).drop (cell - b).toNat
  | [], b, A, B, _ => by simp [cells]
  | (l, t) :: rs, b, A, B, h => by
    obtain ⟨h1, h2⟩ := h (l, t) List.mem_cons_self
    dsimp only at h1 h2
    have hln : ((rp l t.toNat).length : Int) = l.length * t := by rw [rp_len, Int.natCast_mul, Int.toNat_of_nonneg h2, Int.mul_comm]
    obtain ⟨c1, c2⟩ := ct_one (cell := cell) (b := b) h1 h2
    obtain ⟨i1, i2⟩ := ct_full (cell := cell) (rs := rs) (b := b + l.length * t) (A := A ++ ctA cell b (l, t)) (B := B ++ ctB cell b (l, t)) fun r hr => h r (List.mem_cons_of_mem _ hr)
    have e : cells ((l, t) :: rs) = rp l t.toNat ++ cells rs := rfl
    rw [List.foldl_cons]
    show cells (rs.foldl (ctS cell) (b + l.length * t, A ++ ctA cell b (l, t), B ++ ctB cell b (l, t))).2.1 = _ ∧ cells (rs.foldl (ctS cell) (b + l.length * t, A ++ ctA cell b (l, t), B ++ ctB cell b (l, t))).2.2 = _
    rw [i1, i2, cells_app, cells_app, c1, c2, e, List.take_append, List.drop_append, ← hln, show (cell - (b + ((rp l t.toNat).length : Int))).toNat = (cell - b).toNat - (rp l t.toNat).length by omega, List.append_assoc, List.append_assoc]
    exact ⟨rfl, rfl⟩
end FM

/-! FM11: what the told stretch is, by pieces. -/
namespace FM
open PL PySem
theorem cn_drop : ∀ (l : List Nat) (b p : Int) (n : Nat), (cn l b p).drop n = cn (l.drop n) (b + n) p
  | [], _, _, n => by cases n <;> rfl
  | c :: l, b, p, 0 => by simp
  | c :: l, b, p, n + 1 => by
    rw [cn, List.drop_succ_cons, List.drop_succ_cons, cn_drop l (b + 1) p n]
    congr 1
    omega
theorem cn_take : ∀ (l : List Nat) (b p : Int) (n : Nat), (cn l b p).take n = cn (l.take n) b p
  | [], _, _, n => by cases n <;> rfl
  | c :: l, b, p, 0 => rfl
  | c :: l, b, p, n + 1 => by rw [cn, List.take_succ_cons, List.take_succ_cons, cn, cn_take l (b + 1) p n]
theorem pcOf_sa : ∀ {A : List Int}, A ≠ [] → (pcOf A).s = A.sum ∧ (pcOf A).a = ah A
  | [], h => absurd rfl h
  | [a], _ => by simp [pcOf, ah, mp0]
  | a :: c :: A, _ => by
    obtain ⟨h1, h2⟩ := pcOf_sa (A := c :: A) (by simp)
    have e : pcOf (a :: c :: A) = jn ⟨a, a, a, a⟩ (pcOf (c :: A)) := pcOf_app (A := [a]) (B := c :: A) (by simp) (by simp)
    rw [e]
    unfold jn
    dsimp only
    have e1 : (a :: c :: A).sum = a + (c :: A).sum := List.sum_cons
    have e2 : ah (a :: c :: A) = a + mp0 (c :: A) := rfl
    have e3 := mp0_ah (c :: A)
    rw [h1, h2, e1, e2, e3]
    constructor <;> omega
theorem mp0_cross (X : List Int) {Y : List Int} : X.sum + ah Y ≤ mp0 (X ++ Y) := by
  induction X with
  | nil =>
    rw [List.sum_nil, List.nil_append, mp0_ah]
    omega
  | cons a X ih =>
    show (a :: X).sum + ah Y ≤ max 0 (a + mp0 (X ++ Y))
    rw [List.sum_cons]
    omega
/-- no stretch that begins ahead is worth so much -/
theorem cross_lt {W : Int} {Y : List Int} : ∀ {X : List Int}, X ≠ [] → (∀ k, k < X.length → ah ((X ++ Y).drop k) < W) → max (pcOf X).m ((pcOf X).b + ah Y) < W
  | [], h, _ => absurd rfl h
  | [a], _, h => by
    have := h 0 (by simp)
    rw [List.drop_zero] at this
    have e : ah ([a] ++ Y) = a + mp0 Y := rfl
    rw [e, mp0_ah] at this
    show max a (a + ah Y) < W
    omega
  | a :: c :: X, _, h => by
    have ih := cross_lt (W := W) (Y := Y) (X := c :: X) (by simp) fun k hk => by
      have := h (k + 1) (by simpa using hk)
      simpa using this
    have h0 := h 0 (by simp)
    rw [List.drop_zero] at h0
    have e0 : ah ((a :: c :: X) ++ Y) = a + mp0 ((c :: X) ++ Y) := rfl
    have h1 := mp0_pre (c :: X) Y
    have h2 := mp0_cross (c :: X) (Y := Y)
    have h3 := mp0_ah (c :: X)
    have h4 := mp0_nn (c :: X)
    obtain ⟨s1, a1⟩ := pcOf_sa (A := c :: X) (by simp)
    have e : pcOf (a :: c :: X) = jn ⟨a, a, a, a⟩ (pcOf (c :: X)) := pcOf_app (A := [a]) (B := c :: X) (by simp) (by simp)
    rw [e]
    unfold jn
    dsimp only
    rw [s1, a1]
    omega
theorem rch_lt : ∀ {A : List Int} {w : Int} {j : Nat}, rch A w = some j → j < A.length
  | [], _, _, h => by cases h
  | a :: A, w, j, h => by
    rw [rch] at h
    split at h
    · cases h
      simp
    · obtain ⟨x, hx, rfl⟩ := Option.map_eq_some_iff.mp h
      have := rch_lt hx
      simpa using this
theorem rch_sum : ∀ {A : List Int} {w : Int} {j : Nat}, rch A w = some j → (A.take (j + 1)).sum = w
  | [], _, _, h => by cases h
  | a :: A, w, j, h => by
    rw [rch] at h
    split at h
    · cases h
      simp
      omega
    · obtain ⟨x, hx, rfl⟩ := Option.map_eq_some_iff.mp h
      have := rch_sum hx
      show (a :: A.take (x + 1)).sum = w
      rw [List.sum_cons, this]
      omega
/-- sooner it is not reached -/
theorem rch_sooner {A : List Int} (hs : Stp A) {w : Int} (hw : 1 ≤ w) {j k : Nat} (h : rch A w = some j) (hk : k ≤ j) : mp0 (A.take k) < w := by
  have hst : Stp (A.take k) := fun c hc => hs c (List.mem_of_mem_take hc)
  refine (rch_none hst hw).mp ?_
  cases e : rch (A.take k) w with
  | none => rfl
  | some x =>
    have hx := rch_lt e
    have : rch (A.take k ++ A.drop k) w = some x := by rw [rch_app, e]
    rw [List.take_append_drop, h] at this
    have := Option.some.inj this
    rw [List.length_take] at hx
    omega
theorem rch_later {A : List Int} (hs : Stp A) {w : Int} (hw : 1 ≤ w) {k : Nat} (h : (A.take (k + 1)).sum = w) : ∃ j, rch A w = some j ∧ j ≤ k := by
  have hst : Stp (A.take (k + 1)) := fun c hc => hs c (List.mem_of_mem_take hc)
  obtain ⟨x, hx⟩ := rch_some hst hw (by rw [← h]; exact sum_le_mp0 _)
  have h1 := rch_lt hx
  refine ⟨x, ?_, by rw [List.length_take] at h1; omega⟩
  have : rch (A.take (k + 1) ++ A.drop (k + 1)) w = some x := by rw [rch_app, hx]
  rwa [List.take_append_drop] at this
theorem mp0_take (A : List Int) (k : Nat) : mp0 (A.take k) ≤ mp0 A := by
  have := mp0_pre (A.take k) (A.drop k)
  rwa [List.take_append_drop] at this
/-! ### the least of both parities -/
theorem ms0_w {l : List Nat} (h : 119 ∈ l) : 0 < max (ms0 (cn l 0 0)) (ms0 (cn l 0 1)) := by
  have key : ∀ (l : List Nat) (b : Int), 119 ∈ l → 0 < max (ms0 (cn l b 0)) (ms0 (cn l b 1)) := by
    intro l
    induction l with
    | nil => intro b h; cases h
    | cons c l ih =>
      intro b h
      have h1 := mp0_nn (cn l (b + 1) 0)
      have h2 := mp0_nn (cn l (b + 1) 1)
      rw [cn, cn, ms0, ms0]
      rcases List.mem_cons.mp h with rfl | h
      · have hb : b % 2 = 0 ∨ b % 2 = 1 := by omega
        rcases hb with hb | hb
        · rw [hb]
          show 0 < max (max (1 + mp0 (cn l (b + 1) 0)) _) _
          omega
        · rw [hb]
          show 0 < max _ (max (1 + mp0 (cn l (b + 1) 1)) _)
          omega
      · have := ih (b + 1) h
        omega
  exact key l 0 h
theorem ms0_now : ∀ {l : List Nat} (b p : Int), 119 ∉ l → ms0 (cn l b p) = 0 ∧ mp0 (cn l b p) = 0
  | [], _, _, _ => ⟨rfl, rfl⟩
  | c :: l, b, p, h => by
    obtain ⟨h1, h2⟩ := ms0_now (l := l) (b + 1) p fun hh => h (List.mem_cons_of_mem _ hh)
    have hc : c ≠ 119 := fun e => h (e ▸ List.mem_cons_self)
    have hcw : cw c (decide (b % 2 = p)) ≤ 0 := by
      unfold cw
      rw [if_neg hc]
      split
      · split <;> decide
      · decide
    rw [cn, ms0, mp0, h1, h2]
    constructor <;> omega
/-- the told triple is the least of all that are of the greatest worth -/
theorem tgD_least {A : Nat → List Int} (hs : ∀ x, Stp (A x)) (h : 0 < max (ms0 (A 0)) (ms0 (A 1))) : ∃ i j q : Nat, tgD A = t3 i (i + j : Nat) q ∧ q < 2 ∧ ms0 (A q) = max (ms0 (A 0)) (ms0 (A 1)) ∧ tg1 (A q) = some (i, i + j) ∧
    ∀ p, p < 2 → ms0 (A p) = max (ms0 (A 0)) (ms0 (A 1)) → ∀ i' j', tg1 (A p) = some (i', i' + j') → i < i' ∨ i = i' ∧ (j < j' ∨ j = j' ∧ q ≤ p) := by
  by_cases h0 : ms0 (A 0) = max (ms0 (A 0)) (ms0 (A 1))
  · obtain ⟨i0, j0, e0, _⟩ := tg1_some (hs 0) (by omega)
    have p0 : tgP A 0 = true := by unfold tgP; rw [Bool.and_eq_true, decide_eq_true_iff, decide_eq_true_iff]; exact ⟨h0, by omega⟩
    have m0 : tgM A 0 = t3 i0 (i0 + j0 : Nat) (0 : Nat) := by unfold tgM; rw [e0]
    by_cases h1 : ms0 (A 1) = max (ms0 (A 0)) (ms0 (A 1))
    · obtain ⟨i1, j1, e1, _⟩ := tg1_some (hs 1) (by omega)
      have p1 : tgP A 1 = true := by unfold tgP; rw [Bool.and_eq_true, decide_eq_true_iff, decide_eq_true_iff]; exact ⟨h1, by omega⟩
      have m1 : tgM A 1 = t3 i1 (i1 + j1 : Nat) (1 : Nat) := by unfold tgM; rw [e1]
      have ht : tgD A = if PySem.W.dataLt (t3 i1 (i1 + j1 : Nat) (1 : Nat)) (t3 i0 (i0 + j0 : Nat) (0 : Nat)) then t3 i1 (i1 + j1 : Nat) (1 : Nat) else t3 i0 (i0 + j0 : Nat) (0 : Nat) := by
        unfold tgD
        rw [List.filter_cons_of_pos p0, List.filter_cons_of_pos p1, List.filter_nil, List.map_cons, List.map_cons, m0, m1]
        rfl
      rw [t3_lt] at ht
      by_cases hlt : (i1 : Int) < i0 ∨ (i1 : Int) = i0 ∧ (((i1 + j1 : Nat) : Int) < (i0 + j0 : Nat) ∨ ((i1 + j1 : Nat) : Int) = (i0 + j0 : Nat) ∧ ((1 : Nat) : Int) < (0 : Nat))
      · rw [decide_eq_true hlt] at ht
        refine ⟨i1, j1, 1, ht, by decide, h1, e1, fun p hp hm i' j' e' => ?_⟩
        obtain rfl | rfl : p = 0 ∨ p = 1 := by omega
        · rw [e0] at e'
          simp only [Option.some.injEq, Prod.mk.injEq] at e'
          omega
        · rw [e1] at e'
          simp only [Option.some.injEq, Prod.mk.injEq] at e'
          omega
      · rw [decide_eq_false hlt] at ht
        refine ⟨i0, j0, 0, ht, by decide, h0, e0, fun p hp hm i' j' e' => ?_⟩
        obtain rfl | rfl : p = 0 ∨ p = 1 := by omega
        · rw [e0] at e'
          simp only [Option.some.injEq, Prod.mk.injEq] at e'
          omega
        · rw [e1] at e'
          simp only [Option.some.injEq, Prod.mk.injEq] at e'
          omega
    · have p1 : ¬ tgP A 1 = true := by unfold tgP; rw [Bool.and_eq_true, decide_eq_true_iff, decide_eq_true_iff]; exact fun hh => h1 hh.1
      have ht : tgD A = t3 i0 (i0 + j0 : Nat) (0 : Nat) := by
        unfold tgD
        rw [List.filter_cons_of_pos p0, List.filter_cons_of_neg p1, List.filter_nil, List.map_cons, List.map_nil, m0]
        rfl
      refine ⟨i0, j0, 0, ht, by decide, h0, e0, fun p hp hm i' j' e' => ?_⟩
      obtain rfl | rfl : p = 0 ∨ p = 1 := by omega
      · rw [e0] at e'
        simp only [Option.some.injEq, Prod.mk.injEq] at e'
        omega
      · exact absurd hm h1
  · have h1 : ms0 (A 1) = max (ms0 (A 0)) (ms0 (A 1)) := by omega
    obtain ⟨i1, j1, e1, _⟩ := tg1_some (hs 1) (by omega)
    have p0 : ¬ tgP A 0 = true := by unfold tgP; rw [Bool.and_eq_true, decide_eq_true_iff, decide_eq_true_iff]; exact fun hh => h0 hh.1
    have p1 : tgP A 1 = true := by unfold tgP; rw [Bool.and_eq_true, decide_eq_true_iff, decide_eq_true_iff]; exact ⟨h1, by omega⟩
    have m1 : tgM A 1 = t3 i1 (i1 + j1 : Nat) (1 : Nat) := by unfold tgM; rw [e1]
    have ht : tgD A = t3 i1 (i1 + j1 : Nat) (1 : Nat) := by
      unfold tgD
      rw [List.filter_cons_of_neg p0, List.filter_cons_of_pos p1, List.filter_nil, List.map_cons, List.map_nil, m1]
      rfl
    refine ⟨i1, j1, 1, ht, by decide, h1, e1, fun p hp hm i' j' e' => ?_⟩
    obtain rfl | rfl : p = 0 ∨ p = 1 := by omega
    · exact absurd hm h0
    · rw [e1] at e'
      simp only [Option.some.injEq, Prod.mk.injEq] at e'
      omega
theorem tgD_none {A : Nat → List Int} (h0 : ms0 (A 0) = 0) (h1 : ms0 (A 1) = 0) : tgD A = .none := by
  have p : ∀ x, x = 0 ∨ x = 1 → ¬ tgP A x = true := by
    intro x hx
    unfold tgP
    rw [Bool.and_eq_true, decide_eq_true_iff, decide_eq_true_iff]
    rcases hx with rfl | rfl <;> omega
  unfold tgD
  rw [List.filter_cons_of_neg (p 0 (.inl rfl)), List.filter_cons_of_neg (p 1 (.inr rfl))]
  rfl
/-- all that law_right asks of the told stretch -/
theorem right_all {A : Nat → List Int} (hs : ∀ x, Stp (A x)) (h : 0 < max (ms0 (A 0)) (ms0 (A 1))) : ∃ i j q : Nat, tgD A = t3 i (i + j : Nat) q ∧ q < 2 ∧ i + j < (A q).length ∧ ∀ p, p < 2 →
    ((A p).take i ≠ [] → max (pcOf ((A p).take i)).m ((pcOf ((A p).take i)).b + ah ((A p).drop i)) < max (ms0 (A 0)) (ms0 (A 1))) ∧
    ah (((A p).drop i).take j) < max (ms0 (A 0)) (ms0 (A 1)) ∧ (((A p).drop i).take (j + 1)).sum ≤ max (ms0 (A 0)) (ms0 (A 1)) ∧
    (p = q → (((A p).drop i).take (j + 1)).sum = max (ms0 (A 0)) (ms0 (A 1))) ∧ (p < q → (((A p).drop i).take (j + 1)).sum ≠ max (ms0 (A 0)) (ms0 (A 1))) := by
  obtain ⟨i, j, q, h1, h2, h3, h4, h5⟩ := tgD_least hs h
  obtain ⟨i', j', g1, g2, g3, g4, g5, g6⟩ := tg1_some (hs q) (by omega)
  rw [h4] at g1
  simp only [Option.some.injEq, Prod.mk.injEq] at g1
  obtain ⟨rfl, g1⟩ := g1
  obtain rfl : j = j' := by omega
  obtain ⟨W, hW⟩ : ∃ W, max (ms0 (A 0)) (ms0 (A 1)) = W := ⟨_, rfl⟩
  rw [hW] at h h3 h5 ⊢
  rw [h3] at g4 g5 g6
  have hle : ∀ p, p < 2 → ms0 (A p) ≤ W := fun p hp => by
    obtain rfl | rfl : p = 0 ∨ p = 1 := by omega
    · omega
    · omega
  -- of a parity that comes to as much: where its least stretch begins, ends
  have hlex : ∀ p, p < 2 → ms0 (A p) = W → ∃ i' j', rch ((A p).drop i') W = some j' ∧ (∀ k, k < i' → ah ((A p).drop k) < W) ∧ (i < i' ∨ i = i' ∧ (j < j' ∨ j = j' ∧ q ≤ p)) := by
    intro p hp hm
    obtain ⟨i', j', a1, a2, a3, a4, a5, a6⟩ := tg1_some (hs p) (by omega)
    rw [hm] at a4 a6
    exact ⟨i', j', a4, a6, h5 p hp hm i' j' a1⟩
  have hah : ∀ p, p < 2 → ∀ k, k < i → ah ((A p).drop k) < W := by
    intro p hp k hk
    by_cases hm : ms0 (A p) = W
    · obtain ⟨i', j', _, a6, a7⟩ := hlex p hp hm
      exact a6 k (by omega)
    · by_cases hkl : k < (A p).length
      · have := ah_le_ms0 hkl
        have := hle p hp
        omega
      · rw [List.drop_eq_nil_of_le (by omega)]
        show 0 < W
        omega
  have hmp : ∀ p, p < 2 → mp0 ((A p).drop i) ≤ W := by
    intro p hp
    by_cases hkl : i < (A p).length
    · have := ah_le_ms0 hkl
      have := hle p hp
      rw [mp0_ah]
      omega
    · rw [List.drop_eq_nil_of_le (by omega)]
      show 0 ≤ W
      omega
  have hlt := rch_lt g4
  rw [List.length_drop] at hlt
  refine ⟨i, j, q, h1, h2, by omega, fun p hp => ⟨fun hne => ?_, ?_, ?_, fun e => ?_, fun hpq => ?_⟩⟩
  · refine cross_lt hne fun k hk => ?_
    rw [List.take_append_drop]
    exact hah p hp k (by rw [List.length_take] at hk; omega)
  · refine Int.lt_of_le_of_lt (ah_le_mp0 _) ?_
    by_cases hm : ms0 (A p) = W
    · obtain ⟨i', j', a4, a6, a7⟩ := hlex p hp hm
      by_cases hi : i < i'
      · have := a6 i hi
        have := mp0_take ((A p).drop i) j
        rw [mp0_ah ((A p).drop i)] at this
        omega
      · have hii : i = i' := by omega
        subst hii
        exact rch_sooner ((hs p).drop _) (by omega) a4 (by omega)
    · have := mp0_take ((A p).drop i) j
      have h6 := hle p hp
      by_cases hkl : i < (A p).length
      · have := ah_le_ms0 hkl
        have h7 := mp0_ah ((A p).drop i)
        omega
      · rw [List.drop_eq_nil_of_le (by omega)]
        rw [List.take_nil]
        show 0 < W
        omega
  · exact Int.le_trans (sum_le_mp0 _) (Int.le_trans (mp0_take _ _) (hmp p hp))
  · subst e
    exact rch_sum g4
  · intro hsum
    obtain ⟨x, hx, hxj⟩ := rch_later ((hs p).drop i) (by omega) hsum
    have hm : ms0 (A p) = W := by
      have h6 := hle p hp
      have hil : i < (A p).length := by
        have := rch_lt hx
        rw [List.length_drop] at this
        omega
      have := ah_le_ms0 hil
      have h8 : W ≤ mp0 ((A p).drop i) := by
        have h9 := sum_le_mp0 (((A p).drop i).take (j + 1))
        have := mp0_take ((A p).drop i) (j + 1)
        omega
      rw [mp0_ah] at h8
      omega
    obtain ⟨i', j', a4, a6, a7⟩ := hlex p hp hm
    by_cases hi : i < i'
    · have h7 := a6 i hi
      have h8 : W ≤ mp0 ((A p).drop i) := by
        have h9 := sum_le_mp0 (((A p).drop i).take (j + 1))
        have := mp0_take ((A p).drop i) (j + 1)
        omega
      rw [mp0_ah] at h8
      omega
    · have hii : i = i' := by omega
      subst hii
      rw [hx] at a4
      have := Option.some.inj a4
      omega
end FM

/-! FM12: the told stretch is the first that a search meets, cell by cell. -/
namespace FM
open PL PySem
theorem sum_take_ah : ∀ {A : List Int} (n : Nat), A ≠ [] → (A.take (n + 1)).sum ≤ ah A
  | [], _, h => absurd rfl h
  | a :: A, n, _ => by
    have h1 := sum_le_mp0 (A.take n)
    have h2 := mp0_take A n
    show (a :: A.take n).sum ≤ a + mp0 A
    rw [List.sum_cons]
    omega
theorem near_all {A : Nat → List Int} (hs : ∀ x, Stp (A x)) (h : 0 < max (ms0 (A 0)) (ms0 (A 1))) : ∃ i j q : Nat, tgD A = t3 i (i + j : Nat) q ∧ q < 2 ∧ i + j < (A q).length ∧
    (∀ p, p < 2 → ∀ k, k < i → ∀ n, (((A p).drop k).take (n + 1)).sum < max (ms0 (A 0)) (ms0 (A 1))) ∧
    (∀ p, p < 2 → ∀ n, n < j → (((A p).drop i).take (n + 1)).sum < max (ms0 (A 0)) (ms0 (A 1))) ∧
    (((A q).drop i).take (j + 1)).sum = max (ms0 (A 0)) (ms0 (A 1)) ∧ ∀ p, p < q → (((A p).drop i).take (j + 1)).sum ≠ max (ms0 (A 0)) (ms0 (A 1)) := by
  obtain ⟨i, j, q, h1, h2, h3, h4, h5⟩ := tgD_least hs h
  obtain ⟨i', j', q', e1, e2, e3, e4⟩ := right_all hs h
  rw [h1] at e1
  have : t3 (i : Int) ((i + j : Nat) : Int) (q : Int) = t3 (i' : Int) ((i' + j' : Nat) : Int) (q' : Int) := e1
  simp only [t3, PyData.tuple.injEq, List.cons.injEq, PyData.int.injEq, and_true] at this
  obtain ⟨ei, ej, eq⟩ := this
  obtain rfl : i = i' := by omega
  obtain rfl : j = j' := by omega
  obtain rfl : q = q' := by omega
  obtain ⟨W, hW⟩ : ∃ W, max (ms0 (A 0)) (ms0 (A 1)) = W := ⟨_, rfl⟩
  rw [hW] at h h3 h5 e4 ⊢
  refine ⟨i, j, q, h1, h2, e3, fun p hp k hk n => ?_, fun p hp n hn => ?_, (e4 q h2).2.2.2.1 rfl, fun p hp => (e4 p (by omega)).2.2.2.2 hp⟩
  · by_cases hkl : k < (A p).length
    · have hne : (A p).drop k ≠ [] := fun e => by
        have := congrArg List.length e
        rw [List.length_drop] at this
        simp at this
        omega
      have h6 := sum_take_ah n hne
      by_cases hm : ms0 (A p) = W
      · obtain ⟨i', j', a1, a2, a3, a4, a5, a6⟩ := tg1_some (hs p) (by omega)
        have := h5 p hp hm i' j' a1
        have h7 := a6 k (by omega)
        omega
      · have h7 := ah_le_ms0 hkl
        have h8 : ms0 (A p) ≤ W := by
          obtain rfl | rfl : p = 0 ∨ p = 1 := by omega
          · omega
          · omega
        omega
    · rw [List.drop_eq_nil_of_le (by omega)]
      simpa using h
  · obtain ⟨_, g2, _⟩ := e4 p hp
    -- a shorter beginning of what comes to less
    by_cases hne : ((A p).drop i).take j = []
    · have hnil : (A p).drop i = [] := by
        rcases List.take_eq_nil_iff.mp hne with e | e
        · omega
        · exact e
      rw [hnil]
      simpa using h
    · have h6 := sum_take_ah (A := ((A p).drop i).take j) n hne
      rw [List.take_take, Nat.min_eq_left (by omega)] at h6
      omega
theorem pcOf_am : ∀ {A : List Int}, A ≠ [] → (pcOf A).a ≤ (pcOf A).m
  | [], h => absurd rfl h
  | [a], _ => Int.le_refl _
  | a :: c :: A, _ => by
    have ih := pcOf_am (A := c :: A) (by simp)
    have e : pcOf (a :: c :: A) = jn ⟨a, a, a, a⟩ (pcOf (c :: A)) := pcOf_app (A := [a]) (B := c :: A) (by simp) (by simp)
    rw [e]
    unfold jn
    dsimp only
    omega
/-- the greatest of all stretches, as the near walk seeks it -/
theorem gs_fold : ∀ (L : List Int) (b h : Int), (L.foldl (fun (s : Int × Int) n => (max s.1 (max s.2 0 + n), max s.2 0 + n)) (b, h)).1 = max b (if L = [] then b else max (max (pcOf L).m ((max h 0) + (pcOf L).a)) b)
  | [], b, h => by simp
  | [a], b, h => by
    simp [pcOf]
    omega
  | a :: c :: L, b, h => by
    have ih := gs_fold (c :: L) (max b (max h 0 + a)) (max h 0 + a)
    have e : pcOf (a :: c :: L) = jn ⟨a, a, a, a⟩ (pcOf (c :: L)) := pcOf_app (A := [a]) (B := c :: L) (by simp) (by simp)
    rw [List.foldl_cons]
    show ((c :: L).foldl _ (max b (max h 0 + a), max h 0 + a)).1 = _
    have hm := pcOf_am (A := c :: L) (by simp)
    rw [ih, e, if_neg (by simp), if_neg (by simp)]
    unfold jn
    dsimp only
    omega
end FM

/-! FM13: the search that keeps what is greater. -/
namespace FM
open PL PySem
/-- after some of the stretches (pr: the told one among them): the most so far, the best -/
def SJ (W : Int) (B : PyData) (pr : Prop) (m : Int) (b : PyData) : Prop := (W = 0 ∧ m = 0 ∧ b = .none) ∨ (0 < W ∧ ((¬pr ∧ 0 ≤ m ∧ m < W) ∨ (pr ∧ m = W ∧ b = B)))
theorem SJ.more {W : Int} {B : PyData} {pr pr' : Prop} {m : Int} {b : PyData} (h : SJ W B pr m b) {s : Int} (hs : s ≤ W) (hp : 0 < W → (pr' ↔ pr) ∧ (¬pr → s < W)) : (m < s → ¬pr ∧ ∀ b', SJ W B pr' s b') ∧ (¬m < s → SJ W B pr' m b) := by
  rcases h with ⟨h0, rfl, rfl⟩ | ⟨h0, ⟨hn, h1, h2⟩ | ⟨hpr, rfl, rfl⟩⟩
  · exact ⟨fun h => by omega, fun _ => .inl ⟨h0, rfl, rfl⟩⟩
  · obtain ⟨e, hl⟩ := hp h0
    exact ⟨fun h => ⟨hn, fun b' => .inr ⟨h0, .inl ⟨fun z => hn (e.mp z), by omega, hl hn⟩⟩⟩, fun _ => .inr ⟨h0, .inl ⟨fun z => hn (e.mp z), h1, h2⟩⟩⟩
  · obtain ⟨e, _⟩ := hp h0
    exact ⟨fun h => by omega, fun _ => .inr ⟨h0, .inr ⟨e.mpr hpr, rfl, rfl⟩⟩⟩
/-- the told stretch of a strip, as a place in the search -/
structure Told (A B : List Int) (W : Int) (D : PyData) (i0 j0 q0 : Nat) : Prop where
  e : D = t3 i0 (i0 + j0 : Nat) q0
  q : q0 < 2
  l : i0 + j0 < A.length
  a : ∀ k, k < i0 → ∀ n, ((A.drop k).take (n + 1)).sum < W ∧ ((B.drop k).take (n + 1)).sum < W
  b : ∀ n, n < j0 → ((A.drop i0).take (n + 1)).sum < W ∧ ((B.drop i0).take (n + 1)).sum < W
  w0 : q0 = 0 → ((A.drop i0).take (j0 + 1)).sum = W
  w1 : q0 = 1 → ((B.drop i0).take (j0 + 1)).sum = W ∧ ((A.drop i0).take (j0 + 1)).sum ≠ W
theorem told_or (l : List Nat) : ∃ W D, W = max (ms0 (cn l 0 0)) (ms0 (cn l 0 1)) ∧ D = (tgD fun x => cn l 0 (x : Int)) ∧ (∀ k n, k < l.length → (((cn l 0 0).drop k).take (n + 1)).sum ≤ W ∧ (((cn l 0 1).drop k).take (n + 1)).sum ≤ W) ∧
    ((W = 0 ∧ D = .none) ∨ (0 < W ∧ ∃ i j q, Told (cn l 0 0) (cn l 0 1) W D i j q)) := by
  refine ⟨_, _, rfl, rfl, fun k n hk => ?_, ?_⟩
  · have key : ∀ p, (((cn l 0 p).drop k).take (n + 1)).sum ≤ ms0 (cn l 0 p) := fun p => by
      have hkl : k < (cn l 0 p).length := by rw [cn_len]; exact hk
      have h1 := ah_le_ms0 hkl
      have hne : (cn l 0 p).drop k ≠ [] := fun e => by
        have := congrArg List.length e
        rw [List.length_drop] at this
        simp at this
        omega
      exact Int.le_trans (sum_take_ah n hne) h1
    have h0 := key 0
    have h1 := key 1
    omega
  · by_cases hw : 119 ∈ l
    · refine .inr ⟨ms0_w hw, ?_⟩
      obtain ⟨i, j, q, h1, h2, h3, h4, h5, h6, h7⟩ := near_all (A := fun x => cn l 0 (x : Int)) (fun x => cn_stp _ _ _) (ms0_w hw)
      refine ⟨i, j, q, h1, h2, ?_, fun k hk n => ⟨h4 0 (by decide) k hk n, h4 1 (by decide) k hk n⟩, fun n hn => ⟨h5 0 (by decide) n hn, h5 1 (by decide) n hn⟩, ?_, ?_⟩
      · rw [cn_len] at h3 ⊢
        exact h3
      · rintro rfl
        exact h6
      · rintro rfl
        exact ⟨h6, h7 0 (by decide)⟩
    · have hz := fun p => (ms0_now (l := l) 0 p hw).1
      refine .inl ⟨by rw [hz, hz]; rfl, tgD_none (hz _) (hz _)⟩
end FM

/-! FM14: the told stretch reckoned from the blocks. -/
namespace FM
open PL PySem
def candN (bs : List Blk) (x : Int) : Option (Int × Int × Int) :=
  if (lbk x bs).w = max (lbk 0 bs).w (lbk 1 bs).w ∧ 0 < (lbk x bs).w then match (lbk x bs).f with
    | some f => match la x f bs (lbk x bs).w with
      | some l => some (f, l, x)
      | none => none
    | none => none
  else none
def ltN (a b : Int × Int × Int) : Bool := decide (a.1 < b.1 ∨ a.1 = b.1 ∧ (a.2.1 < b.2.1 ∨ a.2.1 = b.2.1 ∧ a.2.2 < b.2.2))
def tgN (bs : List Blk) : Option (Int × Int × Int) := match candN bs 0, candN bs 1 with
  | none, none => none
  | some a, none => some a
  | none, some b => some b
  | some a, some b => if ltN b a then some b else some a
def o3 : Option (Int × Int × Int) → PyData
  | none => .none
  | some (a, b, c) => t3 a b c
theorem candN_eq {rs : List (List Nat × Int)} (h : ∀ r ∈ rs, r.1 ≠ [] ∧ 0 ≤ r.2) (x : Nat) :
    candN (bo rs) (x : Int) = if tgP (fun x => cn (cells rs) 0 (x : Int)) x = true then (tg1 (cn (cells rs) 0 (x : Int))).map fun p => ((p.1 : Int), (p.2 : Int), (x : Int)) else none := by
  have hch : Chain 0 (bo rs) (rs.foldl boR ([], 0)).2 := (bo_full (rs := rs) (S := ([], 0)) rfl h).1
  have hlb : ∀ p, lbk p (bo rs) = goT (cn (cells rs) 0 p) 0 z0 := fun p => lbk_full h p
  have hw : ∀ p, (lbk p (bo rs)).w = ms0 (cn (cells rs) 0 p) := fun p => by rw [hlb, goT_w]
  have hce' : cellsB (bo rs) = cells rs := (bo_full (rs := rs) (S := ([], 0)) rfl h).2
  unfold candN tgP
  rw [hw, hw, hw]
  by_cases g : ms0 (cn (cells rs) 0 (x : Int)) = max (ms0 (cn (cells rs) 0 0)) (ms0 (cn (cells rs) 0 1)) ∧ 0 < ms0 (cn (cells rs) 0 (x : Int))
  · have g' : (decide (ms0 (cn (cells rs) 0 (x : Int)) = max (ms0 (cn (cells rs) 0 ((0 : Nat) : Int))) (ms0 (cn (cells rs) 0 ((1 : Nat) : Int)))) && decide (0 < ms0 (cn (cells rs) 0 (x : Int)))) = true := by
      rw [Bool.and_eq_true, decide_eq_true_iff, decide_eq_true_iff]
      exact g
    rw [if_pos g, if_pos g']
    obtain ⟨i, j, e1, e2, e3, e4, _⟩ := tg1_some (cn_stp _ _ _) g.2
    have hf : (lbk (x : Int) (bo rs)).f = some (i : Int) := by rw [hlb]; exact e3
    have hla : la (x : Int) (i : Int) (bo rs) (ms0 (cn (cells rs) 0 (x : Int))) = some ((i + j : Nat) : Int) := by
      rw [la_eq hch (by omega), hce', show ((i : Int) - 0).toNat = i by omega, e4]
      show some (max (i : Int) 0 + (j : Int)) = _
      congr 1
      omega
    rw [hf]
    dsimp only
    rw [hla, e1]
    rfl
  · have g' : ¬ (decide (ms0 (cn (cells rs) 0 (x : Int)) = max (ms0 (cn (cells rs) 0 ((0 : Nat) : Int))) (ms0 (cn (cells rs) 0 ((1 : Nat) : Int)))) && decide (0 < ms0 (cn (cells rs) 0 (x : Int)))) = true := by
      rw [Bool.and_eq_true, decide_eq_true_iff, decide_eq_true_iff]
      exact g
    rw [if_neg g, if_neg g']
theorem tgD_N {rs : List (List Nat × Int)} (h : ∀ r ∈ rs, r.1 ≠ [] ∧ 0 ≤ r.2) : tgD (fun x => cn (cells rs) 0 (x : Int)) = o3 (tgN (bo rs)) := by
  have h0 : candN (bo rs) 0 = _ := candN_eq h 0
  have h1 : candN (bo rs) 1 = _ := candN_eq h 1
  unfold tgN
  rw [h0, h1]
  unfold tgD
  have key : ∀ x : Nat, tgP (fun x => cn (cells rs) 0 (x : Int)) x = true → ∃ i j, tg1 (cn (cells rs) 0 (x : Int)) = some (i, j) ∧ tgM (fun x => cn (cells rs) 0 (x : Int)) x = t3 i j x := by
    intro x hx
    unfold tgP at hx
    rw [Bool.and_eq_true, decide_eq_true_iff, decide_eq_true_iff] at hx
    obtain ⟨i, j, e1, _⟩ := tg1_some (cn_stp _ _ _) hx.2
    exact ⟨i, i + j, e1, by unfold tgM; dsimp only; rw [e1]⟩
  by_cases p0 : tgP (fun x => cn (cells rs) 0 (x : Int)) 0 = true
  · obtain ⟨i, j, a1, a2⟩ := key 0 p0
    by_cases p1 : tgP (fun x => cn (cells rs) 0 (x : Int)) 1 = true
    · obtain ⟨i', j', b1, b2⟩ := key 1 p1
      rw [List.filter_cons_of_pos p0, List.filter_cons_of_pos p1, List.filter_nil, if_pos p0, if_pos p1, a1, b1]
      simp only [List.map_cons, List.map_nil, a2, b2, Option.map_some]
      show (if PySem.W.dataLt _ _ = true then _ else _) = _
      rw [t3_lt]
      unfold ltN
      dsimp only
      split <;> rfl
    · rw [List.filter_cons_of_pos p0, List.filter_cons_of_neg p1, List.filter_nil, if_pos p0, if_neg p1, a1]
      simp only [List.map_cons, List.map_nil, a2, Option.map_some]
      rfl
  · by_cases p1 : tgP (fun x => cn (cells rs) 0 (x : Int)) 1 = true
    · obtain ⟨i', j', b1, b2⟩ := key 1 p1
      rw [List.filter_cons_of_neg p0, List.filter_cons_of_pos p1, List.filter_nil, if_neg p0, if_pos p1, b1]
      simp only [List.map_cons, List.map_nil, b2, Option.map_some]
      rfl
    · rw [List.filter_cons_of_neg p0, List.filter_cons_of_neg p1, List.filter_nil, if_neg p0, if_neg p1]
      rfl
theorem tgD_is {rs : List (List Nat × Int)} (h : ∀ r ∈ rs, r.1 ≠ [] ∧ 0 ≤ r.2) (v : Option (Int × Int × Int)) (e : tgN (bo rs) = v) : tgD (fun x => cn (cells rs) 0 (x : Int)) = o3 v := by rw [tgD_N h, e]
abbrev far29 : Int := 10 ^ 29
theorem hand1 : farF (List.replicate 12 ([119, 46], far29)) = 12 * far29 ∧ tgN (bo (List.replicate 12 ([119, 46], far29))) = some (0, 24 * far29 - 2, 0) := by decide +kernel
theorem hand2 : farF (List.replicate 12 (List.replicate 40 119, far29)) = 1 ∧ tgN (bo (List.replicate 12 (List.replicate 40 119, far29))) = some (0, 0, 0) := by decide +kernel
theorem hand3 : farF [([119, 46, 46], far29)] = 1 ∧ farF (List.replicate 12 (119 :: List.replicate 39 46, far29)) = 12 * far29 ∧ tgN (bo (List.replicate 12 (119 :: List.replicate 39 46, far29))) = some (0, 480 * far29 - 40, 0) := by decide +kernel
theorem hand4 : tgN (bo [([48, 46], far29), ([111, 119], far29)]) = some (2 * far29 + 1, 2 * far29 + 1, 1) ∧ farF [([48, 46], far29), ([111, 119], far29)] = 1 := by decide +kernel
theorem hand5 : tgN (bo [([46], far29), ([119], 1), ([111], far29)]) = some (0, far29, 0) ∧ farF (List.replicate 12 ([111, 48, 46], far29)) = 0 := by decide +kernel
theorem hand6 : farF [([119, 46], far29), ([111], 1), ([119, 46], far29), ([111], 2)] = far29 := by decide +kernel
theorem hand7 : tgN (bo (List.replicate 12 ([111, 48, 46], far29))) = none ∧ tgN (bo [([111], 1)]) = none := by decide +kernel
end FM

namespace TX
open PySem PySem.Spec L2 PL
open PyProof.Rows (envOfC)

def topS (i : Nat) : Stmt := PySem.Challenge.pw_pleatpunch_k87_runs_grown_in_place.main.body.getD i (.Pass ⟨0, 0, 0, 0⟩)
abbrev s_blocks_of : Stmt := topS 3
theorem sc_blocks_of : FnScope ["runs", "found", "here", "pattern", "times", "twice", "signs", "often"] ["runs"] (defScope s_blocks_of) := ⟨rfl, rfl, rfl, by decide +kernel, rfl, by decide +kernel, by decide +kernel⟩
abbrev s_counts_of : Stmt := topS 4
theorem sc_counts_of : FnScope ["signs", "begin", "parity", "found", "cell", "sign"] ["signs", "begin", "parity"] (defScope s_counts_of) := ⟨rfl, rfl, rfl, by decide +kernel, rfl, by decide +kernel, by decide +kernel⟩
abbrev s_best_beginning : Stmt := topS 5
theorem sc_best_beginning : FnScope ["counts", "total", "best", "one"] ["counts"] (defScope s_best_beginning) := ⟨rfl, rfl, rfl, by decide +kernel, rfl, by decide +kernel, by decide +kernel⟩
abbrev s_looked_back : Stmt := topS 7
theorem sc_looked_back : FnScope ["blocks", "parity", "back", "signs", "often", "begin", "counts"] ["blocks", "parity"] (defScope s_looked_back) := ⟨rfl, rfl, rfl, by decide +kernel, rfl, by decide +kernel, by decide +kernel⟩
abbrev s_reached : Stmt := topS 8
theorem sc_reached : FnScope ["counts", "often", "want", "total", "best", "rounds", "left", "place", "one"] ["counts", "often", "want"] (defScope s_reached) := ⟨rfl, rfl, rfl, by decide +kernel, rfl, by decide +kernel, by decide +kernel⟩
abbrev s_last_of : Stmt := topS 9
theorem sc_last_of : FnScope ["blocks", "parity", "first", "worth", "want", "signs", "often", "begin", "size", "counts", "gone", "place", "at", "some", "many", "spot", "cells"] ["blocks", "parity", "first", "worth"] (defScope s_last_of) := ⟨rfl, rfl, rfl, by decide +kernel, rfl, by decide +kernel, by decide +kernel⟩
abbrev s_looked_at : Stmt := topS 10
theorem sc_looked_at : FnScope ["runs", "blocks", "parity"] ["runs"] (defScope s_looked_at) := ⟨rfl, rfl, rfl, by decide +kernel, rfl, by decide +kernel, by decide +kernel⟩
abbrev s_far_fewest : Stmt := topS 11
theorem sc_far_fewest : FnScope ["runs", "worth", "first"] ["runs"] (defScope s_far_fewest) := ⟨rfl, rfl, rfl, by decide +kernel, rfl, by decide +kernel, by decide +kernel⟩
abbrev s_far_tight : Stmt := topS 12
theorem sc_far_tight : FnScope ["runs", "blocks", "found", "most", "tights", "worth", "first", "parity"] ["runs"] (defScope s_far_tight) := ⟨rfl, rfl, rfl, by decide +kernel, rfl, by decide +kernel, by decide +kernel⟩
abbrev s_law_reel : Stmt := topS 14
theorem sc_law_reel : FnScope ["script", "k", "cell"] ["script", "k"] (defScope s_law_reel) := ⟨rfl, rfl, rfl, by decide +kernel, rfl, by decide +kernel, by decide +kernel⟩
abbrev s_law_pull : Stmt := topS 15
theorem sc_law_pull : FnScope ["reel", "count", "found", "stirred"] ["reel", "count"] (defScope s_law_pull) := ⟨rfl, rfl, rfl, by decide +kernel, rfl, by decide +kernel, by decide +kernel⟩
abbrev s_law_pattern : Stmt := topS 16
theorem sc_law_pattern : FnScope ["reel", "most", "style", "found", "spot", "signs"] ["reel", "most"] (defScope s_law_pattern) := ⟨rfl, rfl, rfl, by decide +kernel, rfl, by decide +kernel, by decide +kernel⟩
abbrev s_law_times : Stmt := topS 17
theorem sc_law_times : FnScope ["reel", "most"] ["reel", "most"] (defScope s_law_times) := ⟨rfl, rfl, rfl, by decide +kernel, rfl, by decide +kernel, by decide +kernel⟩
abbrev s_law_counts : Stmt := topS 18
theorem sc_law_counts : FnScope ["signs", "begin", "parity", "found", "spot", "sign", "mine"] ["signs", "begin", "parity"] (defScope s_law_counts) := ⟨rfl, rfl, rfl, by decide +kernel, rfl, by decide +kernel, by decide +kernel⟩
abbrev s_law_piece : Stmt := topS 19
theorem sc_law_piece : FnScope ["counts", "total", "ahead", "behind", "best", "one"] ["counts"] (defScope s_law_piece) := ⟨rfl, rfl, rfl, by decide +kernel, rfl, by decide +kernel, by decide +kernel⟩
abbrev s_law_joined : Stmt := topS 20
theorem sc_law_joined : FnScope ["one", "other", "ahead", "behind"] ["one", "other"] (defScope s_law_joined) := ⟨rfl, rfl, rfl, by decide +kernel, rfl, by decide +kernel, by decide +kernel⟩
abbrev s_law_often : Stmt := topS 21
theorem sc_law_often : FnScope ["piece", "times", "found"] ["piece", "times"] (defScope s_law_often) := ⟨rfl, rfl, rfl, by decide +kernel, rfl, by decide +kernel, by decide +kernel⟩
abbrev s_law_whole_piece : Stmt := topS 22
theorem sc_law_whole_piece : FnScope ["runs", "begin", "parity", "found", "pattern", "times", "here", "both"] ["runs", "begin", "parity"] (defScope s_law_whole_piece) := ⟨rfl, rfl, rfl, by decide +kernel, rfl, by decide +kernel, by decide +kernel⟩
abbrev s_law_far_runs : Stmt := topS 23
theorem sc_law_far_runs : FnScope ["reel", "far", "many", "turn"] ["reel"] (defScope s_law_far_runs) := ⟨rfl, rfl, rfl, by decide +kernel, rfl, by decide +kernel, by decide +kernel⟩
abbrev s_law_change : Stmt := topS 24
theorem sc_law_change : FnScope ["reel", "runs", "run", "at", "way"] ["reel", "runs"] (defScope s_law_change) := ⟨rfl, rfl, rfl, by decide +kernel, rfl, by decide +kernel, by decide +kernel⟩
abbrev s_law_hand_right : Stmt := topS 25
theorem sc_law_hand_right : FnScope ["far", "some"] [] (defScope s_law_hand_right) := ⟨rfl, rfl, rfl, by decide +kernel, rfl, by decide +kernel, by decide +kernel⟩
abbrev s_law : Stmt := topS 26
theorem sc_law : FnScope ["script", "k", "reel", "runs", "turn", "kept", "told", "due", "anew", "parity"] ["script"] (defScope s_law) := ⟨rfl, rfl, rfl, by decide +kernel, rfl, by decide +kernel, by decide +kernel⟩
abbrev s_Lookback_init : Stmt := inClass (topS 6) 0
theorem sc_Lookback_init : FnScope ["self"] ["self"] (defScope s_Lookback_init) := ⟨rfl, rfl, rfl, by decide +kernel, rfl, by decide +kernel, by decide +kernel⟩
abbrev s_Lookback_go_through : Stmt := inClass (topS 6) 1
theorem sc_Lookback_go_through : FnScope ["self", "counts", "begin", "place", "here"] ["self", "counts", "begin"] (defScope s_Lookback_go_through) := ⟨rfl, rfl, rfl, by decide +kernel, rfl, by decide +kernel, by decide +kernel⟩
abbrev s_Lookback_go_past : Stmt := inClass (topS 6) 2
theorem sc_Lookback_go_past : FnScope ["self", "counts", "often", "total", "within"] ["self", "counts", "often"] (defScope s_Lookback_go_past) := ⟨rfl, rfl, rfl, by decide +kernel, rfl, by decide +kernel, by decide +kernel⟩
structure Txt (K : PySem.W.Frag) (mg : Str → Option Value) where
  f_blocks_of : Addr
  fd_blocks_of : FuncData
  F_blocks_of : Fun K "blocks_of" "blocks_of" s_blocks_of f_blocks_of fd_blocks_of
  b_blocks_of : Binds K fd_blocks_of ["runs"] []
  g_blocks_of : mg "blocks_of" = some (.ref f_blocks_of)
  f_counts_of : Addr
  fd_counts_of : FuncData
  F_counts_of : Fun K "counts_of" "counts_of" s_counts_of f_counts_of fd_counts_of
  b_counts_of : Binds K fd_counts_of ["signs", "begin", "parity"] []
  g_counts_of : mg "counts_of" = some (.ref f_counts_of)
  f_best_beginning : Addr
  fd_best_beginning : FuncData
  F_best_beginning : Fun K "best_beginning" "best_beginning" s_best_beginning f_best_beginning fd_best_beginning
  b_best_beginning : Binds K fd_best_beginning ["counts"] []
  g_best_beginning : mg "best_beginning" = some (.ref f_best_beginning)
  f_looked_back : Addr
  fd_looked_back : FuncData
  F_looked_back : Fun K "looked_back" "looked_back" s_looked_back f_looked_back fd_looked_back
  b_looked_back : Binds K fd_looked_back ["blocks", "parity"] []
  g_looked_back : mg "looked_back" = some (.ref f_looked_back)
  f_reached : Addr
  fd_reached : FuncData
  F_reached : Fun K "reached" "reached" s_reached f_reached fd_reached
  b_reached : Binds K fd_reached ["counts", "often", "want"] []
  g_reached : mg "reached" = some (.ref f_reached)
  f_last_of : Addr
  fd_last_of : FuncData
  F_last_of : Fun K "last_of" "last_of" s_last_of f_last_of fd_last_of
  b_last_of : Binds K fd_last_of ["blocks", "parity", "first", "worth"] []
  g_last_of : mg "last_of" = some (.ref f_last_of)
  f_looked_at : Addr
  fd_looked_at : FuncData
  F_looked_at : Fun K "looked_at" "looked_at" s_looked_at f_looked_at fd_looked_at
  b_looked_at : Binds K fd_looked_at ["runs"] []
  g_looked_at : mg "looked_at" = some (.ref f_looked_at)
  f_far_fewest : Addr
  fd_far_fewest : FuncData
  F_far_fewest : Fun K "far_fewest" "far_fewest" s_far_fewest f_far_fewest fd_far_fewest
  b_far_fewest : Binds K fd_far_fewest ["runs"] []
  g_far_fewest : mg "far_fewest" = some (.ref f_far_fewest)
  f_far_tight : Addr
  fd_far_tight : FuncData
  F_far_tight : Fun K "far_tight" "far_tight" s_far_tight f_far_tight fd_far_tight
  b_far_tight : Binds K fd_far_tight ["runs"] []
  g_far_tight : mg "far_tight" = some (.ref f_far_tight)
  f_law_reel : Addr
  fd_law_reel : FuncData
  F_law_reel : Fun K "_law_reel" "_law_reel" s_law_reel f_law_reel fd_law_reel
  b_law_reel : Binds K fd_law_reel ["script", "k"] []
  g_law_reel : mg "_law_reel" = some (.ref f_law_reel)
  f_law_pull : Addr
  fd_law_pull : FuncData
  F_law_pull : Fun K "_law_pull" "_law_pull" s_law_pull f_law_pull fd_law_pull
  b_law_pull : Binds K fd_law_pull ["reel", "count"] []
  g_law_pull : mg "_law_pull" = some (.ref f_law_pull)
  f_law_pattern : Addr
  fd_law_pattern : FuncData
  F_law_pattern : Fun K "_law_pattern" "_law_pattern" s_law_pattern f_law_pattern fd_law_pattern
  b_law_pattern : Binds K fd_law_pattern ["reel", "most"] []
  g_law_pattern : mg "_law_pattern" = some (.ref f_law_pattern)
  f_law_times : Addr
  fd_law_times : FuncData
  F_law_times : Fun K "_law_times" "_law_times" s_law_times f_law_times fd_law_times
  b_law_times : Binds K fd_law_times ["reel", "most"] []
  g_law_times : mg "_law_times" = some (.ref f_law_times)
  f_law_counts : Addr
  fd_law_counts : FuncData
  F_law_counts : Fun K "_law_counts" "_law_counts" s_law_counts f_law_counts fd_law_counts
  b_law_counts : Binds K fd_law_counts ["signs", "begin", "parity"] []
  g_law_counts : mg "_law_counts" = some (.ref f_law_counts)
  f_law_piece : Addr
  fd_law_piece : FuncData
  F_law_piece : Fun K "_law_piece" "_law_piece" s_law_piece f_law_piece fd_law_piece
  b_law_piece : Binds K fd_law_piece ["counts"] []
  g_law_piece : mg "_law_piece" = some (.ref f_law_piece)
  f_law_joined : Addr
  fd_law_joined : FuncData
  F_law_joined : Fun K "_law_joined" "_law_joined" s_law_joined f_law_joined fd_law_joined
  b_law_joined : Binds K fd_law_joined ["one", "other"] []
  g_law_joined : mg "_law_joined" = some (.ref f_law_joined)
  f_law_often : Addr
  fd_law_often : FuncData
  F_law_often : Fun K "_law_often" "_law_often" s_law_often f_law_often fd_law_often
  b_law_often : Binds K fd_law_often ["piece", "times"] []
  g_law_often : mg "_law_often" = some (.ref f_law_often)
  f_law_whole_piece : Addr
  fd_law_whole_piece : FuncData
  F_law_whole_piece : Fun K "_law_whole_piece" "_law_whole_piece" s_law_whole_piece f_law_whole_piece fd_law_whole_piece
  b_law_whole_piece : Binds K fd_law_whole_piece ["runs", "begin", "parity"] []
  g_law_whole_piece : mg "_law_whole_piece" = some (.ref f_law_whole_piece)
  f_law_far_runs : Addr
  fd_law_far_runs : FuncData
  F_law_far_runs : Fun K "_law_far_runs" "_law_far_runs" s_law_far_runs f_law_far_runs fd_law_far_runs
  b_law_far_runs : Binds K fd_law_far_runs ["reel"] []
  g_law_far_runs : mg "_law_far_runs" = some (.ref f_law_far_runs)
  f_law_change : Addr
  fd_law_change : FuncData
  F_law_change : Fun K "_law_change" "_law_change" s_law_change f_law_change fd_law_change
  b_law_change : Binds K fd_law_change ["reel", "runs"] []
  g_law_change : mg "_law_change" = some (.ref f_law_change)
  f_law_hand_right : Addr
  fd_law_hand_right : FuncData
  F_law_hand_right : Fun K "_law_hand_right" "_law_hand_right" s_law_hand_right f_law_hand_right fd_law_hand_right
  b_law_hand_right : Binds K fd_law_hand_right [] []
  g_law_hand_right : mg "_law_hand_right" = some (.ref f_law_hand_right)
  f_law : Addr
  fd_law : FuncData
  F_law : Fun K "law" "law" s_law f_law fd_law
  b_law : Binds K fd_law ["script"] []
  g_law : mg "law" = some (.ref f_law)
  C_Lookback : Addr
  g_Lookback : mg "Lookback" = some (.ref C_Lookback)
  cl_Lookback : Cls K C_Lookback
  f_Lookback_init : Addr
  fd_Lookback_init : FuncData
  F_Lookback_init : Fun K "__init__" "Lookback.__init__" s_Lookback_init f_Lookback_init fd_Lookback_init
  b_Lookback_init : Binds K fd_Lookback_init ["self"] []
  mk_Lookback : Mk K C_Lookback f_Lookback_init
  f_Lookback_go_through : Addr
  fd_Lookback_go_through : FuncData
  F_Lookback_go_through : Fun K "go_through" "Lookback.go_through" s_Lookback_go_through f_Lookback_go_through fd_Lookback_go_through
  b_Lookback_go_through : Binds K fd_Lookback_go_through ["self", "counts", "begin"] []
  m_Lookback_go_through : Meth K C_Lookback "go_through" f_Lookback_go_through
  f_Lookback_go_past : Addr
  fd_Lookback_go_past : FuncData
  F_Lookback_go_past : Fun K "go_past" "Lookback.go_past" s_Lookback_go_past f_Lookback_go_past fd_Lookback_go_past
  b_Lookback_go_past : Binds K fd_Lookback_go_past ["self", "counts", "often"] []
  m_Lookback_go_past : Meth K C_Lookback "go_past" f_Lookback_go_past
  n_Lookback_worth_far : NoAttr K C_Lookback "worth_far"
  n_Lookback_first_far : NoAttr K C_Lookback "first_far"
  n_Lookback_later_far : NoAttr K C_Lookback "later_far"
  g_WISHED : ∃ t, mg "WISHED" = some (.str "w" t)
  a_WITH_PASS : Addr
  g_WITH_PASS : mg "WITH_PASS" = some (.ref a_WITH_PASS)
  t_WITH_PASS : ∀ H, SqT K H a_WITH_PASS [.str "w", .str "o"]
  z_abs : mg "abs" = none
  z_divmod : mg "divmod" = none
  z_enumerate : mg "enumerate" = none
  z_int : mg "int" = none
  z_len : mg "len" = none
  z_list : mg "list" = none
  z_max : mg "max" = none
  z_min : mg "min" = none
  z_range : mg "range" = none
  z_repr : mg "repr" = none
  z_sum : mg "sum" = none

section
local macro_rules | `(tactic| walk_at "e1") => `(tactic| first
  | refine se_var rfl ?_
  | with_reducible refine se_int ?_
  | with_reducible refine se_op ?_
  | with_reducible refine or_addI ?_
  | with_reducible refine or_sub ?_
  | with_reducible refine or_cmp ?_
  | with_reducible refine or_eqAI ?_
  | with_reducible refine or_neAI ?_
  | with_reducible refine or_eqAS ?_
  | with_reducible refine or_neAS ?_
  | with_reducible refine or_eqAB ?_
  | with_reducible refine or_isN ?_
  | with_reducible refine or_ntN ?_
  | with_reducible refine or_isNR ?_
  | refine or_mod (by first | assumption | decide | omega) ?_
  | refine or_fdiv (fdiv_ok (by first | assumption | decide) (by first | assumption | decide)) ?_
  | refine or_mulI (mulOk_l (by decide) (by decide)) ?_
  | refine or_pow ⟨by decide, by decide, by decide⟩ ?_
  | refine or_ixC 0 rfl rfl ?_
  | refine or_ixC 1 rfl rfl ?_
  | with_reducible refine or_ixH ?_
  | refine or_ix rfl ?_
  | refine or_ixT rfl ?_
  | with_reducible refine isB ?_
  | with_reducible refine br_T rfl ?_
  | with_reducible refine br_F rfl ?_
  | with_reducible refine br_not ?_
  | with_reducible refine isI ?_
  | with_reducible refine st_test ?_
  | with_reducible refine st_B ?_
  | with_reducible refine st_yes ?_
  | with_reducible refine sa_cons ?_
  | with_reducible refine sa_nil ?_
  | with_reducible refine se_cb ?_
  | with_reducible refine se_str ?_
  | with_reducible refine se_bl ?_
  | with_reducible refine se_non ?_
  | with_reducible refine se_un ?_
  | with_reducible refine ur_neg ?_
  | with_reducible refine st_not ?_
  | with_reducible refine st_and ?_
  | with_reducible refine st_or ?_
  | with_reducible refine se_if ?_
  | with_reducible refine se_chain ?_
  | with_reducible refine se_andV ?_
  | with_reducible refine se_orV ?_
  | with_reducible refine se_notV ?_
  | with_reducible refine se_sl ?_
  | with_reducible refine so_none ?_
  | with_reducible refine so_some ?_
  | with_reducible refine lr_L ?_
  | with_reducible refine cr_len ?_
  | with_reducible refine cr_lenT ?_
  | with_reducible refine cr_abs ?_
  | with_reducible refine cr_max2 ?_
  | with_reducible refine cr_min2 ?_
  | with_reducible refine cr_max3 ?_
  | with_reducible refine cr_intI ?_
  | with_reducible refine cr_intB ?_
  | with_reducible refine se_lst (sa_cons ?_)
  | with_reducible refine se_tup ?_
  | refine unp rfl (Nat.le_of_ble_eq_true rfl) ?_)
local macro_rules | `(tactic| walk_at "e") => `(tactic| repeat walk_at "e1")
local macro_rules | `(tactic| walk_at "s1") => `(tactic| first
  | with_reducible refine ss_next ?_
  | with_reducible refine ss_seq ?_
  | with_reducible refine ss_set ?_
  | with_reducible refine ss_par ?_
  | with_reducible refine ss_if ?_
  | with_reducible refine ss_ret ?_
  | with_reducible refine ss_break ?_
  | with_reducible refine ss_cont ?_
  | with_reducible refine ss_asg ?_
  | with_reducible refine sg_name ?_
  | with_reducible refine sg_setL ?_
  | with_reducible refine ⟨_, _, rfl, ?_⟩
  | refine ⟨0, _, _, _, _, rfl, rfl, rfl, rfl, ?_⟩
  | refine ⟨1, _, _, _, _, rfl, rfl, rfl, rfl, ?_⟩
  | walk_at "e1")
local macro_rules | `(tactic| walk_at "s") => `(tactic| repeat walk_at "s1")
local macro_rules | `(tactic| walk_at "g") => `(tactic| first
  | exact gok_name
  | exact gok_seq (goks_cons gok_name (goks_cons gok_name goks_nil))
  | exact gok_seq (goks_cons gok_name (goks_cons gok_name (goks_cons gok_name goks_nil))))
local macro_rules | `(tactic| walk_at "T") => `(tactic| refine br_T (decide_eq_true (by omega)) ?_)
local macro_rules | `(tactic| walk_at "F") => `(tactic| refine br_F (decide_eq_false (by omega)) ?_)
local macro_rules | `(tactic| walk_at "tg2") => `(tactic| refine sg_seqT rfl (sgs_cons (sg_name (sgs_cons (sg_name (sgs_nil ?_))))))
local macro_rules | `(tactic| walk_at "tg3") => `(tactic| refine sg_seqT rfl (sgs_cons (sg_name (sgs_cons (sg_name (sgs_cons (sg_name (sgs_nil ?_))))))))
variable {P : Program} {w : World} {K : PySem.W.Frag} {mg : Str → Option Value} {base : Heap}

theorem pow3_ok {i : Int} (h0 : 0 ≤ i) (h1 : i < 2 ^ 250) : CPowW i 3 := by
  refine ⟨by decide, by decide, ?_⟩
  have e : (2 : Int) ^ 250 < 2 ^ 1000 := by decide +kernel
  have h2 : ((2 ^ 1000 : Nat) : Int) = 2 ^ 1000 := by rw [Int.natCast_pow]; rfl
  have h3 : (i.natAbs : Int) = i := Int.natAbs_of_nonneg h0
  have h4 : (i.natAbs : Int) < ((2 ^ 1000 : Nat) : Int) := by rw [h2, h3]; exact Int.lt_trans h1 e
  exact Int.ofNat_lt.mp h4
/-- the draws' cell -/
abbrev cr (x : Int × Int × Int) : Cell := .lst [dI x.1, dI x.2.1, dI x.2.2]
structure Okr (b : Nat) (x : Int × Int × Int) : Prop where
  h0 : 0 ≤ x.1
  h1 : 0 ≤ x.2.1
  h2 : x.2.1 < 2 ^ 200
  h3 : 0 ≤ x.2.2
  h4 : x.2.2 ≤ b
theorem Okr.mono {b b' : Nat} {x : Int × Int × Int} (h : Okr b x) (hb : b ≤ b') : Okr b' x := ⟨h.h0, h.h1, h.h2, h.h3, Int.le_trans h.h4 (by omega)⟩
def sp_law_pull (T : Txt K mg) : DSp := fun ds M Kd KX => ∃ c w x b, ds = [dR c, dI w] ∧ M = [(c, cr x)] ∧ Okr b x ∧ b ≤ 10 ^ 18 ∧ 0 < w ∧ w ≤ 10 ^ 40 ∧ ∀ r x', 0 ≤ r → r < w → Okr (b + 1) x' → Kd (dI r) [(c, cr x')]
theorem ok_law_pull (T : Txt K mg) : FnOk P w K mg base CX0 1 T.f_law_pull T.fd_law_pull ["reel", "count"] (spD (sp_law_pull T)) := by
  refine fn_ok T.F_law_pull sc_law_pull (fun ds M Kd KX h => ?hl) (fun cdv A outer s0 H E hr => ⟨_, (pss_cons (ps_if (pt_cmpR op_gt (pe_ix (ix_seqK (K := K)) (pv 0) pe_int (fun _ _ => rfl)) pe_int (nomark _))
      (pss_cons (ps_set (i := 2) sc_law_pull.nd rfl (by first | exact Or.inl rfl | exact Or.inr rfl) (pe_op op_mod (pe_ix (ix_seqK (K := K)) (pv 0) pe_int (fun _ _ => rfl)) (pv 1)))
      (pss_cons (ps_asg (pe_op op_fdivW (pe_ix (ix_seqK (K := K)) (pv 0) pe_int (fun _ _ => rfl)) (pv 1)) (pg_sub (pv 0) pe_int set_list))
      (pss_one (ps_ret (pv 2)))))
      pss_nil)
      (pss_cons (ps_asg (pe_op op_addA (pe_ix (ix_seqK (K := K)) (pv 0) pe_int (fun _ _ => rfl)) pe_int) (pg_sub (pv 0) pe_int set_list))
      (pss_cons (ps_set (i := 3) sc_law_pull.nd rfl (by first | exact Or.inl rfl | exact Or.inr rfl) (pe_op op_mod (pe_op op_powW (pe_op op_addA (pe_ix (ix_seqK (K := K)) (pv 0) pe_int (fun _ _ => rfl)) (pe_op op_mulA pe_int (pe_ix (ix_seqK (K := K)) (pv 0) pe_int (fun _ _ => rfl)))) pe_int) (pe_op op_addA (pe_op op_powW pe_int pe_int) pe_int)))
      (pss_cons (ps_set (i := 3) sc_law_pull.nd rfl (by first | exact Or.inl rfl | exact Or.inr rfl) (pe_op op_mod (pe_op op_powW (pe_op op_addA (pv 3) (pe_op op_mulA pe_int (pe_ix (ix_seqK (K := K)) (pv 0) pe_int (fun _ _ => rfl)))) pe_int) (pe_op op_addA (pe_op op_powW pe_int pe_int) pe_int)))
      (pss_one (ps_ret (pe_op op_mod (pe_op op_fdivW (pv 3) pe_int) (pv 1)))))))), fun ds M Kd KX h => ?_⟩)
  · obtain ⟨c, w, x, b, rfl, _⟩ := h
    rfl
  · obtain ⟨c, w, x, b, rfl, rfl, ok, hb, w0, w1, k⟩ := h
    have w1 : w < 2 ^ 8000 := Int.lt_of_le_of_lt w1 (by decide +kernel)
    obtain ⟨x0, x1, x2⟩ := x
    obtain ⟨h0, h1, h2, h3, h4⟩ := ok
    have e200 : (2 : Int) ^ 200 + 32452867 * (10 ^ 18 + 1) < 2 ^ 250 := by decide
    have hb' : (b : Int) ≤ 10 ^ 18 := by exact_mod_cast hb
    dsimp only at h0 h1 h2 h3 h4
    have a1 : 0 ≤ x1 + 32452867 * (x2 + 1) := by omega
    have a2 : x1 + 32452867 * (x2 + 1) < 2 ^ 250 := by omega
    have a3 : (10 : Int) ^ Int.toNat 38 + 133 = 10 ^ 38 + 133 := rfl
    show SS W0 _ [some (dR c), some (dI w), none, none] [(c, .lst [dI x0, dI x1, dI x2])] _
    walk_at "s"
    refine br_dec (fun g => ?_) fun g => ?_
    · walk_at "s"
      exact Ret.py (k _ (x0 / w, x1, x2) (Int.emod_nonneg _ (Int.ne_of_gt w0)) (Int.emod_lt_of_pos _ w0) ⟨Int.ediv_nonneg h0 (Int.le_of_lt w0), h1, h2, h3, by show x2 ≤ _; omega⟩)
    · walk_at "s"
      refine or_pow (pow3_ok a1 a2) ?_
      walk_at "s"
      have b1 := Int.emod_nonneg ((x1 + 32452867 * (x2 + 1)) ^ Int.toNat 3) (b := 10 ^ Int.toNat 38 + 133) (by rw [a3]; decide)
      have b2 := Int.emod_lt_of_pos ((x1 + 32452867 * (x2 + 1)) ^ Int.toNat 3) (b := 10 ^ Int.toNat 38 + 133) (by rw [a3]; decide)
      rw [a3] at b2
      refine or_pow (pow3_ok (Int.add_nonneg b1 (by omega)) ?_) ?_
      · have := Int.add_lt_add_right b2 (15485867 * (x2 + 1))
        exact Int.lt_trans this (by omega)
      walk_at "s"
      exact Ret.py (k _ (x0, x1, x2 + 1) (Int.emod_nonneg _ (Int.ne_of_gt w0)) (Int.emod_lt_of_pos _ w0) ⟨h0, h1, h2, by show 0 ≤ x2 + 1; omega, by show x2 + 1 ≤ _; omega⟩)
theorem pull_s {T : Txt K mg} {c : Addr} {w : Int} {x : Int × Int × Int} {b : Nat} {Kd : D → Cells → Prop} {KX : XD → Cells → Prop} (ok : Okr b x) (hb : b ≤ 10 ^ 18) (h0 : 0 < w) (h1 : w ≤ 10 ^ 40)
    (k : ∀ r x', 0 ≤ r → r < w → Okr (b + 1) x' → Kd (dI r) [(c, cr x')]) : sp_law_pull T [dR c, dI w] [(c, cr x)] Kd KX := ⟨c, w, x, b, rfl, rfl, ok, hb, h0, h1, k⟩

def Sg (l : List Nat) : Prop := ∀ c ∈ l, c = 119 ∨ c = 111 ∨ c = 48 ∨ c = 46
theorem Sg.snoc {l : List Nat} {c : Nat} (h : Sg l) (hc : c = 119 ∨ c = 111 ∨ c = 48 ∨ c = 46) : Sg (l ++ [c]) := fun d hd => by
  rcases List.mem_append.mp hd with hd | hd
  · exact h d hd
  · rw [List.mem_singleton] at hd
    exact hd ▸ hc
def sp_law_pattern (T : Txt K mg) : DSp := fun ds M Kd KX => ∃ c m x b, ds = [dR c, dI m] ∧ M = [(c, cr x)] ∧ Okr b x ∧ b + 300 ≤ 10 ^ 18 ∧ 1 ≤ m ∧ m ≤ 200 ∧ ∀ l x', Sg l → 1 ≤ l.length → (l.length : Int) ≤ m → Okr (b + 300) x' → Kd (dS (mkS l)) [(c, cr x')]
theorem ok_law_pattern (T : Txt K mg) : FnOk P w K mg base CX0 2 T.f_law_pattern T.fd_law_pattern ["reel", "most"] (spD (sp_law_pattern T)) := by
  refine fn_ok T.F_law_pattern sc_law_pattern (fun ds M Kd KX h => ?hl) (fun cdv A outer s0 H E hr => ⟨_, (pss_cons (ps_set (i := 2) sc_law_pattern.nd rfl (by first | exact Or.inl rfl | exact Or.inr rfl) (pe_call (ok_law_pull T) hr (by rfl) T.g_law_pull T.F_law_pull.kp T.b_law_pull .nil pass0 (pa_cons (pv 0) (pa_cons pe_int pa_nil))))
      (pss_cons (ps_set (i := 3) sc_law_pattern.nd rfl (by first | exact Or.inl rfl | exact Or.inr rfl) pe_str)
      (pss_cons (ps_for PassesOwn.never rfl (pi_range1 (by rfl) T.z_range (pa_cons (pe_callB (call_min2' rfl) (by rfl) T.z_min (by decide +kernel) (pa_cons (pv 1) (pa_cons (pe_op op_addA pe_int (pe_call (ok_law_pull T) hr (by rfl) T.g_law_pull T.F_law_pull.kp T.b_law_pull .nil pass0 (pa_cons (pv 0) (pa_cons (pe_ix (ix_seqK (K := K)) (pe_lst (pa_cons pe_int (pa_cons pe_int (pa_cons (pv 1) pa_nil)))) (pe_call (ok_law_pull T) hr (by rfl) T.g_law_pull T.F_law_pull.kp T.b_law_pull .nil pass0 (pa_cons (pv 0) (pa_cons pe_int pa_nil))) (fun _ _ => rfl)) pa_nil)))) pa_nil))) pa_nil)) (pg_name (i := 4) sc_law_pattern.nd rfl (by first | exact Or.inl rfl | exact Or.inr rfl))
      (pss_one (ps_if (PW.pt (pw_and (pt_cmpR (op_eqK (K := K) hr.units) (pv 2) pe_int (nomark _)) (pw_and1 (pt_cmpR (op_eqK (K := K) hr.units) (pe_op op_mod (pv 4) pe_int) pe_int (nomark _)))))
      (pss_one (ps_set (i := 3) sc_law_pattern.nd rfl (by first | exact Or.inl rfl | exact Or.inr rfl) (pe_op op_addA (pv 3) (pe_ix (ix_seqK (K := K)) pe_str (pe_call (ok_law_pull T) hr (by rfl) T.g_law_pull T.F_law_pull.kp T.b_law_pull .nil pass0 (pa_cons (pv 0) (pa_cons pe_int pa_nil))) (fun _ _ => rfl)))))
      (pss_cons (ps_set (i := 5) sc_law_pattern.nd rfl (by first | exact Or.inl rfl | exact Or.inr rfl) (pe_ix (ix_seqK (K := K)) (pe_lst (pa_cons pe_str (pa_cons pe_str (pa_cons pe_str (pa_cons pe_str pa_nil))))) (pv 2) (fun _ _ => rfl)))
      (pss_one (ps_set (i := 3) sc_law_pattern.nd rfl (by first | exact Or.inl rfl | exact Or.inr rfl) (pe_op op_addA (pv 3) (pe_ix (ix_seqK (K := K)) (pv 5) (pe_call (ok_law_pull T) hr (by rfl) T.g_law_pull T.F_law_pull.kp T.b_law_pull .nil pass0 (pa_cons (pv 0) (pa_cons (pe_callB (call_lenK (K := K)) (by rfl) T.z_len (by decide +kernel) (pa_cons (pv 5) pa_nil)) pa_nil))) (fun _ _ => rfl)))))))))
      (pss_one (ps_ret (pv 3)))))), fun ds M Kd KX h => ?_⟩)
  · obtain ⟨c, m, x, b, rfl, _⟩ := h
    rfl
  · obtain ⟨c, m, x, b, rfl, rfl, ok, hb, m0, m1, k⟩ := h
    show SS W0 _ [some (dR c), some (dI m), none, none, none, none] [(c, cr x)] _
    walk_at "s"
    refine se_call0 1 ?_
    walk_at "s"
    refine pull_s ok (by omega) (by decide) (by decide) fun r1 x1 r10 r11 ok1 => ?_
    walk_at "s"
    refine ss_for (si_range1 ?_)
    walk_at "s"
    refine se_call0 1 ?_
    walk_at "s"
    refine se_call0 1 ?_
    walk_at "s"
    refine pull_s ok1 (by omega) (by decide) (by decide) fun r2 x2 r20 r21 ok2 => ?_
    refine or_ixBI (ns := [2, 5, m]) r20 r21 fun n hn => ?_
    have hn2 : 2 ≤ n ∨ n = m := by simp at hn; omega
    have hn3 : n ≤ 200 := by simp at hn; omega
    walk_at "s"
    refine pull_s ok2 (by omega) (by omega) (by omega) fun r3 x3 r30 r31 ok3 => ?_
    walk_at "s"
    refine ⟨_, rfl, by omega, by omega, fun i ρ' M' => ∃ l x' u v, ρ' = [some (dR c), some (dI m), some (dI r1), some (dS (mkS l)), u, v] ∧ M' = [(c, cr x')] ∧ Sg l ∧ l.length = i ∧ Okr (b + 3 + i) x', ⟨[], x3, _, _, rfl, rfl, (fun _ h => by cases h), rfl, ok3⟩, fun _ _ _ _ _ => trivial, ?_, ?_⟩
    · rintro i d ρ' M' hi rfl ⟨l, x', u, v, rfl, rfl, hl, hli, ok'⟩
      have hi' : (i : Int) < 200 := by omega
      have key : ∀ (cc : Nat) x2 u v, (cc = 119 ∨ cc = 111 ∨ cc = 48 ∨ cc = 46) → Okr (b + 3 + i + 1) x2 → (∃ l2 x' u' v', ([some (dR c), some (dI m), some (dI r1), some (dS (mkS (l ++ [cc]))), u, v] : Rho) = [some (dR c), some (dI m), some (dI r1), some (dS (mkS l2)), u', v'] ∧ ([(c, cr x2)] : Cells) = [(c, cr x')] ∧ Sg l2 ∧ l2.length = i + 1 ∧ Okr (b + 3 + (i + 1)) x') := fun cc x2 u v hcc ok2 =>
        ⟨_, x2, u, v, rfl, rfl, hl.snoc hcc, by rw [List.length_append, hli]; rfl, ok2⟩
      walk_at "s"
      refine br_else ?_ (fun els g => ?_)
      · walk_at "s"
        refine or_ixBS (ns := ["wo0.", "wwwo", "w....0.", "ooo0."]) r10 r11 fun n hn => ?_
        walk_at "s"
        have hn1 : n.length ≤ 10 ∧ 1 ≤ n.length ∧ Sg n.cps.toList := by
          simp only [List.mem_cons, List.not_mem_nil, or_false] at hn
          rcases hn with rfl | rfl | rfl | rfl <;> exact ⟨by decide +kernel, by decide +kernel, by unfold Sg; decide +kernel⟩
        refine se_call0 1 ?_
        walk_at "s"
        refine cr_lenS (by omega) ?_
        walk_at "s"
        refine pull_s ok' (by omega) (by omega) (by omega) fun r x2 r0 rlt ok2 => ?_
        refine or_ixZ (by omega) r0 rlt fun cc hcc => ?_
        refine or_addC (by omega) ?_
        walk_at "s"
        exact key _ _ _ _ (hn1.2.2 _ hcc) ok2
      · walk_at "s"
        refine br_dec (fun g => ?_) fun g => els.f rfl
        walk_at "s"
        refine se_call0 1 ?_
        walk_at "s"
        refine pull_s ok' (by omega) (by decide) (by decide) fun r x2 r0 rlt ok2 => ?_
        refine or_ixZ (by decide +kernel) r0 (by rw [show (Str.ofString "ww.o").length = 4 by decide +kernel]; exact rlt) fun cc hcc => ?_
        rw [show (Str.ofString "ww.o").cps.toList = [119, 119, 46, 111] by decide +kernel] at hcc
        refine or_addC (by omega) ?_
        walk_at "s"
        refine key _ _ _ _ ?_ ok2
        simp at hcc
        omega
    · rintro ρ' M' ⟨l, x', u, v, rfl, rfl, hl, hli, ok'⟩
      walk_at "s"
      exact Ret.py (k l x' hl (by omega) (by omega) (ok'.mono (by omega)))

def sp_law_times (T : Txt K mg) : DSp := fun ds M Kd KX => ∃ c m x b, ds = [dR c, dI m] ∧ M = [(c, cr x)] ∧ Okr b x ∧ b + 3 ≤ 10 ^ 18 ∧ 1 ≤ m ∧ m ≤ 10 ^ 30 ∧ ∀ t x', 1 ≤ t → t ≤ m → Okr (b + 3) x' → Kd (dI t) [(c, cr x')]
theorem ok_law_times (T : Txt K mg) : FnOk P w K mg base CX0 2 T.f_law_times T.fd_law_times ["reel", "most"] (spD (sp_law_times T)) := by
  refine fn_ok T.F_law_times sc_law_times (fun ds M Kd KX h => ?hl) (fun cdv A outer s0 H E hr => ⟨_, (pss_one (ps_ret (pe_callB (call_min2' rfl) (by rfl) T.z_min (by decide +kernel) (pa_cons (pv 1) (pa_cons (pe_ix (ix_seqK (K := K)) (pe_lst (pa_cons pe_int (pa_cons pe_int (pa_cons (pe_op op_addA pe_int (pe_call (ok_law_pull T) hr (by rfl) T.g_law_pull T.F_law_pull.kp T.b_law_pull .nil pass0 (pa_cons (pv 0) (pa_cons pe_int pa_nil)))) (pa_cons (pe_op op_addA pe_int (pe_call (ok_law_pull T) hr (by rfl) T.g_law_pull T.F_law_pull.kp T.b_law_pull .nil pass0 (pa_cons (pv 0) (pa_cons (pv 1) pa_nil)))) (pa_cons (pv 1) pa_nil)))))) (pe_call (ok_law_pull T) hr (by rfl) T.g_law_pull T.F_law_pull.kp T.b_law_pull .nil pass0 (pa_cons (pv 0) (pa_cons pe_int pa_nil))) (fun _ _ => rfl)) pa_nil))))), fun ds M Kd KX h => ?_⟩)
  · obtain ⟨c, m, x, b, rfl, _⟩ := h
    rfl
  · obtain ⟨c, m, x, b, rfl, rfl, ok, hb, m0, m1, k⟩ := h
    show SS W0 _ [some (dR c), some (dI m)] [(c, cr x)] _
    walk_at "s"
    refine se_call0 1 ?_
    walk_at "s"
    refine pull_s ok (by omega) (by decide) (by decide) fun r1 x1 r10 r11 ok1 => ?_
    walk_at "s"
    refine se_call0 1 ?_
    walk_at "s"
    refine pull_s ok1 (by omega) (by omega) (by omega) fun r2 x2 r20 r21 ok2 => ?_
    walk_at "s"
    refine se_call0 1 ?_
    walk_at "s"
    refine pull_s ok2 (by omega) (by omega) (by omega) fun r3 x3 r30 r31 ok3 => ?_
    refine or_ixBI (ns := [1, 1, 1 + r1, 1 + r2, m]) r30 r31 fun n hn => ?_
    walk_at "s"
    simp at hn
    exact Ret.py (k _ x3 (by omega) (by omega) ok3)
def RunD (r : List Nat × Int) : PyData := .tuple [.str (mkS r.1), .int r.2]
def RunOk (m : Int) (t : Int) (r : List Nat × Int) : Prop := Sg r.1 ∧ 1 ≤ r.1.length ∧ (r.1.length : Int) ≤ m ∧ 1 ≤ r.2 ∧ r.2 ≤ t

def sp_counts_of (T : Txt K mg) : DSp := fun ds M Kd KX => ∃ l b p, ds = [dS (mkS l), dI b, dI p] ∧ M = [] ∧ l.length ≤ 100000 ∧ Kd (dL ((FM.cn l b p).map PyData.int)) []
theorem ok_counts_of (T : Txt K mg) : FnOk P w K mg base CX0 1 T.f_counts_of T.fd_counts_of ["signs", "begin", "parity"] (spD (sp_counts_of T)) := by
  refine fn_ok T.F_counts_of sc_counts_of (fun ds M Kd KX h => ?hl) (fun cdv A outer s0 H E hr => ⟨_, (pss_cons (ps_set (i := 3) sc_counts_of.nd rfl (by first | exact Or.inl rfl | exact Or.inr rfl) (pe_lst pa_nil))
      (pss_cons (ps_for PassesOwn.never rfl (pi_enumK (by rfl) T.z_enumerate (pa_cons (pv 0) pa_nil) (pk_cons (pv 1) pk_nil)) (pg_seqK (K := K) (n := 2) rfl (pgs_cons (pg_name (i := 4) sc_counts_of.nd rfl (by first | exact Or.inl rfl | exact Or.inr rfl)) (pgs_cons (pg_name (i := 5) sc_counts_of.nd rfl (by first | exact Or.inl rfl | exact Or.inr rfl)) pgs_nil)))
      (pss_one (ps_expr (pe_bmK (K := K) PySem.F.plainAttrs_list PySem.F.slot_list_append PySem.F.type_list_append mt_append (pv 3) (pa_cons (pe_ifExp (pt_cmpR (op_eqK (K := K) hr.units) (pe_op op_mod (pv 4) pe_int) (pv 2) (nomark _)) (pe_callTy call_int1' (by rfl) T.z_int (by decide +kernel) (pa_cons (pe_cmpR (op_eqK (K := K) hr.units) (pv 5) (pe_globS (by rfl) T.g_WISHED) (nomark _)) pa_nil)) (pe_op op_sub pe_int (pe_callTy call_int1' (by rfl) T.z_int (by decide +kernel) (pa_cons (pe_cmpR (op_inK (K := K)) (pv 5) (pe_glob (v := .ref T.a_WITH_PASS) (by rfl) T.g_WITH_PASS rfl) (by rfl)) pa_nil)))) pa_nil)))))
      (pss_one (ps_ret (pv 3))))), fun ds M Kd KX h => ?_⟩)
  · obtain ⟨l, b, p, rfl, _⟩ := h
    rfl
  · obtain ⟨l, b, p, rfl, rfl, hl, k⟩ := h
    show SS W0 _ [some (dS (mkS l)), some (dI b), some (dI p), none, none, none] [] _
    walk_at "s"
    refine se_lstC (sa_nil ⟨by decide, fun a => ?_⟩)
    walk_at "s"
    refine ss_for (si_enumK ?_)
    walk_at "s"
    refine ⟨_, _, rfl, rfl, fun i ρ' M' => ∃ u v, ρ' = [some (dS (mkS l)), some (dI b), some (dI p), some (dR a), u, v] ∧ M' = [(a, .lst ((FM.cn (l.take i) b p).map dI))], ⟨_, _, rfl, rfl⟩, fun _ _ _ _ _ => trivial, ?_, ?_⟩
    · rintro i d ρ' M' hi ⟨cc, hcc, rfl⟩ ⟨u, v, rfl, rfl⟩
      have hcc : l[i]? = some cc := by simpa [mkS] using hcc
      have hil : (mkS l).cps.size = l.length := mkS_len l
      have hc2 := List.getElem?_eq_some_iff.mp hcc
      refine sg_seqT rfl (sgs_cons (sg_name (sgs_cons (sg_name (sgs_nil ?_)))))
      refine ss_append 0 rfl ?_ ⟨_, rfl⟩
      have fin : ∀ e : Int, e = FM.cw cc (decide ((b + i) % 2 = p)) → (∃ ds, CA [(a, Cell.lst ((FM.cn (l.take i) b p).map dI))] 0 a (.lst ds) ∧ ds.length ≤ 1000000 ∧ ∃ u v, ([some (dS (mkS l)), some (dI b), some (dI p), some (dR a), some (dI (b + i)), some (dS (ofC cc))] : Rho) = [some (dS (mkS l)), some (dI b), some (dI p), some (dR a), u, v] ∧ ([(a, Cell.lst (ds ++ [dI e]))] : Cells) = [(a, .lst ((FM.cn (l.take (i + 1)) b p).map dI))]) := by
        rintro e rfl
        refine ⟨_, rfl, ?_, _, _, rfl, ?_⟩
        · rw [List.length_map, FM.cn_len, List.length_take]
          omega
        · rw [FM.take_snoc hcc, FM.cn_snoc, List.map_append, List.length_take, Nat.min_eq_left (by omega)]
          rfl
      walk_at "s"
      refine br_dec (fun g => ?_) fun g => ?_
      · walk_at "s"
        refine fin _ ?_
        rw [decide_eq_true g, ofC_w, dec_ofC]
        unfold FM.cw
        by_cases h1 : cc = 119 <;> by_cases h2 : cc = 111 <;> simp_all
      · walk_at "s"
        refine se_tup_c T.t_WITH_PASS ?_
        refine or_inAG (ps := [.str "w", .str "o"]) (fun G => .cons (.str _) (.cons (.str _) .nil)) rfl rfl ?_
        walk_at "s"
        refine fin _ ?_
        rw [decide_eq_false g, ofC_w, ofC_o, inC2]
        unfold FM.cw
        by_cases h1 : cc = 119 <;> by_cases h2 : cc = 111 <;> simp_all
    · rintro ρ' M' ⟨u, v, rfl, rfl⟩
      walk_at "s"
      have e : l.take (mkS l).cps.size = l := List.take_of_length_le (Nat.le_of_eq (mkS_len l).symm)
      rw [e]
      refine Ret.lst (ps := (FM.cn l b p).map PyData.int) 0 ?_ k
      rw [List.map_map]
      rfl
def sp_best_beginning (T : Txt K mg) : DSp := fun ds M Kd KX => ∃ ns, ds = [dL (ns.map PyData.int)] ∧ M = [] ∧ ns ≠ [] ∧ ns.length ≤ 100000 ∧ Kd (dI (FM.ah ns)) []
theorem ok_best_beginning (T : Txt K mg) : FnOk P w K mg base CX0 1 T.f_best_beginning T.fd_best_beginning ["counts"] (spD (sp_best_beginning T)) := by
  refine fn_ok T.F_best_beginning sc_best_beginning (fun ds M Kd KX h => ?hl) (fun cdv A outer s0 H E hr => ⟨_, (pss_cons (ps_par (by rfl) sc_best_beginning.nd (i := 1) (j := 2) rfl rfl (by decide) rfl rfl (pa_cons (pe_ix (ix_seqK (K := K)) (pv 0) pe_int (fun _ _ => rfl)) (pa_cons (pe_ix (ix_seqK (K := K)) (pv 0) pe_int (fun _ _ => rfl)) pa_nil)) (by rfl))
      (pss_cons (ps_for PassesOwn.never rfl (pi_anyK (K := K) (pe_slice (sl_anyK (K := K)) (pv 0) (po_some pe_int) po_none)) (pg_name (i := 3) sc_best_beginning.nd rfl (by first | exact Or.inl rfl | exact Or.inr rfl))
      (pss_cons (ps_aug (i := 1) sc_best_beginning.nd rfl (by first | exact Or.inl rfl | exact Or.inr rfl) (pv 3) ip_add)
      (pss_one (ps_set (i := 2) sc_best_beginning.nd rfl (by first | exact Or.inl rfl | exact Or.inr rfl) (pe_callB (call_max2' rfl) (by rfl) T.z_max (by decide +kernel) (pa_cons (pv 2) (pa_cons (pv 1) pa_nil)))))))
      (pss_one (ps_ret (pv 2))))), fun ds M Kd KX h => ?_⟩)
  · obtain ⟨ns, rfl, _⟩ := h
    rfl
  · obtain ⟨ns, rfl, rfl, h0, hl, k⟩ := h
    obtain ⟨n, ns, rfl⟩ := List.exists_cons_of_ne_nil h0
    show SS W0 _ [some (dL (.int n :: ns.map PyData.int)), none, none, none] [] _
    walk_at "s"
    refine ss_for (si_anyL (si_list ?_))
    walk_at "s"
    rw [cutP_tl]
    have hf : ∀ (m : List Int) (o : Int), (m ++ [o]).foldl (fun (s : Int × Int) o => (s.1 + o, max s.2 (s.1 + o))) (n, n) = ((m.foldl (fun (s : Int × Int) o => (s.1 + o, max s.2 (s.1 + o))) (n, n)).1 + o, max (m.foldl (fun (s : Int × Int) o => (s.1 + o, max s.2 (s.1 + o))) (n, n)).2 ((m.foldl (fun (s : Int × Int) o => (s.1 + o, max s.2 (s.1 + o))) (n, n)).1 + o)) := fun m o => by rw [List.foldl_append]; rfl
    refine ⟨_, rfl, fun i ρ' M' => ∃ u, ρ' = [some (dL (.int n :: ns.map PyData.int)), some (dI ((ns.take i).foldl (fun (s : Int × Int) o => (s.1 + o, max s.2 (s.1 + o))) (n, n)).1), some (dI ((ns.take i).foldl (fun (s : Int × Int) o => (s.1 + o, max s.2 (s.1 + o))) (n, n)).2), u] ∧ M' = [], ⟨_, rfl, rfl⟩, fun _ _ _ _ _ => trivial, ?_, ?_⟩
    · rintro i d ρ' M' hi ⟨q, hq, rfl⟩ ⟨u, rfl, rfl⟩
      obtain ⟨o, ho, rfl⟩ := map_at hq
      walk_at "s"
      refine ss_augI rfl ?_
      walk_at "s"
      refine ⟨some (dI o), ?_, rfl⟩
      rw [FM.take_snoc ho, hf]
      rfl
    · rintro ρ' M' ⟨u, rfl, rfl⟩
      walk_at "s"
      refine Ret.py ?_
      rw [List.length_map, List.take_length, FM.ah_fold]
      have : (if ns = [] then n else max n (n + FM.ah ns)) = FM.ah (n :: ns) := by
        cases ns with
        | nil => simp [FM.ah, FM.mp0]
        | cons c l => simp only [FM.ah, FM.mp0, if_false, reduceCtorEq]; omega
      rw [this]
      exact k

abbrev oP : Option Int → PyData
  | none => .none
  | some i => .int i
abbrev LBc (T : Txt K mg) (s : FM.LB) : Cell := .ins T.C_Lookback [("worth_far", dI s.w), ("first_far", .py (oP s.f)), ("later_far", dI s.l)]
def sp_Lookback_init (T : Txt K mg) : DSp := fun ds M Kd KX => ∃ a, ds = [dR a] ∧ M = [(a, .ins T.C_Lookback [])] ∧ Kd dN [(a, LBc T ⟨0, none, 0⟩)]
theorem ok_Lookback_init (T : Txt K mg) : FnOk P w K mg base CX0 1 T.f_Lookback_init T.fd_Lookback_init ["self"] (spD (sp_Lookback_init T)) := by
  refine fn_ok T.F_Lookback_init sc_Lookback_init (fun ds M Kd KX h => ?hl) (fun cdv A outer s0 H E hr => ⟨_, (pss_cons (ps_fld (pv 0) pe_int rfl)
      (pss_cons (ps_fld (pv 0) pe_non rfl)
      (pss_one (ps_fld (pv 0) pe_int rfl)))), fun ds M Kd KX h => ?_⟩)
  · obtain ⟨a, rfl, _⟩ := h
    rfl
  · obtain ⟨a, rfl, rfl, k⟩ := h
    show SS W0 _ [some (dR a)] [(a, .ins T.C_Lookback [])] _
    refine ss_seq (ss_fld ?_)
    walk_at "s"
    refine ⟨0, a, _, _, rfl, rfl, T.cl_Lookback, T.n_Lookback_worth_far, Nat.le_of_ble_eq_true rfl, ?_⟩
    refine ss_seq (ss_fld ?_)
    walk_at "s"
    refine ⟨0, a, _, _, rfl, rfl, T.cl_Lookback, T.n_Lookback_first_far, Nat.le_of_ble_eq_true rfl, ?_⟩
    refine ss_fld ?_
    walk_at "s"
    refine ⟨0, a, _, _, rfl, rfl, T.cl_Lookback, T.n_Lookback_later_far, Nat.le_of_ble_eq_true rfl, ?_⟩
    exact k
def sp_Lookback_go_through (T : Txt K mg) : DSp := fun ds M Kd KX => ∃ a ns b s, ds = [dR a, dL (ns.map PyData.int), dI b] ∧ M = [(a, LBc T s)] ∧ ns.length ≤ 100000 ∧ Kd dN [(a, LBc T (FM.goT ns b s))]
theorem ok_Lookback_go_through (T : Txt K mg) : FnOk P w K mg base CX0 1 T.f_Lookback_go_through T.fd_Lookback_go_through ["self", "counts", "begin"] (spD (sp_Lookback_go_through T)) := by
  refine fn_ok T.F_Lookback_go_through sc_Lookback_go_through (fun ds M Kd KX h => ?hl) (fun cdv A outer s0 H E hr => ⟨_, (pss_one (ps_for PassesOwn.never rfl (pi_range3 (by rfl) T.z_range (pa_cons (pe_op op_sub (pe_callB (call_lenK (K := K)) (by rfl) T.z_len (by decide +kernel) (pa_cons (pv 1) pa_nil)) pe_int) (pa_cons (pe_un un_neg pe_int) (pa_cons (pe_un un_neg pe_int) pa_nil)))) (pg_name (i := 3) sc_Lookback_go_through.nd rfl (by first | exact Or.inl rfl | exact Or.inr rfl))
      (pss_cons (ps_set (i := 4) sc_Lookback_go_through.nd rfl (by first | exact Or.inl rfl | exact Or.inr rfl) (pe_op op_addA (pe_ix (ix_seqK (K := K)) (pv 1) (pv 3) (fun _ _ => rfl)) (pe_fldK (K := K) (pv 0) rfl)))
      (pss_cons (ps_if (pt_cmpR op_ge (pv 4) (pe_callB (call_max2' rfl) (by rfl) T.z_max (by decide +kernel) (pa_cons pe_int (pa_cons (pe_fldK (K := K) (pv 0) rfl) pa_nil))) (nomark _))
      (pss_one (ps_asg (pe_tup (pa_cons (pv 4) (pa_cons (pe_op op_addA (pv 2) (pv 3)) pa_nil))) (pg_seqK (K := K) (n := 2) rfl (pgs_cons (pg_attrK (K := K) (pv 0)) (pgs_cons (pg_attrK (K := K) (pv 0)) pgs_nil)))))
      pss_nil)
      (pss_one (ps_fld (pv 0) (pe_callB (call_max2' rfl) (by rfl) T.z_max (by decide +kernel) (pa_cons pe_int (pa_cons (pv 4) pa_nil))) rfl)))))), fun ds M Kd KX h => ?_⟩)
  · obtain ⟨a, ns, b, s, rfl, _⟩ := h
    rfl
  · obtain ⟨a, ns, b, s, rfl, rfl, hl, k⟩ := h
    show SS W0 _ [some (dR a), some (dL (ns.map PyData.int)), some (dI b), none, none] [(a, LBc T s)] _
    refine ss_for (si_range3 ?_)
    walk_at "s"
    rw [List.length_map]
    refine ⟨_, _, _, _, rfl, RgC.neg (by omega) (by omega) (by omega) (by omega), fun i ρ' M' => ∃ u v, ρ' = [some (dR a), some (dL (ns.map PyData.int)), some (dI b), u, v] ∧ M' = [(a, LBc T (FM.goT (ns.drop (ns.length - i)) (b + ((ns.length - i : Nat) : Int)) s))], ⟨_, _, rfl, by rw [Nat.sub_zero, List.drop_length]; rfl⟩, fun _ _ _ _ _ => trivial, ?_, ?_⟩
    · rintro i d ρ' M' hi rfl ⟨u, v, rfl, rfl⟩
      have hi : i < ns.length := by omega
      obtain ⟨j, hj⟩ : ∃ j, ns.length - i = j + 1 := ⟨ns.length - i - 1, by omega⟩
      have hj2 : ns.length - (i + 1) = j := by omega
      have hj3 : (ns.length : Int) - 1 + ((i : Nat) : Int) * -1 = (j : Int) := by omega
      rw [hj, hj3]
      obtain ⟨n, hn⟩ : ∃ n, ns[j]? = some n := ⟨ns[j]'(by omega), by simp [show j < ns.length by omega]⟩
      have hdr : ns.drop j = n :: ns.drop (j + 1) := (List.drop_eq_getElem_cons (by omega : j < ns.length)).trans (by rw [(List.getElem?_eq_some_iff.mp hn).2])
      obtain ⟨s', hs'⟩ : ∃ s', FM.goT (ns.drop (j + 1)) (b + ((j + 1 : Nat) : Int)) s = s' := ⟨_, rfl⟩
      rw [hs']
      have hs2 : FM.goT (ns.drop (ns.length - (i + 1))) (b + ((ns.length - (i + 1) : Nat) : Int)) s = FM.stp n (b + j) s' := by
        rw [hj2, hdr, FM.goT, ← hs']
        congr 2
        omega
      walk_at "s"
      refine or_ix (p := .int n) (by rw [PL.atI_map, show atI ns (j : Int) = some n by unfold atI; rw [show ixN ns.length (j : Int) = some j by unfold ixN; rw [if_pos (by omega), if_pos (by omega)]; rfl]; exact hn]; rfl) ?_
      refine se_fld ?_
      walk_at "s"
      refine ⟨0, a, _, _, _, rfl, rfl, T.cl_Lookback, T.n_Lookback_later_far, rfl, ?_⟩
      walk_at "s"
      refine se_fld ?_
      walk_at "s"
      refine ⟨0, a, _, _, _, rfl, rfl, T.cl_Lookback, T.n_Lookback_worth_far, rfl, ?_⟩
      walk_at "s"
      refine br_dec (fun g => ?_) fun g => ?_
      · walk_at "s"
        refine sg_seqT rfl (sgs_cons (sg_attr ?_))
        walk_at "s"
        refine ⟨0, a, _, _, rfl, rfl, T.cl_Lookback, T.n_Lookback_worth_far, Nat.le_of_ble_eq_true rfl, ?_⟩
        refine sgs_cons (sg_attr ?_)
        walk_at "s"
        refine ⟨0, a, _, _, rfl, rfl, T.cl_Lookback, T.n_Lookback_first_far, Nat.le_of_ble_eq_true rfl, ?_⟩
        refine sgs_nil ?_
        refine ss_fld ?_
        walk_at "s"
        refine ⟨0, a, _, _, rfl, rfl, T.cl_Lookback, T.n_Lookback_later_far, Nat.le_of_ble_eq_true rfl, ?_⟩
        refine ⟨_, _, rfl, ?_⟩
        rw [hs2, FM.stp, if_pos g]
        rfl
      · walk_at "s"
        refine ss_fld ?_
        walk_at "s"
        refine ⟨0, a, _, _, rfl, rfl, T.cl_Lookback, T.n_Lookback_later_far, Nat.le_of_ble_eq_true rfl, ?_⟩
        refine ⟨_, _, rfl, ?_⟩
        rw [hs2, FM.stp, if_neg g]
        rfl
    · rintro ρ' M' ⟨u, v, rfl, rfl⟩
      have e : ns.length - ((ns.length : Int) - 1 - -1).toNat = 0 := by omega
      rw [e]
      show Kd dN _
      rw [List.drop_zero, show b + ((0 : Nat) : Int) = b by omega]
      exact k
def sp_Lookback_go_past (T : Txt K mg) : DSp := fun ds M Kd KX => ∃ a ns o s, ds = [dR a, dL (ns.map PyData.int), dI o] ∧ M = [(a, LBc T s)] ∧ ns ≠ [] ∧ ns.length ≤ 100000 ∧ -100000 ≤ ns.sum ∧ ns.sum ≤ 100000 ∧ Kd dN [(a, LBc T (FM.goP ns o s))]
theorem ok_Lookback_go_past (T : Txt K mg) : FnOk P w K mg base CX0 2 T.f_Lookback_go_past T.fd_Lookback_go_past ["self", "counts", "often"] (spD (sp_Lookback_go_past T)) := by
  refine fn_ok T.F_Lookback_go_past sc_Lookback_go_past (fun ds M Kd KX h => ?hl) (fun cdv A outer s0 H E hr => ⟨_, (pss_one (ps_if (pt_cmpR op_gt (pv 2) pe_int (nomark _))
      (pss_cons (ps_set (i := 3) sc_Lookback_go_past.nd rfl (by first | exact Or.inl rfl | exact Or.inr rfl) (pe_callB (cr_sumK (K := K) rfl) (by rfl) T.z_sum (by decide +kernel) (pa_cons (pv 1) pa_nil)))
      (pss_cons (ps_set (i := 4) sc_Lookback_go_past.nd rfl (by first | exact Or.inl rfl | exact Or.inr rfl) (pe_op op_addA (pe_call (ok_best_beginning T) hr (by rfl) T.g_best_beginning T.F_best_beginning.kp T.b_best_beginning .nil pass0 (pa_cons (pv 1) pa_nil)) (pe_op op_mulA (pe_callB (call_max2' rfl) (by rfl) T.z_max (by decide +kernel) (pa_cons pe_int (pa_cons (pv 3) pa_nil))) (pe_op op_sub (pv 2) pe_int))))
      (pss_one (ps_fld (pv 0) (pe_callB (call_max3 rfl) (by rfl) T.z_max (by decide +kernel) (pa_cons pe_int (pa_cons (pv 4) (pa_cons (pe_op op_addA (pe_op op_mulA (pv 3) (pv 2)) (pe_fldK (K := K) (pv 0) rfl)) pa_nil)))) rfl))))
      pss_nil)), fun ds M Kd KX h => ?_⟩)
  · obtain ⟨a, ns, b, s, rfl, _⟩ := h
    rfl
  · obtain ⟨a, ns, o, s, rfl, rfl, h0, hl, hs1, hs2, k⟩ := h
    show SS W0 _ [some (dR a), some (dL (ns.map PyData.int)), some (dI o), none, none] [(a, LBc T s)] _
    walk_at "s"
    refine br_dec (fun g => ?_) fun g => ?_
    · walk_at "s"
      refine cr_sumL (.py (ns.map PyData.int)) ?_
      walk_at "s"
      refine se_call0 0 ?_
      walk_at "s"
      refine ⟨ns, rfl, rfl, h0, hl, ?_⟩
      walk_at "s"
      refine or_mulI (mulOk_l (by omega) (by omega)) ?_
      walk_at "s"
      refine ss_fld ?_
      walk_at "s"
      refine or_mulI (mulOk_l (by omega) (by omega)) ?_
      walk_at "s"
      refine se_fld ?_
      walk_at "s"
      refine ⟨0, a, _, _, _, rfl, rfl, T.cl_Lookback, T.n_Lookback_later_far, rfl, ?_⟩
      walk_at "s"
      refine ⟨0, a, _, _, rfl, rfl, T.cl_Lookback, T.n_Lookback_later_far, Nat.le_of_ble_eq_true rfl, ?_⟩
      rw [FM.goP, if_pos g] at k
      exact k
    · walk_at "s"
      rw [FM.goP, if_neg g] at k
      exact k

abbrev BlkD (b : FM.Blk) : PyData := .tuple [.str (mkS b.1), .int b.2.1, .int b.2.2]
def RunsOk (rs : List (List Nat × Int)) : Prop := rs.length ≤ 1000 ∧ ∀ r ∈ rs, 1 ≤ r.1.length ∧ r.1.length ≤ 1000
def sp_blocks_of (T : Txt K mg) : DSp := fun ds M Kd KX => ∃ rs, ds = [dL (rs.map RunD)] ∧ M = [] ∧ RunsOk rs ∧ Kd (dL ((FM.bo rs).map BlkD)) []
theorem addB_len (s : List FM.Blk × Int) (q : List Nat × Int) : (FM.addB s q).1.length ≤ s.1.length + 1 := by
  unfold FM.addB
  split <;> simp
theorem bo_len : ∀ (rs : List (List Nat × Int)) (s : List FM.Blk × Int), (rs.foldl FM.boR s).1.length ≤ s.1.length + 2 * rs.length
  | [], s => by simp
  | r :: rs, s => by
    rw [List.foldl_cons, List.length_cons]
    have h1 := bo_len rs (FM.boR s r)
    have h2 := addB_len s (r.1 ++ r.1, FM.twc r)
    have h3 := addB_len (FM.addB s (r.1 ++ r.1, FM.twc r)) (r.1, r.2 - 2 * FM.twc r)
    have h4 : FM.boR s r = FM.addB (FM.addB s (r.1 ++ r.1, FM.twc r)) (r.1, r.2 - 2 * FM.twc r) := rfl
    rw [h4] at h1 ⊢
    omega
theorem ok_blocks_of (T : Txt K mg) : FnOk P w K mg base CX0 1 T.f_blocks_of T.fd_blocks_of ["runs"] (spD (sp_blocks_of T)) := by
  refine fn_ok T.F_blocks_of sc_blocks_of (fun ds M Kd KX h => ?hl) (fun cdv A outer s0 H E hr => ⟨_, (pss_cons (ps_set (i := 1) sc_blocks_of.nd rfl (by first | exact Or.inl rfl | exact Or.inr rfl) (pe_lst pa_nil))
      (pss_cons (ps_set (i := 2) sc_blocks_of.nd rfl (by first | exact Or.inl rfl | exact Or.inr rfl) pe_int)
      (pss_cons (ps_for PassesOwn.never rfl (pi_anyK (K := K) (pv 0)) (pg_seqK (K := K) (n := 2) rfl (pgs_cons (pg_name (i := 3) sc_blocks_of.nd rfl (by first | exact Or.inl rfl | exact Or.inr rfl)) (pgs_cons (pg_name (i := 4) sc_blocks_of.nd rfl (by first | exact Or.inl rfl | exact Or.inr rfl)) pgs_nil)))
      (pss_cons (ps_set (i := 5) sc_blocks_of.nd rfl (by first | exact Or.inl rfl | exact Or.inr rfl) (pe_ifExp (pt_cmpR (op_eqK (K := K) hr.units) (pe_op op_mod (pe_callB (call_lenK (K := K)) (by rfl) T.z_len (by decide +kernel) (pa_cons (pv 3) pa_nil)) pe_int) pe_int (nomark _)) (pe_op op_fdivW (pv 4) pe_int) pe_int))
      (pss_one (ps_for PassesOwn.never rfl (pi_anyK (K := K) (pe_tup (pa_cons (pe_tup (pa_cons (pe_op op_mulA (pv 3) pe_int) (pa_cons (pv 5) pa_nil))) (pa_cons (pe_tup (pa_cons (pv 3) (pa_cons (pe_op op_sub (pv 4) (pe_op op_mulA pe_int (pv 5))) pa_nil))) pa_nil)))) (pg_seqK (K := K) (n := 2) rfl (pgs_cons (pg_name (i := 6) sc_blocks_of.nd rfl (by first | exact Or.inl rfl | exact Or.inr rfl)) (pgs_cons (pg_name (i := 7) sc_blocks_of.nd rfl (by first | exact Or.inl rfl | exact Or.inr rfl)) pgs_nil)))
      (pss_one (ps_if (pt_cmpR op_gt (pv 7) pe_int (nomark _))
      (pss_cons (ps_expr (pe_bmK (K := K) PySem.F.plainAttrs_list PySem.F.slot_list_append PySem.F.type_list_append mt_append (pv 1) (pa_cons (pe_tup (pa_cons (pv 6) (pa_cons (pv 7) (pa_cons (pv 2) pa_nil)))) pa_nil)))
      (pss_one (ps_aug (i := 2) sc_blocks_of.nd rfl (by first | exact Or.inl rfl | exact Or.inr rfl) (pe_op op_mulA (pe_callB (call_lenK (K := K)) (by rfl) T.z_len (by decide +kernel) (pa_cons (pv 6) pa_nil)) (pv 7)) ip_add)))
      pss_nil))))))
      (pss_one (ps_ret (pv 1)))))), fun ds M Kd KX h => ?_⟩)
  · obtain ⟨rs, rfl, _⟩ := h
    rfl
  · obtain ⟨rs, rfl, rfl, hrs, k⟩ := h
    show SS W0 _ [some (dL (rs.map RunD)), none, none, none, none, none, none, none] [] _
    walk_at "s"
    refine se_lstC (sa_nil ⟨by decide, fun a => ?_⟩)
    walk_at "s"
    refine ss_forL RunD rs (fun pre ρ' M' => ∃ x1 x2 x3 x4 x5, ρ' = [some (dL (rs.map RunD)), some (dR a), some (dI (pre.foldl FM.boR ([], 0)).2), x1, x2, x3, x4, x5] ∧ M' = [(a, .lst ((pre.foldl FM.boR ([], 0)).1.map fun b => D.py (BlkD b)))]) ?_ ⟨?_, ?_⟩
    · walk_at "s"
      exact ⟨rfl, _, _, _, _, _, rfl, rfl⟩
    · rintro pre ⟨l, t⟩ post ρ' M' hx ⟨x1, x2, x3, x4, x5, rfl, rfl⟩
      have hl := hrs.2 (l, t) (by rw [hx]; simp)
      dsimp only at hl
      have hle : (pre.foldl FM.boR ([], 0)).1.length ≤ 2000 := by
        have := bo_len pre ([], 0)
        have h2 := hrs.1
        rw [hx, List.length_append] at h2
        simp at this
        omega
      rw [List.foldl_append]
      show SG W0 _ (dT [.str (mkS l), .int t]) _ _ fun ρ2 M2 => SS W0 _ ρ2 M2 (Bd _ fun ρ' M' => ∃ x1 x2 x3 x4 x5, ρ' = [some (dL (rs.map RunD)), some (dR a), some (dI (FM.boR (pre.foldl FM.boR ([], 0)) (l, t)).2), x1, x2, x3, x4, x5] ∧ M' = [(a, .lst ((FM.boR (pre.foldl FM.boR ([], 0)) (l, t)).1.map fun b => D.py (BlkD b)))])
      obtain ⟨S, hS⟩ : ∃ S, pre.foldl FM.boR ([], 0) = S := ⟨_, rfl⟩
      rw [hS] at hle ⊢
      refine sg_seqT rfl (sgs_cons (sg_name (sgs_cons (sg_name (sgs_nil ?_)))))
      refine ss_seq (ss_set ?_)
      refine se_join (dI (FM.twc (l, t))) ?_ ?_
      · walk_at "s"
        refine cr_lenZ (by omega) ?_
        walk_at "s"
        refine br_dec (fun g => ?_) fun g => ?_
        · walk_at "s"
          refine ⟨?_, rfl⟩
          unfold FM.twc
          dsimp only
          rw [if_pos (by omega)]
        · walk_at "s"
          refine ⟨?_, rfl⟩
          unfold FM.twc
          dsimp only
          rw [if_neg (by omega)]
      · refine ss_forT RunD [(l ++ l, FM.twc (l, t)), (l, t - 2 * FM.twc (l, t))] (fun p2 ρ' M' => ∃ x1 x2, ρ' = [some (dL (rs.map RunD)), some (dR a), some (dI (p2.foldl FM.addB S).2), some (dS (mkS l)), some (dI t), some (dI (FM.twc (l, t))), x1, x2] ∧ M' = [(a, .lst ((p2.foldl FM.addB S).1.map fun b => D.py (BlkD b)))]) ?_ ⟨?_, ?_⟩
        · walk_at "s"
          refine or_dblZ (by omega) ?_
          walk_at "s"
          exact ⟨rfl, _, _, rfl, rfl⟩
        · rintro p2 ⟨l2, t2⟩ post2 ρ' M' hx2 ⟨x1, x2, rfl, rfl⟩
          have hl2 : l2.length ≤ 2000 := by
            have : (l2, t2) ∈ [(l ++ l, FM.twc (l, t)), (l, t - 2 * FM.twc (l, t))] := by rw [hx2]; simp
            simp at this
            rcases this with ⟨rfl, _⟩ | ⟨rfl, _⟩
            · rw [List.length_append]; omega
            · omega
          have hle2 : (p2.foldl FM.addB S).1.length ≤ 10000 := by
            have h3 : p2.length ≤ 2 := by
              have := congrArg List.length hx2
              simp at this
              omega
            have : ∀ (p : List (List Nat × Int)) (s : List FM.Blk × Int), (p.foldl FM.addB s).1.length ≤ s.1.length + p.length := by
              intro p
              induction p with
              | nil => intro s; simp
              | cons q p ih =>
                intro s
                rw [List.foldl_cons, List.length_cons]
                have h1 := ih (FM.addB s q)
                have h2 := addB_len s q
                omega
            have := this p2 S
            omega
          rw [List.foldl_append]
          show SG W0 _ (dT [.str (mkS l2), .int t2]) _ _ fun ρ2 M2 => SS W0 _ ρ2 M2 (Bd _ fun ρ' M' => ∃ x1 x2, ρ' = [some (dL (rs.map RunD)), some (dR a), some (dI (FM.addB (p2.foldl FM.addB S) (l2, t2)).2), some (dS (mkS l)), some (dI t), some (dI (FM.twc (l, t))), x1, x2] ∧ M' = [(a, .lst ((FM.addB (p2.foldl FM.addB S) (l2, t2)).1.map fun b => D.py (BlkD b)))])
          obtain ⟨S2, hS2⟩ : ∃ S2, p2.foldl FM.addB S = S2 := ⟨_, rfl⟩
          rw [hS2] at hle2 ⊢
          refine sg_seqT rfl (sgs_cons (sg_name (sgs_cons (sg_name (sgs_nil ?_)))))
          walk_at "s"
          refine br_dec (fun g => ?_) fun g => ?_
          · refine ss_seq (ss_append 0 rfl ?_ ⟨_, rfl⟩)
            walk_at "s"
            refine ⟨_, rfl, by rw [List.length_map]; omega, ?_⟩
            refine ss_augI rfl ?_
            walk_at "s"
            refine cr_lenZ (by omega) ?_
            walk_at "s"
            refine or_mulI (mulOk_l (by omega) (by omega)) ?_
            walk_at "s"
            refine ⟨some (dS (mkS l2)), some (dI t2), ?_, ?_⟩
            · rw [FM.addB, if_pos g]
              rfl
            · rw [FM.addB, if_pos g, List.map_append]
              rfl
          · walk_at "s"
            refine ⟨some (dS (mkS l2)), some (dI t2), ?_, ?_⟩
            · rw [FM.addB, if_neg g]
              rfl
            · rw [FM.addB, if_neg g]
        · rintro ρ' M' ⟨x1, x2, rfl, rfl⟩
          exact ⟨_, _, _, _, _, rfl, rfl⟩
    · rintro ρ' M' ⟨x1, x2, x3, x4, x5, rfl, rfl⟩
      walk_at "s"
      refine Ret.lst (ps := (FM.bo rs).map BlkD) 0 ?_ k
      rw [List.map_map]
      rfl

def BlkOk (bs : List FM.Blk) : Prop := bs.length ≤ 10000 ∧ ∀ b ∈ bs, 1 ≤ b.1.length ∧ b.1.length ≤ 2000
theorem addB_ok {s : List FM.Blk × Int} {q : List Nat × Int} (h : ∀ b ∈ s.1, 1 ≤ b.1.length ∧ b.1.length ≤ 2000) (hq : 1 ≤ q.1.length ∧ q.1.length ≤ 2000) : ∀ b ∈ (FM.addB s q).1, 1 ≤ b.1.length ∧ b.1.length ≤ 2000 := by
  unfold FM.addB
  split
  · intro b hb
    rcases List.mem_append.mp hb with hb | hb
    · exact h b hb
    · rw [List.mem_singleton] at hb
      subst hb
      exact hq
  · exact h
theorem bo_ok : ∀ (rs : List (List Nat × Int)) (s : List FM.Blk × Int), (∀ b ∈ s.1, 1 ≤ b.1.length ∧ b.1.length ≤ 2000) → (∀ r ∈ rs, 1 ≤ r.1.length ∧ r.1.length ≤ 1000) → ∀ b ∈ (rs.foldl FM.boR s).1, 1 ≤ b.1.length ∧ b.1.length ≤ 2000
  | [], s, h, _ => h
  | r :: rs, s, h, hr => by
    have h1 := hr r List.mem_cons_self
    exact bo_ok rs (FM.boR s r) (addB_ok (addB_ok h (by rw [List.length_append]; omega)) (by dsimp only; omega)) fun r' h' => hr r' (List.mem_cons_of_mem _ h')
theorem RunsOk.blk {rs : List (List Nat × Int)} (h : RunsOk rs) : BlkOk (FM.bo rs) :=
  ⟨Nat.le_trans (bo_len rs ([], 0)) (by have := h.1; simp; omega), bo_ok rs ([], 0) (by intro b hb; cases hb) h.2⟩
def sp_looked_back (T : Txt K mg) : DSp := fun ds M Kd KX => ∃ bs p, ds = [dL (bs.map BlkD), dI p] ∧ M = [] ∧ BlkOk bs ∧ Kd (dT [.int (FM.lbk p bs).w, oP (FM.lbk p bs).f]) []
theorem ok_looked_back (T : Txt K mg) : FnOk P w K mg base CX0 3 T.f_looked_back T.fd_looked_back ["blocks", "parity"] (spD (sp_looked_back T)) := by
  refine fn_ok T.F_looked_back sc_looked_back (fun ds M Kd KX h => ?hl) (fun cdv A outer s0 H E hr => ⟨_, (pss_cons (ps_set (i := 2) sc_looked_back.nd rfl (by first | exact Or.inl rfl | exact Or.inr rfl) (pe_make0 T.mk_Lookback (ok_Lookback_init T) hr (by rfl) T.g_Lookback T.b_Lookback_init .nil pass0))
      (pss_cons (ps_for PassesOwn.never rfl (pi_anyK (K := K) (pe_revK (K := K) (pv 0))) (pg_seqK (K := K) (n := 3) rfl (pgs_cons (pg_name (i := 3) sc_looked_back.nd rfl (by first | exact Or.inl rfl | exact Or.inr rfl)) (pgs_cons (pg_name (i := 4) sc_looked_back.nd rfl (by first | exact Or.inl rfl | exact Or.inr rfl)) (pgs_cons (pg_name (i := 5) sc_looked_back.nd rfl (by first | exact Or.inl rfl | exact Or.inr rfl)) pgs_nil))))
      (pss_cons (ps_set (i := 6) sc_looked_back.nd rfl (by first | exact Or.inl rfl | exact Or.inr rfl) (pe_call (ok_counts_of T) (hr.mono (by decide)) (by rfl) T.g_counts_of T.F_counts_of.kp T.b_counts_of .nil pass0 (pa_cons (pv 3) (pa_cons (pv 5) (pa_cons (pv 1) pa_nil)))))
      (pss_cons (ps_if (pt_cmpR op_gt (pv 4) pe_int (nomark _))
      (pss_cons (ps_expr (pe_meth (pv 2) T.cl_Lookback T.m_Lookback_go_through (ok_Lookback_go_through T) (hr.mono (by decide)) T.b_Lookback_go_through .nil pass0 (pa_cons (pv 6) (pa_cons (pe_op op_addA (pv 5) (pe_op op_mulA (pe_callB (call_lenK (K := K)) (by rfl) T.z_len (by decide +kernel) (pa_cons (pv 3) pa_nil)) (pe_op op_sub (pv 4) pe_int))) pa_nil))))
      (pss_one (ps_expr (pe_meth (pv 2) T.cl_Lookback T.m_Lookback_go_past (ok_Lookback_go_past T) hr T.b_Lookback_go_past .nil pass0 (pa_cons (pv 6) (pa_cons (pe_op op_sub (pv 4) pe_int) pa_nil))))))
      pss_nil)
      (pss_one (ps_expr (pe_meth (pv 2) T.cl_Lookback T.m_Lookback_go_through (ok_Lookback_go_through T) (hr.mono (by decide)) T.b_Lookback_go_through .nil pass0 (pa_cons (pv 6) (pa_cons (pv 5) pa_nil))))))))
      (pss_one (ps_ret (pe_tup (pa_cons (pe_fldK (K := K) (pv 2) rfl) (pa_cons (pe_fldK (K := K) (pv 2) rfl) pa_nil))))))), fun ds M Kd KX h => ?_⟩)
  · obtain ⟨bs, p, rfl, _⟩ := h
    rfl
  · obtain ⟨bs, p, rfl, rfl, hbs, k⟩ := h
    show SS W0 _ [some (dL (bs.map BlkD)), some (dI p), none, none, none, none, none] [] _
    walk_at "s"
    refine se_make0 (sa_nil fun a => ⟨a, rfl, rfl, rfl, _, rfl, ?_⟩)
    walk_at "s"
    refine (ss_forL BlkD bs.reverse (fun pre ρ' M' => ∃ x1 x2 x3 x4, ρ' = [some (dL (bs.map BlkD)), some (dI p), some (dR a), x1, x2, x3, x4] ∧ M' = [(a, LBc T (FM.lb p pre.reverse ⟨0, none, 0⟩))]) ?_ ⟨?_, ?_⟩)
    · refine se_rev ?_
      walk_at "s"
      refine ⟨_, .py _, ?_, _, _, _, _, rfl, rfl⟩
      rw [List.map_reverse]
    · rintro pre ⟨l, t, b⟩ post ρ' M' hx ⟨x1, x2, x3, x4, rfl, rfl⟩
      have hm : (l, t, b) ∈ bs := by rw [← List.mem_reverse, hx]; simp
      have hl := hbs.2 _ hm
      dsimp only at hl
      rw [List.reverse_append, List.reverse_singleton, List.singleton_append, FM.lb]
      show SG W0 _ (dT [.str (mkS l), .int t, .int b]) _ _ fun ρ2 M2 => SS W0 _ ρ2 M2 (Bd _ fun ρ' M' => ∃ x1 x2 x3 x4, ρ' = [some (dL (bs.map BlkD)), some (dI p), some (dR a), x1, x2, x3, x4] ∧ M' = [(a, LBc T (FM.lbB p (l, t, b) (FM.lb p pre.reverse ⟨0, none, 0⟩)))])
      obtain ⟨S, hS⟩ : ∃ S, FM.lb p pre.reverse ⟨0, none, 0⟩ = S := ⟨_, rfl⟩
      rw [hS]
      have hcl := FM.cn_len l b p
      have hcs := FM.cn_sum l b p
      have hc0 : FM.cn l b p ≠ [] := fun e => by rw [e] at hcl; simp at hcl; omega
      refine sg_seqT rfl (sgs_cons (sg_name (sgs_cons (sg_name (sgs_cons (sg_name (sgs_nil ?_)))))))
      walk_at "s"
      refine se_call0 0 ?_
      walk_at "s"
      refine ⟨l, b, p, rfl, rfl, by omega, ?_⟩
      refine ss_mid (Q := fun ρ' M' => ρ' = [some (dL (bs.map BlkD)), some (dI p), some (dR a), some (dS (mkS l)), some (dI t), some (dI b), some (dL ((FM.cn l b p).map .int))] ∧ M' = [(a, LBc T (if 1 < t then FM.goP (FM.cn l b p) (t - 2) (FM.goT (FM.cn l b p) (b + l.length * (t - 1)) S) else S))]) ?_ ?_
      · walk_at "s"
        refine br_dec (fun g => ?_) fun g => ?_
        · refine ss_seq (ss_drop (se_meth0 1 ?_))
          walk_at "s"
          refine ⟨0, a, _, rfl, rfl, rfl, ?_⟩
          walk_at "s"
          refine cr_lenZ (by omega) ?_
          walk_at "s"
          refine or_mulI (mulOk_l (by omega) (by omega)) ?_
          walk_at "s"
          refine ⟨a, _, _, S, rfl, rfl, by omega, ?_⟩
          refine ss_drop (se_meth0 1 ?_)
          walk_at "s"
          refine ⟨0, a, _, rfl, rfl, rfl, ?_⟩
          walk_at "s"
          refine ⟨a, _, _, _, rfl, rfl, hc0, by omega, by omega, by omega, ?_⟩
          refine ⟨rfl, ?_⟩
          rw [if_pos g]
          rfl
        · walk_at "s"
          refine ⟨rfl, ?_⟩
          rw [if_neg g]
          rfl
      · rintro ρ' M' ⟨rfl, rfl⟩
        refine ss_drop (se_meth0 1 ?_)
        walk_at "s"
        refine ⟨0, a, _, rfl, rfl, rfl, ?_⟩
        walk_at "s"
        refine ⟨a, _, _, _, rfl, rfl, by omega, ?_⟩
        exact ⟨_, _, _, _, rfl, rfl⟩
    · rintro ρ' M' ⟨x1, x2, x3, x4, rfl, rfl⟩
      rw [List.reverse_reverse]
      walk_at "s"
      refine se_fld ?_
      walk_at "s"
      refine ⟨0, a, _, _, _, rfl, rfl, T.cl_Lookback, T.n_Lookback_worth_far, rfl, ?_⟩
      walk_at "s"
      refine se_fld ?_
      walk_at "s"
      refine ⟨0, a, _, _, _, rfl, rfl, T.cl_Lookback, T.n_Lookback_first_far, rfl, ?_⟩
      walk_at "s"
      exact Ret.py k

abbrev LkD (s : FM.LB) : PyData := .tuple [.int s.w, oP s.f]
def sp_looked_at (T : Txt K mg) : DSp := fun ds M Kd KX => ∃ rs, ds = [dL (rs.map RunD)] ∧ M = [] ∧ RunsOk rs ∧ Kd (dT [.list ((FM.bo rs).map BlkD), .list [LkD (FM.lbk 0 (FM.bo rs)), LkD (FM.lbk 1 (FM.bo rs))]]) []
theorem ok_looked_at (T : Txt K mg) : FnOk P w K mg base CX0 4 T.f_looked_at T.fd_looked_at ["runs"] (spD (sp_looked_at T)) := by
  refine fn_ok T.F_looked_at sc_looked_at (fun ds M Kd KX h => ?hl) (fun cdv A outer s0 H E hr => ⟨_, (pss_cons (ps_set (i := 1) sc_looked_at.nd rfl (by first | exact Or.inl rfl | exact Or.inr rfl) (pe_call (ok_blocks_of T) (hr.mono (by decide)) (by rfl) T.g_blocks_of T.F_blocks_of.kp T.b_blocks_of .nil pass0 (pa_cons (pv 0) pa_nil)))
      (pss_one (ps_ret (pe_tup (pa_cons (pv 1) (pa_cons (pe_lc (own := [("parity", 2)]) rfl sc_looked_at.nd (pi_anyK (K := K) (pe_tup (pa_cons pe_int (pa_cons pe_int pa_nil)))) (blkOk_by (own := [("parity", 2)]) (N := ["runs", "blocks", "parity"]) (sc := defScope s_looked_at) (by decide +kernel)) (fun _ _ _ _ _ => pg_name (i := 2) sc_looked_at.nd rfl (by first | exact Or.inl rfl | exact Or.inr rfl)) (fun _ _ _ _ _ => pts_nil) (fun _ _ _ _ _ => pe_call (ok_looked_back T) hr (by rfl) T.g_looked_back T.F_looked_back.kp T.b_looked_back .nil pass0 (pa_cons (pv 1) (pa_cons (pv 2) pa_nil)))) pa_nil)))))), fun ds M Kd KX h => ?_⟩)
  · obtain ⟨rs, rfl, _⟩ := h
    rfl
  · obtain ⟨rs, rfl, rfl, hrs, k⟩ := h
    show SS W0 _ [some (dL (rs.map RunD)), none, none] [] _
    walk_at "s"
    refine se_call0 0 ?_
    walk_at "s"
    refine ⟨rs, rfl, rfl, hrs, ?_⟩
    walk_at "s"
    refine se_lcM (xs := [(0 : Int), 1]) (M2 := []) (fun p => LkD (FM.lbk p (FM.bo rs))) gok_name (src_T PyData.int [0, 1] ?_) (by decide) ?_ ?_
    · walk_at "s"
      exact ⟨rfl, rfl⟩
    · rintro pre x post hx
      walk_at "s"
      refine se_call0 0 ?_
      walk_at "s"
      exact ⟨FM.bo rs, x, rfl, rfl, hrs.blk, rfl, rfl, rfl⟩
    · walk_at "s"
      exact Ret.py k
def sp_far_fewest (T : Txt K mg) : DSp := fun ds M Kd KX => ∃ rs, ds = [dL (rs.map RunD)] ∧ M = [] ∧ RunsOk rs ∧ Kd (dI (FM.farF rs)) []
theorem ok_far_fewest (T : Txt K mg) : FnOk P w K mg base CX0 5 T.f_far_fewest T.fd_far_fewest ["runs"] (spD (sp_far_fewest T)) := by
  refine fn_ok T.F_far_fewest sc_far_fewest (fun ds M Kd KX h => ?hl) (fun cdv A outer s0 H E hr => ⟨_, (pss_one (ps_ret (pe_callB (cr_maxK (K := K) rfl) (by rfl) T.z_max (by decide +kernel) (pa_cons (pe_lc (own := [("worth", 1), ("first", 2)]) rfl sc_far_fewest.nd (pi_anyK (K := K) (pe_ix (ix_seqK (K := K)) (pe_call (ok_looked_at T) hr (by rfl) T.g_looked_at T.F_looked_at.kp T.b_looked_at .nil pass0 (pa_cons (pv 0) pa_nil)) pe_int (fun _ _ => rfl))) (blkOk_by (own := [("worth", 1), ("first", 2)]) (N := ["runs", "worth", "first"]) (sc := defScope s_far_fewest) (by decide +kernel)) (fun _ _ _ _ _ => pg_seqK (K := K) (n := 2) rfl (pgs_cons (pg_name (i := 1) sc_far_fewest.nd rfl (by first | exact Or.inl rfl | exact Or.inr rfl)) (pgs_cons (pg_name (i := 2) sc_far_fewest.nd rfl (by first | exact Or.inl rfl | exact Or.inr rfl)) pgs_nil))) (fun _ _ _ _ _ => pts_nil) (fun _ _ _ _ _ => pv 1)) pa_nil)))), fun ds M Kd KX h => ?_⟩)
  · obtain ⟨rs, rfl, _⟩ := h
    rfl
  · obtain ⟨rs, rfl, rfl, hrs, k⟩ := h
    show SS W0 _ [some (dL (rs.map RunD)), none, none] [] _
    walk_at "s"
    refine se_lcM (xs := [FM.lbk 0 (FM.bo rs), FM.lbk 1 (FM.bo rs)]) (M2 := []) (fun s => .int s.w) (gok_seq (goks_cons gok_name (goks_cons gok_name goks_nil))) (src_L LkD _ ?_) (by simp) ?_ ?_
    · walk_at "s"
      refine se_call0 0 ?_
      walk_at "s"
      refine ⟨rs, rfl, rfl, hrs, ?_⟩
      walk_at "s"
      exact ⟨rfl, rfl⟩
    · rintro pre x post hx
      refine sg_seqT rfl (sgs_cons (sg_name (sgs_cons (sg_name (sgs_nil ?_)))))
      walk_at "s"
      exact ⟨rfl, rfl, rfl⟩
    · walk_at "s"
      refine cr_maxL (ns := [(FM.lbk 0 (FM.bo rs)).w, (FM.lbk 1 (FM.bo rs)).w]) (.py _) (by simp) ?_
      exact Ret.py k

def sp_reached (T : Txt K mg) : DSp := fun ds M Kd KX => ∃ ns o w, ds = [dL (ns.map PyData.int), dI o, dI w] ∧ M = [] ∧ ns ≠ [] ∧ ns.length ≤ 100000 ∧ -100000 ≤ ns.sum ∧ ns.sum ≤ 100000 ∧ Kd (dT [oP (FM.reF ns o w).1, .int (FM.reF ns o w).2]) []
theorem ok_reached (T : Txt K mg) : FnOk P w K mg base CX0 2 T.f_reached T.fd_reached ["counts", "often", "want"] (spD (sp_reached T)) := by
  refine fn_ok T.F_reached sc_reached (fun ds M Kd KX h => ?hl) (fun cdv A outer s0 H E hr => ⟨_, (pss_cons (ps_par (by rfl) sc_reached.nd (i := 3) (j := 4) rfl rfl (by decide) rfl rfl (pa_cons (pe_callB (cr_sumK (K := K) rfl) (by rfl) T.z_sum (by decide +kernel) (pa_cons (pv 0) pa_nil)) (pa_cons (pe_call (ok_best_beginning T) hr (by rfl) T.g_best_beginning T.F_best_beginning.kp T.b_best_beginning .nil pass0 (pa_cons (pv 0) pa_nil)) pa_nil)) (by rfl))
      (pss_cons (ps_set (i := 5) sc_reached.nd rfl (by first | exact Or.inl rfl | exact Or.inr rfl) (pe_ifExp (pt_cmpR op_gt (pv 3) pe_int (nomark _)) (pe_callB (call_max2' rfl) (by rfl) T.z_max (by decide +kernel) (pa_cons pe_int (pa_cons (pe_un un_neg (pe_op op_fdivW (pe_op op_sub (pv 4) (pv 2)) (pv 3))) pa_nil))) pe_int))
      (pss_cons (ps_if (PW.pt (pw_and (pt_cmpR op_lt (pv 5) (pv 1) (nomark _)) (pw_and1 (pt_cmpR op_ge (pe_op op_addA (pe_op op_mulA (pv 3) (pv 5)) (pv 4)) (pv 2) (nomark _)))))
      (pss_cons (ps_set (i := 6) sc_reached.nd rfl (by first | exact Or.inl rfl | exact Or.inr rfl) (pe_op op_sub (pv 2) (pe_op op_mulA (pv 3) (pv 5))))
      (pss_one (ps_for PassesOwn.never rfl (pi_enumAK (K := K) (by rfl) T.z_enumerate (pa_cons (pv 0) pa_nil)) (pg_seqK (K := K) (n := 2) rfl (pgs_cons (pg_name (i := 7) sc_reached.nd rfl (by first | exact Or.inl rfl | exact Or.inr rfl)) (pgs_cons (pg_name (i := 8) sc_reached.nd rfl (by first | exact Or.inl rfl | exact Or.inr rfl)) pgs_nil)))
      (pss_cons (ps_aug (i := 6) sc_reached.nd rfl (by first | exact Or.inl rfl | exact Or.inr rfl) (pv 8) ip_sub)
      (pss_one (ps_if (pt_cmpR (op_eqK (K := K) hr.units) (pv 6) pe_int (nomark _))
      (pss_one (ps_ret (pe_tup (pa_cons (pe_op op_addA (pe_op op_mulA (pe_callB (call_lenK (K := K)) (by rfl) T.z_len (by decide +kernel) (pa_cons (pv 0) pa_nil)) (pv 5)) (pv 7)) (pa_cons pe_int pa_nil)))))
      pss_nil))))))
      pss_nil)
      (pss_one (ps_ret (pe_tup (pa_cons pe_non (pa_cons (pe_op op_sub (pv 2) (pe_op op_mulA (pv 3) (pv 1))) pa_nil)))))))), fun ds M Kd KX h => ?_⟩)
  · obtain ⟨ns, o, w, rfl, _⟩ := h
    rfl
  · obtain ⟨ns, o, w, rfl, rfl, h0, hl, s1, s2, k⟩ := h
    show SS W0 _ [some (dL (ns.map PyData.int)), some (dI o), some (dI w), none, none, none, none, none, none] [] _
    walk_at "s"
    refine cr_sumL (.py (ns.map PyData.int)) ?_
    walk_at "s"
    refine se_call0 0 ?_
    walk_at "s"
    refine ⟨ns, rfl, rfl, h0, hl, ?_⟩
    refine sa_nil ⟨_, _, rfl, ?_⟩
    refine ss_seq (ss_set (se_join (dI (FM.rnd ns w)) ?_ ?_))
    · walk_at "s"
      refine br_dec (fun g => ?_) fun g => ?_
      · walk_at "s"
        refine or_fdiv (fdiv_ok g (Int.lt_of_le_of_lt s2 (by decide +kernel))) ?_
        walk_at "s"
        refine ⟨?_, rfl⟩
        unfold FM.rnd
        rw [if_pos g]
      · walk_at "s"
        refine ⟨?_, rfl⟩
        unfold FM.rnd
        rw [if_neg g]
    · refine ss_mid (Q := fun ρ' M' => ∃ x1 x2 x3, ρ' = [some (dL (ns.map PyData.int)), some (dI o), some (dI w), some (dI ns.sum), some (dI (FM.ah ns)), some (dI (FM.rnd ns w)), x1, x2, x3] ∧ M' = [] ∧ FM.reF ns o w = (none, w - ns.sum * o)) ?_ ?_
      · walk_at "s"
        by_cases hc : FM.rnd ns w < o ∧ w ≤ ns.sum * FM.rnd ns w + FM.ah ns
        rotate_left
        · have hre : FM.reF ns o w = (none, w - ns.sum * o) := by
            unfold FM.reF
            rw [if_neg hc]
          refine br_dec (fun g => ?_) fun g => ?_
          · walk_at "s"
            refine or_mulI (mulOk_l (by omega) (by omega)) ?_
            walk_at "s"
            refine br_dec (fun g2 => absurd ⟨g, g2⟩ hc) fun g2 => ?_
            walk_at "s"
            exact ⟨none, none, none, rfl, rfl, hre⟩
          · walk_at "s"
            exact ⟨none, none, none, rfl, rfl, hre⟩
        · obtain ⟨g1, g2⟩ := hc
          refine br_T (decide_eq_true g1) ?_
          walk_at "s"
          refine or_mulI (mulOk_l (by omega) (by omega)) ?_
          walk_at "s"
          refine br_T (decide_eq_true g2) ?_
          walk_at "s"
          refine or_mulI (mulOk_l (by omega) (by omega)) ?_
          walk_at "s"
          obtain ⟨W0', hW⟩ : ∃ W0', w - ns.sum * FM.rnd ns w = W0' := ⟨_, rfl⟩
          have hre : FM.reF ns o w = match FM.rch ns W0' with
              | some j => (some (ns.length * FM.rnd ns w + j), 0)
              | none => (none, w - ns.sum * o) := by
            unfold FM.reF
            rw [if_pos ⟨g1, g2⟩, hW]
            try rfl
          rw [hW]
          refine ss_forE PyData.int ns (fun pre ρ' M' => ∃ x2 x3, ρ' = [some (dL (ns.map PyData.int)), some (dI o), some (dI w), some (dI ns.sum), some (dI (FM.ah ns)), some (dI (FM.rnd ns w)), some (dI (W0' - pre.sum)), x2, x3] ∧ M' = [] ∧ FM.rch pre W0' = none) ?_ ⟨?_, ?_⟩
          · walk_at "s"
            refine ⟨rfl, none, none, ?_, rfl, rfl⟩
            rw [List.sum_nil, Int.sub_zero]
            rfl
          · rintro pre x post ρ' M' hx ⟨x2, x3, rfl, rfl, hp⟩
            refine sg_seqT rfl (sgs_cons (sg_name (sgs_cons (sg_name (sgs_nil ?_)))))
            walk_at "s"
            refine ss_augI rfl ?_
            walk_at "s"
            refine br_dec (fun g3 => ?_) fun g3 => ?_
            · walk_at "s"
              rw [List.length_map]
              refine or_mulI (mulOk_l (by omega) (by omega)) ?_
              walk_at "s"
              have : FM.rch ns W0' = some pre.length := by
                rw [hx, FM.rch_app, hp]
                dsimp only
                rw [FM.rch, if_pos g3]
                simp
              rw [hre, this] at k
              exact Ret.py k
            · walk_at "s"
              refine ⟨some (dI (pre.length : Int)), some (dI x), ?_, rfl, ?_⟩
              · rw [List.sum_append, List.sum_singleton, show W0' - (pre.sum + x) = W0' - pre.sum - x by omega]
                rfl
              · rw [FM.rch_app, hp]
                dsimp only
                rw [FM.rch, if_neg g3]
                rfl
          · rintro ρ' M' ⟨x2, x3, rfl, rfl, hp⟩
            rw [hp] at hre
            exact ⟨_, _, _, rfl, rfl, hre⟩
      · rintro ρ' M' ⟨x1, x2, x3, rfl, rfl, hre⟩
        walk_at "s"
        refine or_mulI (mulOk_l (by omega) (by omega)) ?_
        walk_at "s"
        rw [hre] at k
        exact Ret.py k

abbrev PaD (q : List Int × Int × Int) : PyData := .tuple [.list (q.1.map PyData.int), .int q.2.1, .int q.2.2]
def sp_last_of (T : Txt K mg) : DSp := fun ds M Kd KX => ∃ bs p first wo, ds = [dL (bs.map BlkD), dI p, dI first, dI wo] ∧ M = [] ∧ BlkOk bs ∧ Kd (.py (oP (FM.la p first bs wo))) []
theorem ok_last_of (T : Txt K mg) : FnOk P w K mg base CX0 3 T.f_last_of T.fd_last_of ["blocks", "parity", "first", "worth"] (spD (sp_last_of T)) := by
  refine fn_ok T.F_last_of sc_last_of (fun ds M Kd KX h => ?hl) (fun cdv A outer s0 H E hr => ⟨_, (pss_cons (ps_set (i := 4) sc_last_of.nd rfl (by first | exact Or.inl rfl | exact Or.inr rfl) (pv 3))
      (pss_cons (ps_for PassesOwn.never rfl (pi_anyK (K := K) (pv 0)) (pg_seqK (K := K) (n := 3) rfl (pgs_cons (pg_name (i := 5) sc_last_of.nd rfl (by first | exact Or.inl rfl | exact Or.inr rfl)) (pgs_cons (pg_name (i := 6) sc_last_of.nd rfl (by first | exact Or.inl rfl | exact Or.inr rfl)) (pgs_cons (pg_name (i := 7) sc_last_of.nd rfl (by first | exact Or.inl rfl | exact Or.inr rfl)) pgs_nil))))
      (pss_cons (ps_set (i := 8) sc_last_of.nd rfl (by first | exact Or.inl rfl | exact Or.inr rfl) (pe_callB (call_lenK (K := K)) (by rfl) T.z_len (by decide +kernel) (pa_cons (pv 5) pa_nil)))
      (pss_cons (ps_set (i := 9) sc_last_of.nd rfl (by first | exact Or.inl rfl | exact Or.inr rfl) (pe_call (ok_counts_of T) (hr.mono (by decide)) (by rfl) T.g_counts_of T.F_counts_of.kp T.b_counts_of .nil pass0 (pa_cons (pv 5) (pa_cons (pv 7) (pa_cons (pv 1) pa_nil)))))
      (pss_cons (ps_asg (pe_callB call_divmod (by rfl) T.z_divmod (by decide +kernel) (pa_cons (pe_callB (call_max2' rfl) (by rfl) T.z_max (by decide +kernel) (pa_cons pe_int (pa_cons (pe_op op_sub (pv 2) (pv 7)) pa_nil))) (pa_cons (pv 8) pa_nil))) (pg_seqK (K := K) (n := 2) rfl (pgs_cons (pg_name (i := 10) sc_last_of.nd rfl (by first | exact Or.inl rfl | exact Or.inr rfl)) (pgs_cons (pg_name (i := 11) sc_last_of.nd rfl (by first | exact Or.inl rfl | exact Or.inr rfl)) pgs_nil))))
      (pss_one (ps_if (pt_cmpR op_lt (pv 10) (pv 6) (nomark _))
      (pss_cons (ps_set (i := 12) sc_last_of.nd rfl (by first | exact Or.inl rfl | exact Or.inr rfl) (pe_op op_addA (pv 7) (pe_op op_mulA (pv 10) (pv 8))))
      (pss_one (ps_for PassesOwn.never rfl (pi_anyK (K := K) (pe_tup (pa_cons (pe_tup (pa_cons (pe_slice (sl_anyK (K := K)) (pv 9) (po_some (pv 11)) po_none) (pa_cons pe_int (pa_cons (pe_op op_addA (pv 12) (pv 11)) pa_nil)))) (pa_cons (pe_tup (pa_cons (pv 9) (pa_cons (pe_op op_sub (pe_op op_sub (pv 6) (pv 10)) pe_int) (pa_cons (pe_op op_addA (pv 12) (pv 8)) pa_nil)))) pa_nil)))) (pg_seqK (K := K) (n := 3) rfl (pgs_cons (pg_name (i := 13) sc_last_of.nd rfl (by first | exact Or.inl rfl | exact Or.inr rfl)) (pgs_cons (pg_name (i := 14) sc_last_of.nd rfl (by first | exact Or.inl rfl | exact Or.inr rfl)) (pgs_cons (pg_name (i := 15) sc_last_of.nd rfl (by first | exact Or.inl rfl | exact Or.inr rfl)) pgs_nil))))
      (pss_cons (ps_asg (pe_call (ok_reached T) hr (by rfl) T.g_reached T.F_reached.kp T.b_reached .nil pass0 (pa_cons (pv 13) (pa_cons (pv 14) (pa_cons (pv 4) pa_nil)))) (pg_seqK (K := K) (n := 2) rfl (pgs_cons (pg_name (i := 16) sc_last_of.nd rfl (by first | exact Or.inl rfl | exact Or.inr rfl)) (pgs_cons (pg_name (i := 4) sc_last_of.nd rfl (by first | exact Or.inl rfl | exact Or.inr rfl)) pgs_nil))))
      (pss_one (ps_if (pt_cmpR op_notN (pv 16) pe_non (nomark _))
      (pss_one (ps_ret (pe_op op_addA (pv 15) (pv 16))))
      pss_nil))))))
      pss_nil))))))
      (pss_one (ps_ret pe_non)))), fun ds M Kd KX h => ?_⟩)
  · obtain ⟨bs, p, first, wo, rfl, _⟩ := h
    rfl
  · obtain ⟨bs, p, first, wo, rfl, rfl, hbs, k⟩ := h
    show SS W0 _ [some (dL (bs.map BlkD)), some (dI p), some (dI first), some (dI wo), none, none, none, none, none, none, none, none, none, none, none, none, none] [] _
    walk_at "s"
    refine ss_forL BlkD bs (fun pre ρ' M' => ∃ w x5 x6 x7 x8 x9 x10 x11 x12 x13 x14 x15 x16, ρ' = [some (dL (bs.map BlkD)), some (dI p), some (dI first), some (dI wo), some (dI w), x5, x6, x7, x8, x9, x10, x11, x12, x13, x14, x15, x16] ∧ M' = [] ∧ ∀ post, bs = pre ++ post → FM.la p first bs wo = FM.la p first post w) ?_ ⟨?_, ?_⟩
    · walk_at "s"
      refine ⟨rfl, wo, none, none, none, none, none, none, none, none, none, none, none, none, rfl, rfl, fun post e => ?_⟩
      rw [e]
      rfl
    · rintro pre ⟨l, n, b⟩ post ρ' M' hx ⟨w, x5, x6, x7, x8, x9, x10, x11, x12, x13, x14, x15, x16, rfl, rfl, hla⟩
      have hl := hbs.2 (l, n, b) (by rw [hx]; simp)
      dsimp only at hl
      have hla1 := hla _ hx
      have hcl := FM.cn_len l b p
      have hc0 : FM.cn l b p ≠ [] := fun e => by rw [e] at hcl; simp at hcl; omega
      show SG W0 _ (dT [.str (mkS l), .int n, .int b]) _ _ _
      refine sg_seqT rfl (sgs_cons (sg_name (sgs_cons (sg_name (sgs_cons (sg_name (sgs_nil ?_)))))))
      walk_at "s"
      refine cr_lenZ (by omega) ?_
      walk_at "s"
      refine se_call0 0 ?_
      walk_at "s"
      refine ⟨l, b, p, rfl, rfl, by omega, ?_⟩
      walk_at "s"
      refine cr_divmod ⟨by omega, by omega⟩ ?_
      refine sg_seqT rfl (sgs_cons (sg_name (sgs_cons (sg_name (sgs_nil ?_)))))
      obtain ⟨G, hG⟩ : ∃ G, (max 0 (first - b)) / (l.length : Int) = G := ⟨_, rfl⟩
      obtain ⟨L, hL⟩ : ∃ L, (max 0 (first - b)) % (l.length : Int) = L := ⟨_, rfl⟩
      have hL0 : 0 ≤ L := by rw [← hL]; exact Int.emod_nonneg _ (by omega)
      have hL1 : L < l.length := by rw [← hL]; exact Int.emod_lt_of_pos _ (by omega)
      rw [hG, hL]
      have hlaB : FM.laB p first (l, n, b) w = if G < n then FM.paF (FM.parts (FM.cn l b p) n G L (b + G * l.length)) w else (none, w) := by
        unfold FM.laB
        dsimp only
        rw [hG, hL]
      have hnext : ∀ w', FM.laB p first (l, n, b) w = (none, w') → ∀ post', bs = (pre ++ [(l, n, b)]) ++ post' → FM.la p first bs wo = FM.la p first post' w' := by
        intro w' e post' e2
        rw [List.append_assoc] at e2
        rw [hla _ e2]
        show FM.la p first ((l, n, b) :: post') w = _
        rw [FM.la, e]
      walk_at "s"
      refine br_dec (fun g => ?_) fun g => ?_
      · walk_at "s"
        refine or_mulI (mulOk_r (by omega) (by omega)) ?_
        walk_at "s"
        rw [if_pos g] at hlaB
        have hsum : ∀ q ∈ FM.parts (FM.cn l b p) n G L (b + G * l.length), q.1 ≠ [] ∧ q.1.length ≤ 100000 ∧ -100000 ≤ q.1.sum ∧ q.1.sum ≤ 100000 := by
          intro q hq
          unfold FM.parts at hq
          simp only [List.mem_cons, List.not_mem_nil, or_false] at hq
          have hst := FM.cn_stp l b p
          rcases hq with rfl | rfl
          · have h1 := (hst.drop L.toNat).sum
            dsimp only
            have h2 : ((FM.cn l b p).drop L.toNat).length = l.length - L.toNat := by rw [List.length_drop, hcl]
            exact ⟨fun e => by rw [e] at h2; simp at h2; omega, by omega, by omega, by omega⟩
          · have h1 := hst.sum
            dsimp only
            exact ⟨hc0, by omega, by omega, by omega⟩
        refine ss_forT PaD (FM.parts (FM.cn l b p) n G L (b + G * l.length)) (fun pre2 ρ' M' => ∃ w' x13 x14 x15 x16, ρ' = [some (dL (bs.map BlkD)), some (dI p), some (dI first), some (dI wo), some (dI w'), some (dS (mkS l)), some (dI n), some (dI b), some (dI l.length), some (dL ((FM.cn l b p).map PyData.int)), some (dI G), some (dI L), some (dI (b + G * l.length)), x13, x14, x15, x16] ∧ M' = [] ∧ ∀ post2, FM.parts (FM.cn l b p) n G L (b + G * l.length) = pre2 ++ post2 → FM.paF (FM.parts (FM.cn l b p) n G L (b + G * l.length)) w = FM.paF post2 w') ?_ ⟨?_, ?_⟩
        · walk_at "s"
          refine ⟨?_, w, x13, x14, x15, x16, rfl, rfl, fun post2 e => ?_⟩
          · rw [cutP_from hL0, ← List.map_drop]
            unfold FM.parts
            rw [hcl]
            rfl
          · rw [e]
            rfl
        · rintro pre2 ⟨ns, o, sp⟩ post2 ρ' M' hx2 ⟨w', x13, x14, x15, x16, rfl, rfl, hpa⟩
          have hq := hsum (ns, o, sp) (by rw [hx2]; simp)
          have hpa1 := hpa _ hx2
          rw [FM.paF] at hpa1
          dsimp only at hq hpa1
          show SG W0 _ (dT [.list (ns.map PyData.int), .int o, .int sp]) _ _ _
          refine sg_seqT rfl (sgs_cons (sg_name (sgs_cons (sg_name (sgs_cons (sg_name (sgs_nil ?_)))))))
          walk_at "s"
          refine se_call0 0 ?_
          walk_at "s"
          refine ⟨ns, o, w', rfl, rfl, hq.1, hq.2.1, hq.2.2.1, hq.2.2.2, ?_⟩
          refine sg_seqT rfl (sgs_cons (sg_name (sgs_cons (sg_name (sgs_nil ?_)))))
          obtain ⟨⟨c, w2⟩, hre⟩ : ∃ r, FM.reF ns o w' = r := ⟨_, rfl⟩
          rw [hre] at hpa1 ⊢
          cases c with
          | some c =>
            walk_at "s"
            have : FM.la p first bs wo = some (sp + c) := by
              rw [hla1, FM.la, hlaB, hpa1]
            rw [this] at k
            exact Ret.py k
          | none =>
            walk_at "s"
            refine ⟨w2, _, _, _, _, rfl, rfl, fun post3 e => ?_⟩
            rw [List.append_assoc] at e
            rw [hpa _ e]
            show FM.paF ((ns, o, sp) :: post3) w' = _
            rw [FM.paF]
            dsimp only
            rw [hre]
        · rintro ρ' M' ⟨w', x13, x14, x15, x16, rfl, rfl, hpa⟩
          refine ⟨w', _, _, _, _, _, _, _, _, _, _, _, _, rfl, rfl, hnext w' ?_⟩
          rw [hlaB, hpa [] (List.append_nil _).symm]
          rfl
      · walk_at "s"
        rw [if_neg g] at hlaB
        exact ⟨w, _, _, _, _, _, _, _, _, _, _, _, _, rfl, rfl, hnext w hlaB⟩
    · rintro ρ' M' ⟨w, x5, x6, x7, x8, x9, x10, x11, x12, x13, x14, x15, x16, rfl, rfl, hla⟩
      walk_at "s"
      have := hla [] (List.append_nil _).symm
      rw [this] at k
      exact Ret.py k

abbrev cnr (rs : List (List Nat × Int)) (x : Nat) : List Int := FM.cn (FM.cells rs) 0 (x : Int)
def sp_far_tight (T : Txt K mg) : DSp := fun ds M Kd KX => ∃ rs, ds = [dL (rs.map RunD)] ∧ M = [] ∧ RunsOk rs ∧ (∀ r ∈ rs, 0 ≤ r.2) ∧ Kd (.py (FM.tgD (cnr rs))) []
theorem ok_far_tight (T : Txt K mg) : FnOk P w K mg base CX0 5 T.f_far_tight T.fd_far_tight ["runs"] (spD (sp_far_tight T)) := by
  refine fn_ok T.F_far_tight sc_far_tight (fun ds M Kd KX h => ?hl) (fun cdv A outer s0 H E hr => ⟨_, (pss_cons (ps_asg (pe_call (ok_looked_at T) hr (by rfl) T.g_looked_at T.F_looked_at.kp T.b_looked_at .nil pass0 (pa_cons (pv 0) pa_nil)) (pg_seqK (K := K) (n := 2) rfl (pgs_cons (pg_name (i := 1) sc_far_tight.nd rfl (by first | exact Or.inl rfl | exact Or.inr rfl)) (pgs_cons (pg_name (i := 2) sc_far_tight.nd rfl (by first | exact Or.inl rfl | exact Or.inr rfl)) pgs_nil))))
      (pss_cons (ps_set (i := 3) sc_far_tight.nd rfl (by first | exact Or.inl rfl | exact Or.inr rfl) (pe_callB (cr_maxK (K := K) rfl) (by rfl) T.z_max (by decide +kernel) (pa_cons (pe_lc (own := [("worth", 5), ("first", 6)]) rfl sc_far_tight.nd (pi_anyK (K := K) (pv 2)) (blkOk_by (own := [("worth", 5), ("first", 6)]) (N := ["runs", "blocks", "found", "most", "tights", "worth", "first", "parity"]) (sc := defScope s_far_tight) (by decide +kernel)) (fun _ _ _ _ _ => pg_seqK (K := K) (n := 2) rfl (pgs_cons (pg_name (i := 5) sc_far_tight.nd rfl (by first | exact Or.inl rfl | exact Or.inr rfl)) (pgs_cons (pg_name (i := 6) sc_far_tight.nd rfl (by first | exact Or.inl rfl | exact Or.inr rfl)) pgs_nil))) (fun _ _ _ _ _ => pts_nil) (fun _ _ _ _ _ => pv 5)) pa_nil)))
      (pss_cons (ps_setLc (i := 4) (own := [("parity", 7), ("worth", 5), ("first", 6)]) rfl sc_far_tight.nd rfl rfl (sw_true rfl rfl rfl (by decide +kernel)) (pi_enumAK (K := K) (by rfl) T.z_enumerate (pa_cons (pv 2) pa_nil)) (blkOk_by (own := [("parity", 7), ("worth", 5), ("first", 6)]) (N := ["runs", "blocks", "found", "most", "tights", "worth", "first", "parity"]) (sc := defScope s_far_tight) (by decide +kernel)) (fun _ _ _ _ _ => pg_seqK (K := K) (n := 2) rfl (pgs_cons (pg_name (i := 7) sc_far_tight.nd rfl (by first | exact Or.inl rfl | exact Or.inr rfl)) (pgs_cons (pg_seqK (K := K) (n := 2) rfl (pgs_cons (pg_name (i := 5) sc_far_tight.nd rfl (by first | exact Or.inl rfl | exact Or.inr rfl)) (pgs_cons (pg_name (i := 6) sc_far_tight.nd rfl (by first | exact Or.inl rfl | exact Or.inr rfl)) pgs_nil))) pgs_nil))) (fun _ _ _ _ _ => pts_one (PW.pt (pw_and (pt_cmpR (op_eqK (K := K) hr.units) (pv 5) (pv 3) (nomark _)) (pw_and1 (pt_cmpR op_gt (pv 5) pe_int (nomark _)))))) (fun _ _ _ _ _ => pe_tup (pa_cons (pv 6) (pa_cons (pe_call (ok_last_of T) (hr.mono (by decide)) (by rfl) T.g_last_of T.F_last_of.kp T.b_last_of .nil pass0 (pa_cons (pv 1) (pa_cons (pv 7) (pa_cons (pv 6) (pa_cons (pv 5) pa_nil))))) (pa_cons (pv 7) pa_nil)))))
      (pss_one (ps_ret (pe_callBK (cr_minDK (K := K) rfl hr.units) (by rfl) T.z_min (by decide +kernel) (pa_cons (pv 4) pa_nil) (pk_cons pe_non pk_nil))))))), fun ds M Kd KX h => ?_⟩)
  · obtain ⟨rs, rfl, _⟩ := h
    rfl
  · obtain ⟨rs, rfl, rfl, hrs, hr0, k⟩ := h
    have hr2 : ∀ r ∈ rs, r.1 ≠ [] ∧ 0 ≤ r.2 := fun r hr => ⟨fun e => by have := (hrs.2 r hr).1; rw [e] at this; simp at this, hr0 r hr⟩
    have hch : FM.Chain 0 (FM.bo rs) (rs.foldl FM.boR ([], 0)).2 := (FM.bo_full (rs := rs) (S := ([], 0)) rfl hr2).1
    have hce : FM.cellsB (FM.bo rs) = FM.cells rs := (FM.bo_full (rs := rs) (S := ([], 0)) rfl hr2).2
    have hlb : ∀ p, FM.lbk p (FM.bo rs) = FM.goT (FM.cn (FM.cells rs) 0 p) 0 FM.z0 := fun p => FM.lbk_full hr2 p
    have hw : ∀ p, (FM.lbk p (FM.bo rs)).w = FM.ms0 (FM.cn (FM.cells rs) 0 p) := fun p => by rw [hlb, FM.goT_w]
    show SS W0 _ [some (dL (rs.map RunD)), none, none, none, none, none, none, none] [] _
    walk_at "s"
    refine se_call0 0 ?_
    walk_at "s"
    refine ⟨rs, rfl, rfl, hrs, ?_⟩
    refine sg_seqT rfl (sgs_cons (sg_name (sgs_cons (sg_name (sgs_nil ?_)))))
    walk_at "s"
    refine se_lcM (xs := [FM.lbk 0 (FM.bo rs), FM.lbk 1 (FM.bo rs)]) (M2 := []) (fun s => .int s.w) (gok_seq (goks_cons gok_name (goks_cons gok_name goks_nil))) (src_L LkD _ ?_) (by simp) ?_ ?_
    · walk_at "s"
      exact ⟨rfl, rfl⟩
    · rintro pre x post hx
      refine sg_seqT rfl (sgs_cons (sg_name (sgs_cons (sg_name (sgs_nil ?_)))))
      walk_at "s"
      exact ⟨rfl, rfl, rfl⟩
    · walk_at "s"
      refine cr_maxL (ns := [(FM.lbk 0 (FM.bo rs)).w, (FM.lbk 1 (FM.bo rs)).w]) (.py _) (by simp) ?_
      walk_at "s"
      have hmost : maxL [(FM.lbk 0 (FM.bo rs)).w, (FM.lbk 1 (FM.bo rs)).w] = max (FM.ms0 (cnr rs 0)) (FM.ms0 (cnr rs 1)) := by
        show max _ _ = _
        rw [hw, hw]
        rfl
      rw [hmost]
      refine se_lcF (xs := [0, 1]) (M2 := []) (FM.tgP (cnr rs)) (FM.tgM (cnr rs)) (gok_seq (goks_cons gok_name (goks_cons (gok_seq (goks_cons gok_name (goks_cons gok_name goks_nil))) goks_nil))) (src_E (fun x : Nat => LkD (FM.lbk (x : Int) (FM.bo rs))) _ ?_) (by simp) ?_ ?_
      · walk_at "s"
        exact ⟨rfl, rfl⟩
      · rintro pre x post hx
        have hpx : pre.length = x := by
          match pre, hx with
          | [], hx => simp at hx; exact hx.1
          | [a], hx => simp at hx; exact hx.2.1
          | a :: b :: c, hx => simp at hx
        rw [hpx]
        have hwx := hw (x : Int)
        refine sg_seqT rfl (sgs_cons (sg_name (sgs_cons (sg_seqT rfl (sgs_cons (sg_name (sgs_cons (sg_name (sgs_nil (sgs_nil ?_))))))))))
        have hp : FM.tgP (cnr rs) x = (decide ((FM.lbk (x : Int) (FM.bo rs)).w = max (FM.ms0 (cnr rs 0)) (FM.ms0 (cnr rs 1))) && decide (0 < (FM.lbk (x : Int) (FM.bo rs)).w)) := by
          unfold FM.tgP
          rw [hwx]
        walk_at "s"
        refine br_dec (fun g => ?_) fun g => ?_
        · walk_at "s"
          refine ⟨rfl, by rw [hp, decide_eq_true g, Bool.true_and], fun g2 => ?_⟩
          rw [hp, decide_eq_true g, Bool.true_and] at g2
          have g3 := of_decide_eq_true g2
          rw [hwx] at g3
          obtain ⟨i, j, e1, e2, e3, e4, _⟩ := FM.tg1_some (FM.cn_stp _ _ _) g3
          have hf : (FM.lbk (x : Int) (FM.bo rs)).f = some (i : Int) := by rw [hlb]; exact e3
          have hla : FM.la (x : Int) (i : Int) (FM.bo rs) (FM.lbk (x : Int) (FM.bo rs)).w = some ((i + j : Nat) : Int) := by
            rw [FM.la_eq hch (by rw [hwx]; omega), hce, hwx, show ((i : Int) - 0).toNat = i by omega, e4]
            show some (max (i : Int) 0 + (j : Int)) = _
            congr 1
            omega
          have hm : FM.tgM (cnr rs) x = t3 i (i + j : Nat) x := by
            unfold FM.tgM
            rw [e1]
          rw [hf]
          walk_at "s"
          refine se_call0 0 ?_
          walk_at "s"
          refine ⟨FM.bo rs, (x : Int), (i : Int), _, rfl, rfl, hrs.blk, ?_⟩
          rw [hla]
          walk_at "s"
          exact ⟨by rw [hm]; rfl, rfl⟩
        · walk_at "s"
          refine ⟨rfl, by rw [hp, decide_eq_false g, Bool.false_and], fun g2 => ?_⟩
          rw [hp, decide_eq_false g, Bool.false_and] at g2
          cases g2
      · walk_at "s"
        refine se_ckw ?_
        walk_at "s"
        have hall : ∀ x ∈ [0, 1].filter (FM.tgP (cnr rs)), ∃ a b c, FM.tgM (cnr rs) x = t3 a b c := by
          intro x hx
          have hx := (List.mem_filter.mp hx).2
          unfold FM.tgP at hx
          rw [Bool.and_eq_true, decide_eq_true_iff, decide_eq_true_iff] at hx
          obtain ⟨i, j, e1, _⟩ := FM.tg1_some (FM.cn_stp _ _ _) hx.2
          exact ⟨i, (i + j : Nat), x, by unfold FM.tgM; rw [e1]⟩
        obtain ⟨h1, h2⟩ := FM.t3_all _ hall
        unfold FM.tgD at k
        refine cr_minDf h1 h2 (fun e => Ret.py ?_) fun y ys e => Ret.py ?_
        · rw [e] at k
          exact k
        · rw [e] at k
          exact k

theorem abs_eq (i : Int) : (if i < 0 then -i else i) = (i.natAbs : Int) := by
  split <;> omega
def sp_law_reel (T : Txt K mg) : DSp := fun ds M Kd KX => ∃ (ns : List Int) (k : Int), ds = [.sq K (ns.map V.int), dI k] ∧ M = [] ∧ 0 ≤ k ∧ k ≤ 1000 ∧ ∀ a x, Okr 0 x → Kd (dR a) [(a, cr x)]
theorem ok_law_reel (T : Txt K mg) : FnOk P w K mg base CX0 1 T.f_law_reel T.fd_law_reel ["script", "k"] (spD (sp_law_reel T)) := by
  refine fn_ok T.F_law_reel sc_law_reel (fun ds M Kd KX h => ?hl) (fun cdv A outer s0 H E hr => ⟨_, (pss_cons (ps_set (i := 2) sc_law_reel.nd rfl (by first | exact Or.inl rfl | exact Or.inr rfl) (pe_ifExp (pt_cmpR op_lt (pv 1) (pe_callB (call_lenK (K := K)) (by rfl) T.z_len (by decide +kernel) (pa_cons (pv 0) pa_nil)) (nomark _)) (pe_ix (ix_seqK (K := K)) (pv 0) (pv 1) (fun _ _ => rfl)) pe_int))
      (pss_one (ps_ret (pe_lst (pa_cons (pe_callB (call_max2' rfl) (by rfl) T.z_max (by decide +kernel) (pa_cons pe_int (pa_cons (pe_op op_sub (pe_callB call_abs' (by rfl) T.z_abs (by decide +kernel) (pa_cons (pv 2) pa_nil)) (pe_op op_powW pe_int pe_int)) pa_nil))) (pa_cons (pe_op op_addA (pe_op op_addA (pe_op op_mulA (pe_op op_mod (pe_callB call_abs' (by rfl) T.z_abs (by decide +kernel) (pa_cons (pv 2) pa_nil)) (pe_op op_addA (pe_op op_powW pe_int pe_int) pe_int)) pe_int) (pv 1)) pe_int) (pa_cons pe_int pa_nil))))))), fun ds M Kd KX h => ?_⟩)
  · obtain ⟨ns, k, rfl, _⟩ := h
    rfl
  · obtain ⟨ns, j, rfl, rfl, j0, j1, k⟩ := h
    show SS W0 _ [some (.sq K (ns.map V.int)), some (dI j), none] [] _
    refine ss_mid (Q := fun ρ' M' => ∃ c : Int, ρ' = [some (.sq K (ns.map V.int)), some (dI j), some (dI c)] ∧ M' = []) ?_ ?_
    · walk_at "s"
      refine cr_lenQ ?_
      walk_at "s"
      refine br_dec (fun g => ?_) fun g => ?_
      · walk_at "s"
        obtain ⟨n, _, hn, _⟩ := atI_lt j0 g
        refine or_ixQ hn ?_
        exact ⟨n, rfl, rfl⟩
      · walk_at "s"
        exact ⟨0, rfl, rfl⟩
    · rintro ρ' M' ⟨c, rfl, rfl⟩
      refine ss_ret (se_lstC ?_)
      walk_at "s"
      refine or_mulI (mulOk_r (by decide) (by decide)) ?_
      walk_at "s"
      refine ⟨Nat.le_of_ble_eq_true rfl, fun a => ?_⟩
      refine Ret.cell rfl ?_
      rw [abs_eq]
      have e3 : (10 : Int) ^ Int.toNat 36 + 67 = 10 ^ 36 + 67 := rfl
      have b1 := Int.emod_nonneg (c.natAbs : Int) (b := 10 ^ Int.toNat 36 + 67) (by rw [e3]; decide)
      have b2 := Int.emod_lt_of_pos (c.natAbs : Int) (b := 10 ^ Int.toNat 36 + 67) (by rw [e3]; decide)
      rw [e3] at b2
      refine k a (_, _, _) ⟨?_, ?_, ?_, ?_, ?_⟩
      · show 0 ≤ max _ _
        omega
      · show 0 ≤ _ * 128 + j + 3
        omega
      · show _ * 128 + j + 3 < 2 ^ 200
        rw [e3]
        omega
      · show (0 : Int) ≤ 0
        decide
      · show (0 : Int) ≤ 0
        decide

theorem valD2 {d e z : D} {c : Nat} : (valD (mergeKD [] [(.inr "w", d), (.inr "o", e)]) (.inr (ofC c))).getD z = if c = 119 then d else if c = 111 then e else z := by
  have h1 : mergeKD [] [(.inr "w", d), (.inr "o", e)] = [(.inr (ofC 119), d), (.inr (ofC 111), e)] := by
    show putKD (putKD [] (.inr "w") d) (.inr "o") e = _
    rw [ofC_w, ofC_o]
    rfl
  have h2 : ∀ a b : Nat, decide ((Sum.inr (ofC a) : Key) = .inr (ofC b)) = decide (b = a) := fun a b => decide_eq_decide.mpr ⟨fun h => (ofC_eq.mp (Sum.inr.inj h)).symm, fun h => by rw [h]⟩
  rw [h1]
  unfold valD
  simp only [List.find?_cons, List.find?_nil, h2]
  by_cases h3 : c = 119
  · subst h3; rfl
  · by_cases h4 : c = 111
    · subst h4; rfl
    · simp [h3, h4]
def sp_law_counts (T : Txt K mg) : DSp := fun ds M Kd KX => ∃ l b p, ds = [dS (mkS l), dI b, dI p] ∧ M = [] ∧ l.length ≤ 100000 ∧ Kd (dL ((FM.cn l b p).map PyData.int)) []
theorem ok_law_counts (T : Txt K mg) : FnOk P w K mg base CX0 1 T.f_law_counts T.fd_law_counts ["signs", "begin", "parity"] (spD (sp_law_counts T)) := by
  refine fn_ok T.F_law_counts sc_law_counts (fun ds M Kd KX h => ?hl) (fun cdv A outer s0 H E hr => ⟨_, (pss_cons (ps_set (i := 3) sc_law_counts.nd rfl (by first | exact Or.inl rfl | exact Or.inr rfl) (pe_lst pa_nil))
      (pss_cons (ps_for PassesOwn.never rfl (pi_enumAK (K := K) (by rfl) T.z_enumerate (pa_cons (pv 0) pa_nil)) (pg_seqK (K := K) (n := 2) rfl (pgs_cons (pg_name (i := 4) sc_law_counts.nd rfl (by first | exact Or.inl rfl | exact Or.inr rfl)) (pgs_cons (pg_name (i := 5) sc_law_counts.nd rfl (by first | exact Or.inl rfl | exact Or.inr rfl)) pgs_nil)))
      (pss_cons (ps_set (i := 6) sc_law_counts.nd rfl (by first | exact Or.inl rfl | exact Or.inr rfl) (pe_cmpR (op_eqK (K := K) hr.units) (pe_op op_mod (pe_op op_addA (pv 1) (pv 4)) pe_int) (pv 2) (nomark _)))
      (pss_one (ps_expr (pe_bmK (K := K) PySem.F.plainAttrs_list PySem.F.slot_list_append PySem.F.type_list_append mt_append (pv 3) (pa_cons (pe_dget2 (hu_of hr) (pe_disp (pps_cons pe_str (pe_ix (ix_seqK (K := K)) (pe_lst (pa_cons (pe_un un_neg pe_int) (pa_cons pe_int pa_nil))) (pe_callTy call_int1' (by rfl) T.z_int (by decide +kernel) (pa_cons (pv 6) pa_nil)) (fun _ _ => rfl)) (pps_cons pe_str (pe_ix (ix_seqK (K := K)) (pe_lst (pa_cons (pe_un un_neg pe_int) (pa_cons pe_int pa_nil))) (pe_callTy call_int1' (by rfl) T.z_int (by decide +kernel) (pa_cons (pv 6) pa_nil)) (fun _ _ => rfl)) pps_nil)) (by rfl) (by rfl) (fun z => by cases z) (by decide)) (pv 5) pe_int ⟨rfl, rfl, rfl, rfl⟩) pa_nil))))))
      (pss_one (ps_ret (pv 3))))), fun ds M Kd KX h => ?_⟩)
  · obtain ⟨l, b, p, rfl, _⟩ := h
    rfl
  · obtain ⟨l, b, p, rfl, rfl, hl, k⟩ := h
    show SS W0 _ [some (dS (mkS l)), some (dI b), some (dI p), none, none, none, none] [] _
    walk_at "s"
    refine se_lstC (sa_nil ⟨by decide, fun a => ?_⟩)
    refine ss_seq (ss_forES l (fun pre ρ' M' => ∃ u v x, ρ' = [some (dS (mkS l)), some (dI b), some (dI p), some (dR a), u, v, x] ∧ M' = [(a, .lst ((FM.cn pre b p).map dI))]) ?_ ⟨?_, ?_⟩)
    · walk_at "s"
      exact ⟨rfl, _, _, _, rfl, rfl⟩
    · rintro pre c post ρ' M' hx ⟨u, v, x, rfl, rfl⟩
      have hpl : pre.length ≤ 100000 := by
        rw [hx, List.length_append] at hl
        omega
      refine sg_seqT rfl (sgs_cons (sg_name (sgs_cons (sg_name (sgs_nil ?_)))))
      walk_at "s"
      refine ss_append 0 rfl ?_ ⟨_, rfl⟩
      refine se_cut 1 ?_
      refine se_dget2 (se_disp ?_)
      obtain ⟨mn, hmn⟩ : ∃ mn, decide ((b + (pre.length : Int)) % 2 = p) = mn := ⟨_, rfl⟩
      rw [hmn]
      refine sps_cons ?_
      walk_at "s"
      refine or_ix (p := .int (if mn then 1 else -1)) (by cases mn <;> rfl) ?_
      refine sps_cons ?_
      walk_at "s"
      refine or_ix (p := .int (if mn then 0 else -1)) (by cases mn <;> rfl) ?_
      refine sps_nil ⟨[(.inr "w", dI (if mn then 1 else -1)), (.inr "o", dI (if mn then 0 else -1))], rfl, Nat.le_of_ble_eq_true rfl, fun q => ⟨1, q, rfl, ⟨_, rfl⟩, ?_⟩⟩
      walk_at "s"
      refine ⟨_, .inr (ofC c), rfl, rfl, ?_⟩
      rw [valD2]
      have e : (if c = 119 then dI (if mn then 1 else -1) else if c = 111 then dI (if mn then 0 else -1) else dI 0) = dI (FM.cw c mn) := by
        unfold FM.cw
        split
        · rfl
        · split <;> rfl
      rw [e]
      refine ⟨_, rfl, by rw [List.length_map, FM.cn_len]; omega, ?_⟩
      refine ⟨_, _, _, rfl, ?_⟩
      rw [FM.cn_snoc, hmn, List.map_append]
      rfl
    · rintro ρ' M' ⟨u, v, x, rfl, rfl⟩
      walk_at "s"
      refine Ret.lst (ps := (FM.cn l b p).map PyData.int) 0 ?_ k
      rw [List.map_map]
      rfl
abbrev PcD (x : FM.Pc) : PyData := .tuple [.int x.s, .int x.a, .int x.b, .int x.m]
abbrev oPc : Option FM.Pc → PyData
  | none => .none
  | some x => PcD x
def sp_law_piece (T : Txt K mg) : DSp := fun ds M Kd KX => ∃ ns, ds = [dL (ns.map PyData.int)] ∧ M = [] ∧ ns ≠ [] ∧ ns.length ≤ 100000 ∧ Kd (.py (PcD (FM.pcOf ns))) []
theorem ok_law_piece (T : Txt K mg) : FnOk P w K mg base CX0 1 T.f_law_piece T.fd_law_piece ["counts"] (spD (sp_law_piece T)) := by
  refine fn_ok T.F_law_piece sc_law_piece (fun ds M Kd KX h => ?hl) (fun cdv A outer s0 H E hr => ⟨_, (pss_cons (ps_asg (pe_op op_mulA (pe_slice (sl_anyK (K := K)) (pv 0) po_none (po_some pe_int)) pe_int) (pg_seqK (K := K) (n := 4) rfl (pgs_cons (pg_name (i := 1) sc_law_piece.nd rfl (by first | exact Or.inl rfl | exact Or.inr rfl)) (pgs_cons (pg_name (i := 2) sc_law_piece.nd rfl (by first | exact Or.inl rfl | exact Or.inr rfl)) (pgs_cons (pg_name (i := 3) sc_law_piece.nd rfl (by first | exact Or.inl rfl | exact Or.inr rfl)) (pgs_cons (pg_name (i := 4) sc_law_piece.nd rfl (by first | exact Or.inl rfl | exact Or.inr rfl)) pgs_nil))))))
      (pss_cons (ps_for PassesOwn.never rfl (pi_anyK (K := K) (pe_slice (sl_anyK (K := K)) (pv 0) (po_some pe_int) po_none)) (pg_name (i := 5) sc_law_piece.nd rfl (by first | exact Or.inl rfl | exact Or.inr rfl))
      (pss_cons (ps_set (i := 1) sc_law_piece.nd rfl (by first | exact Or.inl rfl | exact Or.inr rfl) (pe_op op_addA (pv 1) (pv 5)))
      (pss_cons (ps_par (by rfl) sc_law_piece.nd (i := 2) (j := 3) rfl rfl (by decide) rfl rfl (pa_cons (pe_callB (call_max2' rfl) (by rfl) T.z_max (by decide +kernel) (pa_cons (pv 2) (pa_cons (pv 1) pa_nil))) (pa_cons (pe_op op_addA (pv 5) (pe_callB (call_max2' rfl) (by rfl) T.z_max (by decide +kernel) (pa_cons pe_int (pa_cons (pv 3) pa_nil)))) pa_nil)) (by rfl))
      (pss_one (ps_set (i := 4) sc_law_piece.nd rfl (by first | exact Or.inl rfl | exact Or.inr rfl) (pe_callB (call_max2' rfl) (by rfl) T.z_max (by decide +kernel) (pa_cons (pv 4) (pa_cons (pv 3) pa_nil))))))))
      (pss_one (ps_ret (pe_tup (pa_cons (pv 1) (pa_cons (pv 2) (pa_cons (pv 3) (pa_cons (pv 4) pa_nil))))))))), fun ds M Kd KX h => ?_⟩)
  · obtain ⟨ns, rfl, _⟩ := h
    rfl
  · obtain ⟨ns, rfl, rfl, h0, hl, k⟩ := h
    obtain ⟨n, ns, rfl⟩ := List.exists_cons_of_ne_nil h0
    show SS W0 _ [some (dL (.int n :: ns.map PyData.int)), none, none, none, none, none] [] _
    walk_at "s"
    rw [cutP_to (by decide)]
    refine or_repV (ps := [.int n]) (.py _) (by decide) (by decide) (Nat.le_of_ble_eq_true rfl) ?_
    refine sg_seqL (ds := [dI n, dI n, dI n, dI n]) (.py [.int n, .int n, .int n, .int n]) rfl (sgs_cons (sg_name (sgs_cons (sg_name (sgs_cons (sg_name (sgs_cons (sg_name (sgs_nil ?_)))))))))
    walk_at "s"
    refine ss_forL PyData.int ns (fun pre ρ' M' => ∃ u, ρ' = [some (dL (.int n :: ns.map PyData.int)), some (dI (pre.foldl FM.pst ⟨n, n, n, n⟩).s), some (dI (pre.foldl FM.pst ⟨n, n, n, n⟩).a), some (dI (pre.foldl FM.pst ⟨n, n, n, n⟩).b), some (dI (pre.foldl FM.pst ⟨n, n, n, n⟩).m), u] ∧ M' = []) ?_ ⟨?_, ?_⟩
    · walk_at "s"
      rw [cutP_tl]
      exact ⟨rfl, _, rfl, rfl⟩
    · rintro pre c post ρ' M' hx ⟨u, rfl, rfl⟩
      rw [List.foldl_append]
      walk_at "s"
      exact ⟨_, rfl, rfl⟩
    · rintro ρ' M' ⟨u, rfl, rfl⟩
      walk_at "s"
      exact Ret.py k
def sp_law_joined (T : Txt K mg) : DSp := fun ds M Kd KX => ∃ x y, ds = [.py (oPc x), .py (oPc y)] ∧ M = [] ∧ Kd (.py (oPc (FM.jo x y))) []
theorem ok_law_joined (T : Txt K mg) : FnOk P w K mg base CX0 1 T.f_law_joined T.fd_law_joined ["one", "other"] (spD (sp_law_joined T)) := by
  refine fn_ok T.F_law_joined sc_law_joined (fun ds M Kd KX h => ?hl) (fun cdv A outer s0 H E hr => ⟨_, (pss_cons (ps_if (PW.pt (pw_or (pt_cmpR op_isN (pv 0) pe_non (nomark _)) (pw_or1 (pt_cmpR op_isN (pv 1) pe_non (nomark _)))))
      (pss_one (ps_ret (pe_ifExp (pt_cmpR op_isN (pv 1) pe_non (nomark _)) (pv 0) (pv 1))))
      pss_nil)
      (pss_cons (ps_par (by rfl) sc_law_joined.nd (i := 2) (j := 3) rfl rfl (by decide) rfl rfl (pa_cons (pe_callB (call_max2' rfl) (by rfl) T.z_max (by decide +kernel) (pa_cons (pe_ix (ix_seqK (K := K)) (pv 0) pe_int (fun _ _ => rfl)) (pa_cons (pe_op op_addA (pe_ix (ix_seqK (K := K)) (pv 0) pe_int (fun _ _ => rfl)) (pe_ix (ix_seqK (K := K)) (pv 1) pe_int (fun _ _ => rfl))) pa_nil))) (pa_cons (pe_callB (call_max2' rfl) (by rfl) T.z_max (by decide +kernel) (pa_cons (pe_ix (ix_seqK (K := K)) (pv 1) pe_int (fun _ _ => rfl)) (pa_cons (pe_op op_addA (pe_ix (ix_seqK (K := K)) (pv 1) pe_int (fun _ _ => rfl)) (pe_ix (ix_seqK (K := K)) (pv 0) pe_int (fun _ _ => rfl))) pa_nil))) pa_nil)) (by rfl))
      (pss_one (ps_ret (pe_tup (pa_cons (pe_op op_addA (pe_ix (ix_seqK (K := K)) (pv 0) pe_int (fun _ _ => rfl)) (pe_ix (ix_seqK (K := K)) (pv 1) pe_int (fun _ _ => rfl))) (pa_cons (pv 2) (pa_cons (pv 3) (pa_cons (pe_callB (call_max3 rfl) (by rfl) T.z_max (by decide +kernel) (pa_cons (pe_ix (ix_seqK (K := K)) (pv 0) pe_int (fun _ _ => rfl)) (pa_cons (pe_ix (ix_seqK (K := K)) (pv 1) pe_int (fun _ _ => rfl)) (pa_cons (pe_op op_addA (pe_ix (ix_seqK (K := K)) (pv 0) pe_int (fun _ _ => rfl)) (pe_ix (ix_seqK (K := K)) (pv 1) pe_int (fun _ _ => rfl))) pa_nil)))) pa_nil))))))))), fun ds M Kd KX h => ?_⟩)
  · obtain ⟨x, y, rfl, _⟩ := h
    rfl
  · obtain ⟨x, y, rfl, rfl, k⟩ := h
    show SS W0 _ [some (.py (oPc x)), some (.py (oPc y)), none, none] [] _
    cases x with
    | none =>
      walk_at "s"
      cases y with
      | none =>
        walk_at "s"
        exact Ret.py k
      | some y =>
        walk_at "s"
        exact Ret.py k
    | some x =>
      cases y with
      | none =>
        walk_at "s"
        exact Ret.py k
      | some y =>
        walk_at "s"
        exact Ret.py k

theorem oft0 (f : Option FM.Pc) (x : FM.Pc) : FM.oft f x 0 = f := by rw [FM.oft]; rfl
theorem oft1 {f : Option FM.Pc} {x : FM.Pc} {t : Nat} (h : t ≠ 0) : FM.oft f x t = FM.oft (if t % 2 = 1 then FM.jo f (some x) else f) (FM.jn x x) (t / 2) := by rw [FM.oft, dif_neg h]
def sp_law_often (T : Txt K mg) : DSp := fun ds M Kd KX => ∃ x t, ds = [.py (PcD x), dI t] ∧ M = [] ∧ Kd (.py (oPc (FM.oft none x t.toNat))) []
theorem ok_law_often (T : Txt K mg) : FnOk P w K mg base CX0 2 T.f_law_often T.fd_law_often ["piece", "times"] (spD (sp_law_often T)) := by
  refine fn_ok T.F_law_often sc_law_often (fun ds M Kd KX h => ?hl) (fun cdv A outer s0 H E hr => ⟨_, (pss_cons (ps_set (i := 2) sc_law_often.nd rfl (by first | exact Or.inl rfl | exact Or.inr rfl) pe_non)
      (pss_cons (ps_while PassesOwn.never (pt_cmpR op_gt (pv 1) pe_int (nomark _))
      (pss_cons (ps_if (pt_cmpR (op_eqK (K := K) hr.units) (pe_op op_mod (pv 1) pe_int) pe_int (nomark _))
      (pss_one (ps_set (i := 2) sc_law_often.nd rfl (by first | exact Or.inl rfl | exact Or.inr rfl) (pe_call (ok_law_joined T) hr (by rfl) T.g_law_joined T.F_law_joined.kp T.b_law_joined .nil pass0 (pa_cons (pv 2) (pa_cons (pv 0) pa_nil)))))
      pss_nil)
      (pss_cons (ps_set (i := 0) sc_law_often.nd rfl (by first | exact Or.inl rfl | exact Or.inr rfl) (pe_call (ok_law_joined T) hr (by rfl) T.g_law_joined T.F_law_joined.kp T.b_law_joined .nil pass0 (pa_cons (pv 0) (pa_cons (pv 0) pa_nil))))
      (pss_one (ps_set (i := 1) sc_law_often.nd rfl (by first | exact Or.inl rfl | exact Or.inr rfl) (pe_op op_fdivW (pv 1) pe_int))))))
      (pss_one (ps_ret (pv 2))))), fun ds M Kd KX h => ?_⟩)
  · obtain ⟨x, t, rfl, _⟩ := h
    rfl
  · obtain ⟨x, t, rfl, rfl, k⟩ := h
    show SS W0 _ [some (.py (PcD x)), some (dI t), none] [] _
    walk_at "s"
    refine ss_while (fun m ρ' M' => ∃ f x' t', ρ' = [some (.py (PcD x')), some (dI t'), some (.py (oPc f))] ∧ M' = [] ∧ m = t'.toNat ∧ FM.oft f x' t'.toNat = FM.oft none x t.toNat) t.toNat ⟨none, x, t, rfl, rfl, rfl, rfl⟩ ?_
    rintro m ρ' M' ⟨f, x', t', rfl, rfl, rfl, he⟩
    walk_at "s"
    refine br_dec (fun g => ?_) fun g => ?_
    · refine ss_mid (Q := fun ρ' M' => ρ' = [some (.py (PcD x')), some (dI t'), some (.py (oPc (if t'.toNat % 2 = 1 then FM.jo f (some x') else f)))] ∧ M' = []) ?_ ?_
      · walk_at "s"
        refine br_dec (fun g2 => ?_) fun g2 => ?_
        · walk_at "s"
          refine se_call0 0 ?_
          walk_at "s"
          refine ⟨f, some x', rfl, rfl, ?_⟩
          refine ⟨?_, rfl⟩
          rw [if_pos (by omega)]
          rfl
        · walk_at "s"
          refine ⟨?_, rfl⟩
          rw [if_neg (by omega)]
      · rintro ρ' M' ⟨rfl, rfl⟩
        walk_at "s"
        refine se_call0 0 ?_
        walk_at "s"
        refine ⟨some x', some x', rfl, rfl, ?_⟩
        walk_at "s"
        refine ⟨(t' / 2).toNat, by omega, _, FM.jn x' x', _, rfl, rfl, rfl, ?_⟩
        rw [← he, oft1 (by omega : t'.toNat ≠ 0)]
        congr 1
        omega
    · walk_at "s"
      have e0 : t'.toNat = 0 := by omega
      rw [e0, oft0] at he
      refine Ret.py ?_
      rw [he]
      exact k
def sp_law_whole_piece (T : Txt K mg) : DSp := fun ds M Kd KX => ∃ rs b p, ds = [dL (rs.map RunD), dI b, dI p] ∧ M = [] ∧ RunsOk rs ∧ Kd (.py (oPc (FM.wpc rs b p))) []
theorem ok_law_whole_piece (T : Txt K mg) : FnOk P w K mg base CX0 3 T.f_law_whole_piece T.fd_law_whole_piece ["runs", "begin", "parity"] (spD (sp_law_whole_piece T)) := by
  refine fn_ok T.F_law_whole_piece sc_law_whole_piece (fun ds M Kd KX h => ?hl) (fun cdv A outer s0 H E hr => ⟨_, (pss_cons (ps_set (i := 3) sc_law_whole_piece.nd rfl (by first | exact Or.inl rfl | exact Or.inr rfl) pe_non)
      (pss_cons (ps_for PassesOwn.never rfl (pi_anyK (K := K) (pv 0)) (pg_seqK (K := K) (n := 2) rfl (pgs_cons (pg_name (i := 4) sc_law_whole_piece.nd rfl (by first | exact Or.inl rfl | exact Or.inr rfl)) (pgs_cons (pg_name (i := 5) sc_law_whole_piece.nd rfl (by first | exact Or.inl rfl | exact Or.inr rfl)) pgs_nil)))
      (pss_cons (ps_set (i := 6) sc_law_whole_piece.nd rfl (by first | exact Or.inl rfl | exact Or.inr rfl) (pe_call (ok_law_piece T) (hr.mono (by decide)) (by rfl) T.g_law_piece T.F_law_piece.kp T.b_law_piece .nil pass0 (pa_cons (pe_call (ok_law_counts T) (hr.mono (by decide)) (by rfl) T.g_law_counts T.F_law_counts.kp T.b_law_counts .nil pass0 (pa_cons (pv 4) (pa_cons (pv 1) (pa_cons (pv 2) pa_nil)))) pa_nil)))
      (pss_cons (ps_if (pt_cmpR (op_eqK (K := K) hr.units) (pe_op op_mod (pe_callB (call_lenK (K := K)) (by rfl) T.z_len (by decide +kernel) (pa_cons (pv 4) pa_nil)) pe_int) pe_int (nomark _))
      (pss_one (ps_set (i := 3) sc_law_whole_piece.nd rfl (by first | exact Or.inl rfl | exact Or.inr rfl) (pe_call (ok_law_joined T) (hr.mono (by decide)) (by rfl) T.g_law_joined T.F_law_joined.kp T.b_law_joined .nil pass0 (pa_cons (pv 3) (pa_cons (pe_call (ok_law_often T) hr (by rfl) T.g_law_often T.F_law_often.kp T.b_law_often .nil pass0 (pa_cons (pv 6) (pa_cons (pv 5) pa_nil))) pa_nil)))))
      (pss_cons (ps_set (i := 7) sc_law_whole_piece.nd rfl (by first | exact Or.inl rfl | exact Or.inr rfl) (pe_call (ok_law_joined T) (hr.mono (by decide)) (by rfl) T.g_law_joined T.F_law_joined.kp T.b_law_joined .nil pass0 (pa_cons (pv 6) (pa_cons (pe_call (ok_law_piece T) (hr.mono (by decide)) (by rfl) T.g_law_piece T.F_law_piece.kp T.b_law_piece .nil pass0 (pa_cons (pe_call (ok_law_counts T) (hr.mono (by decide)) (by rfl) T.g_law_counts T.F_law_counts.kp T.b_law_counts .nil pass0 (pa_cons (pv 4) (pa_cons (pe_op op_addA (pv 1) pe_int) (pa_cons (pv 2) pa_nil)))) pa_nil)) pa_nil))))
      (pss_cons (ps_set (i := 3) sc_law_whole_piece.nd rfl (by first | exact Or.inl rfl | exact Or.inr rfl) (pe_call (ok_law_joined T) (hr.mono (by decide)) (by rfl) T.g_law_joined T.F_law_joined.kp T.b_law_joined .nil pass0 (pa_cons (pv 3) (pa_cons (pe_call (ok_law_often T) hr (by rfl) T.g_law_often T.F_law_often.kp T.b_law_often .nil pass0 (pa_cons (pv 7) (pa_cons (pe_op op_fdivW (pv 5) pe_int) pa_nil))) pa_nil))))
      (pss_one (ps_set (i := 3) sc_law_whole_piece.nd rfl (by first | exact Or.inl rfl | exact Or.inr rfl) (pe_call (ok_law_joined T) (hr.mono (by decide)) (by rfl) T.g_law_joined T.F_law_joined.kp T.b_law_joined .nil pass0 (pa_cons (pv 3) (pa_cons (pe_call (ok_law_often T) hr (by rfl) T.g_law_often T.F_law_often.kp T.b_law_often .nil pass0 (pa_cons (pv 6) (pa_cons (pe_op op_mod (pv 5) pe_int) pa_nil))) pa_nil))))))))
      (pss_one (ps_set (i := 1) sc_law_whole_piece.nd rfl (by first | exact Or.inl rfl | exact Or.inr rfl) (pe_op op_addA (pv 1) (pe_op op_mulA (pe_callB (call_lenK (K := K)) (by rfl) T.z_len (by decide +kernel) (pa_cons (pv 4) pa_nil)) (pv 5))))))))
      (pss_one (ps_ret (pv 3))))), fun ds M Kd KX h => ?_⟩)
  · obtain ⟨rs, b, p, rfl, _⟩ := h
    rfl
  · obtain ⟨rs, b, p, rfl, rfl, hrs, k⟩ := h
    show SS W0 _ [some (dL (rs.map RunD)), some (dI b), some (dI p), none, none, none, none, none] [] _
    walk_at "s"
    refine ss_forL RunD rs (fun pre ρ' M' => ∃ x1 x2 x3 x4, ρ' = [some (dL (rs.map RunD)), some (dI (pre.foldl (FM.wst p) (b, none)).1), some (dI p), some (.py (oPc (pre.foldl (FM.wst p) (b, none)).2)), x1, x2, x3, x4] ∧ M' = []) ?_ ⟨?_, ?_⟩
    · walk_at "s"
      exact ⟨rfl, _, _, _, _, rfl, rfl⟩
    · rintro pre ⟨l, t⟩ post ρ' M' hx ⟨x1, x2, x3, x4, rfl, rfl⟩
      have hl := hrs.2 (l, t) (by rw [hx]; simp)
      dsimp only at hl
      rw [List.foldl_append]
      show SG W0 _ (dT [.str (mkS l), .int t]) _ _ fun ρ2 M2 => SS W0 _ ρ2 M2 (Bd _ fun ρ' M' => ∃ x1 x2 x3 x4, ρ' = [some (dL (rs.map RunD)), some (dI (FM.wst p (pre.foldl (FM.wst p) (b, none)) (l, t)).1), some (dI p), some (.py (oPc (FM.wst p (pre.foldl (FM.wst p) (b, none)) (l, t)).2)), x1, x2, x3, x4] ∧ M' = [])
      obtain ⟨S, hS⟩ : ∃ S, pre.foldl (FM.wst p) (b, none) = S := ⟨_, rfl⟩
      rw [hS]
      obtain ⟨B, f⟩ := S
      have hcl := FM.cn_len l B p
      have hc0 : FM.cn l B p ≠ [] := fun e => by rw [e] at hcl; simp at hcl; omega
      have hcl1 := FM.cn_len l (B + 1) p
      have hc1 : FM.cn l (B + 1) p ≠ [] := fun e => by rw [e] at hcl1; simp at hcl1; omega
      refine sg_seqT rfl (sgs_cons (sg_name (sgs_cons (sg_name (sgs_nil ?_)))))
      walk_at "s"
      refine se_call0 0 ?_
      walk_at "s"
      refine se_call0 0 ?_
      walk_at "s"
      refine ⟨l, B, p, rfl, rfl, by omega, ?_⟩
      walk_at "s"
      refine ⟨FM.cn l B p, rfl, rfl, hc0, by omega, ?_⟩
      refine ss_mid (Q := fun ρ' M' => ∃ x, ρ' = [some (dL (rs.map RunD)), some (dI B), some (dI p), some (.py (oPc (FM.wst p (B, f) (l, t)).2)), some (dS (mkS l)), some (dI t), some (.py (PcD (FM.pcOf (FM.cn l B p)))), x] ∧ M' = []) ?_ ?_
      · walk_at "s"
        refine cr_lenZ (by omega) ?_
        walk_at "s"
        refine br_dec (fun g => ?_) fun g => ?_
        · walk_at "s"
          refine se_call0 0 ?_
          walk_at "s"
          refine se_call0 0 ?_
          walk_at "s"
          refine ⟨_, t, rfl, rfl, ?_⟩
          walk_at "s"
          refine ⟨f, _, rfl, rfl, ?_⟩
          refine ⟨x4, ?_, rfl⟩
          rw [FM.wst]
          dsimp only
          rw [if_pos (by omega)]
          rfl
        · walk_at "s"
          refine se_call0 0 ?_
          walk_at "s"
          refine se_call0 0 ?_
          walk_at "s"
          refine se_call0 0 ?_
          walk_at "s"
          refine ⟨l, B + 1, p, rfl, rfl, by omega, ?_⟩
          walk_at "s"
          refine ⟨FM.cn l (B + 1) p, rfl, rfl, hc1, by omega, ?_⟩
          walk_at "s"
          refine ⟨some (FM.pcOf (FM.cn l B p)), some (FM.pcOf (FM.cn l (B + 1) p)), rfl, rfl, ?_⟩
          walk_at "s"
          refine se_call0 0 ?_
          walk_at "s"
          refine se_call0 0 ?_
          walk_at "s"
          refine ⟨FM.jn (FM.pcOf (FM.cn l B p)) (FM.pcOf (FM.cn l (B + 1) p)), t / 2, rfl, rfl, ?_⟩
          walk_at "s"
          refine ⟨f, _, rfl, rfl, ?_⟩
          walk_at "s"
          refine se_call0 0 ?_
          walk_at "s"
          refine se_call0 0 ?_
          walk_at "s"
          refine ⟨FM.pcOf (FM.cn l B p), t % 2, rfl, rfl, ?_⟩
          walk_at "s"
          refine ⟨_, _, rfl, rfl, ?_⟩
          refine ⟨some (.py (PcD (FM.jn (FM.pcOf (FM.cn l B p)) (FM.pcOf (FM.cn l (B + 1) p))))), ?_, rfl⟩
          rw [FM.wst]
          dsimp only
          rw [if_neg (by omega)]
          rfl
      · rintro ρ' M' ⟨x, rfl, rfl⟩
        walk_at "s"
        refine cr_lenZ (by omega) ?_
        walk_at "s"
        refine or_mulI (mulOk_l (by omega) (by omega)) ?_
        walk_at "s"
        exact ⟨_, _, _, _, rfl, rfl⟩
    · rintro ρ' M' ⟨x1, x2, x3, x4, rfl, rfl⟩
      walk_at "s"
      exact Ret.py k

def sp_law_far_runs (T : Txt K mg) : DSp := fun ds M Kd KX => ∃ c x b, ds = [dR c] ∧ M = [(c, cr x)] ∧ Okr b x ∧ b + 4000 ≤ 10 ^ 18 ∧ ∀ (rs : List (List Nat × Int)) x', rs ≠ [] → rs.length ≤ 12 → (∀ r ∈ rs, RunOk 40 (10 ^ 29) r) → Okr (b + 4000) x' → ∀ p, Kd (dR p) [(c, cr x'), (p, Cl (rs.map RunD))]
theorem ok_law_far_runs (T : Txt K mg) : FnOk P w K mg base CX0 3 T.f_law_far_runs T.fd_law_far_runs ["reel"] (spD (sp_law_far_runs T)) := by
  refine fn_ok T.F_law_far_runs sc_law_far_runs (fun ds M Kd KX h => ?hl) (fun cdv A outer s0 H E hr => ⟨_, (pss_cons (ps_set (i := 1) sc_law_far_runs.nd rfl (by first | exact Or.inl rfl | exact Or.inr rfl) (pe_ix (ix_seqK (K := K)) (pe_lst (pa_cons pe_int (pa_cons pe_int (pa_cons (pe_op op_powW pe_int pe_int) pa_nil)))) (pe_call (ok_law_pull T) (hr.mono (by decide)) (by rfl) T.g_law_pull T.F_law_pull.kp T.b_law_pull .nil pass0 (pa_cons (pv 0) (pa_cons pe_int pa_nil))) (fun _ _ => rfl)))
      (pss_cons (ps_set (i := 2) sc_law_far_runs.nd rfl (by first | exact Or.inl rfl | exact Or.inr rfl) (pe_op op_addA pe_int (pe_call (ok_law_pull T) (hr.mono (by decide)) (by rfl) T.g_law_pull T.F_law_pull.kp T.b_law_pull .nil pass0 (pa_cons (pv 0) (pa_cons (pe_ix (ix_seqK (K := K)) (pe_lst (pa_cons pe_int (pa_cons pe_int (pa_cons pe_int pa_nil)))) (pe_call (ok_law_pull T) (hr.mono (by decide)) (by rfl) T.g_law_pull T.F_law_pull.kp T.b_law_pull .nil pass0 (pa_cons (pv 0) (pa_cons pe_int pa_nil))) (fun _ _ => rfl)) pa_nil)))))
      (pss_one (ps_ret (pe_lc (own := [("turn", 3)]) rfl sc_law_far_runs.nd (pi_range1 (by rfl) T.z_range (pa_cons (pv 2) pa_nil)) (blkOk_by (own := [("turn", 3)]) (N := ["reel", "far", "many", "turn"]) (sc := defScope s_law_far_runs) (by decide +kernel)) (fun _ _ _ _ _ => pg_name (i := 3) sc_law_far_runs.nd rfl (by first | exact Or.inl rfl | exact Or.inr rfl)) (fun _ _ _ _ _ => pts_nil) (fun _ _ _ _ _ => pe_tup (pa_cons (pe_call (ok_law_pattern T) hr (by rfl) T.g_law_pattern T.F_law_pattern.kp T.b_law_pattern .nil pass0 (pa_cons (pv 0) (pa_cons pe_int pa_nil))) (pa_cons (pe_call (ok_law_times T) hr (by rfl) T.g_law_times T.F_law_times.kp T.b_law_times .nil pass0 (pa_cons (pv 0) (pa_cons (pv 1) pa_nil))) pa_nil)))))))), fun ds M Kd KX h => ?_⟩)
  · obtain ⟨c, x, b, rfl, _⟩ := h
    rfl
  · obtain ⟨c, x, b, rfl, rfl, ok, hb, k⟩ := h
    show SS W0 _ [some (dR c), none, none, none] [(c, cr x)] _
    walk_at "s"
    refine se_call0 1 ?_
    walk_at "s"
    refine pull_s ok (by omega) (by decide) (by decide) fun r1 x1 r10 r11 ok1 => ?_
    refine or_ixBI (ns := [3, 1000, 10 ^ 29]) r10 r11 fun far hfar => ?_
    have far0 : 1 ≤ far ∧ far ≤ 10 ^ 29 := by simp at hfar; omega
    walk_at "s"
    refine se_call0 1 ?_
    walk_at "s"
    refine se_call0 1 ?_
    walk_at "s"
    refine pull_s ok1 (by omega) (by decide) (by decide) fun r2 x2 r20 r21 ok2 => ?_
    refine or_ixBI (ns := [2, 4, 12]) r20 r21 fun n hn => ?_
    have hn2 : 2 ≤ n ∧ n ≤ 12 := by simp at hn; omega
    walk_at "s"
    refine pull_s ok2 (by omega) (by omega) (by omega) fun r3 x3 r30 r31 ok3 => ?_
    walk_at "s"
    refine se_lc (gok_name) (si_range1 ?_)
    walk_at "s"
    refine ⟨_, rfl, by omega, by omega, by omega, fun i acc M' => ∃ (rs : List (List Nat × Int)) (x' : Int × Int × Int), acc = (rs.map RunD).map D.py ∧ M' = [(c, cr x')] ∧ rs.length = i ∧ (∀ r ∈ rs, RunOk 40 (10 ^ 29) r) ∧ Okr (b + 3 + 303 * i) x', ⟨[], x3, rfl, rfl, rfl, (fun _ h => by cases h), ok3⟩, fun _ _ _ _ _ => trivial, ?_, ?_⟩
    · rintro i d acc M' hi hacc rfl ⟨rs, x', rfl, rfl, hl', hrs, ok'⟩
      walk_at "s"
      refine se_call0 1 ?_
      walk_at "s"
      refine ⟨c, 40, x', _, rfl, rfl, ok', by omega, by decide, by decide, fun l x4 hl hl1 hl2 ok4 => ?_⟩
      walk_at "s"
      refine se_call0 1 ?_
      walk_at "s"
      refine ⟨c, far, x4, _, rfl, rfl, ok4, by omega, by omega, by omega, fun t x5 ht1 ht2 ok5 => ?_⟩
      walk_at "s"
      refine ⟨rs ++ [(l, t)], x5, by rw [List.map_append, List.map_append]; rfl, rfl, by rw [List.length_append, hl']; rfl, fun r hr => ?_, ok5.mono (by omega)⟩
      rcases List.mem_append.mp hr with hr | hr
      · exact hrs r hr
      · rw [List.mem_singleton] at hr
        subst hr
        exact ⟨hl, hl1, hl2, ht1, Int.le_trans ht2 far0.2⟩
    · rintro acc M' ⟨rs, x', rfl, rfl, hl, hrs, ok'⟩
      refine .inr fun p => ?_
      refine Ret.cell rfl (k rs x' ?_ (by omega) hrs (ok'.mono (by omega)) p)
      rintro rfl
      simp at hl
      omega

def RunsA (rs : List (List Nat × Int)) : Prop := rs ≠ [] ∧ rs.length ≤ 12 ∧ ∀ r ∈ rs, RunOk 40 (10 ^ 29) r
def sp_law_change (T : Txt K mg) : DSp := fun ds M Kd KX => ∃ c p rs x b, ds = [dR c, dR p] ∧ M = [(c, cr x), (p, Cl (rs.map RunD))] ∧ Okr b x ∧ b + 5000 ≤ 10 ^ 18 ∧ RunsA rs ∧ ∀ (rs' : List (List Nat × Int)) x', RunsA rs' → Okr (b + 5000) x' → Kd dN [(c, cr x'), (p, Cl (rs'.map RunD))]
theorem ok_law_change (T : Txt K mg) : FnOk P w K mg base CX0 4 T.f_law_change T.fd_law_change ["reel", "runs"] (spD (sp_law_change T)) := by
  refine fn_ok T.F_law_change sc_law_change (fun ds M Kd KX h => ?hl) (fun cdv A outer s0 H E hr => ⟨_, (pss_cons (ps_set (i := 2) sc_law_change.nd rfl (by first | exact Or.inl rfl | exact Or.inr rfl) (pe_ix (ix_seqK (K := K)) (pe_call (ok_law_far_runs T) hr (by rfl) T.g_law_far_runs T.F_law_far_runs.kp T.b_law_far_runs .nil pass0 (pa_cons (pv 0) pa_nil)) pe_int (fun _ _ => rfl)))
      (pss_cons (ps_set (i := 3) sc_law_change.nd rfl (by first | exact Or.inl rfl | exact Or.inr rfl) (pe_call (ok_law_pull T) (hr.mono (by decide)) (by rfl) T.g_law_pull T.F_law_pull.kp T.b_law_pull .nil pass0 (pa_cons (pv 0) (pa_cons (pe_callB (call_lenK (K := K)) (by rfl) T.z_len (by decide +kernel) (pa_cons (pv 1) pa_nil)) pa_nil))))
      (pss_cons (ps_set (i := 4) sc_law_change.nd rfl (by first | exact Or.inl rfl | exact Or.inr rfl) (pe_call (ok_law_pull T) (hr.mono (by decide)) (by rfl) T.g_law_pull T.F_law_pull.kp T.b_law_pull .nil pass0 (pa_cons (pv 0) (pa_cons pe_int pa_nil))))
      (pss_one (ps_if (PW.pt (pw_and (pt_cmpR op_lt (pv 4) pe_int (nomark _)) (pw_and1 (pt_cmpR op_lt (pe_callB (call_lenK (K := K)) (by rfl) T.z_len (by decide +kernel) (pa_cons (pv 1) pa_nil)) pe_int (nomark _)))))
      (pss_one (ps_expr (pe_bmK (K := K) PySem.F.plainAttrs_list PySem.F.slot_list_insert PySem.F.type_list_insert mt_insert (pv 1) (pa_cons (pe_op op_addA (pv 3) (pv 4)) (pa_cons (pv 2) pa_nil)))))
      (pss_one (ps_if (PW.pt (pw_and (pt_cmpR (op_eqK (K := K) hr.units) (pv 4) pe_int (nomark _)) (pw_and1 (pt_cmpR op_gt (pe_callB (call_lenK (K := K)) (by rfl) T.z_len (by decide +kernel) (pa_cons (pv 1) pa_nil)) pe_int (nomark _)))))
      (pss_one (ps_expr (pe_bmK (K := K) PySem.F.plainAttrs_list PySem.F.slot_list_pop PySem.F.type_list_pop mt_popAt (pv 1) (pa_cons (pv 3) pa_nil))))
      (pss_one (ps_asg (pv 2) (pg_sub (pv 1) (pv 3) set_list)))))))))), fun ds M Kd KX h => ?_⟩)
  · obtain ⟨c, p, rs, x, b, rfl, _⟩ := h
    rfl
  · obtain ⟨c, p, rs, x, b, rfl, rfl, ok, hb, ⟨h0, hl, hr⟩, k⟩ := h
    show SS W0 _ [some (dR c), some (dR p), none, none, none] [(c, cr x), (p, Cl (rs.map RunD))] _
    refine ss_seq (ss_set ?_)
    refine se_op (se_frzI (se_call0 1 ?_))
    walk_at "e"
    refine ⟨c, x, b, rfl, rfl, ok, by omega, fun ns x1 n0 nl nr ok1 q => ⟨1, q, _, rfl, rfl, ?_⟩⟩
    walk_at "e"
    obtain ⟨n, ns, rfl⟩ := List.exists_cons_of_ne_nil n0
    have hn := nr n List.mem_cons_self
    refine or_ixP RunD (by decide) (x := n) rfl ?_
    refine ss_seq (ss_set (se_call0 1 ?_))
    walk_at "e"
    refine cr_lenP 1 rfl ?_
    rw [List.length_map]
    walk_at "e"
    have hpos : 1 ≤ rs.length := List.length_pos_iff.mpr h0
    refine pull_s ok1 (by omega) (by omega) (by omega) fun r2 x2 r20 r21 ok2 => ?_
    refine ss_seq (ss_set (se_call0 1 ?_))
    walk_at "e"
    refine pull_s ok2 (by omega) (by decide) (by decide) fun r3 x3 r30 r31 ok3 => ?_
    show SS W0 _ [some (dR c), some (dR p), some (.py (RunD n)), some (dI r2), some (dI r3)] [(c, cr x3), (p, Cl (rs.map RunD))] _
    obtain ⟨r, hr2⟩ : ∃ r, rs[r2.toNat]? = some r := ⟨_, List.getElem?_eq_getElem (by omega)⟩
    have third : SS W0 (tAsg (tVar 2) (gSub (tVar 1) (tVar 3) rSetL)) [some (dR c), some (dR p), some (.py (RunD n)), some (dI r2), some (dI r3)] [(c, cr x3), (p, Cl (rs.map RunD))] (PFn [(c, cr x), (p, Cl (rs.map RunD))].length Kd) := by
      refine ss_asg (se_var rfl (sg_setP (se_var rfl (se_var rfl ⟨1, p, _, r2, RunD n, rfl, rfl, rfl, rfl, r20, by rw [List.length_map]; omega, ?_⟩))))
      rw [← List.map_set]
      refine k (rs.set r2.toNat n) x3 ⟨fun e => ?_, by rw [List.length_set]; exact hl, fun z hz => ?_⟩ (ok3.mono (by omega))
      · have := congrArg List.length e
        rw [List.length_set] at this
        simp at this
        exact h0 this
      · rcases List.mem_or_eq_of_mem_set hz with h | h
        · exact hr z h
        · exact h ▸ hn
    have second : SS W0 (tIfS (tAnd (tTest (tOp (rEqA K) (tVar 4) (tC (V.int 2)))) (tTest (tOp (rI0 fun i j => V.bl (decide (i > j))) (tCB (rLenA K) (tCons (tVar 1) tNil)) (tC (V.int 1))))) (tDrop (tBM K "list" rPopAt (tVar 1) (tCons (tVar 3) tNil))) (tAsg (tVar 2) (gSub (tVar 1) (tVar 3) rSetL)))
        [some (dR c), some (dR p), some (.py (RunD n)), some (dI r2), some (dI r3)] [(c, cr x3), (p, Cl (rs.map RunD))] (PFn [(c, cr x), (p, Cl (rs.map RunD))].length Kd) := by
      refine ss_if (st_and ?_)
      walk_at "e"
      refine br_dec (fun g => ?_) fun g => br_F rfl third
      walk_at "e"
      refine cr_lenP 1 rfl ?_
      rw [List.length_map]
      walk_at "e"
      refine br_dec (fun g2 => ?_) fun g2 => third
      refine ss_drop (se_bm (se_var rfl ⟨ty_cell (i := 1) rfl, sa_cons (se_var rfl (sa_nil (br_popAt 1 rfl r20 (by omega) (q := RunD r) (by rw [List.getElem?_map, hr2]; rfl) ?_)))⟩))
      rw [← eraseIdx_map]
      refine k (rs.eraseIdx r2.toNat) x3 ⟨fun e => ?_, ?_, fun z hz => hr z (List.mem_of_mem_eraseIdx hz)⟩ (ok3.mono (by omega))
      · have := congrArg List.length e
        rw [List.length_eraseIdx_of_lt (by omega)] at this
        simp at this
        omega
      · rw [List.length_eraseIdx_of_lt (by omega)]
        omega
    refine ss_if (st_and ?_)
    walk_at "e"
    refine br_dec (fun g => ?_) fun g => br_F rfl second
    walk_at "e"
    refine cr_lenP 1 rfl ?_
    rw [List.length_map]
    walk_at "e"
    refine br_dec (fun g2 => ?_) fun g2 => second
    refine ss_drop (se_bm (se_var rfl ⟨ty_cell (i := 1) rfl, sa_cons (se_op (se_var rfl (se_var rfl (or_addI (sa_cons (se_var rfl (sa_nil (br_insert 1 (q := RunD n) rfl (by rw [List.length_map]; omega) (by omega) (by omega) ?_))))))))⟩))
    rw [← List.map_take, ← List.map_drop, show [RunD n] = [n].map RunD from rfl, ← List.map_append, ← List.map_append]
    refine k (rs.take (r2 + r3).toNat ++ [n] ++ rs.drop (r2 + r3).toNat) x3 ⟨by simp, ?_, fun z hz => ?_⟩ (ok3.mono (by omega))
    · rw [List.length_append, List.length_append, List.length_take, List.length_drop]
      simp
      omega
    · rw [List.mem_append, List.mem_append, List.mem_singleton] at hz
      rcases hz with (h | h) | h
      · exact hr z (List.mem_of_mem_take h)
      · exact h ▸ hn
      · exact hr z (List.mem_of_mem_drop h)

theorem txt_is {s : String} {l : List Nat} (h : Str.ofString s = mkS l) {P : Str → Prop} (k : P (mkS l)) : P (Str.ofString s) := h ▸ k
theorem hand_ok {l : List Nat} {t : Int} {n : Nat} (h0 : l ≠ []) (h1 : l.length ≤ 40) (ht : 0 ≤ t) (hn : n ≤ 12) : RunsOk (List.replicate n (l, t)) ∧ (∀ r ∈ List.replicate n (l, t), r.1 ≠ [] ∧ 0 ≤ r.2) ∧ ∀ r ∈ List.replicate n (l, t), 0 ≤ r.2 := by
  have key : ∀ r ∈ List.replicate n (l, t), r = (l, t) := fun r hr => (List.mem_replicate.mp hr).2
  refine ⟨⟨by rw [List.length_replicate]; omega, fun r hr => ?_⟩, fun r hr => ?_, fun r hr => ?_⟩
  · rw [key r hr]
    exact ⟨List.length_pos_iff.mpr h0, by show l.length ≤ 1000; omega⟩
  · rw [key r hr]
    exact ⟨h0, ht⟩
  · rw [key r hr]
    exact ht
theorem hand_okL {rs : List (List Nat × Int)} (h : (rs.all fun r => decide (r.1 ≠ []) && decide (r.1.length ≤ 40) && decide (0 ≤ r.2)) = true) (hl : rs.length ≤ 12) : RunsOk rs ∧ (∀ r ∈ rs, r.1 ≠ [] ∧ 0 ≤ r.2) ∧ ∀ r ∈ rs, 0 ≤ r.2 := by
  have key : ∀ r ∈ rs, r.1 ≠ [] ∧ r.1.length ≤ 40 ∧ 0 ≤ r.2 := fun r hr => by
    have := List.all_eq_true.mp h r hr
    simp only [Bool.and_eq_true, decide_eq_true_eq] at this
    exact ⟨this.1.1, this.1.2, this.2⟩
  exact ⟨⟨by omega, fun r hr => ⟨List.length_pos_iff.mpr (key r hr).1, by have := (key r hr).2.1; omega⟩⟩, fun r hr => ⟨(key r hr).1, (key r hr).2.2⟩, fun r hr => (key r hr).2.2⟩
/-- far_fewest of written runs -/
theorem ff_s {T : Txt K mg} {rs : List (List Nat × Int)} {v : Int} {d : D} {Kd : D → Cells → Prop} {KX : XD → Cells → Prop} (hd : d = dL (rs.map RunD)) (h : (rs.all fun r => decide (r.1 ≠ []) && decide (r.1.length ≤ 40) && decide (0 ≤ r.2)) = true) (hl : rs.length ≤ 12) (hv : FM.farF rs = v) (k : Kd (dI v) []) : sp_far_fewest T [d] [] Kd KX :=
  ⟨rs, by rw [hd], rfl, (hand_okL h hl).1, by rw [hv]; exact k⟩
theorem ft_s {T : Txt K mg} {rs : List (List Nat × Int)} {v : Option (Int × Int × Int)} {d : D} {Kd : D → Cells → Prop} {KX : XD → Cells → Prop} (hd : d = dL (rs.map RunD)) (h : (rs.all fun r => decide (r.1 ≠ []) && decide (r.1.length ≤ 40) && decide (0 ≤ r.2)) = true) (hl : rs.length ≤ 12) (hv : FM.tgN (FM.bo rs) = v) (k : Kd (.py (FM.o3 v)) []) : sp_far_tight T [d] [] Kd KX :=
  ⟨rs, by rw [hd], rfl, (hand_okL h hl).1, (hand_okL h hl).2.2, by rw [show FM.tgD (cnr rs) = FM.o3 v from FM.tgD_is (hand_okL h hl).2.1 v hv]; exact k⟩
theorem o3_ne (a b c : Int) {K' : PySem.W.Frag} {M : Cells} {KK : D → Cells → Prop} (k : KK (dB false) M) : OR (rNeA K') (.py (FM.o3 (some (a, b, c)))) (dT [.int a, .int b, .int c]) M KK :=
  or_neAD (p := t3 a b c) (q := t3 a b c) (by simp [PySem.SeqAt.shaped, t3, PyData.canLay0, PyData.canLayAll0, PyData.depth, PyData.depthAll]) (by simp [PySem.SeqAt.shaped, t3, PyData.canLay0, PyData.canLayAll0, PyData.depth, PyData.depthAll]) (by
    rw [PySem.W.eqv_refl_alike _ (by simp [t3, PySem.W.alike, PySem.W.alikeAll])]
    exact k)
theorem or_rep12 {p : PyData} {M : Cells} {KK : D → Cells → Prop} (k : KK (dL (List.replicate 12 p)) M) : OR rMulA (dL [p]) (dI 12) M KK :=
  or_repV (.py [p]) (by decide) (by decide) (Nat.le_of_ble_eq_true rfl) (by
    have e : (List.replicate (Int.toNat 12) [p]).flatten = List.replicate 12 p := rfl
    rw [e]
    exact k)
theorem e29 : (10 : Int) ^ Int.toNat 29 = FM.far29 := rfl
def sp_law_hand_right (T : Txt K mg) : DSp := fun ds M Kd KX => ds = [] ∧ M = [] ∧ Kd (dB true) []
theorem ok_law_hand_right (T : Txt K mg) : FnOk P w K mg base CX0 6 T.f_law_hand_right T.fd_law_hand_right [] (spD (sp_law_hand_right T)) := by
  refine fn_ok T.F_law_hand_right sc_law_hand_right (fun ds M Kd KX h => ?hl) (fun cdv A outer s0 H E hr => ⟨_, (pss_cons (ps_set (i := 0) sc_law_hand_right.nd rfl (by first | exact Or.inl rfl | exact Or.inr rfl) (pe_op op_powW pe_int pe_int))
      (pss_cons (ps_if (PW.pt (pw_or (pt_cmpR (op_neK (K := K) hr.units) (pe_call (ok_far_fewest T) hr (by rfl) T.g_far_fewest T.F_far_fewest.kp T.b_far_fewest .nil pass0 (pa_cons (pe_op op_mulA (pe_lst (pa_cons (pe_tup (pa_cons pe_str (pa_cons (pv 0) pa_nil))) pa_nil)) pe_int) pa_nil)) (pe_op op_mulA pe_int (pv 0)) (nomark _)) (pw_or1 (pt_cmpR (op_neK (K := K) hr.units) (pe_call (ok_far_tight T) hr (by rfl) T.g_far_tight T.F_far_tight.kp T.b_far_tight .nil pass0 (pa_cons (pe_op op_mulA (pe_lst (pa_cons (pe_tup (pa_cons pe_str (pa_cons (pv 0) pa_nil))) pa_nil)) pe_int) pa_nil)) (pe_tup (pa_cons pe_int (pa_cons (pe_op op_sub (pe_op op_mulA pe_int (pv 0)) pe_int) (pa_cons pe_int pa_nil)))) (nomark _)))))
      (pss_one (ps_ret pe_bl))
      pss_nil)
      (pss_cons (ps_if (PW.pt (pw_or (pt_cmpR (op_neK (K := K) hr.units) (pe_call (ok_far_fewest T) hr (by rfl) T.g_far_fewest T.F_far_fewest.kp T.b_far_fewest .nil pass0 (pa_cons (pe_op op_mulA (pe_lst (pa_cons (pe_tup (pa_cons (pe_op op_mulA pe_str pe_int) (pa_cons (pv 0) pa_nil))) pa_nil)) pe_int) pa_nil)) pe_int (nomark _)) (pw_or1 (pt_cmpR (op_neK (K := K) hr.units) (pe_call (ok_far_tight T) hr (by rfl) T.g_far_tight T.F_far_tight.kp T.b_far_tight .nil pass0 (pa_cons (pe_op op_mulA (pe_lst (pa_cons (pe_tup (pa_cons (pe_op op_mulA pe_str pe_int) (pa_cons (pv 0) pa_nil))) pa_nil)) pe_int) pa_nil)) (pe_tup (pa_cons pe_int (pa_cons pe_int (pa_cons pe_int pa_nil)))) (nomark _)))))
      (pss_one (ps_ret pe_bl))
      pss_nil)
      (pss_cons (ps_if (PW.pt (pw_or (pt_cmpR (op_neK (K := K) hr.units) (pe_call (ok_far_fewest T) hr (by rfl) T.g_far_fewest T.F_far_fewest.kp T.b_far_fewest .nil pass0 (pa_cons (pe_lst (pa_cons (pe_tup (pa_cons pe_str (pa_cons (pv 0) pa_nil))) pa_nil)) pa_nil)) pe_int (nomark _)) (pw_or1 (pt_cmpR (op_neK (K := K) hr.units) (pe_call (ok_far_fewest T) hr (by rfl) T.g_far_fewest T.F_far_fewest.kp T.b_far_fewest .nil pass0 (pa_cons (pe_op op_mulA (pe_lst (pa_cons (pe_tup (pa_cons (pe_op op_addA pe_str (pe_op op_mulA pe_str pe_int)) (pa_cons (pv 0) pa_nil))) pa_nil)) pe_int) pa_nil)) (pe_op op_mulA pe_int (pv 0)) (nomark _)))))
      (pss_one (ps_ret pe_bl))
      pss_nil)
      (pss_cons (ps_if (pt_cmpR (op_neK (K := K) hr.units) (pe_call (ok_far_tight T) hr (by rfl) T.g_far_tight T.F_far_tight.kp T.b_far_tight .nil pass0 (pa_cons (pe_op op_mulA (pe_lst (pa_cons (pe_tup (pa_cons (pe_op op_addA pe_str (pe_op op_mulA pe_str pe_int)) (pa_cons (pv 0) pa_nil))) pa_nil)) pe_int) pa_nil)) (pe_tup (pa_cons pe_int (pa_cons (pe_op op_sub (pe_op op_mulA pe_int (pv 0)) pe_int) (pa_cons pe_int pa_nil)))) (nomark _))
      (pss_one (ps_ret pe_bl))
      pss_nil)
      (pss_cons (ps_set (i := 1) sc_law_hand_right.nd rfl (by first | exact Or.inl rfl | exact Or.inr rfl) (pe_lst (pa_cons (pe_tup (pa_cons pe_str (pa_cons (pv 0) pa_nil))) (pa_cons (pe_tup (pa_cons pe_str (pa_cons (pv 0) pa_nil))) pa_nil))))
      (pss_cons (ps_if (PW.pt (pw_or (pt_cmpR (op_neK (K := K) hr.units) (pe_call (ok_far_tight T) hr (by rfl) T.g_far_tight T.F_far_tight.kp T.b_far_tight .nil pass0 (pa_cons (pv 1) pa_nil)) (pe_tup (pa_cons (pe_op op_addA (pe_op op_mulA pe_int (pv 0)) pe_int) (pa_cons (pe_op op_addA (pe_op op_mulA pe_int (pv 0)) pe_int) (pa_cons pe_int pa_nil)))) (nomark _)) (pw_or1 (pt_cmpR (op_neK (K := K) hr.units) (pe_call (ok_far_fewest T) hr (by rfl) T.g_far_fewest T.F_far_fewest.kp T.b_far_fewest .nil pass0 (pa_cons (pv 1) pa_nil)) pe_int (nomark _)))))
      (pss_one (ps_ret pe_bl))
      pss_nil)
      (pss_cons (ps_if (PW.pt (pw_or (pt_cmpR (op_neK (K := K) hr.units) (pe_call (ok_far_tight T) hr (by rfl) T.g_far_tight T.F_far_tight.kp T.b_far_tight .nil pass0 (pa_cons (pe_lst (pa_cons (pe_tup (pa_cons pe_str (pa_cons (pv 0) pa_nil))) (pa_cons (pe_tup (pa_cons pe_str (pa_cons pe_int pa_nil))) (pa_cons (pe_tup (pa_cons pe_str (pa_cons (pv 0) pa_nil))) pa_nil)))) pa_nil)) (pe_tup (pa_cons pe_int (pa_cons (pv 0) (pa_cons pe_int pa_nil)))) (nomark _)) (pw_or1 (pt_cmpR (op_neK (K := K) hr.units) (pe_call (ok_far_fewest T) hr (by rfl) T.g_far_fewest T.F_far_fewest.kp T.b_far_fewest .nil pass0 (pa_cons (pe_op op_mulA (pe_lst (pa_cons (pe_tup (pa_cons pe_str (pa_cons (pv 0) pa_nil))) pa_nil)) pe_int) pa_nil)) pe_int (nomark _)))))
      (pss_one (ps_ret pe_bl))
      pss_nil)
      (pss_cons (ps_if (pt_cmpR (op_neK (K := K) hr.units) (pe_call (ok_far_fewest T) hr (by rfl) T.g_far_fewest T.F_far_fewest.kp T.b_far_fewest .nil pass0 (pa_cons (pe_lst (pa_cons (pe_tup (pa_cons pe_str (pa_cons (pv 0) pa_nil))) (pa_cons (pe_tup (pa_cons pe_str (pa_cons pe_int pa_nil))) (pa_cons (pe_tup (pa_cons pe_str (pa_cons (pv 0) pa_nil))) (pa_cons (pe_tup (pa_cons pe_str (pa_cons pe_int pa_nil))) pa_nil))))) pa_nil)) (pv 0) (nomark _))
      (pss_one (ps_ret pe_bl))
      pss_nil)
      (pss_one (ps_ret (pe_and (pe_cmpR op_isN (pe_call (ok_far_tight T) hr (by rfl) T.g_far_tight T.F_far_tight.kp T.b_far_tight .nil pass0 (pa_cons (pe_op op_mulA (pe_lst (pa_cons (pe_tup (pa_cons pe_str (pa_cons (pv 0) pa_nil))) pa_nil)) pe_int) pa_nil)) pe_non (nomark _)) (pe_one (pe_cmpR op_isN (pe_call (ok_far_tight T) hr (by rfl) T.g_far_tight T.F_far_tight.kp T.b_far_tight .nil pass0 (pa_cons (pe_lst (pa_cons (pe_tup (pa_cons pe_str (pa_cons pe_int pa_nil))) pa_nil)) pa_nil)) pe_non (nomark _))))))))))))))), fun ds M Kd KX h => ?_⟩)
  · obtain ⟨rfl, _⟩ := h
    rfl
  · obtain ⟨rfl, rfl, k⟩ := h
    show SS W0 _ [none, none] [] _
    have b29 : (0 : Int) < FM.far29 ∧ FM.far29 < 2 ^ 100 := by decide
    have s1 : Str.ofString "w." = mkS [119, 46] := by decide +kernel
    have s2 : Str.ofString "w" = mkS [119] := by decide +kernel
    have s3 : Str.ofString "w.." = mkS [119, 46, 46] := by decide +kernel
    have s4 : Str.ofString "." = mkS [46] := by decide +kernel
    have s5 : Str.ofString "0." = mkS [48, 46] := by decide +kernel
    have s6 : Str.ofString "ow" = mkS [111, 119] := by decide +kernel
    have s7 : Str.ofString "o" = mkS [111] := by decide +kernel
    have s8 : Str.ofString "o0." = mkS [111, 48, 46] := by decide +kernel
    have m1 : Txt.mul (mkS [119]) 40 = mkS (List.replicate 40 119) := (mul_mkS [119] 40).trans (by decide +kernel)
    have m2 : Txt.mul (mkS [46]) 39 = mkS (List.replicate 39 46) := (mul_mkS [46] 39).trans (by decide +kernel)
    simp only [s1, s2, s3, s4, s5, s6, s7, s8]
    refine ss_seq (ss_set ?_)
    walk_at "e"
    show SS W0 _ [some (dI FM.far29), none] [] _
    -- 1
    refine ss_seq (ss_if (st_or (st_test (se_op (se_call0 0 ?_)))))
    walk_at "e"
    refine or_rep12 ?_
    walk_at "e"
    refine ff_s (rs := List.replicate 12 ([119, 46], FM.far29)) rfl (by decide) (by decide) FM.hand1.1 ?_
    walk_at "e"
    first | refine br_T (decide_eq_true rfl) ?_ | skip
    walk_at "e"
    refine se_call0 0 ?_
    walk_at "e"
    refine or_rep12 ?_
    walk_at "e"
    refine ft_s (rs := List.replicate 12 ([119, 46], FM.far29)) rfl (by decide) (by decide) FM.hand1.2 ?_
    walk_at "e"
    refine o3_ne _ _ _ (isB (br_F rfl (ss_next ?_)))
    -- 2
    refine ss_seq (ss_if (st_or (st_test (se_op (se_call0 0 ?_)))))
    walk_at "e"
    refine or_repS ⟨by decide, by decide, by decide +kernel, by decide +kernel⟩ ?_
    rw [m1]
    walk_at "e"
    refine or_rep12 ?_
    walk_at "e"
    refine ff_s (rs := List.replicate 12 (List.replicate 40 119, FM.far29)) rfl (by decide) (by decide) FM.hand2.1 ?_
    walk_at "e"
    first | refine br_T (decide_eq_true rfl) ?_ | skip
    walk_at "e"
    refine se_call0 0 ?_
    walk_at "e"
    refine or_repS ⟨by decide, by decide, by decide +kernel, by decide +kernel⟩ ?_
    rw [m1]
    walk_at "e"
    refine or_rep12 ?_
    walk_at "e"
    refine ft_s (rs := List.replicate 12 (List.replicate 40 119, FM.far29)) rfl (by decide) (by decide) FM.hand2.2 ?_
    walk_at "e"
    refine o3_ne _ _ _ (isB (br_F rfl (ss_next ?_)))
    -- 3
    refine ss_seq (ss_if (st_or (st_test (se_op (se_call0 0 ?_)))))
    walk_at "e"
    refine ff_s (rs := [([119, 46, 46], FM.far29)]) rfl (by decide) (by decide) FM.hand3.1 ?_
    walk_at "e"
    first | refine br_T (decide_eq_true rfl) ?_ | skip
    walk_at "e"
    refine se_call0 0 ?_
    walk_at "e"
    refine or_repS ⟨by decide, by decide, by decide +kernel, by decide +kernel⟩ ?_
    rw [m2]
    refine or_addZ (by decide) ?_
    walk_at "e"
    refine or_rep12 ?_
    walk_at "e"
    refine ff_s (rs := List.replicate 12 (119 :: List.replicate 39 46, FM.far29)) rfl (by decide) (by decide) FM.hand3.2.1 ?_
    walk_at "e"
    first | refine br_T (decide_eq_true rfl) ?_ | skip
    first | refine ss_next ?_ | skip
    -- 4
    refine ss_seq (ss_if (st_test (se_op (se_call0 0 ?_))))
    walk_at "e"
    refine or_repS ⟨by decide, by decide, by decide +kernel, by decide +kernel⟩ ?_
    rw [m2]
    refine or_addZ (by decide) ?_
    walk_at "e"
    refine or_rep12 ?_
    walk_at "e"
    refine ft_s (rs := List.replicate 12 (119 :: List.replicate 39 46, FM.far29)) rfl (by decide) (by decide) FM.hand3.2.2 ?_
    walk_at "e"
    refine o3_ne _ _ _ (isB (br_F rfl (ss_next ?_)))
    -- 5
    refine ss_seq (ss_set ?_)
    walk_at "e"
    show SS W0 _ [some (dI FM.far29), some (dL ([([48, 46], FM.far29), ([111, 119], FM.far29)].map RunD))] [] _
    refine ss_seq (ss_if (st_or (st_test (se_op (se_call0 0 ?_)))))
    walk_at "e"
    refine ft_s (rs := [([48, 46], FM.far29), ([111, 119], FM.far29)]) rfl (by decide) (by decide) FM.hand4.1 ?_
    walk_at "e"
    refine o3_ne _ _ _ (isB (br_F rfl ?_))
    walk_at "e"
    refine se_call0 0 ?_
    walk_at "e"
    refine ff_s (rs := [([48, 46], FM.far29), ([111, 119], FM.far29)]) rfl (by decide) (by decide) FM.hand4.2 ?_
    walk_at "e"
    first | refine br_T (decide_eq_true rfl) ?_ | skip
    first | refine ss_next ?_ | skip
    -- 6
    refine ss_seq (ss_if (st_or (st_test (se_op (se_call0 0 ?_)))))
    walk_at "e"
    refine ft_s (rs := [([46], FM.far29), ([119], 1), ([111], FM.far29)]) rfl (by decide) (by decide) FM.hand5.1 ?_
    walk_at "e"
    refine o3_ne _ _ _ (isB (br_F rfl ?_))
    walk_at "e"
    refine se_call0 0 ?_
    walk_at "e"
    refine or_rep12 ?_
    walk_at "e"
    refine ff_s (rs := List.replicate 12 ([111, 48, 46], FM.far29)) rfl (by decide) (by decide) FM.hand5.2 ?_
    walk_at "e"
    first | refine br_T (decide_eq_true rfl) ?_ | skip
    first | refine ss_next ?_ | skip
    -- 7
    refine ss_seq (ss_if (st_test (se_op (se_call0 0 ?_))))
    walk_at "e"
    refine ff_s (rs := [([119, 46], FM.far29), ([111], 1), ([119, 46], FM.far29), ([111], 2)]) rfl (by decide) (by decide) FM.hand6 ?_
    walk_at "e"
    first | refine br_T (decide_eq_true rfl) ?_ | skip
    first | refine ss_next ?_ | skip
    -- 8
    refine ss_ret (se_andV (se_op (se_call0 0 ?_)))
    walk_at "e"
    refine or_rep12 ?_
    walk_at "e"
    refine ft_s (rs := List.replicate 12 ([111, 48, 46], FM.far29)) rfl (by decide) (by decide) FM.hand7.1 ?_
    walk_at "e"
    refine se_call0 0 ?_
    walk_at "e"
    refine ft_s (rs := [([111], 1)]) rfl (by decide) (by decide) FM.hand7.2 ?_
    walk_at "e"
    exact Ret.py k
theorem runs_shw {rs : List (List Nat × Int)} (h : RunsA rs) : Shw (.list (rs.map RunD)) := by
  obtain ⟨_, hl, hr⟩ := h
  refine shw_of (fun p hp => ?_) ?_ ?_
  · obtain ⟨r, h, rfl⟩ := List.mem_map.mp hp
    obtain ⟨h1, h2, h3, h4, h5⟩ := hr r h
    unfold RunD
    simp only [sml, smlA, Bool.and_eq_true, decide_eq_true_eq, and_true]
    refine ⟨?_, by omega⟩
    rw [mkS_cs, List.all_eq_true]
    intro c hc
    have := h1 c hc
    exact decide_eq_true (Nat.lt_of_le_of_lt (show c ≤ 119 by omega) (by decide))
  · have := bulkAll_le (ps := rs.map RunD) (k := 50) (fun p hp => by
      obtain ⟨r, h, rfl⟩ := List.mem_map.mp hp
      have h3 := (hr r h).2.2.1
      unfold RunD
      have e : (mkS r.1).cps.size = r.1.length := by simp [mkS]
      simp only [PyData.bulk, PyData.bulkAll, e]
      omega)
    rw [List.length_map] at this
    omega
  · exact Nat.le_trans (depthAll_le (k := 5) fun p hp => by
      obtain ⟨r, h, rfl⟩ := List.mem_map.mp hp
      unfold RunD
      simp [PyData.depth, PyData.depthAll]) (by decide)
theorem flat_tgD {A : Nat → List Int} (hs : ∀ x, FM.Stp (A x)) : flatT (FM.tgD A) = true := by
  rcases FM.tgD_cases A hs with e | ⟨a, b, c, e⟩ <;> rw [e]
  · rfl
  · simp [t3, flatT, flatTs]
theorem isNP_tgD {A : Nat → List Int} (hs : ∀ x, FM.Stp (A x)) : isNP (FM.tgD A) = decide (max (FM.ms0 (A 0)) (FM.ms0 (A 1)) = 0) := by
  by_cases h : 0 < max (FM.ms0 (A 0)) (FM.ms0 (A 1))
  · obtain ⟨i, j, q, e, _⟩ := FM.tgD_least hs h
    rw [e, decide_eq_false (by omega)]
    rfl
  · have h0 := FM.ms0_nn (A 0)
    have h1 := FM.ms0_nn (A 1)
    rw [FM.tgD_none (by omega) (by omega), decide_eq_true (by omega)]
    rfl
def sp_law (T : Txt K mg) : DSp := fun ds M Kd KX => ∃ (ns : List Int), ds = [.sq K (ns.map V.int)] ∧ M = [] ∧ ns.length ≤ 63 ∧ Kd (dB true) []
theorem ok_law (T : Txt K mg) : FnG P w K mg base CX0 7 T.f_law T.fd_law ["script"] (spD (sp_law T)) := by
  refine fnG_ok T.F_law sc_law (fun ds M Kd KX h => ?hl) (fun cdv A outer s0 H E hr gd => ⟨_, (pss_cons (ps_if (pt_not (pt_val (pe_call0 (ok_law_hand_right T) hr (by rfl) T.g_law_hand_right T.F_law_hand_right.kp T.b_law_hand_right .nil pass0)))
      (pss_one (ps_ret pe_bl))
      pss_nil)
      (pss_cons (ps_for PassesOwn.never rfl (pi_range1 (by rfl) T.z_range (pa_cons (pe_callB (call_max2' rfl) (by rfl) T.z_max (by decide +kernel) (pa_cons pe_int (pa_cons (pe_callB (call_min2' rfl) (by rfl) T.z_min (by decide +kernel) (pa_cons pe_int (pa_cons (pe_callB (call_lenK (K := K)) (by rfl) T.z_len (by decide +kernel) (pa_cons (pv 0) pa_nil)) pa_nil))) pa_nil))) pa_nil)) (pg_name (i := 1) sc_law.nd rfl (by first | exact Or.inl rfl | exact Or.inr rfl))
      (pss_cons (ps_set (i := 2) sc_law.nd rfl (by first | exact Or.inl rfl | exact Or.inr rfl) (pe_call (ok_law_reel T) (hr.mono (by decide)) (by rfl) T.g_law_reel T.F_law_reel.kp T.b_law_reel .nil pass0 (pa_cons (pv 0) (pa_cons (pv 1) pa_nil))))
      (pss_cons (ps_set (i := 3) sc_law.nd rfl (by first | exact Or.inl rfl | exact Or.inr rfl) (pe_call (ok_law_far_runs T) (hr.mono (by decide)) (by rfl) T.g_law_far_runs T.F_law_far_runs.kp T.b_law_far_runs .nil pass0 (pa_cons (pv 2) pa_nil)))
      (pss_one (ps_for PassesOwn.never rfl (pi_range1 (by rfl) T.z_range (pa_cons pe_int pa_nil)) (pg_name (i := 4) sc_law.nd rfl (by first | exact Or.inl rfl | exact Or.inr rfl))
      (pss_cons (ps_set (i := 5) sc_law.nd rfl (by first | exact Or.inl rfl | exact Or.inr rfl) (pe_callB (call_reprK (K := K) gd hr.units) (by rfl) T.z_repr (by decide +kernel) (pa_cons (pv 3) pa_nil)))
      (pss_cons (ps_set (i := 6) sc_law.nd rfl (by first | exact Or.inl rfl | exact Or.inr rfl) (pe_tup (pa_cons (pe_call (ok_far_fewest T) (hr.mono (by decide)) (by rfl) T.g_far_fewest T.F_far_fewest.kp T.b_far_fewest .nil pass0 (pa_cons (pv 3) pa_nil)) (pa_cons (pe_call (ok_far_tight T) (hr.mono (by decide)) (by rfl) T.g_far_tight T.F_far_tight.kp T.b_far_tight .nil pass0 (pa_cons (pv 3) pa_nil)) pa_nil))))
      (pss_cons (ps_set (i := 7) sc_law.nd rfl (by first | exact Or.inl rfl | exact Or.inr rfl) (pe_callB (cr_maxK (K := K) rfl) (by rfl) T.z_max (by decide +kernel) (pa_cons (pe_op op_addA (pe_lst (pa_cons pe_int pa_nil)) (pe_lc (own := [("parity", 9)]) rfl sc_law.nd (pi_range1 (by rfl) T.z_range (pa_cons pe_int pa_nil)) (blkOk_by (own := [("parity", 9)]) (N := ["script", "k", "reel", "runs", "turn", "kept", "told", "due", "anew", "parity"]) (sc := defScope s_law) (by decide +kernel)) (fun _ _ _ _ _ => pg_name (i := 9) sc_law.nd rfl (by first | exact Or.inl rfl | exact Or.inr rfl)) (fun _ _ _ _ _ => pts_nil) (fun _ _ _ _ _ => pe_ix (ix_seqK (K := K)) (pe_call (ok_law_whole_piece T) (hr.mono (by decide)) (by rfl) T.g_law_whole_piece T.F_law_whole_piece.kp T.b_law_whole_piece .nil pass0 (pa_cons (pv 3) (pa_cons pe_int (pa_cons (pv 9) pa_nil)))) pe_int (fun _ _ => rfl)))) pa_nil)))
      (pss_cons (ps_if (PW.pt (pw_or (pt_cmpR (op_neK (K := K) hr.units) (pe_ix (ix_seqK (K := K)) (pv 6) pe_int (fun _ _ => rfl)) (pv 7) (nomark _)) (pw_or (pt_cmpR (op_neK (K := K) hr.units) (pe_cmpR op_isN (pe_ix (ix_seqK (K := K)) (pv 6) pe_int (fun _ _ => rfl)) pe_non (nomark _)) (pe_cmpR (op_eqK (K := K) hr.units) (pv 7) pe_int (nomark _)) (nomark _)) (pw_or1 (pt_cmpR (op_neK (K := K) hr.units) (pe_callB (call_reprK (K := K) gd hr.units) (by rfl) T.z_repr (by decide +kernel) (pa_cons (pv 3) pa_nil)) (pv 5) (nomark _))))))
      (pss_one (ps_ret pe_bl))
      pss_nil)
      (pss_cons (ps_set (i := 8) sc_law.nd rfl (by first | exact Or.inl rfl | exact Or.inr rfl) (pe_callTy (call_listK (K := K)) (by rfl) T.z_list (by decide +kernel) (pa_cons (pv 3) pa_nil)))
      (pss_cons (ps_if (pt_cmpR (op_neK (K := K) hr.units) (pe_tup (pa_cons (pe_call (ok_far_fewest T) (hr.mono (by decide)) (by rfl) T.g_far_fewest T.F_far_fewest.kp T.b_far_fewest .nil pass0 (pa_cons (pv 8) pa_nil)) (pa_cons (pe_call (ok_far_tight T) (hr.mono (by decide)) (by rfl) T.g_far_tight T.F_far_tight.kp T.b_far_tight .nil pass0 (pa_cons (pv 8) pa_nil)) pa_nil))) (pv 6) (nomark _))
      (pss_one (ps_ret pe_bl))
      pss_nil)
      (pss_one (ps_expr (pe_call (ok_law_change T) (hr.mono (by decide)) (by rfl) T.g_law_change T.F_law_change.kp T.b_law_change .nil pass0 (pa_cons (pv 2) (pa_cons (pv 3) pa_nil))))))))))))))))
      (pss_one (ps_ret pe_bl)))), fun ds M Kd KX h => ?_⟩)
  · obtain ⟨ns, rfl, _⟩ := h
    rfl
  · obtain ⟨ns, rfl, rfl, hns, k⟩ := h
    show SS W0 _ [some (.sq K (ns.map V.int)), none, none, none, none, none, none, none, none, none] [] _
    refine ss_seq (ss_if (st_not (st_B (se_call0 0 (sa_nil ⟨rfl, rfl, isB (br_F rfl (ss_next ?_))⟩)))))
    refine ss_seq (ss_for (si_range1 ?_))
    walk_at "s"
    refine cr_lenQ ?_
    walk_at "s"
    refine ⟨_, rfl, by omega, by omega, fun i ρ' M' => ∃ x1 x2 x3 x4 x5 x6 x7 x8 x9, ρ' = [some (.sq K (ns.map V.int)), x1, x2, x3, x4, x5, x6, x7, x8, x9], ⟨_, _, _, _, _, _, _, _, _, rfl⟩, fun _ _ _ _ _ => trivial, ?_, ?_⟩
    · rintro i d ρ' M' hi rfl ⟨x1, x2, x3, x4, x5, x6, x7, x8, x9, rfl⟩
      refine sg_name (ss_cut 0 ?_)
      refine ss_seq (ss_set (se_call0 0 ?_))
      walk_at "s"
      refine ⟨ns, i, rfl, rfl, by omega, by omega, fun a x ok => ?_⟩
      refine ss_seq (ss_set (se_call0 1 ?_))
      walk_at "e"
      refine ⟨a, x, _, rfl, rfl, ok, by omega, fun rs x1' h0 hl hr ok1 p => ?_⟩
      refine ss_forX (xs := List.range 12) (M2 := [(a, cr x1'), (p, Cl (rs.map RunD))]) (fun pre ρ' M' => ∃ rs x' x4 x5 x6 x7 x8 x9, ρ' = [some (.sq K (ns.map V.int)), some (dI (i : Int)), some (dR a), some (dR p), x4, x5, x6, x7, x8, x9] ∧ M' = [(a, cr x'), (p, Cl (rs.map RunD))] ∧ RunsA rs ∧ Okr (4000 + 5000 * pre.length) x') (src_R1 12 ?_) ⟨rs, x1', _, _, _, _, _, _, rfl, rfl, ⟨h0, hl, hr⟩, ok1⟩ ⟨?_, ?_⟩
      · walk_at "s"
        exact ⟨12, rfl, rfl, by decide, by decide, rfl⟩
      · rintro pre turn post ρ' M' hx ⟨rs, x', x4, x5, x6, x7, x8, x9, rfl, rfl, hR, ok'⟩
        have hpl : pre.length < 12 := by
          have := congrArg List.length hx
          simp at this
          omega
        obtain ⟨h0, hl, hr⟩ := hR
        have hr0 : ∀ r ∈ rs, 0 ≤ r.2 := fun r h => by have := (hr r h).2.2.2.1; omega
        have hrs : RunsOk rs := ⟨by omega, fun r h => ⟨(hr r h).2.1, by have := (hr r h).2.2.1; omega⟩⟩
        have hne : ∀ r ∈ rs, r.1 ≠ [] ∧ 0 ≤ r.2 := fun r h => ⟨fun e => by have := (hr r h).2.1; rw [e] at this; simp at this, hr0 r h⟩
        have hrs2 : ∀ r ∈ rs, 1 ≤ r.1.length ∧ 1 ≤ r.2 := fun r h => ⟨(hr r h).2.1, (hr r h).2.2.2.1⟩
        have hshw := runs_shw ⟨h0, hl, hr⟩
        have hstp : ∀ x, FM.Stp (cnr rs x) := fun x => FM.cn_stp _ _ _
        have hflat := flat_tgD hstp
        obtain ⟨p0, e0, w0⟩ := FM.far_law h0 hrs2 (p := 0) (.inl rfl)
        obtain ⟨p1, e1, w1⟩ := FM.far_law h0 hrs2 (p := 1) (.inr rfl)
        refine sg_name ?_
        refine ss_seq (ss_set (se_cb (sa_cons (se_var rfl (sa_nil (cr_reprV (.cell 1 rfl) hshw ?_))))))
        refine ss_seq (ss_set (se_tup (sa_cons (se_callF 0 (sa_cons (se_var rfl (sa_nil ⟨_, asd_cell 1 rfl asd_nil, rs, rfl, rfl, hrs, rfl, (by simp), ?_⟩)))))))
        refine sa_cons (se_callF 0 (sa_cons (se_var rfl (sa_nil ⟨_, asd_cell 1 rfl asd_nil, rs, rfl, rfl, hrs, hr0, hflat, (by simp), ?_⟩))))
        refine sa_nil (unp rfl (Nat.le_of_ble_eq_true rfl) ?_)
        show SS W0 _ [some (.sq K (ns.map V.int)), some (dI (i : Int)), some (dR a), some (dR p), some (dI (turn : Int)), some (dS (PyData.list (rs.map RunD)).shown), some (dT [.int (FM.farF rs), FM.tgD (cnr rs)]), x7, x8, x9] [(a, cr x'), (p, Cl (rs.map RunD))] _
        have e : FM.farF rs = maxL [0, p0.m, p1.m] := by
          show max (FM.lbk 0 (FM.bo rs)).w (FM.lbk 1 (FM.bo rs)).w = max (max 0 p0.m) p1.m
          rw [w0, w1]
          omega
        refine ss_seq (ss_set ?_)
        walk_at "e"
        refine se_lcM (xs := List.range 2) (M2 := [(a, cr x'), (p, Cl (rs.map RunD))]) (fun i => .int (if i = 0 then p0.m else p1.m)) gok_name (src_R1 2 ?_) (by decide) ?_ ?_
        · walk_at "e"
          exact ⟨2, rfl, rfl, by decide, by decide, rfl⟩
        · rintro pre2 j post2 hx2
          have hj : j < 2 := List.mem_range.mp (by rw [hx2]; simp)
          have hwp : FM.wpc rs 0 (j : Int) = some (if j = 0 then p0 else p1) := by
            obtain rfl | rfl : j = 0 ∨ j = 1 := by omega
            · exact e0
            · exact e1
          refine sg_name ?_
          refine se_op (se_callF 0 (sa_cons (se_var rfl (sa_cons (se_int (sa_cons (se_var rfl (sa_nil ⟨_, asd_cell 1 rfl (asd_same (asd_same asd_nil)), rs, 0, (j : Int), rfl, rfl, hrs, ?_⟩))))))))
          rw [hwp]
          refine ⟨rfl, by simp, ?_⟩
          walk_at "e"
          refine ⟨?_, rfl, rfl⟩
          split <;> rfl
        · refine or_cat (Nat.le_of_ble_eq_true rfl) ?_
          walk_at "e"
          refine cr_maxL (ns := [0, p0.m, p1.m]) (.py _) (by simp) ?_
          rw [← e]
          have hfe : FM.farF rs = max (FM.ms0 (cnr rs 0)) (FM.ms0 (cnr rs 1)) := FM.farF_eq hne
          refine ss_seq (ss_if (st_or (st_test (se_op (se_op (se_var rfl (se_int (or_ixT (p := .int (FM.farF rs)) rfl ?_)))))))) 
          walk_at "e"
          refine br_T (decide_eq_true rfl) ?_
          refine st_or (st_test (se_op (se_op (se_op (se_var rfl (se_int (or_ixT (p := FM.tgD (cnr rs)) rfl ?_)))))))
          walk_at "e"
          refine or_neAD (p := .bool _) (q := .bool _) rfl rfl ?_
          rw [eqv_bool, isNP_tgD hstp, hfe]
          refine isB (br_F (by simp) ?_)
          walk_at "e"
          refine cr_reprV (.cell 1 rfl) hshw ?_
          walk_at "e"
          refine br_T (decide_eq_true rfl) ?_
          refine ss_next ?_
          refine ss_seq (ss_set (se_cb (sa_cons (se_var rfl (sa_nil (cr_listD (.cell 1 rfl) ?_))))))
          refine ss_seq (ss_if (st_test (se_op (se_tup (sa_cons (se_call0 0 ?_))))))
          walk_at "e"
          refine ⟨rs, rfl, rfl, hrs, ?_⟩
          refine sa_cons (se_call0 0 ?_)
          walk_at "e"
          refine ⟨rs, rfl, rfl, hrs, hr0, ?_⟩
          refine sa_nil (unp rfl (Nat.le_of_ble_eq_true rfl) (se_var rfl ?_))
          obtain ⟨d1, d2⟩ := FM.due_shaped (z := max (FM.ms0 (cnr rs 0)) (FM.ms0 (cnr rs 1))) hstp
          rw [hfe]
          refine or_neAD d1 d1 (isB (br_F (by rw [d2]; rfl) (ss_next ?_)))
          refine ss_drop (se_call0 2 (sa_cons (se_var rfl (sa_cons (se_var rfl (sa_nil ?_))))))
          exact ⟨a, p, rs, x', _, rfl, rfl, ok', by omega, ⟨h0, hl, hr⟩, fun rs' x'' hR' ok'' => ⟨rs', x'', _, _, _, _, _, _, rfl, rfl, hR', ok''.mono (by rw [List.length_append]; simp; omega)⟩⟩
      · rintro ρ' M' ⟨rs, x', x4, x5, x6, x7, x8, x9, rfl, rfl, hR, ok'⟩
        exact ⟨_, _, _, _, _, _, _, _, _, rfl⟩
    · rintro ρ' M' ⟨x1, x2, x3, x4, x5, x6, x7, x8, x9, rfl⟩
      refine ss_cut 0 ?_
      walk_at "s"
      exact Ret.py k

def spLaw (K : PySem.W.Frag) : Sp := fun vs H Q _ => ∃ (a : Addr) (ns : List Int), vs = [.ref a] ∧ SqL K H a (ns.map V.int) ∧ ns.length ≤ 63 ∧ ∀ H', Q (.bl true) H'
theorem ok_lawS (T : Txt K mg) : FnG P w K mg base CX0 7 T.f_law T.fd_law ["script"] (spLaw K) := (ok_law T).imp fun vs H Q E ⟨a, ns, e, h, hl, q⟩ => by
  subst e
  exact ⟨H, [.sq K (ns.map V.int)], [], [], fun d _ => d = dB true, fun _ _ => False, Own.self H, .cons ⟨a, rfl, h⟩ .nil, ⟨ns, rfl, rfl, hl, rfl⟩, fun d M v G' H' e _ r _ => by
    subst e
    rw [bl_of r]
    exact q H', fun _ _ _ _ _ k => k.elim⟩

end
section
set_option maxRecDepth 100000
theorem txt_mk {K : PySem.W.Frag} {h : Heap} {mg : Str → Option Value} (X : K.In h) (G : h.Ns mainGlobals mg) {fa : Addr} (hfa : mg "law" = some (.ref fa))
    {f_blocks_of : Addr} {od_blocks_of an_blocks_of : Option Addr} {sl_blocks_of : Array (Option Value)} {oc_blocks_of kV_blocks_of dc_blocks_of pm_blocks_of cd_blocks_of ct_blocks_of : Value}
    {f_counts_of : Addr} {od_counts_of an_counts_of : Option Addr} {sl_counts_of : Array (Option Value)} {oc_counts_of kV_counts_of dc_counts_of pm_counts_of cd_counts_of ct_counts_of : Value}
    {f_best_beginning : Addr} {od_best_beginning an_best_beginning : Option Addr} {sl_best_beginning : Array (Option Value)} {oc_best_beginning kV_best_beginning dc_best_beginning pm_best_beginning cd_best_beginning ct_best_beginning : Value}
    {f_looked_back : Addr} {od_looked_back an_looked_back : Option Addr} {sl_looked_back : Array (Option Value)} {oc_looked_back kV_looked_back dc_looked_back pm_looked_back cd_looked_back ct_looked_back : Value}
    {f_reached : Addr} {od_reached an_reached : Option Addr} {sl_reached : Array (Option Value)} {oc_reached kV_reached dc_reached pm_reached cd_reached ct_reached : Value}
    {f_last_of : Addr} {od_last_of an_last_of : Option Addr} {sl_last_of : Array (Option Value)} {oc_last_of kV_last_of dc_last_of pm_last_of cd_last_of ct_last_of : Value}
    {f_looked_at : Addr} {od_looked_at an_looked_at : Option Addr} {sl_looked_at : Array (Option Value)} {oc_looked_at kV_looked_at dc_looked_at pm_looked_at cd_looked_at ct_looked_at : Value}
    {f_far_fewest : Addr} {od_far_fewest an_far_fewest : Option Addr} {sl_far_fewest : Array (Option Value)} {oc_far_fewest kV_far_fewest dc_far_fewest pm_far_fewest cd_far_fewest ct_far_fewest : Value}
    {f_far_tight : Addr} {od_far_tight an_far_tight : Option Addr} {sl_far_tight : Array (Option Value)} {oc_far_tight kV_far_tight dc_far_tight pm_far_tight cd_far_tight ct_far_tight : Value}
    {f_law_reel : Addr} {od_law_reel an_law_reel : Option Addr} {sl_law_reel : Array (Option Value)} {oc_law_reel kV_law_reel dc_law_reel pm_law_reel cd_law_reel ct_law_reel : Value}
    {f_law_pull : Addr} {od_law_pull an_law_pull : Option Addr} {sl_law_pull : Array (Option Value)} {oc_law_pull kV_law_pull dc_law_pull pm_law_pull cd_law_pull ct_law_pull : Value}
    {f_law_pattern : Addr} {od_law_pattern an_law_pattern : Option Addr} {sl_law_pattern : Array (Option Value)} {oc_law_pattern kV_law_pattern dc_law_pattern pm_law_pattern cd_law_pattern ct_law_pattern : Value}
    {f_law_times : Addr} {od_law_times an_law_times : Option Addr} {sl_law_times : Array (Option Value)} {oc_law_times kV_law_times dc_law_times pm_law_times cd_law_times ct_law_times : Value}
    {f_law_counts : Addr} {od_law_counts an_law_counts : Option Addr} {sl_law_counts : Array (Option Value)} {oc_law_counts kV_law_counts dc_law_counts pm_law_counts cd_law_counts ct_law_counts : Value}
    {f_law_piece : Addr} {od_law_piece an_law_piece : Option Addr} {sl_law_piece : Array (Option Value)} {oc_law_piece kV_law_piece dc_law_piece pm_law_piece cd_law_piece ct_law_piece : Value}
    {f_law_joined : Addr} {od_law_joined an_law_joined : Option Addr} {sl_law_joined : Array (Option Value)} {oc_law_joined kV_law_joined dc_law_joined pm_law_joined cd_law_joined ct_law_joined : Value}
    {f_law_often : Addr} {od_law_often an_law_often : Option Addr} {sl_law_often : Array (Option Value)} {oc_law_often kV_law_often dc_law_often pm_law_often cd_law_often ct_law_often : Value}
    {f_law_whole_piece : Addr} {od_law_whole_piece an_law_whole_piece : Option Addr} {sl_law_whole_piece : Array (Option Value)} {oc_law_whole_piece kV_law_whole_piece dc_law_whole_piece pm_law_whole_piece cd_law_whole_piece ct_law_whole_piece : Value}
    {f_law_far_runs : Addr} {od_law_far_runs an_law_far_runs : Option Addr} {sl_law_far_runs : Array (Option Value)} {oc_law_far_runs kV_law_far_runs dc_law_far_runs pm_law_far_runs cd_law_far_runs ct_law_far_runs : Value}
    {f_law_change : Addr} {od_law_change an_law_change : Option Addr} {sl_law_change : Array (Option Value)} {oc_law_change kV_law_change dc_law_change pm_law_change cd_law_change ct_law_change : Value}
    {f_law_hand_right : Addr} {od_law_hand_right an_law_hand_right : Option Addr} {sl_law_hand_right : Array (Option Value)} {oc_law_hand_right kV_law_hand_right dc_law_hand_right pm_law_hand_right cd_law_hand_right ct_law_hand_right : Value}
    {f_law : Addr} {od_law an_law : Option Addr} {sl_law : Array (Option Value)} {oc_law kV_law dc_law pm_law cd_law ct_law : Value}
    {C_Lookback : Addr}
    {f_Lookback_init : Addr} {od_Lookback_init an_Lookback_init : Option Addr} {sl_Lookback_init : Array (Option Value)} {oc_Lookback_init kV_Lookback_init dc_Lookback_init pm_Lookback_init cd_Lookback_init ct_Lookback_init : Value}
    {f_Lookback_go_through : Addr} {od_Lookback_go_through an_Lookback_go_through : Option Addr} {sl_Lookback_go_through : Array (Option Value)} {oc_Lookback_go_through kV_Lookback_go_through dc_Lookback_go_through pm_Lookback_go_through cd_Lookback_go_through ct_Lookback_go_through : Value}
    {f_Lookback_go_past : Addr} {od_Lookback_go_past an_Lookback_go_past : Option Addr} {sl_Lookback_go_past : Array (Option Value)} {oc_Lookback_go_past kV_Lookback_go_past dc_Lookback_go_past pm_Lookback_go_past cd_Lookback_go_past ct_Lookback_go_past : Value}
    {t_WISHED : Tok}
    {a_WITH_PASS : Addr}
    {oo_WITH_PASS : Obj}
    (a_blocks_of : PySem.W.nsIn K mainGlobals "blocks_of" = some (some (.ref f_blocks_of)))
    (l_blocks_of : K.lookup f_blocks_of = some ⟨oc_blocks_of, od_blocks_of, .func (PySem.W.fnOf "blocks_of" "blocks_of" (defArgs s_blocks_of) (defBody s_blocks_of) (defScope s_blocks_of) .none kV_blocks_of dc_blocks_of pm_blocks_of an_blocks_of cd_blocks_of ct_blocks_of), sl_blocks_of⟩)
    (c_blocks_of : PySem.W.codeIn K cd_blocks_of "blocks_of" = true)
    (k_blocks_of : PySem.W.keepIn K (.ref f_blocks_of) = true)
    (a_counts_of : PySem.W.nsIn K mainGlobals "counts_of" = some (some (.ref f_counts_of)))
    (l_counts_of : K.lookup f_counts_of = some ⟨oc_counts_of, od_counts_of, .func (PySem.W.fnOf "counts_of" "counts_of" (defArgs s_counts_of) (defBody s_counts_of) (defScope s_counts_of) .none kV_counts_of dc_counts_of pm_counts_of an_counts_of cd_counts_of ct_counts_of), sl_counts_of⟩)
    (c_counts_of : PySem.W.codeIn K cd_counts_of "counts_of" = true)
    (k_counts_of : PySem.W.keepIn K (.ref f_counts_of) = true)
    (a_best_beginning : PySem.W.nsIn K mainGlobals "best_beginning" = some (some (.ref f_best_beginning)))
    (l_best_beginning : K.lookup f_best_beginning = some ⟨oc_best_beginning, od_best_beginning, .func (PySem.W.fnOf "best_beginning" "best_beginning" (defArgs s_best_beginning) (defBody s_best_beginning) (defScope s_best_beginning) .none kV_best_beginning dc_best_beginning pm_best_beginning an_best_beginning cd_best_beginning ct_best_beginning), sl_best_beginning⟩)
    (c_best_beginning : PySem.W.codeIn K cd_best_beginning "best_beginning" = true)
    (k_best_beginning : PySem.W.keepIn K (.ref f_best_beginning) = true)
    (a_looked_back : PySem.W.nsIn K mainGlobals "looked_back" = some (some (.ref f_looked_back)))
    (l_looked_back : K.lookup f_looked_back = some ⟨oc_looked_back, od_looked_back, .func (PySem.W.fnOf "looked_back" "looked_back" (defArgs s_looked_back) (defBody s_looked_back) (defScope s_looked_back) .none kV_looked_back dc_looked_back pm_looked_back an_looked_back cd_looked_back ct_looked_back), sl_looked_back⟩)
    (c_looked_back : PySem.W.codeIn K cd_looked_back "looked_back" = true)
    (k_looked_back : PySem.W.keepIn K (.ref f_looked_back) = true)
    (a_reached : PySem.W.nsIn K mainGlobals "reached" = some (some (.ref f_reached)))
    (l_reached : K.lookup f_reached = some ⟨oc_reached, od_reached, .func (PySem.W.fnOf "reached" "reached" (defArgs s_reached) (defBody s_reached) (defScope s_reached) .none kV_reached dc_reached pm_reached an_reached cd_reached ct_reached), sl_reached⟩)
    (c_reached : PySem.W.codeIn K cd_reached "reached" = true)
    (k_reached : PySem.W.keepIn K (.ref f_reached) = true)
    (a_last_of : PySem.W.nsIn K mainGlobals "last_of" = some (some (.ref f_last_of)))
    (l_last_of : K.lookup f_last_of = some ⟨oc_last_of, od_last_of, .func (PySem.W.fnOf "last_of" "last_of" (defArgs s_last_of) (defBody s_last_of) (defScope s_last_of) .none kV_last_of dc_last_of pm_last_of an_last_of cd_last_of ct_last_of), sl_last_of⟩)
    (c_last_of : PySem.W.codeIn K cd_last_of "last_of" = true)
    (k_last_of : PySem.W.keepIn K (.ref f_last_of) = true)
    (a_looked_at : PySem.W.nsIn K mainGlobals "looked_at" = some (some (.ref f_looked_at)))
    (l_looked_at : K.lookup f_looked_at = some ⟨oc_looked_at, od_looked_at, .func (PySem.W.fnOf "looked_at" "looked_at" (defArgs s_looked_at) (defBody s_looked_at) (defScope s_looked_at) .none kV_looked_at dc_looked_at pm_looked_at an_looked_at cd_looked_at ct_looked_at), sl_looked_at⟩)
    (c_looked_at : PySem.W.codeIn K cd_looked_at "looked_at" = true)
    (k_looked_at : PySem.W.keepIn K (.ref f_looked_at) = true)
    (a_far_fewest : PySem.W.nsIn K mainGlobals "far_fewest" = some (some (.ref f_far_fewest)))
    (l_far_fewest : K.lookup f_far_fewest = some ⟨oc_far_fewest, od_far_fewest, .func (PySem.W.fnOf "far_fewest" "far_fewest" (defArgs s_far_fewest) (defBody s_far_fewest) (defScope s_far_fewest) .none kV_far_fewest dc_far_fewest pm_far_fewest an_far_fewest cd_far_fewest ct_far_fewest), sl_far_fewest⟩)
    (c_far_fewest : PySem.W.codeIn K cd_far_fewest "far_fewest" = true)
    (k_far_fewest : PySem.W.keepIn K (.ref f_far_fewest) = true)
    (a_far_tight : PySem.W.nsIn K mainGlobals "far_tight" = some (some (.ref f_far_tight)))
    (l_far_tight : K.lookup f_far_tight = some ⟨oc_far_tight, od_far_tight, .func (PySem.W.fnOf "far_tight" "far_tight" (defArgs s_far_tight) (defBody s_far_tight) (defScope s_far_tight) .none kV_far_tight dc_far_tight pm_far_tight an_far_tight cd_far_tight ct_far_tight), sl_far_tight⟩)
    (c_far_tight : PySem.W.codeIn K cd_far_tight "far_tight" = true)
    (k_far_tight : PySem.W.keepIn K (.ref f_far_tight) = true)
    (a_law_reel : PySem.W.nsIn K mainGlobals "_law_reel" = some (some (.ref f_law_reel)))
    (l_law_reel : K.lookup f_law_reel = some ⟨oc_law_reel, od_law_reel, .func (PySem.W.fnOf "_law_reel" "_law_reel" (defArgs s_law_reel) (defBody s_law_reel) (defScope s_law_reel) .none kV_law_reel dc_law_reel pm_law_reel an_law_reel cd_law_reel ct_law_reel), sl_law_reel⟩)
    (c_law_reel : PySem.W.codeIn K cd_law_reel "_law_reel" = true)
    (k_law_reel : PySem.W.keepIn K (.ref f_law_reel) = true)
    (a_law_pull : PySem.W.nsIn K mainGlobals "_law_pull" = some (some (.ref f_law_pull)))
    (l_law_pull : K.lookup f_law_pull = some ⟨oc_law_pull, od_law_pull, .func (PySem.W.fnOf "_law_pull" "_law_pull" (defArgs s_law_pull) (defBody s_law_pull) (defScope s_law_pull) .none kV_law_pull dc_law_pull pm_law_pull an_law_pull cd_law_pull ct_law_pull), sl_law_pull⟩)
    (c_law_pull : PySem.W.codeIn K cd_law_pull "_law_pull" = true)
    (k_law_pull : PySem.W.keepIn K (.ref f_law_pull) = true)
    (a_law_pattern : PySem.W.nsIn K mainGlobals "_law_pattern" = some (some (.ref f_law_pattern)))
    (l_law_pattern : K.lookup f_law_pattern = some ⟨oc_law_pattern, od_law_pattern, .func (PySem.W.fnOf "_law_pattern" "_law_pattern" (defArgs s_law_pattern) (defBody s_law_pattern) (defScope s_law_pattern) .none kV_law_pattern dc_law_pattern pm_law_pattern an_law_pattern cd_law_pattern ct_law_pattern), sl_law_pattern⟩)
    (c_law_pattern : PySem.W.codeIn K cd_law_pattern "_law_pattern" = true)
    (k_law_pattern : PySem.W.keepIn K (.ref f_law_pattern) = true)
    (a_law_times : PySem.W.nsIn K mainGlobals "_law_times" = some (some (.ref f_law_times)))
    (l_law_times : K.lookup f_law_times = some ⟨oc_law_times, od_law_times, .func (PySem.W.fnOf "_law_times" "_law_times" (defArgs s_law_times) (defBody s_law_times) (defScope s_law_times) .none kV_law_times dc_law_times pm_law_times an_law_times cd_law_times ct_law_times), sl_law_times⟩)
    (c_law_times : PySem.W.codeIn K cd_law_times "_law_times" = true)
    (k_law_times : PySem.W.keepIn K (.ref f_law_times) = true)
    (a_law_counts : PySem.W.nsIn K mainGlobals "_law_counts" = some (some (.ref f_law_counts)))
    (l_law_counts : K.lookup f_law_counts = some ⟨oc_law_counts, od_law_counts, .func (PySem.W.fnOf "_law_counts" "_law_counts" (defArgs s_law_counts) (defBody s_law_counts) (defScope s_law_counts) .none kV_law_counts dc_law_counts pm_law_counts an_law_counts cd_law_counts ct_law_counts), sl_law_counts⟩)
    (c_law_counts : PySem.W.codeIn K cd_law_counts "_law_counts" = true)
    (k_law_counts : PySem.W.keepIn K (.ref f_law_counts) = true)
    (a_law_piece : PySem.W.nsIn K mainGlobals "_law_piece" = some (some (.ref f_law_piece)))
    (l_law_piece : K.lookup f_law_piece = some ⟨oc_law_piece, od_law_piece, .func (PySem.W.fnOf "_law_piece" "_law_piece" (defArgs s_law_piece) (defBody s_law_piece) (defScope s_law_piece) .none kV_law_piece dc_law_piece pm_law_piece an_law_piece cd_law_piece ct_law_piece), sl_law_piece⟩)
    (c_law_piece : PySem.W.codeIn K cd_law_piece "_law_piece" = true)
    (k_law_piece : PySem.W.keepIn K (.ref f_law_piece) = true)
    (a_law_joined : PySem.W.nsIn K mainGlobals "_law_joined" = some (some (.ref f_law_joined)))
    (l_law_joined : K.lookup f_law_joined = some ⟨oc_law_joined, od_law_joined, .func (PySem.W.fnOf "_law_joined" "_law_joined" (defArgs s_law_joined) (defBody s_law_joined) (defScope s_law_joined) .none kV_law_joined dc_law_joined pm_law_joined an_law_joined cd_law_joined ct_law_joined), sl_law_joined⟩)
    (c_law_joined : PySem.W.codeIn K cd_law_joined "_law_joined" = true)
    (k_law_joined : PySem.W.keepIn K (.ref f_law_joined) = true)
    (a_law_often : PySem.W.nsIn K mainGlobals "_law_often" = some (some (.ref f_law_often)))
    (l_law_often : K.lookup f_law_often = some ⟨oc_law_often, od_law_often, .func (PySem.W.fnOf "_law_often" "_law_often" (defArgs s_law_often) (defBody s_law_often) (defScope s_law_often) .none kV_law_often dc_law_often pm_law_often an_law_often cd_law_often ct_law_often), sl_law_often⟩)
    (c_law_often : PySem.W.codeIn K cd_law_often "_law_often" = true)
    (k_law_often : PySem.W.keepIn K (.ref f_law_often) = true)
    (a_law_whole_piece : PySem.W.nsIn K mainGlobals "_law_whole_piece" = some (some (.ref f_law_whole_piece)))
    (l_law_whole_piece : K.lookup f_law_whole_piece = some ⟨oc_law_whole_piece, od_law_whole_piece, .func (PySem.W.fnOf "_law_whole_piece" "_law_whole_piece" (defArgs s_law_whole_piece) (defBody s_law_whole_piece) (defScope s_law_whole_piece) .none kV_law_whole_piece dc_law_whole_piece pm_law_whole_piece an_law_whole_piece cd_law_whole_piece ct_law_whole_piece), sl_law_whole_piece⟩)
    (c_law_whole_piece : PySem.W.codeIn K cd_law_whole_piece "_law_whole_piece" = true)
    (k_law_whole_piece : PySem.W.keepIn K (.ref f_law_whole_piece) = true)
    (a_law_far_runs : PySem.W.nsIn K mainGlobals "_law_far_runs" = some (some (.ref f_law_far_runs)))
    (l_law_far_runs : K.lookup f_law_far_runs = some ⟨oc_law_far_runs, od_law_far_runs, .func (PySem.W.fnOf "_law_far_runs" "_law_far_runs" (defArgs s_law_far_runs) (defBody s_law_far_runs) (defScope s_law_far_runs) .none kV_law_far_runs dc_law_far_runs pm_law_far_runs an_law_far_runs cd_law_far_runs ct_law_far_runs), sl_law_far_runs⟩)
    (c_law_far_runs : PySem.W.codeIn K cd_law_far_runs "_law_far_runs" = true)
    (k_law_far_runs : PySem.W.keepIn K (.ref f_law_far_runs) = true)
    (a_law_change : PySem.W.nsIn K mainGlobals "_law_change" = some (some (.ref f_law_change)))
    (l_law_change : K.lookup f_law_change = some ⟨oc_law_change, od_law_change, .func (PySem.W.fnOf "_law_change" "_law_change" (defArgs s_law_change) (defBody s_law_change) (defScope s_law_change) .none kV_law_change dc_law_change pm_law_change an_law_change cd_law_change ct_law_change), sl_law_change⟩)
    (c_law_change : PySem.W.codeIn K cd_law_change "_law_change" = true)
    (k_law_change : PySem.W.keepIn K (.ref f_law_change) = true)
    (a_law_hand_right : PySem.W.nsIn K mainGlobals "_law_hand_right" = some (some (.ref f_law_hand_right)))
    (l_law_hand_right : K.lookup f_law_hand_right = some ⟨oc_law_hand_right, od_law_hand_right, .func (PySem.W.fnOf "_law_hand_right" "_law_hand_right" (defArgs s_law_hand_right) (defBody s_law_hand_right) (defScope s_law_hand_right) .none kV_law_hand_right dc_law_hand_right pm_law_hand_right an_law_hand_right cd_law_hand_right ct_law_hand_right), sl_law_hand_right⟩)
    (c_law_hand_right : PySem.W.codeIn K cd_law_hand_right "_law_hand_right" = true)
    (k_law_hand_right : PySem.W.keepIn K (.ref f_law_hand_right) = true)
    (a_law : PySem.W.nsIn K mainGlobals "law" = some (some (.ref f_law)))
    (l_law : K.lookup f_law = some ⟨oc_law, od_law, .func (PySem.W.fnOf "law" "law" (defArgs s_law) (defBody s_law) (defScope s_law) .none kV_law dc_law pm_law an_law cd_law ct_law), sl_law⟩)
    (c_law : PySem.W.codeIn K cd_law "law" = true)
    (k_law : PySem.W.keepIn K (.ref f_law) = true)
    (a_Lookback : PySem.W.nsIn K mainGlobals "Lookback" = some (some (.ref C_Lookback)))
    (pg_Lookback : PySem.W.plainGet K C_Lookback Str.empty = true)
    (hd_Lookback : PySem.W.hasDictIn K C_Lookback = true)
    (po_Lookback : PySem.W.plainOver K C_Lookback = true)
    (sa_Lookback : PySem.W.findIn K (.ref C_Lookback) "__setattr__" = some (some (.builtin "object.__setattr__")))
    (mk_Lookback : PySem.W.makesIn K C_Lookback = true)
    (kc_Lookback : PySem.W.keepIn K (.ref C_Lookback) = true)
    (a_Lookback_init : PySem.W.findIn K (.ref C_Lookback) "__init__" = some (some (.ref f_Lookback_init)))
    (l_Lookback_init : K.lookup f_Lookback_init = some ⟨oc_Lookback_init, od_Lookback_init, .func (PySem.W.fnOf "__init__" "Lookback.__init__" (defArgs s_Lookback_init) (defBody s_Lookback_init) (defScope s_Lookback_init) .none kV_Lookback_init dc_Lookback_init pm_Lookback_init an_Lookback_init cd_Lookback_init ct_Lookback_init), sl_Lookback_init⟩)
    (c_Lookback_init : PySem.W.codeIn K cd_Lookback_init "Lookback.__init__" = true)
    (k_Lookback_init : PySem.W.keepIn K (.ref f_Lookback_init) = true)
    (i_Lookback_init : PySem.W.isFn K (.ref f_Lookback_init) = true)
    (a_Lookback_go_through : PySem.W.findIn K (.ref C_Lookback) "go_through" = some (some (.ref f_Lookback_go_through)))
    (l_Lookback_go_through : K.lookup f_Lookback_go_through = some ⟨oc_Lookback_go_through, od_Lookback_go_through, .func (PySem.W.fnOf "go_through" "Lookback.go_through" (defArgs s_Lookback_go_through) (defBody s_Lookback_go_through) (defScope s_Lookback_go_through) .none kV_Lookback_go_through dc_Lookback_go_through pm_Lookback_go_through an_Lookback_go_through cd_Lookback_go_through ct_Lookback_go_through), sl_Lookback_go_through⟩)
    (c_Lookback_go_through : PySem.W.codeIn K cd_Lookback_go_through "Lookback.go_through" = true)
    (k_Lookback_go_through : PySem.W.keepIn K (.ref f_Lookback_go_through) = true)
    (i_Lookback_go_through : PySem.W.isFn K (.ref f_Lookback_go_through) = true)
    (a_Lookback_go_past : PySem.W.findIn K (.ref C_Lookback) "go_past" = some (some (.ref f_Lookback_go_past)))
    (l_Lookback_go_past : K.lookup f_Lookback_go_past = some ⟨oc_Lookback_go_past, od_Lookback_go_past, .func (PySem.W.fnOf "go_past" "Lookback.go_past" (defArgs s_Lookback_go_past) (defBody s_Lookback_go_past) (defScope s_Lookback_go_past) .none kV_Lookback_go_past dc_Lookback_go_past pm_Lookback_go_past an_Lookback_go_past cd_Lookback_go_past ct_Lookback_go_past), sl_Lookback_go_past⟩)
    (c_Lookback_go_past : PySem.W.codeIn K cd_Lookback_go_past "Lookback.go_past" = true)
    (k_Lookback_go_past : PySem.W.keepIn K (.ref f_Lookback_go_past) = true)
    (i_Lookback_go_past : PySem.W.isFn K (.ref f_Lookback_go_past) = true)
    (n_Lookback_worth_far : PySem.W.findIn K (.ref C_Lookback) "worth_far" = some none)
    (n_Lookback_first_far : PySem.W.findIn K (.ref C_Lookback) "first_far" = some none)
    (n_Lookback_later_far : PySem.W.findIn K (.ref C_Lookback) "later_far" = some none)
    (a_WISHED : PySem.W.nsIn K mainGlobals "WISHED" = some (some (.str "w" t_WISHED)))
    (ns_WITH_PASS : PySem.W.nsIn K mainGlobals "WITH_PASS" = some (some (.ref a_WITH_PASS)))
    (tp_WITH_PASS : K.lookup a_WITH_PASS = some oo_WITH_PASS)
    (tq_WITH_PASS : TupIs oo_WITH_PASS [.str "w", .str "o"])
    (z_abs : PySem.W.nsIn K mainGlobals "abs" = some none)
    (z_divmod : PySem.W.nsIn K mainGlobals "divmod" = some none)
    (z_enumerate : PySem.W.nsIn K mainGlobals "enumerate" = some none)
    (z_int : PySem.W.nsIn K mainGlobals "int" = some none)
    (z_len : PySem.W.nsIn K mainGlobals "len" = some none)
    (z_list : PySem.W.nsIn K mainGlobals "list" = some none)
    (z_max : PySem.W.nsIn K mainGlobals "max" = some none)
    (z_min : PySem.W.nsIn K mainGlobals "min" = some none)
    (z_range : PySem.W.nsIn K mainGlobals "range" = some none)
    (z_repr : PySem.W.nsIn K mainGlobals "repr" = some none)
    (z_sum : PySem.W.nsIn K mainGlobals "sum" = some none)
    : ∃ T : Txt K mg, T.f_law = fa ∧ ∀ (s : Shared) (v : Value), BindsTo s T.fd_law ⟨[v], []⟩ [("script", v)] := by
  have e := hfa.symm.trans (PySem.W.mg_of X G a_law)
  cases e
  have F_blocks_of := fun_mk (st := s_blocks_of) l_blocks_of c_blocks_of k_blocks_of
  have b_blocks_of := F_blocks_of.binds (ps := ["runs"]) fun _ _ _ _ _ _ us hl => match us, hl with | [_], _ => rfl
  have F_counts_of := fun_mk (st := s_counts_of) l_counts_of c_counts_of k_counts_of
  have b_counts_of := F_counts_of.binds (ps := ["signs", "begin", "parity"]) fun _ _ _ _ _ _ us hl => match us, hl with | [_, _, _], _ => rfl
  have F_best_beginning := fun_mk (st := s_best_beginning) l_best_beginning c_best_beginning k_best_beginning
  have b_best_beginning := F_best_beginning.binds (ps := ["counts"]) fun _ _ _ _ _ _ us hl => match us, hl with | [_], _ => rfl
  have F_looked_back := fun_mk (st := s_looked_back) l_looked_back c_looked_back k_looked_back
  have b_looked_back := F_looked_back.binds (ps := ["blocks", "parity"]) fun _ _ _ _ _ _ us hl => match us, hl with | [_, _], _ => rfl
  have F_reached := fun_mk (st := s_reached) l_reached c_reached k_reached
  have b_reached := F_reached.binds (ps := ["counts", "often", "want"]) fun _ _ _ _ _ _ us hl => match us, hl with | [_, _, _], _ => rfl
  have F_last_of := fun_mk (st := s_last_of) l_last_of c_last_of k_last_of
  have b_last_of := F_last_of.binds (ps := ["blocks", "parity", "first", "worth"]) fun _ _ _ _ _ _ us hl => match us, hl with | [_, _, _, _], _ => rfl
  have F_looked_at := fun_mk (st := s_looked_at) l_looked_at c_looked_at k_looked_at
  have b_looked_at := F_looked_at.binds (ps := ["runs"]) fun _ _ _ _ _ _ us hl => match us, hl with | [_], _ => rfl
  have F_far_fewest := fun_mk (st := s_far_fewest) l_far_fewest c_far_fewest k_far_fewest
  have b_far_fewest := F_far_fewest.binds (ps := ["runs"]) fun _ _ _ _ _ _ us hl => match us, hl with | [_], _ => rfl
  have F_far_tight := fun_mk (st := s_far_tight) l_far_tight c_far_tight k_far_tight
  have b_far_tight := F_far_tight.binds (ps := ["runs"]) fun _ _ _ _ _ _ us hl => match us, hl with | [_], _ => rfl
  have F_law_reel := fun_mk (st := s_law_reel) l_law_reel c_law_reel k_law_reel
  have b_law_reel := F_law_reel.binds (ps := ["script", "k"]) fun _ _ _ _ _ _ us hl => match us, hl with | [_, _], _ => rfl
  have F_law_pull := fun_mk (st := s_law_pull) l_law_pull c_law_pull k_law_pull
  have b_law_pull := F_law_pull.binds (ps := ["reel", "count"]) fun _ _ _ _ _ _ us hl => match us, hl with | [_, _], _ => rfl
  have F_law_pattern := fun_mk (st := s_law_pattern) l_law_pattern c_law_pattern k_law_pattern
  have b_law_pattern := F_law_pattern.binds (ps := ["reel", "most"]) fun _ _ _ _ _ _ us hl => match us, hl with | [_, _], _ => rfl
  have F_law_times := fun_mk (st := s_law_times) l_law_times c_law_times k_law_times
  have b_law_times := F_law_times.binds (ps := ["reel", "most"]) fun _ _ _ _ _ _ us hl => match us, hl with | [_, _], _ => rfl
  have F_law_counts := fun_mk (st := s_law_counts) l_law_counts c_law_counts k_law_counts
  have b_law_counts := F_law_counts.binds (ps := ["signs", "begin", "parity"]) fun _ _ _ _ _ _ us hl => match us, hl with | [_, _, _], _ => rfl
  have F_law_piece := fun_mk (st := s_law_piece) l_law_piece c_law_piece k_law_piece
  have b_law_piece := F_law_piece.binds (ps := ["counts"]) fun _ _ _ _ _ _ us hl => match us, hl with | [_], _ => rfl
  have F_law_joined := fun_mk (st := s_law_joined) l_law_joined c_law_joined k_law_joined
  have b_law_joined := F_law_joined.binds (ps := ["one", "other"]) fun _ _ _ _ _ _ us hl => match us, hl with | [_, _], _ => rfl
  have F_law_often := fun_mk (st := s_law_often) l_law_often c_law_often k_law_often
  have b_law_often := F_law_often.binds (ps := ["piece", "times"]) fun _ _ _ _ _ _ us hl => match us, hl with | [_, _], _ => rfl
  have F_law_whole_piece := fun_mk (st := s_law_whole_piece) l_law_whole_piece c_law_whole_piece k_law_whole_piece
  have b_law_whole_piece := F_law_whole_piece.binds (ps := ["runs", "begin", "parity"]) fun _ _ _ _ _ _ us hl => match us, hl with | [_, _, _], _ => rfl
  have F_law_far_runs := fun_mk (st := s_law_far_runs) l_law_far_runs c_law_far_runs k_law_far_runs
  have b_law_far_runs := F_law_far_runs.binds (ps := ["reel"]) fun _ _ _ _ _ _ us hl => match us, hl with | [_], _ => rfl
  have F_law_change := fun_mk (st := s_law_change) l_law_change c_law_change k_law_change
  have b_law_change := F_law_change.binds (ps := ["reel", "runs"]) fun _ _ _ _ _ _ us hl => match us, hl with | [_, _], _ => rfl
  have F_law_hand_right := fun_mk (st := s_law_hand_right) l_law_hand_right c_law_hand_right k_law_hand_right
  have b_law_hand_right := F_law_hand_right.binds (ps := []) fun _ _ _ _ _ _ us hl => match us, hl with | [], _ => rfl
  have F_law := fun_mk (st := s_law) l_law c_law k_law
  have b_law := F_law.binds (ps := ["script"]) fun _ _ _ _ _ _ us hl => match us, hl with | [_], _ => rfl
  have F_Lookback_init := fun_mk (st := s_Lookback_init) l_Lookback_init c_Lookback_init k_Lookback_init
  have b_Lookback_init := F_Lookback_init.binds (ps := ["self"]) fun _ _ _ _ _ _ us hl => match us, hl with | [_], _ => rfl
  have F_Lookback_go_through := fun_mk (st := s_Lookback_go_through) l_Lookback_go_through c_Lookback_go_through k_Lookback_go_through
  have b_Lookback_go_through := F_Lookback_go_through.binds (ps := ["self", "counts", "begin"]) fun _ _ _ _ _ _ us hl => match us, hl with | [_, _, _], _ => rfl
  have F_Lookback_go_past := fun_mk (st := s_Lookback_go_past) l_Lookback_go_past c_Lookback_go_past k_Lookback_go_past
  have b_Lookback_go_past := F_Lookback_go_past.binds (ps := ["self", "counts", "often"]) fun _ _ _ _ _ _ us hl => match us, hl with | [_, _, _], _ => rfl
  let T : Txt K mg := {
    f_blocks_of := f_blocks_of
    fd_blocks_of := _
    F_blocks_of := F_blocks_of
    b_blocks_of := b_blocks_of
    g_blocks_of := PySem.W.mg_of X G a_blocks_of
    f_counts_of := f_counts_of
    fd_counts_of := _
    F_counts_of := F_counts_of
    b_counts_of := b_counts_of
    g_counts_of := PySem.W.mg_of X G a_counts_of
    f_best_beginning := f_best_beginning
    fd_best_beginning := _
    F_best_beginning := F_best_beginning
    b_best_beginning := b_best_beginning
    g_best_beginning := PySem.W.mg_of X G a_best_beginning
    f_looked_back := f_looked_back
    fd_looked_back := _
    F_looked_back := F_looked_back
    b_looked_back := b_looked_back
    g_looked_back := PySem.W.mg_of X G a_looked_back
    f_reached := f_reached
    fd_reached := _
    F_reached := F_reached
    b_reached := b_reached
    g_reached := PySem.W.mg_of X G a_reached
    f_last_of := f_last_of
    fd_last_of := _
    F_last_of := F_last_of
    b_last_of := b_last_of
    g_last_of := PySem.W.mg_of X G a_last_of
    f_looked_at := f_looked_at
    fd_looked_at := _
    F_looked_at := F_looked_at
    b_looked_at := b_looked_at
    g_looked_at := PySem.W.mg_of X G a_looked_at
    f_far_fewest := f_far_fewest
    fd_far_fewest := _
    F_far_fewest := F_far_fewest
    b_far_fewest := b_far_fewest
    g_far_fewest := PySem.W.mg_of X G a_far_fewest
    f_far_tight := f_far_tight
    fd_far_tight := _
    F_far_tight := F_far_tight
    b_far_tight := b_far_tight
    g_far_tight := PySem.W.mg_of X G a_far_tight
    f_law_reel := f_law_reel
    fd_law_reel := _
    F_law_reel := F_law_reel
    b_law_reel := b_law_reel
    g_law_reel := PySem.W.mg_of X G a_law_reel
    f_law_pull := f_law_pull
    fd_law_pull := _
    F_law_pull := F_law_pull
    b_law_pull := b_law_pull
    g_law_pull := PySem.W.mg_of X G a_law_pull
    f_law_pattern := f_law_pattern
    fd_law_pattern := _
    F_law_pattern := F_law_pattern
    b_law_pattern := b_law_pattern
    g_law_pattern := PySem.W.mg_of X G a_law_pattern
    f_law_times := f_law_times
    fd_law_times := _
    F_law_times := F_law_times
    b_law_times := b_law_times
    g_law_times := PySem.W.mg_of X G a_law_times
    f_law_counts := f_law_counts
    fd_law_counts := _
    F_law_counts := F_law_counts
    b_law_counts := b_law_counts
    g_law_counts := PySem.W.mg_of X G a_law_counts
    f_law_piece := f_law_piece
    fd_law_piece := _
    F_law_piece := F_law_piece
    b_law_piece := b_law_piece
    g_law_piece := PySem.W.mg_of X G a_law_piece
    f_law_joined := f_law_joined
    fd_law_joined := _
    F_law_joined := F_law_joined
    b_law_joined := b_law_joined
    g_law_joined := PySem.W.mg_of X G a_law_joined
    f_law_often := f_law_often
    fd_law_often := _
    F_law_often := F_law_often
    b_law_often := b_law_often
    g_law_often := PySem.W.mg_of X G a_law_often
    f_law_whole_piece := f_law_whole_piece
    fd_law_whole_piece := _
    F_law_whole_piece := F_law_whole_piece
    b_law_whole_piece := b_law_whole_piece
    g_law_whole_piece := PySem.W.mg_of X G a_law_whole_piece
    f_law_far_runs := f_law_far_runs
    fd_law_far_runs := _
    F_law_far_runs := F_law_far_runs
    b_law_far_runs := b_law_far_runs
    g_law_far_runs := PySem.W.mg_of X G a_law_far_runs
    f_law_change := f_law_change
    fd_law_change := _
    F_law_change := F_law_change
    b_law_change := b_law_change
    g_law_change := PySem.W.mg_of X G a_law_change
    f_law_hand_right := f_law_hand_right
    fd_law_hand_right := _
    F_law_hand_right := F_law_hand_right
    b_law_hand_right := b_law_hand_right
    g_law_hand_right := PySem.W.mg_of X G a_law_hand_right
    f_law := fa
    fd_law := _
    F_law := F_law
    b_law := b_law
    g_law := PySem.W.mg_of X G a_law
    C_Lookback := C_Lookback
    g_Lookback := PySem.W.mg_of X G a_Lookback
    cl_Lookback := ⟨pg_Lookback, hd_Lookback, po_Lookback, sa_Lookback⟩
    f_Lookback_init := f_Lookback_init
    fd_Lookback_init := _
    F_Lookback_init := F_Lookback_init
    b_Lookback_init := b_Lookback_init
    mk_Lookback := ⟨mk_Lookback, a_Lookback_init, i_Lookback_init, kc_Lookback⟩
    f_Lookback_go_through := f_Lookback_go_through
    fd_Lookback_go_through := _
    F_Lookback_go_through := F_Lookback_go_through
    b_Lookback_go_through := b_Lookback_go_through
    m_Lookback_go_through := ⟨a_Lookback_go_through, i_Lookback_go_through, k_Lookback_go_through⟩
    f_Lookback_go_past := f_Lookback_go_past
    fd_Lookback_go_past := _
    F_Lookback_go_past := F_Lookback_go_past
    b_Lookback_go_past := b_Lookback_go_past
    m_Lookback_go_past := ⟨a_Lookback_go_past, i_Lookback_go_past, k_Lookback_go_past⟩
    n_Lookback_worth_far := n_Lookback_worth_far
    n_Lookback_first_far := n_Lookback_first_far
    n_Lookback_later_far := n_Lookback_later_far
    g_WISHED := ⟨_, PySem.W.mg_of X G a_WISHED⟩
    a_WITH_PASS := a_WITH_PASS
    g_WITH_PASS := PySem.W.mg_of X G ns_WITH_PASS
    t_WITH_PASS := fun H => sqt_of tp_WITH_PASS tq_WITH_PASS
    z_abs := PySem.W.mg_none_of X G z_abs
    z_divmod := PySem.W.mg_none_of X G z_divmod
    z_enumerate := PySem.W.mg_none_of X G z_enumerate
    z_int := PySem.W.mg_none_of X G z_int
    z_len := PySem.W.mg_none_of X G z_len
    z_list := PySem.W.mg_none_of X G z_list
    z_max := PySem.W.mg_none_of X G z_max
    z_min := PySem.W.mg_none_of X G z_min
    z_range := PySem.W.mg_none_of X G z_range
    z_repr := PySem.W.mg_none_of X G z_repr
    z_sum := PySem.W.mg_none_of X G z_sum
  }
  exact ⟨T, rfl, fun s v => .of_eq rfl⟩
theorem all_mk {l : PySem.W.OpenLaw} {w : World} {K : PySem.W.Frag} {mg : Str → Option Value} {fa : Addr} (hT : ∃ T : Txt K mg, T.f_law = fa ∧ ∀ (s : Shared) (v : Value), BindsTo s T.fd_law ⟨[v], []⟩ [("script", v)]) :
    ∃ fd : FuncData, (∀ (s : Shared) (v : Value), BindsTo s fd ⟨[v], []⟩ [("script", v)]) ∧ ∀ base : Heap, K.In base → base.Ns mainGlobals mg → FnG l.prog w K mg base CX0 7 fa fd ["script"] (spLaw K) := by
  obtain ⟨T, rfl, hb⟩ := hT
  exact ⟨T.fd_law, hb, fun base _ _ => ok_lawS T⟩
end
end TX

open PySem PySem.W PyProof.Rows

set_option maxRecDepth 100000 in
set_option maxHeartbeats 0 in
theorem PySem.Challenge.cw_pleatpunch_k87_runs_grown_in_place_holds : PySem.Challenge.rw_pleatpunch_k87_runs_grown_in_place.Holds := by
  w_on; o_law; k_head; (case hw => w_witness2)
  k_fill
  refine PL.walk_ofG (l := PySem.Challenge.rw_pleatpunch_k87_runs_grown_in_place) (n := 63) (k := 7) (x := "script") (CX := fun _ => L2.CX0) (sp := fun w => TX.spLaw _) rfl (by decide) rfl ⟨rfl, by decide, by decide⟩ (fun w h Y => PySem.W.kIn_of Y) ?F (fun _ _ a ns hl _ hS => ⟨a, ns, rfl, hS, hl, fun _ => rfl⟩) (fun _ _ _ _ _ h => h)
  case F =>
    intro w mg fa h KX G hmg
    refine TX.all_mk ?_
    refine' TX.txt_mk KX G hmg ?a_blocks_of ?l_blocks_of ?c_blocks_of ?k_blocks_of ?a_counts_of ?l_counts_of ?c_counts_of ?k_counts_of ?a_best_beginning ?l_best_beginning ?c_best_beginning ?k_best_beginning ?a_looked_back ?l_looked_back ?c_looked_back ?k_looked_back ?a_reached ?l_reached ?c_reached ?k_reached ?a_last_of ?l_last_of ?c_last_of ?k_last_of ?a_looked_at ?l_looked_at ?c_looked_at ?k_looked_at ?a_far_fewest ?l_far_fewest ?c_far_fewest ?k_far_fewest ?a_far_tight ?l_far_tight ?c_far_tight ?k_far_tight ?a_law_reel ?l_law_reel ?c_law_reel ?k_law_reel ?a_law_pull ?l_law_pull ?c_law_pull ?k_law_pull ?a_law_pattern ?l_law_pattern ?c_law_pattern ?k_law_pattern ?a_law_times ?l_law_times ?c_law_times ?k_law_times ?a_law_counts ?l_law_counts ?c_law_counts ?k_law_counts ?a_law_piece ?l_law_piece ?c_law_piece ?k_law_piece ?a_law_joined ?l_law_joined ?c_law_joined ?k_law_joined ?a_law_often ?l_law_often ?c_law_often ?k_law_often ?a_law_whole_piece ?l_law_whole_piece ?c_law_whole_piece ?k_law_whole_piece ?a_law_far_runs ?l_law_far_runs ?c_law_far_runs ?k_law_far_runs ?a_law_change ?l_law_change ?c_law_change ?k_law_change ?a_law_hand_right ?l_law_hand_right ?c_law_hand_right ?k_law_hand_right ?a_law ?l_law ?c_law ?k_law ?a_Lookback ?pg_Lookback ?hd_Lookback ?po_Lookback ?sa_Lookback ?mk_Lookback ?kc_Lookback ?a_Lookback_init ?l_Lookback_init ?c_Lookback_init ?k_Lookback_init ?i_Lookback_init ?a_Lookback_go_through ?l_Lookback_go_through ?c_Lookback_go_through ?k_Lookback_go_through ?i_Lookback_go_through ?a_Lookback_go_past ?l_Lookback_go_past ?c_Lookback_go_past ?k_Lookback_go_past ?i_Lookback_go_past ?n_Lookback_worth_far ?n_Lookback_first_far ?n_Lookback_later_far ?a_WISHED ?ns_WITH_PASS ?tp_WITH_PASS ?tq_WITH_PASS ?z_abs ?z_divmod ?z_enumerate ?z_int ?z_len ?z_list ?z_max ?z_min ?z_range ?z_repr ?z_sum
    (case a_blocks_of => k_is)
    (case l_blocks_of => k_is)
    (case c_blocks_of => k_is)
    (case k_blocks_of => k_is)
    (case a_counts_of => k_is)
    (case l_counts_of => k_is)
    (case c_counts_of => k_is)
    (case k_counts_of => k_is)
    (case a_best_beginning => k_is)
    (case l_best_beginning => k_is)
    (case c_best_beginning => k_is)
    (case k_best_beginning => k_is)
    (case a_looked_back => k_is)
    (case l_looked_back => k_is)
    (case c_looked_back => k_is)
    (case k_looked_back => k_is)
    (case a_reached => k_is)
    (case l_reached => k_is)
    (case c_reached => k_is)
    (case k_reached => k_is)
    (case a_last_of => k_is)
    (case l_last_of => k_is)
    (case c_last_of => k_is)
    (case k_last_of => k_is)
    (case a_looked_at => k_is)
    (case l_looked_at => k_is)
    (case c_looked_at => k_is)
    (case k_looked_at => k_is)
    (case a_far_fewest => k_is)
    (case l_far_fewest => k_is)
    (case c_far_fewest => k_is)
    (case k_far_fewest => k_is)
    (case a_far_tight => k_is)
    (case l_far_tight => k_is)
    (case c_far_tight => k_is)
    (case k_far_tight => k_is)
    (case a_law_reel => k_is)
    (case l_law_reel => k_is)
    (case c_law_reel => k_is)
    (case k_law_reel => k_is)
    (case a_law_pull => k_is)
    (case l_law_pull => k_is)
    (case c_law_pull => k_is)
    (case k_law_pull => k_is)
    (case a_law_pattern => k_is)
    (case l_law_pattern => k_is)
    (case c_law_pattern => k_is)
    (case k_law_pattern => k_is)
    (case a_law_times => k_is)
    (case l_law_times => k_is)
    (case c_law_times => k_is)
    (case k_law_times => k_is)
    (case a_law_counts => k_is)
    (case l_law_counts => k_is)
    (case c_law_counts => k_is)
    (case k_law_counts => k_is)
    (case a_law_piece => k_is)
    (case l_law_piece => k_is)
    (case c_law_piece => k_is)
    (case k_law_piece => k_is)
    (case a_law_joined => k_is)
    (case l_law_joined => k_is)
    (case c_law_joined => k_is)
    (case k_law_joined => k_is)
    (case a_law_often => k_is)
    (case l_law_often => k_is)
    (case c_law_often => k_is)
    (case k_law_often => k_is)
    (case a_law_whole_piece => k_is)
    (case l_law_whole_piece => k_is)
    (case c_law_whole_piece => k_is)
    (case k_law_whole_piece => k_is)
    (case a_law_far_runs => k_is)
    (case l_law_far_runs => k_is)
    (case c_law_far_runs => k_is)
    (case k_law_far_runs => k_is)
    (case a_law_change => k_is)
    (case l_law_change => k_is)
    (case c_law_change => k_is)
    (case k_law_change => k_is)
    (case a_law_hand_right => k_is)
    (case l_law_hand_right => k_is)
    (case c_law_hand_right => k_is)
    (case k_law_hand_right => k_is)
    (case a_law => k_is)
    (case l_law => k_is)
    (case c_law => k_is)
    (case k_law => k_is)
    (case a_Lookback => k_is)
    (case pg_Lookback => k_is)
    (case hd_Lookback => k_is)
    (case po_Lookback => k_is)
    (case sa_Lookback => k_is)
    (case mk_Lookback => k_is)
    (case kc_Lookback => k_is)
    (case a_Lookback_init => k_is)
    (case l_Lookback_init => k_is)
    (case c_Lookback_init => k_is)
    (case k_Lookback_init => k_is)
    (case i_Lookback_init => k_is)
    (case a_Lookback_go_through => k_is)
    (case l_Lookback_go_through => k_is)
    (case c_Lookback_go_through => k_is)
    (case k_Lookback_go_through => k_is)
    (case i_Lookback_go_through => k_is)
    (case a_Lookback_go_past => k_is)
    (case l_Lookback_go_past => k_is)
    (case c_Lookback_go_past => k_is)
    (case k_Lookback_go_past => k_is)
    (case i_Lookback_go_past => k_is)
    (case n_Lookback_worth_far => k_is)
    (case n_Lookback_first_far => k_is)
    (case n_Lookback_later_far => k_is)
    (case a_WISHED => k_is)
    (case ns_WITH_PASS => k_is)
    (case tp_WITH_PASS => k_is)
    (case tq_WITH_PASS => exact PL.tup_is rfl)
    (case z_abs => k_is)
    (case z_divmod => k_is)
    (case z_enumerate => k_is)
    (case z_int => k_is)
    (case z_len => k_is)
    (case z_list => k_is)
    (case z_max => k_is)
    (case z_min => k_is)
    (case z_range => k_is)
    (case z_repr => k_is)
    (case z_sum => k_is)
