import PyProof.Rows.All
import Wide.All
import OpenK.AllK
import Wide.FinOn
import HandS.ForMost
import HandS.Walk
import HandS.Style
import HandS.Wide
import PyProof.MaxThree
import KE.GoesEnumKw
import PyProof.Rows.CallKwBuiltin
import HandS.NoneIn
import HandS.IsInst
import HandS.SortInts
import HandS.Conv
import KE.DataMinMax
import HandS.SortKw
import PyProof.ReprRoads
import PyProof.ReprBulk
import HandS.Codes
import HandS.Zip
import HandS.More
import HandS.Strs
import PyProof.Rows.SetFrom
import KE.KDictZip
import HandS.SetFor
import HandS.Exc
import HandS.ExcOwn
import HandS.ExcValue
import HandS.WordsExc
import KE.KTryMore
import HandS.ExcIs
import HandS.TupMul
import KE.GoesMore
import HandS.WideBits
import PySem.Challenge.RW_pleatpunch_k98_whole_seen_at_a_paper

set_option Elab.async false
set_option linter.all false
set_option maxRecDepth 100000
set_option exponentiation.threshold 9000
set_option maxHeartbeats 4000000

/-! PL1: readings over plain data: values are data trees (D), a few cells are mutable (Cells), the rest of the heap only grows. -/
namespace PL
open PySem PySem.Spec L2

/-! ### heaps that grow -/
def Ex (H H' : Hp) : Prop := ∀ a o, H a = some o → H' a = some o
theorem Ex.refl (H : Hp) : Ex H H := fun _ _ h => h
theorem Ex.trans {H H1 H2 : Hp} (a : Ex H H1) (b : Ex H1 H2) : Ex H H2 := fun x o h => b x o (a x o h)
theorem Ex.new {H : Hp} {p : Addr} {o : HO} (h : H p = none) : Ex H (upd H p o) := fun a u e => by
  rw [upd_ne (ne_of_none e h)]
  exact e
theorem Ex.free {H H' : Hp} {p : Addr} (e : Ex H H') (h : H' p = none) : H p = none := by
  cases h1 : H p with
  | none => rfl
  | some o =>
    rw [e p o h1] at h
    cases h
/-- an object that H does not know may change -/
theorem Ex.mut {H H' : Hp} {p : Addr} {o : HO} (e : Ex H H') (h : H p = none) : Ex H (upd H' p o) := fun a u ha => by
  rw [upd_ne (ne_of_none ha h)]
  exact e a u ha
theorem Ex.both {H H' : Hp} {p : Addr} {o : HO} (e : Ex H H') : Ex (upd H p o) (upd H' p o) := fun a u ha => by
  by_cases h : a = p
  · subst h
    rw [upd_same] at ha ⊢
    exact ha
  · rw [upd_ne h] at ha ⊢
    exact e a u ha
theorem Ex.rd {H H' : Hp} {a : Addr} {u : HO} (e : Ex H H') (h : Rd H a u) : Rd H' a u := by
  rcases h with h | ⟨o, h⟩
  · exact .inl (e a _ h)
  · exact .inr ⟨o, e a _ h⟩
theorem Ex.sql {K : PySem.W.Frag} {H H' : Hp} {a : Addr} {xs : List V} (e : Ex H H') (h : SqL K H a xs) : SqL K H' a xs := h.elim (fun h => .inl (e.rd h)) .inr
theorem Ex.sqt {K : PySem.W.Frag} {H H' : Hp} {a : Addr} {xs : List V} (e : Ex H H') (h : SqT K H a xs) : SqT K H' a xs := h.elim (fun h => .inl (e.rd h)) .inr

/-! ### data -/
mutual
inductive Rp (H : Hp) : V → PyData → Prop
  | non : Rp H .non .none
  | bl (b : Bool) : Rp H (.bl b) (.bool b)
  | int (i : Int) : Rp H (.int i) (.int i)
  | str (x : Str) : Rp H (.str x) (.str x)
  | lst {a : Addr} {xs : List V} {ds : List PyData} : H a = some (.lst xs) → RpAll H xs ds → Rp H (.ref a) (.list ds)
  | tup {a : Addr} {xs : List V} {ds : List PyData} : H a = some (.tup xs) → RpAll H xs ds → Rp H (.ref a) (.tuple ds)
inductive RpAll (H : Hp) : List V → List PyData → Prop
  | nil : RpAll H [] []
  | cons {v : V} {vs : List V} {d : PyData} {ds : List PyData} : Rp H v d → RpAll H vs ds → RpAll H (v :: vs) (d :: ds)
end
mutual
theorem Rp.mono {H H' : Hp} (e : Ex H H') : ∀ {v : V} {d : PyData}, Rp H v d → Rp H' v d
  | _, _, .non => .non
  | _, _, .bl b => .bl b
  | _, _, .int i => .int i
  | _, _, .str x => .str x
  | _, _, .lst h r => .lst (e _ _ h) (RpAll.mono e r)
  | _, _, .tup h r => .tup (e _ _ h) (RpAll.mono e r)
theorem RpAll.mono {H H' : Hp} (e : Ex H H') : ∀ {vs : List V} {ds : List PyData}, RpAll H vs ds → RpAll H' vs ds
  | _, _, .nil => .nil
  | _, _, .cons h r => .cons (Rp.mono e h) (RpAll.mono e r)
end
mutual
theorem Rp.dp {K : PySem.W.Frag} {H : Hp} : ∀ {v : V} {d : PyData}, Rp H v d → Dp K H v d
  | _, _, .non => .non
  | _, _, .bl b => .bl b
  | _, _, .int i => .int i
  | _, _, .str x => .str x
  | _, _, .lst h r => .lst (SqL.of h) (RpAll.dp r)
  | _, _, .tup h r => .tup (SqT.of h) (RpAll.dp r)
theorem RpAll.dp {K : PySem.W.Frag} {H : Hp} : ∀ {vs : List V} {ds : List PyData}, RpAll H vs ds → DpAll K H vs ds
  | _, _, .nil => .nil
  | _, _, .cons h r => .cons (Rp.dp h) (RpAll.dp r)
end
theorem RpAll.length {H : Hp} : ∀ {vs : List V} {ds : List PyData}, RpAll H vs ds → vs.length = ds.length
  | _, _, .nil => rfl
  | _, _, .cons _ r => congrArg (· + 1) (RpAll.length r)
theorem RpAll.get {H : Hp} : ∀ {vs : List V} {ds : List PyData} {i : Nat} {d : PyData}, RpAll H vs ds → ds[i]? = some d → ∃ v, vs[i]? = some v ∧ Rp H v d
  | _, _, _, _, .nil, e => by simp at e
  | _, _, 0, _, .cons h _, e => by
    simp at e
    subst e
    exact ⟨_, rfl, h⟩
  | _, _, i + 1, d, .cons _ r, e => by
    obtain ⟨v, h1, h2⟩ := RpAll.get (i := i) (d := d) r (by simpa using e)
    exact ⟨v, by simpa using h1, h2⟩
theorem RpAll.getV {H : Hp} : ∀ {vs : List V} {ds : List PyData} {i : Nat} {v : V}, RpAll H vs ds → vs[i]? = some v → ∃ d, ds[i]? = some d ∧ Rp H v d
  | _, _, _, _, .nil, e => by simp at e
  | _, _, 0, _, .cons h _, e => by
    simp at e
    subst e
    exact ⟨_, rfl, h⟩
  | _, _, i + 1, v, .cons _ r, e => by
    obtain ⟨d, h1, h2⟩ := RpAll.getV (i := i) (v := v) r (by simpa using e)
    exact ⟨d, by simpa using h1, h2⟩
theorem RpAll.append {H : Hp} : ∀ {vs ws : List V} {ds es : List PyData}, RpAll H vs ds → RpAll H ws es → RpAll H (vs ++ ws) (ds ++ es)
  | _, _, _, _, .nil, s => s
  | _, _, _, _, .cons h r, s => .cons h (RpAll.append r s)
theorem RpAll.take {H : Hp} : ∀ {vs : List V} {ds : List PyData} (n : Nat), RpAll H vs ds → RpAll H (vs.take n) (ds.take n)
  | _, _, 0, _ => .nil
  | _, _, _ + 1, .nil => .nil
  | _, _, n + 1, .cons h r => .cons h (RpAll.take n r)
theorem RpAll.drop {H : Hp} : ∀ {vs : List V} {ds : List PyData} (n : Nat), RpAll H vs ds → RpAll H (vs.drop n) (ds.drop n)
  | _, _, 0, r => r
  | _, _, _ + 1, .nil => .nil
  | _, _, n + 1, .cons _ r => RpAll.drop n r
theorem RpAll.reverse {H : Hp} : ∀ {vs : List V} {ds : List PyData}, RpAll H vs ds → RpAll H vs.reverse ds.reverse
  | _, _, .nil => .nil
  | _, _, .cons h r => by
    rw [List.reverse_cons, List.reverse_cons]
    exact (RpAll.reverse r).append (.cons h .nil)
theorem RpAll.ints {H : Hp} : ∀ {vs : List V} {ns : List Int}, RpAll H vs (ns.map PyData.int) → vs = ns.map V.int
  | _, [], .nil => rfl
  | _, n :: r, .cons (.int _) t => by rw [RpAll.ints t]; rfl
theorem RpAll.bools {H : Hp} : ∀ {vs : List V} {bs : List Bool}, RpAll H vs (bs.map PyData.bool) → vs = bs.map V.bl
  | _, [], .nil => rfl
  | _, n :: r, .cons (.bl _) t => by rw [RpAll.bools t]; rfl
theorem RpAll.strs {H : Hp} : ∀ {vs : List V} {bs : List Str}, RpAll H vs (bs.map PyData.str) → vs = bs.map V.str
  | _, [], .nil => rfl
  | _, n :: r, .cons (.str _) t => by rw [RpAll.strs t]; rfl
theorem RpAll.ofInts {H : Hp} : ∀ ns : List Int, RpAll H (ns.map V.int) (ns.map PyData.int)
  | [] => .nil
  | n :: r => .cons (.int n) (RpAll.ofInts r)
theorem RpAll.ofStrs {H : Hp} : ∀ ns : List Str, RpAll H (ns.map V.str) (ns.map PyData.str)
  | [] => .nil
  | n :: r => .cons (.str n) (RpAll.ofStrs r)

/-- what a slot, a cell's place holds -/
inductive D where
  | py (p : PyData)
  | raw (v : V)
  | sq (K : PySem.W.Frag) (xs : List V)
  | sqt (K : PySem.W.Frag) (xs : List V)
  | st (P : Program) (w : World) (S : Int → Bool)
  | ho (o : Addr → HO)
/-- a set of ints -/
def SetH (P : Program) (w : World) (a : Addr) (S : Int → Bool) (n : Nat) : HO := .ext fun h => h.SetOf (intKind P w) a S n
abbrev dI (i : Int) : D := .py (.int i)
abbrev dB (b : Bool) : D := .py (.bool b)
abbrev dS (x : Str) : D := .py (.str x)
abbrev dN : D := .py .none
abbrev dL (ps : List PyData) : D := .py (.list ps)
abbrev dT (ps : List PyData) : D := .py (.tuple ps)
abbrev dR (a : Addr) : D := .raw (.ref a)
def RD (G : Hp) (v : V) : D → Prop
  | .py p => Rp G v p
  | .raw w => v = w
  | .sq K xs => ∃ a, v = .ref a ∧ SqL K G a xs
  | .sqt K xs => ∃ a, v = .ref a ∧ SqT K G a xs
  | .st P w S => ∃ a n, v = .ref a ∧ G a = some (SetH P w a S n)
  | .ho o => ∃ a, v = .ref a ∧ G a = some (o a)
theorem RD.mono {G G' : Hp} (e : Ex G G') {v : V} {d : D} (h : RD G v d) : RD G' v d := by
  cases d with
  | py p => exact Rp.mono e h
  | raw w => exact h
  | sq K xs =>
    obtain ⟨a, e1, e2⟩ := h
    exact ⟨a, e1, e.sql e2⟩
  | sqt K xs =>
    obtain ⟨a, e1, e2⟩ := h
    exact ⟨a, e1, e.sqt e2⟩
  | st P w S =>
    obtain ⟨a, n, e1, e2⟩ := h
    exact ⟨a, n, e1, e _ _ e2⟩
  | ho o =>
    obtain ⟨a, e1, e2⟩ := h
    exact ⟨a, e1, e _ _ e2⟩
inductive All2 {α β : Type} (R : α → β → Prop) : List α → List β → Prop
  | nil : All2 R [] []
  | cons {a : α} {b : β} {as : List α} {bs : List β} : R a b → All2 R as bs → All2 R (a :: as) (b :: bs)
section
variable {α β : Type} {R S : α → β → Prop}
theorem All2.mono (f : ∀ a b, R a b → S a b) : ∀ {as : List α} {bs : List β}, All2 R as bs → All2 S as bs
  | _, _, .nil => .nil
  | _, _, .cons h r => .cons (f _ _ h) (All2.mono f r)
theorem All2.length : ∀ {as : List α} {bs : List β}, All2 R as bs → as.length = bs.length
  | _, _, .nil => rfl
  | _, _, .cons _ r => congrArg (· + 1) (All2.length r)
theorem All2.append : ∀ {as as' : List α} {bs bs' : List β}, All2 R as bs → All2 R as' bs' → All2 R (as ++ as') (bs ++ bs')
  | _, _, _, _, .nil, s => s
  | _, _, _, _, .cons h r, s => .cons h (All2.append r s)
theorem All2.get : ∀ {as : List α} {bs : List β} {i : Nat} {b : β}, All2 R as bs → bs[i]? = some b → ∃ a, as[i]? = some a ∧ R a b
  | _, _, _, _, .nil, e => by simp at e
  | _, _, 0, _, .cons h _, e => by
    simp at e
    subst e
    exact ⟨_, rfl, h⟩
  | _, _, i + 1, b, .cons _ r, e => by
    obtain ⟨v, h1, h2⟩ := All2.get (i := i) (b := b) r (by simpa using e)
    exact ⟨v, by simpa using h1, h2⟩
theorem All2.set {a : α} {b : β} (h : R a b) : ∀ {as : List α} {bs : List β} (i : Nat), All2 R as bs → All2 R (as.set i a) (bs.set i b)
  | _, _, _, .nil => .nil
  | _, _, 0, .cons _ r => .cons h r
  | _, _, i + 1, .cons q r => .cons q (All2.set h i r)
theorem All2.take : ∀ {as : List α} {bs : List β} (n : Nat), All2 R as bs → All2 R (as.take n) (bs.take n)
  | _, _, 0, _ => .nil
  | _, _, _ + 1, .nil => .nil
  | _, _, n + 1, .cons h r => .cons h (All2.take n r)
theorem All2.drop : ∀ {as : List α} {bs : List β} (n : Nat), All2 R as bs → All2 R (as.drop n) (bs.drop n)
  | _, _, 0, r => r
  | _, _, _ + 1, .nil => .nil
  | _, _, n + 1, .cons _ r => All2.drop n r
theorem All2.reverse : ∀ {as : List α} {bs : List β}, All2 R as bs → All2 R as.reverse bs.reverse
  | _, _, .nil => .nil
  | _, _, .cons h r => by
    rw [List.reverse_cons, List.reverse_cons]
    exact (All2.reverse r).append (.cons h .nil)
end
abbrev RDs (G : Hp) : List V → List D → Prop := All2 (RD G)
theorem RDs.mono {G G' : Hp} (e : Ex G G') {vs : List V} {ds : List D} (h : RDs G vs ds) : RDs G' vs ds := All2.mono (fun _ _ => RD.mono e) h
theorem RDs.all {G : Hp} : ∀ {vs : List V} {ps : List PyData}, RDs G vs (ps.map D.py) → RpAll G vs ps
  | _, [], .nil => .nil
  | _, p :: ps, .cons h r => .cons h (RDs.all r)
theorem RDs.of {G : Hp} : ∀ {vs : List V} {ps : List PyData}, RpAll G vs ps → RDs G vs (ps.map D.py)
  | _, _, .nil => .nil
  | _, _, .cons h r => .cons h (RDs.of r)

/-! ### the slots -/
abbrev Rho := List (Option D)
inductive REnv (G : Hp) : St → Rho → Prop
  | nil : REnv G [] []
  | some {v : V} {d : D} {σ : St} {ρ : Rho} : RD G v d → REnv G σ ρ → REnv G (Option.some v :: σ) (Option.some d :: ρ)
  | none {x : Option V} {σ : St} {ρ : Rho} : REnv G σ ρ → REnv G (x :: σ) (Option.none :: ρ)
theorem REnv.mono {G G' : Hp} (e : Ex G G') : ∀ {σ : St} {ρ : Rho}, REnv G σ ρ → REnv G' σ ρ
  | _, _, .nil => .nil
  | _, _, .some h r => .some (h.mono e) (REnv.mono e r)
  | _, _, .none r => .none (REnv.mono e r)
theorem REnv.length {G : Hp} : ∀ {σ : St} {ρ : Rho}, REnv G σ ρ → σ.length = ρ.length
  | _, _, .nil => rfl
  | _, _, .some _ r => congrArg (· + 1) (REnv.length r)
  | _, _, .none r => congrArg (· + 1) (REnv.length r)
theorem REnv.get {G : Hp} : ∀ {σ : St} {ρ : Rho} {i : Nat} {d : D}, REnv G σ ρ → ρ[i]? = Option.some (Option.some d) → ∃ v, σ[i]? = Option.some (Option.some v) ∧ RD G v d
  | _, _, _, _, .nil, e => by simp at e
  | _, _, 0, _, .some h _, e => by
    simp at e
    subst e
    exact ⟨_, rfl, h⟩
  | _, _, i + 1, d, .some _ r, e => by
    obtain ⟨v, h1, h2⟩ := REnv.get (i := i) (d := d) r (by simpa using e)
    exact ⟨v, by simpa using h1, h2⟩
  | _, _, 0, _, .none _, e => by simp at e
  | _, _, i + 1, d, .none r, e => by
    obtain ⟨v, h1, h2⟩ := REnv.get (i := i) (d := d) r (by simpa using e)
    exact ⟨v, by simpa using h1, h2⟩
theorem REnv.set {G : Hp} {v : V} {d : D} (h : RD G v d) : ∀ {σ : St} {ρ : Rho} (i : Nat), REnv G σ ρ → REnv G (σ.set i (Option.some v)) (ρ.set i (Option.some d))
  | _, _, _, .nil => .nil
  | _, _, 0, .some _ r => .some h r
  | _, _, 0, .none r => .some h r
  | _, _, i + 1, .some q r => .some q (REnv.set h i r)
  | _, _, i + 1, .none r => .none (REnv.set h i r)
/-- what is not needed any more is forgotten -/
inductive Wk : Rho → Rho → Prop
  | nil : Wk [] []
  | same {x : Option D} {ρ ρ' : Rho} : Wk ρ ρ' → Wk (x :: ρ) (x :: ρ')
  | drop {x : Option D} {ρ ρ' : Rho} : Wk ρ ρ' → Wk (x :: ρ) (none :: ρ')
theorem Wk.refl : ∀ ρ : Rho, Wk ρ ρ
  | [] => .nil
  | _ :: r => .same (Wk.refl r)
theorem REnv.weak {G : Hp} : ∀ {σ : St} {ρ ρ' : Rho}, REnv G σ ρ → Wk ρ ρ' → REnv G σ ρ'
  | _, _, _, .nil, .nil => .nil
  | _, _, _, .some h r, .same w => .some h (REnv.weak r w)
  | _, _, _, .some _ r, .drop w => .none (REnv.weak r w)
  | _, _, _, .none r, .same w => .none (REnv.weak r w)
  | _, _, _, .none r, .drop w => .none (REnv.weak r w)
theorem REnv.start {G : Hp} : ∀ {vs : List V} {ds : List D} (n : Nat), RDs G vs ds → REnv G (vs.map Option.some ++ List.replicate n Option.none) (ds.map Option.some ++ List.replicate n Option.none)
  | _, _, 0, .nil => .nil
  | _, _, n + 1, .nil => .none (REnv.start (vs := []) (ds := []) n .nil)
  | _, _, n, .cons h r => .some h (REnv.start n r)

/-! ### the cells -/
inductive Cell where
  | lst (ds : List D)
  | ins (C : Addr) (fs : List (Str × D))
  | dK (kvs : List (Key × D))
  | dT (kvs : List (List Int × D))
abbrev Cells := List (Addr × Cell)
def CellR (G H : Hp) (a : Addr) : Cell → Prop
  | .lst ds => ∃ vs, H a = some (.lst vs) ∧ RDs G vs ds
  | .ins C fs => ∃ dx vs, H a = some (.ins C dx vs) ∧ All2 (fun (p : Str × V) (q : Str × D) => p.1 = q.1 ∧ RD G p.2 q.2) vs fs
  | .dK kvs => ∃ vs, H a = some (.dK vs) ∧ All2 (fun (p : Key × V) (q : Key × D) => p.1 = q.1 ∧ RD G p.2 q.2) vs kvs
  | .dT kvs => ∃ vs, H a = some (.dT vs) ∧ All2 (fun (p : List Key × V) (q : List Int × D) => p.1 = q.1.map Sum.inl ∧ RD G p.2 q.2) vs kvs
theorem CellR.known {G H : Hp} {a : Addr} {c : Cell} (h : CellR G H a c) : ∃ o, H a = some o := by
  cases c with
  | lst _ => obtain ⟨_, e, _⟩ := h; exact ⟨_, e⟩
  | ins _ _ => obtain ⟨_, _, e, _⟩ := h; exact ⟨_, e⟩
  | dK _ => obtain ⟨_, e, _⟩ := h; exact ⟨_, e⟩
  | dT _ => obtain ⟨_, e, _⟩ := h; exact ⟨_, e⟩
theorem CellR.mono {G G' H H' : Hp} {a : Addr} {c : Cell} (e : Ex G G') (k : H' a = H a) (h : CellR G H a c) : CellR G' H' a c := by
  cases c with
  | lst _ => obtain ⟨vs, q, r⟩ := h; exact ⟨vs, k.trans q, RDs.mono e r⟩
  | ins _ _ => obtain ⟨dx, vs, q, r⟩ := h; exact ⟨dx, vs, k.trans q, All2.mono (fun _ _ z => ⟨z.1, z.2.mono e⟩) r⟩
  | dK _ => obtain ⟨vs, q, r⟩ := h; exact ⟨vs, k.trans q, All2.mono (fun _ _ z => ⟨z.1, z.2.mono e⟩) r⟩
  | dT _ => obtain ⟨vs, q, r⟩ := h; exact ⟨vs, k.trans q, All2.mono (fun _ _ z => ⟨z.1, z.2.mono e⟩) r⟩
/-- G: what stays; M: the cells, apart from it and from one another -/
structure Own (G : Hp) (M : Cells) (H : Hp) : Prop where
  ex : Ex G H
  nd : (M.map (·.1)).Nodup
  fr : ∀ p ∈ M, G p.1 = none
  ok : ∀ p ∈ M, CellR G H p.1 p.2
theorem Own.self (H : Hp) : Own H [] H := ⟨Ex.refl H, by simp, by simp, by simp⟩
theorem Own.notin {G H : Hp} {M : Cells} (o : Own G M H) {p : Addr} (h : H p = none) : p ∉ M.map (·.1) := fun hm => by
  obtain ⟨q, hq, e⟩ := List.mem_map.mp hm
  obtain ⟨ob, z⟩ := (o.ok q hq).known
  rw [e, h] at z
  cases z
/-- something new that stays -/
theorem Own.push {G H : Hp} {M : Cells} (o : Own G M H) {p : Addr} (h : H p = none) (u : HO) : Own (upd G p u) M (upd H p u) := by
  refine ⟨o.ex.both, o.nd, fun q hq => ?_, fun q hq => ?_⟩
  · have ne : q.1 ≠ p := fun e => o.notin h (e ▸ List.mem_map_of_mem hq)
    rw [upd_ne ne]
    exact o.fr q hq
  · have ne : q.1 ≠ p := fun e => o.notin h (e ▸ List.mem_map_of_mem hq)
    exact (o.ok q hq).mono (Ex.new (o.ex.free h)) (upd_ne ne)
/-- a new cell -/
theorem Own.cell {G H : Hp} {M F : Cells} (o : Own G (M ++ F) H) {p : Addr} (h : H p = none) {u : HO} {c : Cell} (hc : CellR G (upd H p u) p c) : Own G ((M ++ [(p, c)]) ++ F) (upd H p u) := by
  have hn := o.notin h
  refine ⟨o.ex.mut (o.ex.free h), ?_, fun q hq => ?_, fun q hq => ?_⟩
  · have nd := o.nd
    rw [List.map_append] at nd hn ⊢
    rw [List.map_append]
    simp only [List.map_cons, List.map_nil]
    rw [List.nodup_append] at nd ⊢
    rw [List.mem_append] at hn
    refine ⟨?_, nd.2.1, fun a ha b hb => ?_⟩
    · rw [List.nodup_append]
      refine ⟨nd.1, by simp, fun a ha b hb e => ?_⟩
      simp at hb
      exact hn (.inl (by rw [← hb, ← e]; exact ha))
    · rw [List.mem_append] at ha
      rcases ha with ha | ha
      · exact nd.2.2 a ha b hb
      · simp at ha
        intro e
        exact hn (.inr (by rw [← ha, e]; exact hb))
  · have hq' : q ∈ M ++ F ∨ q = (p, c) := by
      simp only [List.mem_append, List.mem_singleton] at hq ⊢
      rcases hq with (a | a) | a
      · exact .inl (.inl a)
      · exact .inr a
      · exact .inl (.inr a)
    rcases hq' with z | z
    · exact o.fr q z
    · rw [z]
      exact o.ex.free h
  · have hq' : q ∈ M ++ F ∨ q = (p, c) := by
      simp only [List.mem_append, List.mem_singleton] at hq ⊢
      rcases hq with (a | a) | a
      · exact .inl (.inl a)
      · exact .inr a
      · exact .inl (.inr a)
    rcases hq' with z | z
    · have ne : q.1 ≠ p := fun e => hn (e ▸ List.mem_map_of_mem z)
      exact (o.ok q z).mono (Ex.refl G) (upd_ne ne)
    · rw [z]
      exact hc
/-- at place i of the cells stands c, the cell of p -/
abbrev CA (M : Cells) (i : Nat) (p : Addr) (c : Cell) : Prop := M[i]? = some (p, c)
theorem CA.mem {M : Cells} {i : Nat} {p : Addr} {c : Cell} (h : CA M i p c) : (p, c) ∈ M := List.mem_of_getElem? h
theorem CA.lt {M : Cells} {i : Nat} {p : Addr} {c : Cell} (h : CA M i p c) : i < M.length := (List.getElem?_eq_some_iff.mp h).1
theorem CA.app {M : Cells} (F : Cells) {i : Nat} {p : Addr} {c : Cell} (h : CA M i p c) : CA (M ++ F) i p c := by
  show (M ++ F)[i]? = some (p, c)
  rw [List.getElem?_append_left h.lt]
  exact h
theorem CA.set_app {M : Cells} (F : Cells) {i : Nat} {p : Addr} {c : Cell} (y : Addr × Cell) (h : CA M i p c) : (M ++ F).set i y = M.set i y ++ F := by
  rw [List.set_append_left _ _ h.lt]
theorem CA.keys : ∀ {M : Cells} {i : Nat} {p : Addr} {c : Cell} (c' : Cell), CA M i p c → (M.set i (p, c')).map (·.1) = M.map (·.1)
  | (a, c0) :: r, 0, p, c, c', h => by
    simp only [CA, List.getElem?_cons_zero, Option.some.injEq, Prod.mk.injEq] at h
    simp [h.1]
  | (a, c0) :: r, i + 1, p, c, c', h => by
    simp only [CA, List.getElem?_cons_succ] at h
    simp only [List.set_cons_succ, List.map_cons, CA.keys c' (show CA r i p c from h)]
theorem CA.mem_set : ∀ {M : Cells} {i : Nat} {p : Addr} {c c' : Cell} {q : Addr × Cell}, (M.map (·.1)).Nodup → CA M i p c → q ∈ M.set i (p, c') → (q ∈ M ∧ q.1 ≠ p) ∨ (q = (p, c'))
  | (a, c0) :: r, 0, p, c, c', q, nd, h, hq => by
    simp only [CA, List.getElem?_cons_zero, Option.some.injEq, Prod.mk.injEq] at h
    simp only [List.map_cons, List.nodup_cons] at nd
    simp only [List.set_cons_zero] at hq
    rcases List.mem_cons.mp hq with z | z
    · exact .inr z
    · refine .inl ⟨List.mem_cons_of_mem _ z, fun e => nd.1 ?_⟩
      rw [h.1, ← e]
      exact List.mem_map_of_mem z
  | (a, c0) :: r, i + 1, p, c, c', q, nd, h, hq => by
    simp only [CA, List.getElem?_cons_succ] at h
    simp only [List.map_cons, List.nodup_cons] at nd
    simp only [List.set_cons_succ] at hq
    rcases List.mem_cons.mp hq with z | z
    · refine .inl ⟨by rw [z]; exact List.mem_cons_self .., fun e => nd.1 ?_⟩
      rw [z] at e
      have hm := List.mem_map_of_mem (f := (·.1)) (CA.mem (show CA r i p c from h))
      show a ∈ r.map (·.1)
      rw [show a = p from e]
      exact hm
    · rcases CA.mem_set nd.2 (show CA r i p c from h) z with ⟨z1, z2⟩ | z1
      · exact .inl ⟨List.mem_cons_of_mem _ z1, z2⟩
      · exact .inr z1
theorem Own.store {G H : Hp} {M F : Cells} (o : Own G (M ++ F) H) {i : Nat} {p : Addr} {c c' : Cell} (h : CA M i p c) {u : HO} (hc : CellR G (upd H p u) p c') : Own G (M.set i (p, c') ++ F) (upd H p u) := by
  have h' := h.app F
  have hm := h'.mem
  rw [← h.set_app F (p, c')]
  refine ⟨o.ex.mut (o.fr (p, c) hm), by rw [h'.keys]; exact o.nd, fun q hq => ?_, fun q hq => ?_⟩
  · rcases CA.mem_set o.nd h' hq with ⟨z, _⟩ | z
    · exact o.fr q z
    · rw [z]
      exact o.fr (p, c) hm
  · rcases CA.mem_set o.nd h' hq with ⟨z, ne⟩ | z
    · exact (o.ok q z).mono (Ex.refl G) (upd_ne ne)
    · rw [z]
      exact hc
theorem Own.at {G H : Hp} {M F : Cells} (o : Own G (M ++ F) H) {i : Nat} {p : Addr} {c : Cell} (h : CA M i p c) : CellR G H p c := o.ok _ (h.app F).mem
/-- cells are let go -/
theorem Own.sub {G H : Hp} {M N : Cells} (o : Own G M H) (h : List.Sublist N M) : Own G N H :=
  ⟨o.ex, o.nd.sublist (h.map _), fun p hp => o.fr p (h.subset hp), fun p hp => o.ok p (h.subset hp)⟩
/-- a cell that is a list of data from now on stays -/
theorem Own.freeze {G H : Hp} {M N : Cells} (o : Own G M H) {p : Addr} {ps : List PyData} (hm : (p, Cell.lst (ps.map D.py)) ∈ M) (h : List.Sublist N M) (hn : ∀ q ∈ N, q.1 ≠ p) :
    ∃ G', Ex G G' ∧ Own G' N H ∧ Rp G' (.ref p) (.list ps) := by
  obtain ⟨vs, hv, r⟩ := o.ok _ hm
  have e : Ex G (upd G p (.lst vs)) := Ex.new (o.fr _ hm)
  refine ⟨upd G p (.lst vs), e, ⟨fun a u ha => ?_, o.nd.sublist (h.map _), fun q hq => ?_, fun q hq => ?_⟩, .lst upd_same ((RDs.all r).mono e)⟩
  · by_cases ea : a = p
    · rw [ea, upd_same] at ha
      rw [ea, ← ha]
      exact hv
    · rw [upd_ne ea] at ha
      exact o.ex a u ha
  · rw [upd_ne (hn q hq)]
    exact o.fr q (h.subset hq)
  · exact (o.ok q (h.subset hq)).mono e rfl
end PL

/-! PL2: the judgements over data: SE (an expression), ST (a test), SA (arguments), SG (a target), SI (what a for walks), SS (a statement); WP-like, with what comes behind as a wish over data. -/
namespace PL
open PySem PySem.Spec L2

abbrev WX := Value → Option Addr → St → Hp → Prop
/-- an exception: its class, its own field -/
structure XD where
  cls : Value
  fld : Option (Str × D)
structure WD where
  E : WX
  K : XD → Rho → Cells → Prop
abbrev W0 : WD := ⟨fun _ _ _ _ => False, fun _ _ _ => False⟩
def XR (G H : Hp) (x : XD) (d : Option Addr) : Prop := match x.fld with
  | none => d = none
  | some (f, y) => ∃ a v, d = some a ∧ H a = some (.xd [(f, v)]) ∧ RD G v y
def MatchX (G : Hp) (F : Cells) (W : WD) : Prop := ∀ x ρ M d σ G' H, W.K x ρ M → Ex G G' → XR G' H x d → REnv G' σ ρ → Own G' (M ++ F) H → W.E x.cls d σ H
theorem MatchX.mono {G G' : Hp} {F : Cells} {W : WD} (e : Ex G G') (h : MatchX G F W) : MatchX G' F W := fun x ρ M d σ G2 H k e2 => h x ρ M d σ G2 H k (e.trans e2)
theorem matchX0 {G : Hp} {F : Cells} : MatchX G F W0 := fun _ _ _ _ _ _ _ k => k.elim
/-- what is wished behind a value -/
abbrev Fin (G : Hp) (F : Cells) (K : D → Cells → Prop) (Q : VK) : Prop := ∀ d M v G' H, K d M → Ex G G' → RD G' v d → Own G' (M ++ F) H → Q v H
abbrev FinT (G : Hp) (F : Cells) (K : Bool → Cells → Prop) (Q : Bool → Hp → Prop) : Prop := ∀ b M G' H, K b M → Ex G G' → Own G' (M ++ F) H → Q b H
abbrev FinA (G : Hp) (F : Cells) (K : List D → Cells → Prop) (Q : List V → Hp → Prop) : Prop := ∀ ds M vs G' H, K ds M → Ex G G' → RDs G' vs ds → Own G' (M ++ F) H → Q vs H
abbrev FinE (G : Hp) (F : Cells) (K : Rho → Cells → Prop) (Q : St → Hp → Prop) : Prop := ∀ ρ M σ G' H, K ρ M → Ex G G' → REnv G' σ ρ → Own G' (M ++ F) H → Q σ H
theorem Fin.mono {G G' : Hp} {F : Cells} {K : D → Cells → Prop} {Q : VK} (h : Fin G F K Q) (e : Ex G G') : Fin G' F K Q := fun d M v G2 H k e2 => h d M v G2 H k (e.trans e2)
theorem FinT.mono {G G' : Hp} {F : Cells} {K : Bool → Cells → Prop} {Q : Bool → Hp → Prop} (h : FinT G F K Q) (e : Ex G G') : FinT G' F K Q := fun d M G2 H k e2 => h d M G2 H k (e.trans e2)
theorem FinA.mono {G G' : Hp} {F : Cells} {K : List D → Cells → Prop} {Q : List V → Hp → Prop} (h : FinA G F K Q) (e : Ex G G') : FinA G' F K Q := fun d M v G2 H k e2 => h d M v G2 H k (e.trans e2)
theorem FinE.mono {G G' : Hp} {F : Cells} {K : Rho → Cells → Prop} {Q : St → Hp → Prop} (h : FinE G F K Q) (e : Ex G G') : FinE G' F K Q := fun d M v G2 H k e2 => h d M v G2 H k (e.trans e2)

abbrev IsB (d : D) (k : Bool → Prop) : Prop := ∃ b, d = dB b ∧ k b
abbrev IsI (d : D) (k : Int → Prop) : Prop := ∃ b, d = dI b ∧ k b
theorem isB {b : Bool} {k : Bool → Prop} (h : k b) : IsB (dB b) k := ⟨b, rfl, h⟩
theorem isI {b : Int} {k : Int → Prop} (h : k b) : IsI (dI b) k := ⟨b, rfl, h⟩
/-- the two ways of a test -/
structure Br (b : Bool) (A B : Prop) : Prop where
  t : b = true → A
  f : b = false → B
theorem br_dec {p : Prop} [Decidable p] {A B : Prop} (h1 : p → A) (h2 : ¬p → B) : Br (decide p) A B := ⟨fun e => h1 (of_decide_eq_true e), fun e => h2 (of_decide_eq_false e)⟩
theorem br_not {b : Bool} {A B : Prop} (h : Br b B A) : Br (!b) A B := ⟨fun e => h.f (by simpa using e), fun e => h.t (by simpa using e)⟩
theorem br_T {b : Bool} {A B : Prop} (e : b = true) (h : A) : Br b A B := ⟨fun _ => h, fun e' => absurd (e.symm.trans e') (by decide)⟩
theorem br_F {b : Bool} {A B : Prop} (e : b = false) (h : B) : Br b A B := ⟨fun e' => absurd (e.symm.trans e') (by decide), fun _ => h⟩
def SE (W : WD) (te : TE) (ρ : Rho) (M : Cells) (K : D → Cells → Prop) : Prop :=
  ∀ (G : Hp) (σ : St) (H : Hp) (F : Cells) (Q : VK), REnv G σ ρ → Own G (M ++ F) H → MatchX G F W → Fin G F K Q → te σ H Q
def ST (W : WD) (tt : TT) (ρ : Rho) (M : Cells) (K : Bool → Cells → Prop) : Prop :=
  ∀ (G : Hp) (σ : St) (H : Hp) (F : Cells) (Q : Bool → Hp → Prop), REnv G σ ρ → Own G (M ++ F) H → MatchX G F W → FinT G F K Q → tt σ H Q
def SA (W : WD) (ta : TA) (ρ : Rho) (M : Cells) (K : List D → Cells → Prop) : Prop :=
  ∀ (G : Hp) (σ : St) (H : Hp) (F : Cells) (Q : List V → Hp → Prop), REnv G σ ρ → Own G (M ++ F) H → MatchX G F W → FinA G F K Q → ta σ H Q
def OR (r : R2) (x y : D) (M : Cells) (K : D → Cells → Prop) : Prop :=
  ∀ (G H : Hp) (F : Cells) (u v : V) (Q : VK), RD G u x → RD G v y → Own G (M ++ F) H → Fin G F K Q → r u v H Q
def UR (r : V → Hp → VK → Prop) (x : D) (M : Cells) (K : D → Cells → Prop) : Prop :=
  ∀ (G H : Hp) (F : Cells) (u : V) (Q : VK), RD G u x → Own G (M ++ F) H → Fin G F K Q → r u H Q
def CR (r : List V → Hp → VK → Prop) (xs : List D) (M : Cells) (K : D → Cells → Prop) : Prop :=
  ∀ (G H : Hp) (F : Cells) (us : List V) (Q : VK), RDs G us xs → Own G (M ++ F) H → Fin G F K Q → r us H Q
def BR (r : V → List V → Hp → VK → Prop) (x : D) (xs : List D) (M : Cells) (K : D → Cells → Prop) : Prop :=
  ∀ (G H : Hp) (F : Cells) (u : V) (us : List V) (Q : VK), RD G u x → RDs G us xs → Own G (M ++ F) H → Fin G F K Q → r u us H Q
def SG (W : WD) (g : TG) (d : D) (ρ : Rho) (M : Cells) (K : Rho → Cells → Prop) : Prop :=
  ∀ (G : Hp) (σ : St) (H : Hp) (F : Cells) (v : V) (Q : St → Hp → Prop), RD G v d → REnv G σ ρ → Own G (M ++ F) H → MatchX G F W → FinE G F K Q → g v σ H Q
def SGs (W : WD) (g : TGs) (ds : List D) (ρ : Rho) (M : Cells) (K : Rho → Cells → Prop) : Prop :=
  ∀ (G : Hp) (σ : St) (H : Hp) (F : Cells) (vs : List V) (Q : St → Hp → Prop), RDs G vs ds → REnv G σ ρ → Own G (M ++ F) H → MatchX G F W → FinE G F K Q → g vs σ H Q

structure PD where
  nx : Rho → Cells → Prop
  rt : D → Cells → Prop
  bk : Rho → Cells → Prop := fun _ _ => False
  ct : Rho → Cells → Prop := fun _ _ => False
structure MatchD (G : Hp) (F : Cells) (P : PD) (D : Ends) : Prop where
  nx : FinE G F P.nx D.nx
  rt : Fin G F P.rt D.rt
  bk : FinE G F P.bk D.bk
  ct : FinE G F P.ct D.ct
theorem MatchD.mono {G G' : Hp} {F : Cells} {P : PD} {D : Ends} (h : MatchD G F P D) (e : Ex G G') : MatchD G' F P D := ⟨h.nx.mono e, h.rt.mono e, h.bk.mono e, h.ct.mono e⟩
def SS (W : WD) (t : TS) (ρ : Rho) (M : Cells) (P : PD) : Prop :=
  ∀ (G : Hp) (σ : St) (H : Hp) (F : Cells) (D : Ends), REnv G σ ρ → Own G (M ++ F) H → MatchX G F W → MatchD G F P D → t D σ H

section
variable {W : WD} {ρ : Rho} {M : Cells} {K : D → Cells → Prop} {KT : Bool → Cells → Prop} {KA : List D → Cells → Prop} {KE : Rho → Cells → Prop} {ta tb te tc : TE} {t u : TT} {P : PD} {Kf : PySem.W.Frag}

theorem SE.imp {K' : D → Cells → Prop} (h : SE W te ρ M K') (k : ∀ d M, K' d M → K d M) : SE W te ρ M K := fun G σ H F Q re o mx q => h G σ H F Q re o mx fun d M v G' H' kd => q d M v G' H' (k d M kd)
theorem ST.imp {K' : Bool → Cells → Prop} (h : ST W t ρ M K') (k : ∀ d M, K' d M → KT d M) : ST W t ρ M KT := fun G σ H F Q re o mx q => h G σ H F Q re o mx fun d M G' H' kd => q d M G' H' (k d M kd)

/-! ### names and constants -/
theorem se_var {i : Nat} {d : D} (h : ρ[i]? = some (some d)) (k : K d M) : SE W (tVar i) ρ M K := fun G σ H F Q re o mx q => by
  obtain ⟨v, e, r⟩ := re.get h
  exact ⟨v, e, q d M v G H k (Ex.refl G) r o⟩
theorem se_c {v : V} {d : D} (h : ∀ G, RD G v d) (k : K d M) : SE W (tC v) ρ M K := fun G σ H F Q re o mx q => q d M v G H k (Ex.refl G) (h G) o
theorem se_int {i : Int} (k : K (dI i) M) : SE W (tC (.int i)) ρ M K := se_c (d := dI i) (fun _ => Rp.int i) k
theorem se_str {x : Str} (k : K (dS x) M) : SE W (tC (.str x)) ρ M K := se_c (d := dS x) (fun _ => Rp.str x) k
theorem se_bl {b : Bool} (k : K (dB b) M) : SE W (tC (.bl b)) ρ M K := se_c (d := dB b) (fun _ => Rp.bl b) k
theorem se_non (k : K dN M) : SE W (tC .non) ρ M K := se_c (d := dN) (fun _ => Rp.non) k
theorem se_raw {v : V} (k : K (.raw v) M) : SE W (tC v) ρ M K := se_c (d := .raw v) (fun _ => rfl) k
theorem se_tup_c {a : Addr} {xs : List V} (h : ∀ H, SqT Kf H a xs) (k : K (.sqt Kf xs) M) : SE W (tC (.ref a)) ρ M K := se_c (d := .sqt Kf xs) (fun G => ⟨a, rfl, h G⟩) k

/-! ### operators -/
theorem se_op {r : R2} (h : SE W ta ρ M fun x M1 => SE W tb ρ M1 fun y M2 => OR r x y M2 K) : SE W (tOp r ta tb) ρ M K := fun G σ H F Q re o mx q =>
  h G σ H F _ re o mx fun x M1 u G1 H1 k1 e1 r1 o1 => k1 G1 σ H1 F _ (re.mono e1) o1 (mx.mono e1) fun y M2 v G2 H2 k2 e2 r2 o2 =>
    k2 G2 H2 F u v Q (r1.mono e2) r2 o2 (Fin.mono q (e1.trans e2))
theorem se_un {r : V → Hp → VK → Prop} (h : SE W ta ρ M fun x M1 => UR r x M1 K) : SE W (tUn r ta) ρ M K := fun G σ H F Q re o mx q =>
  h G σ H F _ re o mx fun x M1 u G1 H1 k1 e1 r1 o1 => k1 G1 H1 F u Q r1 o1 (Fin.mono q e1)
theorem int_of {G : Hp} {v : V} {i : Int} (h : RD G v (dI i)) : v = .int i := by cases h; rfl
theorem bl_of {G : Hp} {v : V} {i : Bool} (h : RD G v (dB i)) : v = .bl i := by cases h; rfl
theorem str_of {G : Hp} {v : V} {i : Str} (h : RD G v (dS i)) : v = .str i := by cases h; rfl
theorem non_of {G : Hp} {v : V} (h : RD G v dN) : v = .non := by cases h; rfl
/-- the value of a scalar -/
inductive Sc : V → D → Prop
  | int (i : Int) : Sc (.int i) (dI i)
  | bl (i : Bool) : Sc (.bl i) (dB i)
  | str (i : Str) : Sc (.str i) (dS i)
  | non : Sc .non dN
theorem Sc.rd {G : Hp} {v : V} {d : D} (h : Sc v d) : RD G v d := by
  cases h
  · exact Rp.int _
  · exact Rp.bl _
  · exact Rp.str _
  · exact Rp.non
theorem Sc.eq {G : Hp} {u v : V} {d : D} (h : Sc v d) (r : RD G u d) : u = v := by
  cases h
  · exact int_of r
  · exact bl_of r
  · exact str_of r
  · exact non_of r
theorem or_I0 {g : Int → Int → V} {i j : Int} {d : D} (hd : Sc (g i j) d) (k : K d M) : OR (rI0 g) (dI i) (dI j) M K := fun G H F u v Q r1 r2 o q => by
  cases int_of r1
  cases int_of r2
  exact ⟨i, j, rfl, rfl, q d M _ G H k (Ex.refl G) hd.rd o⟩
theorem or_I {C : Int → Int → Prop} {g : Int → Int → V} {i j : Int} {d : D} (hc : C i j) (hd : Sc (g i j) d) (k : K d M) : OR (rI C g) (dI i) (dI j) M K := fun G H F u v Q r1 r2 o q => by
  cases int_of r1
  cases int_of r2
  exact ⟨i, j, rfl, rfl, hc, q d M _ G H k (Ex.refl G) hd.rd o⟩
theorem or_add {i j : Int} (k : K (dI (i + j)) M) : OR (rI0 fun i j => .int (i + j)) (dI i) (dI j) M K := or_I0 (.int _) k
theorem or_sub {i j : Int} (k : K (dI (i - j)) M) : OR (rI0 fun i j => .int (i - j)) (dI i) (dI j) M K := or_I0 (.int _) k
theorem or_cmp {p : Int → Int → Bool} {i j : Int} (k : K (dB (p i j)) M) : OR (rI0 fun i j => .bl (p i j)) (dI i) (dI j) M K := or_I0 (.bl _) k
theorem or_eq {x y : D} {u v : V} (hx : Sc u x) (hy : Sc v y) (hs : scal u v = true) (k : K (dB (decide (u = v))) M) : OR rEq x y M K := fun G H F u' v' Q r1 r2 o q => by
  cases hx.eq r1
  cases hy.eq r2
  exact ⟨hs, q _ M _ G H k (Ex.refl G) (Rp.bl _) o⟩
theorem or_ne {x y : D} {u v : V} (hx : Sc u x) (hy : Sc v y) (hs : scal u v = true) (k : K (dB (!decide (u = v))) M) : OR rNe x y M K := fun G H F u' v' Q r1 r2 o q => by
  cases hx.eq r1
  cases hy.eq r2
  exact ⟨hs, q _ M _ G H k (Ex.refl G) (Rp.bl _) o⟩
theorem dec_int (i j : Int) : decide ((V.int i) = V.int j) = decide (i = j) := by
  by_cases h : i = j
  · simp [h]
  · simp [h]
theorem dec_str (i j : Str) : decide ((V.str i) = V.str j) = decide (i = j) := by
  by_cases h : i = j
  · simp [h]
  · simp [h]
theorem dec_bl (i j : Bool) : decide ((V.bl i) = V.bl j) = decide (i = j) := by
  by_cases h : i = j
  · simp [h]
  · simp [h]
theorem or_eqI {i j : Int} (k : K (dB (decide (i = j))) M) : OR rEq (dI i) (dI j) M K := or_eq (.int i) (.int j) rfl (by rw [dec_int]; exact k)
theorem or_neI {i j : Int} (k : K (dB (!decide (i = j))) M) : OR rNe (dI i) (dI j) M K := or_ne (.int i) (.int j) rfl (by rw [dec_int]; exact k)
theorem or_eqS {i j : Str} (k : K (dB (decide (i = j))) M) : OR rEq (dS i) (dS j) M K := or_eq (.str i) (.str j) rfl (by rw [dec_str]; exact k)
theorem or_neS {i j : Str} (k : K (dB (!decide (i = j))) M) : OR rNe (dS i) (dS j) M K := or_ne (.str i) (.str j) rfl (by rw [dec_str]; exact k)
theorem or_eqB {i j : Bool} (k : K (dB (decide (i = j))) M) : OR rEq (dB i) (dB j) M K := or_eq (.bl i) (.bl j) rfl (by rw [dec_bl]; exact k)
theorem ur_I {g : Int → V} {i : Int} {d : D} (hd : Sc (g i) d) (k : K d M) : UR (rU g) (dI i) M K := fun G H F u Q r1 o q => by
  cases int_of r1
  exact ⟨i, rfl, q d M _ G H k (Ex.refl G) hd.rd o⟩
theorem ur_neg {i : Int} (k : K (dI (-i)) M) : UR (rU fun i => .int (-i)) (dI i) M K := ur_I (.int _) k

/-! ### tests -/
theorem st_test (h : SE W te ρ M fun d M' => IsB d fun b => KT b M') : ST W (tTest te) ρ M KT := fun G σ H F Q re o mx q =>
  h G σ H F _ re o mx fun d M1 v G1 H1 ⟨b, ed, k⟩ e1 r1 o1 => by
    subst ed
    exact ⟨b, bl_of r1, q b M1 G1 H1 k e1 o1⟩
theorem st_B (h : SE W te ρ M fun d M' => IsB d fun b => KT b M') : ST W (tB te) ρ M KT := fun G σ H F Q re o mx q =>
  h G σ H F _ re o mx fun d M1 v G1 H1 ⟨b, ed, k⟩ e1 r1 o1 => by
    subst ed
    exact ⟨b, bl_of r1, q b M1 G1 H1 k e1 o1⟩
theorem st_not (h : ST W t ρ M fun b M' => KT (!b) M') : ST W (tNot t) ρ M KT := fun G σ H F Q re o mx q =>
  h G σ H F _ re o mx fun b M1 G1 H1 k e1 o1 => q _ M1 G1 H1 k e1 o1
theorem st_and (h : ST W t ρ M fun b M' => Br b (ST W u ρ M' KT) (KT false M')) : ST W (tAnd t u) ρ M KT := fun G σ H F Q re o mx q =>
  h G σ H F _ re o mx fun b M1 G1 H1 k e1 o1 => by
    cases b with
    | true => exact iteT (k.t rfl G1 σ H1 F Q (re.mono e1) o1 (mx.mono e1) (FinT.mono q e1))
    | false => exact iteF (q _ M1 G1 H1 (k.f rfl) e1 o1)
theorem st_or (h : ST W t ρ M fun b M' => Br b (KT true M') (ST W u ρ M' KT)) : ST W (tOr t u) ρ M KT := fun G σ H F Q re o mx q =>
  h G σ H F _ re o mx fun b M1 G1 H1 k e1 o1 => by
    cases b with
    | true => exact iteT (q _ M1 G1 H1 (k.t rfl) e1 o1)
    | false => exact iteF (k.f rfl G1 σ H1 F Q (re.mono e1) o1 (mx.mono e1) (FinT.mono q e1))
theorem se_if (h : ST W t ρ M fun b M' => Br b (SE W ta ρ M' K) (SE W tb ρ M' K)) : SE W (tIf t ta tb) ρ M K := fun G σ H F Q re o mx q =>
  h G σ H F _ re o mx fun b M1 G1 H1 k e1 o1 => by
    cases b with
    | true => exact iteT (k.t rfl G1 σ H1 F Q (re.mono e1) o1 (mx.mono e1) (Fin.mono q e1))
    | false => exact iteF (k.f rfl G1 σ H1 F Q (re.mono e1) o1 (mx.mono e1) (Fin.mono q e1))
theorem se_andV (h : SE W ta ρ M fun d M' => IsB d fun b => Br b (SE W tb ρ M' K) (K (dB false) M')) : SE W (tAndV ta tb) ρ M K := fun G σ H F Q re o mx q =>
  h G σ H F _ re o mx fun d M1 v G1 H1 ⟨b, ed, k⟩ e1 r1 o1 => by
    subst ed
    refine ⟨b, bl_of r1, ?_⟩
    cases b with
    | true => exact iteT (k.t rfl G1 σ H1 F Q (re.mono e1) o1 (mx.mono e1) (Fin.mono q e1))
    | false => exact iteF (q (dB false) M1 _ G1 H1 (k.f rfl) e1 (Rp.bl _) o1)
theorem se_orV (h : SE W ta ρ M fun d M' => IsB d fun b => Br b (K (dB true) M') (SE W tb ρ M' K)) : SE W (tOrV ta tb) ρ M K := fun G σ H F Q re o mx q =>
  h G σ H F _ re o mx fun d M1 v G1 H1 ⟨b, ed, k⟩ e1 r1 o1 => by
    subst ed
    refine ⟨b, bl_of r1, ?_⟩
    cases b with
    | true => exact iteT (q (dB true) M1 _ G1 H1 (k.t rfl) e1 (Rp.bl _) o1)
    | false => exact iteF (k.f rfl G1 σ H1 F Q (re.mono e1) o1 (mx.mono e1) (Fin.mono q e1))
theorem se_notV (h : SE W ta ρ M fun d M' => IsB d fun b => K (dB (!b)) M') : SE W (tNotV ta) ρ M K := fun G σ H F Q re o mx q =>
  h G σ H F _ re o mx fun d M1 v G1 H1 ⟨b, ed, k⟩ e1 r1 o1 => by
    subst ed
    exact ⟨b, bl_of r1, q _ M1 _ G1 H1 k e1 (Rp.bl _) o1⟩
theorem se_chain {r r' : R2} (h : SE W ta ρ M fun x M1 => SE W tb ρ M1 fun y M2 => OR r x y M2 fun z M3 => IsB z fun b => Br b (SE W tc ρ M3 fun w M4 => OR r' y w M4 K) (K (dB false) M3)) : SE W (tChain r r' ta tb tc) ρ M K := fun G σ H F Q re o mx q =>
  h G σ H F _ re o mx fun x M1 u G1 H1 k1 e1 r1 o1 => k1 G1 σ H1 F _ (re.mono e1) o1 (mx.mono e1) fun y M2 v G2 H2 k2 e2 r2 o2 =>
    k2 G2 H2 F u v _ (r1.mono e2) r2 o2 fun z M3 w G3 H3 ⟨b, ez, k3⟩ e3 r3 o3 => by
      subst ez
      refine ⟨b, bl_of r3, ?_⟩
      have e13 := e1.trans (e2.trans e3)
      cases b with
      | true => exact iteT (k3.t rfl G3 σ H3 F _ (re.mono e13) o3 (mx.mono e13) fun y4 M4 v4 G4 H4 k4 e4 r4 o4 => k4 G4 H4 F v v4 Q (r2.mono (e3.trans e4)) r4 o4 (Fin.mono q (e13.trans e4)))
      | false => exact iteF (q (dB false) M3 _ G3 H3 (k3.f rfl) e13 (Rp.bl _) o3)
theorem se_isN (h : SE W ta ρ M fun d M' => ∃ b, (∀ G v, RD G v d → decide (v = V.non) = b) ∧ K (dB b) M') : SE W (tIsN ta) ρ M K := fun G σ H F Q re o mx q =>
  h G σ H F _ re o mx fun d M1 v G1 H1 ⟨b, hb, k⟩ e1 r1 o1 => by
    show Q (.bl (decide (v = .non))) H1
    rw [hb G1 v r1]
    exact q _ M1 _ G1 H1 k e1 (Rp.bl _) o1

/-! ### arguments, calls -/
theorem sa_nil (k : KA [] M) : SA W tNil ρ M KA := fun G σ H F Q re o mx q => q [] M [] G H k (Ex.refl G) .nil o
theorem sa_cons {tr : TA} (h : SE W ta ρ M fun x M1 => SA W tr ρ M1 fun xs M2 => KA (x :: xs) M2) : SA W (tCons ta tr) ρ M KA := fun G σ H F Q re o mx q =>
  h G σ H F _ re o mx fun x M1 u G1 H1 k1 e1 r1 o1 => k1 G1 σ H1 F _ (re.mono e1) o1 (mx.mono e1) fun y M2 v G2 H2 k2 e2 r2 o2 => q (x :: y) M2 (u :: v) G2 H2 k2 (e1.trans e2) (.cons (r1.mono e2) r2) o2
theorem se_cb {r : List V → Hp → VK → Prop} {ta : TA} (h : SA W ta ρ M fun xs M1 => CR r xs M1 K) : SE W (tCB r ta) ρ M K := fun G σ H F Q re o mx q =>
  h G σ H F _ re o mx fun x M1 u G1 H1 k1 e1 r1 o1 => k1 G1 H1 F u Q r1 o1 (Fin.mono q e1)
/-- a def's promise over data -/
abbrev DSp := List D → Cells → (D → Cells → Prop) → (XD → Cells → Prop) → Prop
def FinX (G : Hp) (F : Cells) (KX : XD → Cells → Prop) (E : XK) : Prop := ∀ x M d G' H, KX x M → Ex G G' → XR G' H x d → Own G' (M ++ F) H → E x.cls d H
theorem FinX.mono {G G' : Hp} {F : Cells} {KX : XD → Cells → Prop} {E : XK} (h : FinX G F KX E) (e : Ex G G') : FinX G' F KX E := fun x M d G2 H k e2 => h x M d G2 H k (e.trans e2)
def spD (s : DSp) : Sp := fun vs H Q E => ∃ (G : Hp) (ds : List D) (M F : Cells) (K : D → Cells → Prop) (KX : XD → Cells → Prop), Own G (M ++ F) H ∧ RDs G vs ds ∧ s ds M K KX ∧ Fin G F K Q ∧ FinX G F KX E
theorem take_drop_app (M F : Cells) (n : Nat) : M ++ F = M.take n ++ (M.drop n ++ F) := by rw [← List.append_assoc, List.take_append_drop]
/-- a call that hands over the first n cells -/
theorem se_call (n : Nat) {s : DSp} {E : XK} {ta : TA} (hE : ∀ c d σ H, W.E c d σ H → E c d H)
    (h : SA W ta ρ M fun ds M1 => s ds (M1.take n) (fun d M' => K d (M' ++ M1.drop n)) fun x M' => W.K x ρ (M' ++ M1.drop n)) : SE W (tCall (spD s) [] E ta) ρ M K := fun G σ H F Q re o mx q =>
  h G σ H F _ re o mx fun ds M1 vs G1 H1 k1 e1 r1 o1 => by
    show spD s (vs ++ []) H1 Q E
    rw [List.append_nil]
    refine ⟨G1, ds, M1.take n, M1.drop n ++ F, _, _, by rw [← take_drop_app]; exact o1, r1, k1, fun d M' v G' H' k e r o' => ?_, fun x M' d G' H' k e xr o' => hE _ _ σ _ ?_⟩
    · refine q d (M' ++ M1.drop n) v G' H' k (e1.trans e) r ?_
      rw [List.append_assoc]
      exact o'
    · refine mx x ρ (M' ++ M1.drop n) d σ G' H' k (e1.trans e) xr (re.mono (e1.trans e)) ?_
      rw [List.append_assoc]
      exact o'
theorem se_call0 (n : Nat) {s : DSp} {ta : TA} (h : SA W0 ta ρ M fun ds M1 => s ds (M1.take n) (fun d M' => K d (M' ++ M1.drop n)) fun _ _ => False) : SE W0 (tCall (spD s) [] E0 ta) ρ M K := se_call n (fun _ _ _ _ z => z) h

/-! ### statements -/
theorem ss_seq {t u : TS} (h : SS W t ρ M { P with nx := fun ρ' M' => SS W u ρ' M' P }) : SS W (tSeq t u) ρ M P := fun G σ H F D re o mx md =>
  h G σ H F { D with nx := u D } re o mx ⟨fun ρ' M' σ' G' H' k e re' o' => k G' σ' H' F D re' o' (mx.mono e) (md.mono e), md.rt, md.bk, md.ct⟩
theorem ss_next (k : P.nx ρ M) : SS W tNext ρ M P := fun G σ H F D re o mx md => md.nx ρ M σ G H k (Ex.refl G) re o
theorem ss_break (k : P.bk ρ M) : SS W tBreak ρ M P := fun G σ H F D re o mx md => md.bk ρ M σ G H k (Ex.refl G) re o
theorem ss_cont (k : P.ct ρ M) : SS W tCont ρ M P := fun G σ H F D re o mx md => md.ct ρ M σ G H k (Ex.refl G) re o
theorem ss_ret (h : SE W te ρ M P.rt) : SS W (tRet te) ρ M P := fun G σ H F D re o mx md => h G σ H F _ re o mx md.rt
theorem ss_drop (h : SE W te ρ M fun _ M' => P.nx ρ M') : SS W (tDrop te) ρ M P := fun G σ H F D re o mx md =>
  h G σ H F _ re o mx fun d M1 v G1 H1 k e1 r1 o1 => md.nx ρ M1 σ G1 H1 k e1 (re.mono e1) o1
theorem ss_if {t1 t2 : TS} (h : ST W t ρ M fun b M' => Br b (SS W t1 ρ M' P) (SS W t2 ρ M' P)) : SS W (tIfS t t1 t2) ρ M P := fun G σ H F D re o mx md =>
  h G σ H F _ re o mx fun b M1 G1 H1 k e1 o1 => by
    cases b with
    | true => exact iteT (k.t rfl G1 σ H1 F D (re.mono e1) o1 (mx.mono e1) (md.mono e1))
    | false => exact iteF (k.f rfl G1 σ H1 F D (re.mono e1) o1 (mx.mono e1) (md.mono e1))
theorem sg_name {i : Nat} {d : D} (k : KE (ρ.set i (some d)) M) : SG W (gName i) d ρ M KE := fun G σ H F v Q r re o mx q => q _ M _ G H k (Ex.refl G) (re.set r i) o
theorem ss_asg {g : TG} (h : SE W te ρ M fun d M' => SG W g d ρ M' P.nx) : SS W (tAsg te g) ρ M P := fun G σ H F D re o mx md =>
  h G σ H F _ re o mx fun d M1 v G1 H1 k e1 r1 o1 => k G1 σ H1 F v _ r1 (re.mono e1) o1 (mx.mono e1) (FinE.mono md.nx e1)
theorem ss_set {i : Nat} (h : SE W te ρ M fun d M' => P.nx (ρ.set i (some d)) M') : SS W (tAsg te (gName i)) ρ M P := ss_asg (h.imp fun _ _ k => sg_name k)
theorem sgs_nil (k : KE ρ M) : SGs W gNil [] ρ M KE := fun G σ H F vs Q r re o mx q => by
  cases r
  exact ⟨rfl, q ρ M σ G H k (Ex.refl G) re o⟩
theorem sgs_cons {g : TG} {gs : TGs} {d : D} {ds : List D} (h : SG W g d ρ M fun ρ' M' => SGs W gs ds ρ' M' KE) : SGs W (gCons g gs) (d :: ds) ρ M KE := fun G σ H F vs Q r re o mx q => by
  cases r with
  | cons r1 rr =>
    exact ⟨_, _, rfl, h G σ H F _ _ r1 re o mx fun ρ' M' σ' G' H' k e re' o' => k G' σ' H' F _ Q (RDs.mono e rr) re' o' (mx.mono e) (FinE.mono q e)⟩
theorem sg_tup {n : Nat} {gs : TGs} {ps : List PyData} (hn : ps.length = n) (h : SGs W gs (ps.map D.py) ρ M KE) : SG W (gTup Kf n gs) (dT ps) ρ M KE := fun G σ H F v Q r re o mx q => by
  cases r with
  | tup ha hr => exact ⟨_, _, rfl, SqT.of (o.ex _ _ ha), by rw [← hn]; exact hr.length, h G σ H F _ Q (RDs.of hr) re o mx q⟩
theorem ss_par {i j : Nat} {ta : TA} (h : SA W ta ρ M fun ds M' => ∃ a b, ds = [a, b] ∧ P.nx ((ρ.set i (some a)).set j (some b)) M') : SS W (tPar i j ta) ρ M P := fun G σ H F D re o mx md =>
  h G σ H F _ re o mx fun ds M1 vs G1 H1 ⟨a, b, ed, k⟩ e1 r1 o1 => by
    subst ed
    cases r1 with
    | cons ra rr =>
      cases rr with
      | cons rb rn =>
        cases rn
        exact ⟨_, _, rfl, md.nx _ M1 _ G1 H1 k e1 (((re.mono e1).set ra i).set rb j) o1⟩
theorem ss_augI {i : Nat} {f : Int → Int → Int} {a : Int} (ha : ρ[i]? = some (some (dI a))) (h : SE W te ρ M fun d M' => IsI d fun b => P.nx (ρ.set i (some (dI (f a b)))) M') : SS W (tAug i te (ipI f)) ρ M P := fun G σ H F D re o mx md => by
  obtain ⟨v, ev, rv⟩ := re.get ha
  refine ⟨v, ev, h G σ H F _ re o mx fun d M1 w G1 H1 ⟨b, ed, k⟩ e1 r1 o1 => ?_⟩
  subst ed
  exact ⟨a, b, int_of rv, int_of r1, md.nx _ M1 _ G1 H1 k e1 ((re.mono e1).set (d := dI (f a b)) (Rp.int _) i) o1⟩
theorem ss_while {tb : TS} (I : Nat → Rho → Cells → Prop) (m0 : Nat) (h0 : I m0 ρ M)
    (hs : ∀ m ρ' M', I m ρ' M' → ST W t ρ' M' fun b M1 => Br b (SS W tb ρ' M1 { P with nx := fun ρ2 M2 => ∃ m', m' < m ∧ I m' ρ2 M2, ct := fun ρ2 M2 => ∃ m', m' < m ∧ I m' ρ2 M2, bk := P.nx }) (P.nx ρ' M1)) : SS W (tWhile t tb) ρ M P := fun G σ H F D re o mx md => by
  refine ⟨fun m σ' H' => ∃ ρ' M' G', Ex G G' ∧ REnv G' σ' ρ' ∧ Own G' (M' ++ F) H' ∧ I m ρ' M', ⟨m0, ρ, M, G, Ex.refl G, re, o, h0⟩, ?_⟩
  rintro m σ' H' ⟨ρ', M', G', e, re', o', i'⟩
  refine hs m ρ' M' i' G' σ' H' F _ re' o' (mx.mono e) fun b M1 G1 H1 k e1 o1 => ?_
  cases b with
  | true =>
    refine iteT ⟨fun σ2 H2 => ∃ ρ2 M2 G2, Ex G G2 ∧ REnv G2 σ2 ρ2 ∧ Own G2 (M2 ++ F) H2 ∧ ∃ m', m' < m ∧ I m' ρ2 M2, fun σ2 H2 => ?_, ?_⟩
    · rintro ⟨ρ2, M2, G2, a1, a2, a3, m', a4, a5⟩
      exact ⟨m', a4, ρ2, M2, G2, a1, a2, a3, a5⟩
    · refine k.t rfl G1 σ' H1 F _ (re'.mono e1) o1 (mx.mono (e.trans e1)) ⟨fun ρ2 M2 σ2 G2 H2 k2 e2 r2 o2 => ?_, (md.mono (e.trans e1)).rt, (md.mono (e.trans e1)).nx, fun ρ2 M2 σ2 G2 H2 k2 e2 r2 o2 => ?_⟩
      · exact ⟨ρ2, M2, G2, e.trans (e1.trans e2), r2, o2, k2⟩
      · exact ⟨ρ2, M2, G2, e.trans (e1.trans e2), r2, o2, k2⟩
  | false => exact iteF (md.nx ρ' M1 σ' G1 H1 (k.f rfl) (e.trans e1) (re'.mono e1) o1)
end

/-! ### what a for walks -/
structure DW (J : It) (G : Hp) (n : Nat) (Y : Nat → D → Prop) (C : Cells → Prop) : Prop where
  ex : ∃ (Gw : Hp → Prop) (Yw : Nat → Hp → V → Hp → Prop), Walk J n Gw Yw ∧ (∀ F G' M H, Ex G G' → Own G' (M ++ F) H → C M → Gw H) ∧
    ∀ F i G' M H x H', i < n → Ex G G' → Own G' (M ++ F) H → C M → Yw i H x H' → ∃ G2 d, Ex G' G2 ∧ RD G2 x d ∧ Y i d ∧ Own G2 (M ++ F) H'
def SI (W : WD) (wi : TI) (ρ : Rho) (M : Cells) (R : Nat → (Nat → D → Prop) → (Cells → Prop) → Cells → Prop) : Prop :=
  ∀ (G : Hp) (σ : St) (H : Hp) (F : Cells) (Q : It → Hp → Prop), REnv G σ ρ → Own G (M ++ F) H → MatchX G F W → (∀ n Y C M' G' H' J, R n Y C M' → Ex G G' → Own G' (M' ++ F) H' → DW J G' n Y C → Q J H') → wi σ H Q
section
variable {W : WD} {ρ : Rho} {M : Cells} {P : PD} {Kf : PySem.W.Frag} {g : TG} {tb : TS} {wi : TI}
theorem ss_for (h : SI W wi ρ M fun n Y C M1 => ∃ I : Nat → Rho → Cells → Prop, I 0 ρ M1 ∧ (∀ i ρ' M', i ≤ n → I i ρ' M' → C M') ∧
      (∀ i d ρ' M', i < n → Y i d → I i ρ' M' → SG W g d ρ' M' fun ρ2 M2 => SS W tb ρ2 M2 { P with nx := I (i + 1), ct := I (i + 1), bk := P.nx }) ∧ ∀ ρ' M', I n ρ' M' → P.nx ρ' M') : SS W (tFor wi g tb) ρ M P := fun G σ H F D re o mx md =>
  h G σ H F _ re o mx fun n Y C M1 G1 H1 J ⟨I, i0, iC, is, id⟩ e1 o1 dw => by
    obtain ⟨Gw, Yw, w, hG, hY⟩ := dw.ex
    refine for_it w (fun i σ' H' => ∃ ρ' M' G', Ex G1 G' ∧ REnv G' σ' ρ' ∧ Own G' (M' ++ F) H' ∧ I i ρ' M') ⟨ρ, M1, G1, Ex.refl G1, re.mono e1, o1, i0⟩ ?_ ?_ ?_
    · rintro i σ' H' hi ⟨ρ', M', G', e, r, o', i'⟩
      exact hG F G' M' H' e o' (iC i ρ' M' hi i')
    · rintro i x σ' H' H2 hi ⟨ρ', M', G', e, r, o', i'⟩ y
      obtain ⟨G2, d, e2, rd, yd, o2⟩ := hY F i G' M' H' x H2 hi e o' (iC i ρ' M' (Nat.le_of_lt hi) i') y
      have e3 := e1.trans (e.trans e2)
      refine is i d ρ' M' hi yd i' G2 σ' H2 F x _ rd (r.mono e2) o2 (mx.mono e3) fun ρ4 M4 σ4 G4 H4 k4 e4 r4 o4 => ?_
      have e5 := e3.trans e4
      refine k4 G4 σ4 H4 F _ r4 o4 (mx.mono e5) ⟨fun ρ6 M6 σ6 G6 H6 k6 e6 r6 o6 => ?_, (md.mono e5).rt, (md.mono e5).nx, fun ρ6 M6 σ6 G6 H6 k6 e6 r6 o6 => ?_⟩
      · exact ⟨ρ6, M6, G6, (e.trans e2).trans (e4.trans e6), r6, o6, k6⟩
      · exact ⟨ρ6, M6, G6, (e.trans e2).trans (e4.trans e6), r6, o6, k6⟩
    · rintro σ' H' ⟨ρ', M', G', e, r, o', i'⟩
      exact md.nx ρ' M' σ' G' H' (id ρ' M' i') (e1.trans e) r o'
/-- over data: the items one by one -/
abbrev YL (ps : List PyData) : Nat → D → Prop := fun i d => ∃ p, ps[i]? = some p ∧ d = .py p
theorem dw_list {G : Hp} {a : Addr} {ps : List PyData} (h : Rp G (.ref a) (.list ps)) : DW (Itl Kf a) G ps.length (YL ps) fun _ => True := by
  cases h with
  | lst ha r =>
    refine ⟨fun H => SqL Kf H a _, _, by rw [← r.length]; exact walk_list, fun _ G' M H e o _ => SqL.of (o.ex _ _ (e _ _ ha)), ?_⟩
    rintro F' i G' M H x H' hi e o _ ⟨rfl, hx⟩
    obtain ⟨p, hp, rp⟩ := r.getV hx
    exact ⟨G', .py p, Ex.refl G', rp.mono e, ⟨p, hp, rfl⟩, o⟩
theorem dw_tup {G : Hp} {a : Addr} {ps : List PyData} (h : Rp G (.ref a) (.tuple ps)) : DW (Itt Kf a) G ps.length (YL ps) fun _ => True := by
  cases h with
  | tup ha r =>
    refine ⟨fun H => SqT Kf H a _, _, by rw [← r.length]; exact walk_tup, fun _ G' M H e o _ => SqT.of (o.ex _ _ (e _ _ ha)), ?_⟩
    rintro F' i G' M H x H' hi e o _ ⟨rfl, hx⟩
    obtain ⟨p, hp, rp⟩ := r.getV hx
    exact ⟨G', .py p, Ex.refl G', rp.mono e, ⟨p, hp, rfl⟩, o⟩
theorem si_list {tl : TE} {R : Nat → (Nat → D → Prop) → (Cells → Prop) → Cells → Prop} (h : SE W tl ρ M fun d M1 => ∃ ps, d = dL ps ∧ R ps.length (YL ps) (fun _ => True) M1) : SI W (iList Kf tl) ρ M R := fun G σ H F Q re o mx q =>
  h G σ H F _ re o mx fun d M1 v G1 H1 ⟨ps, ed, k⟩ e1 r1 o1 => by
    subst ed
    have r1' : Rp G1 v (.list ps) := r1
    cases r1' with
    | lst ha r => exact ⟨_, rfl, ⟨_, SqL.of (o1.ex _ _ ha)⟩, q _ _ _ M1 G1 H1 _ k e1 o1 (dw_list (.lst ha r))⟩
theorem si_tup {tl : TE} {R : Nat → (Nat → D → Prop) → (Cells → Prop) → Cells → Prop} (h : SE W tl ρ M fun d M1 => ∃ ps, d = dT ps ∧ R ps.length (YL ps) (fun _ => True) M1) : SI W (iTup Kf tl) ρ M R := fun G σ H F Q re o mx q =>
  h G σ H F _ re o mx fun d M1 v G1 H1 ⟨ps, ed, k⟩ e1 r1 o1 => by
    subst ed
    have r1' : Rp G1 v (.tuple ps) := r1
    cases r1' with
    | tup ha r => exact ⟨_, rfl, ⟨_, SqT.of (o1.ex _ _ ha)⟩, q _ _ _ M1 G1 H1 _ k e1 o1 (dw_tup (.tup ha r))⟩
/-- over a cell's list -/
theorem si_cell {tl : TE} {R : Nat → (Nat → D → Prop) → (Cells → Prop) → Cells → Prop}
    (h : SE W tl ρ M fun d M1 => ∃ j p ds, d = dR p ∧ CA M1 j p (.lst ds) ∧ R ds.length (fun i d => ds[i]? = some d) (fun M' => CA M' j p (.lst ds)) M1) : SI W (iList Kf tl) ρ M R := fun G σ H F Q re o mx q =>
  h G σ H F _ re o mx fun d M1 v G1 H1 ⟨j, p, ds, ed, hc, k⟩ e1 r1 o1 => by
    subst ed
    cases r1
    obtain ⟨vs, hv, rv⟩ := o1.at hc
    refine ⟨p, rfl, ⟨vs, SqL.of hv⟩, q _ _ _ M1 G1 H1 _ k e1 o1 ⟨fun H => ∃ vs, H p = some (.lst vs) ∧ vs.length = ds.length, fun i H x H' => H' = H ∧ ∀ vs, H p = some (.lst vs) → vs[i]? = some x, ?_, fun F' G' M' H' e o' c => ?_, ?_⟩⟩
    · refine ⟨fun i H hi ⟨vs, hv, hl⟩ => ⟨vs, vs[i]'(by omega), SqL.of hv, by simp [show i < vs.length by omega]⟩, fun H ⟨vs, hv, hl⟩ => ⟨vs, SqL.of hv, Nat.le_of_eq hl⟩, fun i H x H' hi _ y => ⟨y.1, fun vs hv => y.2 vs (SqL.of hv)⟩⟩
    · obtain ⟨vs', hv', rv'⟩ := o'.at c
      exact ⟨vs', hv', rv'.length⟩
    · rintro F' i G' M' H' x H2 hi e o' c ⟨rfl, hx⟩
      obtain ⟨vs', hv', rv'⟩ := o'.at c
      obtain ⟨d, hd⟩ : ∃ d, ds[i]? = some d := ⟨ds[i], by simp [hi]⟩
      obtain ⟨v', hv2, rd⟩ := rv'.get hd
      have := (hx vs' hv').symm.trans hv2
      cases this
      exact ⟨G', d, Ex.refl G', rd, hd, o'⟩
theorem dw_range {G : Hp} {lo : Int} {n : Nat} : DW (Itr lo n) G n (fun i d => d = dI (lo + (i : Int))) fun _ => True := by
  refine ⟨fun _ => True, _, walk_range, fun _ _ _ _ _ _ _ => trivial, ?_⟩
  rintro F' i G' M H x H' hi e o _ ⟨rfl, rfl⟩
  exact ⟨G', dI _, Ex.refl G', Rp.int _, rfl, o⟩
theorem si_range1 {ta : TA} {R : Nat → (Nat → D → Prop) → (Cells → Prop) → Cells → Prop} (h : SA W ta ρ M fun ds M1 => ∃ j : Int, ds = [dI j] ∧ -(2 ^ 62) ≤ j ∧ j < 2 ^ 62 ∧ R j.toNat (fun i d => d = dI (i : Int)) (fun _ => True) M1) : SI W (iRng1 ta) ρ M R := fun G σ H F Q re o mx q =>
  h G σ H F _ re o mx fun ds M1 vs G1 H1 ⟨j, ed, h1, h2, k⟩ e1 r1 o1 => by
    subst ed
    cases r1 with
    | cons ra rn =>
      cases rn
      cases int_of ra
      refine ⟨j, rfl, h1, h2, q _ _ _ M1 G1 H1 _ k e1 o1 ?_⟩
      have z := dw_range (G := G1) (lo := 0) (n := j.toNat)
      simp only [Int.zero_add] at z
      exact z
theorem si_range2 {ta : TA} {R : Nat → (Nat → D → Prop) → (Cells → Prop) → Cells → Prop} (h : SA W ta ρ M fun ds M1 => ∃ i j : Int, ds = [dI i, dI j] ∧ (-(2 ^ 62) ≤ i ∧ i < 2 ^ 62 ∧ -(2 ^ 62) ≤ j ∧ j < 2 ^ 62) ∧ R (j - i).toNat (fun k d => d = dI (i + (k : Int))) (fun _ => True) M1) : SI W (iRng2 ta) ρ M R := fun G σ H F Q re o mx q =>
  h G σ H F _ re o mx fun ds M1 vs G1 H1 ⟨i, j, ed, h1, k⟩ e1 r1 o1 => by
    subst ed
    cases r1 with
    | cons ra rn =>
      cases rn with
      | cons rb rn =>
        cases rn
        cases int_of ra
        cases int_of rb
        exact ⟨i, j, rfl, h1, q _ _ _ M1 G1 H1 _ k e1 o1 dw_range⟩
theorem si_range3 {ta : TA} {R : Nat → (Nat → D → Prop) → (Cells → Prop) → Cells → Prop} (h : SA W ta ρ M fun ds M1 => ∃ (i j c : Int) (n : Nat), ds = [dI i, dI j, dI c] ∧ RgC i j c n ∧ R n (fun k d => d = dI (i + (k : Nat) * c)) (fun _ => True) M1) : SI W (iRng3 ta) ρ M R := fun G σ H F Q re o mx q =>
  h G σ H F _ re o mx fun ds M1 vs G1 H1 ⟨i, j, c, n, ed, h1, k⟩ e1 r1 o1 => by
    subst ed
    cases r1 with
    | cons ra rn =>
      cases rn with
      | cons rb rn =>
        cases rn with
        | cons rc rn =>
          cases rn
          cases int_of ra
          cases int_of rb
          cases int_of rc
          refine ⟨i, j, c, n, rfl, h1, q _ _ _ M1 G1 H1 _ k e1 o1 ⟨fun _ => True, _, walk_rangeC, fun _ _ _ _ _ _ _ => trivial, ?_⟩⟩
          rintro F' i' G' M' H' x H2 hi e o' _ ⟨rfl, rfl⟩
          exact ⟨G', dI _, Ex.refl G', Rp.int _, rfl, o'⟩
theorem si_str {te : TE} {R : Nat → (Nat → D → Prop) → (Cells → Prop) → Cells → Prop} (h : SE W te ρ M fun d M1 => ∃ x, d = dS x ∧ R x.cps.size (fun i d => ∃ c, x.cps[i]? = some c ∧ d = dS ⟨#[c]⟩) (fun _ => True) M1) : SI W (iStr te) ρ M R := fun G σ H F Q re o mx q =>
  h G σ H F _ re o mx fun d M1 v G1 H1 ⟨x, ed, k⟩ e1 r1 o1 => by
    subst ed
    cases str_of r1
    refine ⟨x, rfl, q _ _ _ M1 G1 H1 _ k e1 o1 ⟨fun _ => True, _, walk_str, fun _ _ _ _ _ _ _ => trivial, ?_⟩⟩
    rintro F' i' G' M' H' x' H2 hi e o' _ ⟨rfl, c, hc, rfl⟩
    exact ⟨G', dS _, Ex.refl G', Rp.str _, ⟨c, hc, rfl⟩, o'⟩
/-- a new pair of data, as a turn gives it -/
theorem pair_new {G : Hp} {M F : Cells} {H : Hp} {x y : V} {p q : PyData} {T : Addr} (o : Own G (M ++ F) H) (hT : H T = none) (hx : Rp G x p) (hy : Rp G y q) :
    ∃ G2 d, Ex G G2 ∧ RD G2 (.ref T) d ∧ d = dT [p, q] ∧ Own G2 (M ++ F) (upd H T (.tup [x, y])) := by
  have e : Ex G (upd G T (.tup [x, y])) := Ex.new (o.ex.free hT)
  exact ⟨upd G T (.tup [x, y]), dT [p, q], e, Rp.tup upd_same (.cons (hx.mono e) (.cons (hy.mono e) .nil)), rfl, o.push hT _⟩
theorem si_enum {ta : TA} {R : Nat → (Nat → D → Prop) → (Cells → Prop) → Cells → Prop} (h : SA W ta ρ M fun ds M1 => ∃ ps, ds = [dL ps] ∧ R ps.length (fun i d => ∃ p, ps[i]? = some p ∧ d = dT [.int (i : Int), p]) (fun _ => True) M1) : SI W (iEnum Kf ta) ρ M R := fun G σ H F Q re o mx q =>
  h G σ H F _ re o mx fun ds M1 vs G1 H1 ⟨ps, ed, k⟩ e1 r1 o1 => by
    subst ed
    cases r1 with
    | cons ra rn =>
      cases rn
      have ra' : Rp G1 _ (.list ps) := ra
      cases ra' with
      | lst ha r =>
        refine ⟨_, _, rfl, SqL.of (o1.ex _ _ ha), q _ _ _ M1 G1 H1 _ k e1 o1 ⟨fun H => SqL Kf H _ _, _, by rw [← r.length]; exact walk_enum, fun _ G' M H e o _ => SqL.of (o.ex _ _ (e _ _ ha)), ?_⟩⟩
        rintro F' i G' M' H' x H2 hi e o' _ ⟨T, y, z, rfl, hT, rfl, hy, hz⟩
        cases hy
        obtain ⟨p, hp, rp⟩ := r.getV hz
        obtain ⟨G2, d, a1, a2, a3, a4⟩ := pair_new o' hT (Rp.int (i : Int)) (rp.mono e)
        exact ⟨G2, d, a1, a2, ⟨p, hp, a3⟩, a4⟩
theorem si_zip {ta : TA} {R : Nat → (Nat → D → Prop) → (Cells → Prop) → Cells → Prop} (h : SA W ta ρ M fun ds M1 => ∃ ps qs, ds = [dL ps, dL qs] ∧ R (min ps.length qs.length) (fun i d => ∃ p q, ps[i]? = some p ∧ qs[i]? = some q ∧ d = dT [p, q]) (fun _ => True) M1) : SI W (iZip Kf ta) ρ M R := fun G σ H F Q re o mx q =>
  h G σ H F _ re o mx fun ds M1 vs G1 H1 ⟨ps, qs, ed, k⟩ e1 r1 o1 => by
    subst ed
    cases r1 with
    | cons ra rn =>
      cases rn with
      | cons rb rn =>
        cases rn
        have ra' : Rp G1 _ (.list ps) := ra
        have rb' : Rp G1 _ (.list qs) := rb
        cases ra' with
        | lst ha r =>
          cases rb' with
          | lst hb r' =>
            refine ⟨_, _, _, _, rfl, SqL.of (o1.ex _ _ ha), SqL.of (o1.ex _ _ hb), q _ _ _ M1 G1 H1 _ k e1 o1 ⟨fun H => SqL Kf H _ _ ∧ SqL Kf H _ _, _, walk_zip (by rw [r.length, r'.length]), fun _ G' M H e o _ => ⟨SqL.of (o.ex _ _ (e _ _ ha)), SqL.of (o.ex _ _ (e _ _ hb))⟩, ?_⟩⟩
            rintro F' i G' M' H' x H2 hi e o' _ ⟨T, y, z, rfl, hT, rfl, hy, hz⟩
            obtain ⟨p, hp, rp⟩ := r.getV hy
            obtain ⟨p2, hp2, rp2⟩ := r'.getV hz
            obtain ⟨G2, d, a1, a2, a3, a4⟩ := pair_new o' hT (rp.mono e) (rp2.mono e)
            exact ⟨G2, d, a1, a2, ⟨p, p2, hp, hp2, a3⟩, a4⟩
end
end PL

/-! PL3: comprehensions, defs' promises, lists, texts, dicts, instances over data. -/
namespace PL
open PySem PySem.Spec L2

/-! ### comprehensions -/
def GW (g : TG) (vs : List Nat) : Prop := ∀ v σ H (Q : St → Hp → Prop), (g v σ H fun σ2 H2 => wipe σ2 vs = wipe σ vs → Q σ2 H2) → g v σ H Q
def GWs (g : TGs) (vs : List Nat) : Prop := ∀ us σ H (Q : St → Hp → Prop), (g us σ H fun σ2 H2 => wipe σ2 vs = wipe σ vs → Q σ2 H2) → g us σ H Q
theorem wipe_set {x : Option V} {j : Nat} : ∀ {vs : List Nat} (σ : St), j ∈ vs → wipe (σ.set j x) vs = wipe σ vs
  | v :: vs, σ, h => by
    show (wipe (σ.set j x) vs).set v none = (wipe σ vs).set v none
    by_cases hm : j ∈ vs
    · rw [wipe_set σ hm]
    · have e : j = v := by
        rcases List.mem_cons.mp h with h | h
        · exact h
        · exact absurd h hm
      subst e
      have comm : ∀ ws : List Nat, j ∉ ws → wipe (σ.set j x) ws = (wipe σ ws).set j x := by
        intro ws
        induction ws with
        | nil => intro _; rfl
        | cons w ws ih =>
          intro hn
          simp only [List.mem_cons, not_or] at hn
          show (wipe (σ.set j x) ws).set w none = ((wipe σ ws).set w none).set j x
          rw [ih hn.2, List.set_comm _ _ (fun e => hn.1 e)]
      rw [comm vs hm, List.set_set]
theorem gw_name {j : Nat} {vs : List Nat} (h : j ∈ vs := by decide) : GW (gName j) vs := fun v σ H Q q => q (wipe_set σ h)
theorem gws_nil {vs : List Nat} : GWs gNil vs := fun us σ H Q ⟨e, q⟩ => ⟨e, q rfl⟩
theorem GW.weak {g : TG} {vs : List Nat} (h : GW g vs) {v : V} {σ : St} {H : Hp} {Q : St → Hp → Prop} (q : g v σ H Q) (mono : ∀ {Q Q' : St → Hp → Prop}, (∀ a b, Q a b → Q' a b) → g v σ H Q → g v σ H Q') : g v σ H fun σ2 H2 => Q σ2 H2 := q
/-- a target's reading is monotone, and leaves all but vs -/
structure GOk (g : TG) (vs : List Nat) : Prop where
  w : ∀ v σ H (Q Q' : St → Hp → Prop), (∀ σ2 H2, wipe σ2 vs = wipe σ vs → Q σ2 H2 → Q' σ2 H2) → g v σ H Q → g v σ H Q'
structure GOks (g : TGs) (vs : List Nat) : Prop where
  w : ∀ us σ H (Q Q' : St → Hp → Prop), (∀ σ2 H2, wipe σ2 vs = wipe σ vs → Q σ2 H2 → Q' σ2 H2) → g us σ H Q → g us σ H Q'
theorem gok_name {j : Nat} {vs : List Nat} (h : j ∈ vs := by decide) : GOk (gName j) vs := ⟨fun v σ H Q Q' m q => m _ _ (wipe_set σ h) q⟩
theorem goks_nil {vs : List Nat} : GOks gNil vs := ⟨fun us σ H Q Q' m ⟨e, q⟩ => ⟨e, m _ _ rfl q⟩⟩
theorem goks_cons {g : TG} {gs : TGs} {vs : List Nat} (h : GOk g vs) (hs : GOks gs vs) : GOks (gCons g gs) vs := ⟨fun us σ H Q Q' m ⟨v, r, e, q⟩ => ⟨v, r, e, h.w v σ H _ _ (fun σ2 H2 e2 q2 => hs.w r σ2 H2 _ _ (fun σ3 H3 e3 q3 => m σ3 H3 (e3.trans e2) q3) q2) q⟩⟩
theorem gok_tup {K : PySem.W.Frag} {n : Nat} {gs : TGs} {vs : List Nat} (hs : GOks gs vs) : GOk (gTup K n gs) vs := ⟨fun v σ H Q Q' m ⟨a, xs, e, h1, h2, q⟩ => ⟨a, xs, e, h1, h2, hs.w xs σ H _ _ m q⟩⟩
def wipeE (ρ : Rho) : List Nat → Rho
  | [] => ρ
  | v :: vs => (wipeE ρ vs).set v none
theorem REnv.setN {G : Hp} {x : Option V} : ∀ {σ : St} {ρ : Rho} (i : Nat), REnv G σ ρ → REnv G (σ.set i x) (ρ.set i Option.none)
  | _, _, _, .nil => .nil
  | _, _, 0, .some _ r => .none r
  | _, _, 0, .none r => .none r
  | _, _, i + 1, .some q r => .some q (REnv.setN i r)
  | _, _, i + 1, .none r => .none (REnv.setN i r)
theorem REnv.wipe {G : Hp} {σ : St} {ρ : Rho} (h : REnv G σ ρ) : ∀ vs : List Nat, REnv G (L2.wipe σ vs) (wipeE ρ vs)
  | [] => h
  | v :: vs => (REnv.wipe h vs).setN v
section
variable {W : WD} {ρ : Rho} {M : Cells} {K : D → Cells → Prop} {KA : List D → Cells → Prop} {ta tb te tc : TE} {t u : TT} {P : PD} {Kf : PySem.W.Frag} {wi : TI} {g : TG}
theorem own_swap {G H : Hp} {M F : Cells} {p : Addr} {c : Cell} (o : Own G ((M ++ [(p, c)]) ++ F) H) : Own G (M ++ ((p, c) :: F)) H := by
  rw [List.append_assoc] at o
  exact o
theorem own_store {G H : Hp} {M F : Cells} {p : Addr} {c c' : Cell} {u : HO} (o : Own G (M ++ ((p, c) :: F)) H) (hc : CellR G (upd H p u) p c') : Own G (M ++ ((p, c') :: F)) (upd H p u) := by
  have hm : (p, c) ∈ M ++ ((p, c) :: F) := List.mem_append_right _ (List.mem_cons_self ..)
  have nd := o.nd
  rw [List.map_append, List.map_cons, List.nodup_append] at nd
  have hF : p ∉ F.map (·.1) := (List.nodup_cons.mp nd.2.1).1
  have hM : p ∉ M.map (·.1) := fun h => nd.2.2 p h p (List.mem_cons_self ..) rfl
  have sp : ∀ q ∈ M ++ ((p, c') :: F), q = (p, c') ∨ (q ∈ M ++ ((p, c) :: F) ∧ q.1 ≠ p) := fun q hq => by
    rcases List.mem_append.mp hq with z | z
    · exact .inr ⟨List.mem_append_left _ z, fun e => hM (e ▸ List.mem_map_of_mem z)⟩
    · rcases List.mem_cons.mp z with z | z
      · exact .inl z
      · exact .inr ⟨List.mem_append_right _ (List.mem_cons_of_mem _ z), fun e => hF (e ▸ List.mem_map_of_mem z)⟩
  refine ⟨o.ex.mut (o.fr (p, c) hm), ?_, fun q hq => ?_, fun q hq => ?_⟩
  · have h2 := o.nd
    rw [List.map_append, List.map_cons] at h2 ⊢
    exact h2
  · rcases sp q hq with rfl | ⟨z, _⟩
    · exact o.fr (p, c) hm
    · exact o.fr q z
  · rcases sp q hq with rfl | ⟨z, ne⟩
    · exact hc
    · exact (o.ok q z).mono (Ex.refl G) (upd_ne ne)
theorem own_ne {G H : Hp} {M F : Cells} {p : Addr} {c : Cell} (o : Own G (M ++ ((p, c) :: F)) H) : ∀ q ∈ M ++ F, q.1 ≠ p := by
  have nd := o.nd
  rw [List.map_append, List.map_cons, List.nodup_append] at nd
  intro q hq e
  rcases List.mem_append.mp hq with z | z
  · exact nd.2.2 q.1 (List.mem_map_of_mem z) p (List.mem_cons_self ..) e
  · refine (List.nodup_cons.mp nd.2.1).1 ?_
    show p ∈ F.map (·.1)
    rw [← e]
    exact List.mem_map_of_mem z
theorem wipe_getD (σ : St) : ∀ (vs : List Nat) (i : Nat), (L2.wipe σ vs)[i]? = if i ∈ vs ∧ i < σ.length then some none else σ[i]?
  | [], i => by simp [L2.wipe]
  | v :: vs, i => by
    show ((L2.wipe σ vs).set v none)[i]? = _
    rw [List.getElem?_set, wipe_getD σ vs i, wipe_length]
    by_cases e : v = i
    · subst e
      by_cases hl : v < σ.length
      · simp [hl]
      · simp [hl, List.getElem?_eq_none (Nat.le_of_not_lt hl)]
    · have e' : ¬ i = v := fun z => e z.symm
      simp [e, e']
theorem wipe_wipe (σ : St) (vs : List Nat) : L2.wipe (L2.wipe σ vs) vs = L2.wipe σ vs := by
  apply List.ext_getElem?
  intro i
  rw [wipe_getD, wipe_getD, wipe_length]
  split <;> simp_all
theorem se_lc {vs : List Nat} (hg : GOk g vs) (h : SI W wi ρ M fun n Y C M1 => n ≤ 1000000 ∧ ∃ I : Nat → List D → Cells → Prop, I 0 [] M1 ∧ (∀ i acc M', i ≤ n → I i acc M' → C M') ∧
      (∀ i d acc M', i < n → acc.length ≤ i → Y i d → I i acc M' → SG W0 g d (wipeE ρ vs) M' fun ρ2 M2 => ST W0 t ρ2 M2 fun b M3 => Br b (SE W0 te ρ2 M3 fun e M4 => I (i + 1) (acc ++ [e]) M4) (I (i + 1) acc M3)) ∧
      ∀ acc M', I n acc M' → (∃ ps, acc = ps.map D.py ∧ K (dL ps) M') ∨ ∀ p, K (dR p) (M' ++ [(p, .lst acc)])) : SE W (tLc wi g t te vs) ρ M K := fun G σ H F Q re o mx q =>
  h G σ H F _ re o mx fun n Y C M1 G1 H1 J ⟨hn, I, i0, iC, is, id⟩ e1 o1 dw => by
    obtain ⟨Gw, Yw, w, hG, hY⟩ := dw.ex
    intro D hD
    refine lc_it w (fun i H' => ∃ acc M' G', Ex G1 G' ∧ Own G' (M' ++ ((D, .lst acc) :: F)) H' ∧ acc.length ≤ i ∧ I i acc M') ⟨[], M1, G1, Ex.refl G1, own_swap (o1.cell hD ⟨[], upd_same, .nil⟩), Nat.le_refl _, i0⟩ ?_ ?_ ?_
    · rintro i H' hi ⟨acc, M', G', e, o', hl, i'⟩
      exact hG F G' M' H' e (o'.sub (List.Sublist.append (List.Sublist.refl M') (List.sublist_cons_self _ F))) (iC i acc M' hi i')
    · rintro i x H' H2 hi ⟨acc, M', G', e, o', hl, i'⟩ y
      obtain ⟨G2, d, e2, rd, yd, o2⟩ := hY _ i G' M' H' x H2 hi e o' (iC i acc M' (Nat.le_of_lt hi) i') y
      have e3 := e1.trans (e.trans e2)
      refine hg.w x (L2.wipe σ vs) H2 (fun σ3 H3 => t σ3 H3 fun b H4 => if b = true then te σ3 H4 fun y H5 => ∃ ac, H5 D = some (.lst ac) ∧ ac.length < sizeLine ∧ _ else _) _ (fun σ3 H3 w3 q3 => ⟨by rw [w3]; exact wipe_wipe σ vs, q3⟩) ?_
      refine is i d acc M' hi hl yd i' G2 (L2.wipe σ vs) H2 ((D, .lst acc) :: F) x _ rd ((re.mono e3).wipe vs) o2 matchX0 fun ρ4 M4 σ4 G4 H4 k4 e4 r4 o4 => ?_
      refine k4 G4 σ4 H4 _ _ r4 o4 matchX0 fun b M5 G5 H5 k5 e5 o5 => ?_
      cases b with
      | true =>
        refine iteT (k5.t rfl G5 σ4 H5 _ _ (r4.mono e5) o5 matchX0 fun ed M6 v6 G6 H6 k6 e6 r6 o6 => ?_)
        obtain ⟨vs', hv, rv⟩ := o6.ok (D, .lst acc) (List.mem_append_right _ (List.mem_cons_self ..))
        have hlen := rv.length
        refine ⟨vs', hv, by
          show vs'.length < 16777216
          omega, acc ++ [ed], M6, G6, (e.trans e2).trans (e4.trans (e5.trans e6)), ?_, by rw [List.length_append]; exact Nat.add_le_add_right hl 1, k6⟩
        exact own_store o6 ⟨vs' ++ [v6], upd_same, rv.append (.cons r6 .nil)⟩
      | false =>
        exact iteF ⟨acc, M5, G5, (e.trans e2).trans (e4.trans e5), o5, Nat.le_succ_of_le hl, k5.f rfl⟩
    · rintro H' ⟨acc, M', G', e, o', hl, i'⟩
      rcases id acc M' i' with ⟨ps, rfl, k⟩ | k
      · obtain ⟨G2, e2, o2, r2⟩ := o'.freeze (p := D) (ps := ps) (N := M' ++ F) (List.mem_append_right _ (List.mem_cons_self ..)) (List.Sublist.append (List.Sublist.refl M') (List.sublist_cons_self _ F)) (own_ne o')
        exact q (dL ps) M' _ G2 H' k (e1.trans (e.trans e2)) r2 o2
      · refine q (dR D) (M' ++ [(D, .lst acc)]) _ G' H' (k D) (e1.trans e) rfl ?_
        rw [List.append_assoc]
        exact o'
end
end PL

/-! PL4: a def's promise from its body; lists, tuples, texts, dicts, instances over data. -/
namespace PL
open PySem PySem.Spec L2
open PyProof.Rows (envOfC)

/-! ### a def -/
/-- what a def hands back: data, or a list of its own that is let go -/
inductive Ret (n : Nat) (K : D → Cells → Prop) : D → Cells → Prop
  | py {p : PyData} {M : Cells} : K (.py p) (M.take n) → Ret n K (.py p) M
  | raw {v : V} {M : Cells} : K (.raw v) (M.take n) → Ret n K (.raw v) M
  | lst {a : Addr} {ps : List PyData} {M : Cells} (i : Nat) : CA (M.drop n) i a (.lst (ps.map D.py)) → K (dL ps) (M.take n) → Ret n K (dR a) M
  | cell {a : Addr} {c : Cell} {M : Cells} : (M.drop n).getLast? = some (a, c) → K (dR a) (M.take n ++ [(a, c)]) → Ret n K (dR a) M
  | pair {Kq : PySem.W.Frag} {a : Addr} {vs : List V} {c : Cell} {M : Cells} : (M.drop n).getLast? = some (a, c) → K (.sqt Kq (.ref a :: vs)) (M.take n ++ [(a, c)]) → Ret n K (.sqt Kq (.ref a :: vs)) M
theorem getLast_sub {α : Type} {l : List α} {x : α} (h : l.getLast? = some x) : List.Sublist [x] l := by
  have e : l ≠ [] := fun e => by rw [e] at h; cases h
  rw [List.getLast?_eq_getLast e] at h
  cases h
  have := List.getLast_mem e
  exact List.singleton_sublist.mpr this
theorem Ret.fin {G : Hp} {F : Cells} {n : Nat} {K : D → Cells → Prop} {Q : VK} (h : Fin G F K Q) : Fin G F (Ret n K) Q := fun d M v G' H k e r o => by
  have sub : List.Sublist (M.take n ++ F) (M ++ F) := List.Sublist.append (List.take_sublist n M) (List.Sublist.refl F)
  cases k with
  | py k => exact h _ _ v G' H k e r (o.sub sub)
  | raw k => exact h _ _ v G' H k e r (o.sub sub)
  | @lst a ps M i hc k =>
    cases r
    have hm : (a, Cell.lst (ps.map D.py)) ∈ M.drop n := CA.mem hc
    have hne : ∀ q ∈ M.take n ++ F, q.1 ≠ a := by
      have nd := o.nd
      rw [show M = M.take n ++ M.drop n from (List.take_append_drop n M).symm, List.map_append, List.map_append, List.nodup_append, List.nodup_append] at nd
      intro q hq e
      rcases List.mem_append.mp hq with z | z
      · exact nd.1.2.2 q.1 (List.mem_map_of_mem z) a (List.mem_map_of_mem (f := (·.1)) hm) e
      · exact nd.2.2 a (List.mem_append_right _ (List.mem_map_of_mem (f := (·.1)) hm)) q.1 (List.mem_map_of_mem z) e.symm
    obtain ⟨G2, e2, o2, r2⟩ := o.freeze (p := a) (ps := ps) (N := M.take n ++ F) (List.mem_append_left _ (List.mem_of_mem_drop hm)) sub hne
    exact h _ _ _ G2 H k (e.trans e2) r2 o2
  | @cell a c M hc k =>
    refine h _ _ v G' H k e r (o.sub ?_)
    rw [List.append_assoc]
    have h1 : List.Sublist (M.take n ++ [(a, c)]) M := by
      have h2 : List.Sublist (M.take n ++ [(a, c)]) (M.take n ++ M.drop n) := List.Sublist.append (List.Sublist.refl _) (getLast_sub hc)
      rw [List.take_append_drop] at h2
      exact h2
    rw [← List.append_assoc]
    exact List.Sublist.append h1 (List.Sublist.refl F)
  | @pair Kq a t c M hc k =>
    refine h _ _ v G' H k e r (o.sub ?_)
    rw [List.append_assoc]
    have h1 : List.Sublist (M.take n ++ [(a, c)]) M := by
      have h2 : List.Sublist (M.take n ++ [(a, c)]) (M.take n ++ M.drop n) := List.Sublist.append (List.Sublist.refl _) (getLast_sub hc)
      rw [List.take_append_drop] at h2
      exact h2
    rw [← List.append_assoc]
    exact List.Sublist.append h1 (List.Sublist.refl F)
abbrev PFn (n : Nat) (K : D → Cells → Prop) : PD := { nx := fun _ M => K dN (M.take n), rt := Ret n K }
theorem MatchD.fn {G : Hp} {F : Cells} {n : Nat} {K : D → Cells → Prop} {Q : VK} (h : Fin G F K Q) : MatchD G F (PFn n K) { nx := fun _ H' => Q .non H', rt := Q } where
  nx := fun ρ M σ G' H k e re o => h dN (M.take n) .non G' H k e Rp.non (o.sub (List.Sublist.append (List.take_sublist n M) (List.Sublist.refl F)))
  rt := Ret.fin h
  bk := fun _ _ _ _ _ k => k.elim
  ct := fun _ _ _ _ _ k => k.elim
section
variable {P : Program} {w : World} {K : PySem.W.Frag} {mg : Str → Option Value} {base : Heap}
/-- a def that lets nothing out -/
theorem fn_ok {x qual : Str} {st : Stmt} {f : Addr} {fd : FuncData} {N ps : List Str} {k : Nat} {s : DSp} (F : Fun K x qual st f fd) (S : FnScope N ps (defScope st)) (hl : ∀ ds M K KX, s ds M K KX → ds.length = ps.length)
    (hb : ∀ (cdv : Value) (A : Around) (outer : List PySem.Env) (s0 : Shared) (H : Hp) (E : XK), Room k (A.deeper (envOfC qual (defScope st) s0.heap.objs.size f cdv)) →
      ∃ t, PSs (cxOf CX0 P w K mg base N qual (defScope st) f cdv A outer s0 H E).nox (defBody st) t ∧
        ∀ (ds : List D) (M : Cells) (Kd : D → Cells → Prop) (KX : XD → Cells → Prop), s ds M Kd KX → SS W0 t (ds.map some ++ List.replicate (N.length - ps.length) none) M (PFn M.length Kd)) :
    FnOk P w K mg base CX0 (k + 1) f fd ps (spD s) := by
  have hlen : ∀ vs H Q E, spD s vs H Q E → vs.length = ps.length := fun vs H Q E ⟨G, ds, M, F, Kd, KX, o, r, h, _, _⟩ => by
    rw [r.length]
    exact hl ds M Kd KX h
  refine F.ok S hlen fun cdv A outer s0 H vs Q E hr h => ?_
  obtain ⟨t, ht, hs⟩ := hb cdv A outer s0 H E hr
  refine ⟨t, ht, ?_⟩
  have hv := hlen vs H Q E h
  obtain ⟨G, ds, M, F, Kd, KX, o, r, h, q, qx⟩ := h
  unfold L2.start
  rw [hv]
  exact hs ds M Kd KX h G _ H F _ (REnv.start _ r) o matchX0 (MatchD.fn q)
end

section
variable {W : WD} {ρ : Rho} {M : Cells} {K : D → Cells → Prop} {KT : Bool → Cells → Prop} {KA : List D → Cells → Prop} {KE : Rho → Cells → Prop} {ta tb te tc : TE} {t u : TT} {P : PD} {Kf : PySem.W.Frag}

/-! ### displays -/
def unpy : List D → Option (List PyData)
  | [] => some []
  | .py p :: r => match unpy r with
    | some ps => some (p :: ps)
    | none => none
  | _ => none
theorem unpy_eq : ∀ {ds : List D} {ps : List PyData}, unpy ds = some ps → ds = ps.map D.py
  | [], ps, h => by
    cases h
    rfl
  | .py p :: r, ps, h => by
    unfold unpy at h
    split at h
    · rename_i qs e
      cases h
      rw [unpy_eq e]
      rfl
    · cases h
  | .raw _ :: _, _, h => by cases h
  | .sq _ _ :: _, _, h => by cases h
  | .sqt _ _ :: _, _, h => by cases h
  | .st _ _ _ :: _, _, h => by cases h
  | .ho _ :: _, _, h => by cases h
theorem big_ok {n : Nat} (h : n ≤ 1000000) : n ≤ sizeLine := Nat.le_trans h (by decide)
abbrev Unp (ds : List D) (k : List PyData → Prop) : Prop := ∃ ps, unpy ds = some ps ∧ ps.length ≤ 1000000 ∧ k ps
theorem unp {ds : List D} {ps : List PyData} {k : List PyData → Prop} (e : unpy ds = some ps) (hl : ps.length ≤ 1000000) (h : k ps) : Unp ds k := ⟨ps, e, hl, h⟩
theorem se_lst {ta : TA} (h : SA W ta ρ M fun ds M' => Unp ds fun ps => K (dL ps) M') : SE W (tLst ta) ρ M K := fun G σ H F Q re o mx q =>
  h G σ H F _ re o mx fun ds M1 vs G1 H1 ⟨ps, eu, hl, k⟩ e1 r1 o1 => by
    cases unpy_eq eu
    have r := RDs.all r1
    refine ⟨by rw [r.length]; exact big_ok hl, fun p hp => ?_⟩
    have e2 : Ex G1 (upd G1 p (.lst vs)) := Ex.new (o1.ex.free hp)
    exact q (dL ps) M1 _ (upd G1 p (.lst vs)) _ k (e1.trans e2) (Rp.lst upd_same (r.mono e2)) (o1.push hp _)
theorem se_tup {ta : TA} (h : SA W ta ρ M fun ds M' => Unp ds fun ps => K (dT ps) M') : SE W (tTup ta) ρ M K := fun G σ H F Q re o mx q =>
  h G σ H F _ re o mx fun ds M1 vs G1 H1 ⟨ps, eu, hl, k⟩ e1 r1 o1 => by
    cases unpy_eq eu
    have r := RDs.all r1
    refine ⟨by rw [r.length]; exact big_ok hl, fun p hp => ?_⟩
    have e2 : Ex G1 (upd G1 p (.tup vs)) := Ex.new (o1.ex.free hp)
    exact q (dT ps) M1 _ (upd G1 p (.tup vs)) _ k (e1.trans e2) (Rp.tup upd_same (r.mono e2)) (o1.push hp _)
/-- a list that is to change -/
theorem se_lstC {ta : TA} (h : SA W ta ρ M fun ds M' => ds.length ≤ 1000000 ∧ ∀ p, K (dR p) (M' ++ [(p, .lst ds)])) : SE W (tLst ta) ρ M K := fun G σ H F Q re o mx q =>
  h G σ H F _ re o mx fun ds M1 vs G1 H1 ⟨hl, k⟩ e1 r1 o1 => by
    refine ⟨by rw [r1.length]; exact big_ok hl, fun p hp => ?_⟩
    exact q (dR p) _ _ G1 _ (k p) e1 rfl (o1.cell hp ⟨vs, upd_same, r1⟩)

/-! ### views of a list -/
/-- d is a list of ds: data, a cell's, or one that is only read -/
inductive LV (M : Cells) : D → List D → Prop
  | py (ps : List PyData) : LV M (dL ps) (ps.map D.py)
  | cell {p : Addr} {ds : List D} (i : Nat) : CA M i p (.lst ds) → LV M (dR p) ds
theorem LV.at {M F : Cells} {G H : Hp} {v : V} {d : D} {ds : List D} (h : LV M d ds) (r : RD G v d) (o : Own G (M ++ F) H) : ∃ a vs, v = .ref a ∧ H a = some (.lst vs) ∧ RDs G vs ds := by
  cases h with
  | py ps =>
    have r' : Rp G v (.list ps) := r
    cases r' with
    | lst ha rr => exact ⟨_, _, rfl, o.ex _ _ ha, RDs.of rr⟩
  | cell i hc =>
    cases r
    obtain ⟨vs, hv, rr⟩ := o.at hc
    exact ⟨_, vs, rfl, hv, rr⟩
/-- any sequence that can be read -/
inductive LQ (M : Cells) : D → List D → Prop
  | py (ps : List PyData) : LQ M (dL ps) (ps.map D.py)
  | tup (ps : List PyData) : LQ M (dT ps) (ps.map D.py)
  | cell {p : Addr} {ds : List D} (i : Nat) : CA M i p (.lst ds) → LQ M (dR p) ds
  | sq (K : PySem.W.Frag) (ns : List Int) : LQ M (.sq K (ns.map V.int)) (ns.map dI)
theorem rds_ints {G : Hp} : ∀ ns : List Int, RDs G (ns.map V.int) (ns.map dI)
  | [] => .nil
  | n :: r => .cons (Rp.int n) (rds_ints r)

/-! ### len -/
def rLenS (K : PySem.W.Frag) : List V → Hp → VK → Prop := fun xs H Q => ∃ p ys, xs = [.ref p] ∧ (SqL K H p ys ∨ SqT K H p ys) ∧ Q (.int ys.length) H
def rLenT : List V → Hp → VK → Prop := fun xs H Q => ∃ z, xs = [.str z] ∧ z.length ≤ sizeLine ∧ Q (.int z.length) H
def rLenA (K : PySem.W.Frag) : List V → Hp → VK → Prop := fun xs H Q => rLenS K xs H Q ∨ rLenT xs H Q
theorem call_lenA {X : Cx} : CallR X (.builtin "len") (rLenA X.K) := CallR.or call_len_seq call_len_str
theorem cr_lenL {d : D} {ds : List D} (hv : LV M d ds) (k : K (dI ds.length) M) : CR (rLenA Kf) [d] M K := fun G H F us Q r o q => by
  cases r with
  | cons r1 rn =>
    cases rn
    obtain ⟨a, vs, rfl, ha, rr⟩ := hv.at r1 o
    refine .inl ⟨a, vs, rfl, .inl (SqL.of ha), ?_⟩
    rw [rr.length]
    exact q _ M _ G H k (Ex.refl G) (Rp.int _) o
theorem cr_len {ps : List PyData} (k : K (dI ps.length) M) : CR (rLenA Kf) [dL ps] M K := cr_lenL (.py ps) (by rw [List.length_map]; exact k)
theorem cr_lenC (i : Nat) {p : Addr} {ds : List D} (hc : CA M i p (.lst ds)) (k : K (dI ds.length) M) : CR (rLenA Kf) [dR p] M K := cr_lenL (.cell i hc) k
theorem cr_lenQ {Ks : PySem.W.Frag} {ns : List Int} (k : K (dI ns.length) M) : CR (rLenA Ks) [.sq Ks (ns.map V.int)] M K := fun G H F us Q r o q => by
  cases r with
  | cons r1 rn =>
    cases rn
    obtain ⟨a, rfl, ha⟩ := r1
    refine .inl ⟨a, ns.map V.int, rfl, .inl (o.ex |> fun e => Ex.sql e ha), ?_⟩
    rw [List.length_map]
    exact q _ M _ G H k (Ex.refl G) (Rp.int _) o
theorem cr_lenT {ps : List PyData} (k : K (dI ps.length) M) : CR (rLenA Kf) [dT ps] M K := fun G H F us Q r o q => by
  cases r with
  | cons r1 rn =>
    cases rn
    have r' : Rp G _ (.tuple ps) := r1
    cases r' with
    | tup ha rr =>
      refine .inl ⟨_, _, rfl, .inr (SqT.of (o.ex _ _ ha)), ?_⟩
      rw [rr.length]
      exact q _ M _ G H k (Ex.refl G) (Rp.int _) o
theorem cr_lenS {x : Str} (hx : x.length ≤ 1000000) (k : K (dI x.length) M) : CR (rLenA Kf) [dS x] M K := fun G H F us Q r o q => by
  cases r with
  | cons r1 rn =>
    cases rn
    cases str_of r1
    exact .inr ⟨x, rfl, big_ok hx, q _ M _ G H k (Ex.refl G) (Rp.int _) o⟩

/-! ### items -/
theorem all2_len {α β : Type} {R : α → β → Prop} {as : List α} {bs : List β} (h : All2 R as bs) {i : Int} {b : β} (e : atI bs i = some b) : ∃ a, atI as i = some a ∧ R a b := by
  unfold atI at e ⊢
  rw [h.length]
  cases hj : ixN bs.length i with
  | none => rw [hj] at e; cases e
  | some j =>
    rw [hj] at e
    exact h.get e
theorem or_ixV {d e : D} {ds : List D} {i : Int} (hv : LV M d ds) (he : atI ds i = some e) (k : K e M) : OR (rIx Kf) d (dI i) M K := fun G H F u v Q r1 r2 o q => by
  cases int_of r2
  obtain ⟨a, vs, rfl, ha, rr⟩ := hv.at r1 o
  obtain ⟨x, hx, rx⟩ := all2_len rr he
  exact .inl ⟨a, vs, i, x, rfl, rfl, SqL.of ha, hx, q e M x G H k (Ex.refl G) rx o⟩
theorem atI_map {α β : Type} (f : α → β) (xs : List α) (i : Int) : atI (xs.map f) i = (atI xs i).map f := by
  unfold atI
  rw [List.length_map]
  cases ixN xs.length i with
  | none => rfl
  | some j => simp
theorem or_ix {ps : List PyData} {p : PyData} {i : Int} (he : atI ps i = some p) (k : K (.py p) M) : OR (rIx Kf) (dL ps) (dI i) M K := or_ixV (.py ps) (by rw [atI_map, he]; rfl) k
theorem or_ixC (j : Nat) {a : Addr} {ds : List D} {e : D} {i : Int} (hc : CA M j a (.lst ds)) (he : atI ds i = some e) (k : K e M) : OR (rIx Kf) (dR a) (dI i) M K := or_ixV (.cell j hc) he k
theorem or_ixT {ps : List PyData} {p : PyData} {i : Int} (he : atI ps i = some p) (k : K (.py p) M) : OR (rIx Kf) (dT ps) (dI i) M K := fun G H F u v Q r1 r2 o q => by
  cases int_of r2
  have r' : Rp G u (.tuple ps) := r1
  cases r' with
  | tup ha rr =>
    obtain ⟨x, hx, rx⟩ := all2_len (RDs.of rr) (i := i) (b := D.py p) (by rw [atI_map, he]; rfl)
    exact .inr (.inl ⟨_, _, i, x, rfl, rfl, SqT.of (o.ex _ _ ha), hx, q (.py p) M x G H k (Ex.refl G) rx o⟩)
theorem or_ixQ {Ks : PySem.W.Frag} {ns : List Int} {n : Int} {i : Int} (he : atI ns i = some n) (k : K (dI n) M) : OR (rIx Ks) (.sq Ks (ns.map V.int)) (dI i) M K := fun G H F u v Q r1 r2 o q => by
  cases int_of r2
  obtain ⟨a, rfl, ha⟩ := r1
  exact .inl ⟨a, ns.map V.int, i, .int n, rfl, rfl, Ex.sql o.ex ha, by rw [atI_map, he]; rfl, q (dI n) M _ G H k (Ex.refl G) (Rp.int _) o⟩
theorem or_ixS {x : Str} {c : Nat} {i : Int} (hx : x.length ≤ 1000000) (he : atI x.cps.toList i = some c) (k : K (dS ⟨#[c]⟩) M) : OR (rIx Kf) (dS x) (dI i) M K := fun G H F u v Q r1 r2 o q => by
  cases int_of r2
  cases str_of r1
  exact .inr (.inr ⟨x, i, c, rfl, rfl, big_ok hx, he, q _ M _ G H k (Ex.refl G) (Rp.str _) o⟩)
/-- a store into a cell's list -/
theorem sg_setL {to ti : TE} {d : D} (h : SE W to ρ M fun x M1 => SE W ti ρ M1 fun y M2 => ∃ i p ds k j, x = dR p ∧ y = dI k ∧ CA M2 i p (.lst ds) ∧ ixN ds.length k = some j ∧ KE ρ (M2.set i (p, (.lst (ds.set j d))))) :
    SG W (gSub to ti rSetL) d ρ M KE := fun G σ H F v Q r re o mx q =>
  h G σ H F _ re o mx fun x M1 u1 G1 H1 k1 e1 r1 o1 => k1 G1 σ H1 F _ (re.mono e1) o1 (mx.mono e1) fun y M2 u2 G2 H2 ⟨i, p, ds, k, j, ex, ey, hc, hj, kk⟩ e2 r2 o2 => by
    subst ex
    subst ey
    cases r1
    cases int_of r2
    obtain ⟨vs, hv, rr⟩ := o2.at hc
    have e12 := e1.trans e2
    refine ⟨p, vs, k, j, rfl, rfl, hv, by rw [rr.length]; exact hj, q ρ _ σ G2 _ kk e12 (re.mono e12) (o2.store hc ⟨vs.set j v, upd_same, rr.set (r.mono e12) j⟩)⟩

/-! ### + and * -/
def rAddT : R2 := fun x y H Q => ∃ i j, x = .str i ∧ y = .str j ∧ i.length + j.length ≤ sizeLine ∧ Q (.str (i ++ j)) H
def rAddA : R2 := fun x y H Q => rI0 (fun i j => .int (i + j)) x y H Q ∨ rAddT x y H Q ∨ rCat x y H Q
theorem op_addA {X : Cx} : OpR X (binaryOp .Add) rAddA := op_add.or (OpR.or op_add_str op_cat)
theorem or_addI {i j : Int} (k : K (dI (i + j)) M) : OR rAddA (dI i) (dI j) M K := fun G H F u v Q r1 r2 o q => .inl (or_add k G H F u v Q r1 r2 o q)
theorem or_addS {i j : Str} (hl : i.length + j.length ≤ 1000000) (k : K (dS (i ++ j)) M) : OR rAddA (dS i) (dS j) M K := fun G H F u v Q r1 r2 o q => by
  cases str_of r1
  cases str_of r2
  exact .inr (.inl ⟨i, j, rfl, rfl, big_ok hl, q _ M _ G H k (Ex.refl G) (Rp.str _) o⟩)
theorem new_lst {G : Hp} {M F : Cells} {H : Hp} {p : Addr} {vs : List V} {ps : List PyData} (o : Own G (M ++ F) H) (hp : H p = none) (r : RpAll G vs ps) : ∃ G', Ex G G' ∧ RD G' (.ref p) (dL ps) ∧ Own G' (M ++ F) (upd H p (.lst vs)) := by
  have e : Ex G (upd G p (.lst vs)) := Ex.new (o.ex.free hp)
  exact ⟨_, e, Rp.lst upd_same (r.mono e), o.push hp _⟩
theorem new_tup {G : Hp} {M F : Cells} {H : Hp} {p : Addr} {vs : List V} {ps : List PyData} (o : Own G (M ++ F) H) (hp : H p = none) (r : RpAll G vs ps) : ∃ G', Ex G G' ∧ RD G' (.ref p) (dT ps) ∧ Own G' (M ++ F) (upd H p (.tup vs)) := by
  have e : Ex G (upd G p (.tup vs)) := Ex.new (o.ex.free hp)
  exact ⟨_, e, Rp.tup upd_same (r.mono e), o.push hp _⟩
/-- two lists, of any view, to new data -/
theorem or_catV {x y : D} {ps qs : List PyData} (h1 : LV M x (ps.map D.py)) (h2 : LV M y (qs.map D.py)) (hl : ps.length + qs.length ≤ 1000000) (k : K (dL (ps ++ qs)) M) : OR rAddA x y M K := fun G H F u v Q r1 r2 o q => by
  obtain ⟨a, vs, rfl, ha, ra⟩ := h1.at r1 o
  obtain ⟨b, ws, rfl, hb, rb⟩ := h2.at r2 o
  have ra' := RDs.all ra
  have rb' := RDs.all rb
  refine .inr (.inr ⟨a, b, vs, ws, rfl, rfl, ha, hb, by rw [ra'.length, rb'.length]; exact big_ok hl, fun p hp => ?_⟩)
  obtain ⟨G', e, r, o'⟩ := new_lst o hp (ra'.append rb')
  exact q _ M _ G' _ k e r o'
theorem or_cat {ps qs : List PyData} (hl : ps.length + qs.length ≤ 1000000) (k : K (dL (ps ++ qs)) M) : OR rAddA (dL ps) (dL qs) M K := or_catV (.py ps) (.py qs) hl k

/-! ### slices -/
abbrev SO (W : WD) (to : TO) (ρ : Rho) (M : Cells) (K : Option Int → Cells → Prop) : Prop :=
  ∀ (G : Hp) (σ : St) (H : Hp) (F : Cells) (Q : Option Int → Hp → Prop), REnv G σ ρ → Own G (M ++ F) H → MatchX G F W → (∀ b M G' H', K b M → Ex G G' → Own G' (M ++ F) H' → Q b H') → to σ H Q
abbrev LR (r : V → Option Int → Option Int → Hp → VK → Prop) (x : D) (lo hi : Option Int) (M : Cells) (K : D → Cells → Prop) : Prop :=
  ∀ (G H : Hp) (F : Cells) (u : V) (Q : VK), RD G u x → Own G (M ++ F) H → Fin G F K Q → r u lo hi H Q
theorem so_none {K : Option Int → Cells → Prop} (k : K none M) : SO W tNoPart ρ M K := fun G σ H F Q re o mx q => q none M G H k (Ex.refl G) o
theorem so_some {K : Option Int → Cells → Prop} (h : SE W te ρ M fun d M' => IsI d fun i => K (some i) M') : SO W (tPart te) ρ M K := fun G σ H F Q re o mx q =>
  h G σ H F _ re o mx fun d M1 v G1 H1 ⟨b, ed, k⟩ e1 r1 o1 => by
    subst ed
    exact ⟨b, int_of r1, q _ M1 G1 H1 k e1 o1⟩
theorem se_sl {r : V → Option Int → Option Int → Hp → VK → Prop} {tl th : TO} (h : SE W te ρ M fun x M1 => SO W tl ρ M1 fun lo M2 => SO W th ρ M2 fun hi M3 => LR r x lo hi M3 K) : SE W (tSl r te tl th) ρ M K := fun G σ H F Q re o mx q =>
  h G σ H F _ re o mx fun x M1 v G1 H1 k1 e1 r1 o1 => k1 G1 σ H1 F _ (re.mono e1) o1 (mx.mono e1) fun lo M2 G2 H2 k2 e2 o2 => k2 G2 σ H2 F _ (re.mono (e1.trans e2)) o2 (mx.mono (e1.trans e2)) fun hi M3 G3 H3 k3 e3 o3 =>
    k3 G3 H3 F v Q (r1.mono (e2.trans e3)) o3 (Fin.mono q (e1.trans (e2.trans e3)))
/-- a slice, by places -/
def cutP {α : Type} (xs : List α) (lo hi : Option Int) : List α := (xs.drop (HT.sIx xs.length 0 lo)).take (HT.sIx xs.length xs.length hi - HT.sIx xs.length 0 lo)
def rSlA (K : PySem.W.Frag) : V → Option Int → Option Int → Hp → VK → Prop := fun x lo hi H Q => rSlL K x lo hi H Q ∨ rSlS x lo hi H Q
theorem sl_any {X : Cx} : SlR X (rSlA X.K) := SlR.or sl_list sl_str
theorem lr_V {d : D} {ps : List PyData} {lo hi : Option Int} (hv : LV M d (ps.map D.py)) (k : K (dL (cutP ps lo hi)) M) : LR (rSlA Kf) d lo hi M K := fun G H F u Q r o q => by
  obtain ⟨a, vs, rfl, ha, rr⟩ := hv.at r o
  have r' := RDs.all rr
  refine .inl ⟨a, vs, rfl, SqL.of ha, fun p hp => ?_⟩
  have rc : RpAll G (cutV vs lo hi) (cutP ps lo hi) := by
    unfold cutV cutP
    rw [r'.length]
    exact (r'.drop _).take _
  obtain ⟨G', e, rn, o'⟩ := new_lst o hp rc
  exact q _ M _ G' _ k e rn o'
theorem lr_L {ps : List PyData} {lo hi : Option Int} (k : K (dL (cutP ps lo hi)) M) : LR (rSlA Kf) (dL ps) lo hi M K := lr_V (.py ps) k
theorem lr_S {x : Str} {lo hi : Option Int} (hx : x.length ≤ 1000000) (k : K (dS (cutS x lo hi)) M) : LR (rSlA Kf) (dS x) lo hi M K := fun G H F u Q r o q => by
  cases str_of r
  exact .inr ⟨x, rfl, big_ok hx, q _ M _ G H k (Ex.refl G) (Rp.str _) o⟩
theorem se_rev (h : SE W te ρ M fun d M' => ∃ ps : List PyData, LV M' d (ps.map D.py) ∧ K (dL ps.reverse) M') : SE W (tRevL Kf te) ρ M K := fun G σ H F Q re o mx q =>
  h G σ H F _ re o mx fun d M1 v G1 H1 ⟨ps, hv, k⟩ e1 r1 o1 => by
    obtain ⟨a, vs, rfl, ha, rr⟩ := hv.at r1 o1
    refine ⟨a, vs, rfl, SqL.of ha, fun p hp => ?_⟩
    obtain ⟨G', e, rn, o'⟩ := new_lst o1 hp (RDs.all rr).reverse
    exact q _ M1 _ G' _ k (e1.trans e) rn o'

/-! ### built-in functions -/
theorem RDs.one {G : Hp} {us : List V} {d : D} (r : RDs G us [d]) : ∃ v, us = [v] ∧ RD G v d := by
  cases r with
  | cons r1 rn =>
    cases rn
    exact ⟨_, rfl, r1⟩
theorem RDs.two {G : Hp} {us : List V} {d e : D} (r : RDs G us [d, e]) : ∃ v w, us = [v, w] ∧ RD G v d ∧ RD G w e := by
  cases r with
  | cons r1 rn =>
    cases rn with
    | cons r2 rn =>
      cases rn
      exact ⟨_, _, rfl, r1, r2⟩
theorem RDs.three {G : Hp} {us : List V} {d e f : D} (r : RDs G us [d, e, f]) : ∃ v w x, us = [v, w, x] ∧ RD G v d ∧ RD G w e ∧ RD G x f := by
  cases r with
  | cons r1 rn =>
    obtain ⟨w, x, rfl, r2, r3⟩ := RDs.two rn
    exact ⟨_, w, x, rfl, r1, r2, r3⟩
def rAbs : List V → Hp → VK → Prop := fun xs H Q => ∃ i, xs = [.int i] ∧ Q (.int (if i < 0 then -i else i)) H
theorem call_abs' {X : Cx} : CallR X (.builtin "abs") rAbs := call_abs
theorem cr_abs {i : Int} (k : K (dI (if i < 0 then -i else i)) M) : CR rAbs [dI i] M K := fun G H F us Q r o q => by
  obtain ⟨v, rfl, r1⟩ := r.one
  cases int_of r1
  exact ⟨i, rfl, q _ M _ G H k (Ex.refl G) (Rp.int _) o⟩
def rMax2 : List V → Hp → VK → Prop := fun xs H Q => ∃ i j, xs = [.int i, .int j] ∧ Q (.int (if j > i then j else i)) H
def rMin2 : List V → Hp → VK → Prop := fun xs H Q => ∃ i j, xs = [.int i, .int j] ∧ Q (.int (if j < i then j else i)) H
theorem call_max2' {X : Cx} (hc : X.calm = true) : CallR X (.builtin "max") rMax2 := call_max2 hc
theorem call_min2' {X : Cx} (hc : X.calm = true) : CallR X (.builtin "min") rMin2 := call_min2 hc
theorem cr_max2 {i j : Int} (k : K (dI (max i j)) M) : CR rMax2 [dI i, dI j] M K := fun G H F us Q r o q => by
  obtain ⟨v, w, rfl, r1, r2⟩ := r.two
  cases int_of r1
  cases int_of r2
  refine ⟨i, j, rfl, ?_⟩
  have e : (if j > i then j else i) = max i j := by split <;> omega
  rw [e]
  exact q _ M _ G H k (Ex.refl G) (Rp.int _) o
theorem cr_min2 {i j : Int} (k : K (dI (min i j)) M) : CR rMin2 [dI i, dI j] M K := fun G H F us Q r o q => by
  obtain ⟨v, w, rfl, r1, r2⟩ := r.two
  cases int_of r1
  cases int_of r2
  refine ⟨i, j, rfl, ?_⟩
  have e : (if j < i then j else i) = min i j := by split <;> omega
  rw [e]
  exact q _ M _ G H k (Ex.refl G) (Rp.int _) o
def rInt1 : List V → Hp → VK → Prop := fun xs H Q => (∃ i, xs = [.int i] ∧ Q (.int i) H) ∨ ∃ k, xs = [.bl k] ∧ Q (.int (if k then 1 else 0)) H
theorem call_int1' {X : Cx} : CallR X (.type "int") rInt1 := call_int1
theorem cr_intI {i : Int} (k : K (dI i) M) : CR rInt1 [dI i] M K := fun G H F us Q r o q => by
  obtain ⟨v, rfl, r1⟩ := r.one
  cases int_of r1
  exact .inl ⟨i, rfl, q _ M _ G H k (Ex.refl G) (Rp.int _) o⟩
theorem cr_intB {b : Bool} (k : K (dI (if b then 1 else 0)) M) : CR rInt1 [dB b] M K := fun G H F us Q r o q => by
  obtain ⟨v, rfl, r1⟩ := r.one
  cases bl_of r1
  exact .inr ⟨b, rfl, q _ M _ G H k (Ex.refl G) (Rp.int _) o⟩
theorem cr_sumL {d : D} {ns : List Int} (hv : LV M d ((ns.map PyData.int).map D.py)) (k : K (dI ns.sum) M) : CR (rSum Kf) [d] M K := fun G H F us Q r o q => by
  obtain ⟨v, rfl, r1⟩ := r.one
  obtain ⟨a, vs, rfl, ha, rr⟩ := hv.at r1 o
  cases RpAll.ints (RDs.all rr)
  exact ⟨a, ns, rfl, SqL.of ha, q _ M _ G H k (Ex.refl G) (Rp.int _) o⟩
/-- the greatest, the least of ints -/
def maxL : List Int → Int
  | [] => 0
  | n :: r => r.foldl max n
def minL : List Int → Int
  | [] => 0
  | n :: r => r.foldl min n
theorem foldl_max_ge : ∀ (r : List Int) (n : Int), n ≤ r.foldl max n ∧ (∀ y ∈ r, y ≤ r.foldl max n) ∧ (r.foldl max n = n ∨ r.foldl max n ∈ r)
  | [], n => ⟨Int.le_refl n, by simp, .inl rfl⟩
  | x :: r, n => by
    obtain ⟨h1, h2, h3⟩ := foldl_max_ge r (max n x)
    show n ≤ r.foldl max (max n x) ∧ (∀ y ∈ x :: r, y ≤ r.foldl max (max n x)) ∧ (r.foldl max (max n x) = n ∨ r.foldl max (max n x) ∈ x :: r)
    refine ⟨by omega, fun y hy => ?_, ?_⟩
    · rcases List.mem_cons.mp hy with e | e
      · subst e; omega
      · exact h2 y e
    · rcases h3 with h3 | h3
      · by_cases h : n < x
        · exact .inr (by rw [h3, Int.max_eq_right (Int.le_of_lt h)]; exact List.mem_cons_self ..)
        · exact .inl (by rw [h3]; omega)
      · exact .inr (List.mem_cons_of_mem _ h3)
theorem foldl_min_le : ∀ (r : List Int) (n : Int), r.foldl min n ≤ n ∧ (∀ y ∈ r, r.foldl min n ≤ y) ∧ (r.foldl min n = n ∨ r.foldl min n ∈ r)
  | [], n => ⟨Int.le_refl n, by simp, .inl rfl⟩
  | x :: r, n => by
    obtain ⟨h1, h2, h3⟩ := foldl_min_le r (min n x)
    show r.foldl min (min n x) ≤ n ∧ (∀ y ∈ x :: r, r.foldl min (min n x) ≤ y) ∧ (r.foldl min (min n x) = n ∨ r.foldl min (min n x) ∈ x :: r)
    refine ⟨by omega, fun y hy => ?_, ?_⟩
    · rcases List.mem_cons.mp hy with e | e
      · subst e; omega
      · exact h2 y e
    · rcases h3 with h3 | h3
      · by_cases h : x < n
        · exact .inr (by rw [h3, Int.min_eq_right (Int.le_of_lt h)]; exact List.mem_cons_self ..)
        · exact .inl (by rw [h3]; omega)
      · exact .inr (List.mem_cons_of_mem _ h3)
theorem maxL_ge {ns : List Int} {y : Int} (h : y ∈ ns) : y ≤ maxL ns := by
  cases ns with
  | nil => cases h
  | cons n r =>
    obtain ⟨h1, h2, _⟩ := foldl_max_ge r n
    rcases List.mem_cons.mp h with e | e
    · subst e; exact h1
    · exact h2 y e
theorem maxL_mem {ns : List Int} (h : ns ≠ []) : maxL ns ∈ ns := by
  cases ns with
  | nil => exact absurd rfl h
  | cons n r =>
    obtain ⟨_, _, h3⟩ := foldl_max_ge r n
    show r.foldl max n ∈ n :: r
    rcases h3 with h3 | h3
    · rw [h3]; exact List.mem_cons_self ..
    · exact List.mem_cons_of_mem _ h3
theorem minL_le {ns : List Int} {y : Int} (h : y ∈ ns) : minL ns ≤ y := by
  cases ns with
  | nil => cases h
  | cons n r =>
    obtain ⟨h1, h2, _⟩ := foldl_min_le r n
    rcases List.mem_cons.mp h with e | e
    · subst e; exact h1
    · exact h2 y e
theorem minL_mem {ns : List Int} (h : ns ≠ []) : minL ns ∈ ns := by
  cases ns with
  | nil => exact absurd rfl h
  | cons n r =>
    obtain ⟨_, _, h3⟩ := foldl_min_le r n
    show r.foldl min n ∈ n :: r
    rcases h3 with h3 | h3
    · rw [h3]; exact List.mem_cons_self ..
    · exact List.mem_cons_of_mem _ h3
theorem maxL_eq {ns : List Int} {m : Int} (h1 : m ∈ ns) (h2 : ∀ y ∈ ns, y ≤ m) : m = maxL ns := by
  have a := maxL_ge h1
  have b := h2 _ (maxL_mem (List.ne_nil_of_mem h1))
  omega
theorem minL_eq {ns : List Int} {m : Int} (h1 : m ∈ ns) (h2 : ∀ y ∈ ns, m ≤ y) : m = minL ns := by
  have a := minL_le h1
  have b := h2 _ (minL_mem (List.ne_nil_of_mem h1))
  omega
theorem cr_maxL {d : D} {ns : List Int} (hv : LV M d ((ns.map PyData.int).map D.py)) (h0 : ns ≠ []) (k : K (dI (maxL ns)) M) : CR (rMax Kf) [d] M K := fun G H F us Q r o q => by
  obtain ⟨v, rfl, r1⟩ := r.one
  obtain ⟨a, vs, rfl, ha, rr⟩ := hv.at r1 o
  cases RpAll.ints (RDs.all rr)
  refine ⟨a, ns, rfl, SqL.of ha, List.length_pos_iff.mpr h0, fun m h1 h2 => ?_⟩
  rw [maxL_eq h1 h2]
  exact q _ M _ G H k (Ex.refl G) (Rp.int _) o
theorem cr_minL {d : D} {ns : List Int} (hv : LV M d ((ns.map PyData.int).map D.py)) (h0 : ns ≠ []) (k : K (dI (minL ns)) M) : CR (rMin Kf) [d] M K := fun G H F us Q r o q => by
  obtain ⟨v, rfl, r1⟩ := r.one
  obtain ⟨a, vs, rfl, ha, rr⟩ := hv.at r1 o
  cases RpAll.ints (RDs.all rr)
  refine ⟨a, ns, rfl, SqL.of ha, List.length_pos_iff.mpr h0, fun m h1 h2 => ?_⟩
  rw [minL_eq h1 h2]
  exact q _ M _ G H k (Ex.refl G) (Rp.int _) o

/-! ### data compared -/
theorem rd_dp {G H : Hp} {M F : Cells} (o : Own G (M ++ F) H) {v : V} {p : PyData} (r : RD G v (.py p)) : Dp Kf H v p := Rp.dp (Rp.mono o.ex r)
theorem or_eqD {p q : PyData} (h1 : SeqAt.shaped p = true) (h2 : SeqAt.shaped q = true) (k : K (dB (PyData.eqv p q)) M) : OR (rEqD Kf) (.py p) (.py q) M K := fun G H F u v Q r1 r2 o qq =>
  ⟨p, q, rd_dp o r1, rd_dp o r2, h1, h2, qq _ M _ G H k (Ex.refl G) (Rp.bl _) o⟩
theorem or_neD {p q : PyData} (h1 : SeqAt.shaped p = true) (h2 : SeqAt.shaped q = true) (k : K (dB (!PyData.eqv p q)) M) : OR (rNeD Kf) (.py p) (.py q) M K := fun G H F u v Q r1 r2 o qq =>
  ⟨p, q, rd_dp o r1, rd_dp o r2, h1, h2, qq _ M _ G H k (Ex.refl G) (Rp.bl _) o⟩
theorem eqv_int (i j : Int) : PyData.eqv (.int i) (.int j) = decide (i = j) := by
  rw [PyData.eqv]
  by_cases h : i = j <;> simp [h]
theorem eqv_bool (i j : Bool) : PyData.eqv (.bool i) (.bool j) = decide (i = j) := by
  rw [PyData.eqv]
  by_cases h : i = j <;> simp [h]
theorem eqv_str (i j : Str) : PyData.eqv (.str i) (.str j) = decide (i = j) := by
  rw [PyData.eqv]
  by_cases h : i = j <;> simp [h]
def rEqA (K : PySem.W.Frag) : R2 := fun x y H Q => rEq x y H Q ∨ rEqD K x y H Q
def rNeA (K : PySem.W.Frag) : R2 := fun x y H Q => rNe x y H Q ∨ rNeD K x y H Q
theorem op_eqA {X : Cx} (hu : X.A.units + 64 < cLine) : OpR X (compareOp .Eq) (rEqA X.K) := OpR.or op_eq (op_eqD hu)
theorem op_neA {X : Cx} (hu : X.A.units + 64 < cLine) : OpR X (compareOp .NotEq) (rNeA X.K) := OpR.or op_ne (op_neD hu)
theorem or_eqAI {i j : Int} (k : K (dB (decide (i = j))) M) : OR (rEqA Kf) (dI i) (dI j) M K := fun G H F u v Q r1 r2 o q => .inl (or_eqI k G H F u v Q r1 r2 o q)
theorem or_neAI {i j : Int} (k : K (dB (!decide (i = j))) M) : OR (rNeA Kf) (dI i) (dI j) M K := fun G H F u v Q r1 r2 o q => .inl (or_neI k G H F u v Q r1 r2 o q)
theorem or_eqAS {i j : Str} (k : K (dB (decide (i = j))) M) : OR (rEqA Kf) (dS i) (dS j) M K := fun G H F u v Q r1 r2 o q => .inl (or_eqS k G H F u v Q r1 r2 o q)
theorem or_neAS {i j : Str} (k : K (dB (!decide (i = j))) M) : OR (rNeA Kf) (dS i) (dS j) M K := fun G H F u v Q r1 r2 o q => .inl (or_neS k G H F u v Q r1 r2 o q)
theorem or_eqAB {i j : Bool} (k : K (dB (decide (i = j))) M) : OR (rEqA Kf) (dB i) (dB j) M K := fun G H F u v Q r1 r2 o q => .inl (or_eqB k G H F u v Q r1 r2 o q)
theorem or_eqAD {p q : PyData} (h1 : SeqAt.shaped p = true) (h2 : SeqAt.shaped q = true) (k : K (dB (PyData.eqv p q)) M) : OR (rEqA Kf) (.py p) (.py q) M K := fun G H F u v Q r1 r2 o qq => .inr (or_eqD h1 h2 k G H F u v Q r1 r2 o qq)
theorem or_neAD {p q : PyData} (h1 : SeqAt.shaped p = true) (h2 : SeqAt.shaped q = true) (k : K (dB (!PyData.eqv p q)) M) : OR (rNeA Kf) (.py p) (.py q) M K := fun G H F u v Q r1 r2 o qq => .inr (or_neD h1 h2 k G H F u v Q r1 r2 o qq)

/-! ### in -/
def flatP : PyData → Bool
  | .none | .bool _ | .int _ | .str _ => true
  | _ => false
theorem flat_rp {G : Hp} {v : V} {p : PyData} (h : Rp G v p) (hf : flatP p = true) : flatV v = true := by
  cases h <;> first | rfl | cases hf
theorem flat_all {G : Hp} : ∀ {vs : List V} {ps : List PyData}, RpAll G vs ps → ps.all flatP = true → vs.all flatV = true
  | _, _, .nil, _ => rfl
  | _, _, .cons h r, hf => by
    rw [List.all_cons, Bool.and_eq_true] at hf ⊢
    exact ⟨flat_rp h hf.1, flat_all r hf.2⟩
theorem eqV_rp {G : Hp} {v w : V} {p q : PyData} (h1 : Rp G v p) (h2 : Rp G w q) (f1 : flatP p = true) (f2 : flatP q = true) : eqV v w = PyData.eqv p q := by
  cases h1 with
  | lst _ _ => cases f1
  | tup _ _ => cases f1
  | non => cases h2 <;> first | (rw [PyData.eqv]; rfl) | rfl
  | bl b => cases h2 <;> first | (rw [PyData.eqv]; rfl) | rfl
  | int b => cases h2 <;> first | (rw [PyData.eqv]; rfl) | rfl
  | str b => cases h2 <;> first | (rw [PyData.eqv]; rfl) | rfl
def inP (p : PyData) (ps : List PyData) : Bool := ps.any fun q => PyData.eqv q p
theorem inV_rp {G : Hp} {v : V} {p : PyData} (h : Rp G v p) (f : flatP p = true) : ∀ {vs : List V} {ps : List PyData}, RpAll G vs ps → ps.all flatP = true → inV v vs = inP p ps
  | _, _, .nil, _ => rfl
  | _, _, .cons h1 r, hf => by
    rw [List.all_cons, Bool.and_eq_true] at hf
    show (eqV _ v || inV v _) = (PyData.eqv _ p || inP p _)
    rw [eqV_rp h1 h hf.1 f, inV_rp h f r hf.2]
def rInT (neg : Bool) : R2 := fun x y H Q => ∃ i j, x = .str i ∧ y = .str j ∧ Q (.bl (if neg then (Builtin.Str.occurrences j i 0 j.length 1).isEmpty else !(Builtin.Str.occurrences j i 0 j.length 1).isEmpty)) H
theorem or_inL {d : D} {p : PyData} {ps : List PyData} (hv : LV M d (ps.map D.py)) (f : flatP p = true) (hf : ps.all flatP = true) (k : K (dB (inP p ps)) M) : OR (rIn Kf false) (.py p) d M K := fun G H F u v Q r1 r2 o q => by
  obtain ⟨a, vs, rfl, ha, rr⟩ := hv.at r2 o
  have r' := RDs.all rr
  refine ⟨a, vs, rfl, .inl (SqL.of ha), flat_rp r1 f, flat_all r' hf, ?_⟩
  show Q (.bl (inV u vs)) H
  rw [inV_rp r1 f r' hf]
  exact q _ M _ G H k (Ex.refl G) (Rp.bl _) o
theorem or_niL {d : D} {p : PyData} {ps : List PyData} (hv : LV M d (ps.map D.py)) (f : flatP p = true) (hf : ps.all flatP = true) (k : K (dB (!inP p ps)) M) : OR (rIn Kf true) (.py p) d M K := fun G H F u v Q r1 r2 o q => by
  obtain ⟨a, vs, rfl, ha, rr⟩ := hv.at r2 o
  have r' := RDs.all rr
  refine ⟨a, vs, rfl, .inl (SqL.of ha), flat_rp r1 f, flat_all r' hf, ?_⟩
  show Q (.bl (!inV u vs)) H
  rw [inV_rp r1 f r' hf]
  exact q _ M _ G H k (Ex.refl G) (Rp.bl _) o
theorem or_inT {p : PyData} {ps : List PyData} (f : flatP p = true) (hf : ps.all flatP = true) (k : K (dB (inP p ps)) M) : OR (rIn Kf false) (.py p) (dT ps) M K := fun G H F u v Q r1 r2 o q => by
  have r2' : Rp G v (.tuple ps) := r2
  cases r2' with
  | tup ha r' =>
    refine ⟨_, _, rfl, .inr (SqT.of (o.ex _ _ ha)), flat_rp r1 f, flat_all r' hf, ?_⟩
    show Q (.bl (inV u _)) H
    rw [inV_rp r1 f r' hf]
    exact q _ M _ G H k (Ex.refl G) (Rp.bl _) o
theorem or_niT {p : PyData} {ps : List PyData} (f : flatP p = true) (hf : ps.all flatP = true) (k : K (dB (!inP p ps)) M) : OR (rIn Kf true) (.py p) (dT ps) M K := fun G H F u v Q r1 r2 o q => by
  have r2' : Rp G v (.tuple ps) := r2
  cases r2' with
  | tup ha r' =>
    refine ⟨_, _, rfl, .inr (SqT.of (o.ex _ _ ha)), flat_rp r1 f, flat_all r' hf, ?_⟩
    show Q (.bl (!inV u _)) H
    rw [inV_rp r1 f r' hf]
    exact q _ M _ G H k (Ex.refl G) (Rp.bl _) o
/-- in a tuple of the top -/
theorem or_inG {Ks : PySem.W.Frag} {p : PyData} {xs : List V} {ps : List PyData} (hx : ∀ G, RpAll G xs ps) (f : flatP p = true) (hf : ps.all flatP = true) (k : K (dB (inP p ps)) M) : OR (rIn Ks false) (.py p) (.sqt Ks xs) M K := fun G H F u v Q r1 r2 o q => by
  obtain ⟨a, rfl, ha⟩ := r2
  refine ⟨a, xs, rfl, .inr (Ex.sqt o.ex ha), flat_rp r1 f, flat_all (hx G) hf, ?_⟩
  show Q (.bl (inV u _)) H
  rw [inV_rp r1 f (hx G) hf]
  exact q _ M _ G H k (Ex.refl G) (Rp.bl _) o

/-! ### methods of lists -/
theorem se_bm {T : String} {r : V → List V → Hp → VK → Prop} {ta' : TA} (h : SE W ta ρ M fun x M1 => (∀ (G H : Hp) (F : Cells) (u : V), RD G u x → Own G (M1 ++ F) H → tyV Kf T u H) ∧ SA W ta' ρ M1 fun xs M2 => BR r x xs M2 K) : SE W (tBM Kf T r ta ta') ρ M K := fun G σ H F Q re o mx q =>
  h G σ H F _ re o mx fun x M1 u G1 H1 ⟨ty, k1⟩ e1 r1 o1 => ⟨ty G1 H1 F u r1 o1, k1 G1 σ H1 F _ (re.mono e1) o1 (mx.mono e1) fun xs M2 vs G2 H2 k2 e2 r2 o2 => k2 G2 H2 F u vs Q (r1.mono e2) r2 o2 (Fin.mono q (e1.trans e2))⟩
theorem se_bm0 {T : String} {r : V → List V → Hp → VK → Prop} (h : SE W ta ρ M fun x M1 => (∀ (G H : Hp) (F : Cells) (u : V), RD G u x → Own G (M1 ++ F) H → tyV Kf T u H) ∧ BR r x [] M1 K) : SE W (tBM0 Kf T r ta) ρ M K := fun G σ H F Q re o mx q =>
  h G σ H F _ re o mx fun x M1 u G1 H1 ⟨ty, k1⟩ e1 r1 o1 => ⟨ty G1 H1 F u r1 o1, k1 G1 H1 F u [] Q r1 .nil o1 (Fin.mono q e1)⟩
theorem ty_cell {i : Nat} {p : Addr} {ds : List D} (hc : CA M i p (.lst ds)) : ∀ (G H : Hp) (F : Cells) (u : V), RD G u (dR p) → Own G (M ++ F) H → tyV Kf "list" u H := fun G H F u r o => by
  cases r
  obtain ⟨vs, hv, _⟩ := o.at hc
  exact .inl ⟨rfl, _, SqL.of hv⟩
theorem br_append (i : Nat) {p : Addr} {ds : List D} {d : D} (hc : CA M i p (.lst ds)) (hl : ds.length ≤ 1000000) (k : K dN (M.set i (p, (.lst (ds ++ [d]))))) : BR rAppend (dR p) [d] M K := fun G H F u us Q r rs o q => by
  cases r
  obtain ⟨v, rfl, r1⟩ := rs.one
  obtain ⟨vs, hv, rr⟩ := o.at hc
  refine ⟨p, vs, v, rfl, rfl, hv, by rw [rr.length]; exact Nat.lt_of_le_of_lt hl (by decide), q _ _ _ G _ k (Ex.refl G) Rp.non (o.store hc ⟨_, upd_same, rr.append (.cons r1 .nil)⟩)⟩
theorem br_reverse (i : Nat) {p : Addr} {ds : List D} (hc : CA M i p (.lst ds)) (k : K dN (M.set i (p, (.lst ds.reverse)))) : BR rReverse (dR p) [] M K := fun G H F u us Q r rs o q => by
  cases r
  cases rs
  obtain ⟨vs, hv, rr⟩ := o.at hc
  exact ⟨p, vs, rfl, rfl, hv, q _ _ _ G _ k (Ex.refl G) Rp.non (o.store hc ⟨_, upd_same, rr.reverse⟩)⟩
/-- found.append(e), as a statement -/
theorem ss_append (j : Nat) {i : Nat} {p : Addr} {ta' : TE} (hi : ρ[i]? = some (some (dR p))) (h : SE W ta' ρ M fun d M1 => ∃ ds, CA M1 j p (.lst ds) ∧ ds.length ≤ 1000000 ∧ P.nx ρ (M1.set j (p, (.lst (ds ++ [d]))))) (hc0 : ∃ ds, CA M j p (.lst ds)) :
    SS W (tDrop (tBM Kf "list" rAppend (tVar i) (tCons ta' tNil))) ρ M P := by
  obtain ⟨ds0, hc0⟩ := hc0
  refine ss_drop (se_bm (se_var hi ⟨ty_cell hc0, sa_cons (h.imp fun d M1 ⟨ds, hc, hl, k⟩ => sa_nil (br_append j hc hl k))⟩))
end
end PL

/-! PLX: rules of the machine that the layer lacked. -/
namespace PL
open PySem PySem.Spec L2 PyProof.Rows
section
variable {X : Cx}
/-- ** of a great base -/
def CPowW (i j : Int) : Prop := 0 ≤ j ∧ j ≤ 1000 ∧ i.natAbs < 2 ^ 1000
theorem op_powW : OpR X (binaryOp .Pow) (rI CPowW fun i j => .int (i ^ j.toNat)) := opI fun i j _ _ _ _ _ hc q => by
  have b : Builtin.Int.intBits i ≤ 1000 := by
    have := PySem.Flt.log2_lt_of (n := i.natAbs) (by decide : 0 < 1000) hc.2.2
    unfold Builtin.Int.intBits
    split <;> omega
  refine pow_int hc.1 ?_ q
  have h0 := hc.1
  have h1 := hc.2.1
  have h2 : (Builtin.Int.intBits i : Int) * j ≤ 1000 * j := Int.mul_le_mul_of_nonneg_right (by omega) h0
  have h3 : (1000 : Int) * j ≤ 1000 * 1000 := Int.mul_le_mul_of_nonneg_left h1 (by decide)
  exact Int.le_trans h2 (Int.le_trans h3 (by decide))
/-- a text so many times -/
def rRepS : R2 := fun x y H Q => ∃ (z : Str) (k : Int), x = .str z ∧ y = .int k ∧ k ≤ 1000000 ∧ -1000000 ≤ k ∧ z.length * k.toNat ≤ 1000000 ∧ z.length ≤ 1000000 ∧ Q (.str (Txt.mul z k)) H
theorem op_repS : OpR X (binaryOp .Mult) rRepS := by
  intro pins s σ H x y v u Q I rx ry h
  obtain ⟨z, k, rfl, rfl, h1, h2, h3, h4, q⟩ := h
  obtain ⟨t, rfl⟩ := rx
  obtain ⟨t', rfl⟩ := ry
  refine SB.mul ⟨?_, fun h5 h6 h7 => ?_, fun h5 h6 => ?_⟩ fun t' tk => ⟨.str (Txt.mul z k), H, I.tok _, ⟨_, rfl⟩, q⟩
  · rw [decide_eq_false (by omega), decide_eq_false (by omega)]
    rfl
  · have h8 : (9223372036854 : Int) ≤ (2 ^ 63 - 1) / k := by
      refine Int.le_ediv_of_mul_le (by omega) ?_
      have : (9223372036854 : Int) * k ≤ 9223372036854 * 1000000 := Int.mul_le_mul_of_nonneg_left h1 (by decide)
      exact Int.le_trans this (by decide)
    omega
  · show decide (z.length * k.toNat > sizeLine) = false
    exact decide_eq_false (Nat.not_lt.mpr (big_ok h3))
def rMulA : R2 := fun x y H Q => rI IntMulOk (fun i j => .int (i * j)) x y H Q ∨ rRepS x y H Q ∨ rRep x y H Q
theorem op_mulI : OpR X (binaryOp .Mult) (rI IntMulOk fun i j => .int (i * j)) := opI fun _ _ _ _ _ _ _ hc q => mul_int q hc
theorem op_mulA : OpR X (binaryOp .Mult) rMulA := OpR.or op_mulI (OpR.or op_repS op_rep)
end
theorem mulOk_l {i j : Int} (h1 : -(2 ^ 64) < i) (h2 : i < 2 ^ 64) : IntMulOk i j := CMul.ok (.inl ⟨h1, h2⟩)
theorem mulOk_r {i j : Int} (h1 : -(2 ^ 64) < j) (h2 : j < 2 ^ 64) : IntMulOk i j := CMul.ok (.inr ⟨h1, h2⟩)
theorem mulOk_w {i j : Int} (h1 : i.natAbs < 2 ^ 100000) (h2 : j.natAbs < 2 ^ 100000) : IntMulOk i j := CMulW.ok (wide_mul h1 h2 (by decide) (by decide) (by decide))
section
variable {W : WD} {ρ : Rho} {M : Cells} {K : D → Cells → Prop} {Kf : PySem.W.Frag}
theorem or_mulI {i j : Int} (h : IntMulOk i j) (k : K (dI (i * j)) M) : OR rMulA (dI i) (dI j) M K := fun G H F u v Q r1 r2 o q => .inl (or_I h (.int _) k G H F u v Q r1 r2 o q)
theorem or_repS {z : Str} {k : Int} (h : -1000000 ≤ k ∧ k ≤ 1000000 ∧ z.length * k.toNat ≤ 1000000 ∧ z.length ≤ 1000000) (kk : K (dS (Txt.mul z k)) M) : OR rMulA (dS z) (dI k) M K := fun G H F u v Q r1 r2 o q => by
  cases str_of r1
  cases int_of r2
  exact .inr (.inl ⟨z, k, rfl, rfl, h.2.1, h.1, h.2.2.1, h.2.2.2, q _ M _ G H kk (Ex.refl G) (Rp.str _) o⟩)
theorem rpAll_rep {G : Hp} {vs : List V} {ps : List PyData} (h : RpAll G vs ps) : ∀ n : Nat, RpAll G (List.replicate n vs).flatten (List.replicate n ps).flatten
  | 0 => .nil
  | n + 1 => by
    rw [List.replicate_succ, List.replicate_succ, List.flatten_cons, List.flatten_cons]
    exact h.append (rpAll_rep h n)
theorem or_repV {d : D} {ps : List PyData} {k : Int} (hv : LV M d (ps.map D.py)) (h1 : -1000000 ≤ k) (h2 : k ≤ 1000000) (h3 : ps.length * k.toNat ≤ 1000000) (kk : K (dL (List.replicate k.toNat ps).flatten) M) : OR rMulA d (dI k) M K := fun G H F u v Q r1 r2 o q => by
  cases int_of r2
  obtain ⟨a, vs, rfl, ha, rr⟩ := hv.at r1 o
  have r' := RDs.all rr
  refine .inr (.inr ⟨a, k, vs, rfl, rfl, ha, by omega, by omega, by rw [r'.length]; exact big_ok h3, fun p hp => ?_⟩)
  obtain ⟨G', e, rn, o'⟩ := new_lst o hp (rpAll_rep r' k.toNat)
  exact q _ M _ G' _ kk e rn o'
theorem or_fdiv {i j : Int} (h : CDivW i j) (k : K (dI (i / j)) M) : OR (rI CDivW fun i j => .int (i / j)) (dI i) (dI j) M K := or_I h (.int _) k
theorem fdiv_ok {i j : Int} (h0 : 0 < j) (h1 : j < 2 ^ 8000) : CDivW i j := wide_div h0 (b := 8000) (by omega) (by decide) (by decide)
theorem or_mod {i j : Int} (h : 0 < j) (k : K (dI (i % j)) M) : OR (rI (fun _ j => 0 < j) fun i j => .int (i % j)) (dI i) (dI j) M K := or_I h (.int _) k
theorem or_pow {i j : Int} (h : CPowW i j) (k : K (dI (i ^ j.toNat)) M) : OR (rI CPowW fun i j => .int (i ^ j.toNat)) (dI i) (dI j) M K := or_I h (.int _) k
end
end PL

/-! PLE1: enumerate(text, start=k), whatever the start; enumerate(text). -/
namespace PySem
open Sem (wp)
/-- an enumerate object, the first count perhaps given (a start beyond a machine's number) -/
abbrev IsEnumG (h : Heap) (e it : Addr) (c : Int) (g old : Value) : Prop := h.get? e = some { cls := .type "enumerate", data := .fields #[.none, .bool false, .ref it, rawInt c, g, old] }
set_option maxHeartbeats 2000000 in
theorem meets_enumerate_newKH {v : Value} {o : Obj} {H : Heap → Prop} (B : Begins v o H) (k : Int) (t : Tok) (hfit : Builtin.SmallTypes.fitsIndex k = false) :
    Meets (Builtin.«enumerate.__new__» ⟨[.type "enumerate", v], [(Str.ofString "start", .int k t)]⟩) (fun _ R s => H s.heap ∧
      R (.ok (.ret (.ref (s.heap.push o).objs.size))) { s with heap := (s.heap.push o).push { cls := .type "enumerate", data := .fields #[.none, .bool false, .ref s.heap.objs.size, rawInt k, .int k t, .none] } }) :=
  .of_wp fun prog w A R s h => by
    obtain ⟨hp, g, d, tk, os⟩ := s; obtain ⟨h1, h⟩ := h
    have hsub := sub_enumerate
    have hnf : (!Builtin.SmallTypes.fitsIndex k) = true := by rw [hfit]; rfl
    have q1 : ∀ {A' : Around} {E : Value → Shared → Prop} {Q : Value → Shared → Prop}, Q (.ref hp.objs.size) ⟨hp.push o, g, d, tk, os⟩ → wpAny (model prog w) A' (pyIter v) Q E ⟨hp, g, d, tk, os⟩ :=
      fun q => B.iter prog w _ _ ⟨hp, g, d, tk, os⟩ _ h1 q
    have e1 : (Str.ofString "start" == ("start" : Str)) = true := by decide +kernel
    have e2 : (Str.ofString "start" != ("start" : Str)) = false := by decide +kernel
    have e3 : (Str.ofString "start" != ("iterable" : Str)) = true := by decide +kernel
    have e4 : (("start" : Str) == Str.ofString "start") = true := by decide +kernel
    have e5 : (("iterable" : Str) == Str.ofString "start") = false := by decide +kernel
    wp_walk using q1
    refine wpAny_stack_any fun st => wpAny_pure ?_
    split
    · rename_i c _ _ _ _ _
      cases (c == Value.type "enumerate")
      · wp_walk using q1
        exact ⟨_, rfl, h⟩
      · wp_walk using q1
        exact ⟨_, rfl, h⟩
    · wp_walk using q1
      exact ⟨_, rfl, h⟩
section
variable {prog : Program} {w : World} {A : Around} {E : Value → Shared → Prop} {s : Shared}
theorem enum_begins_huge {v : Value} {o : Obj} {H : Heap → Prop} {k : Int} {t : Tok} {Q : Value → Shared → Prop} (B : Begins v o H) (h1 : H s.heap) (hfit : Builtin.SmallTypes.fitsIndex k = false)
    (h : ∀ h', IsEnumG h' (s.heap.objs.size + 1) s.heap.objs.size k (.int k t) .none → h'.get? s.heap.objs.size = some o → h'.objs.size = s.heap.objs.size + 2 →
      (∀ b o, s.heap.get? b = some o → h'.get? b = some o) → Q (.ref (s.heap.objs.size + 1)) { s with heap := h' }) :
    wpAny (model prog w) A (call (.type "enumerate") [v] [(Str.ofString "start", .int k t)]) Q E s := by
  refine callType_newKw F.called_enumerate (by decide) (F.typeCall_enumerate_start _ _) (F.newCall_enumerate_start _ _) (fun obj => F.args_object_init_start obj _ _) F.entry_enumerate_new
    (meets_enumerate_newKH B k t hfit) ⟨h1, ?_⟩
  have hz : (s.heap.push o).objs.size = s.heap.objs.size + 1 := Heap.size_push ..
  show _ ∧ _
  rw [hz]
  have he : IsEnumG ((s.heap.push o).push { cls := .type "enumerate", data := .fields #[.none, .bool false, .ref s.heap.objs.size, rawInt k, .int k t, .none] }) (s.heap.objs.size + 1) s.heap.objs.size k (.int k t) .none := by
    have := Heap.get?_push_size (s.heap.push o) (o := { cls := .type "enumerate", data := .fields #[.none, .bool false, .ref s.heap.objs.size, rawInt k, .int k t, .none] }) rfl
    rw [hz] at this; exact this
  refine ⟨⟨_, he, rfl⟩, h _ he (Heap.get?_push_of_some _ (Heap.get?_push_size _ B.free)) (by rw [Heap.size_push, hz]) fun b o x => Heap.get?_push_of_some _ (Heap.get?_push_of_some _ x)⟩
theorem enum_begins_any {v : Value} {o : Obj} {H : Heap → Prop} {k : Int} {t : Tok} {Q : Value → Shared → Prop} (B : Begins v o H) (h1 : H s.heap)
    (h : ∀ h' g, (g = .none ∨ ∃ t, g = .int k t) → IsEnumG h' (s.heap.objs.size + 1) s.heap.objs.size k g .none → h'.get? s.heap.objs.size = some o → h'.objs.size = s.heap.objs.size + 2 →
      (∀ b o, s.heap.get? b = some o → h'.get? b = some o) → Q (.ref (s.heap.objs.size + 1)) { s with heap := h' }) :
    wpAny (model prog w) A (call (.type "enumerate") [v] [(Str.ofString "start", .int k t)]) Q E s := by
  cases hf : Builtin.SmallTypes.fitsIndex k with
  | false => exact enum_begins_huge B h1 hf fun h' a b c d => h h' _ (.inr ⟨t, rfl⟩) a b c d
  | true =>
    unfold Builtin.SmallTypes.fitsIndex at hf
    simp only [Bool.and_eq_true, decide_eq_true_eq] at hf
    exact enum_begins_start B h1 hf.1 hf.2 fun h' a b c d => h h' _ (.inl rfl) a b c d
theorem enumerate_next_itemG {e it : Addr} {fp : List Addr} {n i : Nat} {c : Int} {P : Nat → Value → Prop} {St : Nat → Heap → Prop} {old g : Value} {Q : Value → Shared → Prop} (hg : g = .none ∨ ∃ t, g = .int c t)
    (D : Draws prog w A it fp n P St) (he : IsEnumG s.heap e it c g old) (hst : St i s.heap) (hlt : i < n) (hne : e ≠ it) (hef : e ∉ fp)
    (hQ : ∀ x h' tk t, P i x → IsEnumOut h' e it (c + 1) x s.heap.objs.size → St (i + 1) h' →
      h'.get? s.heap.objs.size = some { cls := .type "tuple", data := .seq #[.int c t, x] } → h'.objs.size = s.heap.objs.size + 1 →
      (∀ b o, b ≠ e → b ≠ it → s.heap.get? b = some o → h'.get? b = some o) → Q (.ref s.heap.objs.size) { s with heap := h', toks := tk }) :
    wpAny (model prog w) A (Builtin.«enumerate.__next__» ⟨[.ref e], []⟩) (fun fin s' => ∃ v, fin = .done (.ret v) ∧ Q v s') E s := by
  obtain ⟨hp, gg, d, tk₀, os⟩ := s
  show wpAny _ _ (field (.ref e) 2 >>= _) _ _ _
  refine wpAny_bind (wpAny_field he rfl (x := .ref it) rfl ?_)
  refine wpAny_bind (D.item i _ _ _ hlt hst fun x h₁ tk hPx hit₁ hs₁ => ?_)
  replace hs₁ : Heap.SameBut it hp h₁ := hs₁
  have he₁ : IsEnumG h₁ e it c g old := (hs₁.2 e hne).trans he
  show wpAny _ _ (field (.ref e) 3 >>= _) _ _ ⟨h₁, gg, d, tk, os⟩
  refine wpAny_bind (wpAny_field he₁ rfl (x := rawInt c) rfl ?_)
  show wpAny _ _ (field (.ref e) 4 >>= _) _ _ ⟨h₁, gg, d, tk, os⟩
  refine wpAny_bind (wpAny_field he₁ rfl (x := g) rfl ?_)
  have key : ∀ (ti : Tok) (tk1 : Nat), wpAny (model prog w) A (do
      setField (.ref e) 3 (rawInt (c + 1)); setField (.ref e) 4 .none
      let result ← newTuple [.int c ti, x]
      if ← Builtin.SmallTypes.ownedTupleIsFree (.ref e) then
        rule "enumerate.__next__.owned-tuple-again"
        let old ← field (.ref e) 5
        setField (.ref e) 5 x
        Builtin.SmallTypes.ownedTupleHandOut (.ref e) result
        letGo [old] [result]
      ret result) (fun fin s' => ∃ v, fin = .done (.ret v) ∧ Q v s') E ⟨h₁, gg, d, tk1, os⟩ := by
    intro ti tk1
    refine wpAny_bind (wpAny_setField_rec he₁ (by simp) fun h₂ he₂ hs₂ => ?_)
    replace hs₂ : Heap.SameBut e h₁ h₂ := hs₂
    replace he₂ : IsEnumG h₂ e it (c + 1) g old := he₂
    refine wpAny_bind (wpAny_setField_rec he₂ (by simp) fun h₃ he₃ hs₃ => ?_)
    replace hs₃ : Heap.SameBut e h₂ h₃ := hs₃
    replace he₃ : IsEnum h₃ e it (c + 1) old := he₃
    refine wpAny_bind (wpAny_newTuple ?_)
    have he₄ : IsEnum (h₃.push { cls := .type "tuple", data := .seq #[.int c ti, x] }) e it (c + 1) old := Heap.get?_push_of_some _ he₃
    generalize hh₄ : h₃.push { cls := .type "tuple", data := .seq #[.int c ti, x] } = h₄ at he₄
    have hsz : h₃.objs.size = hp.objs.size := by rw [hs₃.1, hs₂.1, hs₁.1]
    have hel : e < hp.objs.size := Heap.lt_size he
    have ht₄ : h₄.get? hp.objs.size = some { cls := .type "tuple", data := .seq #[.int c ti, x] } := by rw [← hh₄, ← hsz]; exact Heap.get?_push_size _ rfl
    have hz₄ : h₄.objs.size = hp.objs.size + 1 := by rw [← hh₄, Heap.size_push, hsz]
    have hk₄ : ∀ b o, b ≠ e → b ≠ it → hp.get? b = some o → h₄.get? b = some o := fun b o hbe hbi hb => by
      rw [← hh₄]; exact Heap.get?_push_of_some _ (hs₃.extBut b o hbe (hs₂.extBut b o hbe (hs₁.extBut b o hbi hb)))
    have hit₄ : St (i + 1) h₄ := D.frame _ _ _ hit₁ fun b hb o y => by
      have hbe : b ≠ e := fun q => hef (q ▸ hb)
      rw [← hh₄]; exact Heap.get?_push_of_some _ (hs₃.extBut b o hbe (hs₂.extBut b o hbe y))
    show wpAny _ _ (Builtin.SmallTypes.ownedTupleIsFree (.ref e) >>= _) _ _ ⟨h₄, gg, d, tk1, os⟩
    rw [hsz]
    clear hh₄ he₃ hs₃ he₂ hs₂ he₁ hs₁ hit₁ hsz h₃ h₂ h₁
    refine wpAny_bind ?_
    · unfold Builtin.SmallTypes.ownedTupleIsFree
      refine wpAny_bind (wpAny_field he₄ rfl (x := .none) rfl (wpAny_pure ?_))
      simp only [if_true]
      refine wpAny_bind (wpAny_rule ?_)
      refine wpAny_bind (wpAny_field he₄ rfl (x := old) rfl ?_)
      refine wpAny_bind (wpAny_setField_rec he₄ (by simp) fun h₅ he₅ hs₅ => ?_)
      replace hs₅ : Heap.SameBut e h₄ h₅ := hs₅
      replace he₅ : IsEnum h₅ e it (c + 1) x := he₅
      show wpAny _ _ (Builtin.SmallTypes.ownedTupleHandOut (.ref e) (.ref hp.objs.size) >>= _) _ _ ⟨h₅, gg, d, tk1, os⟩
      refine wpAny_bind ?_
      · unfold Builtin.SmallTypes.ownedTupleHandOut
        refine wpAny_bind (wpAny_setField_rec he₅ (by simp) fun h₆ he₆ hs₆ => ?_)
        replace hs₆ : Heap.SameBut e h₅ h₆ := hs₆
        replace he₆ : IsEnumOut h₆ e it (c + 1) x hp.objs.size := he₆
        refine wpAny_setField_rec he₆ (by simp) fun h₇ he₇ hs₇ => ?_
        replace hs₇ : Heap.SameBut e h₆ h₇ := hs₇
        replace he₇ : IsEnumOut h₇ e it (c + 1) x hp.objs.size := he₇
        refine wpAny_bind (wpAny_letGo (wpAny_pure ⟨_, rfl, hQ x h₇ tk1 ti hPx he₇ ?_ ?_ ?_ ?_⟩))
        · exact D.frame _ _ _ hit₄ fun b hb o y => by
            have hbe : b ≠ e := fun q => hef (q ▸ hb)
            exact hs₇.extBut b o hbe (hs₆.extBut b o hbe (hs₅.extBut b o hbe y))
        · exact hs₇.extBut _ _ (Nat.ne_of_gt hel) (hs₆.extBut _ _ (Nat.ne_of_gt hel) (hs₅.extBut _ _ (Nat.ne_of_gt hel) ht₄))
        · rw [hs₇.1, hs₆.1, hs₅.1, hz₄]
        · exact fun b o hbe hbi hb => hs₇.extBut b o hbe (hs₆.extBut b o hbe (hs₅.extBut b o hbe (hk₄ b o hbe hbi hb)))
  rcases hg with rfl | ⟨tg, rfl⟩
  · show wpAny _ _ (mkInt c >>= _) _ _ ⟨h₁, gg, d, tk, os⟩
    exact wpAny_bind (wpAny_mkInt (key tk (tk + 1)))
  · exact key tg tk
theorem wpAny_pyNext_enum_itemG {e it : Addr} {fp : List Addr} {n i : Nat} {c : Int} {P : Nat → Value → Prop} {St : Nat → Heap → Prop} {old g : Value} {Q : Option Value → Shared → Prop} (hg : g = .none ∨ ∃ t, g = .int c t)
    (D : Draws prog w A.in1 it fp n P St) (he : IsEnumG s.heap e it c g old) (hst : St i s.heap) (hlt : i < n) (hne : e ≠ it) (hef : e ∉ fp)
    (hQ : ∀ x h' tk t, P i x → IsEnumOut h' e it (c + 1) x s.heap.objs.size → St (i + 1) h' →
      h'.get? s.heap.objs.size = some { cls := .type "tuple", data := .seq #[.int c t, x] } → h'.objs.size = s.heap.objs.size + 1 →
      (∀ b o, b ≠ e → b ≠ it → s.heap.get? b = some o → h'.get? b = some o) → Q (some (.ref s.heap.objs.size)) { s with heap := h', toks := tk }) :
    wpAny (model prog w) A (pyNext (.ref e)) Q E s := by
  have hT : s.TypeIs (.ref e) "enumerate" := ⟨_, he, rfl⟩
  unfold pyNext
  exact wpAny_bind (wpAny_attempt (wpAny_callSpecial?_slot (name := Str.ofString "__next__") hT F.slot_enumerate_next
    (wpAny_call_entry F.slot_enumerate_next hT F.entry_enumerate_next
      (enumerate_next_itemG hg D he hst hlt hne hef fun x h' tk t a b c d k q => wpAny_pure (hQ x h' tk t a b c d k q)) (F.args_enumerate_next_1 _))))
theorem wpAny_pyIter_enumG {e it : Addr} {i : Int} {old g : Value} {Q : Value → Shared → Prop} (he : IsEnumG s.heap e it i g old) (h : Q (.ref e) s) : wpAny (model prog w) A (pyIter (.ref e)) Q E s := by
  have hT : s.TypeIs (.ref e) "enumerate" := ⟨_, he, rfl⟩
  refine wpAny_pyIter_slot hT F.slot_enumerate_iter (wpAny_call_entry F.slot_enumerate_iter hT F.entry_enumerate_iter ?_ (F.args_enumerate_iter_1 _))
  show wpAny _ _ (ret (.ref e)) _ _ s
  exact wpAny_pure ⟨_, rfl, "enumerate", _, hT, F.slot_enumerate_next.lookup, h⟩
end
end PySem

/-! PLE2: enumerate(text, start=k), enumerate(text) as rules of the layer. -/
namespace PySem
section
variable {prog : Program} {w : World} {A : Around} {E : Value → Shared → Prop} {s : Shared}
theorem wpAny_pyNext_enum_endG {e it : Addr} {fp : List Addr} {n : Nat} {P : Nat → Value → Prop} {St : Nat → Heap → Prop} {i : Int} {old g : Value} {Q : Option Value → Shared → Prop}
    (D : Draws prog w A.in1 it fp n P St) (he : IsEnumG s.heap e it i g old) (hst : St n s.heap)
    (hQ : ∀ h', Heap.ExtBut it s.heap h' → Q none { s with heap := h' }) : wpAny (model prog w) A (pyNext (.ref e)) Q E s := by
  have hT : s.TypeIs (.ref e) "enumerate" := ⟨_, he, rfl⟩
  unfold pyNext
  refine wpAny_bind (wpAny_attempt (wpAny_callSpecial?_slot (name := Str.ofString "__next__") hT F.slot_enumerate_next
    (wpAny_call_entry F.slot_enumerate_next hT F.entry_enumerate_next ?_ (F.args_enumerate_next_1 _))))
  show wpAny _ _ (field (.ref e) 2 >>= _) _ _ _
  refine wpAny_bind (wpAny_field he rfl (x := .ref it) rfl ?_)
  refine wpAny_bind (D.done _ _ _ hst fun h' x he' hx' => ?_)
  obtain ⟨o, ho, hc⟩ := hx'
  refine wpAny_bind (wpAny_isInstance (T := "StopIteration") (b := true) ⟨o, ho, hc⟩ isSubtype_stop ?_)
  exact wpAny_pure (hQ _ he')
/-- a built-in class called with keywords -/
theorem callWith_type_kwB {M : Model} {A : Around} {E : Value → Shared → Prop} {s : Shared} {pos : Pos} {T : String} {first : List Value} {args : List (Bool × Sem Value)} {keywords : List (Option Str × Sem Value)} {Q : Value → Shared → Prop}
    (hplain : args.any (·.1) = false) (hkw : keywords.any (·.1.isNone) = false)
    (h : wpAny M A (evalArgs (.type T) true args keywords) (fun a s₁ => wpAny M A (call (.type T) (first ++ a.pos) a.kw) Q E s₁) E s) :
    wpAny M A (callWith pos (.type T) first args keywords) Q E s := by
  unfold callWith
  refine wpAny_bind (wpAny_holding (wpAny_mono h (fun a s₁ h₁ => wpAny_bind (wpAny_standAt ?_)) fun _ _ x => x))
  simp only [hplain, hkw, Bool.or_false]
  refine wpAny_bind (wpAny_pure ?_)
  exact wpAny_bind (wpAny_mono h₁ (fun r s₂ hr => wpAny_bind (wpAny_holding (wpAny_point (wpAny_pure hr)))) fun _ _ x => x)
theorem callWith_type_kw {M : Model} {A : Around} {E : Value → Shared → Prop} {s : Shared} {env : Env} {pos : Pos} {T : String} {e : Expr} {rest : List Expr} {kws : List Keyword} {Q : Value → Shared → Prop}
    (h : wpAny M A (spliced (backTo pos (starEach (e :: rest) env))) (fun vs s₁ => wpAny M A (evalAll ((backToKw pos (keywordEach kws env)).map (·.2)))
      (fun kvs s₂ => wpAny M A (call (.type T) vs (((backToKw pos (keywordEach kws env)).filterMap (·.1)).zip kvs)) Q E s₂) E s₁) E s)
    (he : backTo pos (starEach (e :: rest) env) = (false, eval e env) :: backTo pos (starEach rest env) := by rfl)
    (hplain : (backTo pos (starEach (e :: rest) env)).any (·.1) = false := by rfl)
    (hall : (backToKw pos (keywordEach kws env)).all (·.1.isSome) = true := by rfl)
    (hkw : (backToKw pos (keywordEach kws env)).any (·.1.isNone) = false := by rfl) :
    wpAny M A (callWith pos (.type T) [] (backTo pos (starEach (e :: rest) env)) (backToKw pos (keywordEach kws env))) Q E s := by
  refine callWith_type_kwB hplain hkw ?_
  rw [he] at h ⊢
  exact PyProof.Rows.evalArgs_kwB hall h
end
end PySem
namespace PL
open PySem PySem.Spec L2 PyProof.Rows
/-- a text, sign by sign, with a count -/
def Itse (x : Str) (k : Int) : It := ⟨fun i _ => i < x.cps.size, fun i H v H' => ∃ T c, v = .ref T ∧ H T = none ∧ H' = upd H T (.tup [.int (k + (i : Nat)), .str ⟨#[c]⟩]) ∧ x.cps[i]? = some c, fun i _ => i = x.cps.size⟩
theorem turn_enumS {P : Program} {w : World} {K : PySem.W.Frag} {elts : List Expr} {kk : Nat} {tpos : Pos} (x : Str) (t : Tok) (k : Int) (e it : Addr) :
    Turn P w K (.Tuple elts kk tpos) (Itse x k) [e, it] e (fun i h => (∃ g old, (g = .none ∨ (i = 0 ∧ ∃ t, g = .int k t)) ∧ IsEnumG h e it (k + ((i : Nat) : Int)) g old) ∧ h.IsStrIter it (strIterType x) x t i ∧ e ≠ it) where
  mem := by simp
  obj := fun i h st b hb => by
    obtain ⟨⟨g, old, _, he⟩, ⟨o, ho, hc, hd⟩, _⟩ := st
    have e' : b = e ∨ b = it := by simpa using hb
    rcases e' with z | z
    · rw [z]; exact ⟨_, he, fun v q => nomatch q⟩
    · rw [z]; exact ⟨o, ho, fun v q => by rw [hd] at q; cases q⟩
  keep := fun i h h' st kp => let ⟨⟨g, old, hg, he⟩, ⟨o, ho, r⟩, hne⟩ := st; ⟨⟨g, old, hg, kp e (by simp) _ he⟩, ⟨o, kp it (by simp) o ho, r⟩, hne⟩
  item := by
    intro X hP hw hK hc i pins s σ H E I hf st hg
    subst hP hw hK
    obtain ⟨⟨g, old, hgv, he⟩, hit, hne⟩ := st
    have hg' : g = .none ∨ ∃ t, g = .int (k + ((i : Nat) : Int)) t := by
      rcases hgv with h | ⟨h0, t, h⟩
      · exact .inl h
      · subst h0
        exact .inr ⟨t, by rw [h]; simp⟩
    have hel : e < s.heap.objs.size := Heap.lt_size he
    have hil : it < s.heap.objs.size := by obtain ⟨_, q, _⟩ := hit; exact Heap.lt_size q
    have D := Draws.text (prog := X.prog) (w := X.w) (A := X.A.in1) (I.ok.hd hc) it x t
    refine wpAny_pyNext_enum_itemG hg' D he hit hg hne (by simp [hne]) fun u h' tk ti hP ho hit' hT hsz hk => ?_
    obtain ⟨c, tc, hcx, rfl⟩ := hP
    refine ⟨_, rfl, wpAny_letOwnedTupleGo_enum (s := { s with heap := h', toks := tk }) ho fun h'' he' sb => ?_⟩
    have hT2 : h''.get? s.heap.objs.size = some { cls := .type "tuple", data := .seq #[.int (k + ((i : Nat) : Int)) ti, .str ⟨#[c]⟩ tc] } := (sb.2 _ (Nat.ne_of_gt hel)).trans hT
    have new : ObjOk X.prog X.w (upd H s.heap.objs.size (.tup [.int (k + (i : Nat)), .str ⟨#[c]⟩])) h'' s.heap.objs.size (.tup [.int (k + (i : Nat)), .str ⟨#[c]⟩]) :=
      ⟨by show 2 ≤ sizeLine; decide, [.int (k + ((i : Nat) : Int)) ti, .str ⟨#[c]⟩ tc], .cons ⟨_, rfl⟩ (.cons ⟨_, rfl⟩ .nil), ⟨_, hT2, rfl, _, rfl⟩⟩
    have I1 : Inv X pins σ (upd H s.heap.objs.size (.tup [.int (k + (i : Nat)), .str ⟨#[c]⟩])) { s with heap := h'', toks := tk } :=
      I.turnedNew (ch := [e, it]) (fun b ob hb q => (sb.2 b (fun z => hb (by simp [z]))).trans (hk b ob (fun z => hb (by simp [z])) (fun z => hb (by simp [z])) q)) hf (Nat.le_refl _) new
    refine ⟨.ref s.heap.objs.size, _, I1, rfl, ⟨_, c, rfl, I.hok.fresh (Nat.le_refl _), rfl, hcx⟩, ⟨⟨.none, .str ⟨#[c]⟩ tc, .inl rfl, ?_⟩, ?_, hne⟩, fun b hb => ?_⟩
    · have e1 : k + ((i + 1 : Nat) : Int) = k + (i : Int) + 1 := by omega
      rw [e1]
      exact he'
    · obtain ⟨o, q1, q2⟩ := hit'
      exact ⟨o, (sb.2 it (Ne.symm hne)).trans q1, q2⟩
    · have hb' : b < s.heap.objs.size := by
        have e' : b = e ∨ b = it := by simpa using hb
        rcases e' with z | z
        · rw [z]; exact hel
        · rw [z]; exact hil
      rw [upd_ne (Nat.ne_of_lt hb')]
      exact (hf b hb).1
  done := by
    intro X hP hw hK hc i pins s σ H E I hf st hg
    subst hP hw hK
    obtain ⟨⟨g, old, _, he⟩, hit, hne⟩ := st
    have hgi : i = x.cps.size := hg
    obtain ⟨f0, f1, f2, f3, f4, f5⟩ := hf it (by simp)
    have D := Draws.text (prog := X.prog) (w := X.w) (A := X.A.in1) (I.ok.hd hc) it x t
    rw [hgi] at hit
    exact wpAny_pyNext_enum_endG D he hit fun h' eb => ⟨rfl, I.turned (t' := s.toks) (fun b o hb q => eb b o hb q) f0 f1 f3 f4 f5⟩
  self := fun A i s Q E st h => let ⟨⟨_, _, _, he⟩, _⟩ := st; wpAny_pyIter_enumG he h
section
variable {X : Cx} {e b : Expr} {ta : TA} {tk : TA} {te : TE} {p pos tpos kpos : Pos} {elts : List Expr} {kk : Nat}
def iEnumS (ta : TA) : TI := fun σ H R => ta σ H fun vs H1 => ∃ x, vs = [.str x] ∧ R (Itse x 0) H1
def iEnumK (ta tk : TA) : TI := fun σ H R => ta σ H fun vs H1 => tk σ H1 fun zs H2 => ∃ x k, vs = [.str x] ∧ zs = [.int k] ∧ R (Itse x k) H2
theorem enumS_pie {pins : List (Addr × Obj)} {σ : L2.St} {H1 : Hp} {s1 : Shared} {h' : Heap} {x : Str} {t : Tok} {k : Int} {g : Value} {R : It → Hp → Prop} (I1 : Inv X pins σ H1 s1) (hg : g = .none ∨ ∃ t, g = .int k t) (he : IsEnumG h' (s1.heap.objs.size + 1) s1.heap.objs.size k g .none)
    (ho : h'.IsStrIter s1.heap.objs.size (strIterType x) x t 0) (hk : ∀ b o, s1.heap.get? b = some o → h'.get? b = some o) (q : R (Itse x k) H1) :
    PIE X pins σ (.Tuple elts kk tpos) R (.ref (s1.heap.objs.size + 1)) { s1 with heap := h' } := by
  have I2 : Inv X pins σ H1 { s1 with heap := h' } := I1.kept (t' := s1.toks) hk
  refine ⟨s1.heap.objs.size + 1, [s1.heap.objs.size + 1, s1.heap.objs.size], _, _, H1, rfl, I2, turn_enumS x t k (s1.heap.objs.size + 1) s1.heap.objs.size, ⟨⟨g, .none, hg.elim .inl fun h => .inr ⟨rfl, h⟩, by simpa using he⟩, ho, Nat.succ_ne_self _⟩, fun b hb => ?_, q⟩
  have e' : b = s1.heap.objs.size + 1 ∨ b = s1.heap.objs.size := by simpa using hb
  have hle : s1.heap.objs.size ≤ b := by
    rcases e' with z | z
    · rw [z]; exact Nat.le_add_right _ _
    · rw [z]; exact Nat.le_refl _
  exact I1.fpOk hle (I1.hok.fresh hle)
/-- for i, c in enumerate(a text) -/
theorem pi_enumS (hg : Gl X "enumerate") (hm : X.mg "enumerate" = none) (ha : PA X [e] ta) (hs : starEach [e] X.env = [(false, eval e X.env)] := by rfl) :
    PI X (.Tuple elts kk tpos) (.Call (.Name "enumerate" p) [e] [] pos) (iEnumS ta) := by
  refine ⟨fun pins s σ H R I h => ?_⟩
  refine Call_ (ld_blt I hg hm boot_enumerate (PyProof.Rows.callWith_type1 (thn (ha.run pos pins s σ H _ I h) fun us s1 ⟨vs, H1, I1, r1, q1⟩ => ?_) hs rfl))
  obtain ⟨x, ex, q⟩ := q1
  subst ex
  cases r1 with
  | cons r rr =>
    cases rr
    obtain ⟨t, rfl⟩ := r
    refine call_enumerate_str fun h' he hit hsz hk => wpAny_pyIter_enumG he ?_
    exact enumS_pie I1 (.inl rfl) he hit hk q
/-- for i, c in enumerate(a text, start=k) -/
theorem pi_enumK (hg : Gl X "enumerate") (hm : X.mg "enumerate" = none) (ha : PA X [e] ta) (hk : PK X [⟨some (Str.ofString "start"), b, kpos⟩] tk)
    (hb : backTo pos (starEach [e] X.env) = (false, eval e X.env) :: backTo pos (starEach [] X.env) := by rfl) (hpl : (backTo pos (starEach [e] X.env)).any (·.1) = false := by rfl)
    (hall : (backToKw pos (keywordEach [⟨some (Str.ofString "start"), b, kpos⟩] X.env)).all (·.1.isSome) = true := by rfl)
    (hks : (backToKw pos (keywordEach [⟨some (Str.ofString "start"), b, kpos⟩] X.env)).filterMap (·.1) = [Str.ofString "start"] := by rfl)
    (hnone : (backToKw pos (keywordEach [⟨some (Str.ofString "start"), b, kpos⟩] X.env)).any (·.1.isNone) = false := by rfl) :
    PI X (.Tuple elts kk tpos) (.Call (.Name "enumerate" p) [e] [⟨some (Str.ofString "start"), b, kpos⟩] pos) (iEnumK ta tk) := by
  refine ⟨fun pins s σ H R I h => ?_⟩
  refine wpAny_Call_Name_kw (ld_blt I hg hm boot_enumerate ?_)
  refine PySem.callWith_type_kw (thn (ha.run pos pins s σ H _ I h) fun us s1 ⟨vs, H1, I1, r1, q1⟩ => thn (hk.run pos pins s1 σ H1 _ I1 q1) fun ws s2 ⟨zs, H2, I2, r2, x, k, ev, ez, q⟩ => ?_) hb hpl hall hnone
  subst ev
  subst ez
  rw [hks]
  cases r1 with
  | cons r rr =>
    cases rr
    obtain ⟨t, rfl⟩ := r
    cases r2 with
    | cons r' rr' =>
      cases rr'
      obtain ⟨t', rfl⟩ := r'
      exact enum_begins_any (PySem.begins_text x t) True.intro fun h' g hgv he ho hsz hkk => wpAny_pyIter_enumG he (enumS_pie I2 hgv he ⟨_, ho, rfl, rfl⟩ hkk q)
end
/-! ### readings -/
section
variable {W : WD} {ρ : Rho} {M : Cells}
theorem dw_enumS {G : Hp} {x : Str} {k : Int} : DW (Itse x k) G x.cps.size (fun i d => ∃ c, x.cps[i]? = some c ∧ d = dT [.int (k + (i : Nat)), .str ⟨#[c]⟩]) fun _ => True := by
  refine ⟨fun _ => True, fun i H v H' => ∃ T c, v = .ref T ∧ H T = none ∧ H' = upd H T (.tup [.int (k + (i : Nat)), .str ⟨#[c]⟩]) ∧ x.cps[i]? = some c, ⟨fun i H hi _ => hi, fun H _ => rfl, fun i H v H' hi _ y => y⟩, fun _ _ _ _ _ _ _ => trivial, ?_⟩
  rintro F' i G' M' H' v H2 hi e o' _ ⟨T, c, rfl, hT, rfl, hc⟩
  obtain ⟨G2, d, a1, a2, a3, a4⟩ := pair_new o' hT (Rp.int (k + (i : Nat))) (Rp.str ⟨#[c]⟩)
  exact ⟨G2, d, a1, a2, ⟨c, hc, a3⟩, a4⟩
theorem si_enumS {ta : TA} {R : Nat → (Nat → D → Prop) → (Cells → Prop) → Cells → Prop} (h : SA W ta ρ M fun ds M1 => ∃ x, ds = [dS x] ∧ R x.cps.size (fun i d => ∃ c, x.cps[i]? = some c ∧ d = dT [.int (i : Nat), .str ⟨#[c]⟩]) (fun _ => True) M1) : SI W (iEnumS ta) ρ M R := fun G σ H F Q re o mx q =>
  h G σ H F _ re o mx fun ds M1 vs G1 H1 ⟨x, ed, k⟩ e1 r1 o1 => by
    subst ed
    obtain ⟨v, rfl, r⟩ := r1.one
    cases str_of r
    refine ⟨x, rfl, q _ _ _ M1 G1 H1 _ k e1 o1 ?_⟩
    have z := dw_enumS (G := G1) (x := x) (k := 0)
    simp only [Int.zero_add] at z
    exact z
theorem si_enumK {ta tk : TA} {R : Nat → (Nat → D → Prop) → (Cells → Prop) → Cells → Prop} (h : SA W ta ρ M fun ds M1 => SA W tk ρ M1 fun es M2 => ∃ x k, ds = [dS x] ∧ es = [dI k] ∧ R x.cps.size (fun i d => ∃ c, x.cps[i]? = some c ∧ d = dT [.int (k + (i : Nat)), .str ⟨#[c]⟩]) (fun _ => True) M2) : SI W (iEnumK ta tk) ρ M R := fun G σ H F Q re o mx q =>
  h G σ H F _ re o mx fun ds M1 vs G1 H1 k1 e1 r1 o1 => k1 G1 σ H1 F _ (re.mono e1) o1 (mx.mono e1) fun es M2 zs G2 H2 ⟨x, k, ed, ee, kk⟩ e2 r2 o2 => by
    subst ed
    subst ee
    obtain ⟨v, rfl, r⟩ := r1.one
    cases str_of r
    obtain ⟨v, rfl, r'⟩ := r2.one
    cases int_of r'
    exact ⟨x, k, rfl, rfl, q _ _ _ M2 G2 H2 _ kk (e1.trans e2) o2 dw_enumS⟩
end
end PL

/-! PL5: targets, instances, methods, isinstance, dict displays, calls that hand over cells in any order. -/
namespace PL
open PySem PySem.Spec L2
open PyProof.Rows (envOfC)

/-! ### rules by alternatives -/
section
variable {X : Cx}
theorem PG.or {tg : Expr} {g g' : TG} (h : PG X tg g) (h' : PG X tg g') : PG X tg (fun v σ H Q => g v σ H Q ∨ g' v σ H Q) := ⟨fun pins s σ H v u Q I r q => q.elim (h.run pins s σ H v u Q I r) (h'.run pins s σ H v u Q I r)⟩
theorem PI.or {tg e : Expr} {w w' : TI} (h : PI X tg e w) (h' : PI X tg e w') : PI X tg e (fun σ H R => w σ H R ∨ w' σ H R) := ⟨fun pins s σ H R I q => q.elim (h.run pins s σ H R I) (h'.run pins s σ H R I)⟩
/-- a, b = a tuple or a list -/
def gSeq (K : PySem.W.Frag) (n : Nat) (t : TGs) : TG := fun v σ H Q => gTup K n t v σ H Q ∨ gUnl K n t v σ H Q
theorem pg_seq {es : List Expr} {k n : Nat} {t : TGs} {pos : Pos} (hc : X.calm = true) (h : PGs X es t) (hn : (assignEach es X.env).length = n := by rfl) (hst : (assignEach es X.env).findIdx? (·.1) = none := by rfl) : PG X (.Tuple es k pos) (gSeq X.K n t) :=
  PG.or (pg_tup hc h hn hst) (pg_unl hc h hn hst)
/-- for x in a list, a tuple or a text -/
def iAny (K : PySem.W.Frag) (te : TE) : TI := fun σ H R => iList K te σ H R ∨ (iTup K te σ H R ∨ iStr te σ H R)
theorem pi_any {tg e : Expr} {te : TE} (h : PE X e te) (hl : PI X tg e (iList X.K te)) (ht : PI X tg e (iTup X.K te)) (hs : PI X tg e (iStr te)) : PI X tg e (iAny X.K te) := PI.or hl (PI.or ht hs)
/-- enumerate of a list or of a text -/
def iEnumA (K : PySem.W.Frag) (ta : TA) : TI := fun σ H R => iEnum K ta σ H R ∨ iEnumS ta σ H R
theorem pi_enumA {e : Expr} {ta : TA} {p pos tpos : Pos} {elts : List Expr} {kk : Nat} (hg : Gl X "enumerate") (hm : X.mg "enumerate" = none) (ha : PA X [e] ta) (hs : starEach [e] X.env = [(false, eval e X.env)] := by rfl) :
    PI X (.Tuple elts kk tpos) (.Call (.Name "enumerate" p) [e] [] pos) (iEnumA X.K ta) := PI.or (pi_enum hg hm ha hs) (pi_enumS hg hm ha hs)
/-- o.f = .. as a target -/
def gAttr (K : PySem.W.Frag) (to : TE) (f : Str) : TG := fun v σ H Q => to σ H fun x H1 => ∃ a C dx fs, x = .ref a ∧ H1 a = some (.ins C dx fs) ∧ Cls K C ∧ NoAttr K C f ∧ fs.length < 1000 ∧ Q σ (upd H1 a (.ins C dx (putF f v fs)))
theorem pg_attr {o : Expr} {to : TE} {f : Str} {pos : Pos} (ho : PE X o to)
    (ha : ∀ v, assign (.Attribute o f pos) X.env v = (do
      let ov ← holding [v] (eval o X.env)
      standAt pos.atName
      holding [v, ov] (setAttr ov f v)
      release [v, ov] []) := by intro _; rfl) : PG X (.Attribute o f pos) (gAttr X.K to f) := by
  refine ⟨fun pins s σ H v u Q I r h => ?_⟩
  rw [ha]
  refine wpAny_bind (wpAny_holding (thn (ho.run pins s σ H _ I h) fun ov s1 ⟨x, H1, I1, r1, a, C, dx, fs, ex, ea, c, n, l, q⟩ => ?_))
  subst ex
  obtain rfl : ov = Value.ref a := r1
  refine wpAny_bind (wpAny_standAt (wpAny_bind (wpAny_holding (setattr_ok I1 ea c n l r fun s2 I2 => ?_))))
  exact wpAny_release ⟨σ, _, I2, q⟩
def rMax3 : List V → Hp → VK → Prop := fun xs H Q => ∃ i j k, xs = [.int i, .int j, .int k] ∧ Q (.int (max (max i j) k)) H
theorem call_max3 (hc : X.calm = true) : CallR X (.builtin "max") rMax3 := by
  intro pins s σ H xs us Q I r h
  obtain ⟨i, j, k, rfl, q⟩ := h
  cases r with
  | cons r1 r =>
    obtain ⟨u, w', rfl, ⟨t', rfl⟩, ⟨t'', rfl⟩⟩ := vals2 r
    obtain ⟨t, rfl⟩ := r1
    refine max_three_ints (I.ok.hd hc) fun h' tk kp => ⟨_, H, I.kept kp, ?_, q⟩
    by_cases hj : j > i
    · by_cases hk : k > j
      · rw [if_pos hj, if_pos hk, show max (max i j) k = k by omega]; exact ⟨_, rfl⟩
      · rw [if_pos hj, if_neg hk, show max (max i j) k = j by omega]; exact ⟨_, rfl⟩
    · by_cases hk : k > i
      · rw [if_neg hj, if_pos hk, show max (max i j) k = k by omega]; exact ⟨_, rfl⟩
      · rw [if_neg hj, if_neg hk, show max (max i j) k = i by omega]; exact ⟨_, rfl⟩
end

section
variable {W : WD} {ρ : Rho} {M : Cells} {K : D → Cells → Prop} {KT : Bool → Cells → Prop} {KA : List D → Cells → Prop} {KE : Rho → Cells → Prop} {ta tb te tc to : TE} {t u : TT} {P : PD} {Kf : PySem.W.Frag}
theorem cr_max3 {i j k : Int} (kk : K (dI (max (max i j) k)) M) : CR rMax3 [dI i, dI j, dI k] M K := fun G H F us Q r o q => by
  obtain ⟨v, w, x, rfl, r1, r2, r3⟩ := r.three
  cases int_of r1
  cases int_of r2
  cases int_of r3
  exact ⟨i, j, k, rfl, q _ M _ G H kk (Ex.refl G) (Rp.int _) o⟩
theorem sg_seqT {n : Nat} {gs : TGs} {ps : List PyData} (hn : ps.length = n) (h : SGs W gs (ps.map D.py) ρ M KE) : SG W (gSeq Kf n gs) (dT ps) ρ M KE := fun G σ H F v Q r re o mx q => .inl (sg_tup hn h G σ H F v Q r re o mx q)
theorem sg_seqL {n : Nat} {gs : TGs} {d : D} {ds : List D} (hv : LV M d ds) (hn : ds.length = n) (h : SGs W gs ds ρ M KE) : SG W (gSeq Kf n gs) d ρ M KE := fun G σ H F v Q r re o mx q => by
  obtain ⟨a, vs, rfl, ha, rr⟩ := hv.at r o
  exact .inr ⟨a, vs, rfl, SqL.of ha, by rw [rr.length]; exact hn, h G σ H F vs Q rr re o mx q⟩
theorem si_anyL {R : Nat → (Nat → D → Prop) → (Cells → Prop) → Cells → Prop} (h : SI W (iList Kf te) ρ M R) : SI W (iAny Kf te) ρ M R := fun G σ H F Q re o mx q => .inl (h G σ H F Q re o mx q)
theorem si_anyT {R : Nat → (Nat → D → Prop) → (Cells → Prop) → Cells → Prop} (h : SI W (iTup Kf te) ρ M R) : SI W (iAny Kf te) ρ M R := fun G σ H F Q re o mx q => .inr (.inl (h G σ H F Q re o mx q))
theorem si_anyS {R : Nat → (Nat → D → Prop) → (Cells → Prop) → Cells → Prop} (h : SI W (iStr te) ρ M R) : SI W (iAny Kf te) ρ M R := fun G σ H F Q re o mx q => .inr (.inr (h G σ H F Q re o mx q))
theorem si_enumAL {ta : TA} {R : Nat → (Nat → D → Prop) → (Cells → Prop) → Cells → Prop} (h : SI W (iEnum Kf ta) ρ M R) : SI W (iEnumA Kf ta) ρ M R := fun G σ H F Q re o mx q => .inl (h G σ H F Q re o mx q)
theorem si_enumAS {ta : TA} {R : Nat → (Nat → D → Prop) → (Cells → Prop) → Cells → Prop} (h : SI W (iEnumS ta) ρ M R) : SI W (iEnumA Kf ta) ρ M R := fun G σ H F Q re o mx q => .inr (h G σ H F Q re o mx q)
theorem gok_seq {n : Nat} {gs : TGs} {vs : List Nat} (hs : GOks gs vs) : GOk (gSeq Kf n gs) vs := ⟨fun v σ H Q Q' m q => q.elim (fun ⟨a, xs, e, h1, h2, q⟩ => .inl ⟨a, xs, e, h1, h2, hs.w xs σ H _ _ m q⟩) fun ⟨a, xs, e, h1, h2, q⟩ => .inr ⟨a, xs, e, h1, h2, hs.w xs σ H _ _ m q⟩⟩

/-! ### instances -/
def putD (f : Str) (d : D) : List (Str × D) → List (Str × D)
  | [] => [(f, d)]
  | (g, x) :: r => if g = f then (g, d) :: r else (g, x) :: putD f d r
abbrev FR (G : Hp) : List (Str × V) → List (Str × D) → Prop := All2 (fun (p : Str × V) (q : Str × D) => p.1 = q.1 ∧ RD G p.2 q.2)
theorem FR.lookup {G : Hp} {f : Str} : ∀ {vs : List (Str × V)} {fs : List (Str × D)} {d : D}, FR G vs fs → fs.lookup f = some d → ∃ v, vs.lookup f = some v ∧ RD G v d
  | _, _, _, .nil, h => by cases h
  | (g, v) :: vs, (g', x) :: fs, d, .cons ⟨e, r⟩ rr, h => by
    cases e
    unfold List.lookup at h ⊢
    cases hb : f == g with
    | true =>
      rw [hb] at h
      cases h
      exact ⟨v, by simp only [hb], r⟩
    | false =>
      rw [hb] at h
      obtain ⟨v', h1, h2⟩ := FR.lookup rr h
      exact ⟨v', by simp only [hb]; exact h1, h2⟩
theorem FR.none {G : Hp} {f : Str} : ∀ {vs : List (Str × V)} {fs : List (Str × D)}, FR G vs fs → fs.lookup f = none → vs.lookup f = none
  | _, _, .nil, _ => rfl
  | (g, v) :: vs, (g', x) :: fs, .cons ⟨e, r⟩ rr, h => by
    cases e
    unfold List.lookup at h ⊢
    cases hb : f == g with
    | true =>
      rw [hb] at h
      cases h
    | false =>
      rw [hb] at h
      simp only [hb]
      exact FR.none rr h
theorem FR.put {G : Hp} {f : Str} {v : V} {d : D} (h : RD G v d) : ∀ {vs : List (Str × V)} {fs : List (Str × D)}, FR G vs fs → FR G (putF f v vs) (putD f d fs)
  | _, _, .nil => .cons ⟨rfl, h⟩ .nil
  | (g, x) :: vs, (g', y) :: fs, .cons ⟨e, r⟩ rr => by
    cases e
    unfold putF putD
    by_cases hg : g = f
    · rw [if_pos hg, if_pos hg]
      exact .cons ⟨rfl, h⟩ rr
    · rw [if_neg hg, if_neg hg]
      exact .cons ⟨rfl, r⟩ (FR.put h rr)
theorem se_fld {f : Str} (h : SE W ta ρ M fun x M1 => ∃ i p C fs d, x = dR p ∧ CA M1 i p (.ins C fs) ∧ Cls Kf C ∧ NoAttr Kf C f ∧ fs.lookup f = some d ∧ K d M1) : SE W (tFld Kf ta f) ρ M K := fun G σ H F Q re o mx q =>
  h G σ H F _ re o mx fun x M1 v G1 H1 ⟨i, p, C, fs, d, ex, hc, cl, na, hl, k⟩ e1 r1 o1 => by
    subst ex
    cases r1
    obtain ⟨dx, vs, hv, rr⟩ := o1.at hc
    obtain ⟨y, hy, ry⟩ := FR.lookup rr hl
    exact ⟨p, C, dx, vs, y, rfl, hv, cl, na, hy, q d M1 y G1 H1 k e1 ry o1⟩
theorem ss_fld {f : Str} (h : SE W tb ρ M fun d M1 => SE W ta ρ M1 fun x M2 => ∃ i p C fs, x = dR p ∧ CA M2 i p (.ins C fs) ∧ Cls Kf C ∧ NoAttr Kf C f ∧ fs.length < 1000 ∧ P.nx ρ (M2.set i (p, (.ins C (putD f d fs))))) : SS W (sFld Kf ta tb f) ρ M P := fun G σ H F D re o mx md =>
  h G σ H F _ re o mx fun d M1 v G1 H1 k1 e1 r1 o1 => k1 G1 σ H1 F _ (re.mono e1) o1 (mx.mono e1) fun x M2 w G2 H2 ⟨i, p, C, fs, ex, hc, cl, na, hl, k⟩ e2 r2 o2 => by
    subst ex
    cases r2
    obtain ⟨dx, vs, hv, rr⟩ := o2.at hc
    have hlen : vs.length = fs.length := All2.length rr
    exact ⟨p, C, dx, vs, rfl, hv, cl, na, by rw [hlen]; exact hl, md.nx ρ _ σ G2 _ k (e1.trans e2) (re.mono (e1.trans e2)) (o2.store hc ⟨dx, _, upd_same, FR.put (r1.mono e2) rr⟩)⟩
theorem sg_attr {f : Str} {d : D} (h : SE W to ρ M fun x M1 => ∃ i p C fs, x = dR p ∧ CA M1 i p (.ins C fs) ∧ Cls Kf C ∧ NoAttr Kf C f ∧ fs.length < 1000 ∧ KE ρ (M1.set i (p, (.ins C (putD f d fs))))) : SG W (gAttr Kf to f) d ρ M KE := fun G σ H F v Q r re o mx q =>
  h G σ H F _ re o mx fun x M1 w G1 H1 ⟨i, p, C, fs, ex, hc, cl, na, hl, k⟩ e1 r1 o1 => by
    subst ex
    cases r1
    obtain ⟨dx, vs, hv, rr⟩ := o1.at hc
    have hlen : vs.length = fs.length := All2.length rr
    exact ⟨p, C, dx, vs, rfl, hv, cl, na, by rw [hlen]; exact hl, q ρ _ σ G1 _ k e1 (re.mono e1) (o1.store hc ⟨dx, _, upd_same, FR.put (r.mono e1) rr⟩)⟩

/-! ### cells in another order -/
theorem Own.perm {G H : Hp} {M N : Cells} (o : Own G M H) (h : M.Perm N) : Own G N H :=
  ⟨o.ex, (h.map _).nodup_iff.mp o.nd, fun p hp => o.fr p (h.mem_iff.mpr hp), fun p hp => o.ok p (h.mem_iff.mpr hp)⟩
/-- a call that hands over the cells Mc, wherever they stand -/
theorem se_callP {s : DSp} {E : XK} {ta : TA} (hE : ∀ c d σ H, W.E c d σ H → E c d H)
    (h : SA W ta ρ M fun ds M1 => ∃ Mc Mr, M1.Perm (Mc ++ Mr) ∧ s ds Mc (fun d M' => K d (M' ++ Mr)) fun x M' => W.K x ρ (M' ++ Mr)) : SE W (tCall (spD s) [] E ta) ρ M K := fun G σ H F Q re o mx q =>
  h G σ H F _ re o mx fun ds M1 vs G1 H1 ⟨Mc, Mr, hp, k1⟩ e1 r1 o1 => by
    show spD s (vs ++ []) H1 Q E
    rw [List.append_nil]
    have o2 : Own G1 (Mc ++ (Mr ++ F)) H1 := by
      rw [← List.append_assoc]
      exact o1.perm (hp.append_right F)
    refine ⟨G1, ds, Mc, Mr ++ F, _, _, o2, r1, k1, fun d M' v G' H' k e r o' => ?_, fun x M' d G' H' k e xr o' => hE _ _ σ _ ?_⟩
    · refine q d (M' ++ Mr) v G' H' k (e1.trans e) r ?_
      rw [List.append_assoc]
      exact o'
    · refine mx x ρ (M' ++ Mr) d σ G' H' k (e1.trans e) xr (re.mono (e1.trans e)) ?_
      rw [List.append_assoc]
      exact o'
theorem se_meth {m : Str} {C : Addr} {s : DSp} {E : XK} {ta' : TA} (hE : ∀ c d σ H, W.E c d σ H → E c d H)
    (h : SE W to ρ M fun x M1 => ∃ i p fs, x = dR p ∧ CA M1 i p (.ins C fs) ∧ fs.lookup m = none ∧ SA W ta' ρ M1 fun ds M2 => ∃ Mc Mr, M2.Perm (Mc ++ Mr) ∧ s (dR p :: ds) Mc (fun d M' => K d (M' ++ Mr)) fun x M' => W.K x ρ (M' ++ Mr)) :
    SE W (tMeth C m (spD s) [] E to ta') ρ M K := fun G σ H F Q re o mx q =>
  h G σ H F _ re o mx fun x M1 v G1 H1 ⟨i, p, fs, ex, hc, hl, h2⟩ e1 r1 o1 => by
    subst ex
    cases r1
    obtain ⟨dx, vs, hv, rr⟩ := o1.at hc
    refine ⟨p, dx, vs, rfl, hv, FR.none rr hl, h2 G1 σ H1 F _ (re.mono e1) o1 (mx.mono e1) fun ds M2 ws G2 H2 ⟨Mc, Mr, hp, k1⟩ e2 r2 o2 => ?_⟩
    show spD s (.ref p :: (ws ++ [])) H2 Q E
    rw [List.append_nil]
    have o3 : Own G2 (Mc ++ (Mr ++ F)) H2 := by
      rw [← List.append_assoc]
      exact o2.perm (hp.append_right F)
    have e12 := e1.trans e2
    refine ⟨G2, dR p :: ds, Mc, Mr ++ F, _, _, o3, .cons rfl r2, k1, fun d M' v G' H' k e r o' => ?_, fun x M' d G' H' k e xr o' => hE _ _ σ _ ?_⟩
    · refine q d (M' ++ Mr) v G' H' k (e12.trans e) r ?_
      rw [List.append_assoc]
      exact o'
    · refine mx x ρ (M' ++ Mr) d σ G' H' k (e12.trans e) xr (re.mono (e12.trans e)) ?_
      rw [List.append_assoc]
      exact o'
/-- C(..): a new instance, its __init__ at work upon it -/
theorem se_make {C : Addr} {s : DSp} {E : XK} {ta' : TA} (hE : ∀ c d σ H, W.E c d σ H → E c d H)
    (h : SA W ta' ρ M fun ds M1 => ∀ x, s (dR x :: ds) [(x, .ins C [])] (fun d M' => d = dN ∧ ∃ c, M' = [(x, c)] ∧ K (dR x) (M1 ++ [(x, c)])) fun _ _ => False) : SE W (tMake C (spD s) [] E ta') ρ M K := fun G σ H F Q re o mx q =>
  h G σ H F _ re o mx fun ds M1 vs G1 H1 k1 e1 r1 o1 => by
    intro x dx hx hdx hne
    show spD s (.ref x :: (vs ++ [])) _ _ E
    rw [List.append_nil]
    have e2 : Ex G1 (upd G1 dx (.own x)) := Ex.new (o1.ex.free hdx)
    have o2 : Own (upd G1 dx (.own x)) (M1 ++ F) (upd H1 dx (.own x)) := o1.push hdx _
    have hx2 : (upd H1 dx (.own x)) x = none := by rw [upd_ne hne.symm]; exact hx
    have o3 := o2.cell (c := .ins C []) hx2 (u := .ins C dx []) ⟨dx, [], upd_same, .nil⟩
    have o4 : Own (upd G1 dx (.own x)) ([(x, .ins C [])] ++ (M1 ++ F)) (upd (upd H1 dx (.own x)) x (.ins C dx [])) := o3.perm (by
      rw [List.append_assoc]
      exact (List.perm_middle (a := (x, Cell.ins C [])) (l₁ := M1) (l₂ := F)).trans (List.Perm.refl _))
    refine ⟨_, dR x :: ds, [(x, .ins C [])], M1 ++ F, _, _, o4, .cons rfl (RDs.mono e2 r1), k1 x, fun d M' v G' H' ⟨ed, c, eM, k⟩ e r o' => ?_, fun _ _ _ _ _ k => k.elim⟩
    subst ed
    subst eM
    refine ⟨non_of r, q (dR x) (M1 ++ [(x, c)]) _ G' H' k (e1.trans (e2.trans e)) rfl (o'.perm ?_)⟩
    rw [List.append_assoc]
    exact ((List.perm_middle (a := (x, c)) (l₁ := M1) (l₂ := F)).trans (List.Perm.refl _)).symm

/-! ### isinstance -/
def tyP : PyData → String
  | .none => "NoneType"
  | .bool _ => "bool"
  | .int _ => "int"
  | .str _ => "str"
  | .list _ => "list"
  | .tuple _ => "tuple"
  | .dict _ => "dict"
theorem rp_ty {G H : Hp} {M F : Cells} (o : Own G (M ++ F) H) {v : V} {p : PyData} (r : RD G v (.py p)) : TyX Kf H v (.type (tyP p)) := by
  have r' : Rp G v p := r
  cases r' with
  | non => exact .base .non
  | bl b => exact .base (.bl b)
  | int i => exact .base (.int i)
  | str x => exact .base (.str x)
  | lst h _ => exact .base (.lst (o.ex _ _ h))
  | tup h _ => exact .base (.tup (o.ex _ _ h))
theorem cr_isi {p : PyData} {n : String} {b : Bool} (h : kitB (tyP p) n = some b) (k : K (dB b) M) : CR (rIsi Kf) [.py p, .raw (.ty n)] M K := fun G H F us Q r o q => by
  obtain ⟨v, w, rfl, r1, r2⟩ := r.two
  cases r2
  exact ⟨v, .ty n, .type (tyP p), .type n, b, rfl, .ty n, rp_ty o r1, kit_ty h, q _ M _ G H k (Ex.refl G) (Rp.bl _) o⟩

/-! ### a displayed dict, asked at once -/
/-- {k: v, ..}.get(y, z), the keys texts that are written -/
abbrev SPs (W : WD) (trs : List (TE × TE)) (ρ : Rho) (M : Cells) (K : List (D × D) → Cells → Prop) : Prop :=
  ∀ (G : Hp) (σ : St) (H : Hp) (F : Cells) (Q : List (V × V) → Hp → Prop), REnv G σ ρ → Own G (M ++ F) H → MatchX G F W →
    (∀ ps M' vs G' H', K ps M' → Ex G G' → All2 (fun (p : V × V) (q : D × D) => RD G' p.1 q.1 ∧ RD G' p.2 q.2) vs ps → Own G' (M' ++ F) H' → Q vs H') → tPairs trs σ H Q
theorem sps_nil {KP : List (D × D) → Cells → Prop} (k : KP [] M) : SPs W [] ρ M KP := fun G σ H F Q re o mx q => q [] M [] G H k (Ex.refl G) .nil o
theorem sps_cons {tk tv : TE} {trs : List (TE × TE)} {KP : List (D × D) → Cells → Prop} (h : SE W tk ρ M fun x M1 => SE W tv ρ M1 fun y M2 => SPs W trs ρ M2 fun ps M3 => KP ((x, y) :: ps) M3) : SPs W ((tk, tv) :: trs) ρ M KP := fun G σ H F Q re o mx q =>
  h G σ H F _ re o mx fun x M1 u G1 H1 k1 e1 r1 o1 => k1 G1 σ H1 F _ (re.mono e1) o1 (mx.mono e1) fun y M2 v G2 H2 k2 e2 r2 o2 => k2 G2 σ H2 F _ (re.mono (e1.trans e2)) o2 (mx.mono (e1.trans e2)) fun ps M3 vs G3 H3 k3 e3 r3 o3 =>
    q _ M3 _ G3 H3 k3 (e1.trans (e2.trans e3)) (.cons ⟨r1.mono (e2.trans e3), r2.mono e3⟩ r3) o3
end
end PL

/-! PL6: dicts with keys ints and texts over data. -/
namespace PL
open PySem PySem.Spec L2
abbrev KR (G : Hp) : List (Key × V) → List (Key × D) → Prop := All2 (fun (p : Key × V) (q : Key × D) => p.1 = q.1 ∧ RD G p.2 q.2)
def valD (kvs : List (Key × D)) (k : Key) : Option D := (kvs.find? fun kv => decide (kv.1 = k)).map (·.2)
def putKD (kvs : List (Key × D)) (k : Key) (v : D) : List (Key × D) :=
  if (kvs.any fun kv => decide (kv.1 = k)) = true then kvs.map (fun kv => if kv.1 = k then (kv.1, v) else kv) else kvs ++ [(k, v)]
def dropKD (kvs : List (Key × D)) (k : Key) : List (Key × D) := kvs.filter fun kv => decide (kv.1 ≠ k)
def mergeKD (kvs more : List (Key × D)) : List (Key × D) := more.foldl (fun acc kv => putKD acc kv.1 kv.2) kvs
def kD : Key → D
  | .inl i => dI i
  | .inr x => dS x
theorem KR.any {G : Hp} {k : Key} : ∀ {vs : List (Key × V)} {ks : List (Key × D)}, KR G vs ks → (vs.any fun kv => decide (kv.1 = k)) = ks.any fun kv => decide (kv.1 = k)
  | _, _, .nil => rfl
  | _, _, .cons ⟨e, _⟩ r => by rw [List.any_cons, List.any_cons, e, KR.any r]
theorem KR.val {G : Hp} {k : Key} : ∀ {vs : List (Key × V)} {ks : List (Key × D)}, KR G vs ks → (valV vs k = none ∧ valD ks k = none) ∨ ∃ v d, valV vs k = some v ∧ valD ks k = some d ∧ RD G v d
  | _, _, .nil => .inl ⟨rfl, rfl⟩
  | p :: vs, q :: ks, .cons ⟨e, h⟩ r => by
    by_cases hk : p.1 = k
    · exact .inr ⟨p.2, q.2, by simp [valV, List.find?_cons, hk], by simp [valD, List.find?_cons, ← e, hk], h⟩
    · have h1 : valV (p :: vs) k = valV vs k := by simp [valV, List.find?_cons, hk]
      have h2 : valD (q :: ks) k = valD ks k := by simp [valD, List.find?_cons, ← e, hk]
      rw [h1, h2]
      exact KR.val r
theorem KR.mapset {G : Hp} {k : Key} {v : V} {d : D} (h : RD G v d) : ∀ {vs : List (Key × V)} {ks : List (Key × D)}, KR G vs ks → KR G (vs.map fun kv => if kv.1 = k then (kv.1, v) else kv) (ks.map fun kv => if kv.1 = k then (kv.1, d) else kv)
  | _, _, .nil => .nil
  | p :: vs, q :: ks, .cons ⟨e, h1⟩ r => by
    refine .cons ?_ (KR.mapset h r)
    show (if p.1 = k then (p.1, v) else p).1 = (if q.1 = k then (q.1, d) else q).1 ∧ RD G (if p.1 = k then (p.1, v) else p).2 (if q.1 = k then (q.1, d) else q).2
    by_cases hk : p.1 = k
    · have hq : q.1 = k := e ▸ hk
      rw [if_pos hk, if_pos hq]
      exact ⟨e, h⟩
    · have hq : ¬ q.1 = k := fun z => hk (e.trans z)
      rw [if_neg hk, if_neg hq]
      exact ⟨e, h1⟩
theorem KR.put {G : Hp} {k : Key} {v : V} {d : D} {vs : List (Key × V)} {ks : List (Key × D)} (r : KR G vs ks) (h : RD G v d) : KR G (putK vs k v) (putKD ks k d) := by
  unfold putK putKD
  rw [KR.any r]
  split
  · exact r.mapset h
  · exact All2.append r (.cons ⟨rfl, h⟩ .nil)
theorem KR.drop {G : Hp} {k : Key} : ∀ {vs : List (Key × V)} {ks : List (Key × D)}, KR G vs ks → KR G (dropK vs k) (dropKD ks k)
  | _, _, .nil => .nil
  | p :: vs, q :: ks, .cons ⟨e, h1⟩ r => by
    unfold dropK dropKD
    rw [List.filter_cons, List.filter_cons, ← e]
    split
    · exact .cons ⟨e, h1⟩ (KR.drop r)
    · exact KR.drop r
theorem KR.merge {G : Hp} : ∀ {ms : List (Key × V)} {ns : List (Key × D)} {vs : List (Key × V)} {ks : List (Key × D)}, KR G ms ns → KR G vs ks → KR G (mergeK vs ms) (mergeKD ks ns)
  | _, _, _, _, .nil, r => r
  | p :: ms, q :: ns, vs, ks, .cons ⟨e, h⟩ rr, r => by
    show KR G (mergeK (putK vs p.1 p.2) ms) (mergeKD (putKD ks q.1 q.2) ns)
    rw [e]
    exact KR.merge rr (r.put h)
theorem putKD_len (kvs : List (Key × D)) (k : Key) (v : D) : (putKD kvs k v).length ≤ kvs.length + 1 := by
  unfold putKD
  split
  · simp
  · simp
section
variable {W : WD} {ρ : Rho} {M : Cells} {K : D → Cells → Prop} {ta tb te tc to ty tx td : TE} {P : PD}
theorem kv_of {G : Hp} {v : V} {k : Key} (r : RD G v (kD k)) : v = kV k := by
  cases k with
  | inl i => exact int_of r
  | inr x => exact str_of r
/-- {} -/
theorem se_dnew (k : ∀ p, K (dR p) (M ++ [(p, .dK [])])) : SE W tDNewK ρ M K := fun G σ H F Q re o mx q p hp =>
  q (dR p) _ _ G _ (k p) (Ex.refl G) rfl (o.cell hp ⟨[], upd_same, .nil⟩)
/-- {k: v, ..} -/
theorem se_disp {trs : List (TE × TE)} (h : SPs W trs ρ M fun ps M1 => ∃ kvs : List (Key × D), ps = kvs.map (fun kv => (kD kv.1, kv.2)) ∧ kvs.length ≤ 15 ∧ ∀ p, K (dR p) (M1 ++ [(p, .dK (mergeKD [] kvs))])) : SE W (tDisp trs) ρ M K := fun G σ H F Q re o mx q p hp => by
  have o1 : Own G (M ++ ((p, Cell.dK []) :: F)) (upd H p (.dK [])) := own_swap (o.cell hp ⟨[], upd_same, .nil⟩)
  have mx1 : MatchX G ((p, Cell.dK []) :: F) W := fun x ρ' M' d σ' G' H' k e xr re' o' => by
    refine mx x ρ' M' d σ' G' H' k e xr re' (o'.sub (List.Sublist.append (List.Sublist.refl M') (List.sublist_cons_self _ F)))
  refine h G σ _ ((p, .dK []) :: F) _ re o1 mx1 fun ps M1 vs G1 H1 ⟨kvs, ep, hl, k⟩ e1 r1 o2 => ?_
  subst ep
  obtain ⟨vs0, hv0, rr0⟩ := o2.ok (p, .dK []) (List.mem_append_right _ (List.mem_cons_self ..))
  cases rr0
  have build : ∀ {ks : List (Key × D)} {ws : List (V × V)}, All2 (fun (p : V × V) (q : D × D) => RD G1 p.1 q.1 ∧ RD G1 p.2 q.2) ws (ks.map (fun kv => (kD kv.1, kv.2))) → ∃ us : List (Key × V), ws = us.map (fun kv => (kV kv.1, kv.2)) ∧ KR G1 us ks := by
    intro ks
    induction ks with
    | nil => intro ws r; cases r; exact ⟨[], rfl, .nil⟩
    | cons q ks ih =>
      intro ws r
      rw [List.map_cons] at r
      cases r with
      | cons r1 rr =>
        rename_i w ws
        obtain ⟨us, e, kr⟩ := ih rr
        refine ⟨(q.1, w.2) :: us, ?_, .cons ⟨rfl, r1.2⟩ kr⟩
        rw [e]
        obtain ⟨w1, w2⟩ := w
        cases kv_of r1.1
        rfl
  obtain ⟨us, eu, kr⟩ := build r1
  refine ⟨hv0, us, eu, by rw [kr.length]; exact hl, ?_⟩
  have o3 := own_store (c' := .dK (mergeKD [] kvs)) o2 (u := .dK (mergeK [] us)) ⟨_, upd_same, kr.merge .nil⟩
  refine q (dR p) _ _ G1 _ (k p) e1 rfl ?_
  rw [List.append_assoc]
  exact o3
theorem isD_cell {i : Nat} {G H : Hp} {F : Cells} {p : Addr} {kvs : List (Key × D)} (o : Own G (M ++ F) H) (hc : CA M i p (.dK kvs)) : ∃ vs, H p = some (.dK vs) ∧ KR G vs kvs := o.at hc
/-- d.get(y, z) -/
theorem se_dget2 (h : SE W td ρ M fun x M1 => ∃ i p, x = dR p ∧ (∃ kvs, CA M1 i p (.dK kvs)) ∧ SE W ty ρ M1 fun y M2 => SE W tx ρ M2 fun z M3 => ∃ kvs k, CA M3 i p (.dK kvs) ∧ y = kD k ∧ K ((valD kvs k).getD z) M3) : SE W (tDGet2 td ty tx) ρ M K := fun G σ H F Q re o mx q =>
  h G σ H F _ re o mx fun x M1 v G1 H1 ⟨i, p, ex, ⟨kvs0, hc0⟩, h1⟩ e1 r1 o1 => by
    subst ex
    cases r1
    obtain ⟨vs0, hv0, _⟩ := isD_cell o1 hc0
    refine ⟨p, rfl, .inl ⟨vs0, .inl hv0⟩, h1 G1 σ H1 F _ (re.mono e1) o1 (mx.mono e1) fun y M2 u G2 H2 k2 e2 r2 o2 => k2 G2 σ H2 F _ (re.mono (e1.trans e2)) o2 (mx.mono (e1.trans e2)) fun z M3 w G3 H3 ⟨kvs, k, hc, ey, kk⟩ e3 r3 o3 => ?_⟩
    subst ey
    obtain ⟨vs, hv, kr⟩ := isD_cell o3 hc
    have eu := kv_of (r2.mono e3)
    subst eu
    refine ⟨valV vs k, DGet.k hv, ?_⟩
    have e123 := e1.trans (e2.trans e3)
    rcases kr.val (k := k) with ⟨a, b⟩ | ⟨v', d', a, b, r⟩
    · rw [a]
      rw [b] at kk
      exact q z M3 w G3 H3 kk e123 r3 o3
    · rw [a]
      rw [b] at kk
      exact q d' M3 v' G3 H3 kk e123 r o3
/-- d[k] -/
theorem se_dget (h : SE W td ρ M fun x M1 => SE W ty ρ M1 fun y M2 => ∃ i p kvs k d, x = dR p ∧ CA M2 i p (.dK kvs) ∧ y = kD k ∧ valD kvs k = some d ∧ K d M2) : SE W (tDGet td ty) ρ M K := fun G σ H F Q re o mx q =>
  h G σ H F _ re o mx fun x M1 v G1 H1 k1 e1 r1 o1 => k1 G1 σ H1 F _ (re.mono e1) o1 (mx.mono e1) fun y M2 u G2 H2 ⟨i, p, kvs, k, d, ex, hc, ey, hv', kk⟩ e2 r2 o2 => by
    subst ex
    subst ey
    cases r1
    have eu := kv_of r2
    subst eu
    obtain ⟨vs, hv, kr⟩ := isD_cell o2 hc
    rcases kr.val (k := k) with ⟨a, b⟩ | ⟨v', d', a, b, r⟩
    · rw [b] at hv'; cases hv'
    · rw [b] at hv'
      cases hv'
      refine ⟨p, v', rfl, ?_, q d M2 v' G2 H2 kk (e1.trans e2) r o2⟩
      rw [← a]
      exact DGet.k hv
/-- d[k] = v -/
theorem ss_dput (h : SE W tb ρ M fun d M1 => SE W td ρ M1 fun x M2 => SE W ty ρ M2 fun y M3 => ∃ i p kvs k, x = dR p ∧ CA M3 i p (.dK kvs) ∧ y = kD k ∧ kvs.length ≤ 1000000 ∧ P.nx ρ (M3.set i (p, (.dK (putKD kvs k d))))) : SS W (sDPut td ty tb) ρ M P := fun G σ H F D re o mx md =>
  h G σ H F _ re o mx fun d M1 v G1 H1 k1 e1 r1 o1 => k1 G1 σ H1 F _ (re.mono e1) o1 (mx.mono e1) fun x M2 u G2 H2 k2 e2 r2 o2 => k2 G2 σ H2 F _ (re.mono (e1.trans e2)) o2 (mx.mono (e1.trans e2)) fun y M3 w G3 H3 ⟨i, p, kvs, k, ex, hc, ey, hl, kk⟩ e3 r3 o3 => by
    subst ex
    subst ey
    cases r2
    have eu := kv_of r3
    subst eu
    obtain ⟨vs, hv, kr⟩ := isD_cell o3 hc
    refine ⟨p, _, rfl, DPut.k hv (by rw [kr.length]; exact Nat.lt_of_le_of_lt hl (by decide)), md.nx ρ _ σ G3 _ kk (e1.trans (e2.trans e3)) (re.mono (e1.trans (e2.trans e3))) (o3.store hc ⟨_, upd_same, kr.put (r1.mono (e2.trans e3))⟩)⟩
/-- k in d -/
theorem se_din (h : SE W ty ρ M fun y M1 => SE W td ρ M1 fun x M2 => ∃ i p kvs k, x = dR p ∧ CA M2 i p (.dK kvs) ∧ y = kD k ∧ K (dB (valD kvs k).isSome) M2) : SE W (tDIn ty td) ρ M K := fun G σ H F Q re o mx q =>
  h G σ H F _ re o mx fun x M1 v G1 H1 k1 e1 r1 o1 => k1 G1 σ H1 F _ (re.mono e1) o1 (mx.mono e1) fun y M2 u G2 H2 ⟨i, p, kvs, k, ex, hc, ey, kk⟩ e2 r2 o2 => by
    subst ex
    subst ey
    cases r2
    have eu := kv_of r1
    subst eu
    obtain ⟨vs, hv, kr⟩ := isD_cell o2 hc
    refine ⟨p, valV vs k, rfl, DGet.k hv, ?_⟩
    rcases kr.val (k := k) with ⟨a, b⟩ | ⟨v', d', a, b, r⟩
    · rw [a]
      rw [b] at kk
      exact q _ M2 _ G2 H2 kk (e1.trans e2) (Rp.bl _) o2
    · rw [a]
      rw [b] at kk
      exact q _ M2 _ G2 H2 kk (e1.trans e2) (Rp.bl _) o2
/-- d.pop(k, z) -/
theorem se_dpop2 (h : SE W td ρ M fun x M1 => ∃ i p, x = dR p ∧ (∃ kvs, CA M1 i p (.dK kvs)) ∧ SE W ty ρ M1 fun y M2 => SE W tx ρ M2 fun z M3 => ∃ kvs k, CA M3 i p (.dK kvs) ∧ y = kD k ∧
      (∀ d, valD kvs k = some d → K d (M3.set i (p, (.dK (dropKD kvs k))))) ∧ (valD kvs k = none → K z M3)) : SE W (tDPop2 td ty tx) ρ M K := fun G σ H F Q re o mx q =>
  h G σ H F _ re o mx fun x M1 v G1 H1 ⟨i, p, ex, ⟨kvs0, hc0⟩, h1⟩ e1 r1 o1 => by
    subst ex
    cases r1
    obtain ⟨vs0, hv0, _⟩ := isD_cell o1 hc0
    refine ⟨p, rfl, .inl ⟨vs0, .inl hv0⟩, h1 G1 σ H1 F _ (re.mono e1) o1 (mx.mono e1) fun y M2 u G2 H2 k2 e2 r2 o2 => k2 G2 σ H2 F _ (re.mono (e1.trans e2)) o2 (mx.mono (e1.trans e2)) fun z M3 w G3 H3 ⟨kvs, k, hc, ey, kk1, kk2⟩ e3 r3 o3 => ?_⟩
    subst ey
    obtain ⟨vs, hv, kr⟩ := isD_cell o3 hc
    have eu := kv_of (r2.mono e3)
    subst eu
    have e123 := e1.trans (e2.trans e3)
    refine ⟨vs, k, hv, rfl, fun v' hv' => ?_, fun hn => ?_⟩
    · rcases kr.val (k := k) with ⟨a, b⟩ | ⟨v2, d', a, b, r⟩
      · rw [a] at hv'; cases hv'
      · rw [a] at hv'
        cases hv'
        exact q d' _ _ G3 _ (kk1 d' b) e123 r (o3.store hc ⟨_, upd_same, kr.drop⟩)
    · rcases kr.val (k := k) with ⟨a, b⟩ | ⟨v2, d', a, b, r⟩
      · exact q z M3 w G3 H3 (kk2 b) e123 r3 o3
      · rw [a] at hn; cases hn
end
end PL

/-! PL7: short words for printed derivations. -/
namespace PL
open PySem PySem.Spec L2
section
variable {X : Cx}
theorem pi_any1 {tg e : Expr} {te : TE} (h : PE X e te) : PI X tg e (iAny X.K te) := pi_any h (pi_list h) (pi_tup h) (pi_str h)
theorem pe_globS {x z : Str} {pos : Pos} (hg : Gl X x) (h : ∃ t, X.mg x = some (.str z t)) (hd : (x == ("__debug__" : Str)) = false := by decide) : PE X (.Name x pos) (tC (.str z)) := by
  obtain ⟨t, e⟩ := h
  exact pe_glob hg e ⟨t, rfl⟩ hd
theorem pe_globI {x : Str} {z : Int} {pos : Pos} (hg : Gl X x) (h : ∃ t, X.mg x = some (.int z t)) (hd : (x == ("__debug__" : Str)) = false := by decide) : PE X (.Name x pos) (tC (.int z)) := by
  obtain ⟨t, e⟩ := h
  exact pe_glob hg e ⟨t, rfl⟩ hd
def rInStr : R2 := fun x y H Q => ∃ i j, x = .str i ∧ y = .str j ∧ Q (.bl (!(Builtin.Str.occurrences j i 0 j.length 1).isEmpty)) H
def rNiStr : R2 := fun x y H Q => ∃ i j, x = .str i ∧ y = .str j ∧ Q (.bl (Builtin.Str.occurrences j i 0 j.length 1).isEmpty) H
def rInA (K : PySem.W.Frag) : R2 := fun x y H Q => rIn K false x y H Q ∨ rInStr x y H Q
theorem op_inA : OpR X (compareOp .In) (rInA X.K) := OpR.or op_in_seq op_in_str
def rNiA (K : PySem.W.Frag) : R2 := fun x y H Q => rIn K true x y H Q
theorem op_niA : OpR X (compareOp .NotIn) (rNiA X.K) := op_notIn_seq
theorem pe_revA {e : Expr} {te : TE} {k : Nat} {p1 p2 p3 pos : Pos} (h : PE X e te) : PE X (.Subscript e (.Slice none none (some (.UnaryOp .USub (.Constant (.int 1) k p1) p2)) p3) pos) (tRevL X.K te) := pe_revL h
end
section
variable {W : WD} {ρ : Rho} {M : Cells} {K : D → Cells → Prop} {Kf : PySem.W.Frag}
theorem or_inAL {d : D} {p : PyData} {ps : List PyData} (hv : LV M d (ps.map D.py)) (f : flatP p = true) (hf : ps.all flatP = true) (k : K (dB (inP p ps)) M) : OR (rInA Kf) (.py p) d M K := fun G H F u v Q r1 r2 o q => .inl (or_inL hv f hf k G H F u v Q r1 r2 o q)
theorem or_inAT {p : PyData} {ps : List PyData} (f : flatP p = true) (hf : ps.all flatP = true) (k : K (dB (inP p ps)) M) : OR (rInA Kf) (.py p) (dT ps) M K := fun G H F u v Q r1 r2 o q => .inl (or_inT f hf k G H F u v Q r1 r2 o q)
theorem or_inAG {Ks : PySem.W.Frag} {p : PyData} {xs : List V} {ps : List PyData} (hx : ∀ G, RpAll G xs ps) (f : flatP p = true) (hf : ps.all flatP = true) (k : K (dB (inP p ps)) M) : OR (rInA Ks) (.py p) (.sqt Ks xs) M K := fun G H F u v Q r1 r2 o q => .inl (or_inG hx f hf k G H F u v Q r1 r2 o q)
theorem or_inAS {i j : Str} (k : K (dB (!(Builtin.Str.occurrences j i 0 j.length 1).isEmpty)) M) : OR (rInA Kf) (dS i) (dS j) M K := fun G H F u v Q r1 r2 o q => by
  cases str_of r1
  cases str_of r2
  exact .inr ⟨i, j, rfl, rfl, q _ M _ G H k (Ex.refl G) (Rp.bl _) o⟩
theorem or_niAL {d : D} {p : PyData} {ps : List PyData} (hv : LV M d (ps.map D.py)) (f : flatP p = true) (hf : ps.all flatP = true) (k : K (dB (!inP p ps)) M) : OR (rNiA Kf) (.py p) d M K := or_niL hv f hf k
theorem or_niAT {p : PyData} {ps : List PyData} (f : flatP p = true) (hf : ps.all flatP = true) (k : K (dB (!inP p ps)) M) : OR (rNiA Kf) (.py p) (dT ps) M K := or_niT f hf k
end
/-! ### the same with the written part by its own letter (within comprehensions) -/
section
variable {X : Cx} {K : PySem.W.Frag}
theorem ix_seqK (hK : X.K = K := by rfl) : IxR X (rIx K) := hK ▸ ix_seq
theorem sl_anyK (hK : X.K = K := by rfl) : SlR X (rSlA K) := hK ▸ sl_any
theorem call_lenK (hK : X.K = K := by rfl) : CallR X (.builtin "len") (rLenA K) := hK ▸ call_lenA
theorem cr_sumK (hc : X.calm = true) (hK : X.K = K := by rfl) : CallR X (.builtin "sum") (rSum K) := hK ▸ L2.cr_sum hc
theorem cr_maxK (hc : X.calm = true) (hK : X.K = K := by rfl) : CallR X (.builtin "max") (rMax K) := hK ▸ cr_max hc
theorem cr_minK (hc : X.calm = true) (hK : X.K = K := by rfl) : CallR X (.builtin "min") (rMin K) := hK ▸ cr_min hc
theorem op_eqK (hu : X.A.units + 64 < cLine) (hK : X.K = K := by rfl) : OpR X (compareOp .Eq) (rEqA K) := hK ▸ op_eqA hu
theorem op_neK (hu : X.A.units + 64 < cLine) (hK : X.K = K := by rfl) : OpR X (compareOp .NotEq) (rNeA K) := hK ▸ op_neA hu
theorem op_inK (hK : X.K = K := by rfl) : OpR X (compareOp .In) (rInA K) := hK ▸ op_inA
theorem op_niK (hK : X.K = K := by rfl) : OpR X (compareOp .NotIn) (rNiA K) := hK ▸ op_niA
theorem call_isiK (hK : X.K = K := by rfl) : CallR X (.builtin "isinstance") (rIsi K) := hK ▸ call_isi
theorem cr_sortedK (hK : X.K = K := by rfl) : CallR X (.builtin "sorted") (rSortedI K) := hK ▸ cr_sortedI
def rListOf (K : PySem.W.Frag) : List V → Hp → VK → Prop := fun xs H Q => ∃ p ys, xs = [.ref p] ∧ (SqL K H p ys ∨ SqT K H p ys) ∧ ∀ l, H l = none → Q (.ref l) (upd H l (.lst ys))
theorem call_listK (hK : X.K = K := by rfl) : CallR X (.type "list") (rListOf K) := hK ▸ call_list_of
theorem cr_allK (hc : X.calm = true) (hK : X.K = K := by rfl) : CallR X (.builtin "all") (rAll K) := hK ▸ cr_all hc
theorem cr_anyK (hc : X.calm = true) (hK : X.K = K := by rfl) : CallR X (.builtin "any") (rAny K) := hK ▸ cr_any hc
theorem pg_seqK {es : List Expr} {k n : Nat} {t : TGs} {pos : Pos} (hc : X.calm = true) (h : PGs X es t) (hK : X.K = K := by rfl) (hn : (assignEach es X.env).length = n := by rfl) (hst : (assignEach es X.env).findIdx? (·.1) = none := by rfl) : PG X (.Tuple es k pos) (gSeq K n t) := hK ▸ pg_seq hc h hn hst
theorem pg_attrK {o : Expr} {to : TE} {f : Str} {pos : Pos} (ho : PE X o to) (hK : X.K = K := by rfl)
    (ha : ∀ v, assign (.Attribute o f pos) X.env v = (do
      let ov ← holding [v] (eval o X.env)
      standAt pos.atName
      holding [v, ov] (setAttr ov f v)
      release [v, ov] []) := by intro _; rfl) : PG X (.Attribute o f pos) (gAttr K to f) := hK ▸ pg_attr ho ha
theorem pi_anyK {tg e : Expr} {te : TE} (h : PE X e te) (hK : X.K = K := by rfl) : PI X tg e (iAny K te) := hK ▸ pi_any1 h
theorem pi_enumAK {e : Expr} {ta : TA} {p pos tpos : Pos} {elts : List Expr} {kk : Nat} (hg : Gl X "enumerate") (hm : X.mg "enumerate" = none) (ha : PA X [e] ta) (hK : X.K = K := by rfl) (hs : starEach [e] X.env = [(false, eval e X.env)] := by rfl) :
    PI X (.Tuple elts kk tpos) (.Call (.Name "enumerate" p) [e] [] pos) (iEnumA K ta) := hK ▸ pi_enumA hg hm ha hs
theorem pi_zipK {e e2 : Expr} {ta : TA} {p pos tpos : Pos} {elts : List Expr} {kk : Nat} (hg : Gl X "zip") (hm : X.mg "zip" = none) (ha : PA X [e, e2] ta) (hK : X.K = K := by rfl) (hs : starEach [e, e2] X.env = (false, eval e X.env) :: starEach [e2] X.env := by rfl) (hpl : (backTo pos (starEach [e2] X.env)).any (·.1) = false := by rfl) :
    PI X (.Tuple elts kk tpos) (.Call (.Name "zip" p) [e, e2] [] pos) (iZip K ta) := hK ▸ pi_zip hg hm ha hs hpl
theorem pe_fldK {e : Expr} {ta : TE} {f : Str} {pos : Pos} (he : PE X e ta) (hb : attributeBase e f X.env (eval e X.env) = eval e X.env) (hK : X.K = K := by rfl) : PE X (.Attribute e f pos) (tFld K ta f) := hK ▸ pe_fld he hb
theorem pe_revK {e : Expr} {te : TE} {k : Nat} {p1 p2 p3 pos : Pos} (h : PE X e te) (hK : X.K = K := by rfl) : PE X (.Subscript e (.Slice none none (some (.UnaryOp .USub (.Constant (.int 1) k p1) p2)) p3) pos) (tRevL K te) := hK ▸ pe_revL h
theorem pe_bmK {T : String} {o e : Expr} {name : Str} {id : String} {es : List Expr} {apos cpos : Pos} {r : V → List V → Hp → VK → Prop} {to : TE} {t : TA} (pa : PlainAttrs T) (slot : Slot T name id) (hty : typeOf (.builtin id) = pure (.type "method_descriptor")) (hm : MtR X id r) (ho : PE X o to) (ha : PA X (e :: es) t) (hK : X.K = K := by rfl)
    (base : attributeBase o name X.env (eval o X.env) = eval o X.env := by rfl)
    (few : ((backTo cpos (starEach (e :: es) X.env)).all (fun x => !x.1) && (backToKw cpos (keywordEach [] X.env)).all (fun x => x.1.isSome) && decide ((e :: es : List Expr).length + ([] : List Keyword).length + (if ([] : List Keyword).isEmpty then 0 else 1) < 30)) = true := by rfl)
    (line : (apos.endLine == cpos.line) = true := by rfl) (he : starEach (e :: es) X.env = (false, eval e X.env) :: starEach es X.env := by rfl) (hpl : (backTo cpos (starEach es X.env)).any (·.1) = false := by rfl) :
    PE X (.Call (.Attribute o name apos) (e :: es) [] cpos) (tBM K T r to t) := hK ▸ pe_bm pa slot hty hm ho ha base few line he hpl
end
/-! ### a written tuple of the top -/
def tupB (o : Obj) (xs : List V) : Bool := match o.cls, o.data with
  | .type n, .seq its _ => n == "tuple" && decide (its.size ≤ sizeLine) && decide (its.toList.map absV = xs.map some)
  | _, _ => false
abbrev TupIs (o : Obj) (xs : List V) : Prop := tupB o xs = true
theorem relV_abs {v : Value} {x : V} (h : absV v = some x) : RelV x v := by
  cases v <;> simp only [absV] at h <;> (cases h <;> first | exact ⟨_, rfl⟩ | rfl)
theorem vals_abs : ∀ {us : List Value} {xs : List V}, us.map absV = xs.map some → Vals xs us
  | [], [], _ => .nil
  | u :: us, x :: xs, h => by
    simp only [List.map_cons, List.cons.injEq] at h
    exact .cons (relV_abs h.1) (vals_abs h.2)
  | [], x :: xs, h => by simp at h
  | u :: us, [], h => by simp at h
theorem sqt_of {K : PySem.W.Frag} {H : Hp} {a : Addr} {o : Obj} {xs : List V} (l : K.lookup a = some o) (h : TupIs o xs) : SqT K H a xs := by
  unfold TupIs tupB at h
  split at h
  · rename_i n its m hc hd
    simp only [Bool.and_eq_true, beq_iff_eq, decide_eq_true_eq] at h
    exact .inr ⟨o, its, m, l, by rw [hc, h.1.1], hd, h.1.2, vals_abs h.2⟩
  · cases h
end PL

/-! PL8: odds and ends: places told by their bounds alone, texts by their signs. -/
namespace PL
open PySem PySem.Spec L2
theorem atI_lt {α : Type} {xs : List α} {r : Int} (h0 : 0 ≤ r) (h1 : r < xs.length) : ∃ p, p ∈ xs ∧ atI xs r = some p ∧ xs[r.toNat]? = some p := by
  have h2 : r.toNat < xs.length := by omega
  refine ⟨xs[r.toNat], List.getElem_mem _, ?_, by simp [h2]⟩
  have e : ixN xs.length r = some r.toNat := by
    unfold ixN
    rw [if_pos h0, if_pos h1]
  unfold atI
  rw [e]
  simp [h2]
section
variable {W : WD} {ρ : Rho} {M : Cells} {K : D → Cells → Prop} {Kf : PySem.W.Frag}
theorem or_ixB {ps : List PyData} {r : Int} (h0 : 0 ≤ r) (h1 : r < ps.length) (k : ∀ p ∈ ps, K (.py p) M) : OR (rIx Kf) (dL ps) (dI r) M K := by
  obtain ⟨p, hp, e, _⟩ := atI_lt h0 h1
  exact or_ix e (k p hp)
theorem or_ixH {p : PyData} {ps : List PyData} (k : K (.py p) M) : OR (rIx Kf) (dL (p :: ps)) (dI 0) M K := or_ix (by unfold atI ixN; simp) k
theorem or_ixBI {ns : List Int} {r : Int} (h0 : 0 ≤ r) (h1 : r < ns.length) (k : ∀ n ∈ ns, K (dI n) M) : OR (rIx Kf) (dL (ns.map PyData.int)) (dI r) M K := by
  refine or_ixB h0 (by rw [List.length_map]; exact h1) fun p hp => ?_
  obtain ⟨n, hn, rfl⟩ := List.mem_map.mp hp
  exact k n hn
theorem or_ixBS {ns : List Str} {r : Int} (h0 : 0 ≤ r) (h1 : r < ns.length) (k : ∀ n ∈ ns, K (dS n) M) : OR (rIx Kf) (dL (ns.map PyData.str)) (dI r) M K := by
  refine or_ixB h0 (by rw [List.length_map]; exact h1) fun p hp => ?_
  obtain ⟨n, hn, rfl⟩ := List.mem_map.mp hp
  exact k n hn
theorem or_ixZ {z : Str} {r : Int} (hz : z.length ≤ 1000000) (h0 : 0 ≤ r) (h1 : r < z.length) (k : ∀ c ∈ z.cps.toList, K (dS ⟨#[c]⟩) M) : OR (rIx Kf) (dS z) (dI r) M K := by
  obtain ⟨p, hp, e, _⟩ := atI_lt (xs := z.cps.toList) h0 (by rw [Array.length_toList]; exact h1)
  exact or_ixS hz e (k p hp)
end
theorem st_yes {W : WD} {ρ : Rho} {M : Cells} {KT : Bool → Cells → Prop} (k : KT true M) : ST W tYes ρ M KT := fun G σ H F Q re o mx q => q true M G H k (Ex.refl G) o
theorem sIx_of {n d : Nat} {i : Int} (h : 0 ≤ i) : HT.sIx n d (some i) = min i.toNat n := by
  show (if i < 0 then (i + (n : Int)).toNat else min i.toNat n) = _
  rw [if_neg (by omega)]
theorem cutP_from {α : Type} {xs : List α} {i : Int} (h : 0 ≤ i) : cutP xs (some i) none = xs.drop i.toNat := by
  unfold cutP
  rw [sIx_of h]
  show (xs.drop _).take (xs.length - _) = _
  by_cases hh : i.toNat ≤ xs.length
  · rw [Nat.min_eq_left hh, List.take_of_length_le (by rw [List.length_drop]; omega)]
  · rw [Nat.min_eq_right (by omega), List.drop_eq_nil_of_le (i := i.toNat) (by omega)]
    simp
theorem cutP_to {α : Type} {xs : List α} {i : Int} (h : 0 ≤ i) : cutP xs none (some i) = xs.take i.toNat := by
  unfold cutP
  rw [sIx_of h]
  show (xs.drop 0).take (_ - 0) = _
  rw [List.drop_zero, Nat.sub_zero]
  by_cases hh : i.toNat ≤ xs.length
  · rw [Nat.min_eq_left hh]
  · rw [Nat.min_eq_right (by omega), List.take_length, List.take_of_length_le (by omega)]
theorem cutP_tl {α : Type} {x : α} {xs : List α} : cutP (x :: xs) (some 1) none = xs := cutP_from (by decide)
/-- an expression that gives one thing whatever way it goes -/
theorem se_join {W : WD} {ρ : Rho} {M : Cells} {K : D → Cells → Prop} {te : TE} (x : D) (h : SE W te ρ M fun d M' => d = x ∧ M' = M) (k : K x M) : SE W te ρ M K := h.imp fun d M' ⟨e1, e2⟩ => by
  subst e1
  subst e2
  exact k
/-- a cut behind a statement -/
theorem ss_mid {W : WD} {ρ : Rho} {M : Cells} {P : PD} {t u : TS} {Q : Rho → Cells → Prop} (h : SS W t ρ M { P with nx := Q }) (k : ∀ ρ' M', Q ρ' M' → SS W u ρ' M' P) : SS W (tSeq t u) ρ M P :=
  ss_seq fun G σ H F D re o mx md => h G σ H F D re o mx ⟨fun ρ' M' σ' G' H' q e re' o' => md.nx ρ' M' σ' G' H' (k ρ' M' q) e re' o', md.rt, md.bk, md.ct⟩
/-- both ways to an else -/
theorem br_else {b : Bool} {A B : Prop} (hB : B) (hA : B → b = true → A) : Br b A B := ⟨hA hB, fun _ => hB⟩
theorem br_then {b : Bool} {A B : Prop} (hA : A) (hB : A → b = false → B) : Br b A B := ⟨fun _ => hA, hB hA⟩
theorem ix_split {α : Type} {xs : List α} {r : Int} (h0 : 0 ≤ r) (h1 : r < xs.length) : ∃ (i : Nat) (x : α), r = i ∧ xs[i]? = some x ∧ i < xs.length ∧ xs = xs.take i ++ x :: xs.drop (i + 1) := by
  have h2 : r.toNat < xs.length := by omega
  refine ⟨r.toNat, xs[r.toNat], by omega, by simp [h2], h2, ?_⟩
  rw [← List.drop_eq_getElem_cons h2, List.take_append_drop]
/-- a text of signs -/
def mkS (l : List Nat) : Str := ⟨l.toArray⟩
abbrev ofC (c : Nat) : Str := ⟨#[c]⟩
theorem mkS_len (l : List Nat) : (mkS l).length = l.length := by simp [mkS, Str.length]
theorem mkS_cs (l : List Nat) : (mkS l).cps.toList = l := by simp [mkS]
theorem mkS_self (z : Str) : mkS z.cps.toList = z := by simp [mkS]
theorem mkS_app (a b : List Nat) : mkS a ++ mkS b = mkS (a ++ b) := by
  show Str.append (mkS a) (mkS b) = _
  simp [Str.append, mkS]
theorem mkS_snoc (a : List Nat) (c : Nat) : mkS a ++ ofC c = mkS (a ++ [c]) := mkS_app a [c]
theorem mkS_inj {a b : List Nat} : mkS a = mkS b ↔ a = b := ⟨fun e => by rw [← mkS_cs a, e, mkS_cs], fun e => by rw [e]⟩
theorem ofC_eq {c d : Nat} : (ofC c = ofC d) ↔ c = d := ⟨fun e => by injection e with e; simpa using e, fun e => by rw [e]⟩
theorem ofC_w : Str.ofString "w" = ofC 119 := by decide +kernel
theorem ofC_o : Str.ofString "o" = ofC 111 := by decide +kernel
theorem dec_ofC (c d : Nat) : decide (ofC c = ofC d) = decide (c = d) := decide_eq_decide.mpr ofC_eq
theorem or_eqC {Kf : PySem.W.Frag} {M : Cells} {K : D → Cells → Prop} {c d : Nat} {s : Str} (hs : s = ofC d) (k : K (dB (decide (c = d))) M) : OR (rEqA Kf) (dS (ofC c)) (dS s) M K := or_eqAS (by rw [hs, dec_ofC]; exact k)
theorem map_at {α β : Type} {f : α → β} {ps : List α} {i : Nat} {q : β} (h : (ps.map f)[i]? = some q) : ∃ o, ps[i]? = some o ∧ q = f o := by
  rw [List.getElem?_map] at h
  cases hh : ps[i]? with
  | none => rw [hh] at h; cases h
  | some o => rw [hh] at h; exact ⟨o, rfl, (Option.some.inj h).symm⟩
theorem inC2 (c a b : Nat) : inP (.str (ofC c)) [.str (ofC a), .str (ofC b)] = (decide (c = a) || decide (c = b)) := by
  unfold inP
  simp only [List.any_cons, List.any_nil, Bool.or_false, eqv_str, dec_ofC, eq_comm]
theorem str_ext {a b : Str} (h : a.cps.toList = b.cps.toList) : a = b := by rw [← mkS_self a, ← mkS_self b, h]
theorem mul_mkS (l : List Nat) (n : Nat) : Txt.mul (mkS l) (n : Int) = mkS (List.replicate n l).flatten := by
  have aux : ∀ (n : Nat) (a : Array Nat), ((List.replicate n (mkS l).cps).foldl (· ++ ·) a).toList = a.toList ++ (List.replicate n l).flatten := by
    intro n
    induction n with
    | zero => intro a; simp
    | succ n ih =>
      intro a
      rw [List.replicate_succ, List.foldl_cons, ih, List.replicate_succ, List.flatten_cons, Array.toList_append, mkS_cs, List.append_assoc]
  unfold Txt.mul
  split
  · have : n = 0 := by omega
    subst this
    rfl
  · split
    · rename_i h
      rw [Bool.or_eq_true, beq_iff_eq, beq_iff_eq] at h
      rcases h with h | h
      · have : n = 1 := by omega
        subst this
        simp
      · rw [mkS_len] at h
        have : l = [] := List.eq_nil_of_length_eq_zero h
        subst this
        simp
    · refine str_ext ?_
      rw [Int.toNat_natCast, mkS_cs]
      have := aux n #[]
      simpa using this
theorem flatten_rep (k : Nat) (l : List Nat) : (List.replicate k l).flatten.length = k * l.length := by simp
section
variable {W : WD} {ρ : Rho} {M : Cells} {K : D → Cells → Prop} {Kf : PySem.W.Frag}
theorem or_addZ {a b : List Nat} (hl : a.length + b.length ≤ 1000000) (k : K (dS (mkS (a ++ b))) M) : OR rAddA (dS (mkS a)) (dS (mkS b)) M K :=
  or_addS (by rw [mkS_len, mkS_len]; exact hl) (by rw [mkS_app]; exact k)
theorem or_addC {a : List Nat} {c : Nat} (hl : a.length + 1 ≤ 1000000) (k : K (dS (mkS (a ++ [c]))) M) : OR rAddA (dS (mkS a)) (dS (ofC c)) M K := or_addZ (b := [c]) hl k
theorem cr_lenZ {l : List Nat} (hl : l.length ≤ 1000000) (k : K (dI l.length) M) : CR (rLenA Kf) [dS (mkS l)] M K := cr_lenS (by rw [mkS_len]; exact hl) (by rw [mkS_len]; exact k)
theorem lr_Z {l : List Nat} {lo hi : Option Int} (hl : l.length ≤ 1000000) (k : K (dS (mkS (cutP l lo hi))) M) : LR (rSlA Kf) (dS (mkS l)) lo hi M K := lr_S (by rw [mkS_len]; exact hl) (by
    have : cutS (mkS l) lo hi = mkS (cutP l lo hi) := by
      unfold cutS cutP
      rw [mkS_cs, mkS_len]
      rfl
    rw [this]
    exact k)
theorem or_dblZ {l : List Nat} (hl : l.length ≤ 100000) (k : K (dS (mkS (l ++ l))) M) : OR rMulA (dS (mkS l)) (dI 2) M K :=
  or_repS ⟨by decide, by decide, by rw [mkS_len, show (2 : Int).toNat = 2 by decide]; omega, by rw [mkS_len]; omega⟩ (by
    rw [show (2 : Int) = ((2 : Nat) : Int) from rfl, mul_mkS]
    simpa [List.replicate] using k)
end
/-! ### a for over what is known, told by what is behind -/
section
variable {W : WD} {ρ : Rho} {M : Cells} {P : PD} {Kf : PySem.W.Frag} {g : TG} {tb : TS} {te : TE} {ta tk : TA}
theorem split_at {α : Type} {xs : List α} {i : Nat} {x : α} (h : xs[i]? = some x) : xs = xs.take i ++ x :: xs.drop (i + 1) := by
  obtain ⟨hi, e⟩ := List.getElem?_eq_some_iff.mp h
  rw [← e, ← List.drop_eq_getElem_cons hi, List.take_append_drop]
theorem take_snoc' {α : Type} {l : List α} {i : Nat} {x : α} (h : l[i]? = some x) : l.take (i + 1) = l.take i ++ [x] := by
  rw [List.take_add_one, h]
  rfl
/-- the body's ends -/
abbrev Bd (P : PD) (J : Rho → Cells → Prop) : PD := { P with nx := J, ct := J, bk := P.nx }
theorem SA.imp {K K' : List D → Cells → Prop} (h : SA W ta ρ M K') (k : ∀ d M, K' d M → K d M) : SA W ta ρ M K := fun G σ H F Q re o mx q => h G σ H F Q re o mx fun d M v G' H' kd => q d M v G' H' (k d M kd)
structure FL {α : Type} (W : WD) (xs : List α) (f : Nat → α → D) (g : TG) (tb : TS) (P : PD) (I : List α → Rho → Cells → Prop) : Prop where
  st : ∀ pre x post ρ' M', xs = pre ++ x :: post → I pre ρ' M' → SG W g (f pre.length x) ρ' M' fun ρ2 M2 => SS W tb ρ2 M2 (Bd P (I (pre ++ [x])))
  en : ∀ ρ' M', I xs ρ' M' → P.nx ρ' M'
theorem FL.go {α : Type} {xs : List α} {f : Nat → α → D} {I : List α → Rho → Cells → Prop} (h : FL W xs f g tb P I) {n : Nat} (hn : n = xs.length) {Y : Nat → D → Prop} (hY : ∀ i d, i < n → Y i d → ∃ x, xs[i]? = some x ∧ d = f i x) (h0 : I [] ρ M) :
    ∃ I : Nat → Rho → Cells → Prop, I 0 ρ M ∧ (∀ i ρ' M', i ≤ n → I i ρ' M' → (fun _ => True) M') ∧
      (∀ i d ρ' M', i < n → Y i d → I i ρ' M' → SG W g d ρ' M' fun ρ2 M2 => SS W tb ρ2 M2 { P with nx := I (i + 1), ct := I (i + 1), bk := P.nx }) ∧ ∀ ρ' M', I n ρ' M' → P.nx ρ' M' := by
  refine ⟨fun i => I (xs.take i), h0, fun _ _ _ _ _ => trivial, fun i d ρ' M' hi y i0 => ?_, fun ρ' M' i0 => h.en ρ' M' ?_⟩
  · obtain ⟨x, hx, rfl⟩ := hY i d hi y
    show SG W g (f i x) ρ' M' fun ρ2 M2 => SS W tb ρ2 M2 { P with nx := I (xs.take (i + 1)), ct := I (xs.take (i + 1)), bk := P.nx }
    rw [take_snoc' hx]
    have := h.st (xs.take i) x (xs.drop (i + 1)) ρ' M' (split_at hx) i0
    rw [List.length_take, Nat.min_eq_left (by omega)] at this
    exact this
  · have i0 : I (xs.take n) ρ' M' := i0
    rw [hn, List.take_length] at i0
    exact i0
theorem ss_forL {α : Type} (f : α → PyData) (xs : List α) (I : List α → Rho → Cells → Prop) (h : SE W te ρ M fun d M1 => d = dL (xs.map f) ∧ I [] ρ M1) (hs : FL W xs (fun _ x => .py (f x)) g tb P I) : SS W (tFor (iAny Kf te) g tb) ρ M P :=
  ss_for (si_anyL (si_list (h.imp fun d M1 ⟨e, i0⟩ => ⟨_, e, hs.go (by rw [List.length_map]) (fun i d _ ⟨p, hp, e⟩ => by
    obtain ⟨o, ho, rfl⟩ := map_at hp
    exact ⟨o, ho, e⟩) i0⟩)))
theorem ss_forT {α : Type} (f : α → PyData) (xs : List α) (I : List α → Rho → Cells → Prop) (h : SE W te ρ M fun d M1 => d = dT (xs.map f) ∧ I [] ρ M1) (hs : FL W xs (fun _ x => .py (f x)) g tb P I) : SS W (tFor (iAny Kf te) g tb) ρ M P :=
  ss_for (si_anyT (si_tup (h.imp fun d M1 ⟨e, i0⟩ => ⟨_, e, hs.go (by rw [List.length_map]) (fun i d _ ⟨p, hp, e⟩ => by
    obtain ⟨o, ho, rfl⟩ := map_at hp
    exact ⟨o, ho, e⟩) i0⟩)))
theorem ss_forS (l : List Nat) (I : List Nat → Rho → Cells → Prop) (h : SE W te ρ M fun d M1 => d = dS (mkS l) ∧ I [] ρ M1) (hs : FL W l (fun _ x => dS (ofC x)) g tb P I) : SS W (tFor (iAny Kf te) g tb) ρ M P :=
  ss_for (si_anyS (si_str (h.imp fun d M1 ⟨e, i0⟩ => ⟨_, e, hs.go (mkS_len l) (fun i d _ ⟨c, hc, e⟩ => ⟨c, by simpa [mkS] using hc, e⟩) i0⟩)))
theorem ss_forE {α : Type} (f : α → PyData) (xs : List α) (I : List α → Rho → Cells → Prop) (h : SA W ta ρ M fun ds M1 => ds = [dL (xs.map f)] ∧ I [] ρ M1) (hs : FL W xs (fun i x => dT [.int (i : Int), f x]) g tb P I) : SS W (tFor (iEnumA Kf ta) g tb) ρ M P :=
  ss_for (si_enumAL (si_enum (SA.imp h fun d M1 ⟨e, i0⟩ => ⟨_, e, hs.go (by rw [List.length_map]) (fun i d _ ⟨p, hp, e⟩ => by
    obtain ⟨o, ho, rfl⟩ := map_at hp
    exact ⟨o, ho, e⟩) i0⟩)))
theorem ss_forES (l : List Nat) (I : List Nat → Rho → Cells → Prop) (h : SA W ta ρ M fun ds M1 => ds = [dS (mkS l)] ∧ I [] ρ M1) (hs : FL W l (fun i x => dT [.int (i : Int), .str (ofC x)]) g tb P I) : SS W (tFor (iEnumA Kf ta) g tb) ρ M P :=
  ss_for (si_enumAS (si_enumS (SA.imp h fun d M1 ⟨e, i0⟩ => ⟨_, e, hs.go (mkS_len l) (fun i d _ ⟨c, hc, e⟩ => ⟨c, by simpa [mkS] using hc, e⟩) i0⟩)))
end
section
variable {ρ : Rho} {M : Cells} {K : D → Cells → Prop} {to : TE}
theorem se_meth0 (n : Nat) {m : Str} {C : Addr} {s : DSp} {ta' : TA}
    (h : SE W0 to ρ M fun x M1 => ∃ i p fs, x = dR p ∧ CA M1 i p (.ins C fs) ∧ fs.lookup m = none ∧ SA W0 ta' ρ M1 fun ds M2 => s (dR p :: ds) (M2.take n) (fun d M' => K d (M' ++ M2.drop n)) fun _ _ => False) :
    SE W0 (tMeth C m (spD s) [] E0 to ta') ρ M K := se_meth (fun _ _ _ _ z => z) (h.imp fun x M1 ⟨i, p, fs, ex, hc, hl, h2⟩ => ⟨i, p, fs, ex, hc, hl, SA.imp h2 fun ds M2 k => ⟨M2.take n, M2.drop n, .of_eq (List.take_append_drop n M2).symm, k⟩⟩)
theorem se_make0 {C : Addr} {s : DSp} {ta' : TA}
    (h : SA W0 ta' ρ M fun ds M1 => ∀ x, s (dR x :: ds) [(x, .ins C [])] (fun d M' => d = dN ∧ ∃ c, M' = [(x, c)] ∧ K (dR x) (M1 ++ [(x, c)])) fun _ _ => False) : SE W0 (tMake C (spD s) [] E0 ta') ρ M K := se_make (fun _ _ _ _ z => z) h
end
/-! ### comprehensions over what is known -/
section
variable {W : WD} {ρ : Rho} {M : Cells} {K : D → Cells → Prop} {Kf : PySem.W.Frag} {g : TG} {t : TT} {te te0 : TE} {wi : TI} {ta : TA} {vs : List Nat}
/-- what is walked: xs, each told as data -/
def Src {α : Type} (xs : List α) (f : Nat → α → D) (M : Cells) : Nat → (Nat → D → Prop) → (Cells → Prop) → Cells → Prop := fun n Y C M1 => n = xs.length ∧ M1 = M ∧ (∀ i d, i < n → Y i d → ∃ x, xs[i]? = some x ∧ d = f i x) ∧ ∀ M', C M'
theorem src_L {α : Type} (f : α → PyData) (xs : List α) {M2 : Cells} (h : SE W te ρ M fun d M1 => d = dL (xs.map f) ∧ M1 = M2) : SI W (iAny Kf te) ρ M (Src xs (fun _ x => .py (f x)) M2) :=
  si_anyL (si_list (h.imp fun d M1 ⟨e, i0⟩ => ⟨_, e, by rw [List.length_map], i0, fun i d _ ⟨p, hp, e⟩ => by
    obtain ⟨o, ho, rfl⟩ := map_at hp
    exact ⟨o, ho, e⟩, fun _ => trivial⟩))
theorem src_T {α : Type} (f : α → PyData) (xs : List α) {M2 : Cells} (h : SE W te ρ M fun d M1 => d = dT (xs.map f) ∧ M1 = M2) : SI W (iAny Kf te) ρ M (Src xs (fun _ x => .py (f x)) M2) :=
  si_anyT (si_tup (h.imp fun d M1 ⟨e, i0⟩ => ⟨_, e, by rw [List.length_map], i0, fun i d _ ⟨p, hp, e⟩ => by
    obtain ⟨o, ho, rfl⟩ := map_at hp
    exact ⟨o, ho, e⟩, fun _ => trivial⟩))
theorem src_S (l : List Nat) {M2 : Cells} (h : SE W te ρ M fun d M1 => d = dS (mkS l) ∧ M1 = M2) : SI W (iAny Kf te) ρ M (Src l (fun _ x => dS (ofC x)) M2) :=
  si_anyS (si_str (h.imp fun d M1 ⟨e, i0⟩ => ⟨_, e, mkS_len l, i0, fun i d _ ⟨c, hc, e⟩ => ⟨c, by simpa [mkS] using hc, e⟩, fun _ => trivial⟩))
theorem src_E {α : Type} (f : α → PyData) (xs : List α) {M2 : Cells} (h : SA W ta ρ M fun ds M1 => ds = [dL (xs.map f)] ∧ M1 = M2) : SI W (iEnumA Kf ta) ρ M (Src xs (fun i x => dT [.int (i : Int), f x]) M2) :=
  si_enumAL (si_enum (SA.imp h fun d M1 ⟨e, i0⟩ => ⟨_, e, by rw [List.length_map], i0, fun i d _ ⟨p, hp, e⟩ => by
    obtain ⟨o, ho, rfl⟩ := map_at hp
    exact ⟨o, ho, e⟩, fun _ => trivial⟩))
theorem src_ES (l : List Nat) {M2 : Cells} (h : SA W ta ρ M fun ds M1 => ds = [dS (mkS l)] ∧ M1 = M2) : SI W (iEnumA Kf ta) ρ M (Src l (fun i x => dT [.int (i : Int), .str (ofC x)]) M2) :=
  si_enumAS (si_enumS (SA.imp h fun d M1 ⟨e, i0⟩ => ⟨_, e, mkS_len l, i0, fun i d _ ⟨c, hc, e⟩ => ⟨c, by simpa [mkS] using hc, e⟩, fun _ => trivial⟩))
theorem range_at {n i : Nat} (h : i < n) : (List.range n)[i]? = some i := by simp [h]
theorem src_R1 {M2 : Cells} (n : Nat) (h : SA W ta ρ M fun ds M1 => ∃ j : Int, ds = [dI j] ∧ j.toNat = n ∧ -(2 ^ 62) ≤ j ∧ j < 2 ^ 62 ∧ M1 = M2) : SI W (iRng1 ta) ρ M (Src (List.range n) (fun _ i => dI (i : Int)) M2) :=
  si_range1 (SA.imp h fun d M1 ⟨j, e, e1, h1, h2, e2⟩ => ⟨j, e, h1, h2, by rw [e1, List.length_range], e2, fun i d hi e => ⟨i, range_at (by omega), e⟩, fun _ => trivial⟩)
theorem src_R2 {M2 : Cells} (lo : Int) (n : Nat) (h : SA W ta ρ M fun ds M1 => ∃ j : Int, ds = [dI lo, dI j] ∧ (j - lo).toNat = n ∧ (-(2 ^ 62) ≤ lo ∧ lo < 2 ^ 62 ∧ -(2 ^ 62) ≤ j ∧ j < 2 ^ 62) ∧ M1 = M2) : SI W (iRng2 ta) ρ M (Src (List.range n) (fun _ i => dI (lo + (i : Int))) M2) :=
  si_range2 (SA.imp h fun d M1 ⟨j, e, e1, h1, e2⟩ => ⟨lo, j, e, h1, by rw [e1, List.length_range], e2, fun i d hi e => ⟨i, range_at (by omega), e⟩, fun _ => trivial⟩)
/-- a for over it -/
theorem ss_forX {α : Type} {xs : List α} {f : Nat → α → D} {M2 : Cells} {P : PD} {tb : TS} (I : List α → Rho → Cells → Prop) (h : SI W wi ρ M (Src xs f M2)) (h0 : I [] ρ M2) (hs : FL W xs f g tb P I) : SS W (tFor wi g tb) ρ M P := by
  refine ss_for fun G σ H F Q re o mx q => h G σ H F Q re o mx fun n Y C M' G' H' J ⟨e1, e2, e3, e4⟩ => ?_
  subst e2
  refine q n Y C M' G' H' J ?_
  obtain ⟨I2, a, b, c, d⟩ := hs.go e1 e3 h0
  exact ⟨I2, a, fun i ρ' M' _ _ => e4 M', c, d⟩
end
section
variable {ρ : Rho} {M : Cells} {K : D → Cells → Prop} {Kf : PySem.W.Frag} {g : TG} {t : TT} {te te0 : TE} {wi : TI} {ta : TA} {vs : List Nat}
theorem se_lcI {α : Type} {xs : List α} {f : Nat → α → D} {M2 : Cells} (hg : GOk g vs) (h : SI W0 wi ρ M (Src xs f M2)) (hl : xs.length ≤ 1000000) (I : List α → List D → Cells → Prop) (h0 : I [] [] M2)
    (hs : ∀ pre x post acc M', xs = pre ++ x :: post → acc.length ≤ pre.length → I pre acc M' → SG W0 g (f pre.length x) (wipeE ρ vs) M' fun ρ2 M2 => ST W0 t ρ2 M2 fun b M3 => Br b (SE W0 te ρ2 M3 fun e M4 => I (pre ++ [x]) (acc ++ [e]) M4) (I (pre ++ [x]) acc M3))
    (he : ∀ acc M', I xs acc M' → (∃ ps, acc = ps.map D.py ∧ K (dL ps) M') ∨ ∀ p, K (dR p) (M' ++ [(p, .lst acc)])) : SE W0 (tLc wi g t te vs) ρ M K := by
  refine se_lc hg fun G σ H F Q re o mx q => h G σ H F Q re o mx fun n Y C M' G' H' J ⟨e1, e2, e3, e4⟩ => ?_
  subst e2
  refine q n Y C M' G' H' J ⟨by omega, fun i => I (xs.take i), h0, fun i acc M' _ _ => e4 M', fun i d acc M' hi ha y i0 => ?_, fun acc M' i0 => he acc M' ?_⟩
  · obtain ⟨x, hx, rfl⟩ := e3 i d hi y
    have hlen : (xs.take i).length = i := by rw [List.length_take]; omega
    have := hs (xs.take i) x (xs.drop (i + 1)) acc M' (split_at hx) (by rw [hlen]; exact ha) i0
    rw [hlen, ← take_snoc' hx] at this
    exact this
  · have i0 : I (xs.take n) acc M' := i0
    rw [e1, List.take_length] at i0
    exact i0
/-- a comprehension that changes nothing -/
theorem se_lcF {α : Type} {xs : List α} {f : Nat → α → D} {M2 : Cells} (p : α → Bool) (m : α → PyData) (hg : GOk g vs) (h : SI W0 wi ρ M (Src xs f M2)) (hl : xs.length ≤ 1000000)
    (hs : ∀ pre x post, xs = pre ++ x :: post → SG W0 g (f pre.length x) (wipeE ρ vs) M2 fun ρ2 M3 => ST W0 t ρ2 M3 fun b M4 => M4 = M2 ∧ b = p x ∧ (p x = true → SE W0 te ρ2 M4 fun e M5 => e = .py (m x) ∧ M5 = M2))
    (k : K (dL ((xs.filter p).map m)) M2) : SE W0 (tLc wi g t te vs) ρ M K := by
  refine se_lcI hg h hl (fun pre acc M' => acc = ((pre.filter p).map m).map D.py ∧ M' = M2) ⟨rfl, rfl⟩ ?_ ?_
  · rintro pre x post acc M' hx ha ⟨rfl, rfl⟩ G σ H F v Q r re o mx q
    refine hs pre x post hx G σ H F v Q r re o mx fun ρ2 M3 σ2 G2 H2 k2 e2 re2 o2 => q ρ2 M3 σ2 G2 H2 ?_ e2 re2 o2
    refine k2.imp fun b M4 ⟨e1, e2, e3⟩ => ?_
    subst e1
    subst e2
    refine ⟨fun hp => (e3 hp).imp fun e M5 ⟨a1, a2⟩ => ?_, fun hp => ?_⟩
    · subst a1
      subst a2
      refine ⟨?_, rfl⟩
      rw [List.filter_append, List.filter_cons_of_pos hp, List.map_append, List.map_append]
      rfl
    · refine ⟨?_, rfl⟩
      rw [List.filter_append, List.filter_cons_of_neg (by rw [hp]; decide), List.filter_nil, List.append_nil]
  · rintro acc M' ⟨rfl, rfl⟩
    exact .inl ⟨_, rfl, k⟩
theorem se_lcM {α : Type} {xs : List α} {f : Nat → α → D} {M2 : Cells} (m : α → PyData) (hg : GOk g vs) (h : SI W0 wi ρ M (Src xs f M2)) (hl : xs.length ≤ 1000000)
    (hs : ∀ pre x post, xs = pre ++ x :: post → SG W0 g (f pre.length x) (wipeE ρ vs) M2 fun ρ2 M3 => SE W0 te ρ2 M3 fun e M5 => e = .py (m x) ∧ M5 = M2 ∧ M3 = M2)
    (k : K (dL (xs.map m)) M2) : SE W0 (tLc wi g tYes te vs) ρ M K := by
  refine se_lcI hg h hl (fun pre acc M' => acc = (pre.map m).map D.py ∧ M' = M2) ⟨rfl, rfl⟩ ?_ ?_
  · rintro pre x post acc M' hx ha ⟨rfl, rfl⟩ G σ H F v Q r re o mx q
    refine hs pre x post hx G σ H F v Q r re o mx fun ρ2 M3 σ2 G2 H2 k2 e2 re2 o2 => q ρ2 M3 σ2 G2 H2 ?_ e2 re2 o2
    refine st_yes (br_T rfl (k2.imp fun e M5 ⟨a1, a2, a3⟩ => ?_))
    subst a1
    subst a2
    refine ⟨?_, rfl⟩
    rw [List.map_append, List.map_append]
    rfl
  · rintro acc M' ⟨rfl, rfl⟩
    exact .inl ⟨_, rfl, k⟩
end
theorem tup_is {o : Obj} {xs : List V} (h : tupB o xs = true) : TupIs o xs := h
/-! ### cells that are let go -/
theorem own_take {G H : Hp} {M F : Cells} (n : Nat) (o : Own G (M ++ F) H) : Own G (M.take n ++ F) H := o.sub (List.Sublist.append (List.take_sublist n M) (List.Sublist.refl F))
theorem se_cut {W : WD} {ρ : Rho} {M : Cells} {K : D → Cells → Prop} {te : TE} (n : Nat) (h : SE W te ρ M fun d M' => K d (M'.take n)) : SE W te ρ M K := fun G σ H F Q re o mx q =>
  h G σ H F Q re o mx fun d M' v G' H' k e r o' => q d (M'.take n) v G' H' k e r (own_take n o')
theorem se_cut0 {W : WD} {ρ : Rho} {M : Cells} {K : D → Cells → Prop} {te : TE} (n : Nat) (h : SE W te ρ (M.take n) K) : SE W te ρ M K := fun G σ H F Q re o mx q => h G σ H F Q re (own_take n o) mx q
theorem ss_cut {W : WD} {ρ : Rho} {M : Cells} {P : PD} {t : TS} (n : Nat) (h : SS W t ρ (M.take n) P) : SS W t ρ M P := fun G σ H F D re o mx md => h G σ H F D re (own_take n o) mx md
theorem ca_last {M : Cells} {p : Addr} {c : Cell} : CA (M ++ [(p, c)]) M.length p c := by simp [CA]
section
variable {W : WD} {ρ : Rho} {M : Cells} {K : D → Cells → Prop}
def isNP : PyData → Bool
  | .none => true
  | _ => false
theorem rp_isN {G : Hp} {v : V} {p : PyData} (r : RD G v (.py p)) : decide (v = V.non) = isNP p := by
  have r' : Rp G v p := r
  cases r' <;> first | rfl | exact decide_eq_false (by intro e; cases e)
theorem or_isN {p : PyData} (k : K (dB (isNP p)) M) : OR (fun x y H Q => y = .non ∧ Q (.bl (decide (x = .non))) H) (.py p) dN M K := fun G H F u v Q r1 r2 o q => by
  cases non_of r2
  refine ⟨rfl, ?_⟩
  rw [rp_isN r1]
  exact q _ M _ G H k (Ex.refl G) (Rp.bl _) o
theorem or_ntN {p : PyData} (k : K (dB (!isNP p)) M) : OR (fun x y H Q => y = .non ∧ Q (.bl (!decide (x = .non))) H) (.py p) dN M K := fun G H F u v Q r1 r2 o q => by
  cases non_of r2
  refine ⟨rfl, ?_⟩
  rw [rp_isN r1]
  exact q _ M _ G H k (Ex.refl G) (Rp.bl _) o
theorem or_isNR {a : Addr} (k : K (dB false) M) : OR (fun x y H Q => y = .non ∧ Q (.bl (decide (x = .non))) H) (dR a) dN M K := fun G H F u v Q r1 r2 o q => by
  cases non_of r2
  cases r1
  exact ⟨rfl, q _ M _ G H k (Ex.refl G) (Rp.bl _) o⟩
end
end PL

/-! PL9: min(xs, default=z) of data. -/
namespace PL
open PySem PySem.Spec L2
def rMinDf (K : PySem.W.Frag) : List V → List V → Hp → VK → Prop := fun vs zs H Q => ∃ (a : Addr) (xs : List V) (ds : List PyData) (z : V), vs = [V.ref a] ∧ zs = [z] ∧ SqL K H a xs ∧ DpAll K H xs ds ∧ PySem.W.AlikeAll ds ∧ PyData.depthAll ds ≤ 32 ∧
  (ds = [] → Q z H) ∧ ∀ (y : PyData) (ys : List PyData) (v : V) (i : Nat), ds = y :: ys → xs[i]? = some v → ds[i]? = some (PySem.W.minD y ys) → Q v H
theorem vals_nth : ∀ {xs : List V} {us : List Value} {i : Nat} {u : Value}, Vals xs us → us[i]? = some u → ∃ x, xs[i]? = some x ∧ RelV x u
  | [], [], _, _, _, e => by simp at e
  | x :: xs, u :: us, 0, w, r, e => by
    simp at e
    subst e
    cases r with
    | cons r1 r2 => exact ⟨x, rfl, r1⟩
  | x :: xs, u :: us, i + 1, w, r, e => by
    cases r with
    | cons r1 r2 =>
      obtain ⟨y, h1, h2⟩ := vals_nth (i := i) r2 (by simpa using e)
      exact ⟨y, by simpa using h1, h2⟩
theorem readsAll_nth {h : Heap} : ∀ {us : List Value} {ds : List PyData} {as : List Addr} {i : Nat} {u : Value}, ReadsAll h us ds as → us[i]? = some u → ∃ d bs, ds[i]? = some d ∧ Reads h u d bs
  | [], _, _, _, _, _, e => by simp at e
  | w :: us, _, _, i, u, r, e => by
    cases r with
    | cons r1 r2 =>
      cases i with
      | zero =>
        simp at e
        subst e
        exact ⟨_, _, rfl, r1⟩
      | succ i =>
        obtain ⟨d, bs, h1, h2⟩ := readsAll_nth (i := i) r2 (by simpa using e)
        exact ⟨d, bs, by simpa using h1, h2⟩
theorem cr_minDf0 {X : Cx} (hc : X.calm = true) (hu : X.A.units + 64 < cLine) : CallRK X (.builtin "min") [Str.ofString "default"] (rMinDf X.K) := by
  intro pins s σ H vs zs us ws Q I r rz h
  obtain ⟨a, xs, ds, z, rfl, rfl, hs, hd, ha, hdp, q0, q⟩ := h
  obtain ⟨its, rv, hl, hz⟩ := I.list hs
  rw [Vals.ref1 r]
  obtain ⟨w1, rfl, e1⟩ := vals1 rz
  obtain ⟨as, ra⟩ := Dp.readsAll I ds xs _ hd rv
  refine PySem.W.min_list_default (I.ok.hd hc) hl.isList (by simpa using ra) ha (by omega) (fun e h' tk hk => ⟨z, H, I.kept hk, e1, q0 e⟩) fun y ys i v h' tk bs e hv rdv hk => ?_
  have hv' : its[i]? = some v := by simpa using hv
  obtain ⟨x, hx, rx⟩ := vals_nth rv hv'
  obtain ⟨d, cs, h1, h2⟩ := readsAll_nth ra hv'
  have := (PySem.Reads.unique (PySem.W.reads_keeps hk h2) _ _ rdv).1
  exact ⟨x, H, I.kept hk, rx, q y ys x i e hx (this ▸ h1)⟩
theorem cr_minDK {X : Cx} {K : PySem.W.Frag} (hc : X.calm = true) (hu : X.A.units + 64 < cLine) (hK : X.K = K := by rfl) : CallRK X (.builtin "min") [Str.ofString "default"] (rMinDf K) := hK ▸ cr_minDf0 hc hu
def CKR (r : List V → List V → Hp → VK → Prop) (xs es : List D) (M : Cells) (K : D → Cells → Prop) : Prop :=
  ∀ (G H : Hp) (F : Cells) (us ws : List V) (Q : VK), RDs G us xs → RDs G ws es → Own G (M ++ F) H → Fin G F K Q → r us ws H Q
section
variable {W : WD} {ρ : Rho} {M : Cells} {K : D → Cells → Prop} {Kf : PySem.W.Frag} {t tk : TA}
theorem se_ckw {r : List V → List V → Hp → VK → Prop} (h : SA W t ρ M fun ds M1 => SA W tk ρ M1 fun es M2 => CKR r ds es M2 K) : SE W (tCKw r t tk) ρ M K := fun G σ H F Q re o mx q =>
  h G σ H F _ re o mx fun ds M1 vs G1 H1 k1 e1 r1 o1 => k1 G1 σ H1 F _ (re.mono e1) o1 (mx.mono e1) fun es M2 ws G2 H2 k2 e2 r2 o2 =>
    k2 G2 H2 F vs ws Q (RDs.mono e2 r1) r2 o2 (q.mono (e1.trans e2))
theorem cr_minDf {ps : List PyData} {z : PyData} (ha : PySem.W.AlikeAll ps) (hd : PyData.depthAll ps ≤ 32) (h0 : ps = [] → K (.py z) M) (h1 : ∀ y ys, ps = y :: ys → K (.py (PySem.W.minD y ys)) M) : CKR (rMinDf Kf) [dL ps] [.py z] M K := fun G H F us ws Q r1 r2 o q => by
  obtain ⟨v, rfl, rv⟩ := r1.one
  obtain ⟨w, rfl, rw'⟩ := r2.one
  have rv' : Rp G v (.list ps) := rv
  cases rv' with
  | lst hl ra =>
    refine ⟨_, _, ps, w, rfl, rfl, SqL.of (o.ex _ _ hl), RpAll.dp (RpAll.mono o.ex ra), ha, hd, fun e => q _ M w G H (h0 e) (Ex.refl G) rw' o, fun y ys x i e hx hi => ?_⟩
    obtain ⟨v', hv', rr⟩ := ra.get hi
    rw [hx] at hv'
    cases hv'
    exact q _ M x G H (h1 y ys e) (Ex.refl G) rr o
end
/-- triples of ints -/
def t3 (a b c : Int) : PyData := .tuple [.int a, .int b, .int c]
theorem lt3_step {x y : Int} {xs ys : List PyData} : PyProof.Rows.lexLt PyProof.Rows.itemOrd (PySem.W.keyToksAll (.int x :: xs)) (PySem.W.keyToksAll (.int y :: ys)) = if x = y then PyProof.Rows.lexLt PyProof.Rows.itemOrd (PySem.W.keyToksAll xs) (PySem.W.keyToksAll ys) else decide (x < y) := by
  split
  · rename_i h
    subst h
    exact PySem.W.dataLt_all_yes (by simp [PySem.W.alike]) (by rw [eqv_int]; exact decide_eq_true rfl)
  · rename_i h
    rw [PySem.W.dataLt_all_no (by simp [PySem.W.alike]) (by rw [eqv_int]; exact decide_eq_false h), PySem.W.dataLt_int]
theorem t3_lt (a b c d e f : Int) : PySem.W.dataLt (t3 a b c) (t3 d e f) = decide (a < d ∨ a = d ∧ (b < e ∨ b = e ∧ c < f)) := by
  show PyProof.Rows.lexLt PyProof.Rows.itemOrd (PySem.W.keyToksAll [.int a, .int b, .int c]) (PySem.W.keyToksAll [.int d, .int e, .int f]) = _
  rw [lt3_step, lt3_step, lt3_step, show PyProof.Rows.lexLt PyProof.Rows.itemOrd (PySem.W.keyToksAll []) (PySem.W.keyToksAll []) = false from PyProof.Rows.lex_irrefl _]
  by_cases h1 : a = d
  · by_cases h2 : b = e
    · by_cases h3 : c = f
      · simp [h1, h2, h3]
      · simp [h1, h2, h3]
    · simp [h1, h2]
  · simp [h1]
section
variable {W : WD} {ρ : Rho} {M : Cells} {K : D → Cells → Prop} {Kf : PySem.W.Frag}
theorem cr_divmod {i j : Int} (hc : CDiv i j) (k : K (dT [.int (i / j), .int (i % j)]) M) : CR (fun xs H Q => ∃ i j, xs = [V.int i, V.int j] ∧ CDiv i j ∧ ∀ p, H p = none → Q (.ref p) (upd H p (.tup [.int (i / j), .int (i % j)]))) [dI i, dI j] M K := fun G H F us Q r o q => by
  obtain ⟨v, w, rfl, r1, r2⟩ := r.two
  cases int_of r1
  cases int_of r2
  refine ⟨i, j, rfl, hc, fun p hp => ?_⟩
  obtain ⟨G', e, rd, o'⟩ := new_tup o hp (.cons (Rp.int (i / j)) (.cons (Rp.int (i % j)) .nil))
  exact q _ M _ G' _ k e rd o'
end
end PL

/-! PL10: a text turned about. -/
namespace PL
open PySem PySem.Spec L2 PyProof.Rows
theorem picked_about (z : Str) : ((Builtin.Str.strSliceIndices none none (-1) z.length).filterMap (z.cps[·]?)).toArray = (mkS z.cps.toList.reverse).cps := by
  have h : (Builtin.Str.strSliceIndices none none (-1) z.length).filterMap (z.cps[·]?) = z.cps.toList.reverse := by
    rw [PyProof.Rows.picked_rev, PyProof.Rows.filterMap_get, List.map_map]
    · refine List.ext_getElem (by simp [Str.length]) fun i h1 h2 => ?_
      have hi : i < z.cps.size := by simpa [Str.length] using h1
      simp [Str.length, Array.getD, show z.cps.size - 1 - i < z.cps.size by omega]
    · intro i hi
      obtain ⟨k, hk, rfl⟩ := List.mem_map.mp hi
      have hk' : k < z.length := List.mem_range.mp hk
      show z.length - 1 - k < z.length
      omega
  rw [h]
  rfl
def tRevS (te : TE) : TE := fun σ H Q => te σ H fun x H1 => ∃ z : Str, x = .str z ∧ z.length ≤ sizeLine ∧ Q (.str (mkS z.cps.toList.reverse)) H1
theorem pe_revS {X : Cx} {e : Expr} {te : TE} {k : Nat} {p1 p2 p3 pos : Pos} (he : PE X e te) : PE X (.Subscript e (.Slice none none (some (.UnaryOp .USub (.Constant (.int 1) k p1) p2)) p3) pos) (tRevS te) := by
  refine ⟨fun pins s σ H Q I h => ?_⟩
  refine Subscript_ (thn (he.run pins s σ H _ I h) fun v s1 ⟨x, H1, I1, r1, q1⟩ => ?_)
  obtain ⟨z, rfl, hz, q⟩ := q1
  obtain ⟨t, rfl⟩ := r1
  have hst : PO X (some (.UnaryOp .USub (.Constant (.int 1) k p1) p2)) (tPart (tUn (rU fun i => .int (-i)) (tC (.int 1)))) := po_some (pe_un un_neg pe_int)
  refine wpAny_Slice (thn (po_none.run pins s1 σ H1 (fun o H2 => o = none ∧ H2 = H1) I1 ⟨rfl, rfl⟩) fun vl s2 ⟨l, H2, I2, pl, el, e2⟩ => ?_)
  subst el e2
  refine thn (po_none.run pins s2 σ H2 (fun o H3 => o = none ∧ H3 = H2) I2 ⟨rfl, rfl⟩) fun vu s3 ⟨u, H3, I3, pu, eu, e3⟩ => ?_
  subst eu e3
  refine thn (hst.run pins s3 σ H3 (fun o H4 => o = some (-1) ∧ H4 = H3) I3 ⟨1, rfl, -1, rfl, rfl, rfl⟩) fun vs s4 ⟨o, H4, I4, ps, eo, e4⟩ => ?_
  subst eo e4
  have I5 : Inv X pins σ H4 { s4 with heap := s4.heap.push { cls := .type "slice", data := .fields #[vl, vu, vs] } } := I4.kept (t' := s4.toks) fun b ob q => Heap.get?_push_of_some _ q
  obtain ⟨l, rfl, hl⟩ := IsPart.raw pl
  obtain ⟨u, rfl, hu⟩ := IsPart.raw pu
  obtain ⟨o, rfl, ho⟩ := IsPart.raw ps
  have h3 := picked_about z
  refine tail_any (ops := [.str z t, .ref s4.heap.objs.size]) (typeIs_str _ _ _) (PySem.F.slot_str_getitem.lookup) ?_ (by with_unfolding_all rfl)
  refine wpAny_getItem_str_slice (l := l) (u := u) (st := o) ⟨_, Heap.get?_push_size _ rfl, rfl, rfl⟩ (by rw [ho]; rfl) ?_
  have e1 : (o.map (·.1)).getD 1 = -1 := by rw [ho]; rfl
  show Made.post (if ((o.map (·.1)).getD 1 == 1 && (Builtin.Str.strSliceIndices (l.map (·.1)) (u.map (·.1)) ((o.map (·.1)).getD 1) z.length).length == z.length) = true then Made.val (.str z t)
    else Made.str ⟨((Builtin.Str.strSliceIndices (l.map (·.1)) (u.map (·.1)) ((o.map (·.1)).getD 1) z.length).filterMap (z.cps[·]?)).toArray⟩) (EP X pins σ Q) _
  rw [e1, hl, hu, if_neg (by simp), h3]
  refine ⟨?_, .str _, H4, I5.tok _, ⟨_, rfl⟩, q⟩
  show (mkS z.cps.toList.reverse).length ≤ sizeLine
  rw [mkS_len, List.length_reverse]
  exact hz
section
variable {W : WD} {ρ : Rho} {M : Cells} {K : D → Cells → Prop} {te : TE}
theorem se_revS (h : SE W te ρ M fun d M1 => ∃ l : List Nat, d = dS (mkS l) ∧ l.length ≤ 1000000 ∧ K (dS (mkS l.reverse)) M1) : SE W (tRevS te) ρ M K := fun G σ H F Q re o mx q =>
  h G σ H F _ re o mx fun d M1 v G1 H1 ⟨l, ed, hl, k⟩ e1 r1 o1 => by
    subst ed
    cases str_of r1
    refine ⟨_, rfl, by rw [mkS_len]; exact big_ok hl, ?_⟩
    rw [mkS_cs]
    exact q _ M1 _ G1 H1 k e1 (Rp.str _) o1
end
end PL

/-! PL11: a chain of three, lists made longer. -/
namespace PL
open PySem PySem.Spec L2 PyProof.Rows
def ttCh3 (r r' r'' : R2) (ta tb tc td : TE) : TT := fun σ H Q => ta σ H fun x H1 => tb σ H1 fun y H2 => r x y H2 fun z H3 => ∃ k, z = V.bl k ∧
  (if k = true then (tc σ H3 fun x2 H4 => r' y x2 H4 fun z2 H5 => ∃ k2, z2 = V.bl k2 ∧ (if k2 = true then (td σ H5 fun x3 H6 => r'' x2 x3 H6 fun z3 H7 => ∃ k3, z3 = V.bl k3 ∧ Q k3 H7) else Q false H5)) else Q false H3)
theorem pt_chain3 {X : Cx} {a b c d : Expr} {pos : Pos} {op op' op'' : CmpOp} {r r' r'' : R2} {ta tb tc td : TE} (ho : OpR X (compareOp op) r) (ho' : OpR X (compareOp op') r') (ho'' : OpR X (compareOp op'') r'') (ha : PE X a ta) (hb : PE X b tb) (hc : PE X c tc) (hd : PE X d td)
    (hm : lastMarks [op, op', op''] [b, c, d] = false := by with_unfolding_all rfl) : PT X (.Compare a [op, op', op''] [b, c, d] pos) (ttCh3 r r' r'' ta tb tc td) := by
  refine ⟨fun pins s σ H Q I h => ?_⟩
  refine isTrue_chain (thn (ha.run pins s σ H _ I h) fun v s1 ⟨x, H1, I1, r1, q1⟩ => test_link (thn (hb.run pins s1 σ H1 _ I1 q1) fun u s2 ⟨y, H2, I2, r2, q2⟩ =>
    thn (ho pins s2 σ H2 x y v u _ I2 r1 r2 q2) fun e s3 ⟨z, H3, I3, r3, k, ez, q3⟩ => ?_)) hm
  subst ez
  cases r3
  refine wpAny_truthy_bool ?_
  cases k with
  | false => exact ite_ff ⟨H3, I3, q3⟩
  | true =>
    refine ite_tt (test_link (thn (hc.run pins s3 σ H3 _ I3 q3) fun w' s4 ⟨x2, H4, I4, r4, q4⟩ => thn (ho' pins s4 σ H4 y x2 u w' _ I4 r2 r4 q4) fun e' s5 ⟨z2, H5, I5, r5, k2, e2, q5⟩ => ?_))
    subst e2
    cases r5
    refine wpAny_truthy_bool ?_
    cases k2 with
    | false => exact ite_ff ⟨H5, I5, q5⟩
    | true =>
      refine ite_tt (test_last (thn (hd.run pins s5 σ H5 _ I5 q5) fun w3 s6 ⟨x3, H6, I6, r6, q6⟩ => thn (ho'' pins s6 σ H6 x2 x3 w' w3 _ I6 r4 r6 q6) fun e3 s7 ⟨z3, H7, I7, r7, k3, e3', q7⟩ => ?_))
      subst e3'
      cases r7
      exact wpAny_truthy_bool ⟨H7, I7, q7⟩
section
variable {W : WD} {ρ : Rho} {M : Cells} {K : D → Cells → Prop} {KT : Bool → Cells → Prop} {Kf : PySem.W.Frag}
theorem st_chain3 {r r' r'' : R2} {ta tb tc td : TE} (h : SE W ta ρ M fun x M1 => SE W tb ρ M1 fun y M2 => OR r x y M2 fun z M3 => IsB z fun b => Br b
    (SE W tc ρ M3 fun x2 M4 => OR r' y x2 M4 fun z2 M5 => IsB z2 fun b2 => Br b2 (SE W td ρ M5 fun x3 M6 => OR r'' x2 x3 M6 fun z3 M7 => IsB z3 fun b3 => KT b3 M7) (KT false M5)) (KT false M3)) : ST W (ttCh3 r r' r'' ta tb tc td) ρ M KT := fun G σ H F Q re o mx q =>
  h G σ H F _ re o mx fun x M1 v G1 H1 k1 e1 r1 o1 => k1 G1 σ H1 F _ (re.mono e1) o1 (mx.mono e1) fun y M2 u G2 H2 k2 e2 r2 o2 =>
    k2 G2 H2 F v u _ (r1.mono e2) r2 o2 fun z M3 w G3 H3 ⟨b, eb, k3⟩ e3 r3 o3 => by
      subst eb
      cases bl_of r3
      refine ⟨b, rfl, ?_⟩
      have e13 := e1.trans (e2.trans e3)
      cases b with
      | false => exact iteF (q false M3 G3 H3 (k3.f rfl) e13 o3)
      | true =>
        refine iteT (k3.t rfl G3 σ H3 F _ (re.mono e13) o3 (mx.mono e13) fun x2 M4 v2 G4 H4 k4 e4 r4 o4 => ?_)
        refine k4 G4 H4 F u v2 _ (r2.mono (e3.trans e4)) r4 o4 fun z2 M5 w2 G5 H5 ⟨b2, eb2, k5⟩ e5 r5 o5 => ?_
        subst eb2
        cases bl_of r5
        refine ⟨b2, rfl, ?_⟩
        have e15 := e13.trans (e4.trans e5)
        cases b2 with
        | false => exact iteF (q false M5 G5 H5 (k5.f rfl) e15 o5)
        | true =>
          refine iteT (k5.t rfl G5 σ H5 F _ (re.mono e15) o5 (mx.mono e15) fun x3 M6 v3 G6 H6 k6 e6 r6 o6 => ?_)
          refine k6 G6 H6 F v2 v3 _ (r4.mono (e5.trans e6)) r6 o6 fun z3 M7 w3 G7 H7 ⟨b3, eb3, k7⟩ e7 r7 o7 => ?_
          subst eb3
          cases bl_of r7
          exact ⟨b3, rfl, q b3 M7 G7 H7 k7 (e15.trans (e6.trans e7)) o7⟩
theorem br_extend (i : Nat) {p : Addr} {ds es : List D} {d : D} (hc : CA M i p (.lst ds)) (hv : LV M d es) (hl : ds.length + es.length ≤ 1000000) (k : K dN (M.set i (p, .lst (ds ++ es)))) : BR rExtend (dR p) [d] M K := fun G H F u us Q r rs o q => by
  cases r
  obtain ⟨v, rfl, rv⟩ := rs.one
  obtain ⟨vs, hv1, rr⟩ := o.at hc
  obtain ⟨b, ws, rfl, hb, rr2⟩ := hv.at rv o
  refine ⟨p, b, vs, ws, rfl, rfl, hv1, hb, by rw [All2.length rr, All2.length rr2]; exact big_ok hl, q dN _ .non G _ k (Ex.refl G) Rp.non (o.store hc ⟨_, upd_same, rr.append rr2⟩)⟩
end
section
variable {ρ : Rho} {M : Cells} {K : D → Cells → Prop} {Kf : PySem.W.Frag} {g : TG} {t : TT} {te te0 : TE} {vs : List Nat}
/-- over a cell's list, nothing changed -/
theorem se_lcC {ds : List D} {j : Nat} {p : Addr} {M2 : Cells} (hg : GOk g vs) (h : SE W0 te0 ρ M fun d M1 => d = dR p ∧ M1 = M2) (hc : CA M2 j p (.lst ds)) (hl : ds.length ≤ 1000000) (I : Nat → List D → Prop) (h0 : I 0 [])
    (hs : ∀ i d acc, ds[i]? = some d → acc.length ≤ i → I i acc → SG W0 g d (wipeE ρ vs) M2 fun ρ2 M3 => ST W0 t ρ2 M3 fun b M4 => M4 = M2 ∧ Br b (SE W0 te ρ2 M4 fun e M5 => M5 = M2 ∧ I (i + 1) (acc ++ [e])) (I (i + 1) acc))
    (he : ∀ acc, I ds.length acc → (∃ ps, acc = ps.map D.py ∧ K (dL ps) M2) ∨ ∀ p, K (dR p) (M2 ++ [(p, .lst acc)])) : SE W0 (tLc (iAny Kf te0) g t te vs) ρ M K := by
  refine se_lc hg (si_anyL (si_cell (h.imp fun d M1 ⟨e, e2⟩ => ⟨j, p, ds, e, e2 ▸ hc, hl, fun i acc M' => M' = M2 ∧ I i acc, ⟨e2, h0⟩, fun i acc M' _ q => q.1 ▸ hc, fun i d acc M' hi ha y q => ?_, fun acc M' q => ?_⟩)))
  · obtain ⟨rfl, q⟩ := q
    intro G σ H F v Q r re o mx qq
    refine hs i d acc y ha q G σ H F v Q r re o mx fun ρ2 M3 σ2 G2 H2 k2 e2 re2 o2 => qq ρ2 M3 σ2 G2 H2 ?_ e2 re2 o2
    refine k2.imp fun b M4 ⟨a1, a2⟩ => ?_
    subst a1
    exact ⟨fun hb => (a2.t hb).imp fun e M5 ⟨b1, b2⟩ => ⟨b1, b2⟩, fun hb => ⟨rfl, a2.f hb⟩⟩
  · obtain ⟨rfl, q⟩ := q
    exact he acc q
theorem se_lcFC {α : Type} {xs : List α} (f : α → PyData) (p : α → Bool) (m : α → PyData) {j : Nat} {a : Addr} {M2 : Cells} (hg : GOk g vs) (h : SE W0 te0 ρ M fun d M1 => d = dR a ∧ M1 = M2) (hc : CA M2 j a (.lst (xs.map fun x => D.py (f x)))) (hl : xs.length ≤ 1000000)
    (hs : ∀ x ∈ xs, SG W0 g (.py (f x)) (wipeE ρ vs) M2 fun ρ2 M3 => ST W0 t ρ2 M3 fun b M4 => M4 = M2 ∧ b = p x ∧ (p x = true → SE W0 te ρ2 M4 fun e M5 => e = .py (m x) ∧ M5 = M2))
    (k : K (dL ((xs.filter p).map m)) M2) : SE W0 (tLc (iAny Kf te0) g t te vs) ρ M K := by
  refine se_lcC hg h hc (by rw [List.length_map]; exact hl) (fun i acc => acc = (((xs.take i).filter p).map m).map D.py) rfl (fun i d acc hd ha e => ?_) (fun acc e => ?_)
  · subst e
    obtain ⟨x, hx, rfl⟩ := map_at hd
    intro G σ H F v Q r re o mx q
    refine hs x (List.mem_of_getElem? hx) G σ H F v Q r re o mx fun ρ2 M3 σ2 G2 H2 k2 e2 re2 o2 => q ρ2 M3 σ2 G2 H2 ?_ e2 re2 o2
    refine k2.imp fun b M4 ⟨e1, e2, e3⟩ => ⟨e1, ?_⟩
    subst e2
    rw [take_snoc' hx, List.filter_append]
    refine ⟨fun hp => (e3 hp).imp fun e M5 ⟨a1, a2⟩ => ⟨a2, ?_⟩, fun hp => ?_⟩
    · rw [a1, List.filter_cons_of_pos hp, List.map_append, List.map_append]
      rfl
    · rw [List.filter_cons_of_neg (by rw [hp]; decide), List.filter_nil, List.append_nil]
  · subst e
    rw [List.length_map, List.take_length]
    exact .inl ⟨_, rfl, k⟩
end
theorem eqv_nil (ps : List PyData) : PyData.eqv (.list ps) (.list []) = decide (ps = []) := by
  cases ps with
  | nil => simp [PyData.eqv, PyData.eqvAll]
  | cons p ps => simp [PyData.eqv, PyData.eqvAll]
theorem shaped_list {ps : List PyData} (h : ∀ p ∈ ps, p.canLay0 = true ∧ p.depth ≤ 10) : PySem.SeqAt.shaped (.list ps) = true := by
  have h1 : PyData.canLayAll0 ps = true ∧ PyData.depthAll ps ≤ 10 := by
    induction ps with
    | nil => exact ⟨rfl, Nat.zero_le _⟩
    | cons p ps ih =>
      obtain ⟨a1, a2⟩ := h p List.mem_cons_self
      obtain ⟨b1, b2⟩ := ih fun q hq => h q (List.mem_cons_of_mem _ hq)
      refine ⟨by rw [PyData.canLayAll0, a1, b1]; rfl, ?_⟩
      rw [PyData.depthAll]
      omega
  unfold PySem.SeqAt.shaped
  rw [PyData.canLay0, h1.1, PyData.depth, Bool.true_and]
  exact decide_eq_true (by omega)
section
variable {M : Cells} {K : D → Cells → Prop} {Kf : PySem.W.Frag}
theorem se_lst0 {W : WD} {ρ : Rho} (k : K (dL []) M) : SE W (tLst tNil) ρ M K := se_lst (sa_nil (unp rfl (by decide) k))
theorem or_eqNil {ps : List PyData} (h : ∀ p ∈ ps, p.canLay0 = true ∧ p.depth ≤ 10) (k : K (dB (decide (ps = []))) M) : OR (rEqA Kf) (dL ps) (dL []) M K := or_eqAD (shaped_list h) rfl (by rw [eqv_nil]; exact k)
theorem or_neNil {ps : List PyData} (h : ∀ p ∈ ps, p.canLay0 = true ∧ p.depth ≤ 10) (k : K (dB (!decide (ps = []))) M) : OR (rNeA Kf) (dL ps) (dL []) M K := or_neAD (shaped_list h) rfl (by rw [eqv_nil]; exact k)
end
theorem strOk_mk {l : List Nat} (h : ∀ c ∈ l, c < 0x110000) : PyData.strOk (mkS l) = true := by
  unfold PyData.strOk mkS
  rw [Array.all_eq_true_iff_forall_mem]
  intro c hc
  exact decide_eq_true (h c (by simpa using hc))
end PL

/-! PL12: what is never come to; an item changed by an operation. -/
namespace PL
open PySem PySem.Spec L2
def tNever : TS := fun _ _ _ => False
theorem ps_never {X : Cx} {st : Stmt} : PS X st tNever := ⟨fun _ _ _ _ _ _ h => h.elim⟩
def teNever : TE := fun _ _ _ => False
theorem pe_never {X : Cx} {e : Expr} : PE X e teNever := ⟨fun _ _ _ _ _ _ h => h.elim⟩
def rGetL : V → V → Hp → VK → Prop := fun o i H Q => ∃ p xs k v, o = .ref p ∧ i = .int k ∧ H p = some (.lst xs) ∧ 0 ≤ k ∧ atI xs k = some v ∧ Q v H
theorem get_list {X : Cx} : PGet X rGetL := by
  intro pins s σ H o i ov iv Q I ro ri h
  obtain ⟨p, xs, k, z, rfl, rfl, hp, h0, he, q⟩ := h
  cases ro
  obtain ⟨t, rfl⟩ := ri
  obtain ⟨its, r, pl, hz⟩ := I.list (SqL.of hp)
  obtain ⟨j, h1, h2, h3, h4, h5⟩ := atI_get he
  obtain ⟨w, ew, rw'⟩ := r.get h2
  have hl := r.length
  have hn := line63
  have hj : k.toNat = j := by
    rw [seqIndex_of h0 h5] at h1
    exact Option.some.inj h1
  exact wpAny_getItem_list pl.isList h0 (by omega) (by rw [hj]; simpa using ew) ⟨z, H, I, rw', q⟩
section
variable {W : WD} {ρ : Rho} {M : Cells} {P : PD}
/-- xs[i] op= e, xs an owned list -/
theorem ss_augL {to ti te : TE} {f : Int → Int → Int} (h : SE W to ρ M fun x M1 => SE W ti ρ M1 fun y M2 => ∃ i p ds k a, x = dR p ∧ y = dI k ∧ CA M2 i p (.lst ds) ∧ 0 ≤ k ∧ atI ds k = some (dI a) ∧ SE W te ρ M2 fun d M3 => IsI d fun b => ∃ ds' j, CA M3 i p (.lst ds') ∧ ixN ds'.length k = some j ∧ P.nx ρ (M3.set i (p, .lst (ds'.set j (dI (f a b)))))) :
    SS W (tAugS to ti te rGetL (ipI f) rSetL) ρ M P := fun G σ H F D re o mx md =>
  h G σ H F _ re o mx fun x M1 v G1 H1 k1 e1 r1 o1 => k1 G1 σ H1 F _ (re.mono e1) o1 (mx.mono e1) fun y M2 u G2 H2 ⟨i, p, ds, k, a, ex, ey, hc, h0, ha, k2⟩ e2 r2 o2 => by
    subst ex
    subst ey
    cases r1
    cases int_of r2
    obtain ⟨vs, hv, rr⟩ := o2.at hc
    obtain ⟨z, hz, rz⟩ := all2_len rr ha
    cases int_of rz
    have e12 := e1.trans e2
    refine ⟨p, vs, k, .int a, rfl, rfl, hv, h0, hz, k2 G2 σ H2 F _ (re.mono e12) o2 (mx.mono e12) fun d M3 w G3 H3 ⟨b, eb, ds', j, hc3, hj, kk⟩ e3 r3 o3 => ?_⟩
    subst eb
    cases int_of r3
    obtain ⟨vs3, hv3, rr3⟩ := o3.at hc3
    refine ⟨a, b, rfl, rfl, p, vs3, k, j, rfl, rfl, hv3, by rw [All2.length rr3]; exact hj, md.nx ρ _ σ G3 _ kk (e12.trans e3) (re.mono (e12.trans e3)) (o3.store hc3 ⟨_, upd_same, All2.set (R := RD G3) (b := dI (f a b)) (Rp.int _) j rr3⟩)⟩
end
end PL

/-! PLG: defs' promises where what is being shown (repr) is known to be nothing: FnG beside FnOk. -/
namespace PL
open PySem PySem.Spec L2
open PyProof.Rows (envOfC)
structure FnG (P : Program) (w : World) (K : PySem.W.Frag) (mg : Str → Option Value) (base : Heap) (CX : CXT) (k : Nat) (f : Addr) (fd : FuncData) (ps : List Str) (sp : Sp) : Prop where
  len : ∀ vs H Q E, sp vs H Q E → vs.length = ps.length
  run : ∀ (A : Around) (outer : List PySem.Env) (s : Shared) (H : Hp) (args : Args) (us : List Value) (vs : List V) (Q : VK) (E : XK), Room k A → A.guards = some [] → Env0 P w K mg base A outer s H → BindsTo s fd args (ps.zip us) →
    Vals vs us → sp vs H Q E → codeAny (model P w) A (.call (.ref f) args) (L2.CR CX outer P w H s Q E) s
section
variable {P : Program} {w : World} {K : PySem.W.Frag} {mg : Str → Option Value} {base : Heap} {CX : CXT} {k : Nat} {f : Addr} {fd : FuncData} {ps : List Str} {sp : Sp}
theorem FnG.imp {sp' : Sp} (F : FnG P w K mg base CX k f fd ps sp) (h : ∀ vs H Q E, sp' vs H Q E → sp vs H Q E) : FnG P w K mg base CX k f fd ps sp' where
  len := fun vs H Q E q => F.len vs H Q E (h _ _ _ _ q)
  run := fun A outer s H args us vs Q E a b c d e q => F.run A outer s H args us vs Q E a b c d e (h _ _ _ _ q)
theorem FnG.of (F : FnOk P w K mg base CX k f fd ps sp) : FnG P w K mg base CX k f fd ps sp where
  len := F.len
  run := fun A outer s H args us vs Q E a _ c d e q => F.run A outer s H args us vs Q E a c d e q
/-- a def by its body, the guards known -/
theorem fnG_of {name qual : Str} {params : Arguments} {body : List Stmt} {scope : Scope} {dV kV doc pm cdv ct oc : Value} {an od : Option Addr} {osl : Array (Option Value)} {N : List Str}
    (lk : K.lookup f = some ⟨oc, od, .func (PySem.W.fnOf name qual params body scope dV kV doc pm an cdv ct), osl⟩) (hcd : PySem.W.codeIn K cdv qual = true) (S : FnScope N ps scope)
    (len : ∀ vs H Q E, sp vs H Q E → vs.length = ps.length)
    (hbody : ∀ (A : Around) (outer : List PySem.Env) (s : Shared) (H : Hp) (vs : List V) (Q : VK) (E : XK), Room k (A.deeper (envOfC qual scope s.heap.objs.size f cdv)) → (A.deeper (envOfC qual scope s.heap.objs.size f cdv)).guards = some [] → sp vs H Q E →
      ∃ t, PSs (cxOf CX P w K mg base N qual scope f cdv A outer s H E) body t ∧ t { nx := fun _ H' => Q .non H', rt := Q } (L2.start N vs) H) :
    FnG P w K mg base CX (k + 1) f (PySem.W.fnOf name qual params body scope dV kV doc pm an cdv ct) ps sp := by
  constructor
  · exact len
  intro A outer s H args us vs Q E hr hgd e0 hb r hsp
  have keep : ∀ b o, base.get? b = some o → s.heap.get? b = some o := fun b o e => (e0.bs b o e).1
  have hl := len _ _ _ _ hsp
  have KX : K.In s.heap := e0.mod.kin.keeps keep
  refine codeAny_call_function hr.depth (KX _ _ lk) rfl S.co S.gen rfl (PySem.W.codeRec_of KX hcd) (hb _ _ _ _ ?_)
  refine wpAny_newFunctionEnv_cells S.kind (fun y hy => ?_) fun env he s1 x => ?_
  · obtain ⟨n, v⟩ := y
    rcases S.par n (List.of_mem_zip hy).1 with q | q
    · exact .inl q
    · exact .inr ⟨q, PySem.W.cellsFrom_some _ _ _ (.inl q)⟩
  cases he
  refine ⟨(e0.mod.nolimit.keeps keep).keeps x.toInCall.keep, codeAny_func ?_⟩
  obtain ⟨t, ht, hq⟩ := hbody A outer s H vs Q E (hr.deeper _) hgd hsp
  have I := inv_start (CX := CX) (E := E) S hr.hd e0 hl r x
  refine wpAny_mono (ht.run [] s1 (L2.start N vs) H _ I hq) (fun fl s' hs => ?_) fun e s' hs => hs
  cases fl with
  | brk => exact hs.elim fun _ z => z.elim fun _ z => z.2.elim
  | cont => exact hs.elim fun _ z => z.elim fun _ z => z.2.elim
  | ret u =>
    obtain ⟨v, σ', H', J, rv, q⟩ := hs
    exact ⟨v, H', J.os, J.bare, J.base, J.hok, rv, q⟩
  | next =>
    obtain ⟨σ', H', J, q⟩ := hs
    exact ⟨V.non, H', J.os, J.bare, J.base, J.hok, rfl, q⟩
theorem fnG_ok {x qual : Str} {st : Stmt} {N : List Str} {s : DSp} (F : Fun K x qual st f fd) (S : FnScope N ps (defScope st)) (hl : ∀ ds M K KX, s ds M K KX → ds.length = ps.length)
    (hb : ∀ (cdv : Value) (A : Around) (outer : List PySem.Env) (s0 : Shared) (H : Hp) (E : XK), Room k (A.deeper (envOfC qual (defScope st) s0.heap.objs.size f cdv)) → (A.deeper (envOfC qual (defScope st) s0.heap.objs.size f cdv)).guards = some [] →
      ∃ t, PSs (cxOf CX0 P w K mg base N qual (defScope st) f cdv A outer s0 H E).nox (defBody st) t ∧
        ∀ (ds : List D) (M : Cells) (Kd : D → Cells → Prop) (KX : XD → Cells → Prop), s ds M Kd KX → SS W0 t (ds.map some ++ List.replicate (N.length - ps.length) none) M (PFn M.length Kd)) :
    FnG P w K mg base CX0 (k + 1) f fd ps (spD s) := by
  have hlen : ∀ vs H Q E, spD s vs H Q E → vs.length = ps.length := fun vs H Q E ⟨G, ds, M, F, Kd, KX, o, r, h, _, _⟩ => by
    rw [r.length]
    exact hl ds M Kd KX h
  obtain ⟨oc, od, kV, doc, pm, an, cdv, ct, osl, rfl, lk, hcd⟩ := F.ex
  refine fnG_of lk hcd S hlen fun A outer s0 H vs Q E hr hgd h => ?_
  obtain ⟨t, ht, hs⟩ := hb cdv A outer s0 H E hr hgd
  refine ⟨t, ht.nox, ?_⟩
  have hv := hlen vs H Q E h
  obtain ⟨G, ds, M, F, Kd, KX, o, r, h, q, qx⟩ := h
  unfold L2.start
  rw [hv]
  exact hs ds M Kd KX h G _ H F _ (REnv.start _ r) o matchX0 (MatchD.fn q)
end
section
variable {X : Cx} {CX : CXT} {k : Nat} {f C : Addr} {fd : FuncData} {ps ks : List Str} {sp : Sp} {dvs : List V} {ds : List Value} {E : XK} {x m : Str} {p pos apos : Pos} {e o : Expr} {es : List Expr} {ta : TE} {t tk : TA} {kws : List Keyword}
theorem goesG {pins : List (Addr × Obj)} {σ : St} {H : Hp} {s : Shared} {Q : VK} {args : Args} {us : List Value} {vs : List V} (F : FnG X.prog X.w X.K X.mg X.base CX k f fd ps sp) (hr : Room k X.A) (hgd : X.A.guards = some []) (hx : Passes CX X E)
    (I : Inv X pins σ H s) (hb : BindsTo s fd args (ps.zip us)) (r : Vals vs us) (h : sp vs H Q E) : wpAny (model X.prog X.w) X.A (call (.ref f) args.pos args.kw) (EP X pins σ Q) X.xe s := by
  refine wpAny_call (codeAny_mono (F.run X.A X.stack s H args us vs Q E hr hgd I.env0 hb r h) fun z s' hq => ?_)
  cases z with
  | error e => exact hx pins σ H s e s' I hq
  | ok fl =>
    cases fl with
    | ret u => exact I.after hq
    | next => exact hq.elim
    | brk => exact hq.elim
    | cont => exact hq.elim
theorem pe_callG (F : FnG X.prog X.w X.K X.mg X.base CX k f fd ps sp) (hr : Room k X.A) (hgd : X.A.guards = some []) (hg : Gl X x) (hm : X.mg x = some (.ref f)) (hk : PySem.W.keepIn X.K (.ref f) = true) (hb : Binds X.K fd ps ds) (hd : Vals dvs ds) (hx : Passes CX X E)
    (ha : PA X (e :: es) t) (hdb : (x == ("__debug__" : Str)) = false := by decide) (he : starEach (e :: es) X.env = (false, eval e X.env) :: starEach es X.env := by rfl) (hpl : (backTo pos (starEach es X.env)).any (·.1) = false := by rfl) :
    PE X (.Call (.Name x p) (e :: es) [] pos) (tCall sp dvs E t) := ⟨fun pins s σ H Q I h => wpAny_Call_Name_kw (ld_glob I hg hm (PySem.W.callWith_K (h₀ := X.base) I.ok.mod.kin hk (thn (ha.run pos pins s σ H _ I h) fun us s1 ⟨vs, H1, I1, r, q⟩ =>
      ⟨I1.kIn, by
        have r2 : Vals (vs ++ dvs) (us ++ ds) := r.append hd
        exact goesG (args := ⟨us, []⟩) F hr hgd hx I1 (hb s1 us I1.kIn (by rw [← r2.length]; exact F.len _ _ _ _ q)) r2 q⟩) he hpl) hdb)⟩
theorem pe_call0G (F : FnG X.prog X.w X.K X.mg X.base CX k f fd ps sp) (hr : Room k X.A) (hgd : X.A.guards = some []) (hg : Gl X x) (hm : X.mg x = some (.ref f)) (hk : PySem.W.keepIn X.K (.ref f) = true) (hb : Binds X.K fd ps ds) (hd : Vals dvs ds) (hx : Passes CX X E)
    (hdb : (x == ("__debug__" : Str)) = false := by decide) : PE X (.Call (.Name x p) [] [] pos) (tCall sp dvs E tNil) := ⟨fun pins s σ H Q I h => wpAny_Call_Name_kw (ld_glob I hg hm (PySem.W.callWith_K0 I.kIn hk (by
        have r2 : Vals ([] ++ dvs) ([] ++ ds) := Vals.append .nil hd
        exact goesG (args := ⟨[], []⟩) F hr hgd hx I (hb s [] I.kIn (by rw [← r2.length]; exact F.len _ _ _ _ h)) r2 h)) hdb)⟩
end
/-! ### the end -/
/-- an abstract heap in which the script alone is told -/
theorem script_env {P : Program} {w : World} {K : PySem.W.Frag} {mg mb : Str → Option Value} {a : Addr} {s₁ : Shared} {vs : List Value} {ns : List Int}
    (KX : K.In s₁.heap) (hns : s₁.heap.Ns mainGlobals mg) (hb : s₁.heap.Ns builtinsNs mb) (hbb : ∀ x : Str, x ≠ "__name__" → mb x = bootBuiltins x) (hlim : s₁.heap.NoLimit) (hg : s₁.gens = #[])
    (ha : s₁.heap.get? a = some { cls := .type "list", data := .seq vs.toArray }) (hi : PyProof.Rows.IntsAre vs ns) (hl : ns.length ≤ sizeLine) :
    ∃ H : Hp, Only H ∧ SqL K H a (ns.map V.int) ∧ K.In (hidT s₁.heap H) ∧ (hidT s₁.heap H).Ns mainGlobals mg ∧ Env0 P w K mg (hidT s₁.heap H) callerA [] s₁ H ∧
      ∀ (H' : Hp) (s' : Shared), Un (frs []) [] H H' s₁.heap s'.heap → HOk P w H' s'.heap → OldK s₁.heap s'.heap := by
  have rv := vals_ints hi
  have lenV := hi.length
  obtain ⟨H, hO, hS, hok, hA, hK⟩ : ∃ H : Hp, Only H ∧ SqL K H a (ns.map V.int) ∧ HOk P w H s₁.heap ∧ (∀ b, H b ≠ none → b = a) ∧ (H a ≠ none → K.lookup a = none) := by
    cases hk : K.lookup a with
    | some o =>
      obtain rfl : o = _ := Option.some.inj ((KX a o hk).symm.trans ha)
      exact ⟨fun _ => none, fun _ => .inl rfl, .inr ⟨_, vs.toArray, _, hk, rfl, rfl, rfl, by rw [List.size_toArray, lenV]; exact hl, by simpa using rv⟩, fun b u z => (by cases (show (none : Option HO) = some u from z)), fun b z => absurd rfl z, fun z => absurd rfl z⟩
    | none =>
      refine ⟨upd (fun _ => none) a (.frz { cls := .type "list", data := .seq vs.toArray } (.lst (ns.map V.int))), fun b => ?_, .inl (.inr ⟨_, upd_same⟩), fun b u z => ?_, fun b z => ?_, fun _ => rfl⟩
      · by_cases e : b = a
        · exact .inr ⟨_, _, by rw [e]; exact upd_same⟩
        · exact .inl (by rw [upd_ne e])
      · by_cases e : b = a
        · rw [e, upd_same] at z
          cases z
          rw [e]
          exact ⟨ha, by rw [List.length_map]; exact hl, vs, _, rv, ha⟩
        · rw [upd_ne e] at z
          cases z
      · exact Decidable.byContradiction fun e => z (by rw [upd_ne e])
  have old : ∀ {b : Addr} {o : Obj}, s₁.heap.get? b = some o → H b = none → (hidT s₁.heap H).get? b = some o := fun e n => hidT_get e n
  have dct : ∀ {b : Addr} {o : Obj} {es : Array DictEntry} {ep : Nat}, s₁.heap.get? b = some o → o.data = .dict es ep → H b = none := fun {b o es ep} e d => Decidable.byContradiction fun q => by
    rw [hA b q, ha] at e
    cases e
    exact nomatch (show Data.seq vs.toArray _ = Data.dict es ep from d)
  have nsK : ∀ {b : Addr} {m : Str → Option Value}, s₁.heap.Ns b m → (hidT s₁.heap H).Ns b m := fun ⟨o, es, ep, e, d, r⟩ => ⟨o, es, ep, old e (dct e d), d, r⟩
  have hKb : K.In (hidT s₁.heap H) := fun b o e => old (KX b o e) (Decidable.byContradiction fun q => by
    have e2 := hA b q
    rw [e2] at q e
    rw [hK q] at e
    cases e)
  obtain ⟨mc, c1, c2⟩ := hlim
  refine ⟨H, hO, hS, hKb, nsK hns, ⟨rfl, ⟨hKb, nsK hns, ⟨mb, nsK hb, hbb⟩, ⟨mc, nsK c1, c2⟩⟩, fun b o e => of_hidT e, Nat.le_of_eq (hidT_size _ _), trivial, fun b hb => (List.not_mem_nil hb).elim, hok, .of_eq hg⟩, fun H' s' un hok' => OldK.of_keep fun b o e => ?_⟩
  cases q : H b with
  | none => exact un.keep b o e q List.not_mem_nil List.not_mem_nil
  | some u =>
    rcases hO b with z | ⟨ob, xs, z⟩
    · rw [q] at z
      cases z
    · obtain ⟨e1, _⟩ := hok b _ z
      rw [e] at e1
      cases e1
      exact (hok' b _ (un.frzs b _ _ z)).1
theorem walk_ofG {l : PySem.W.OpenLaw} {n k : Nat} {q : Program} {loose : List Str} {XP : (Str → Option Value) → Heap → Prop} {YP : World → Heap → Prop} {d : DefRec} {K : Params → PySem.W.Frag} {CX : World → CXT} {sp : World → Sp} {x : Str}
    (hn : l.most = some n) (hn2 : n ≤ sizeLine) (hdf : d.params.defaults = []) (hr : Room k callerA)
    (hY : ∀ (w : World) (h : Heap), YP w h → (K w.params).In h)
    (F : ∀ (w : World) (mg : Str → Option Value) (fa : Addr) (h : Heap), (K w.params).In h → h.Ns mainGlobals mg → mg d.name = some (.ref fa) →
      ∃ fd : FuncData, (∀ (s : Shared) (u : Value), BindsTo s fd ⟨[u], []⟩ [(x, u)]) ∧
        ∀ base : Heap, (K w.params).In base → base.Ns mainGlobals mg → FnG l.prog w (K w.params) mg base (CX w) k fa fd [x] (sp w))
    (hsp : ∀ (w : World) (H : Hp) (a : Addr) (ns : List Int), ns.length ≤ n → Only H → SqL (K w.params) H a (ns.map V.int) → sp w [.ref a] H (fun v _ => v = .bl true) fun _ _ _ => False)
    (hCX : ∀ (w : World) (H : Hp) (s : Shared) (e : Value) (s' : Shared), CX w [] H s (fun _ _ _ => False) e s' → False) :
    PySem.W.WalkO q loose XP YP l.row.toRowW d [] (fun f vs => PySem.call f vs) := by
  refine Att.attach_call hn hdf fun w s₀ s₁ mg mb fa o pm cd doc a vs ns G Y ho hd hcd hmg hobj hints hlen hg => ?_
  have KX := hY w _ Y
  obtain ⟨fd, hb, hF⟩ := F w mg fa _ KX G.T.g hmg
  obtain ⟨H, hO, hS, b1, b2, e0, fin⟩ := script_env (P := l.prog) (w := w) KX G.T.g G.T.b G.T.builtins G.T.nolimit hg hobj hints (Nat.le_trans hlen hn2)
  refine codeAny_mono ((hF _ b1 b2).run callerA [] s₁ H ⟨[.ref a], []⟩ [.ref a] [.ref a] _ _ hr rfl e0 (hb s₁ (.ref a)) (.cons rfl .nil) (hsp w H a ns hlen hO hS)) fun r s' h => ?_
  cases r with
  | error e => exact (hCX w H s₁ e s' h).elim
  | ok fl =>
    cases fl with
    | next => exact h.elim
    | brk => exact h.elim
    | cont => exact h.elim
    | ret u =>
      obtain ⟨v, H', os, bare, un, hok', r', q⟩ := h
      cases (show v = .bl true from q)
      cases (show u = Value.bool true from r')
      exact ⟨rfl, fin H' s' un hok', os, bare⟩
end PL

/-! PL13: repr of data, list.index, join, keyword calls, calls for which cells are read as data. -/
namespace PL
open PySem PySem.Spec L2
open PyProof.Rows (envOfC)

/-! ### repr -/
def rReprD (K : PySem.W.Frag) : List V → Hp → VK → Prop := fun xs H Q => ∃ a d, xs = [.ref a] ∧ Dp K H (.ref a) d ∧ d.showable = true ∧ d.hasDict = false ∧ d.depth ≤ 40 ∧ d.shown.length ≤ sizeLine ∧ Q (.str d.shown) H
theorem call_reprD {X : Cx} (hgd : X.A.guards = some []) (hu : X.A.units + 64 < cLine) : CallR X (.builtin "repr") (rReprD X.K) := by
  intro pins s σ H xs us Q I r h
  obtain ⟨a, d, rfl, hd, hs, hn, hdp, hsz, q⟩ := h
  rw [Vals.ref1 r]
  obtain ⟨as, rr⟩ := Dp.reads I d _ (.ref a) hd rfl
  exact repr_of_reads' rr hs (PyData.noDict_hsm hn) hgd (by omega) (fun b o e => e) (fun h' u tk hk => ⟨.str d.shown, H, I.kept hk, ⟨u, rfl⟩, q⟩) hsz
theorem call_reprK {X : Cx} {K : PySem.W.Frag} (hgd : X.A.guards = some []) (hu : X.A.units + 64 < cLine) (hK : X.K = K := by rfl) : CallR X (.builtin "repr") (rReprD K) := hK ▸ call_reprD hgd hu
/-- what is shown without trouble -/
structure Shw (d : PyData) : Prop where
  a : d.showable = true
  b : d.hasDict = false
  c : d.depth ≤ 40
  d : d.shown.length ≤ sizeLine
section
variable {W : WD} {ρ : Rho} {M : Cells} {K : D → Cells → Prop} {KE : Rho → Cells → Prop} {ta tb te tc : TE} {P : PD} {Kf : PySem.W.Frag}
theorem cr_reprV {d : D} {ps : List PyData} (hv : LV M d (ps.map D.py)) (h : Shw (.list ps)) (k : K (dS (PyData.shown (.list ps))) M) : CR (rReprD Kf) [d] M K := fun G H F us Q r o q => by
  obtain ⟨v, rfl, rv⟩ := r.one
  obtain ⟨a, vs, rfl, ha, hr⟩ := hv.at rv o
  exact ⟨a, .list ps, rfl, .lst (SqL.of ha) (RpAll.dp (RpAll.mono o.ex (RDs.all hr))), h.a, h.b, h.c, h.d, q _ M _ G H k (Ex.refl G) (Rp.str _) o⟩
theorem cr_repr {ps : List PyData} (h : Shw (.list ps)) (k : K (dS (PyData.shown (.list ps))) M) : CR (rReprD Kf) [dL ps] M K := cr_reprV (.py ps) h k

/-! ### list.index -/
theorem ty_py {ps : List PyData} : ∀ (G H : Hp) (F : Cells) (u : V), RD G u (dL ps) → Own G (M ++ F) H → tyV Kf "list" u H := fun G H F u r o => by
  have r' : Rp G u (.list ps) := r
  cases r' with
  | lst ha hr => exact .inl ⟨rfl, _, .inl (.inl (o.ex _ _ ha))⟩
theorem br_index {ps : List PyData} {p z : PyData} {j : Nat} (f : flatP p = true) (hf : ps.all flatP = true) (hj : ps[j]? = some z) (he : PyData.eqv z p = true) (hl : ∀ m z', m < j → ps[m]? = some z' → PyData.eqv z' p = false) (k : K (dI (j : Int)) M) :
    BR (rIndex Kf) (dL ps) [.py p] M K := fun G H F u us Q r rs o q => by
  obtain ⟨v, rfl, rv⟩ := rs.one
  have r' : Rp G u (.list ps) := r
  cases r' with
  | lst ha hr =>
    obtain ⟨w, hw, rw'⟩ := hr.get hj
    have fz : flatP z = true := List.all_eq_true.mp hf z (List.mem_of_getElem? hj)
    refine ⟨_, _, v, j, w, rfl, rfl, SqL.of (o.ex _ _ ha), flat_rp rv f, flat_all hr hf, hw, by rw [eqV_rp rw' rv fz f]; exact he, fun m z' hm hz => ?_, q _ M _ G H k (Ex.refl G) (Rp.int _) o⟩
    obtain ⟨d, hd, rd⟩ := hr.getV hz
    rw [eqV_rp rd rv (List.all_eq_true.mp hf d (List.mem_of_getElem? hd)) f]
    exact hl m d hm hd

/-! ### join -/
theorem se_m1 {r : V → List V → Hp → VK → Prop} {to : TE} (h : SE W to ρ M fun x M1 => ∃ a, x = dS a ∧ SE W te ρ M1 fun y M2 => BR r (dS a) [y] M2 K) : SE W (tM1 r to te) ρ M K := fun G σ H F Q re o mx q =>
  h G σ H F _ re o mx fun x M1 u G1 H1 ⟨a, ex, k⟩ e1 r1 o1 => by
    subst ex
    cases str_of r1
    refine ⟨⟨a, rfl⟩, k G1 σ H1 F _ (re.mono e1) o1 (mx.mono e1) fun y M2 v G2 H2 k2 e2 r2 o2 => ?_⟩
    exact k2 G2 H2 F _ [v] Q (Rp.str _) (.cons r2 .nil) o2 (Fin.mono q (e1.trans e2))
theorem se_m0 {r : V → List V → Hp → VK → Prop} {to : TE} (h : SE W to ρ M fun x M1 => ∃ a, x = dS a ∧ BR r (dS a) [] M1 K) : SE W (tM0 r to) ρ M K := fun G σ H F Q re o mx q =>
  h G σ H F _ re o mx fun x M1 u G1 H1 ⟨a, ex, k⟩ e1 r1 o1 => by
    subst ex
    cases str_of r1
    exact ⟨⟨a, rfl⟩, k G1 H1 F _ [] Q (Rp.str _) .nil o1 (Fin.mono q e1)⟩
abbrev rJoin (K : PySem.W.Frag) : V → List V → Hp → VK → Prop := fun x xs H Q => ∃ a p, ∃ ys : List Str, x = .str a ∧ xs = [.ref p] ∧ (SqL K H p (ys.map V.str) ∨ SqT K H p (ys.map V.str)) ∧
      (ys.map (·.length)).sum + ys.length * a.length ≤ 16777216 ∧ Q (.str (Txt.join a ys)) H
theorem pe_joinK {X : Cx} {Kf : PySem.W.Frag} {o e : Expr} {to te : TE} {apos pos : Pos} (ho : PE X o to) (he : PE X e te) (hK : X.K = Kf := by rfl) (hs : starEach [e] X.env = [(false, eval e X.env)] := by rfl) (hbase : attributeBase o "join" X.env (eval o X.env) = eval o X.env := by rfl) (hline : (apos.endLine == pos.line) = true := by rfl) :
    PE X (.Call (.Attribute o "join" apos) [e] [] pos) (tM1 (rJoin Kf) to te) := hK ▸ pe_join ho he hs hbase hline
theorem br_join {a : Str} {ys : List Str} {d : D} (hv : LV M d ((ys.map PyData.str).map D.py)) (hl : (ys.map (·.length)).sum + ys.length * a.length ≤ 1000000) (k : K (dS (Txt.join a ys)) M) : BR (rJoin Kf) (dS a) [d] M K := fun G H F u us Q r rs o q => by
  obtain ⟨v, rfl, rv⟩ := rs.one
  obtain ⟨p, vs, rfl, hp, hr⟩ := hv.at rv o
  cases str_of r
  have := RpAll.strs (RDs.all hr)
  subst this
  exact ⟨a, p, ys, rfl, rfl, .inl (SqL.of hp), by omega, q _ M _ G H k (Ex.refl G) (Rp.str _) o⟩

/-! ### calls by keywords -/
/-- p values by places, q by keywords, put in the order that the places idx tell -/
def gP {α : Type} (p q : Nat) (idx : List Nat) (us ws : List α) : List α := if us.length = p ∧ ws.length = q then idx.filterMap ((us ++ ws)[·]?) else []
theorem all2_at {α β : Type} {R : α → β → Prop} : ∀ {as : List α} {bs : List β}, All2 R as bs → ∀ idx : List Nat, All2 R (idx.filterMap (as[·]?)) (idx.filterMap (bs[·]?))
  | _, _, _, [] => .nil
  | as, bs, h, i :: idx => by
    have ih := all2_at h idx
    by_cases hi : i < bs.length
    · have hi' : i < as.length := by rw [h.length]; exact hi
      obtain ⟨a, ha, hr⟩ := h.get (i := i) (b := bs[i]) (by simp [hi])
      rw [List.filterMap_cons_some (f := (as[·]?)) ha, List.filterMap_cons_some (f := (bs[·]?)) (b := bs[i]) (by simp [hi])]
      exact .cons hr ih
    · have hi' : ¬ i < as.length := by rw [h.length]; exact hi
      rw [List.filterMap_cons_none (f := (as[·]?)) (by simp; omega), List.filterMap_cons_none (f := (bs[·]?)) (by simp; omega)]
      exact ih
theorem all2_gP {α β : Type} {R : α → β → Prop} {p q : Nat} {idx : List Nat} {as as' : List α} {bs bs' : List β} (h : All2 R as bs) (h' : All2 R as' bs') : All2 R (gP p q idx as as') (gP p q idx bs bs') := by
  unfold gP
  rw [h.length, h'.length]
  split
  · exact all2_at (h.append h') idx
  · exact .nil
theorem vals_all2 {xs : List V} {us : List Value} (h : Vals xs us) : All2 RelV xs us := by
  induction h with
  | nil => exact .nil
  | cons a b ih => exact .cons a ih
theorem all2_vals {xs : List V} {us : List Value} (h : All2 RelV xs us) : Vals xs us := by
  induction h with
  | nil => exact .nil
  | cons a b ih => exact .cons a ih
theorem kb_mk {K : PySem.W.Frag} {fd : FuncData} {ps ks : List Str} {p : Nat} {idx : List Nat} (hps : ps ≠ []) (h : ∀ us ws : List Value, us.length = p → ws.length = ks.length → bindArgs fd ⟨us, ks.zip ws⟩ = pure (ps.zip (gP p ks.length idx us ws))) :
    KBinds K fd ps ks (gP p ks.length idx) (gP p ks.length idx) where
  to := fun s us ws _ hl => by
    by_cases e : us.length = p ∧ ws.length = ks.length
    · exact .of_eq (h us ws e.1 e.2)
    · unfold gP at hl
      rw [if_neg e] at hl
      exact absurd (List.length_eq_zero_iff.mp hl.symm) hps
  rel := fun r r' => all2_vals (all2_gP (vals_all2 r) (vals_all2 r'))
/-- f(k = v, ..), no argument by its place -/
theorem pe_callKw {X : Cx} {CX : CXT} {k : Nat} {f : Addr} {fd : FuncData} {ps ks : List Str} {sp : Sp} {E : XK} {x : Str} {p pos : Pos} {kws : List Keyword} {tk : TA} {g : List Value → List Value → List Value} {gV : List V → List V → List V}
    (F : FnOk X.prog X.w X.K X.mg X.base CX k f fd ps sp) (hr : Room k X.A) (hg : Gl X x) (hm : X.mg x = some (.ref f)) (hk : PySem.W.keepIn X.K (.ref f) = true) (hb : KBinds X.K fd ps ks g gV) (hx : Passes CX X E)
    (hkw : PK X kws tk) (hall : (backToKw pos (keywordEach kws X.env)).all (·.1.isSome) = true := by rfl) (hks : (backToKw pos (keywordEach kws X.env)).filterMap (·.1) = ks := by rfl)
    (hdb : (x == ("__debug__" : Str)) = false := by decide) (hpl : ((backTo pos (starEach [] X.env)).any (·.1) || (backToKw pos (keywordEach kws X.env)).any (·.1.isNone)) = false := by rfl) :
    PE X (.Call (.Name x p) [] kws pos) (tCallK sp gV E tNil tk) := ⟨fun pins s σ H Q I h => wpAny_Call_Name_kw (ld_glob I hg hm (PySem.W.callWith_KW0 (h₀ := X.base) I.ok.mod.kin hk hall (thn (hkw.run pos pins s σ H _ I h) fun ws s2 ⟨zs, H2, I2, rz, q2⟩ => ⟨I2.kIn, by
      rw [hks]
      exact run_fnk (us := []) F hr hb hx I2 .nil rz q2⟩) hpl) hdb)⟩
theorem se_callK (n : Nat) {s : DSp} {p q : Nat} {idx : List Nat} {t tk : TA} (h : SA W0 t ρ M fun ds M1 => SA W0 tk ρ M1 fun es M2 => s (gP p q idx ds es) (M2.take n) (fun d M' => K d (M' ++ M2.drop n)) fun _ _ => False) :
    SE W0 (tCallK (spD s) (gP p q idx) E0 t tk) ρ M K := fun G σ H F Q re o mx qq =>
  h G σ H F _ re o mx fun ds M1 vs G1 H1 k1 e1 r1 o1 => k1 G1 σ H1 F _ (re.mono e1) o1 (mx.mono e1) fun es M2 ws G2 H2 k2 e2 r2 o2 => by
    show spD s _ H2 Q E0
    rw [take_drop_app M2 F n] at o2
    refine ⟨G2, _, M2.take n, M2.drop n ++ F, _, _, o2, all2_gP (RDs.mono e2 r1) r2, k2, fun d M' v G' H' k e r o' => ?_, fun _ _ _ _ _ k => k.elim⟩
    rw [← List.append_assoc] at o'
    exact qq d _ v G' H' k ((e1.trans e2).trans e) r o'
end
/-- the same, what is shown known -/
theorem pe_callKG {X : Cx} {CX : CXT} {k : Nat} {f : Addr} {fd : FuncData} {ps ks : List Str} {sp : Sp} {E : XK} {x : Str} {p pos : Pos} {kws : List Keyword} {tk : TA} {g : List Value → List Value → List Value} {gV : List V → List V → List V}
    (F : FnG X.prog X.w X.K X.mg X.base CX k f fd ps sp) (hr : Room k X.A) (hgd : X.A.guards = some []) (hg : Gl X x) (hm : X.mg x = some (.ref f)) (hk : PySem.W.keepIn X.K (.ref f) = true) (hb : KBinds X.K fd ps ks g gV) (hx : Passes CX X E)
    (hkw : PK X kws tk) (hall : (backToKw pos (keywordEach kws X.env)).all (·.1.isSome) = true := by rfl) (hks : (backToKw pos (keywordEach kws X.env)).filterMap (·.1) = ks := by rfl)
    (hdb : (x == ("__debug__" : Str)) = false := by decide) (hpl : ((backTo pos (starEach [] X.env)).any (·.1) || (backToKw pos (keywordEach kws X.env)).any (·.1.isNone)) = false := by rfl) :
    PE X (.Call (.Name x p) [] kws pos) (tCallK sp gV E tNil tk) := ⟨fun pins s σ H Q I h => wpAny_Call_Name_kw (ld_glob I hg hm (PySem.W.callWith_KW0 (h₀ := X.base) I.ok.mod.kin hk hall (thn (hkw.run pos pins s σ H _ I h) fun ws s2 ⟨zs, H2, I2, rz, q2⟩ => ⟨I2.kIn, by
      rw [hks]
      have r2 := hb.rel .nil rz
      exact goesG (args := ⟨[], _⟩) F hr hgd hx I2 (hb.to s2 [] ws I2.kIn (by rw [← r2.length]; exact F.len _ _ _ _ q2)) r2 q2⟩) hpl) hdb)⟩

/-! ### cells read as data while a call lasts -/
mutual
def flatT : PyData → Bool
  | .tuple xs => flatTs xs
  | .list _ => false
  | .dict _ => false
  | _ => true
def flatTs : List PyData → Bool
  | [] => true
  | x :: xs => flatT x && flatTs xs
end
def flatD : D → Bool
  | .py p => flatT p
  | .raw _ => true
  | _ => false
def flatC : Cell → Bool
  | .lst ds => ds.all flatD
  | .ins _ fs => fs.all fun q => flatD q.2
  | .dK kvs => kvs.all fun q => flatD q.2
  | .dT kvs => kvs.all fun q => flatD q.2
/-- tuples stay -/
def TupEx (G G' : Hp) : Prop := ∀ a xs, G a = some (.tup xs) → G' a = some (.tup xs)
mutual
theorem Rp.flat {G G' : Hp} (e : TupEx G G') : ∀ {v : V} {d : PyData}, Rp G v d → flatT d = true → Rp G' v d
  | _, _, .non, _ => .non
  | _, _, .bl b, _ => .bl b
  | _, _, .int i, _ => .int i
  | _, _, .str x, _ => .str x
  | _, _, .lst h r, f => by simp [flatT] at f
  | _, _, .tup h r, f => .tup (e _ _ h) (RpAll.flat e r (by simpa [flatT] using f))
theorem RpAll.flat {G G' : Hp} (e : TupEx G G') : ∀ {vs : List V} {ds : List PyData}, RpAll G vs ds → flatTs ds = true → RpAll G' vs ds
  | _, _, .nil, _ => .nil
  | _, _, .cons h r, f => .cons (Rp.flat e h (by simp only [flatTs, Bool.and_eq_true] at f; exact f.1)) (RpAll.flat e r (by simp only [flatTs, Bool.and_eq_true] at f; exact f.2))
end
theorem RD.flat {G G' : Hp} (e : TupEx G G') {v : V} {d : D} (h : RD G v d) (f : flatD d = true) : RD G' v d := by
  cases d with
  | py p => exact Rp.flat e h f
  | raw w => exact h
  | sq K xs => cases f
  | sqt K xs => cases f
  | st P w S => cases f
  | ho o => cases f
theorem all2_flat {α β : Type} {R S : α → β → Prop} {p : β → Bool} (h : ∀ a b, p b = true → R a b → S a b) : ∀ {as : List α} {bs : List β}, All2 R as bs → bs.all p = true → All2 S as bs
  | _, _, .nil, _ => .nil
  | _, _, .cons a r, f => by
    simp only [List.all_cons, Bool.and_eq_true] at f
    exact .cons (h _ _ f.1 a) (all2_flat h r f.2)
theorem CellR.flat {G G' H : Hp} (e : TupEx G G') {a : Addr} {c : Cell} (h : CellR G H a c) (f : flatC c = true) : CellR G' H a c := by
  cases c with
  | lst _ => obtain ⟨vs, q, r⟩ := h; exact ⟨vs, q, all2_flat (p := flatD) (fun _ _ f r => RD.flat e r f) r f⟩
  | ins _ _ => obtain ⟨dx, vs, q, r⟩ := h; exact ⟨dx, vs, q, all2_flat (p := fun q : Str × D => flatD q.2) (fun _ _ f z => ⟨z.1, RD.flat e z.2 f⟩) r f⟩
  | dK _ => obtain ⟨vs, q, r⟩ := h; exact ⟨vs, q, all2_flat (p := fun q : Key × D => flatD q.2) (fun _ _ f z => ⟨z.1, RD.flat e z.2 f⟩) r f⟩
  | dT _ => obtain ⟨vs, q, r⟩ := h; exact ⟨vs, q, all2_flat (p := fun q : List Int × D => flatD q.2) (fun _ _ f z => ⟨z.1, RD.flat e z.2 f⟩) r f⟩
/-- ds' is ds, some cells of R told as data -/
def AsData (R : Cells) : List D → List D → Prop := All2 fun d d' => d' = d ∨ ∃ a ps, (a, Cell.lst (ps.map D.py)) ∈ R ∧ d = dR a ∧ d' = dL ps
theorem asd_nil {R : Cells} : AsData R [] [] := .nil
theorem asd_same {R : Cells} {d : D} {ds ds' : List D} (h : AsData R ds ds') : AsData R (d :: ds) (d :: ds') := .cons (.inl rfl) h
theorem asd_cell {R : Cells} (i : Nat) {a : Addr} {ps : List PyData} {ds ds' : List D} (hc : R[i]? = some (a, .lst (ps.map D.py))) (h : AsData R ds ds') : AsData R (dR a :: ds) (dL ps :: ds') := .cons (.inr ⟨a, ps, List.mem_of_getElem? hc, rfl, rfl⟩) h
open Classical in
theorem se_callF {W : WD} {ρ : Rho} {M : Cells} {K : D → Cells → Prop} (n : Nat) {s : DSp} {E : XK} {ta : TA} (h : SA W ta ρ M fun ds M1 => ∃ ds', AsData (M1.drop n) ds ds' ∧ s ds' (M1.take n) (fun d M' => flatD d = true ∧ (∀ c ∈ M', flatC c.2 = true) ∧ K d (M' ++ M1.drop n)) fun _ _ => False) :
    SE W (tCall (spD s) [] E ta) ρ M K := fun G σ H F Q re o mx q =>
  h G σ H F _ re o mx fun ds M1 vs G1 H1 ⟨ds', hd, k1⟩ e1 r1 o1 => by
    show spD s (vs ++ []) H1 Q E
    rw [List.append_nil]
    rw [take_drop_app M1 F n] at o1
    obtain ⟨R, hR⟩ : ∃ R, M1.drop n ++ F = R := ⟨_, rfl⟩
    rw [hR] at o1
    let Gc : Hp := fun x => if x ∈ R.map (·.1) then H1 x else G1 x
    have hfr : ∀ x, x ∈ R.map (·.1) → G1 x = none := fun x hx => by
      obtain ⟨c, hc, rfl⟩ := List.mem_map.mp hx
      exact o1.fr c (List.mem_append_right _ hc)
    have nd := o1.nd
    rw [List.map_append, List.nodup_append] at nd
    have eG : Ex G1 Gc := fun x u hx => by
      have : x ∉ R.map (·.1) := fun z => by rw [hfr x z] at hx; cases hx
      show (if x ∈ R.map (·.1) then H1 x else G1 x) = _
      rw [if_neg this]
      exact hx
    have eH : Ex Gc H1 := fun x u hx => by
      by_cases z : x ∈ R.map (·.1)
      · rw [show Gc x = H1 x from if_pos z] at hx
        exact hx
      · rw [show Gc x = G1 x from if_neg z] at hx
        exact o1.ex x u hx
    have oc : Own Gc (M1.take n ++ []) H1 := by
      rw [List.append_nil]
      refine ⟨eH, nd.1, fun p hp => ?_, fun p hp => (o1.ok p (List.mem_append_left _ hp)).mono eG rfl⟩
      have : p.1 ∉ R.map (·.1) := fun z => nd.2.2 p.1 (List.mem_map_of_mem hp) p.1 z rfl
      rw [show Gc p.1 = G1 p.1 from if_neg this]
      exact o1.fr p (List.mem_append_left _ hp)
    have rc : RDs Gc vs ds' := by
      have key : ∀ {vs : List V} {ds ds' : List D}, RDs G1 vs ds → AsData (M1.drop n) ds ds' → RDs Gc vs ds' := by
        intro vs ds ds' r
        induction r generalizing ds' with
        | nil =>
          intro hd
          cases hd
          exact .nil
        | cons a r ih =>
          intro hd
          cases hd with
          | cons b hd =>
            refine .cons ?_ (ih hd)
            rcases b with rfl | ⟨x, ps, hm, rfl, rfl⟩
            · exact a.mono eG
            · cases a
              have hm' : (x, Cell.lst (ps.map D.py)) ∈ R := by
                rw [← hR]
                exact List.mem_append_left _ hm
              obtain ⟨us, hu, ru⟩ := o1.ok _ (List.mem_append_right _ hm')
              refine Rp.lst (xs := us) ?_ ((RDs.all ru).mono eG)
              rw [show Gc x = H1 x from if_pos (List.mem_map_of_mem (f := (·.1)) hm')]
              exact hu
      exact key r1 hd
    refine ⟨Gc, ds', M1.take n, [], _, _, oc, rc, k1, fun d M' v G' H' ⟨fd, fc, k⟩ e r o' => ?_, fun _ _ _ _ _ k => k.elim⟩
    rw [List.append_nil] at o'
    let G2 : Hp := fun x => if x ∈ R.map (·.1) then none else G' x
    have e2 : Ex G1 G2 := fun x u hx => by
      have : x ∉ R.map (·.1) := fun z => by rw [hfr x z] at hx; cases hx
      show (if x ∈ R.map (·.1) then none else G' x) = _
      rw [if_neg this]
      exact e x u (eG x u hx)
    have known : ∀ c ∈ R, ∃ u, H1 c.1 = some u ∧ Gc c.1 = some u := fun c hc => by
      obtain ⟨u, hu⟩ := (o1.ok c (List.mem_append_right _ hc)).known
      exact ⟨u, hu, by rw [show Gc c.1 = H1 c.1 from if_pos (List.mem_map_of_mem hc)]; exact hu⟩
    have tx : TupEx G' G2 := fun a xs ha => by
      have : a ∉ R.map (·.1) := fun z => by
        obtain ⟨c, hc, rfl⟩ := List.mem_map.mp z
        obtain ⟨u, h1, h2⟩ := known c hc
        have h3 := e _ _ h2
        rw [ha] at h3
        cases h3
        have := o1.ok c (List.mem_append_right _ hc)
        obtain ⟨x, cc⟩ := c
        cases cc with
        | lst _ => obtain ⟨_, q, _⟩ := this; rw [h1] at q; cases q
        | ins _ _ => obtain ⟨_, _, q, _⟩ := this; rw [h1] at q; cases q
        | dK _ => obtain ⟨_, q, _⟩ := this; rw [h1] at q; cases q
        | dT _ => obtain ⟨_, q, _⟩ := this; rw [h1] at q; cases q
      show (if a ∈ R.map (·.1) then none else G' a) = _
      rw [if_neg this]
      exact ha
    have o2 : Own G2 (M' ++ R) H' := by
      refine ⟨fun x u hx => ?_, ?_, fun p hp => ?_, fun p hp => ?_⟩
      · by_cases z : x ∈ R.map (·.1)
        · rw [show G2 x = none from if_pos z] at hx
          cases hx
        · rw [show G2 x = G' x from if_neg z] at hx
          exact o'.ex x u hx
      · rw [List.map_append, List.nodup_append]
        refine ⟨o'.nd, nd.2.1, fun a ha b hb eab => ?_⟩
        subst eab
        obtain ⟨c, hc, rfl⟩ := List.mem_map.mp hb
        obtain ⟨u, _, h2⟩ := known c hc
        obtain ⟨c', hc', ec⟩ := List.mem_map.mp ha
        have := o'.fr c' hc'
        rw [ec, e _ _ h2] at this
        cases this
      · by_cases z : p.1 ∈ R.map (·.1)
        · exact if_pos z
        · rcases List.mem_append.mp hp with hp | hp
          · rw [show G2 p.1 = G' p.1 from if_neg z]
            exact o'.fr p hp
          · exact absurd (List.mem_map_of_mem hp) z
      · rcases List.mem_append.mp hp with hp | hp
        · exact (o'.ok p hp).flat tx (fc p hp)
        · obtain ⟨u, h1, h2⟩ := known p hp
          exact (o1.ok p (List.mem_append_right _ hp)).mono e2 (by rw [h1]; exact o'.ex _ _ (e _ _ h2))
    rw [← hR, ← List.append_assoc] at o2
    exact q d _ v G2 H' k (e1.trans e2) (r.flat tx fd) o2
end PL

/-! PL14: cells that hold data: short rules. -/
namespace PL
open PySem PySem.Spec L2
abbrev Cl (ps : List PyData) : Cell := .lst (ps.map D.py)
theorem atI_nn {α : Type} {xs : List α} {i : Int} {x : α} (h0 : 0 ≤ i) (h : xs[i.toNat]? = some x) : atI xs i = some x := by
  have hlt := (List.getElem?_eq_some_iff.mp h).1
  unfold atI ixN
  rw [if_pos h0, if_pos (by omega)]
  exact h
theorem ixN_nn {n : Nat} {k : Int} (h0 : 0 ≤ k) (h : k.toNat < n) : ixN n k = some k.toNat := by
  unfold ixN
  rw [if_pos h0, if_pos (by omega)]
theorem ixN_last {n : Nat} (h : 0 < n) : ixN n (-1) = some (n - 1) := by
  unfold ixN
  rw [if_neg (by decide), if_pos (by omega)]
  congr 1
  omega
theorem atI_last {α : Type} {xs : List α} {x : α} (h : xs.getLast? = some x) : atI xs (-1) = some x := by
  rw [List.getLast?_eq_getElem?] at h
  have hlt := (List.getElem?_eq_some_iff.mp h).1
  unfold atI
  rw [ixN_last (by omega)]
  exact h
theorem cutP_tail {α : Type} (xs : List α) : cutP xs (some 1) none = xs.tail := by rw [cutP_from (by decide)]; cases xs <;> rfl
theorem cutP_m1 {α : Type} (xs : List α) : cutP xs none (some (-1)) = xs.dropLast := by
  unfold cutP
  have e : HT.sIx xs.length xs.length (some (-1)) = xs.length - 1 := by
    unfold HT.sIx
    simp
    omega
  have e0 : HT.sIx xs.length 0 none = 0 := rfl
  rw [e, e0, List.drop_zero, Nat.sub_zero, List.dropLast_eq_take]
section
variable {W : WD} {ρ : Rho} {M : Cells} {K : D → Cells → Prop} {KT : Bool → Cells → Prop} {KA : List D → Cells → Prop} {KE : Rho → Cells → Prop} {ta tb te tc to ti : TE} {t u : TT} {P : PD} {Kf : PySem.W.Frag} {g : TG} {α β : Type}

/-! ### items -/
theorem or_ixP (f : α → PyData) {xs : List α} {i : Int} {x : α} (h0 : 0 ≤ i) (hx : xs[i.toNat]? = some x) (k : K (.py (f x)) M) : OR (rIx Kf) (dL (xs.map f)) (dI i) M K := or_ix (by rw [PL.atI_map, atI_nn h0 hx]; rfl) k
theorem or_ixE (f : α → PyData) {xs : List α} {x : α} (hx : xs.getLast? = some x) (k : K (.py (f x)) M) : OR (rIx Kf) (dL (xs.map f)) (dI (-1)) M K := or_ix (by rw [PL.atI_map, atI_last hx]; rfl) k
theorem or_ixPC (j : Nat) {a : Addr} {ps : List PyData} {p : PyData} {i : Int} (hc : CA M j a (Cl ps)) (h0 : 0 ≤ i) (hx : ps[i.toNat]? = some p) (k : K (.py p) M) : OR (rIx Kf) (dR a) (dI i) M K := or_ixC j hc (by rw [PL.atI_map, atI_nn h0 hx]; rfl) k
theorem or_ixEC (j : Nat) {a : Addr} {ps : List PyData} {p : PyData} (hc : CA M j a (Cl ps)) (hx : ps.getLast? = some p) (k : K (.py p) M) : OR (rIx Kf) (dR a) (dI (-1)) M K := or_ixC j hc (by rw [PL.atI_map, atI_last hx]; rfl) k
theorem cr_lenP (j : Nat) {a : Addr} {ps : List PyData} (hc : CA M j a (Cl ps)) (k : K (dI ps.length) M) : CR (rLenA Kf) [dR a] M K := cr_lenC j hc (by rw [List.length_map]; exact k)
theorem cl_app (ps : List PyData) (q : PyData) : Cell.lst (ps.map D.py ++ [.py q]) = Cl (ps ++ [q]) := by unfold Cl; rw [List.map_append]; rfl
theorem cl_set (ps : List PyData) (i : Nat) (q : PyData) : Cell.lst ((ps.map D.py).set i (.py q)) = Cl (ps.set i q) := by unfold Cl; rw [List.map_set]
/-- found.append(e) -/
theorem ss_appP (j : Nat) {i : Nat} {p : Addr} {ta' : TE} (hi : ρ[i]? = some (some (dR p))) (hc0 : ∃ ds, CA M j p (.lst ds))
    (h : SE W ta' ρ M fun d M1 => ∃ ps q, d = .py q ∧ CA M1 j p (Cl ps) ∧ ps.length ≤ 1000000 ∧ P.nx ρ (M1.set j (p, Cl (ps ++ [q])))) :
    SS W (tDrop (tBM Kf "list" rAppend (tVar i) (tCons ta' tNil))) ρ M P :=
  ss_append j hi (h.imp fun d M1 ⟨ps, q, e, hc, hl, k⟩ => by
    subst e
    exact ⟨ps.map D.py, hc, by rw [List.length_map]; exact hl, by rw [cl_app]; exact k⟩) hc0
/-- xs[k] = e -/
theorem sg_setP {d : D} (h : SE W to ρ M fun x M1 => SE W ti ρ M1 fun y M2 => ∃ i p ps k q, x = dR p ∧ y = dI k ∧ d = .py q ∧ CA M2 i p (Cl ps) ∧ 0 ≤ k ∧ k.toNat < ps.length ∧ KE ρ (M2.set i (p, Cl (ps.set k.toNat q)))) :
    SG W (gSub to ti rSetL) d ρ M KE :=
  sg_setL (h.imp fun x M1 k0 => k0.imp fun y M2 ⟨i, p, ps, k, q, e1, e2, e3, hc, h0, hl, kk⟩ => by
    subst e3
    exact ⟨i, p, ps.map D.py, k, k.toNat, e1, e2, hc, ixN_nn h0 (by rw [List.length_map]; exact hl), by rw [cl_set]; exact kk⟩)
/-- xs[k] op= e -/
theorem ss_augP {f : Int → Int → Int} (h : SE W to ρ M fun x M1 => SE W ti ρ M1 fun y M2 => ∃ (i : Nat) (p : Addr) (ns : List Int) (k a : Int), x = dR p ∧ y = dI k ∧ CA M2 i p (Cl (ns.map PyData.int)) ∧ 0 ≤ k ∧ ns[k.toNat]? = some a ∧ SE W te ρ M2 fun d M3 => IsI d fun b => M3 = M2 ∧ P.nx ρ (M2.set i (p, Cl ((ns.set k.toNat (f a b)).map PyData.int)))) :
    SS W (tAugS to ti te rGetL (ipI f) rSetL) ρ M P :=
  ss_augL (h.imp fun x M1 k0 => k0.imp fun y M2 ⟨i, p, ns, k, a, e1, e2, hc, h0, ha, kk⟩ => by
    have hlt := (List.getElem?_eq_some_iff.mp ha).1
    refine ⟨i, p, _, k, a, e1, e2, hc, h0, by rw [PL.atI_map, PL.atI_map, atI_nn h0 ha]; rfl, kk.imp fun d M3 ⟨b, eb, e3, k3⟩ => ⟨b, eb, (ns.map PyData.int).map D.py, k.toNat, by rw [e3]; exact hc, ixN_nn h0 (by rw [List.length_map, List.length_map]; exact hlt), ?_⟩⟩
    rw [e3, show ((ns.map PyData.int).map D.py).set k.toNat (dI (f a b)) = ((ns.set k.toNat (f a b)).map PyData.int).map D.py by rw [List.map_set, List.map_set]]
    exact k3)

/-! ### built-in functions over lists, whose kind ever -/
theorem cr_allL {d : D} {bs : List Bool} (hv : LV M d ((bs.map PyData.bool).map D.py)) (k : K (dB (bs.all id)) M) : CR (rAll Kf) [d] M K := fun G H F us Q r o q => by
  obtain ⟨v, rfl, rv⟩ := r.one
  obtain ⟨a, vs, rfl, ha, hr⟩ := hv.at rv o
  have := RpAll.bools (RDs.all hr)
  subst this
  exact ⟨a, bs, rfl, SqL.of ha, q _ M _ G H k (Ex.refl G) (Rp.bl _) o⟩
/-- sorted(ints): rising, the same numbers -/
theorem cr_sortedC {d : D} {ns : List Int} (hv : LV M d ((ns.map PyData.int).map D.py)) (k : ∀ (ns' : List Int) (p : Addr), ns'.Perm ns → ns'.Pairwise (· ≤ ·) → K (dR p) (M ++ [(p, Cl (ns'.map PyData.int))])) : CR (rSortedI Kf) [d] M K := fun G H F us Q r o q => by
  obtain ⟨v, rfl, rv⟩ := r.one
  obtain ⟨a, vs, rfl, ha, hr⟩ := hv.at rv o
  have := RpAll.ints (RDs.all hr)
  subst this
  refine ⟨a, ns, rfl, SqL.of ha, fun ns' p h1 h2 hp => q (dR p) (M ++ [(p, Cl (ns'.map PyData.int))]) _ G _ (k ns' p h1 h2) (Ex.refl G) rfl (o.cell hp ⟨_, upd_same, RDs.of (RpAll.ofInts ns')⟩)⟩
/-- list(xs), a copy -/
theorem cr_listC {d : D} {ds : List D} (hv : LV M d ds) (k : ∀ p, K (dR p) (M ++ [(p, .lst ds)])) : CR (rListOf Kf) [d] M K := fun G H F us Q r o q => by
  obtain ⟨v, rfl, rv⟩ := r.one
  obtain ⟨a, vs, rfl, ha, hr⟩ := hv.at rv o
  exact ⟨a, vs, rfl, .inl (SqL.of ha), fun p hp => q (dR p) _ _ G _ (k p) (Ex.refl G) rfl (o.cell hp ⟨_, upd_same, hr⟩)⟩
theorem cr_listD {d : D} {ps : List PyData} (hv : LV M d (ps.map D.py)) (k : K (dL ps) M) : CR (rListOf Kf) [d] M K := fun G H F us Q r o q => by
  obtain ⟨v, rfl, rv⟩ := r.one
  obtain ⟨a, vs, rfl, ha, hr⟩ := hv.at rv o
  refine ⟨a, vs, rfl, .inl (SqL.of ha), fun p hp => ?_⟩
  obtain ⟨G', e, rd, o'⟩ := new_lst o hp (RDs.all hr)
  exact q (dL ps) M _ G' _ k e rd o'
/-- [..] * n, a list of one's own -/
theorem or_repC {d : D} {ps : List PyData} {k : Int} (hv : LV M d (ps.map D.py)) (h1 : -1000000 ≤ k) (h2 : k ≤ 1000000) (h3 : ps.length * k.toNat ≤ 1000000) (kk : ∀ p, K (dR p) (M ++ [(p, Cl (List.replicate k.toNat ps).flatten)])) : OR rMulA d (dI k) M K :=
  fun G H F u v Q r1 r2 o q => by
  cases int_of r2
  obtain ⟨a, vs, rfl, ha, hr⟩ := hv.at r1 o
  have r' := RDs.all hr
  exact .inr (.inr ⟨a, k, vs, rfl, rfl, ha, by omega, by omega, by rw [r'.length]; exact big_ok h3, fun p hp => q (dR p) _ _ G _ (kk p) (Ex.refl G) rfl (o.cell hp ⟨_, upd_same, RDs.of (rpAll_rep r' k.toNat)⟩)⟩)

/-! ### a cell that from now on stays as it is -/
theorem ss_frz (j i : Nat) {tt : TS} {p : Addr} {ps : List PyData} (hi : ρ[i]? = some (some (dR p))) (hj : M[j]? = some (p, Cl ps)) (h : SS W tt (ρ.set i (some (dL ps))) (M.eraseIdx j) P) : SS W tt ρ M P := fun G σ H F D re o mx md => by
  have hm : (p, Cl ps) ∈ M ++ F := List.mem_append_left _ (List.mem_of_getElem? hj)
  have hsub : List.Sublist (M.eraseIdx j ++ F) (M ++ F) := List.Sublist.append (List.eraseIdx_sublist M j) (List.Sublist.refl F)
  have hne : ∀ q ∈ M.eraseIdx j ++ F, q.1 ≠ p := by
    intro q hq e
    have hlt := (List.getElem?_eq_some_iff.mp hj).1
    have hs : M = M.take j ++ (p, Cl ps) :: M.drop (j + 1) := split_at hj
    have nd := o.nd
    rw [hs, List.append_assoc, List.cons_append, List.map_append, List.map_cons] at nd
    have hq' : q ∈ M.take j ∨ q ∈ M.drop (j + 1) ++ F := by
      rw [List.eraseIdx_eq_take_drop_succ, List.append_assoc] at hq
      exact List.mem_append.mp hq
    rw [List.nodup_append] at nd
    rcases hq' with z | z
    · exact nd.2.2 q.1 (List.mem_map_of_mem z) p List.mem_cons_self e
    · have := (List.nodup_cons.mp nd.2.1).1
      exact this (e ▸ List.mem_map_of_mem (f := (·.1)) z)
  obtain ⟨G', e, o', r'⟩ := o.freeze hm hsub hne
  obtain ⟨v, hv, rv⟩ := re.get hi
  cases rv
  have re2 := (re.mono e).set (v := .ref p) (d := dL ps) r' i
  rw [show σ.set i (some (.ref p)) = σ from by
    apply List.ext_getElem?
    intro j
    rw [List.getElem?_set]
    split
    · rename_i e
      subst e
      rw [hv, if_pos (List.getElem?_eq_some_iff.mp hv).1]
    · rfl] at re2
  exact h G' σ H F D re2 o' (mx.mono e) (md.mono e)
/-- a call's own list that is never changed -/
theorem se_frz (h : SE W te ρ M fun d M' => ∃ N p ps, d = dR p ∧ M' = N ++ [(p, Cl ps)] ∧ K (dL ps) N) : SE W te ρ M K := fun G σ H F Q re o mx q =>
  h G σ H F Q re o mx fun d M1 v G1 H1 ⟨N, p, ps, ed, eM, k⟩ e1 r1 o1 => by
    subst ed
    subst eM
    cases r1
    have nd := o1.nd
    have hne : ∀ q ∈ N ++ F, q.1 ≠ p := by
      intro q hq e
      rw [List.append_assoc, List.map_append, List.nodup_append] at nd
      rcases List.mem_append.mp hq with z | z
      · exact nd.2.2 q.1 (List.mem_map_of_mem z) p (by simp) e
      · have h2 := nd.2.1
        rw [List.map_append, List.nodup_append] at h2
        exact h2.2.2 p (by simp) q.1 (List.mem_map_of_mem z) e.symm
    obtain ⟨G', e, o', r'⟩ := o1.freeze (p := p) (ps := ps) (N := N ++ F) (by simp) (List.Sublist.append (List.sublist_append_left N _) (List.Sublist.refl F)) hne
    exact q (dL ps) N _ G' H1 k (e1.trans e) r' o'
end
section
variable {ρ : Rho} {M : Cells} {K : D → Cells → Prop} {Kf : PySem.W.Frag} {g : TG} {t : TT} {te te0 : TE} {wi : TI} {ta : TA} {vs : List Nat} {W : WD} {α β : Type}
theorem zip_at {xs : List α} {ys : List β} {i : Nat} {x : α} {y : β} (h1 : xs[i]? = some x) (h2 : ys[i]? = some y) : (xs.zip ys)[i]? = some (x, y) := by
  rw [List.getElem?_zip_eq_some]
  exact ⟨h1, h2⟩
theorem src_Z (f : α → PyData) (g : β → PyData) (xs : List α) (ys : List β) {M2 : Cells} (h : SA W ta ρ M fun ds M1 => ds = [dL (xs.map f), dL (ys.map g)] ∧ M1 = M2) : SI W (iZip Kf ta) ρ M (Src (xs.zip ys) (fun _ x => dT [f x.1, g x.2]) M2) :=
  si_zip (SA.imp h fun d M1 ⟨e, i0⟩ => ⟨_, _, e, by rw [List.length_zip, List.length_map, List.length_map], i0, fun i d _ ⟨p, q, hp, hq, e⟩ => by
    obtain ⟨o, ho, rfl⟩ := map_at hp
    obtain ⟨o', ho', rfl⟩ := map_at hq
    exact ⟨(o, o'), zip_at ho ho', e⟩, fun _ => trivial⟩)
/-- comprehensions that make a list of one's own -/
theorem se_lcMc {xs : List α} {f : Nat → α → D} {M2 : Cells} (m : α → PyData) (hg : GOk g vs) (h : SI W0 wi ρ M (Src xs f M2)) (hl : xs.length ≤ 1000000)
    (hs : ∀ pre x post, xs = pre ++ x :: post → SG W0 g (f pre.length x) (wipeE ρ vs) M2 fun ρ2 M3 => SE W0 te ρ2 M3 fun e M5 => e = .py (m x) ∧ M5 = M2 ∧ M3 = M2)
    (k : ∀ p, K (dR p) (M2 ++ [(p, Cl (xs.map m))])) : SE W0 (tLc wi g tYes te vs) ρ M K := by
  refine se_lcI hg h hl (fun pre acc M' => acc = (pre.map m).map D.py ∧ M' = M2) ⟨rfl, rfl⟩ ?_ ?_
  · rintro pre x post acc M' hx ha ⟨rfl, rfl⟩ G σ H F v Q r re o mx q
    refine hs pre x post hx G σ H F v Q r re o mx fun ρ2 M3 σ2 G2 H2 k2 e2 re2 o2 => q ρ2 M3 σ2 G2 H2 ?_ e2 re2 o2
    refine st_yes (br_T rfl (k2.imp fun e M5 ⟨a1, a2, a3⟩ => ?_))
    subst a1
    subst a2
    refine ⟨?_, rfl⟩
    rw [List.map_append, List.map_append]
    rfl
  · rintro acc M' ⟨rfl, rfl⟩
    exact .inr k
theorem se_lcFc {xs : List α} {f : Nat → α → D} {M2 : Cells} (p : α → Bool) (m : α → PyData) (hg : GOk g vs) (h : SI W0 wi ρ M (Src xs f M2)) (hl : xs.length ≤ 1000000)
    (hs : ∀ pre x post, xs = pre ++ x :: post → SG W0 g (f pre.length x) (wipeE ρ vs) M2 fun ρ2 M3 => ST W0 t ρ2 M3 fun b M4 => M4 = M2 ∧ b = p x ∧ (p x = true → SE W0 te ρ2 M4 fun e M5 => e = .py (m x) ∧ M5 = M2))
    (k : ∀ q, K (dR q) (M2 ++ [(q, Cl ((xs.filter p).map m))])) : SE W0 (tLc wi g t te vs) ρ M K := by
  refine se_lcI hg h hl (fun pre acc M' => acc = ((pre.filter p).map m).map D.py ∧ M' = M2) ⟨rfl, rfl⟩ ?_ ?_
  · rintro pre x post acc M' hx ha ⟨rfl, rfl⟩ G σ H F v Q r re o mx q
    refine hs pre x post hx G σ H F v Q r re o mx fun ρ2 M3 σ2 G2 H2 k2 e2 re2 o2 => q ρ2 M3 σ2 G2 H2 ?_ e2 re2 o2
    refine k2.imp fun b M4 ⟨e1, e2, e3⟩ => ?_
    subst e1
    subst e2
    refine ⟨fun hp => (e3 hp).imp fun e M5 ⟨a1, a2⟩ => ?_, fun hp => ?_⟩
    · subst a1
      subst a2
      refine ⟨?_, rfl⟩
      rw [List.filter_append, List.filter_cons_of_pos hp, List.map_append, List.map_append]
      rfl
    · refine ⟨?_, rfl⟩
      rw [List.filter_append, List.filter_cons_of_neg (by rw [hp]; decide), List.filter_nil, List.append_nil]
  · rintro acc M' ⟨rfl, rfl⟩
    exact .inr k
end
end PL

/-! PL15: enumerate told with its places, texts joined. -/
namespace PL
open PySem PySem.Spec L2
section
variable {ρ : Rho} {M : Cells} {K : D → Cells → Prop} {Kf : PySem.W.Frag} {g : TG} {t : TT} {te te0 : TE} {wi : TI} {ta tk : TA} {vs : List Nat} {W : WD} {α β : Type}
theorem zipIdx_at {xs : List α} {i k : Nat} {x : α} (h : xs[i]? = some x) : (xs.zipIdx k)[i]? = some (x, k + i) := by rw [List.getElem?_zipIdx, h]; rfl
theorem src_Ei (f : α → PyData) (xs : List α) {M2 : Cells} (h : SA W ta ρ M fun ds M1 => ds = [dL (xs.map f)] ∧ M1 = M2) : SI W (iEnumA Kf ta) ρ M (Src xs.zipIdx (fun _ x => dT [.int (x.2 : Int), f x.1]) M2) :=
  si_enumAL (si_enum (SA.imp h fun d M1 ⟨e, i0⟩ => ⟨_, e, by rw [List.length_zipIdx, List.length_map], i0, fun i d _ ⟨p, hp, e⟩ => by
    obtain ⟨o, ho, rfl⟩ := map_at hp
    exact ⟨(o, 0 + i), zipIdx_at ho, by rw [Nat.zero_add]; exact e⟩, fun _ => trivial⟩))
theorem src_ESi (l : List Nat) {M2 : Cells} (h : SA W ta ρ M fun ds M1 => ds = [dS (mkS l)] ∧ M1 = M2) : SI W (iEnumA Kf ta) ρ M (Src l.zipIdx (fun _ x => dT [.int (x.2 : Int), .str (ofC x.1)]) M2) :=
  si_enumAS (si_enumS (SA.imp h fun d M1 ⟨e, i0⟩ => ⟨_, e, by rw [List.length_zipIdx]; exact mkS_len l, i0, fun i d _ ⟨c, hc, e⟩ => ⟨(c, 0 + i), zipIdx_at (by simpa [mkS] using hc), by rw [Nat.zero_add]; exact e⟩, fun _ => trivial⟩))
theorem zipIdx_split {xs : List α} {k : Nat} {pre post : List (α × Nat)} {x : α} {i : Nat} (h : xs.zipIdx k = pre ++ (x, i) :: post) : i = k + pre.length ∧ xs[pre.length]? = some x := by
  have h1 : (xs.zipIdx k)[pre.length]? = some (x, i) := by rw [h]; simp
  rw [List.getElem?_zipIdx] at h1
  obtain ⟨y, hy, e⟩ := Option.map_eq_some_iff.mp h1
  injection e with e1 e2
  subst e1
  exact ⟨e2.symm, hy⟩
end
/-- texts of signs, joined -/
def joinN (a : List Nat) : List (List Nat) → List Nat
  | [] => []
  | [x] => x
  | x :: y :: r => x ++ a ++ joinN a (y :: r)
theorem join_mkS (a : List Nat) (ys : List (List Nat)) : Txt.join (mkS a) (ys.map mkS) = mkS (joinN a ys) := by
  rw [TL.join_eq]
  induction ys with
  | nil => rfl
  | cons x r ih =>
    cases r with
    | nil => rfl
    | cons y r =>
      show mkS x ++ mkS a ++ Str.join (mkS a) ((y :: r).map mkS) = _
      rw [ih, mkS_app, mkS_app, joinN]
theorem joinN_nil : ∀ ys : List (List Nat), joinN [] ys = ys.flatten
  | [] => rfl
  | [x] => by simp [joinN]
  | x :: y :: r => by rw [joinN, joinN_nil (y :: r)]; simp
theorem lens_mkS (ys : List (List Nat)) : (ys.map fun x => (mkS x).length).sum = (ys.map (·.length)).sum := by simp [mkS_len]
section
variable {M : Cells} {K : D → Cells → Prop} {Kf : PySem.W.Frag}
theorem br_joinZ {a : List Nat} {ys : List (List Nat)} {d : D} (hv : LV M d ((ys.map fun x => PyData.str (mkS x)).map D.py)) (hl : (ys.map (·.length)).sum + ys.length * a.length ≤ 1000000) (k : K (dS (mkS (joinN a ys))) M) : BR (rJoin Kf) (dS (mkS a)) [d] M K := by
  have e : ys.map (fun x => PyData.str (mkS x)) = (ys.map mkS).map PyData.str := by rw [List.map_map]; rfl
  rw [e] at hv
  refine br_join hv ?_ (by rw [join_mkS]; exact k)
  rw [List.map_map, List.length_map, mkS_len]
  show (ys.map fun x => (mkS x).length).sum + _ ≤ _
  rw [lens_mkS]
  exact hl
end
theorem emp_mkS : Str.ofString "" = mkS [] := by decide +kernel
end PL

/-! PL16: zip of lists and of tuples; isinstance with several classes. -/
namespace PL
open PySem PySem.Spec L2 RZ
theorem pi_zipAK {X : Cx} {K : PySem.W.Frag} {e e2 : Expr} {ta : TA} {p pos tpos : Pos} {elts : List Expr} {kk : Nat} (hg : Gl X "zip") (hm : X.mg "zip" = none) (ha : PA X [e, e2] ta) (hK : X.K = K := by rfl) (hs : starEach [e, e2] X.env = (false, eval e X.env) :: starEach [e2] X.env := by rfl) (hpl : (backTo pos (starEach [e2] X.env)).any (·.1) = false := by rfl) :
    PI X (.Tuple elts kk tpos) (.Call (.Name "zip" p) [e, e2] [] pos) (iZipA K ta) := hK ▸ pi_zipA hg hm ha hs hpl
section
variable {ρ : Rho} {M : Cells} {K : D → Cells → Prop} {Kf : PySem.W.Frag} {g : TG} {t : TT} {te te0 : TE} {wi : TI} {ta tk : TA} {vs : List Nat} {W : WD} {α β : Type}
theorem walk_zipT' {a b : Addr} {xs ys : List V} {n : Nat} (hn : n = min xs.length ys.length) : Walk (ItzT Kf a b) n (fun H => SqT Kf H a xs ∧ SqT Kf H b ys) (YPair (fun i => xs[i]?) (fun i => ys[i]?)) := by
  subst hn
  refine ⟨fun i _ hi q => ?_, fun _ q => ⟨xs, ys, q.1, q.2, by omega⟩, fun i H v H' _ q y => ?_⟩
  · have h1 : i < xs.length := by omega
    have h2 : i < ys.length := by omega
    exact ⟨xs, ys, xs[i], ys[i], q.1, q.2, by simp [h1], by simp [h2]⟩
  · obtain ⟨T, x, z, h1, h2, h3, h4, h5⟩ := y
    exact ⟨T, x, z, h1, h2, h3, h4 xs q.1, h5 ys q.2⟩
theorem si_zipAT {R : Nat → (Nat → D → Prop) → (Cells → Prop) → Cells → Prop} (h : SA W ta ρ M fun ds M1 => ∃ ps qs, ds = [dT ps, dT qs] ∧ R (min ps.length qs.length) (fun i d => ∃ p q, ps[i]? = some p ∧ qs[i]? = some q ∧ d = dT [p, q]) (fun _ => True) M1) : SI W (iZipA Kf ta) ρ M R := fun G σ H F Q re o mx q =>
  h G σ H F _ re o mx fun ds M1 vs G1 H1 ⟨ps, qs, ed, k⟩ e1 r1 o1 => by
    subst ed
    obtain ⟨v, w, rfl, ra, rb⟩ := r1.two
    have ra' : Rp G1 v (.tuple ps) := ra
    have rb' : Rp G1 w (.tuple qs) := rb
    cases ra' with
    | tup ha r =>
      cases rb' with
      | tup hb r' =>
        refine ⟨_, _, _, _, rfl, .inr ⟨SqT.of (o1.ex _ _ ha), SqT.of (o1.ex _ _ hb), q _ _ _ M1 G1 H1 _ k e1 o1 ⟨fun H => SqT Kf H _ _ ∧ SqT Kf H _ _, _, walk_zipT' (by rw [r.length, r'.length]), fun _ G' M H e o _ => ⟨SqT.of (o.ex _ _ (e _ _ ha)), SqT.of (o.ex _ _ (e _ _ hb))⟩, ?_⟩⟩⟩
        rintro F' i G' M' H' x H2 hi e o' _ ⟨T, y, z, rfl, hT, rfl, hy, hz⟩
        obtain ⟨p, hp, rp⟩ := r.getV hy
        obtain ⟨p2, hp2, rp2⟩ := r'.getV hz
        obtain ⟨G2, d, a1, a2, a3, a4⟩ := pair_new o' hT (rp.mono e) (rp2.mono e)
        exact ⟨G2, d, a1, a2, ⟨p, p2, hp, hp2, a3⟩, a4⟩
theorem si_zipAL {R : Nat → (Nat → D → Prop) → (Cells → Prop) → Cells → Prop} (h : SA W ta ρ M fun ds M1 => ∃ ps qs, ds = [dL ps, dL qs] ∧ R (min ps.length qs.length) (fun i d => ∃ p q, ps[i]? = some p ∧ qs[i]? = some q ∧ d = dT [p, q]) (fun _ => True) M1) : SI W (iZipA Kf ta) ρ M R := fun G σ H F Q re o mx q =>
  h G σ H F _ re o mx fun ds M1 vs G1 H1 ⟨ps, qs, ed, k⟩ e1 r1 o1 => by
    subst ed
    obtain ⟨v, w, rfl, ra, rb⟩ := r1.two
    have ra' : Rp G1 v (.list ps) := ra
    have rb' : Rp G1 w (.list qs) := rb
    cases ra' with
    | lst ha r =>
      cases rb' with
      | lst hb r' =>
        refine ⟨_, _, _, _, rfl, .inl ⟨SqL.of (o1.ex _ _ ha), SqL.of (o1.ex _ _ hb), q _ _ _ M1 G1 H1 _ k e1 o1 ⟨fun H => SqL Kf H _ _ ∧ SqL Kf H _ _, _, walk_zip (by rw [r.length, r'.length]), fun _ G' M H e o _ => ⟨SqL.of (o.ex _ _ (e _ _ ha)), SqL.of (o.ex _ _ (e _ _ hb))⟩, ?_⟩⟩⟩
        rintro F' i G' M' H' x H2 hi e o' _ ⟨T, y, z, rfl, hT, rfl, hy, hz⟩
        obtain ⟨p, hp, rp⟩ := r.getV hy
        obtain ⟨p2, hp2, rp2⟩ := r'.getV hz
        obtain ⟨G2, d, a1, a2, a3, a4⟩ := pair_new o' hT (rp.mono e) (rp2.mono e)
        exact ⟨G2, d, a1, a2, ⟨p, p2, hp, hp2, a3⟩, a4⟩
theorem src_ZL (f : α → PyData) (g : β → PyData) (xs : List α) (ys : List β) {M2 : Cells} (h : SA W ta ρ M fun ds M1 => ds = [dL (xs.map f), dL (ys.map g)] ∧ M1 = M2) : SI W (iZipA Kf ta) ρ M (Src (xs.zip ys) (fun _ x => dT [f x.1, g x.2]) M2) :=
  si_zipAL (SA.imp h fun d M1 ⟨e, i0⟩ => ⟨_, _, e, by rw [List.length_zip, List.length_map, List.length_map], i0, fun i d _ ⟨p, q, hp, hq, e⟩ => by
    obtain ⟨o, ho, rfl⟩ := map_at hp
    obtain ⟨o', ho', rfl⟩ := map_at hq
    exact ⟨(o, o'), zip_at ho ho', e⟩, fun _ => trivial⟩)
theorem src_ZT (f : α → PyData) (g : β → PyData) (xs : List α) (ys : List β) {M2 : Cells} (h : SA W ta ρ M fun ds M1 => ds = [dT (xs.map f), dT (ys.map g)] ∧ M1 = M2) : SI W (iZipA Kf ta) ρ M (Src (xs.zip ys) (fun _ x => dT [f x.1, g x.2]) M2) :=
  si_zipAT (SA.imp h fun d M1 ⟨e, i0⟩ => ⟨_, _, e, by rw [List.length_zip, List.length_map, List.length_map], i0, fun i d _ ⟨p, q, hp, hq, e⟩ => by
    obtain ⟨o, ho, rfl⟩ := map_at hp
    obtain ⟨o', ho', rfl⟩ := map_at hq
    exact ⟨(o, o'), zip_at ho ho', e⟩, fun _ => trivial⟩)
/-! ### isinstance(x, (A, B, ..)) -/
theorem call_isiTK {X : Cx} {K : PySem.W.Frag} (hK : X.K = K := by rfl) : CallR X (.builtin "isinstance") (rIsiT K) := hK ▸ call_isiT
inductive ClsD : List D → List Value → Prop
  | nil : ClsD [] []
  | ty (n : String) {ds : List D} {us : List Value} : ClsD ds us → ClsD (.raw (.ty n) :: ds) (.type n :: us)
  | own (C : Addr) {ds : List D} {us : List Value} : ClsD ds us → ClsD (dR C :: ds) (.ref C :: us)
theorem ClsD.paired {G : Hp} : ∀ {ds : List D} {us : List Value} {vs : List V}, ClsD ds us → RDs G vs ds → Paired ClsV vs us
  | _, _, _, .nil, r => by cases r; exact .nil
  | _, _, _, .ty n h, .cons a r => by cases a; exact .cons (.ty n) (h.paired r)
  | _, _, _, .own C h, .cons a r => by cases a; exact .cons (.own C) (h.paired r)
theorem se_isiT {te1 : TE} {tt : TA} (h : SE W te1 ρ M fun d M1 => SA W tt ρ M1 fun cs M2 => ∃ us p b, ClsD cs us ∧ d = .py p ∧ cs.length ≤ 1000 ∧ PySem.W.kitAny Kf (.type (tyP p)) us = some b ∧ K (dB b) M2) :
    SE W (tCB (rIsiT Kf) (tCons te1 (tCons (tTup tt) tNil))) ρ M K := fun G σ H F Q re o mx q =>
  h G σ H F _ re o mx fun d M1 v G1 H1 k1 e1 r1 o1 => k1 G1 σ H1 F _ (re.mono e1) o1 (mx.mono e1) fun cs M2 vs G2 H2 ⟨us, p, b, hc, ed, hl, hk, k2⟩ e2 r2 o2 => by
    subst ed
    refine ⟨by rw [r2.length]; exact big_ok (by omega), fun T hT => ?_⟩
    have r1' : Rp G2 v p := Rp.mono e2 r1
    have e3 : Ex G2 (upd G2 T (.tup vs)) := Ex.new (o2.ex.free hT)
    have o3 := o2.push hT (.tup vs)
    exact ⟨v, T, vs, _, us, b, rfl, upd_same, hc.paired r2, rp_ty (M := M2) (F := F) o3 (show RD _ v (.py p) from Rp.mono e3 r1'), hk, q (dB b) M2 _ _ _ k2 (e1.trans (e2.trans e3)) (Rp.bl _) o3⟩
end
theorem kit2 {K : PySem.W.Frag} {a n m : String} {x y : Bool} (h1 : kitB a n = some x) (h2 : kitB a m = some y) : PySem.W.kitAny K (.type a) [.type n, .type m] = some (x || y) := by
  unfold PySem.W.kitAny
  rw [kit_ty h1]
  cases x with
  | true => rfl
  | false =>
    unfold PySem.W.kitAny
    rw [kit_ty h2]
    cases y <;> rfl
end PL

/-! PL17: what can be shown. -/
namespace PL
open PySem PySem.Spec L2
mutual
def sml : PyData → Bool
  | .none => true
  | .bool _ => true
  | .int i => decide (i.natAbs < 10 ^ 40)
  | .str x => x.cps.toList.all fun c => decide (c < 16 ^ 8)
  | .list xs => smlA xs
  | .tuple xs => smlA xs
  | .dict _ => false
def smlA : List PyData → Bool
  | [] => true
  | x :: xs => sml x && smlA xs
end
theorem smlA_iff : ∀ {xs : List PyData}, smlA xs = true ↔ ∀ x ∈ xs, sml x = true
  | [] => by simp [smlA]
  | x :: xs => by simp [smlA, smlA_iff (xs := xs)]
theorem int_len {i : Int} (h : i.natAbs < 10 ^ 40) : (PyData.shown (.int i)).length ≤ 50 := by
  have e : PyData.shown (.int i) = Str.ofString (toString i) := by first | rfl | simp [PyData.shown]
  rw [e, ofString_length]
  cases i with
  | ofNat m =>
    have := (Nat.length_repr_le_iff (n := m) (k := 40) (by decide)).mpr (by simpa using h)
    show (Nat.repr m).length ≤ 50
    omega
  | negSucc m =>
    have := (Nat.length_repr_le_iff (n := m + 1) (k := 40) (by decide)).mpr (by simpa using h)
    show ("-" ++ Nat.repr (m + 1)).length ≤ 50
    rw [String.length_append]
    have : ("-" : String).length = 1 := by decide
    omega
mutual
theorem sml_leaves : ∀ d : PyData, sml d = true → d.leavesShort 50 = true
  | .none, _ => by simp [PyData.leavesShort]
  | .bool _, _ => by simp [PyData.leavesShort]
  | .int i, h => by
    simp only [sml, decide_eq_true_eq] at h
    simpa only [PyData.leavesShort, decide_eq_true_eq] using int_len h
  | .str x, h => by simpa only [PyData.leavesShort, sml] using h
  | .list xs, h => by
    simp only [PyData.leavesShort]
    exact smlA_leaves xs (by simpa only [sml] using h)
  | .tuple xs, h => by
    simp only [PyData.leavesShort]
    exact smlA_leaves xs (by simpa only [sml] using h)
  | .dict _, h => by simp [sml] at h
theorem smlA_leaves : ∀ xs : List PyData, smlA xs = true → PyData.leavesShortAll 50 xs = true
  | [], _ => by simp [PyData.leavesShortAll]
  | x :: xs, h => by
    simp only [smlA, Bool.and_eq_true] at h
    simp only [PyData.leavesShortAll, Bool.and_eq_true]
    exact ⟨sml_leaves x h.1, smlA_leaves xs h.2⟩
end
theorem log_40 {n : Nat} (h : n < 10 ^ 40) : n.log2 < 1920 := by
  by_cases h0 : n = 0
  · subst h0
    decide
  · rw [Nat.log2_lt h0]
    exact Nat.lt_of_lt_of_le h (by decide +kernel)
mutual
theorem sml_show : ∀ d : PyData, sml d = true → d.showable = true ∧ d.hasDict = false
  | .none, _ => by simp [PyData.showable, PyData.hasDict]
  | .bool _, _ => by simp [PyData.showable, PyData.hasDict]
  | .int i, h => by
    simp only [sml, decide_eq_true_eq] at h
    simp only [PyData.showable, PyData.hasDict, decide_eq_true_eq, and_true]
    exact log_40 h
  | .str _, _ => by simp [PyData.showable, PyData.hasDict]
  | .list xs, h => by
    simp only [PyData.showable, PyData.hasDict]
    exact smlA_show xs (by simpa only [sml] using h)
  | .tuple xs, h => by
    simp only [PyData.showable, PyData.hasDict]
    exact smlA_show xs (by simpa only [sml] using h)
  | .dict _, h => by simp [sml] at h
theorem smlA_show : ∀ xs : List PyData, smlA xs = true → PyData.showableAll xs = true ∧ PyData.hasDictAll xs = false
  | [], _ => by simp [PyData.showableAll, PyData.hasDictAll]
  | x :: xs, h => by
    simp only [smlA, Bool.and_eq_true] at h
    have h1 := sml_show x h.1
    have h2 := smlA_show xs h.2
    simp [PyData.showableAll, PyData.hasDictAll, h1.1, h1.2, h2.1, h2.2]
end
theorem shw_of {ps : List PyData} (h : ∀ p ∈ ps, sml p = true) (hb : PyData.bulkAll ps ≤ 300000) (hd : PyData.depthAll ps ≤ 39) : Shw (.list ps) := by
  have h' : sml (.list ps) = true := by
    simp only [sml]
    exact smlA_iff.mpr h
  refine ⟨(sml_show _ h').1, (sml_show _ h').2, by simp only [PyData.depth]; omega, ?_⟩
  have e := PyData.shown_le_bulk 50 (by decide) (.list ps) (sml_leaves _ h')
  have e2 : PyData.bulk (.list ps) = PyData.bulkAll ps := by simp only [PyData.bulk]
  rw [e2] at e
  have : sizeLine = 16777216 := by decide
  omega
theorem bulkAll_le {ps : List PyData} {k : Nat} (h : ∀ p ∈ ps, p.bulk ≤ k) : PyData.bulkAll ps ≤ (k + 1) * ps.length := by
  induction ps with
  | nil => simp [PyData.bulkAll]
  | cons p ps ih =>
    have h1 := h p List.mem_cons_self
    have h2 := ih fun q hq => h q (List.mem_cons_of_mem _ hq)
    simp only [PyData.bulkAll, List.length_cons]
    rw [Nat.mul_succ]
    omega
theorem depthAll_le {ps : List PyData} {k : Nat} (h : ∀ p ∈ ps, p.depth ≤ k) : PyData.depthAll ps ≤ k := by
  induction ps with
  | nil => simp [PyData.depthAll]
  | cons p ps ih =>
    have h1 := h p List.mem_cons_self
    have h2 := ih fun q hq => h q (List.mem_cons_of_mem _ hq)
    simp only [PyData.depthAll]
    omega
/-- ints alone -/
theorem shw_ints {ns : List Int} (h : ∀ n ∈ ns, n.natAbs < 10 ^ 40) (hl : ns.length ≤ 100000) : Shw (.list (ns.map PyData.int)) := by
  refine shw_of (fun p hp => ?_) ?_ ?_
  · obtain ⟨n, hn, rfl⟩ := List.mem_map.mp hp
    simp only [sml, decide_eq_true_eq]
    exact h n hn
  · have := bulkAll_le (ps := ns.map PyData.int) (k := 0) (fun p hp => by
      obtain ⟨n, hn, rfl⟩ := List.mem_map.mp hp
      simp [PyData.bulk])
    rw [List.length_map] at this
    omega
  · exact Nat.le_trans (depthAll_le (k := 0) fun p hp => by
      obtain ⟨n, hn, rfl⟩ := List.mem_map.mp hp
      simp [PyData.depth]) (by decide)
end PL

/-! PL18: lists changed by place, cells frozen wherever they stand. -/
namespace PL
open PySem PySem.Spec L2
abbrev rInsert : V → List V → Hp → VK → Prop := fun x vs H Q => ∃ (l : Addr) (xs : List V) (i : Int) (y : V), x = .ref l ∧ vs = [.int i, y] ∧ H l = some (.lst xs) ∧ xs.length < sizeLine ∧ 0 ≤ i ∧ i < 2 ^ 63 ∧
    Q .non (upd H l (.lst (xs.take i.toNat ++ [y] ++ xs.drop i.toNat)))
theorem all2_erase {α β : Type} {R : α → β → Prop} : ∀ {as : List α} {bs : List β}, All2 R as bs → ∀ n, All2 R (as.eraseIdx n) (bs.eraseIdx n)
  | _, _, .nil, _ => .nil
  | _, _, .cons _ r, 0 => r
  | _, _, .cons h r, n + 1 => .cons h (all2_erase r n)
theorem eraseIdx_map {α β : Type} (f : α → β) : ∀ (l : List α) (n : Nat), (l.eraseIdx n).map f = (l.map f).eraseIdx n
  | [], _ => rfl
  | _ :: _, 0 => rfl
  | x :: l, n + 1 => congrArg (f x :: ·) (eraseIdx_map f l n)
section
variable {W : WD} {ρ : Rho} {M : Cells} {K : D → Cells → Prop} {KT : Bool → Cells → Prop} {KE : Rho → Cells → Prop} {ta tb te tc to ti : TE} {t u : TT} {P : PD} {Kf : PySem.W.Frag} {tt : TS}
theorem br_insert (j : Nat) {p : Addr} {ps : List PyData} {i : Int} {q : PyData} (hc : CA M j p (Cl ps)) (hl : ps.length ≤ 1000000) (h0 : 0 ≤ i) (h1 : i < 2 ^ 62) (k : K dN (M.set j (p, Cl (ps.take i.toNat ++ [q] ++ ps.drop i.toNat)))) : BR rInsert (dR p) [dI i, .py q] M K := fun G H F u us Q r rs o qq => by
  cases r
  obtain ⟨v, w, rfl, rv, rw'⟩ := rs.two
  cases int_of rv
  obtain ⟨vs, hv, rr⟩ := o.at hc
  have hlen := rr.length
  rw [List.length_map] at hlen
  refine ⟨p, vs, i, w, rfl, rfl, hv, by show vs.length < 16777216; omega, h0, by omega, qq dN _ .non G _ k (Ex.refl G) Rp.non (o.store hc ⟨_, upd_same, ?_⟩)⟩
  rw [List.map_append, List.map_append, List.map_take, List.map_drop]
  exact ((rr.take _).append (.cons rw' .nil)).append (rr.drop _)
theorem br_popAt (j : Nat) {p : Addr} {ps : List PyData} {i : Int} {q : PyData} (hc : CA M j p (Cl ps)) (h0 : 0 ≤ i) (h1 : i < 2 ^ 62) (hq : ps[i.toNat]? = some q) (k : K (.py q) (M.set j (p, Cl (ps.eraseIdx i.toNat)))) : BR rPopAt (dR p) [dI i] M K := fun G H F u us Q r rs o qq => by
  cases r
  obtain ⟨v, rfl, rv⟩ := rs.one
  cases int_of rv
  obtain ⟨vs, hv, rr⟩ := o.at hc
  have hlen := rr.length
  rw [List.length_map] at hlen
  have hlt := (List.getElem?_eq_some_iff.mp hq).1
  obtain ⟨w, hw, rw'⟩ := rr.get (i := i.toNat) (b := D.py q) (by rw [List.getElem?_map, hq]; rfl)
  have hsi : seqIndex? i vs.length = some i.toNat := by
    have h3 : i.toNat < vs.length := by omega
    unfold seqIndex?
    simp only []
    first
      | (rw [if_neg (by omega), if_pos (by omega)])
      | (split <;> simp_all <;> omega)
  exact ⟨p, vs, i, i.toNat, w, rfl, rfl, hv, by omega, by omega, hsi, hw, qq (.py q) _ w G _ k (Ex.refl G) rw' (o.store hc ⟨_, upd_same, by rw [eraseIdx_map]; exact all2_erase rr _⟩)⟩
/-- the cells in another order -/
theorem ss_perm (N : Cells) (hp : M.Perm N) (h : SS W tt ρ N P) : SS W tt ρ M P := fun G σ H F D re o mx md => h G σ H F D re (o.perm (hp.append_right F)) mx md
theorem se_perm (N : Cells) (hp : M.Perm N) (h : SE W te ρ N K) : SE W te ρ M K := fun G σ H F Q re o mx q => h G σ H F Q re (o.perm (hp.append_right F)) mx q
/-- a cell is let go -/
theorem ss_letgo (j : Nat) (h : SS W tt ρ (M.eraseIdx j) P) : SS W tt ρ M P := fun G σ H F D re o mx md => h G σ H F D re (o.sub (List.Sublist.append (List.eraseIdx_sublist M j) (List.Sublist.refl F))) mx md
theorem apart_of {G H : Hp} {M F : Cells} {j : Nat} {p : Addr} {c : Cell} (o : Own G (M ++ F) H) (hj : M[j]? = some (p, c)) : ∀ q ∈ M.eraseIdx j ++ F, q.1 ≠ p := by
  intro q hq e
  have hs : M = M.take j ++ (p, c) :: M.drop (j + 1) := split_at hj
  have nd := o.nd
  rw [hs, List.append_assoc, List.cons_append, List.map_append, List.map_cons] at nd
  have hq' : q ∈ M.take j ∨ q ∈ M.drop (j + 1) ++ F := by
    rw [List.eraseIdx_eq_take_drop_succ, List.append_assoc] at hq
    exact List.mem_append.mp hq
  rw [List.nodup_append] at nd
  rcases hq' with z | z
  · exact nd.2.2 q.1 (List.mem_map_of_mem z) p List.mem_cons_self e
  · have := (List.nodup_cons.mp nd.2.1).1
    exact this (e ▸ List.mem_map_of_mem (f := (·.1)) z)
/-- a value that is a cell which from now on stays as it is -/
theorem se_frzI (h : SE W te ρ M fun d M' => ∃ j p ps, d = dR p ∧ M'[j]? = some (p, Cl ps) ∧ K (dL ps) (M'.eraseIdx j)) : SE W te ρ M K := fun G σ H F Q re o mx q =>
  h G σ H F Q re o mx fun d M1 v G1 H1 ⟨j, p, ps, ed, hj, k⟩ e1 r1 o1 => by
    subst ed
    cases r1
    obtain ⟨G', e, o', r'⟩ := o1.freeze (p := p) (ps := ps) (N := M1.eraseIdx j ++ F) (List.mem_append_left _ (List.mem_of_getElem? hj)) (List.Sublist.append (List.eraseIdx_sublist M1 j) (List.Sublist.refl F)) (apart_of o1 hj)
    exact q (dL ps) (M1.eraseIdx j) _ G' H1 k (e1.trans e) r' o'
end
end PL

/-! PL19: sets of ints made of a list, asked. -/
namespace PL
open PySem PySem.Spec L2
theorem setH_ok {P : Program} {w : World} {H : Hp} {h : Heap} {a : Addr} {S : Int → Bool} {n : Nat} (R : h.SetOf (intKind P w) a S n) : ObjOk P w H h a (SetH P w a S n) := by
  have ⟨o, _, _, _, ho, _⟩ := R
  exact ⟨R, ⟨o, ho⟩, fun h1 h2 ⟨o, es, ep, t, p, q⟩ k => ⟨o, es, ep, t, k _ p, q⟩⟩
def rSetOfL (P : Program) (w : World) (K : PySem.W.Frag) : List V → Hp → VK → Prop := fun xs H Q => ∃ (l : Addr) (ns : List Int), xs = [.ref l] ∧ SqL K H l (ns.map V.int) ∧ ns.length ≤ 4000 ∧ ∀ p n, H p = none → Q (.ref p) (upd H p (SetH P w p (fun k => decide (k ∈ ns)) n))
theorem call_setL {X : Cx} (hc : X.calm = true) : CallR X (.type "set") (rSetOfL X.prog X.w X.K) := by
  intro pins s σ H xs us Q I r h
  obtain ⟨l, ns, rfl, hs, hn, q⟩ := h
  obtain ⟨its, rv, hl, hz⟩ := I.list hs
  rw [Vals.ref1 r]
  have hi := rv.ints
  have hlen : its.length = ns.length := hi.length
  refine call_set_list (I.ok.hd hc) hl.isList (ns := ns) (by simpa using hi) (by rw [List.size_toArray]; unfold scanBound; omega) fun h' tk hS hk => ?_
  have hf : H s.heap.objs.size = none := I.hok.fresh (Nat.le_refl _)
  have hS2 : h'.SetOf (intKind X.prog X.w) s.heap.objs.size (fun k => decide (k ∈ ns)) _ := PyProof.Rows.SetOf_congr hS (fun k => by
    rw [PyProof.Rows.firstMet_any, List.size_toArray, hlen]
    have e : (List.range ns.length).map (fun i => ns.getD i 0) = ns := by
      apply List.ext_getElem?
      intro i
      rw [List.getElem?_map]
      by_cases hi : i < ns.length
      · rw [List.getElem?_range hi]
        simp [hi]
      · rw [List.getElem?_eq_none (by simpa using hi), List.getElem?_eq_none (by omega)]
        rfl
    rw [e]
    rw [Bool.eq_iff_iff]
    simp) rfl
  refine ⟨.ref s.heap.objs.size, _, I.laid (t' := tk) (fun b u e => hk b u (Heap.lt_size e) e) (Nat.le_refl _) (setH_ok hS2), rfl, q _ _ hf⟩
theorem call_setLK {X : Cx} {P : Program} {w : World} {K : PySem.W.Frag} (hc : X.calm = true) (hP : X.prog = P := by rfl) (hw : X.w = w := by rfl) (hK : X.K = K := by rfl) : CallR X (.type "set") (rSetOfL P w K) := by
  subst hP hw hK
  exact call_setL hc
def rInSet (P : Program) (w : World) : R2 := fun x y H Q => ∃ k a S n, x = .int k ∧ y = .ref a ∧ H a = some (SetH P w a S n) ∧ Q (.bl (S k)) H
theorem op_inSet {X : Cx} {P : Program} {w : World} (hP : X.prog = P := by rfl) (hw : X.w = w := by rfl) : OpR X (compareOp .In) (rInSet P w) := by
  subst hP hw
  intro pins s σ H x y v u Q I rx ry h
  obtain ⟨k, a, S, n, rfl, rfl, ha, q⟩ := h
  obtain ⟨tk, rfl⟩ := rx
  cases ry
  exact wpAny_inSet_of (intKind_is _ _ _ _) rfl (I.hok a _ ha).1 ⟨.bl (S k), H, I.tok _, rfl, q⟩
section
variable {M : Cells} {K : D → Cells → Prop} {Kf : PySem.W.Frag} {P : Program} {w : World}
theorem cr_setL {d : D} {ns : List Int} (hv : LV M d ((ns.map PyData.int).map D.py)) (hl : ns.length ≤ 4000) (k : K (.st P w fun k => decide (k ∈ ns)) M) : CR (rSetOfL P w Kf) [d] M K := fun G H F us Q r o q => by
  obtain ⟨v, rfl, rv⟩ := r.one
  obtain ⟨a, vs, rfl, ha, hr⟩ := hv.at rv o
  have := RpAll.ints (RDs.all hr)
  subst this
  exact ⟨a, ns, rfl, SqL.of ha, hl, fun p n hp => q _ M (.ref p) (upd G p _) _ k (Ex.new (o.ex.free hp)) ⟨p, n, rfl, upd_same⟩ (o.push hp _)⟩
theorem or_inSet {S : Int → Bool} {i : Int} (k : K (dB (S i)) M) : OR (rInSet P w) (dI i) (.st P w S) M K := fun G H F u v Q r1 r2 o q => by
  cases int_of r1
  obtain ⟨a, n, rfl, ha⟩ := r2
  exact ⟨i, a, S, n, rfl, rfl, o.ex _ _ ha, q _ M _ G H k (Ex.refl G) (Rp.bl _) o⟩
end
end PL

/-! PL20: list(zip(xs, ys)), list(range(n)). -/
namespace PL
open PySem PySem.Spec L2
open PyProof.Rows (boot_list boot_zip Call_ args_cons args_nil)
theorem zip_no_len : typeLookup (.type "zip") "__len__" = pure none := am_miss_of_fast (by decide +kernel)
theorem zip_no_hint : typeLookup (.type "zip") "__length_hint__" = pure none := am_miss_of_fast (by decide +kernel)
def tupsAt (H : Hp) : List (Addr × V × V) → Hp
  | [] => H
  | t :: r => tupsAt (upd H t.1 (.tup [t.2.1, t.2.2])) r
def FreshT (H : Hp) : List (Addr × V × V) → Prop
  | [] => True
  | t :: r => H t.1 = none ∧ FreshT (upd H t.1 (.tup [t.2.1, t.2.2])) r
theorem tupsAt_snoc {t : Addr × V × V} : ∀ (ts : List (Addr × V × V)) (H : Hp), tupsAt H (ts ++ [t]) = upd (tupsAt H ts) t.1 (.tup [t.2.1, t.2.2])
  | [], H => rfl
  | u :: r, H => tupsAt_snoc r _
theorem freshT_snoc {t : Addr × V × V} : ∀ (ts : List (Addr × V × V)) (H : Hp), FreshT H ts → tupsAt H ts t.1 = none → FreshT H (ts ++ [t])
  | [], H, _, h => ⟨h, trivial⟩
  | u :: r, H, ⟨h1, h2⟩, h => ⟨h1, freshT_snoc r _ h2 h⟩
theorem tupsAt_ex : ∀ (ts : List (Addr × V × V)) (H : Hp), FreshT H ts → Ex H (tupsAt H ts)
  | [], H, _ => Ex.refl H
  | u :: r, H, ⟨h1, h2⟩ => (Ex.new h1).trans (tupsAt_ex r _ h2)
abbrev refsT (ts : List (Addr × V × V)) : List V := ts.map fun t => V.ref t.1
abbrev Hc (H0 : Hp) (ts : List (Addr × V × V)) (S : Addr) : Hp := upd (tupsAt H0 ts) S (.lst (refsT ts))
structure ZLs (S z TI TO i1 i2 a b : Addr) (i : Nat) (h : Heap) : Prop where
  ti : IsPair h TI (.ref i1) (.ref i2)
  to : ∃ o, h.get? TO = some o
  h1 : h.IsListIter i1 a i
  h2 : h.IsListIter i2 b i
  z : (IsZip h z TI TO .none ∧ ∃ x y, IsPair h TO x y) ∨ ∃ T f oT, IsZipHeld h z TI TO T f ∧ h.get? T = some oT ∧ T ≠ z ∧ T ≠ i1 ∧ T ≠ i2 ∧ T ≠ S
section
variable {X : Cx} {pins : List (Addr × Obj)} {σ : L2.St}
theorem zl_loop {A : Around} {H0 : Hp} {S z TI TO i1 i2 a b : Addr} {xs ys : List V} (hA : A.handled = none) (D : ZipApart z TI TO i1 i2 a b) (hSc : S ∉ [z, TI, TO, i1, i2])
    (ha0 : H0 a = some (.lst xs)) (hb0 : H0 b = some (.lst ys)) (hl : xs.length = ys.length) {R : Result → Shared → Prop}
    (hR : ∀ s' ts, Inv X pins σ (Hc H0 ts S) s' → ts.map (·.2) = xs.zip ys → FreshT H0 ts → tupsAt H0 ts S = none → R (.ok (.ret .none)) s') :
    ∀ (k : Nat) (ts : List (Addr × V × V)) (s : Shared), xs.length - ts.length = k → ts.map (·.2) = (xs.zip ys).take ts.length → ts.length ≤ xs.length → FreshT H0 ts → tupsAt H0 ts S = none → Inv X pins σ (Hc H0 ts S) s →
      (∀ c ∈ [z, TI, TO, i1, i2], FpOk X pins (Hc H0 ts S) c) → ZLs S z TI TO i1 i2 a b ts.length s.heap → codeAny (model X.prog X.w) A (.builtin "list.extend.loop" ⟨[.ref S, .ref z, .none], []⟩) R s := by
  intro k
  induction k with
  | zero =>
    intro ts s hk hts hle hfr hSn I hf st
    have hlen : ts.length = xs.length := by omega
    have ex : Ex H0 (Hc H0 ts S) := (tupsAt_ex ts H0 hfr).trans (Ex.new hSn)
    obtain ⟨its, rv, p, _⟩ := I.list (.inl (.inl (ex a _ ha0)))
    obtain ⟨its2, rv2, p2, _⟩ := I.list (.inl (.inl (ex b _ hb0)))
    have l1 := rv.length
    have he : its.toArray[ts.length]? = none ∨ its2.toArray[ts.length]? = none := .inl (by simp; omega)
    have fin : ∀ s', Inv X pins σ (Hc H0 ts S) s' → R (.ok (.ret .none)) s' := fun s' I' => hR s' ts I' (by rw [hts, List.take_of_length_le (by rw [List.length_zip]; omega)]) hfr hSn
    refine codeAny_builtin F.entry_extend_loop ?_
    rw [Around.under_plainId F.plain_extend_loop _]
    show wpAny _ A.in1 (pyNext (.ref z) >>= _) _ _ s
    refine wpAny_bind ?_
    obtain ⟨hTI, hto, h1, h2, ⟨hz, x0, y0, hTO⟩ | ⟨T, f, oT, hz, hT, r1, r2, r3, r4⟩⟩ := st
    · refine wpAny_pyNext_zip_end hA D hz hTI hTO h1 h2 p.isList p2.isList he fun h' hk => ?_
      exact wpAny_pure (fin _ (I.turnedL (t' := s.toks) (ch := [z, TI, TO, i1, i2]) (fun c o hb q => hk c o (fun q' => hb (by simp [q'])) (fun q' => hb (by simp [q'])) (fun q' => hb (by simp [q'])) (fun q' => hb (by simp [q'])) q) hf))
    · refine wpAny_pyNext_zip_end_held hA D hz hT hTI h1 h2 p.isList p2.isList he fun h' hk => ?_
      exact wpAny_pure (fin _ (I.turnedL (t' := s.toks) (ch := [z, TI, TO, i1, i2]) (fun c o hb q => hk c o (fun q' => hb (by simp [q'])) (fun q' => hb (by simp [q'])) (fun q' => hb (by simp [q'])) q) hf))
  | succ k ih =>
    intro ts s hk hts hle hfr hSn I hf st
    have hlt : ts.length < xs.length := by omega
    have ex : Ex H0 (Hc H0 ts S) := (tupsAt_ex ts H0 hfr).trans (Ex.new hSn)
    obtain ⟨its, rv, p, _⟩ := I.list (.inl (.inl (ex a _ ha0)))
    obtain ⟨its2, rv2, p2, _⟩ := I.list (.inl (.inl (ex b _ hb0)))
    obtain ⟨x, hx⟩ : ∃ x, xs[ts.length]? = some x := ⟨_, List.getElem?_eq_getElem hlt⟩
    obtain ⟨y, hy⟩ : ∃ y, ys[ts.length]? = some y := ⟨_, List.getElem?_eq_getElem (by omega)⟩
    obtain ⟨u, hu, ru⟩ := rv.get hx
    obtain ⟨u2, hu2, ru2⟩ := rv2.get hy
    have hu' : its.toArray[ts.length]? = some u := by simpa using hu
    have hu2' : its2.toArray[ts.length]? = some u2 := by simpa using hu2
    have hTn : Hc H0 ts S s.heap.objs.size = none := I.hok.fresh (Nat.le_refl _)
    have hTS : s.heap.objs.size ≠ S := fun e => by unfold Hc at hTn; rw [e, upd_same] at hTn; cases hTn
    have hTn0 : tupsAt H0 ts s.heap.objs.size = none := by unfold Hc at hTn; rw [upd_ne hTS] at hTn; exact hTn
    have hSsome : Hc H0 ts S S = some (.lst (refsT ts)) := upd_same
    have hcl : ∀ c ∈ [z, TI, TO, i1, i2], c < s.heap.objs.size := by
      intro c hc
      obtain ⟨hTI, ⟨oto, hto⟩, ⟨o1, e1, _⟩, ⟨o2, e2, _⟩, ⟨hz, x0, y0, hTO⟩ | ⟨T, f, oT, hz, hT, r1, r2, r3, r4⟩⟩ := st
      · have e' : c = z ∨ c = TI ∨ c = TO ∨ c = i1 ∨ c = i2 := by simpa using hc
        rcases e' with q | q | q | q | q <;> rw [q]
        · exact Heap.lt_size hz
        · exact Heap.lt_size hTI
        · exact Heap.lt_size hTO
        · exact Heap.lt_size e1
        · exact Heap.lt_size e2
      · have e' : c = z ∨ c = TI ∨ c = TO ∨ c = i1 ∨ c = i2 := by simpa using hc
        rcases e' with q | q | q | q | q
        · rw [q]; exact Heap.lt_size hz
        · rw [q]; exact Heap.lt_size hTI
        · rw [q]; exact Heap.lt_size hto
        · rw [q]; exact Heap.lt_size e1
        · rw [q]; exact Heap.lt_size e2
    refine codeAny_builtin F.entry_extend_loop ?_
    rw [Around.under_plainId F.plain_extend_loop _]
    show wpAny _ A.in1 (pyNext (.ref z) >>= _) _ _ s
    refine wpAny_bind ?_
    -- what happens behind the next
    have key : ∀ h' : Heap, h'.objs.size = s.heap.objs.size + 1 → IsPair h' s.heap.objs.size u u2 → (∀ c o, c ∉ [z, TI, TO, i1, i2] → s.heap.get? c = some o → h'.get? c = some o) →
        IsPair h' TI (.ref i1) (.ref i2) → (∃ o, h'.get? TO = some o) → h'.IsListIter i1 a (ts.length + 1) → h'.IsListIter i2 b (ts.length + 1) → (∃ T f oT, IsZipHeld h' z TI TO T f ∧ h'.get? T = some oT ∧ T ≠ z ∧ T ≠ i1 ∧ T ≠ i2 ∧ T ≠ S) →
        wpAny (model X.prog X.w) A.in1 (updateSeq S (·.push (.ref s.heap.objs.size)) >>= fun _ => again (.builtin "list.extend.loop" ⟨[.ref S, .ref z, .none], []⟩))
          (fun fin s' => match fin with | .done f => R (.ok f) s' | .again c' => c'.quiet = true ∧ codeAny (model X.prog X.w) A c' R s') (fun e s' => R (.error e) s') { s with heap := h' } := by
      intro h' hsz hT hkp hTI' ⟨ot, hto'⟩ h1' h2' hz'
      have new : ObjOk X.prog X.w (upd (Hc H0 ts S) s.heap.objs.size (.tup [x, y])) h' s.heap.objs.size (.tup [x, y]) := ⟨by show 2 ≤ sizeLine; decide, [u, u2], .cons ru (.cons ru2 .nil), ⟨_, hT, rfl, _, rfl⟩⟩
      have I1 : Inv X pins σ (upd (Hc H0 ts S) s.heap.objs.size (.tup [x, y])) { s with heap := h' } := I.turnedNew (t' := s.toks) (ch := [z, TI, TO, i1, i2]) (fun c o hb q => hkp c o hb q) hf (Nat.le_refl _) new
      have hH : upd (Hc H0 ts S) s.heap.objs.size (.tup [x, y]) S = some (.lst (refsT ts)) := by rw [upd_ne hTS.symm]; exact hSsome
      obtain ⟨zl, its0, n0, r0, hl0, e0⟩ := I1.lstM hH
      have hz0 : (refsT ts).length = ts.length := by simp [refsT]
      have hxl : xs.length ≤ sizeLine := (I.lstM (ex a _ ha0)).1
      have I2 := I1.lset (its' := its0 ++ [.ref s.heap.objs.size]) (f := (·.push (.ref s.heap.objs.size))) (t' := s.toks) (ys := refsT ts ++ [V.ref s.heap.objs.size]) hH e0 (by simp) (r0.append (.cons (show RelV (V.ref s.heap.objs.size) (.ref s.heap.objs.size) from rfl) .nil)) (by rw [List.length_append, hz0]; simp; omega)
      have eH : upd (upd (Hc H0 ts S) s.heap.objs.size (.tup [x, y])) S (.lst (refsT ts ++ [V.ref s.heap.objs.size])) = Hc H0 (ts ++ [(s.heap.objs.size, x, y)]) S := by
        unfold Hc
        rw [tupsAt_snoc]
        funext c
        by_cases hc : c = S
        · subst hc
          rw [upd_same, upd_same]
          simp [refsT]
        · rw [upd_ne hc, upd_ne hc]
          by_cases hc2 : c = s.heap.objs.size
          · subst hc2
            rw [upd_same, upd_same]
          · rw [upd_ne hc2, upd_ne hc2, upd_ne hc]
      rw [eH] at I2
      refine wpAny_bind ?_
      refine wpAny_updateSeq e0 rfl (wpAny_pure ⟨plainId_quiet F.plain_extend_loop _, ?_⟩) (by rw [List.size_toArray]; omega) (by rw [Array.size_push, List.size_toArray]; omega)
      have oth : ∀ c o, c ≠ S → h'.get? c = some o → (h'.update S (Obj.mapSeq (·.push (.ref s.heap.objs.size)))).get? c = some o := fun c o hb e => (Heap.get?_update_other _ _ (Ne.symm hb)).trans e
      have nS : ∀ c ∈ [z, TI, TO, i1, i2], c ≠ S := fun c hc e => hSc (e ▸ hc)
      have hzx : (xs.zip ys)[ts.length]? = some (x, y) := zip_at hx hy
      refine ih (ts ++ [(s.heap.objs.size, x, y)]) _ (by rw [List.length_append, List.length_singleton]; omega) ?_ (by rw [List.length_append, List.length_singleton]; omega) (freshT_snoc ts H0 hfr hTn0) ?_ I2 ?_ ?_
      · rw [List.map_append, hts, List.length_append, List.length_singleton, List.take_add_one, hzx]
        rfl
      · rw [tupsAt_snoc, upd_ne hTS.symm]
        exact hSn
      · intro c hc
        have hfc := hf c hc
        refine ⟨?_, hfc.2⟩
        rw [← eH, upd_ne (nS c hc), upd_ne (Nat.ne_of_lt (hcl c hc))]
        exact hfc.1
      · rw [List.length_append, List.length_singleton]
        obtain ⟨T, f, oT, hz, hT2, r1, r2, r3, r4⟩ := hz'
        exact ⟨oth _ _ (nS TI (by simp)) hTI', ⟨ot, oth _ _ (nS TO (by simp)) hto'⟩, h1'.at fun o q => oth _ o (nS i1 (by simp)) q, h2'.at fun o q => oth _ o (nS i2 (by simp)) q, .inr ⟨T, f, oT, oth _ _ (nS z (by simp)) hz, oth _ _ r4 hT2, r1, r2, r3, r4⟩⟩
    have n1 : ∀ c ∈ [z, TI, TO, i1, i2], s.heap.objs.size ≠ c := fun c hc => Nat.ne_of_gt (hcl c hc)
    obtain ⟨hTI, hto, h1, h2, ⟨hz, x0, y0, hTO⟩ | ⟨T, f, oT, hz, hT, r1, r2, r3, r4⟩⟩ := st
    · refine wpAny_pyNext_zip_item D hz hTI hTO h1 h2 p.isList p2.isList hu' hu2' fun h' a1 a2 a3 a4 a5 a6 hkp => ?_
      exact key h' a6 a5 (fun c o hc q => hkp c o (fun q' => hc (by simp [q'])) (fun q' => hc (by simp [q'])) (fun q' => hc (by simp [q'])) (fun q' => hc (by simp [q'])) q) (hkp _ _ D.TIz D.TITO D.TIi1 D.TIi2 hTI) ⟨_, a2⟩ a3 a4
        ⟨_, false, _, a1, a5, n1 z (by simp), n1 i1 (by simp), n1 i2 (by simp), hTS⟩
    · refine wpAny_pyNext_zip_item_held D hz hT hTI h1 h2 p.isList p2.isList hu' hu2' fun h' a1 a3 a4 a5 a6 hkp => ?_
      exact key h' a6 a5 (fun c o hc q => hkp c o (fun q' => hc (by simp [q'])) (fun q' => hc (by simp [q'])) (fun q' => hc (by simp [q'])) q) (hkp _ _ D.TIz D.TIi1 D.TIi2 hTI) (let ⟨o, q⟩ := hto; ⟨o, hkp _ _ D.TOz D.TOi1 D.TOi2 q⟩) a3 a4
        ⟨T, true, oT, a1, hkp _ _ r1 r2 r3 hT, r1, r2, r3, r4⟩
/-- an expression that makes a zip of two lists -/
def PZp (X : Cx) (e : Expr) (t : L2.St → Hp → (Addr → Addr → Hp → Prop) → Prop) : Prop :=
  ∀ (pins : List (Addr × Obj)) (s : Shared) (σ : L2.St) (H : Hp) (Q : Addr → Addr → Hp → Prop), Inv X pins σ H s → t σ H Q →
    wpAny (model X.prog X.w) X.A (eval e X.env) (fun x s' => ∃ z TI TO i1 i2 a b H', x = .ref z ∧ ZipApart z TI TO i1 i2 a b ∧ Inv X pins σ H' s' ∧ (∀ c ∈ [z, TI, TO, i1, i2], FpOk X pins H' c) ∧
      IsZip s'.heap z TI TO .none ∧ IsPair s'.heap TI (.ref i1) (.ref i2) ∧ IsPair s'.heap TO .none .none ∧ s'.heap.IsListIter i1 a 0 ∧ s'.heap.IsListIter i2 b 0 ∧ Q a b H') X.xe s
def tZp (ta : TA) : L2.St → Hp → (Addr → Addr → Hp → Prop) → Prop := fun σ H Q => ta σ H fun vs H1 => ∃ a b xs ys, vs = [.ref a, .ref b] ∧ H1 a = some (.lst xs) ∧ H1 b = some (.lst ys) ∧ Q a b H1
theorem pzp_2 {e e2 : Expr} {ta : TA} {p pos : Pos} (hg : Gl X "zip") (hm : X.mg "zip" = none) (ha : PA X [e, e2] ta)
    (hs : starEach [e, e2] X.env = (false, eval e X.env) :: starEach [e2] X.env := by rfl) (hpl : (backTo pos (starEach [e2] X.env)).any (·.1) = false := by rfl) :
    PZp X (.Call (.Name "zip" p) [e, e2] [] pos) (tZp ta) := by
  intro pins s σ H Q I h
  refine Call_ (ld_blt I hg hm boot_zip (PyProof.Rows.callWith_type1 (thn (ha.run pos pins s σ H _ I h) fun us s1 ⟨vs, H1, I1, r1, q1⟩ => ?_) hs hpl))
  obtain ⟨a, b, xs, ys, ex, hqx, hqy, q⟩ := q1
  subst ex
  cases r1 with
  | cons r rr =>
    cases rr with
    | cons r' rr =>
      cases rr
      cases r
      cases r'
      have fresh5 : ∀ c, c ∈ [s1.heap.objs.size + 4, s1.heap.objs.size + 2, s1.heap.objs.size + 3, s1.heap.objs.size, s1.heap.objs.size + 1] → FpOk X pins H1 c := fun c hcm => by
        have e' : c = s1.heap.objs.size + 4 ∨ c = s1.heap.objs.size + 2 ∨ c = s1.heap.objs.size + 3 ∨ c = s1.heap.objs.size ∨ c = s1.heap.objs.size + 1 := by simpa using hcm
        have hle : s1.heap.objs.size ≤ c := by
          rcases e' with z | z | z | z | z
          · rw [z]; exact Nat.le_add_right _ _
          · rw [z]; exact Nat.le_add_right _ _
          · rw [z]; exact Nat.le_add_right _ _
          · rw [z]; exact Nat.le_refl _
          · rw [z]; exact Nat.le_add_right _ _
        exact I1.fpOk hle (I1.hok.fresh hle)
      obtain ⟨its, rv, p1, _⟩ := I1.list (.inl (.inl hqx))
      obtain ⟨its2, rv2, p2, _⟩ := I1.list (.inl (.inl hqy))
      refine call_zip_2 p1.isList p2.isList fun h' hz hTI hTO h1 h2 hsz hk => ?_
      have I2 : Inv X pins σ H1 { s1 with heap := h' } := I1.kept (t' := s1.toks) hk
      exact ⟨s1.heap.objs.size + 4, _, _, _, _, a, b, H1, rfl, PySem.W.ktu_apart s1.heap.objs.size a b p1.lt p2.lt, I2, fresh5, hz, hTI, hTO, h1, h2, q⟩
def tLstZp (te : L2.St → Hp → (Addr → Addr → Hp → Prop) → Prop) : TE := fun σ H Q => te σ H fun a b H1 => ∃ xs ys, H1 a = some (.lst xs) ∧ H1 b = some (.lst ys) ∧ xs.length = ys.length ∧
  ∀ (ts : List (Addr × V × V)) (q : Addr), ts.map (·.2) = xs.zip ys → FreshT H1 ts → tupsAt H1 ts q = none → Q (.ref q) (Hc H1 ts q)
theorem pe_listZp {e : Expr} {te : L2.St → Hp → (Addr → Addr → Hp → Prop) → Prop} {p pos : Pos} (hc : X.calm = true) (hg : Gl X "list") (hm : X.mg "list" = none) (he : PZp X e te) (na : starEach [e] X.env = (false, eval e X.env) :: starEach [] X.env := by rfl) :
    PE X (.Call (.Name "list" p) [e] [] pos) (tLstZp te) := by
  refine ⟨fun pins s σ H Q I h => ?_⟩
  refine Call_ (ld_blt I hg hm boot_list (PyProof.Rows.callWith_type1 (args_cons (thn (he pins s σ H _ I h) fun x s1 ⟨z, TI, TO, i1, i2, a, b, H1, ex, D, I1, hf, hz, hTI, hTO, h1, h2, q⟩ => args_nil ?_) na) na))
  subst ex
  obtain ⟨xs, ys, ha0, hb0, hl, q⟩ := q
  have hA : X.A.handled = none := I1.ok.hd hc
  have hzl : ∀ c ∈ [z, TI, TO, i1, i2], c < s1.heap.objs.size := fun c hcm => by
    obtain ⟨o1, e1, _⟩ := id h1
    obtain ⟨o2, e2, _⟩ := id h2
    have e' : c = z ∨ c = TI ∨ c = TO ∨ c = i1 ∨ c = i2 := by simpa using hcm
    rcases e' with q | q | q | q | q <;> rw [q]
    · exact Heap.lt_size hz
    · exact Heap.lt_size hTI
    · exact Heap.lt_size hTO
    · exact Heap.lt_size e1
    · exact Heap.lt_size e2
  have hSc : s1.heap.objs.size ∉ [z, TI, TO, i1, i2] := fun hm => Nat.lt_irrefl _ (hzl _ hm)
  have hSz : s1.heap.objs.size ≠ z := fun e => hSc (e ▸ by simp)
  refine callType_codes (Q₁ := fun obj s₁ => obj = .ref s1.heap.objs.size ∧ s₁ = { s1 with heap := s1.heap.push { cls := .type "list", data := .seq #[] } }) F.called_list (F.typeCall_list_1 _) F.entry_list_init
    (code_list_new _ ⟨rfl, rfl⟩) fun obj s₁ h₁ => ?_
  obtain ⟨rfl, rfl⟩ := h₁
  have hS : (s1.heap.push { cls := .type "list", data := .seq #[] }).get? s1.heap.objs.size = some { cls := .type "list", data := .seq #[] } := Heap.get?_push_size _ rfl
  refine ⟨⟨_, hS, rfl⟩, F.args_list_init_2 _ _, ?_⟩
  show wpAny _ X.A.in1.in1 (do let old ← Builtin.List.listItems (.ref s1.heap.objs.size); Builtin.List.listUpdate (.ref s1.heap.objs.size) (fun _ => #[]); letGo old.toList.reverse; Builtin.List.listExtendWith (.ref s1.heap.objs.size) (.ref z) .none) _ _ _
  refine wpAny_bind ?_
  unfold Builtin.List.listItems
  refine wpAny_bind (wpAny_seqItems hS rfl (wpAny_pure ?_))
  show wpAny _ X.A.in1.in1 (updateSeq s1.heap.objs.size (fun _ => #[]) >>= fun _ => letGo (#[] : Array Value).toList.reverse >>= fun _ => Builtin.List.listExtendWith (.ref s1.heap.objs.size) (.ref z) .none) _ _ _
  refine wpAny_bind (wpAny_updateSeq hS rfl ?_)
  have hS2 := Heap.get?_update_self (Obj.mapSeq (fun _ => (#[] : Array Value))) hS rfl
  refine wpAny_bind (wpAny_letGo ?_)
  unfold Builtin.List.listExtendWith
  have up : ∀ (h : Heap) (f : Obj → Obj), (∀ b o, s1.heap.get? b = some o → h.get? b = some o) → ∀ b o, s1.heap.get? b = some o → (h.update s1.heap.objs.size f).get? b = some o := fun h f q b o e =>
    (Heap.get?_update_other _ _ (Ne.symm (Nat.ne_of_lt (Heap.lt_size e)))).trans (q b o e)
  have k1 : ∀ b o, s1.heap.get? b = some o → (s1.heap.push { cls := .type "list", data := .seq #[] }).get? b = some o := fun b o e => Heap.get?_push_of_some _ e
  have k2 := up _ (Obj.mapSeq (fun _ => (#[] : Array Value))) k1
  refine wpAny_bind (wpAny_typeOf (T := "zip") (show Shared.TypeIs _ (.ref z) "zip" from ⟨_, k2 _ _ hz, rfl⟩) ?_)
  have h1' : Builtin.List.listSameRef (.ref s1.heap.objs.size) (.ref z) = false := by simp [Builtin.List.listSameRef, hSz]
  have h2' : (Value.type "zip" == Value.type "list") = false := by decide
  have h3' : (Value.type "zip" == Value.type "tuple") = false := by decide
  simp only [h1', h2', h3', Bool.or_false, Bool.false_eq_true, if_false]
  refine wpAny_bind (wpAny_pyIter_zip (k2 _ _ hz) ?_)
  refine wpAny_bind (wpAny_holding ?_)
  unfold Builtin.List.listLengthHint
  refine wpAny_bind (wpAny_specialOf (T := "zip") (show Shared.TypeIs _ (.ref z) "zip" from ⟨_, k2 _ _ hz, rfl⟩) zip_no_len ?_)
  show wpAny _ X.A.in1.in1 (specialOf (Value.ref z) (Str.ofString "__length_hint__") >>= _) _ _ _
  refine wpAny_bind (wpAny_specialOf (T := "zip") (show Shared.TypeIs _ (.ref z) "zip" from ⟨_, k2 _ _ hz, rfl⟩) zip_no_hint ?_)
  refine wpAny_pure ?_
  show wpAny _ X.A.in1.in1 (rule "list.extend.makes-room" >>= fun _ => Builtin.List.listTouch (.ref s1.heap.objs.size) >>= fun _ =>
    again (.builtin "list.extend.loop" ⟨[.ref s1.heap.objs.size, .ref z, .none], []⟩)) _ _ _
  refine wpAny_bind (wpAny_rule ?_)
  refine wpAny_bind ?_
  show wpAny _ X.A.in1.in1 (updateSeq s1.heap.objs.size (·.push .none) >>= fun _ => updateSeq s1.heap.objs.size (·.pop)) _ _ _
  refine wpAny_bind (wpAny_updateSeq hS2 rfl ?_)
  have hS3 := Heap.get?_update_self (Obj.mapSeq (·.push Value.none)) hS2 rfl
  refine wpAny_updateSeq (hz := by seq_fits) hS3 rfl ?_
  have hS4 := Heap.get?_update_self (Obj.mapSeq (·.pop)) hS3 rfl
  have k4 := up _ (Obj.mapSeq (·.pop)) (up _ (Obj.mapSeq (·.push Value.none)) k2)
  refine wpAny_pure ⟨plainId_quiet F.plain_extend_loop _, ?_⟩
  have hSn : H1 s1.heap.objs.size = none := I1.hok.fresh (Nat.le_refl _)
  refine zl_loop (pins := pins) (σ := σ) (H0 := H1) (xs := xs) (ys := ys) (A := X.A.in1) hA D hSc ha0 hb0 hl (fun s' ts I' e f n => ⟨rfl, ⟨.ref s1.heap.objs.size, _, I', rfl, q ts _ e f n⟩⟩) xs.length [] _ rfl rfl (Nat.zero_le _) trivial hSn ?_ ?_ ?_
  · exact I1.laid (t' := s1.toks) k4 (Nat.le_refl _) (show ObjOk X.prog X.w _ _ _ (.lst []) from ⟨Nat.zero_le _, [], _, .nil, hS4⟩)
  · intro c hcm
    refine ⟨?_, (hf c hcm).2⟩
    show upd H1 s1.heap.objs.size _ c = none
    rw [upd_ne (Nat.ne_of_lt (hzl c hcm))]
    exact (hf c hcm).1
  · exact ⟨k4 _ _ hTI, ⟨_, k4 _ _ hTO⟩, h1.at fun o e => k4 _ o e, h2.at fun o e => k4 _ o e, .inl ⟨k4 _ _ hz, _, _, k4 _ _ hTO⟩⟩
end
/-! ### read over data -/
theorem own_tups {M : Cells} : ∀ (ts : List (Addr × V × V)) (G H : Hp), Own G M H → FreshT H ts → FreshT G ts ∧ Own (tupsAt G ts) M (tupsAt H ts)
  | [], G, H, o, _ => ⟨trivial, o⟩
  | t :: r, G, H, o, ⟨h1, h2⟩ => by
    obtain ⟨a, b⟩ := own_tups r _ _ (o.push h1 (.tup [t.2.1, t.2.2])) h2
    exact ⟨⟨o.ex.free h1, a⟩, b⟩
abbrev zipP (ps qs : List PyData) : List PyData := (ps.zip qs).map fun x => .tuple [x.1, x.2]
theorem rp_tups : ∀ (ts : List (Addr × V × V)) (G : Hp) (ps qs : List PyData), FreshT G ts → RpAll G (ts.map (·.2.1)) ps → RpAll G (ts.map (·.2.2)) qs → RpAll (tupsAt G ts) (refsT ts) (zipP ps qs)
  | [], G, ps, qs, _, r1, r2 => by
    cases r1
    exact .nil
  | t :: r, G, ps, qs, ⟨h1, h2⟩, r1, r2 => by
    cases r1 with
    | cons a1 a2 =>
      cases r2 with
      | cons b1 b2 =>
        have e := Ex.new (o := .tup [t.2.1, t.2.2]) h1
        have ih := rp_tups r _ _ _ h2 (a2.mono e) (b2.mono e)
        exact .cons (.tup ((tupsAt_ex r _ h2) _ _ upd_same) (.cons ((a1.mono e).mono (tupsAt_ex r _ h2)) (.cons ((b1.mono e).mono (tupsAt_ex r _ h2)) .nil))) ih
theorem zip_fst {α β : Type} : ∀ (xs : List α) (ys : List β), xs.length = ys.length → (xs.zip ys).map (·.1) = xs
  | [], _, _ => by simp
  | x :: xs, [], h => by simp at h
  | x :: xs, y :: ys, h => by simp [zip_fst xs ys (by simpa using h)]
theorem zip_snd {α β : Type} : ∀ (xs : List α) (ys : List β), xs.length = ys.length → (xs.zip ys).map (·.2) = ys
  | [], [], _ => rfl
  | [], y :: ys, h => by simp at h
  | x :: xs, [], h => by simp at h
  | x :: xs, y :: ys, h => by simp [zip_snd xs ys (by simpa using h)]
section
variable {W : WD} {ρ : Rho} {M : Cells} {K : D → Cells → Prop} {ta : TA} {te te2 : TE}
theorem se_listZ (h : SA W ta ρ M fun ds M1 => ∃ (d1 d2 : D) (ps qs : List PyData), ds = [d1, d2] ∧ LV M1 d1 (ps.map D.py) ∧ LV M1 d2 (qs.map D.py) ∧ ps.length = qs.length ∧ K (dL (zipP ps qs)) M1) : SE W (tLstZp (tZp ta)) ρ M K := fun G σ H F Q re o mx q =>
  h G σ H F _ re o mx fun ds M1 vs G1 H1 ⟨d1, d2, ps, qs, eds, hv1, hv2, hl, k⟩ e1 r1 o1 => by
    subst eds
    obtain ⟨v, w, rfl, rv, rw'⟩ := r1.two
    obtain ⟨a, xs, rfl, ha, ra⟩ := hv1.at rv o1
    obtain ⟨b, ys, rfl, hb, rb⟩ := hv2.at rw' o1
    have ra' := RDs.all ra
    have rb' := RDs.all rb
    have hl' : xs.length = ys.length := by rw [ra'.length, rb'.length, hl]
    refine ⟨a, b, xs, ys, rfl, ha, hb, xs, ys, ha, hb, hl', fun ts p hts hf hp => ?_⟩
    have q1 : ts.map (·.2.1) = xs := by
      have := congrArg (List.map (·.1)) hts
      rw [zip_fst xs ys hl', List.map_map] at this
      exact this
    have q2 : ts.map (·.2.2) = ys := by
      have := congrArg (List.map (·.2)) hts
      rw [zip_snd xs ys hl', List.map_map] at this
      exact this
    obtain ⟨fg, o2⟩ := own_tups ts G1 H1 o1 hf
    have rr := rp_tups ts G1 ps qs fg (q1 ▸ ra') (q2 ▸ rb')
    have e2 := tupsAt_ex ts G1 fg
    obtain ⟨G', e3, rn, o3⟩ := new_lst o2 hp rr
    exact q _ M1 _ G' _ k (e1.trans (e2.trans e3)) rn o3
theorem rp_rg (G : Hp) (a b : Int) : RpAll G (rgV a b) ((List.range (b - a).toNat).map fun i => PyData.int (a + (i : Nat))) := by
  unfold rgV
  induction List.range (b - a).toNat with
  | nil => exact .nil
  | cons i r ih => exact .cons (.int _) ih
theorem se_listR1 (h : SE W te ρ M fun d M1 => IsI d fun n => 0 ≤ n ∧ n ≤ 1000000 ∧ K (dL ((List.range n.toNat).map fun (i : Nat) => PyData.int i)) M1) : SE W (tLstRg (tRg1 te)) ρ M K := fun G σ H F Q re o mx q =>
  h G σ H F _ re o mx fun d M1 v G1 H1 ⟨n, ed, h0, h1, k⟩ e1 r1 o1 => by
    subst ed
    cases int_of r1
    refine ⟨n, rfl, RgOk.of_le (by omega) (by omega) (by omega) h0, fun p hp => ?_⟩
    have rr := rp_rg G1 0 n
    rw [Int.sub_zero] at rr
    have e : (List.range n.toNat).map (fun (i : Nat) => PyData.int (0 + (i : Nat))) = (List.range n.toNat).map fun (i : Nat) => PyData.int i := by
      congr 1
      funext i
      rw [Int.zero_add]
    rw [e] at rr
    obtain ⟨G', e3, rn, o3⟩ := new_lst o1 hp rr
    exact q _ M1 _ G' _ k (e1.trans e3) rn o3
end
end PL

/-! PL21: sorted(set(xs)) of ints, any number of them. -/
namespace PL
open PySem PySem.Spec PyProof.Rows L2
section
variable {P : Program} {w : World} {A : Around} {E : Value → Shared → Prop} {s : Shared}
set_option maxHeartbeats 3200000 in
theorem call_set_lstI {l : Addr} {items : Array Value} (ns : List Int) {Q : Value → Shared → Prop} (hh : A.handled = none) (hl : s.heap.IsList l items) (hit : IntsAre items.toList ns) (hb : ns.length + 1 < scanBound)
    (h : ∀ (h' : Heap) (tk c : Nat), SetR w h' s.heap.objs.size (fun j => decide (j ∈ ns)) c → c ≤ ns.length → (∀ b o, s.heap.get? b = some o → h'.get? b = some o) → Q (.ref s.heap.objs.size) { s with heap := h', toks := tk }) :
    wpAny (model P w) A (call (.type "set") [.ref l]) Q E s := by
  have hisz : items.size = ns.length := by
    have q := IntsAre.length hit
    rw [Array.length_toList] at q
    exact q
  obtain ⟨c, tl, hmro⟩ := F.called_set.mro
  have hmade := F.called_set.made
  have hsub := F.called_set.sub
  refine wpAny_call (codeAny_of_tree ?_)
  show wpAny _ _ (callAny (.type "set") _) _ _ _
  refine wpAny_pure ⟨Code.quiet_builtin _ (by decide +kernel), codeAny_builtin F.entry_type_call ?_⟩
  rw [Around.under_plain (weight_type_call_type "set" [.ref l] []) rfl]
  have h1 := F.called_set.notType
  have h2 := F.called_set.canCreate
  have hct := F.typeCall_set_1 (.ref l)
  repeat (any_goals (first | assumption | wp_step))

  refine codeAny_mono (code_set_led1 (.ref l) (E := E) (Q₁ := fun obj s₁ => obj = .ref s.heap.objs.size ∧ s₁ = { s with heap := s.heap.push { cls := .type "set", dict := none, data := .set #[] 0 (.fresh 0 0 (!w.params.followText "set-order")) } }) ⟨rfl, rfl⟩) fun r s₁ hr => ?_
  cases r with
  | error e => exact hr
  | ok fl =>
    cases fl with
    | ret obj =>
      obtain ⟨rfl, rfl⟩ := hr
      have hS : (s.heap.push { cls := .type "set", dict := none, data := .set #[] 0 (.fresh 0 0 (!w.params.followText "set-order")) }).get? s.heap.objs.size = some { cls := .type "set", dict := none, data := .set #[] 0 (.fresh 0 0 (!w.params.followText "set-order")) } := Heap.get?_push_size _ rfl
      have hT : Shared.TypeIs { s with heap := s.heap.push { cls := .type "set", dict := none, data := .set #[] 0 (.fresh 0 0 (!w.params.followText "set-order")) } } (.ref s.heap.objs.size) "set" := ⟨_, hS, rfl⟩
      have hli := F.called_set.init.lookup
      have hbi := F.called_set.init.bind (.ref s.heap.objs.size)
      repeat (any_goals (first | assumption | wp_step))

      refine codeAny_mono (codeAny_call_builtin (R := wants (fun r s₂ => r = .none ∧ ∃ h' tk c, s₂ = { s with heap := h', toks := tk } ∧ SetR w h' s.heap.objs.size (fun j => decide (j ∈ ns)) c ∧ c ≤ ns.length ∧
          (∀ b o, s.heap.get? b = some o → h'.get? b = some o)) E) F.called_set.init.plain F.entry_set_init (check_set_init_1 hT ?_)) fun r₂ s₂ hr₂ => ?_
      · obtain ⟨ol, hol, hcl, nl, hdl⟩ := hl
        obtain ⟨ocls, odict, odata, oslots⟩ := ol
        simp only at hcl hdl
        subst hcl; subst hdl
        have hol' : (s.heap.push { cls := .type "set", dict := none, data := .set #[] 0 (.fresh 0 0 (!w.params.followText "set-order")) }).get? l = some { cls := .type "list", dict := odict, data := .seq items nl, slots := oslots } := Heap.get?_push_of_some _ hol
        have hsls := F.sub_list_set
        have hslf := F.sub_list_frozenset
        have hne : (Value.type "list" == Value.type "dict") = false := by decide
        have hl1 : (s.heap.push { cls := .type "set", dict := none, data := .set #[] 0 (.fresh 0 0 (!w.params.followText "set-order")) }).IsList l items := ⟨_, hol', rfl, nl, rfl⟩
        unfold Builtin.«set.__init__» noKeywords Builtin.Frozenset.updateFrom
        generalize hPI : pyIter = PI
        wp_walk
        subst hPI

        refine wpAny_pyIter_list hl1 ?_
        refine wpAny_bind (wpAny_runValue ?_)
        have hlS : l < s.heap.objs.size := Heap.lt_size hol
        have hh3 : A.in1.in1.in1.handled = none := by simp [hh]
        have hz1 : (s.heap.push { cls := .type "set", dict := none, data := .set #[] 0 (.fresh 0 0 (!w.params.followText "set-order")) }).objs.size = s.heap.objs.size + 1 := Heap.size_push ..
        have hneI : l ≠ (s.heap.push { cls := .type "set", dict := none, data := .set #[] 0 (.fresh 0 0 (!w.params.followText "set-order")) }).objs.size := by
          rw [Heap.size_push]; exact Nat.ne_of_lt (Nat.lt_succ_of_lt hlS)
        have hSf : s.heap.objs.size ∉ [(s.heap.push { cls := .type "set", dict := none, data := .set #[] 0 (.fresh 0 0 (!w.params.followText "set-order")) }).objs.size, l] := by
          rw [Heap.size_push]; simp only [List.mem_cons, List.mem_singleton, List.not_mem_nil, or_false, not_or]
          exact ⟨Nat.ne_of_lt (Nat.lt_succ_self _), Nat.ne_of_gt hlS⟩
        have hval : ∀ (i : Nat) (v : Value), items[i]? = some v → ∃ k t, ns[i]? = some k ∧ v = .int k t := fun i v hv => by
          have hi : i < ns.length := by rw [← hisz]; exact (Array.getElem?_eq_some_iff.mp hv).1
          obtain ⟨t, e⟩ := PyProof.Rows.IntsAre.int_at hit i v (by rw [Array.getElem?_toList]; exact hv)
          refine ⟨ns[i], t, List.getElem?_eq_getElem hi, ?_⟩
          rw [e, List.getD_eq_getElem?_getD, List.getElem?_eq_getElem hi] <;> rfl
        refine set_update_ints ((Walks.list hh3 _ l hneI items).toS) s.heap.objs.size
          hSf ns hisz hb hval (items.size - 0) 0 _ (by omega) (Nat.zero_le _)
          ⟨⟨_, Heap.get?_push_size _ rfl, rfl, rfl⟩, (hl1.push _)⟩ ?hS0 ?hR
        case hS0 =>
          have hget : ((s.heap.push { cls := .type "set", dict := none, data := .set #[] 0 (.fresh 0 0 (!w.params.followText "set-order")) }).push { cls := .type "list_iterator", data := .fields #[.ref l, .int 0 0] }).get? s.heap.objs.size
              = some { cls := .type "set", dict := none, data := .set #[] 0 (.fresh 0 0 (!w.params.followText "set-order")) } := Heap.get?_push_of_some _ hS
          exact ⟨0, Nat.le_refl 0, setR_new_at hget⟩
        case hR =>
          intro s' c' hm hc' hS'
          obtain ⟨h', g2, d', tk', os'⟩ := s'
          have eg : g2 = s.gens := hm.gens
          have ed : d' = s.drawn := hm.drawn
          have eo : os' = s.os := hm.os
          subst eg; subst ed; subst eo
          show wpAny _ _ _ _ _ _
          refine wpAny_pure ?_
          show wpAny _ _ (ret Value.none) _ _ _
          rw [hisz] at hc'
          refine wpAny_pure ⟨rfl, h', tk', c', rfl, hS', hc', fun b o e => ?_⟩
          have hb0 : b < s.heap.objs.size := Heap.lt_size e
          have hb1 : b ≠ s.heap.objs.size := Nat.ne_of_lt hb0
          have hb2 : b ≠ (s.heap.push { cls := .type "set", dict := none, data := .set #[] 0 (.fresh 0 0 (!w.params.followText "set-order")) }).objs.size := by
            rw [Heap.size_push]; exact Nat.ne_of_lt (Nat.lt_succ_of_lt hb0)
          exact hm.heap b o (by simp only [List.mem_cons, List.mem_singleton, List.not_mem_nil, or_false, not_or]; exact ⟨hb1, hb2⟩) (Heap.get?_push_of_some _ (Heap.get?_push_of_some _ e))

      · cases r₂ with
        | error e => exact hr₂
        | ok fl₂ =>
          cases fl₂ with
          | ret r =>
            obtain ⟨rfl, h', tk, c', rfl, hS', hc', hk'⟩ := hr₂
            repeat (any_goals (first | assumption | wp_step))
            exact h _ _ _ hS' hc' hk'
          | _ => exact hr₂.elim
    | _ => exact hr.elim
theorem sorted_setA {a : Addr} {S : Int → Bool} {n : Nat} {Q : Value → Shared → Prop} (R : SetR w s.heap a S n) (hh : A.handled = none) (hsm : n ≤ 100000)
    (hQ : ∀ s' p (out : List Value) (c : Nat) (ns : List Int), (∀ b o, s.heap.get? b = some o → s'.heap.get? b = some o) → s'.gens = s.gens → s'.os = s.os → s.heap.objs.size ≤ p →
      s'.heap.get? p = some (seqObj "list" out.toArray c) → IntsAre out ns → ns.Pairwise (· < ·) → (∀ k, k ∈ ns ↔ S k = true) → ns.length = n → Q (.ref p) s') :
    wpAny (model P w) A (call (.builtin "sorted") [.ref a]) Q E s := by
  obtain ⟨o, es, ep, t, ho, hex, hd, g, nd, hm, hb, hf, hn, hr, hl⟩ := R
  refine Calls.call_function_entry kind_sorted plain_sorted entry_sorted (args_sorted1 _) ?_
  unfold Builtin.«sorted»
  refine wpAny_bind (m := checkCount "sorted" 1 1 _) (wpAny_pure ?_)
  refine wpAny_bind (collect_set (A := A.in1) hh ⟨o, ho, hex.1, hd⟩ hf hb hr hl fun s1 vs k1 hz g1 o1 pm => ?_)
  have hvl : vs.length = n := by rw [pm.length_eq, List.length_map, Array.length_toList]; exact hn
  have hI : IntsAre vs (vs.map Builtin.Re.reRawOf) := ints_of vs fun v hv => by
    obtain ⟨e, he, q⟩ := List.mem_map.mp (pm.mem_iff.mp hv)
    obtain ⟨k, tk, h1, _⟩ := g e he
    exact ⟨k, tk, by rw [← q]; exact h1⟩
  have pk : (vs.map Builtin.Re.reRawOf).Perm (es.toList.map keyOf) := by
    have q := pm.map Builtin.Re.reRawOf
    rw [List.map_map] at q
    exact q
  have hvz : vs.length ≤ sizeLine := by rw [hvl, sizeLine_eq]; omega
  refine wpAny_bind (wpAny_newList ?_ hvz)
  have hoL : (s1.heap.push (seqObj "list" vs.toArray 0)).get? s1.heap.objs.size = some (seqObj "list" vs.toArray 0) := Heap.get?_push_size _ rfl
  refine wpAny_bind (wpAny_holding (wpAny_call_entry slot_list_sort ⟨_, hoL, rfl⟩ entry_list_sort (SrtO.list_sort_ord SrtO.swo_int hoL hvz (fun h2 => SrtO.ints_sortable hI h2) fun out h1 h2 => ⟨_, rfl, ?_⟩) (args_list_sort _)))
  obtain ⟨q1, q2, q3⟩ := SrtO.ints_out hI h1 h2
  obtain ⟨c, hc⟩ := sortedHeap_at (vs := vs) (out := out.toArray) hoL
  have pn : (out.map SrtO.iv).Perm (es.toList.map keyOf) := q2.trans pk
  refine wpAny_pure ⟨_, rfl, hQ _ s1.heap.objs.size out c (out.map SrtO.iv) (fun b u e => ?_) g1 o1 hz hc q1 (lt_of_le_nodup _ q3 (pn.nodup_iff.mpr nd)) (fun k => by rw [pn.mem_iff, ← hm k]) ?_⟩
  · have q := k1 b u e
    have hlt := Heap.lt_size q
    show (sortedHeap (s1.heap.push (seqObj "list" vs.toArray 0)) s1.heap.objs.size vs out.toArray).get? b = some u
    rw [sortedHeap_old (Nat.ne_of_lt hlt) (by rw [size_push']; exact Nat.lt_succ_of_lt hlt)]
    exact Heap.get?_push_of_some _ q
  · rw [pn.length_eq, List.length_map, Array.length_toList]; exact hn
end
section
variable {X : Cx} {pins : List (Addr × Obj)} {σ : L2.St} {e : Expr} {te : TE}
/-- an expression that makes a set of ints -/
def PSt (X : Cx) (e : Expr) (t : L2.St → Hp → (List Int → Hp → Prop) → Prop) : Prop :=
  ∀ (pins : List (Addr × Obj)) (s : Shared) (σ : L2.St) (H : Hp) (Q : List Int → Hp → Prop), Inv X pins σ H s → t σ H Q →
    wpAny (model X.prog X.w) X.A (eval e X.env) (fun x s' => ∃ (a : Addr) (ns : List Int) (c : Nat) (H' : Hp), x = .ref a ∧ Inv X pins σ H' s' ∧ SetR X.w s'.heap a (fun j => decide (j ∈ ns)) c ∧ c ≤ 4000 ∧ Q ns H') X.xe s
def tSetI (te : TE) : L2.St → Hp → (List Int → Hp → Prop) → Prop := fun σ H Q => te σ H fun v H1 => ∃ (l : Addr) (ns : List Int), v = .ref l ∧ H1 l = some (.lst (ns.map V.int)) ∧ ns.length ≤ 4000 ∧ Q ns H1
theorem pst_set {p2 pos2 : Pos} (hc : X.calm = true) (hg2 : Gl X "set") (hm2 : X.mg "set" = none) (he : PE X e te)
    (na : starEach [e] X.env = (false, eval e X.env) :: starEach [] X.env := by rfl) : PSt X (.Call (.Name "set" p2) [e] [] pos2) (tSetI te) := by
  intro pins s σ H Q I h
  refine Call_ (ld_blt I hg2 hm2 boot_set (callWith_type1 (one_arg he I h (fun v s2 x H2 I2 r q => ?_) na) na))
  obtain ⟨l, ns, rfl, hl, hn, q⟩ := q
  obtain rfl : v = Value.ref l := r
  obtain ⟨its, rv, pl, hz⟩ := I2.list (.inl (.inl hl))
  have hi := rv.ints
  refine call_set_lstI (I2.ok.hd hc) pl.isList (ns := ns) (by simpa using hi) (by unfold scanBound; omega) fun h' tk c hS hcn hk => ?_
  exact ⟨_, ns, c, H2, rfl, I2.kept (t' := tk) hk, hS, by omega, q⟩
/-- sorted(set(xs)) -/
def tSortSet (te : L2.St → Hp → (List Int → Hp → Prop) → Prop) : TE := fun σ H Q => te σ H fun ns H1 =>
  ∀ (ns' : List Int) (p : Addr), ns'.Pairwise (· < ·) → (∀ k, k ∈ ns' ↔ k ∈ ns) → H1 p = none → Q (.ref p) (upd H1 p (.lst (ns'.map V.int)))
theorem pe_sortSet {ts : L2.St → Hp → (List Int → Hp → Prop) → Prop} {p pos : Pos} (hc : X.calm = true) (hg : Gl X "sorted") (hm : X.mg "sorted" = none) (he : PSt X e ts)
    (na : starEach [e] X.env = (false, eval e X.env) :: starEach [] X.env := by rfl) :
    PE X (.Call (.Name "sorted" p) [e] [] pos) (tSortSet ts) := by
  refine ⟨fun pins s σ H Q I h => ?_⟩
  refine Call_ (ld_blt I hg hm boot_sorted (callWith_builtin1 (args_cons (thn (he pins s σ H _ I h) fun x s2 ⟨a, ns, c, H1, ex, I1, R, hcn, q⟩ => args_nil ?_) na) na))
  subst ex
  refine sorted_setA R (I1.ok.hd hc) (by omega) fun s' p out c ns' k g o hp hg hi hs hm hl => ?_
  have hlen : (ns'.map V.int).length ≤ sizeLine := by rw [List.length_map, hl, sizeLine_eq]; omega
  have hn : H1 p = none := I1.hok.fresh hp
  have J : Inv X pins σ (upd H1 p (.lst (ns'.map V.int))) { s2 with heap := s'.heap, gens := s'.gens, drawn := s'.drawn, toks := s'.toks } :=
    I1.call (ch := []) (Un.laid k hp hn) (I1.hok.laid k hp ⟨hlen, out, c, vals_of_ints hi, hg⟩) (by rw [g]; exact I1.bare) (fun _ z => nomatch z)
  have e : s' = { s2 with heap := s'.heap, gens := s'.gens, drawn := s'.drawn, toks := s'.toks } := by
    cases s'
    cases s2
    cases o
    rfl
  rw [e]
  exact ⟨.ref p, _, J, rfl, q ns' p hs (fun k => by rw [hm k]; simp) hn⟩
end
section
variable {W : WD} {ρ : Rho} {M : Cells} {K : D → Cells → Prop} {te : TE}
theorem se_sortSet (h : SE W te ρ M fun d M1 => ∃ ns : List Int, LV M1 d ((ns.map PyData.int).map D.py) ∧ ns.length ≤ 4000 ∧ ∀ ns' : List Int, ns'.Pairwise (· < ·) → (∀ k, k ∈ ns' ↔ k ∈ ns) → K (dL (ns'.map PyData.int)) M1) : SE W (tSortSet (tSetI te)) ρ M K := fun G σ H F Q re o mx q =>
  h G σ H F _ re o mx fun d M1 v G1 H1 ⟨ns, hv, hl, k⟩ e1 r1 o1 => by
    obtain ⟨a, vs, rfl, ha, hr⟩ := hv.at r1 o1
    have := RpAll.ints (RDs.all hr)
    subst this
    refine ⟨a, ns, rfl, ha, hl, fun ns' p h1 h2 hp => ?_⟩
    obtain ⟨G', e3, rn, o3⟩ := new_lst o1 hp (RpAll.ofInts ns')
    exact q _ M1 _ G' _ (k ns' h1 h2) (e1.trans e3) rn o3
end
/-! ### lists compared, cells among them -/
section
variable {M : Cells} {K : D → Cells → Prop} {Kf : PySem.W.Frag}
theorem lv_dp {G H : Hp} {F : Cells} (o : Own G (M ++ F) H) {v : V} {d : D} {ps : List PyData} (hv : LV M d (ps.map D.py)) (r : RD G v d) : Dp Kf H v (.list ps) := by
  obtain ⟨a, vs, rfl, ha, hr⟩ := hv.at r o
  exact Rp.dp (.lst ha ((RDs.all hr).mono o.ex))
theorem or_neV {d e : D} {ps qs : List PyData} (h1 : LV M d (ps.map D.py)) (h2 : LV M e (qs.map D.py)) (s1 : SeqAt.shaped (.list ps) = true) (s2 : SeqAt.shaped (.list qs) = true) (k : K (dB (!PyData.eqv (.list ps) (.list qs))) M) : OR (rNeA Kf) d e M K :=
  fun G H F u v Q r1 r2 o qq => .inr ⟨_, _, lv_dp o h1 r1, lv_dp o h2 r2, s1, s2, qq _ M _ G H k (Ex.refl G) (Rp.bl _) o⟩
theorem or_neVN {d : D} {ps : List PyData} (h1 : LV M d (ps.map D.py)) (s1 : SeqAt.shaped (.list ps) = true) (k : K (dB true) M) : OR (rNeA Kf) d dN M K :=
  fun G H F u v Q r1 r2 o qq => .inr ⟨_, _, lv_dp o h1 r1, rd_dp o r2, s1, rfl, by
    have e : PyData.eqv (.list ps) .none = false := by rw [PyData.eqv]
    rw [e]
    exact qq _ M _ G H k (Ex.refl G) (Rp.bl _) o⟩
end
end PL

/-! PL22: two lists put together into a cell of one's own. -/
namespace PL
open PySem PySem.Spec L2
section
variable {W : WD} {ρ : Rho} {M : Cells} {K : D → Cells → Prop} {Kf : PySem.W.Frag}
theorem or_catC {x y : D} {ps qs : List PyData} (h1 : LV M x (ps.map D.py)) (h2 : LV M y (qs.map D.py)) (hl : ps.length + qs.length ≤ 1000000) (k : ∀ p, K (dR p) (M ++ [(p, Cl (ps ++ qs))])) : OR rAddA x y M K := fun G H F u v Q r1 r2 o q => by
  obtain ⟨a, vs, rfl, ha, ra⟩ := h1.at r1 o
  obtain ⟨b, ws, rfl, hb, rb⟩ := h2.at r2 o
  have ra' := RDs.all ra
  have rb' := RDs.all rb
  exact .inr (.inr ⟨a, b, vs, ws, rfl, rfl, ha, hb, by rw [ra'.length, rb'.length]; exact big_ok hl, fun p hp => q (dR p) _ _ G _ (k p) (Ex.refl G) rfl (o.cell hp ⟨_, upd_same, RDs.of (ra'.append rb')⟩)⟩)
end
end PL

/-! PL23: a pair of a cell and an int, made and taken apart. -/
namespace PL
open PySem PySem.Spec L2
section
variable {W : WD} {ρ : Rho} {M : Cells} {K : D → Cells → Prop} {KE : Rho → Cells → Prop} {Kf : PySem.W.Frag} {ta : TA}
/-- (cell, int) -/
abbrev dPair (Kf : PySem.W.Frag) (a : Addr) (t : Int) : D := .sqt Kf [.ref a, .int t]
theorem se_tupQ (h : SA W ta ρ M fun ds M' => ∃ a t, ds = [dR a, dI t] ∧ K (dPair Kf a t) M') : SE W (tTup ta) ρ M K := fun G σ H F Q re o mx q =>
  h G σ H F _ re o mx fun ds M1 vs G1 H1 ⟨a, t, eu, k⟩ e1 r1 o1 => by
    subst eu
    obtain ⟨v, w, rfl, ra, rb⟩ := r1.two
    obtain rfl : v = .ref a := ra
    cases int_of rb
    refine ⟨big_ok (n := 2) (by decide), fun p hp => ?_⟩
    have e2 : Ex G1 (upd G1 p (.tup [.ref a, .int t])) := Ex.new (o1.ex.free hp)
    exact q (dPair Kf a t) M1 _ (upd G1 p (.tup [.ref a, .int t])) _ k (e1.trans e2) ⟨p, rfl, SqT.of upd_same⟩ (o1.push hp _)
theorem sg_seqQ {gs : TGs} {a : Addr} {t : Int} (h : SGs W gs [dR a, dI t] ρ M KE) : SG W (gSeq Kf 2 gs) (dPair Kf a t) ρ M KE := fun G σ H F v Q r re o mx q => by
  obtain ⟨b, rfl, hq⟩ := r
  have hq' : SqT Kf H b [.ref a, .int t] := by
    rcases hq with (h1 | ⟨o', h1⟩) | h1
    · exact .inl (.inl (o.ex _ _ h1))
    · exact .inl (.inr ⟨o', o.ex _ _ h1⟩)
    · exact .inr h1
  refine .inl ⟨b, _, rfl, hq', rfl, h G σ H F _ Q (.cons rfl (.cons (Rp.int _) .nil)) re o mx q⟩
end
section
variable {W : WD} {ρ : Rho} {M : Cells} {K : D → Cells → Prop} {KE : Rho → Cells → Prop} {Kf : PySem.W.Frag} {ta : TA}
/-- (cell, int, int) -/
abbrev dTrip (Kf : PySem.W.Frag) (a : Addr) (t u : Int) : D := .sqt Kf [.ref a, .int t, .int u]
theorem se_tupQ3 (h : SA W ta ρ M fun ds M' => ∃ a t u, ds = [dR a, dI t, dI u] ∧ K (dTrip Kf a t u) M') : SE W (tTup ta) ρ M K := fun G σ H F Q re o mx q =>
  h G σ H F _ re o mx fun ds M1 vs G1 H1 ⟨a, t, u, eu, k⟩ e1 r1 o1 => by
    subst eu
    obtain ⟨v, w, x, rfl, ra, rb, rc⟩ := r1.three
    obtain rfl : v = .ref a := ra
    cases int_of rb
    cases int_of rc
    refine ⟨big_ok (n := 3) (by decide), fun p hp => ?_⟩
    have e2 : Ex G1 (upd G1 p (.tup [.ref a, .int t, .int u])) := Ex.new (o1.ex.free hp)
    exact q (dTrip Kf a t u) M1 _ (upd G1 p (.tup [.ref a, .int t, .int u])) _ k (e1.trans e2) ⟨p, rfl, SqT.of upd_same⟩ (o1.push hp _)
theorem sg_seqQ3 {gs : TGs} {a : Addr} {t u : Int} (h : SGs W gs [dR a, dI t, dI u] ρ M KE) : SG W (gSeq Kf 3 gs) (dTrip Kf a t u) ρ M KE := fun G σ H F v Q r re o mx q => by
  obtain ⟨b, rfl, hq⟩ := r
  have hq' : SqT Kf H b [.ref a, .int t, .int u] := by
    rcases hq with (h1 | ⟨o', h1⟩) | h1
    · exact .inl (.inl (o.ex _ _ h1))
    · exact .inl (.inr ⟨o', o.ex _ _ h1⟩)
    · exact .inr h1
  refine .inl ⟨b, _, rfl, hq', rfl, h G σ H F _ Q (.cons rfl (.cons (Rp.int _) (.cons (Rp.int _) .nil))) re o mx q⟩
end
section
variable {W : WD} {ρ : Rho} {M : Cells} {P : PD} {ta : TA}
theorem ss_par3 {i j l : Nat} (h : SA W ta ρ M fun ds M' => ∃ a b c, ds = [a, b, c] ∧ P.nx (((ρ.set i (some a)).set j (some b)).set l (some c)) M') : SS W (tPar3 i j l ta) ρ M P := fun G σ H F D re o mx md =>
  h G σ H F _ re o mx fun ds M1 vs G1 H1 ⟨a, b, c, ed, k⟩ e1 r1 o1 => by
    subst ed
    obtain ⟨v, w, x, rfl, ra, rb, rc⟩ := r1.three
    exact ⟨_, _, _, rfl, md.nx _ M1 _ G1 H1 k e1 ((((re.mono e1).set ra i).set rb j).set rc l) o1⟩
end
/-! ### name *= e -/
def ipM : TIp := fun x y H Q => ∃ i j, x = .int i ∧ y = .int j ∧ IntMulOk i j ∧ Q (.int (i * j)) H
theorem ip_mul {X : Cx} : PIp X .Mult ipM := by
  intro pins s σ H x y v u Q I r1 r2 h
  obtain ⟨i, j, e1, e2, hok, q⟩ := h
  subst e1; subst e2
  obtain ⟨t, rfl⟩ := r1
  obtain ⟨t', rfl⟩ := r2
  exact PySem.P.imul_int ⟨.int _, H, I.tok _, ⟨_, rfl⟩, q⟩ hok
section
variable {W : WD} {ρ : Rho} {M : Cells} {P : PD} {te : TE}
theorem ss_augM {i : Nat} {a : Int} (ha : ρ[i]? = some (some (dI a))) (h : SE W te ρ M fun d M' => IsI d fun b => IntMulOk a b ∧ P.nx (ρ.set i (some (dI (a * b)))) M') : SS W (tAug i te ipM) ρ M P := fun G σ H F D re o mx md => by
  obtain ⟨v, ev, rv⟩ := re.get ha
  refine ⟨v, ev, h G σ H F _ re o mx fun d M1 w G1 H1 ⟨b, ed, hok, k⟩ e1 r1 o1 => ?_⟩
  subst ed
  cases int_of r1
  cases int_of rv
  exact ⟨a, b, rfl, rfl, hok, md.nx _ M1 _ G1 H1 k e1 ((re.mono e1).set (d := dI (a * b)) (Rp.int _) i) o1⟩
end
end PL

/-! PL24 (begun): an exception that is caught by a clause of six classes and kept behind its suite. -/
namespace PL
open PySem PySem.Spec PyProof.Rows L2
/-- at a stands an exception of the class cls -/
def ExK (cls : Value) (a : Addr) : HO := .ext fun h => ∃ (oe : Obj) (vs : Array Value), h.get? a = some oe ∧ Zc cls none oe ∧ oe.data = .fields vs
theorem exK_ok {P : Program} {w : World} {H : Hp} {h : Heap} {a : Addr} {cls : Value} {oe : Obj} {vs : Array Value} (e : h.get? a = some oe) (z : Zc cls none oe) (d : oe.data = .fields vs) : ObjOk P w H h a (ExK cls a) :=
  ⟨⟨oe, vs, e, z, d⟩, ⟨oe, e⟩, fun h1 h2 ⟨oe, vs, e, z, d⟩ k => ⟨oe, vs, k _ e, z, d⟩⟩
section
variable {X : Cx} {pins : List (Addr × Obj)} {σ : L2.St} {H : Hp} {sI s' : Shared} {B : Heap}
/-- as Inv.landed, the exception tracked -/
theorem landedK (I : Inv X pins σ H sI) (nb : ∀ b o, sI.heap.get? b = some o → b ∉ frs X.stack → B.get? b = some o) (st : B.StaysIn s'.heap) (up : sI.heap.UpToSlots s'.heap) (os : s'.os = sI.os) (ag : AllBare s'.gens)
    {a : Addr} {o : HO} (ha : sI.heap.get? a = none) (na : H a = none) (new : ObjOk X.prog X.w (upd H a o) s'.heap a o) : Inv X pins σ (upd H a o) s' := by
  have nf : ∀ b ∈ frs X.stack, ∀ o, sI.heap.get? b = some o → ∃ sl, s'.heap.get? b = some { o with slots := sl } := fun b hb o e => by
    obtain ⟨_, o', e', hd⟩ := I.stack.mem hb
    rw [e] at e'; cases e'
    exact up b o e hd
  have hok : HOk X.prog X.w H s'.heap := (I.inGround nb).kept st
  have J := I.call (ch := []) (h' := s'.heap) (g' := s'.gens) (t' := s'.toks) (d' := s'.drawn) (H' := upd H a o)
    ⟨fun b o e _ hb _ => st b o (nb b o e hb), fun b o e _ hb _ => nf b hb o e, fun b u e n _ => by rw [upd_ne (fun z => by rw [z, ha] at e; cases e)]; exact n, fun b o e _ => by
      by_cases hb : b ∈ frs X.stack
      · obtain ⟨sl, q⟩ := nf b hb o e
        exact ⟨_, q⟩
      · exact ⟨o, st b o (nb b o e hb)⟩, fun b xs e => by rw [upd_ne (ne_of_none e na)]; exact e, fun b u xs e => by rw [upd_ne (ne_of_none e na)]; exact e, fun b ps e => ⟨#[], by rw [upd_ne (ne_of_none e na), e]; simp⟩⟩
    (hok.laidN (fun _ _ e => e) na new) ag (fun _ z => nomatch z)
  obtain ⟨a1, a2, a3, a4, a5⟩ := s'
  have e5 : a5 = sI.os := os
  subst e5
  exact J
/-- into the suite, the exception tracked, not pinned -/
theorem suiteK {s : Shared} (I : Inv X pins σ H s) (a : Addr) : Inv (X.suite a (X.pn ++ pins)) [] σ H s :=
  ⟨I.ok.suite _ _, I.os, I.bare, I.base, I.loc, I.cell, I.free, I.freeC, fun p hp => by
    have hp' : p ∈ X.pn ++ pins := by rw [List.append_nil] at hp; exact hp
    exact I.pin p hp', I.hok, I.len⟩
theorem unsuiteK {s : Shared} {a : Addr} (I : Inv (X.suite a (X.pn ++ pins)) [] σ H s) (ok : X.Ok) : Inv X pins σ H s :=
  ⟨ok, I.os, I.bare, I.base, I.loc, I.cell, I.free, I.freeC, fun p hp => I.pin p (List.mem_append_left _ hp), I.hok, I.len⟩
end
end PL
namespace PySem.W
open PySem PySem.Spec PySem.Calls PyProof.Rows
/-- six classes, the first of them takes it -/
theorem exm_six {M : Model} {K : Frag} {c1 c2 c3 c4 c5 c6 cls : Value} {tp e : Addr} {b2 b3 b4 b5 b6 : Bool} {h : Heap} (X : K.In h) (LT : Looks M h (typeOf (.ref e)) cls) (hp : h.get? tp = some { cls := .type "tuple", data := .seq [c1, c2, c3, c4, c5, c6].toArray })
    (x1 : exmOne K cls c1 = some true) (x2 : exmOne K cls c2 = some b2) (x3 : exmOne K cls c3 = some b3) (x4 : exmOne K cls c4 = some b4) (x5 : exmOne K cls c5 = some b5) (x6 : exmOne K cls c6 = some b6) :
    Looks M h (excMatches (.ref e) (.ref tp)) true := by
  intro A Q E s k₀ q
  obtain ⟨hh, g, d, tk, os⟩ := s
  have k : ∀ b o, h.get? b = some o → hh.get? b = some o := k₀
  have LT0 : Looks M h (isInstance (.ref tp) (.type "tuple")) true := ((Looks.ld hp).andThen .now).andThen (Looks.of_pure isSubtype_tuple_tuple)
  obtain ⟨e1, S1⟩ := exm_cls (M := M) X x1
  obtain ⟨e2, S2⟩ := exm_cls (M := M) X x2
  obtain ⟨e3, S3⟩ := exm_cls (M := M) X x3
  obtain ⟨e4, S4⟩ := exm_cls (M := M) X x4
  obtain ⟨e5, S5⟩ := exm_cls (M := M) X x5
  obtain ⟨e6, S6⟩ := exm_cls (M := M) X x6
  have e1 := e1.keeps k
  have S1 := S1.keeps k
  have e2 := e2.keeps k
  have e3 := e3.keeps k
  have e4 := e4.keeps k
  have e5 := e5.keeps k
  have e6 := e6.keeps k
  have LT := LT.keeps k
  have LT0 := LT0.keeps k
  have hp' := k _ _ hp
  unfold excMatches
  refine wpAny_bind (LT0.at ?_)
  dsimp only
  rw [if_pos rfl]
  first
    | refine wpAny_bind (wpAny_seqItems hp' rfl ?_)
    | refine wpAny_bind (wpAny_bind (wpAny_seqItems hp' rfl (wpAny_pure ?_)))
  dsimp only [Option.getD_some, Option.getD]
  ((repeat (first | simp only [List.forIn_cons, List.forIn_nil, Bool.not_true, Bool.false_eq_true, if_false, if_true] | lk)); exact q)
end PySem.W
namespace PL
open PySem PySem.Spec PyProof.Rows L2
theorem flyK {base h h' : Heap} {l : List Env} {e : Addr} {Z : Obj → Prop} (x : HandSPX.FlyingZ base l e Z h) (k : ∀ b o, h.get? b = some o → h'.get? b = some o) : HandSPX.FlyingZ base l e Z h' := by
  obtain ⟨x1, x2, x3, oe, vs, T, oT, ts, y1, y2, y3, y4, y5, y6, y7, y8, y9⟩ := x
  exact ⟨fun b o q => k _ _ (x1 b o q), x2, Heap.FunFrames.of_keeps (fun b o q _ => ⟨o, k _ _ q, rfl⟩) x3, oe, vs, T, oT, ts, k _ _ y1, y2, y3, y4, y5, y6, k _ _ y7, y8, y9⟩
/-- what 'except (six classes) as n' wishes, if the first takes it: the exception is tracked behind it -/
def wSix (K : PySem.W.Frag) (c1 c2 c3 c4 c5 c6 : Value) (i : Nat) (ts : Addr → TS) (D : Ends) : WX := fun cls d σ H => PySem.W.exmOne K cls c1 = some true ∧ (∃ b2 b3 b4 b5 b6, PySem.W.exmOne K cls c2 = some b2 ∧ PySem.W.exmOne K cls c3 = some b3 ∧ PySem.W.exmOne K cls c4 = some b4 ∧ PySem.W.exmOne K cls c5 = some b5 ∧ PySem.W.exmOne K cls c6 = some b6) ∧ d = none ∧
  ∀ a, H a = none → ts a { nx := fun σ' H' => D.nx (σ'.set i none) H', rt := D.rt, bk := fun σ' H' => D.bk (σ'.set i none) H', ct := fun σ' H' => D.ct (σ'.set i none) H' } (σ.set i (some (.ref a))) (upd H a (ExK cls a))
section
variable {X : Cx} {x1 x2 x3 x4 x5 x6 n : Str} {c1 c2 c3 c4 c5 c6 : Value} {i kk : Nat} {body suite : List Stmt} {b₀ : Stmt} {p1 p2 p3 p4 p5 p6 tpos pos pos' : Pos} {tb : WX → TS} {ts : Addr → TS}
theorem ps_try_six (hs : X.stack = X.env :: X.outer) (hf : X.env.frame = some X.env.locals) (hN : X.N.Nodup) (hi : X.N[i]? = some n) (hln : X.env.kindOf n = some .local)
    (h1 : Names X x1 c1) (h2 : Names X x2 c2) (h3 : Names X x3 c3) (h4 : Names X x4 c4) (h5 : Names X x5 c5) (h6 : Names X x6 c6)
    (hb : ∀ (W : WX) (pn : List (Addr × Obj)) (xe : Value → Shared → Prop), Takes (X.tr pn xe) W → PassesOwn (model X.prog X.w) X.A X.env xe → PSs (X.tr pn xe) body (tb W))
    (hsu : ∀ (a : Addr) (pn : List (Addr × Obj)), PSs (X.suite a pn) (b₀ :: suite) (ts a)) :
    PS X (.Try body [.ExceptHandler (some (.Tuple [.Name x1 p1, .Name x2 p2, .Name x3 p3, .Name x4 p4, .Name x5 p5, .Name x6 p6] kk tpos)) (some n) (b₀ :: suite) pos'] [] [] pos) (fun D σ H => tb (wSix X.K c1 c2 c3 c4 c5 c6 i ts D) D σ H) := by
  refine ⟨fun pins s σ H D I h => ?_⟩
  have ok := I.ok
  have hfr : X.A.frames = some (X.env :: X.outer) := by rw [ok.frames, hs]
  have hloc : Loc X.env.scope n := .inl hln
  refine wpAny_Try_except ?_
  refine wpAny_mono ((hb (wSix X.K c1 c2 c3 c4 c5 c6 i ts D) (X.pn ++ pins) (fun e s₁ => wpAny (model X.prog X.w) X.A (noteFrame e X.env) (fun _ s₂ => wpAny (model X.prog X.w) X.A (setFlight e none) (fun _ s₃ =>
    wpAny (model X.prog X.w) X.A (handleBy e X.env [.ExceptHandler (some (.Tuple [.Name x1 p1, .Name x2 p2, .Name x3 p3, .Name x4 p4, .Name x5 p5, .Name x6 p6] kk tpos)) (some n) (b₀ :: suite) pos']) (SP X pins D) X.xe s₃) X.xe s₂) X.xe s₁) (fun u s' xx => ?_) PassesOwn.looking).run [] s σ H D (I.toTry _) h) (fun f s1 hsp => ?_) (fun e s1 he => he)
  · obtain ⟨a, B, sI, pins', σ', H', cls, d, rfl, J', nb, up, sky, na, os, ag, hb1, ⟨b2, b3, b4, b5, b6, hb2, hb3, hb4, hb5, hb6⟩, rfl, hyes⟩ := xx
    have J : Inv X pins σ' H' sI := J'.ofTry ok
    have sky' : Sky B (X.env :: X.outer) a (Zc cls none) X.env.locals s'.heap := by rw [← hs]; exact sky
    show wpAny (model X.prog X.w) X.A (noteFrame (.ref a) X.env) _ _ _
    refine Sky.land Zc.steady hfr hf sky' fun h3' fl3 up3 => ?_
    have J3 : Inv X pins σ' H' { s' with heap := h3' } := J.landed nb fl3.1 (up.trans up3) os ag
    obtain ⟨oe3, vs3, he3, hz3, hd3⟩ := fl3.there
    have nfr : a ∉ frs (X.env :: X.outer) := fun hm => by
      obtain ⟨_, o', e', hnf⟩ := fl3.2.2.1.mem hm
      rw [he3] at e'; cases e'
      exact hnf _ hd3
    have nL : a ≠ X.env.locals := fun z => nfr (List.mem_filterMap.mpr ⟨X.env, List.mem_cons_self, by rw [hf, z]⟩)
    have nF : a ∉ X.fs := fun hm => by
      obtain ⟨e, he, q⟩ := List.mem_filterMap.mp hm
      exact nfr (List.mem_filterMap.mpr ⟨e, List.mem_cons_of_mem _ he, q⟩)
    have haI : sI.heap.get? a = none := by
      cases hq : sI.heap.get? a with
      | none => rfl
      | some o =>
        have := nb a o hq (by rw [hs]; exact nfr)
        rw [fl3.2.1] at this
        cases this
    have S3 := J3.suite he3 hd3 na nL nF
    refine wpAny_handleBy_cons (codeAny_handlers_test ?_) (by intro q; cases q)
    have test : ∀ {x : Str} {c : Value} {np : Pos} {Q : Value → Shared → Prop} {E : Value → Shared → Prop}, Names X x c → Q c { s' with heap := h3' } → wpAny (model X.prog X.w) (X.A.mark (some (.ref a))) (eval (.Name x np) X.env) Q E { s' with heap := h3' } := fun {x c np Q E} hc q => by
      obtain ⟨hg, hdbg, hm | ⟨hm, hv, hnn⟩⟩ := hc
      · exact ld_glob (X := X.suite a ((a, oe3) :: (X.pn ++ pins))) S3 hg hm q hdbg
      · exact ld_blt (X := X.suite a ((a, oe3) :: (X.pn ++ pins))) S3 hg hm hv q hnn hdbg
    refine Tuple_ (spliced_more (test h1 (spliced_more (test h2 (spliced_more (test h3 (spliced_more (test h4 (spliced_more (test h5 (spliced_more (test h6 (spliced_none ?_)))))))))))))
    refine wpAny_newObj_type ?_ (by show 6 ≤ sizeLine; decide)
    have k5 : ∀ b o, h3'.get? b = some o → (h3'.push { cls := .type "tuple", data := .seq [c1, c2, c3, c4, c5, c6].toArray }).get? b = some o := fun b o e => Heap.get?_push_of_some _ e
    have hp5 : (h3'.push { cls := .type "tuple", data := .seq [c1, c2, c3, c4, c5, c6].toArray }).get? h3'.objs.size = some { cls := .type "tuple", data := .seq [c1, c2, c3, c4, c5, c6].toArray } := Heap.get?_push_size _ rfl
    have J5 : Inv X pins σ' H' { s' with heap := h3'.push { cls := .type "tuple", data := .seq [c1, c2, c3, c4, c5, c6].toArray } } := J3.kept (t' := s'.toks) k5
    have fl5 := flyK fl3 k5
    have LT : PySem.W.Looks (model X.prog X.w) (h3'.push { cls := .type "tuple", data := .seq [c1, c2, c3, c4, c5, c6].toArray }) (typeOf (.ref a)) cls := fun A Q E s k q => wpAny_typeOf_ref (k _ _ (k5 _ _ he3)) (by rw [hz3.1]; exact q)
    refine (PySem.W.exm_six (M := model X.prog X.w) J5.kIn LT hp5 hb1 hb2 hb3 hb4 hb5 hb6).here ?_
    refine codeAny_handlers_suite_as ?_
    refine HandSPX.lands_againZ fl5 fun h4 fl4 up4 => ?_
    obtain ⟨oe4, vs4, he4, hz4, hd4⟩ := fl4.there
    have up5 : sI.heap.UpToSlots (h3'.push { cls := .type "tuple", data := .seq [c1, c2, c3, c4, c5, c6].toArray }) := fun b o e hd => by
      obtain ⟨sl, q⟩ := (up.trans up3) b o e hd
      exact ⟨sl, k5 _ _ q⟩
    have J4 : Inv X pins σ' (upd H' a (ExK cls a)) { s' with heap := h4 } := landedK (s' := { s' with heap := h4 }) J nb fl4.1 (up5.trans up4) os ag haI na (exK_ok he4 hz4 hd4)
    have S4 := suiteK J4 a
    refine store_ok (X := X.suite a (X.pn ++ pins)) (v := .ref a) S4 hN hi hloc rfl (fun s5 S5 => ?_) (.inr hln)
    refine wpAny_mono ((hsu a (X.pn ++ pins)).run [] s5 _ _ _ S5 (hyes a na)) (fun f s6 hsp => ?_) (fun _ _ z => False.elim z)
    have end_ : ∀ {σ6 : L2.St} {H6 : Hp} {Q : Shared → Prop}, Inv (X.suite a (X.pn ++ pins)) [] σ6 H6 s6 → (∀ s7, Inv X pins (σ6.set i none) H6 s7 → Q s7) →
        wpAny (model X.prog X.w) X.A (do bindName X.env n .none; unbindBehindTheSuite X.env n pos') (fun _ s7 => Q s7) X.xe s6 := fun {σ6 H6 Q} S6 hq => gone_ok (unsuiteK S6 ok) hN hi hln hq
    cases f with
    | next =>
      obtain ⟨σ6, H6, S6, q6⟩ := hsp
      exact end_ S6 fun s7 J7 => ⟨_, _, J7, q6⟩
    | brk =>
      obtain ⟨σ6, H6, S6, q6⟩ := hsp
      exact end_ S6 fun s7 J7 => ⟨_, _, J7, q6⟩
    | cont =>
      obtain ⟨σ6, H6, S6, q6⟩ := hsp
      exact end_ S6 fun s7 J7 => ⟨_, _, J7, q6⟩
    | ret u =>
      obtain ⟨v6, σ6, H6, S6, r6, q6⟩ := hsp
      exact end_ S6 fun s7 J7 => ⟨_, _, _, J7, r6, q6⟩
  · cases f with
    | next =>
      obtain ⟨σ', H', J', q⟩ := hsp
      exact wpAny_execs_nil ⟨σ', H', J'.ofTry ok, q⟩
    | brk =>
      obtain ⟨σ', H', J', q⟩ := hsp
      exact ⟨σ', H', J'.ofTry ok, q⟩
    | cont =>
      obtain ⟨σ', H', J', q⟩ := hsp
      exact ⟨σ', H', J'.ofTry ok, q⟩
    | ret u =>
      obtain ⟨v, σ', H', J', r, q⟩ := hsp
      exact ⟨v, σ', H', J'.ofTry ok, r, q⟩
end
end PL

/-! PL25: isinstance of a kept exception; defs that raise, read over plain data. -/
namespace PL
open PySem PySem.Spec L2
open PyProof.Rows (envOfC)
section
variable {X : Cx}
theorem exK_at {pins : List (Addr × Obj)} {σ : L2.St} {H : Hp} {s : Shared} {a D : Addr} (I : Inv X pins σ H s) (h : H a = some (ExK (.ref D) a)) : ∃ oe, PySem.W.InstAt s.heap a oe D none := by
  obtain ⟨⟨oe, vs, hget, hz, hv⟩, _, _⟩ := I.hok a _ h
  refine ⟨oe, ?_⟩
  obtain ⟨oc, od, oda, osl⟩ := oe
  obtain ⟨h1, h2⟩ := hz
  dsimp only at h1 h2 hv
  subst h1 h2 hv
  exact ⟨hget, rfl, rfl, trivial⟩
/-- isinstance(e, c) -/
def rIsX (K : PySem.W.Frag) : List V → Hp → VK → Prop := fun xs H Q => ∃ (a D : Addr) (c : V) (cv : Value) (b : Bool), xs = [.ref a, c] ∧ H a = some (ExK (.ref D) a) ∧ ExcC K D ∧ (∀ u, RelV c u → u = cv) ∧ PySem.W.kitOne K (.ref D) cv = some b ∧ Q (.bl b) H
theorem call_isX : CallR X (.builtin "isinstance") (rIsX X.K) := by
  intro pins s σ H xs us Q I r h
  obtain ⟨a, D, c, cv, b, rfl, ha, C, hcv, e, q⟩ := h
  obtain ⟨u1, u2, rfl, r1, r2⟩ := vals2 r
  cases (show u1 = Value.ref a from r1)
  have ec := hcv _ r2
  subst ec
  obtain ⟨oe, J⟩ := exK_at I ha
  exact PySem.W.kia_one (PySem.W.handS_kitx_exc C.hg C.hk C.hs C.hd C.ha C.hn C.ht C.hm) I.kIn J e (fun z => nomatch z) fun tk => ⟨.bl b, H, I.kept (t' := tk) fun _ _ z => z, rfl, q⟩
/-- isinstance(e, (A, B, ..)) -/
def rIsXT (K : PySem.W.Frag) : List V → Hp → VK → Prop := fun xs H Q => ∃ (a D tp : Addr) (cs : List V) (us : List Value) (b : Bool), xs = [.ref a, .ref tp] ∧ H a = some (ExK (.ref D) a) ∧ ExcC K D ∧ H tp = some (.tup cs) ∧ Paired ClsV cs us ∧ PySem.W.kitAny K (.ref D) us = some b ∧ Q (.bl b) H
theorem call_isXT : CallR X (.builtin "isinstance") (rIsXT X.K) := by
  intro pins s σ H xs us Q I r h
  obtain ⟨a, D, tp, cs, ws, b, rfl, ha, C, hT, k, e, q⟩ := h
  obtain ⟨u1, u2, rfl, r1, r2⟩ := vals2 r
  cases (show u1 = Value.ref a from r1)
  cases (show u2 = Value.ref tp from r2)
  obtain ⟨oe, J⟩ := exK_at I ha
  obtain ⟨_, its, rv, o, h1, h2, n, h3⟩ := (show ObjOk X.prog X.w H s.heap tp (.tup cs) from I.hok tp _ hT)
  have e3 := ClsV.all k rv
  subst e3
  obtain ⟨oc, od, dt, sl⟩ := o
  simp only at h2 h3
  subst h2 h3
  exact PySem.W.kia_tup (PySem.W.handS_kitx_exc C.hg C.hk C.hs C.hd C.ha C.hn C.ht C.hm) I.kIn J h1 e (fun z => nomatch z) fun tk => ⟨.bl b, H, I.kept (t' := tk) fun _ _ z => z, rfl, q⟩
end
/-! ### a def that raises -/
section
variable {P : Program} {w : World} {K : PySem.W.Frag} {mg : Str → Option Value} {base : Heap} {f : Addr} {fd : FuncData} {ps : List Str} {k : Nat}
/-- the wish of a def's body about exceptions -/
abbrev WE1 (E : XK) (n : Nat) (KX : XD → Cells → Prop) : WD := ⟨fun cls d _ H => E cls d H, fun x _ M => KX x (M.take n)⟩
theorem fnX_ok {x qual : Str} {st : Stmt} {N : List Str} {s : DSp} (F : Fun K x qual st f fd) (S : FnScope N ps (defScope st)) (hl : ∀ ds M K KX, s ds M K KX → ds.length = ps.length)
    (hb : ∀ (cdv : Value) (A : Around) (outer : List PySem.Env) (s0 : Shared) (H : Hp) (E : XK), Room k (A.deeper (envOfC qual (defScope st) s0.heap.objs.size f cdv)) →
      ∃ t, PSs (cxOf (L2.CX P w) P w K mg base N qual (defScope st) f cdv A outer s0 H E) (defBody st) t ∧
        ∀ (ds : List D) (M : Cells) (Kd : D → Cells → Prop) (KX : XD → Cells → Prop), s ds M Kd KX → SS (WE1 E M.length KX) t (ds.map some ++ List.replicate (N.length - ps.length) none) M (PFn M.length Kd)) :
    FnOk P w K mg base (L2.CX P w) (k + 1) f fd ps (spD s) := by
  have hlen : ∀ vs H Q E, spD s vs H Q E → vs.length = ps.length := fun vs H Q E ⟨G, ds, M, F, Kd, KX, o, r, h, _, _⟩ => by
    rw [r.length]
    exact hl ds M Kd KX h
  refine Fun.okX F S hlen fun cdv A outer s0 H vs Q E hr h => ?_
  obtain ⟨t, ht, hs⟩ := hb cdv A outer s0 H E hr
  refine ⟨t, ht, ?_⟩
  have hv := hlen vs H Q E h
  obtain ⟨G, ds, M, F, Kd, KX, o, r, h, q, qx⟩ := h
  unfold L2.start
  rw [hv]
  refine hs ds M Kd KX h G _ H F _ (REnv.start _ r) o ?_ (MatchD.fn q)
  intro x ρ M' d σ G' H' k e xr re o'
  exact qx x (M'.take M.length) d G' H' k e xr (o'.sub (List.Sublist.append (List.take_sublist _ _) (List.Sublist.refl F)))
end
section
variable {W : WD} {M : Cells} {K : D → Cells → Prop} {Kf : PySem.W.Frag}
/-- a slice that is changed later: a cell of its own -/
theorem lr_VC {d : D} {ps : List PyData} {lo hi : Option Int} (hv : LV M d (ps.map D.py)) (k : ∀ p, K (dR p) (M ++ [(p, .lst ((cutP ps lo hi).map D.py))])) : LR (rSlA Kf) d lo hi M K := fun G H F u Q r o q => by
  obtain ⟨a, vs, rfl, ha, rr⟩ := hv.at r o
  have r' := RDs.all rr
  refine .inl ⟨a, vs, rfl, SqL.of ha, fun p hp => ?_⟩
  have rc : RpAll G (cutV vs lo hi) (cutP ps lo hi) := by
    unfold cutV cutP
    rw [r'.length]
    exact (r'.drop _).take _
  exact q (dR p) _ _ G _ (k p) (Ex.refl G) rfl (o.cell hp ⟨_, upd_same, RDs.of rc⟩)
/-- the first of a tuple that holds a cell -/
theorem or_ixQ0 {a : Addr} {vs : List V} (k : K (dR a) M) : OR (rIx Kf) (.sqt Kf (.ref a :: vs)) (dI 0) M K := fun G H F u v Q r1 r2 o q => by
  cases int_of r2
  obtain ⟨b, rfl, hb⟩ := r1
  refine .inr (.inl ⟨_, _, 0, .ref a, rfl, rfl, o.ex.sqt hb, ?_, q (dR a) M (.ref a) G H k (Ex.refl G) rfl o⟩)
  simp [atI, ixN]
end
/-! ### a call inside a try, raise, try with six classes: over data -/
section
variable {W : WD} {ρ : Rho} {M : Cells} {K : D → Cells → Prop} {P : PD}
theorem se_callS (n : Nat) {s : DSp} {E : L2.St → XK} {ta : TA} (hE : ∀ c d σ H, W.E c d σ H → E σ c d H)
    (h : SA W ta ρ M fun ds M1 => s ds (M1.take n) (fun d M' => K d (M' ++ M1.drop n)) fun x M' => W.K x ρ (M' ++ M1.drop n)) : SE W (tCallS (spD s) E ta) ρ M K := fun G σ H F Q re o mx q =>
  h G σ H F _ re o mx fun ds M1 vs G1 H1 k1 e1 r1 o1 => by
    show spD s vs H1 Q (E σ)
    refine ⟨G1, ds, M1.take n, M1.drop n ++ F, _, _, by rw [← take_drop_app]; exact o1, r1, k1, fun d M' v G' H' k e r o' => ?_, fun x M' d G' H' k e xr o' => hE _ _ σ _ ?_⟩
    · refine q d (M' ++ M1.drop n) v G' H' k (e1.trans e) r ?_
      rw [List.append_assoc]
      exact o'
    · refine mx x ρ (M' ++ M1.drop n) d σ G' H' k (e1.trans e) xr (re.mono (e1.trans e)) ?_
      rw [List.append_assoc]
      exact o'
/-- a call that lets nothing out, in a def that raises -/
theorem se_callN (n : Nat) {s : DSp} {ta : TA} (h : SA W ta ρ M fun ds M1 => s ds (M1.take n) (fun d M' => K d (M' ++ M1.drop n)) fun _ _ => False) : SE W (tCall (spD s) [] E0 ta) ρ M K := fun G σ H F Q re o mx q =>
  h G σ H F _ re o mx fun ds M1 vs G1 H1 k1 e1 r1 o1 => by
    show spD s (vs ++ []) H1 Q E0
    rw [List.append_nil]
    refine ⟨G1, ds, M1.take n, M1.drop n ++ F, _, _, by rw [← take_drop_app]; exact o1, r1, k1, fun d M' v G' H' k e r o' => ?_, fun x M' d G' H' k e xr o' => k.elim⟩
    refine q d (M' ++ M1.drop n) v G' H' k (e1.trans e) r ?_
    rw [List.append_assoc]
    exact o'
/-- raise C('..') -/
def tRaise (E : WX) (C : Addr) : TS := fun _ σ H => E (.ref C) none σ H
theorem ss_raise {C : Addr} (k : W.K ⟨.ref C, none⟩ ρ M) : SS W (tRaise W.E C) ρ M P := fun G σ H F D re o mx md => mx _ ρ M none σ G H k (Ex.refl G) rfl re o
theorem REnv.unset {G : Hp} : ∀ {σ : L2.St} {ρ : Rho} (i : Nat), REnv G σ ρ → REnv G (σ.set i Option.none) (ρ.set i Option.none)
  | _, _, _, .nil => .nil
  | _, _, 0, .some _ r => .none r
  | _, _, 0, .none r => .none r
  | _, _, i + 1, .some q r => .some q (REnv.unset i r)
  | _, _, i + 1, .none r => .none (REnv.unset i r)
/-- a kept exception of the class cls -/
abbrev dE (cls : Value) : D := .ho fun a => ExK cls a
/-- the class and its five neighbours: the first takes it -/
abbrev SixOk (Kf : PySem.W.Frag) (cls c1 c2 c3 c4 c5 c6 : Value) : Prop := PySem.W.exmOne Kf cls c1 = some true ∧ ∃ b2 b3 b4 b5 b6, PySem.W.exmOne Kf cls c2 = some b2 ∧ PySem.W.exmOne Kf cls c3 = some b3 ∧ PySem.W.exmOne Kf cls c4 = some b4 ∧ PySem.W.exmOne Kf cls c5 = some b5 ∧ PySem.W.exmOne Kf cls c6 = some b6
abbrev tTry6 (Kf : PySem.W.Frag) (c1 c2 c3 c4 c5 c6 : Value) (i : Nat) (tb : WX → TS) (ts : Addr → TS) : TS := fun D σ H => tb (wSix Kf c1 c2 c3 c4 c5 c6 i ts D) D σ H
theorem ss_try6 {Kf : PySem.W.Frag} {c1 c2 c3 c4 c5 c6 : Value} {i : Nat} {tb : WX → TS} {ts : Addr → TS} (KX : XD → Rho → Cells → Prop) (hb : ∀ E, SS ⟨E, KX⟩ (tb E) ρ M P)
    (hx : ∀ x ρ' M', KX x ρ' M' → x.fld = none ∧ SixOk Kf x.cls c1 c2 c3 c4 c5 c6 ∧
      ∀ a, SS W (ts a) (ρ'.set i (some (dE x.cls))) M' { nx := fun ρ2 M2 => P.nx (ρ2.set i none) M2, rt := P.rt, bk := fun ρ2 M2 => P.bk (ρ2.set i none) M2, ct := fun ρ2 M2 => P.ct (ρ2.set i none) M2 }) :
    SS W (tTry6 Kf c1 c2 c3 c4 c5 c6 i tb ts) ρ M P := fun G σ H F D re o mx md => by
  refine hb _ G σ H F D re o (fun x ρ' M' d σ' G' H' k e xr re' o' => ?_) md
  obtain ⟨hf, ⟨h1, h2⟩, hs⟩ := hx x ρ' M' k
  have hd : d = none := by
    unfold XR at xr
    rw [hf] at xr
    exact xr
  refine ⟨h1, h2, hd, fun a ha => ?_⟩
  have e2 : Ex G' (upd G' a (ExK x.cls a)) := Ex.new (o'.ex.free ha)
  have e3 := e.trans e2
  refine hs a _ _ _ F _ ((re'.mono e2).set (d := dE x.cls) ⟨a, rfl, upd_same⟩ i) (o'.push ha _) (mx.mono e3) ⟨?_, ?_, ?_, ?_⟩
  · exact fun ρ2 M2 σ2 G2 H2 k2 e4 re2 o2 => md.nx _ M2 _ G2 H2 k2 (e3.trans e4) (re2.unset i) o2
  · exact fun d2 M2 v2 G2 H2 k2 e4 r2 o2 => md.rt d2 M2 v2 G2 H2 k2 (e3.trans e4) r2 o2
  · exact fun ρ2 M2 σ2 G2 H2 k2 e4 re2 o2 => md.bk _ M2 _ G2 H2 k2 (e3.trans e4) (re2.unset i) o2
  · exact fun ρ2 M2 σ2 G2 H2 k2 e4 re2 o2 => md.ct _ M2 _ G2 H2 k2 (e3.trans e4) (re2.unset i) o2
theorem raws {G : Hp} : ∀ {vs us : List V}, RDs G us (vs.map D.raw) → us = vs
  | [], _, .nil => rfl
  | v :: vs, _, .cons ra rr => by rw [show _ = v from ra, raws rr]
/-- a tuple of values, kept as an object -/
theorem se_tupHo {ta : TA} {vs : List V} (hl : vs.length ≤ 1000000) (h : SA W ta ρ M fun ds M' => ds = vs.map D.raw ∧ K (.ho fun _ => .tup vs) M') : SE W (tTup ta) ρ M K := fun G σ H F Q re o mx q =>
  h G σ H F _ re o mx fun ds M1 us G1 H1 ⟨eu, k⟩ e1 r1 o1 => by
    subst eu
    obtain rfl : us = vs := raws r1
    refine ⟨big_ok hl, fun p hp => ?_⟩
    have e2 : Ex G1 (upd G1 p (.tup us)) := Ex.new (o1.ex.free hp)
    exact q (.ho fun _ => .tup us) M1 _ (upd G1 p (.tup us)) _ k (e1.trans e2) ⟨p, rfl, upd_same⟩ (o1.push hp _)
/-- isinstance(kept exception, a tuple of classes) -/
theorem cr_isXT {Kf : PySem.W.Frag} {Dc : Addr} {cs : List V} {ws : List Value} {b : Bool} (C : ExcC Kf Dc) (hc : Paired ClsV cs ws) (e : PySem.W.kitAny Kf (.ref Dc) ws = some b) (k : K (dB b) M) : CR (rIsXT Kf) [dE (.ref Dc), .ho fun _ => .tup cs] M K := fun G H F us Q r o q => by
  obtain ⟨v, w, rfl, ⟨a, rfl, ha⟩, ⟨p, rfl, hp⟩⟩ := r.two
  exact ⟨a, Dc, p, cs, ws, b, rfl, o.ex _ _ ha, C, o.ex _ _ hp, hc, e, q (dB b) M (.bl b) G H k (Ex.refl G) (Rp.bl b) o⟩
/-- isinstance(kept exception, one class) -/
theorem cr_isX {Kf : PySem.W.Frag} {Dc : Addr} {c : V} {cv : Value} {b : Bool} (C : ExcC Kf Dc) (hc : ∀ u, RelV c u → u = cv) (e : PySem.W.kitOne Kf (.ref Dc) cv = some b) (k : K (dB b) M) : CR (rIsX Kf) [dE (.ref Dc), .raw c] M K := fun G H F us Q r o q => by
  obtain ⟨v, w, rfl, ⟨a, rfl, ha⟩, rb⟩ := r.two
  obtain rfl : w = c := rb
  exact ⟨a, Dc, w, cv, b, rfl, o.ex _ _ ha, C, hc, e, q (dB b) M (.bl b) G H k (Ex.refl G) (Rp.bl b) o⟩
end
end PL

/-! PL26: xs[:] = ys. -/
namespace PL
open PySem PySem.Spec L2
open PyProof.Rows
section
variable {prog : Program} {w : World} {A : Around} {E : Value → Shared → Prop} {s : Shared}
theorem bounds_all (n : Nat) : sliceBounds none none none n = (0, (n : Int), 1) := by
  simp [sliceBounds]
theorem setItem_all {l b sl : Addr} {items new : Array Value} {n n2 : Nat} {Q : Unit → Shared → Prop}
    (e : s.heap.get? l = some { cls := .type "list", data := .seq items n }) (e2 : s.heap.get? b = some { cls := .type "list", data := .seq new n2 }) (hne : l ≠ b)
    (hs : s.heap.IsSliceOf sl .none .none .none)
    (hsz : items.size + new.size ≤ sizeLine) (h : Q () { s with heap := s.heap.update l (Obj.mapSeq fun xs => xs.extract 0 0 ++ new ++ xs.extract items.size xs.size) }) :
    wpAny (model prog w) A (setItem (.ref l) (.ref sl) (.ref b)) Q E s := by
  have hl : s.heap.IsList l items := PySem.IsL.isList e
  have hb : s.heap.IsList b new := PySem.IsL.isList e2
  obtain ⟨os, hos, hcs, hds⟩ := id hs
  have hTs : s.TypeIs (.ref sl) "slice" := ⟨os, hos, hcs⟩
  have hstep : ¬ ((rawPart none == rawInt 0) = true) := Bool.false_ne_true
  have hsame : Builtin.List.listSameRef (.ref l) (.ref b) = false := by
    unfold Builtin.List.listSameRef
    exact beq_eq_false_iff_ne.mpr hne
  have hmax : (max (0 : Int) (items.size : Int)).toNat = items.size := by omega
  have hz' : ((fun xs : Array Value => xs.extract 0 0 ++ new ++ xs.extract items.size xs.size) items).size ≤ sizeLine + 1 := by
    simp only [Array.size_append, Array.size_extract]
    omega
  unfold setItem
  try with_reducible refine wpAny_holding ?_
  first | refine wpAny_bind (wpAny_pure ?_) | skip
  refine wpAny_bind (wpAny_sequenceKey hl.typeIs (by decide) ?_)
  refine wpAny_bind (wpAny_callSpecial?_slot (name := Str.ofString "__setitem__") hl.typeIs slot_list_setitem
    (wpAny_call_entry slot_list_setitem hl.typeIs entry_list_setitem ?_ (args_list_setitem _ _ _)))
  show wpAny _ _ (Builtin.List.listSubscript? (.ref sl) >>= _) _ _ s
  refine wpAny_bind ?_
  unfold Builtin.List.listSubscript?
  refine wpAny_bind (wpAny_specialOf hTs slice_no_index ?_)
  simp only [Option.isNone_none, if_true]
  refine wpAny_pure ?_
  show wpAny _ _ (typeOf (.ref sl) >>= _) _ _ s
  refine wpAny_bind (wpAny_typeOf hTs ?_)
  first
    | rw [if_neg (by decide)]
    | refine PySem.W.KFB.if_not (by decide) ?_
  rw [listSliceParts_eq]
  refine wpAny_bind (wpAny_bind (wpAny_field hos hds (x := .none) rfl (wpAny_bind (wpAny_listPart .none ?_))))
  rw [if_neg hstep]
  refine wpAny_bind (wpAny_field hos hds (x := .none) rfl (wpAny_bind (wpAny_listPart .none ?_)))
  refine wpAny_bind (wpAny_field hos hds (x := .none) rfl (wpAny_bind (wpAny_listPart .none (wpAny_pure ?_))))
  first
    | simp only [hsame, Bool.false_eq_true, if_false]
    | refine PySem.W.KFB.if_not hsame ?_
    | (dsimp only
       rw [if_neg (by rw [hsame]; exact Bool.false_ne_true)])
  refine wpAny_bind (m := Builtin.List.listAllItems (.ref b) "must assign iterable to extended slice") ?_
  unfold Builtin.List.listAllItems
  refine wpAny_bind (wpAny_typeOf hb.typeIs ?_)
  first
    | refine PySem.W.KFB.if_so (by decide) ?_
    | rw [if_pos (by decide)]
    | simp only [beq_self_eq_true, Bool.true_or, if_true]
  unfold Builtin.List.listItems
  refine wpAny_bind (wpAny_seqItems e2 rfl (wpAny_pure ?_))
  refine wpAny_bind (wpAny_bind (wpAny_seqItems e rfl (wpAny_pure ?_)))
  refine wpAny_bind (wpAny_of_eq ((sliceIndices_raw none none none items.size (by simp)).trans (congrArg (pure : Int × Int × Int → Sem (Int × Int × Int)) (bounds_all items.size))) ?_)
  show wpAny _ _ (if ((1 : Int) == 1) = true then _ else _) _ _ s
  rw [if_pos (by decide)]
  refine wpAny_bind (wpAny_rule ?_)
  first
    | simp only [notLongL hsz, Bool.false_eq_true, if_false]
    | refine PySem.W.KFB.if_not (notLongL hsz) ?_
  first | refine wpAny_bind (wpAny_pure ?_) | skip
  show wpAny _ _ (updateSeq l (fun xs => xs.extract 0 ((0 : Int)).toNat ++ new ++ xs.extract (max (0 : Int) (items.size : Int)).toNat xs.size) >>= _) _ _ s
  rw [hmax, Int.toNat_zero]
  refine wpAny_bind (wpAny_updateSeq (hz := Nat.le_trans (Nat.le_add_right _ _) hsz) (_hz' := hz') e rfl ?_)
  refine wpAny_bind (wpAny_letGo ?_)
  first
    | exact wpAny_bind (wpAny_pure (wpAny_pure ⟨.none, rfl, wpAny_pure h⟩))
    | exact wpAny_pure ⟨.none, rfl, wpAny_pure h⟩
end
section
variable {X : Cx}
def gAll (to : TE) : TG := fun v σ H Q => to σ H fun o H1 => ∃ l b xs ys, o = .ref l ∧ v = .ref b ∧ l ≠ b ∧ H1 l = some (.lst xs) ∧ H1 b = some (.lst ys) ∧ xs.length + ys.length ≤ sizeLine ∧ Q σ (upd H1 l (.lst ys))
theorem pg_all {o : Expr} {to : TE} {p2 pos : Pos} (ho : PE X o to) : PG X (.Subscript o (.Slice none none none p2) pos) (gAll to) := by
  refine ⟨fun pins s σ H v u Q I r h => ?_⟩
  show wpAny (model X.prog X.w) X.A (do
      let ov ← holding [u] (eval o X.env)
      let iv ← holding [u, ov] (eval (.Slice none none none p2) X.env)
      standAt pos
      holding [u, ov, iv] (setItem ov iv u)
      release [iv, u, ov] []) _ _ s
  refine wpAny_bind (wpAny_holding (thn (ho.run pins s σ H _ I h) fun ov s1 ⟨x, H1, I1, r1, q1⟩ => ?_))
  obtain ⟨l, b, xs, ys, rfl, rfl, hne, hl, hb, hz, q⟩ := q1
  cases r
  cases r1
  refine wpAny_bind (wpAny_holding (wpAny_Slice ?_))
  rw [evalPart_none]
  refine wpAny_pure (wpAny_pure (wpAny_pure ?_))
  have I2 : Inv X pins σ H1 { s1 with heap := s1.heap.push { cls := .type "slice", data := .fields #[.none, .none, .none] } } := I1.kept (t' := s1.toks) fun b ob q => Heap.get?_push_of_some _ q
  obtain ⟨z1, its, n, rv, hz1, e⟩ := I2.lstM hl
  obtain ⟨z2, its2, n2, rv2, hz2, e2⟩ := I2.lstM hb
  refine wpAny_bind (wpAny_standAt (wpAny_bind (wpAny_holding (setItem_all e e2 hne (Heap.IsSliceOf.new ..) (by rw [List.size_toArray, List.size_toArray]; omega) ?_))))
  refine wpAny_release ?_
  refine ⟨σ, _, I2.lset (its' := its2) (t' := s1.toks) hl e ?_ rv2 z2, q⟩
  have := splice_eq its its2 0 its.length
  rw [List.size_toArray]
  simpa using this
end
section
variable {W : WD} {ρ : Rho} {M : Cells} {KE : Rho → Cells → Prop} {to : TE}
theorem big_ok2 {m n : Nat} (h : m ≤ 1000000) (h2 : n ≤ 1000000) : m + n ≤ sizeLine := by
  have : (2000000 : Nat) ≤ sizeLine := by decide
  omega
/-- a cell's list exchanged for the items of data -/
theorem sg_all {d : D} {ps : List PyData} (h : SE W to ρ M fun x M1 => ∃ i p qs, x = dR p ∧ d = dL ps ∧ CA M1 i p (Cl qs) ∧ qs.length ≤ 1000000 ∧ ps.length ≤ 1000000 ∧ KE ρ (M1.set i (p, Cl ps))) :
    SG W (gAll to) d ρ M KE := fun G σ H F v Q r re o mx q => by
  refine h G σ H F _ re o mx fun x M1 u G1 H1 ⟨i, p, qs, ex, ed, hc, hq, hp, k⟩ e1 r1 o1 => ?_
  subst ex
  subst ed
  have r1 : u = V.ref p := r1
  subst r1
  have hp0 : G1 p = none := o1.fr _ ((hc.app F).mem)
  have rr : Rp G1 v (.list ps) := RD.mono e1 r
  obtain ⟨ws, hw, rw0⟩ := o1.at hc
  have hwl : ws.length = qs.length := by rw [rw0.length, List.length_map]
  cases rr with
  | lst hb ha =>
    rename_i b vs
    have hbH := o1.ex _ _ hb
    have hvl : vs.length = ps.length := ha.length
    refine ⟨p, b, ws, vs, rfl, rfl, fun e => ?_, hw, hbH, big_ok2 (by omega) (by omega), ?_⟩
    · rw [← e, hp0] at hb
      cases hb
    · exact q ρ (M1.set i (p, Cl ps)) σ G1 _ k e1 (re.mono e1) (o1.store hc ⟨vs, upd_same, RDs.of ha⟩)
end
end PL

/-! PL27: enumerate(a tuple), tuple(list), (x,) * n, dicts keyed by tuples of ints. -/
namespace PySem
open Sem (wp)
set_option maxHeartbeats 1000000 in
theorem meets_enumerate_newG {v : Value} {o : Obj} {H : Heap → Prop} (B : Begins v o H) :
    Meets (Builtin.«enumerate.__new__» ⟨[.type "enumerate", v], []⟩) (fun _ R s => H s.heap ∧
      R (.ok (.ret (.ref (s.heap.push o).objs.size))) { s with heap := (s.heap.push o).push { cls := .type "enumerate", data := .fields #[.none, .bool false, .ref s.heap.objs.size, rawInt 0, .none, .none] } }) :=
  .of_wp fun prog w A R s h => by
    obtain ⟨hp, g, d, tk, os⟩ := s; obtain ⟨h1, h⟩ := h
    have hsub := sub_enumerate
    have q1 : ∀ {A' : Around} {E : Value → Shared → Prop} {Q : Value → Shared → Prop}, Q (.ref hp.objs.size) ⟨hp.push o, g, d, tk, os⟩ → wpAny (model prog w) A' (pyIter v) Q E ⟨hp, g, d, tk, os⟩ :=
      fun q => B.iter prog w _ _ ⟨hp, g, d, tk, os⟩ _ h1 q
    wp_walk using q1
    refine wpAny_stack_any fun st => wpAny_pure ?_
    split
    · rename_i c _ _ _ _ _
      cases (c == Value.type "enumerate")
      · wp_walk using q1
        exact ⟨_, rfl, h⟩
      · wp_walk using q1
        exact ⟨_, rfl, h⟩
    · wp_walk using q1
      exact ⟨_, rfl, h⟩
theorem call_enumerate_begins {prog : Program} {w : World} {A : Around} {E : Value → Shared → Prop} {s : Shared} {v : Value} {o : Obj} {H : Heap → Prop} {Q : Value → Shared → Prop} (B : Begins v o H) (h1 : H s.heap)
    (h : ∀ h', IsEnum h' (s.heap.objs.size + 1) s.heap.objs.size 0 .none → h'.get? s.heap.objs.size = some o → h'.objs.size = s.heap.objs.size + 2 →
      (∀ b o, s.heap.get? b = some o → h'.get? b = some o) → Q (.ref (s.heap.objs.size + 1)) { s with heap := h' }) :
    wpAny (model prog w) A (call (.type "enumerate") [v]) Q E s := by
  refine callType_new F.called_enumerate (by decide) (F.typeCall_enumerate_1 _) (F.newCall_enumerate_1 _) (fun obj => F.args_object_init_2 obj _) F.entry_enumerate_new
    (meets_enumerate_newG B) ⟨h1, ?_⟩
  have hz : (s.heap.push o).objs.size = s.heap.objs.size + 1 := Heap.size_push ..
  show _ ∧ _
  rw [hz]
  have he : IsEnum ((s.heap.push o).push { cls := .type "enumerate", data := .fields #[.none, .bool false, .ref s.heap.objs.size, rawInt 0, .none, .none] }) (s.heap.objs.size + 1) s.heap.objs.size 0 .none := by
    have := Heap.get?_push_size (s.heap.push o) (o := { cls := .type "enumerate", data := .fields #[.none, .bool false, .ref s.heap.objs.size, rawInt 0, .none, .none] }) rfl
    rw [hz] at this; exact this
  refine ⟨⟨_, he, rfl⟩, h _ he (Heap.get?_push_of_some _ (Heap.get?_push_size _ B.free)) (by rw [Heap.size_push, hz]) fun b o x => Heap.get?_push_of_some _ (Heap.get?_push_of_some _ x)⟩
end PySem
namespace PL
open PySem PySem.Spec L2 PyProof.Rows
/-- a tuple, item by item, with its number -/
def ItetT (K : PySem.W.Frag) (a : Addr) : It :=
  ⟨fun i H => ∃ (xs : List V) (x : V), SqT K H a xs ∧ xs[i]? = some x, fun i H v H' => ∃ T x, v = .ref T ∧ H T = none ∧ H' = upd H T (.tup [.int (i : Nat), x]) ∧ ∀ xs, SqT K H a xs → xs[i]? = some x, fun i H => ∃ xs : List V, SqT K H a xs ∧ xs.length = i⟩
theorem turn_enumT {P : Program} {w : World} {K : PySem.W.Frag} {elts : List Expr} {kk : Nat} {tpos : Pos} (a e it : Addr) (hai : a ≠ it) (hae : a ≠ e) :
    Turn P w K (.Tuple elts kk tpos) (ItetT K a) [e, it] e (fun i h => (∃ old, IsEnum h e it ((i : Nat) : Int) old) ∧ h.IsTupleIter it a i ∧ e ≠ it) where
  mem := by simp
  obj := fun i h st b hb => by
    obtain ⟨⟨old, he⟩, ⟨o, ho, hc, hd⟩, _⟩ := st
    have e' : b = e ∨ b = it := by simpa using hb
    rcases e' with z | z
    · rw [z]; exact ⟨_, he, fun v q => nomatch q⟩
    · rw [z]; exact ⟨o, ho, fun v q => by rw [hd] at q; cases q⟩
  keep := fun i h h' st k => let ⟨⟨old, he⟩, hi, hne⟩ := st; ⟨⟨old, k e (by simp) _ he⟩, hi.at fun o q => k it (by simp) o q, hne⟩
  item := by
    intro X hP hw hK hc i pins s σ H E I hf st hg
    subst hP hw hK
    obtain ⟨⟨old, he⟩, hit, hne⟩ := st
    obtain ⟨xs, x, hq, hx⟩ := hg
    obtain ⟨its, rv, p, hz⟩ := I.tuple hq
    obtain ⟨u, hu, ru⟩ := rv.get hx
    have hel : e < s.heap.objs.size := Heap.lt_size he
    have hil : it < s.heap.objs.size := by obtain ⟨_, q, _⟩ := hit; exact Heap.lt_size q
    have hi : i < its.toArray.size := by
      have := (List.getElem?_eq_some_iff.mp hu).1
      simpa using this
    have D := Draws.tuple (prog := X.prog) (w := X.w) (A := X.A.in1) (I.ok.hd hc) it a hai its.toArray
    refine wpAny_pyNext_enum_itemG (c := ((i : Nat) : Int)) (g := .none) (.inl rfl) D he ⟨hit, p⟩ hi hne (by simp [hne, Ne.symm hae]) fun y h' tk ti hP ho hst' hT hsz hk => ?_
    have hy : y = u := by
      have h1 : its[i]? = some y := by simpa using hP
      exact Option.some.inj (h1.symm.trans hu)
    subst hy
    refine ⟨_, rfl, wpAny_letOwnedTupleGo_enum (s := { s with heap := h', toks := tk }) ho fun h'' he' sb => ?_⟩
    have hT2 : h''.get? s.heap.objs.size = some { cls := .type "tuple", data := .seq #[.int i ti, y] } := (sb.2 _ (Nat.ne_of_gt hel)).trans hT
    have new : ObjOk X.prog X.w (upd H s.heap.objs.size (.tup [.int (i : Nat), x])) h'' s.heap.objs.size (.tup [.int (i : Nat), x]) :=
      ⟨by show 2 ≤ sizeLine; decide, [.int i ti, y], .cons ⟨_, rfl⟩ (.cons ru .nil), ⟨_, hT2, rfl, _, rfl⟩⟩
    have I1 : Inv X pins σ (upd H s.heap.objs.size (.tup [.int (i : Nat), x])) { s with heap := h'', toks := tk } :=
      I.turnedNew (ch := [e, it]) (fun b ob hb q => (sb.2 b (fun z => hb (by simp [z]))).trans (hk b ob (fun z => hb (by simp [z])) (fun z => hb (by simp [z])) q)) hf (Nat.le_refl _) new
    refine ⟨.ref s.heap.objs.size, _, I1, rfl, ⟨_, x, rfl, I.hok.fresh (Nat.le_refl _), rfl, fun ys hy => by rw [I.tuple_inj hy hq]; exact hx⟩, ⟨⟨y, ?_⟩, hst'.1.at fun o q => (sb.2 it (Ne.symm hne)).trans q, hne⟩, fun b hb => ?_⟩
    · have e1 : ((i + 1 : Nat) : Int) = (i : Int) + 1 := by omega
      rw [e1]; exact he'
    · have hb' : b < s.heap.objs.size := by
        have e' : b = e ∨ b = it := by simpa using hb
        rcases e' with z | z
        · rw [z]; exact hel
        · rw [z]; exact hil
      rw [upd_ne (Nat.ne_of_lt hb')]
      exact (hf b hb).1
  done := by
    intro X hP hw hK hc i pins s σ H E I hf st hg
    subst hP hw hK
    obtain ⟨⟨old, he⟩, hit, hne⟩ := st
    obtain ⟨xs, hq, hx⟩ := hg
    obtain ⟨its, rv, p, hz⟩ := I.tuple hq
    obtain ⟨f0, f1, f2, f3, f4, f5⟩ := hf it (by simp)
    have hl := rv.length
    have D := Draws.tuple (prog := X.prog) (w := X.w) (A := X.A.in1) (I.ok.hd hc) it a hai its.toArray
    have hi : i = its.toArray.size := by rw [List.size_toArray]; omega
    rw [hi] at hit
    exact wpAny_pyNext_enum_endG D he ⟨hit, p⟩ fun h' eb => ⟨rfl, I.turned (t' := s.toks) (fun b o hb q => eb b o hb q) f0 f1 f3 f4 f5⟩
  self := fun A i s Q E st h => let ⟨⟨_, he⟩, _⟩ := st; wpAny_pyIter_enum he h
def iEnumT (K : PySem.W.Frag) (ta : TA) : TI := fun σ H R => ta σ H fun vs H1 => ∃ a xs, vs = [.ref a] ∧ SqT K H1 a xs ∧ R (ItetT K a) H1
theorem pi_enumT {X : Cx} {K : PySem.W.Frag} {e : Expr} {ta : TA} {p pos tpos : Pos} {elts : List Expr} {kk : Nat} (hg : Gl X "enumerate") (hm : X.mg "enumerate" = none) (ha : PA X [e] ta) (hK : X.K = K := by rfl) (hs : starEach [e] X.env = [(false, eval e X.env)] := by rfl) :
    PI X (.Tuple elts kk tpos) (.Call (.Name "enumerate" p) [e] [] pos) (iEnumT K ta) := by
  subst hK
  refine ⟨fun pins s σ H R I h => ?_⟩
  refine Call_ (ld_blt I hg hm boot_enumerate (PyProof.Rows.callWith_type1 (thn (ha.run pos pins s σ H _ I h) fun us s1 ⟨vs, H1, I1, r1, q1⟩ => ?_) hs rfl))
  obtain ⟨a, xs, ex, hq, q⟩ := q1
  subst ex
  cases r1 with
  | cons r rr =>
    cases rr
    cases r
    obtain ⟨its, rv, p', hz⟩ := I1.tuple hq
    have hal : a < s1.heap.objs.size := by obtain ⟨_, q', _⟩ := p'; exact Heap.lt_size q'
    refine call_enumerate_begins (PySem.begins_tuple a its.toArray) p' fun h' he hit hsz hk => wpAny_pyIter_enum he ?_
    have I2 : Inv X pins σ H1 { s1 with heap := h' } := I1.kept (t' := s1.toks) hk
    refine ⟨s1.heap.objs.size + 1, [s1.heap.objs.size + 1, s1.heap.objs.size], _, _, H1, rfl, I2, turn_enumT a (s1.heap.objs.size + 1) s1.heap.objs.size (Nat.ne_of_lt hal) (Nat.ne_of_lt (Nat.lt_succ_of_lt hal)), ⟨⟨.none, he⟩, ⟨_, hit, rfl, rfl⟩, Nat.succ_ne_self _⟩, fun b hb => ?_, q⟩
    have e' : b = s1.heap.objs.size + 1 ∨ b = s1.heap.objs.size := by simpa using hb
    have hle : s1.heap.objs.size ≤ b := by
      rcases e' with z | z
      · rw [z]; exact Nat.le_add_right _ _
      · rw [z]; exact Nat.le_refl _
    exact I1.fpOk hle (I1.hok.fresh hle)
/-! ### readings -/
section
variable {W : WD} {ρ : Rho} {M : Cells} {K : D → Cells → Prop} {Kf : PySem.W.Frag} {ta : TA} {te td ty tb : TE} {P : PD}
theorem walk_enumT {a : Addr} {xs : List V} : Walk (ItetT Kf a) xs.length (fun H => SqT Kf H a xs) (YPair (fun i => some (.int (i : Nat))) (fun i => xs[i]?)) := by
  refine ⟨fun i _ hi q => ⟨xs, xs[i], q, by simp [hi]⟩, fun _ q => ⟨xs, q, rfl⟩, fun i H v H' _ q y => ?_⟩
  obtain ⟨T, x, h1, h2, h3, h4⟩ := y
  exact ⟨T, .int (i : Nat), x, h1, h2, h3, rfl, h4 xs q⟩
theorem si_enumT {R : Nat → (Nat → D → Prop) → (Cells → Prop) → Cells → Prop} (h : SA W ta ρ M fun ds M1 => ∃ ps, ds = [dT ps] ∧ R ps.length (fun i d => ∃ p, ps[i]? = some p ∧ d = dT [.int (i : Int), p]) (fun _ => True) M1) : SI W (iEnumT Kf ta) ρ M R := fun G σ H F Q re o mx q =>
  h G σ H F _ re o mx fun ds M1 vs G1 H1 ⟨ps, ed, k⟩ e1 r1 o1 => by
    subst ed
    obtain ⟨v, rfl, rv⟩ := r1.one
    have rv' : Rp G1 v (.tuple ps) := rv
    cases rv' with
    | @tup a xs _ ha hr =>
      have hl : xs.length = ps.length := hr.length
      refine ⟨a, xs, rfl, SqT.of (o1.ex _ _ ha), q _ _ _ M1 G1 H1 _ k e1 o1 ?_⟩
      refine ⟨fun H => SqT Kf H a xs, _, hl ▸ walk_enumT, fun F' G' M' H e' o' _ => SqT.of (o'.ex _ _ (e' _ _ ha)), ?_⟩
      rintro F' i G' M' H x H2 hi e' o' _ ⟨T, y1, y2, rfl, hT, rfl, hy1, hy2⟩
      cases hy1
      obtain ⟨p, hp, rp⟩ := hr.getV hy2
      obtain ⟨G2, d, a1, a2, a3, a4⟩ := pair_new o' hT (Rp.int (i : Nat)) (Rp.mono e' rp)
      exact ⟨G2, d, a1, a2, ⟨p, hp, a3⟩, a4⟩
/-- enumerate of a tuple -/
theorem src_ETi {α : Type} (f : α → PyData) (xs : List α) {M2 : Cells} (h : SA W ta ρ M fun ds M1 => ds = [dT (xs.map f)] ∧ M1 = M2) : SI W (iEnumT Kf ta) ρ M (Src xs.zipIdx (fun _ x => dT [.int (x.2 : Int), f x.1]) M2) :=
  si_enumT (SA.imp h fun d M1 ⟨e, i0⟩ => ⟨_, e, by simp, i0, fun i d _ ⟨p, hp, e⟩ => by
    obtain ⟨o, ho, rfl⟩ := map_at hp
    exact ⟨(o, i), by have := zipIdx_at (k := 0) ho; rwa [Nat.zero_add] at this, e⟩, fun _ => trivial⟩)
/-- tuple(a list) -/
def rTupOf (K : PySem.W.Frag) : List V → Hp → VK → Prop := fun xs H Q => ∃ p ys, xs = [.ref p] ∧ ((SqL K H p ys ∧ ∀ l, H l = none → Q (.ref l) (upd H l (.tup ys))) ∨ (SqT K H p ys ∧ Q (.ref p) H))
theorem call_tupleK {X : Cx} {K : PySem.W.Frag} (hK : X.K = K := by rfl) : CallR X (.type "tuple") (rTupOf K) := hK ▸ call_tuple_of
theorem cr_tupOf {d : D} {ps : List PyData} (hv : LV M d (ps.map D.py)) (k : K (dT ps) M) : CR (rTupOf Kf) [d] M K := fun G H F us Q r o q => by
  obtain ⟨v, rfl, rv⟩ := r.one
  obtain ⟨a, vs, rfl, ha, hr⟩ := hv.at rv o
  refine ⟨a, vs, rfl, .inl ⟨SqL.of ha, fun p hp => ?_⟩⟩
  obtain ⟨G2, e2, r2, o2⟩ := new_tup o hp (RDs.all hr)
  exact q (dT ps) M _ G2 _ k e2 r2 o2
/-- (x, ..) * n -/
theorem op_repTK {X : Cx} {K : PySem.W.Frag} (hK : X.K = K := by rfl) : OpR X (binaryOp .Mult) (rRepT K) := hK ▸ op_repT
theorem or_repT {ps : List PyData} {k : Int} (h0 : ps ≠ []) (h1 : 2 ≤ k) (h2 : k ≤ 1000) (h3 : ps.length ≤ 1000) (kk : K (dT (List.replicate k.toNat ps).flatten) M) : OR (rRepT Kf) (dT ps) (dI k) M K := fun G H F u v Q r1 r2 o q => by
  cases int_of r2
  have r1' : Rp G u (.tuple ps) := r1
  cases r1' with
  | @tup a xs _ ha hr =>
    have hl : xs.length = ps.length := hr.length
    refine ⟨a, k, xs, rfl, rfl, SqT.of (o.ex _ _ ha), fun e => ?_, h1, h2, by omega, fun p hp => ?_⟩
    · rw [e] at hl
      exact h0 (List.length_eq_zero_iff.mp hl.symm)
    · obtain ⟨G2, e2, r2, o2⟩ := new_tup o hp (rpAll_rep hr k.toNat)
      exact q _ M _ G2 _ kk e2 r2 o2
/-! ### dicts keyed by tuples of ints -/
def valT (kvs : List (List Int × D)) (k : List Int) : Option D := (kvs.find? fun kv => decide (kv.1 = k)).map (·.2)
abbrev KRT (G : Hp) : List (List Key × V) → List (List Int × D) → Prop := All2 (fun (p : List Key × V) (q : List Int × D) => p.1 = q.1.map Sum.inl ∧ RD G p.2 q.2)
theorem inl_inj : ∀ {a b : List Int}, (a.map Sum.inl : List Key) = b.map Sum.inl → a = b
  | [], [], _ => rfl
  | x :: a, y :: b, h => by
    simp only [List.map_cons, List.cons.injEq] at h
    rw [Sum.inl.inj h.1, inl_inj h.2]
  | [], y :: b, h => by simp at h
  | x :: a, [], h => by simp at h
theorem KRT.val {G : Hp} {k : List Int} : ∀ {vs : List (List Key × V)} {ks : List (List Int × D)}, KRT G vs ks → (valV vs (k.map Sum.inl) = none ∧ valT ks k = none) ∨ ∃ v d, valV vs (k.map Sum.inl) = some v ∧ valT ks k = some d ∧ RD G v d
  | _, _, .nil => .inl ⟨rfl, rfl⟩
  | (k1, v) :: vs, (k2, d) :: ks, .cons ⟨e, r⟩ t => by
    dsimp only at e r
    subst e
    by_cases h : k2 = k
    · subst h
      exact .inr ⟨v, d, by simp [valV], by simp [valT], r⟩
    · have h' : ¬ (k2.map Sum.inl : List Key) = k.map Sum.inl := fun e => h (inl_inj e)
      have e1 : valV ((k2.map Sum.inl, v) :: vs) (k.map Sum.inl) = valV vs (k.map Sum.inl) := by unfold valV; rw [List.find?_cons_of_neg (by simpa using h')]
      have e2 : valT ((k2, d) :: ks) k = valT ks k := by unfold valT; rw [List.find?_cons_of_neg (by simpa using h)]
      rw [e1, e2]
      exact KRT.val t
theorem key_tup {G H : Hp} {M F : Cells} (o : Own G (M ++ F) H) {v : V} {k : List Int} (r : RD G v (dT (k.map PyData.int))) : ∃ b, v = .ref b ∧ H b = some (.tup ((k.map Sum.inl : List Key).map kV)) := by
  have r' : Rp G v (.tuple (k.map PyData.int)) := r
  cases r' with
  | @tup a xs _ ha hr =>
    have e : xs = (k.map Sum.inl : List Key).map kV := by
      rw [RpAll.ints hr, List.map_map]
      rfl
    exact ⟨a, rfl, by rw [← e]; exact o.ex _ _ ha⟩
theorem isD_cellT {i : Nat} {G H : Hp} {F : Cells} {p : Addr} {kvs : List (List Int × D)} (o : Own G (M ++ F) H) (hc : CA M i p (.dT kvs)) : ∃ vs, H p = some (.dT vs) ∧ KRT G vs kvs := o.at hc
/-- {} -/
theorem se_dnewT (k : ∀ p, K (dR p) (M ++ [(p, .dT [])])) : SE W tDNewT ρ M K := fun G σ H F Q re o mx q p hp =>
  q (dR p) _ _ G _ (k p) (Ex.refl G) rfl (o.cell hp ⟨[], upd_same, .nil⟩)
/-- k not in d -/
theorem se_dninT (h : SE W ty ρ M fun y M1 => SE W td ρ M1 fun x M2 => ∃ i p kvs k, x = dR p ∧ CA M2 i p (.dT kvs) ∧ y = dT (k.map PyData.int) ∧ K (dB (!(valT kvs k).isSome)) M2) : SE W (tDNotIn ty td) ρ M K := fun G σ H F Q re o mx q =>
  h G σ H F _ re o mx fun y M1 v G1 H1 k1 e1 r1 o1 => k1 G1 σ H1 F _ (re.mono e1) o1 (mx.mono e1) fun x M2 u G2 H2 ⟨i, p, kvs, k, ex, hc, ey, kk⟩ e2 r2 o2 => by
    subst ex
    subst ey
    cases r2
    obtain ⟨b, rfl, hb⟩ := key_tup o2 (r1.mono e2)
    obtain ⟨vs, hv, kr⟩ := isD_cellT o2 hc
    refine ⟨p, valV vs (k.map Sum.inl), rfl, DGet.t hv hb, ?_⟩
    rcases kr.val (k := k) with ⟨a, b⟩ | ⟨v', d', a, b, r⟩
    · rw [a]
      rw [b] at kk
      exact q _ M2 _ G2 H2 kk (e1.trans e2) (Rp.bl _) o2
    · rw [a]
      rw [b] at kk
      exact q _ M2 _ G2 H2 kk (e1.trans e2) (Rp.bl _) o2
/-- d[k] = v, k new -/
theorem ss_dputT (h : SE W tb ρ M fun d M1 => SE W td ρ M1 fun x M2 => SE W ty ρ M2 fun y M3 => ∃ i p kvs k, x = dR p ∧ CA M3 i p (.dT kvs) ∧ y = dT (k.map PyData.int) ∧ kvs.length ≤ 1000000 ∧ valT kvs k = none ∧ P.nx ρ (M3.set i (p, (.dT (kvs ++ [(k, d)]))))) : SS W (sDPut td ty tb) ρ M P := fun G σ H F D re o mx md =>
  h G σ H F _ re o mx fun d M1 v G1 H1 k1 e1 r1 o1 => k1 G1 σ H1 F _ (re.mono e1) o1 (mx.mono e1) fun x M2 u G2 H2 k2 e2 r2 o2 => k2 G2 σ H2 F _ (re.mono (e1.trans e2)) o2 (mx.mono (e1.trans e2)) fun y M3 w G3 H3 ⟨i, p, kvs, k, ex, hc, ey, hl, hn, kk⟩ e3 r3 o3 => by
    subst ex
    subst ey
    cases r2
    obtain ⟨b, rfl, hb⟩ := key_tup o3 r3
    obtain ⟨vs, hv, kr⟩ := isD_cellT o3 hc
    have hnv : valV vs (k.map Sum.inl) = none := by
      rcases kr.val (k := k) with ⟨a, b⟩ | ⟨v', d', a, b, r⟩
      · exact a
      · rw [hn] at b; cases b
    have hput : putK vs (k.map Sum.inl) v = vs ++ [(k.map Sum.inl, v)] := by
      unfold putK
      rw [if_neg]
      intro ha
      rw [List.any_eq_true] at ha
      obtain ⟨kv, hm, hk⟩ := ha
      unfold valV at hnv
      rw [Option.map_eq_none_iff, List.find?_eq_none] at hnv
      exact hnv kv hm hk
    refine ⟨p, _, rfl, DPut.t hv hb (by rw [kr.length]; exact Nat.lt_of_le_of_lt hl (by decide)), md.nx ρ _ σ G3 _ kk (e1.trans (e2.trans e3)) (re.mono (e1.trans (e2.trans e3))) (o3.store hc ⟨_, upd_same, ?_⟩)⟩
    rw [hput]
    exact kr.append (.cons ⟨rfl, r1.mono (e2.trans e3)⟩ .nil)
end
end PL

/-! PL28: enumerate(zip(xs, ys)). -/
namespace PySem
open Sem (wp)
/-- a zip object, whatever it keeps of the tuple that it handed out -/
abbrev IsZipF (h : Heap) (z TI TO : Addr) (f0 : Value) (f1 : Bool) : Prop :=
  h.get? z = some { cls := .type "zip", dict := none, data := .fields #[f0, .bool f1, .bool false, .ref TI, .ref TO], slots := #[] }
section
variable {prog : Program} {w : World} {A : Around} {E : Value → Shared → Prop} {s : Shared}
/-- the tuple that was handed out is gone, or none was -/
def ZFree (h : Heap) (f0 : Value) : Prop := f0 = .none ∨ ∃ T : Addr, f0 = rawInt T ∧ h.get? T = none
theorem gone_ {a : Addr} {Q : Option Obj → Shared → Prop} (ho : s.heap.get? a = none) (h : Q none s) : wpAny (model prog w) A (loadIfAlive a) Q E s := by
  have h' : Q (s.heap.get? a) s := by rw [ho]; exact h
  exact fun _ _ _ => h'
theorem zip_free {z TI TO : Addr} {f0 : Value} {f1 : Bool} {Q : Bool → Shared → Prop} (hz : IsZipF s.heap z TI TO f0 f1) (hf : ZFree s.heap f0) (h : Q true s) : wpAny (model prog w) A (Builtin.SmallTypes.ownedTupleIsFree (.ref z)) Q E s := by
  unfold Builtin.SmallTypes.ownedTupleIsFree
  rcases hf with rfl | ⟨T, rfl, hT⟩
  · exact wpAny_bind (wpAny_field hz rfl (x := .none) rfl (wpAny_pure h))
  · refine wpAny_bind (wpAny_field hz rfl (x := rawInt T) rfl ?_)
    show wpAny _ _ (loadIfAlive ((T : Int).toNat) >>= _) _ _ _
    rw [Int.toNat_natCast]
    refine wpAny_bind (gone_ hT ?_)
    simp only [Option.isNone_none, if_true]
    exact wpAny_pure h
theorem zip_next_itemF {z TI TO i1 i2 l1 l2 : Addr} {f0 : Value} {f1 : Bool} {k1 k2 : Nat} {xs ys : Array Value} {x y a b : Value} {Q : Value → Shared → Prop} (D : ZipApart z TI TO i1 i2 l1 l2)
    (hz : IsZipF s.heap z TI TO f0 f1) (hf : ZFree s.heap f0) (hTI : IsPair s.heap TI (.ref i1) (.ref i2)) (hTO : IsPair s.heap TO a b)
    (h1 : s.heap.IsListIter i1 l1 k1) (h2 : s.heap.IsListIter i2 l2 k2) (hl1 : s.heap.IsList l1 xs) (hl2 : s.heap.IsList l2 ys) (hx : xs[k1]? = some x) (hy : ys[k2]? = some y)
    (hQ : ∀ h', IsZipF h' z TI TO (rawInt s.heap.objs.size) false → IsPair h' TO x y → h'.IsListIter i1 l1 (k1 + 1) → h'.IsListIter i2 l2 (k2 + 1) → IsPair h' s.heap.objs.size x y → h'.objs.size = s.heap.objs.size + 1 →
      (∀ c o, c ≠ z → c ≠ TO → c ≠ i1 → c ≠ i2 → s.heap.get? c = some o → h'.get? c = some o) → Q (.ref s.heap.objs.size) { s with heap := h' }) :
    wpAny (model prog w) A (Builtin.«zip.__next__» ⟨[.ref z], []⟩) (fun fin s' => ∃ v, fin = .done (.ret v) ∧ Q v s') E s := by
  show wpAny _ _ (field (.ref z) 2 >>= _) _ _ _
  refine wpAny_bind (wpAny_field hz rfl (x := .bool false) rfl ?_)
  show wpAny _ _ (field (.ref z) 3 >>= _) _ _ _
  refine wpAny_bind (wpAny_field hz rfl (x := .ref TI) rfl ?_)
  refine wpAny_bind (wpAny_seqItems hTI rfl ?_)
  show wpAny _ _ (Builtin.SmallTypes.ownedTupleIsFree (.ref z) >>= _) _ _ _
  refine wpAny_bind (zip_free hz hf ?_)
  simp only [if_true]
  refine wpAny_bind (wpAny_rule ?_)
  refine wpAny_bind (wpAny_field hz rfl (x := .ref TO) rfl ?_)
  refine wpAny_bind (wpAny_setField_rec hz (by simp) fun h₁ hz₁ hs₁ => ?_)
  replace hz₁ : IsZipF h₁ z TI TO .ellipsis f1 := hz₁
  refine wpAny_bind ?_
  simp only [List.zipIdx_cons, List.zipIdx_nil, List.forIn_cons, List.forIn_nil]
  refine wpAny_bind (wpAny_bind (wpAny_onRaise ?_))
  show wpAny _ _ (Builtin.SmallTypes.nextOf (.ref i1) >>= _) _ _ _
  refine wpAny_bind (wpAny_nextOf_list_item (h1.extBut hs₁.extBut D.i1z) (hl1.extBut hs₁.extBut D.l1z) hx fun h₂ h1₂ hs₂ => wpAny_pure ?_)
  have hTO₂ : IsPair h₂ TO a b := hs₂.extBut _ _ D.TOi1 (hs₁.extBut _ _ D.TOz hTO)
  refine wpAny_bind (wpAny_seqItems hTO₂ rfl ?_)
  refine wpAny_bind (wpAny_updateSeq_pair hTO₂ fun h₃ hTO₃ hs₃ => ?_)
  replace hTO₃ : IsPair h₃ TO x b := hTO₃
  refine wpAny_bind (wpAny_letGo (wpAny_pure ?_))
  refine wpAny_bind (wpAny_bind (wpAny_onRaise ?_))
  show wpAny _ _ (Builtin.SmallTypes.nextOf (.ref i2) >>= _) _ _ _
  refine wpAny_bind (wpAny_nextOf_list_item (((h2.extBut hs₁.extBut D.i2z).extBut hs₂.extBut D.i12.symm).extBut hs₃.extBut D.TOi2.symm)
    (((hl2.extBut hs₁.extBut D.l2z).extBut hs₂.extBut D.l2i1).extBut hs₃.extBut D.l2TO) hy fun h₄ h2₄ hs₄ => wpAny_pure ?_)
  have hTO₄ : IsPair h₄ TO x b := hs₄.extBut _ _ D.TOi2 hTO₃
  refine wpAny_bind (wpAny_seqItems hTO₄ rfl ?_)
  refine wpAny_bind (wpAny_updateSeq_pair hTO₄ fun h₅ hTO₅ hs₅ => ?_)
  replace hTO₅ : IsPair h₅ TO x y := hTO₅
  refine wpAny_bind (wpAny_letGo (wpAny_pure (wpAny_pure ?_)))
  refine wpAny_bind (wpAny_seqItems hTO₅ rfl ?_)
  refine wpAny_bind (wpAny_newTuple ?_)
  have hsz : h₅.objs.size = s.heap.objs.size := by rw [hs₅.1, hs₄.1, hs₃.1, hs₂.1, hs₁.1]
  have hz₅ : IsZipF h₅ z TI TO .ellipsis f1 := hs₅.extBut _ _ D.TOz.symm (hs₄.extBut _ _ D.i2z.symm (hs₃.extBut _ _ D.TOz.symm (hs₂.extBut _ _ D.i1z.symm hz₁)))
  have hk₅ : ∀ c o, c ≠ z → c ≠ TO → c ≠ i1 → c ≠ i2 → s.heap.get? c = some o → h₅.get? c = some o := fun c o c1 c2 c3 c4 e =>
    hs₅.extBut _ _ c2 (hs₄.extBut _ _ c4 (hs₃.extBut _ _ c2 (hs₂.extBut _ _ c3 (hs₁.extBut _ _ c1 e))))
  have h1₅ : h₅.IsListIter i1 l1 (k1 + 1) := ((h1₂.extBut hs₃.extBut D.TOi1.symm).extBut hs₄.extBut D.i12).extBut hs₅.extBut D.TOi1.symm
  have h2₅ : h₅.IsListIter i2 l2 (k2 + 1) := h2₄.extBut hs₅.extBut D.TOi2.symm
  have hzlt : z < h₅.objs.size := Heap.lt_size hz₅
  show wpAny _ _ (Builtin.SmallTypes.ownedTupleHandOut (.ref z) (.ref h₅.objs.size) >>= _) _ _ _
  refine wpAny_bind ?_
  unfold Builtin.SmallTypes.ownedTupleHandOut
  have hz₆ : IsZipF (h₅.push { cls := .type "tuple", data := .seq #[x, y] }) z TI TO .ellipsis f1 := Heap.get?_push_of_some _ hz₅
  refine wpAny_bind (wpAny_setField_rec hz₆ (by simp) fun h₇ hz₇ hs₇ => ?_)
  replace hz₇ : IsZipF h₇ z TI TO (rawInt h₅.objs.size) f1 := hz₇
  refine wpAny_setField_rec hz₇ (by simp) fun h₈ hz₈ hs₈ => ?_
  replace hz₈ : IsZipF h₈ z TI TO (rawInt h₅.objs.size) false := hz₈
  have up : ∀ c o, c ≠ z → h₅.get? c = some o → h₈.get? c = some o := fun c o c1 e => hs₈.extBut _ _ c1 (hs₇.extBut _ _ c1 (Heap.get?_push_of_some _ e))
  have hT₈ : IsPair h₈ h₅.objs.size x y := hs₈.extBut _ _ (Nat.ne_of_gt hzlt) (hs₇.extBut _ _ (Nat.ne_of_gt hzlt) (Heap.get?_push_size _ rfl))
  have hz8 : h₈.objs.size = h₅.objs.size + 1 := by rw [hs₈.1, hs₇.1, Heap.size_push]
  rw [hsz] at hz₈ hT₈ hz8
  refine wpAny_pure ⟨_, rfl, ?_⟩
  show Q (.ref h₅.objs.size) _
  rw [hsz]
  exact hQ h₈ hz₈ (up _ _ D.TOz hTO₅) (h1₅.at fun o e => up _ o D.i1z e) (h2₅.at fun o e => up _ o D.i2z e) hT₈ hz8 fun c o c1 c2 c3 c4 e => up c o c1 (hk₅ c o c1 c2 c3 c4 e)
theorem zip_next_endF {z TI TO i1 i2 l1 l2 : Addr} {f0 : Value} {f1 : Bool} {k1 k2 : Nat} {xs ys : Array Value} {a b : Value} {Q : Fin → Shared → Prop} (hh : A.handled = none) (D : ZipApart z TI TO i1 i2 l1 l2)
    (hz : IsZipF s.heap z TI TO f0 f1) (hf : ZFree s.heap f0) (hTI : IsPair s.heap TI (.ref i1) (.ref i2)) (hTO : IsPair s.heap TO a b)
    (h1 : s.heap.IsListIter i1 l1 k1) (h2 : s.heap.IsListIter i2 l2 k2) (hl1 : s.heap.IsList l1 xs) (hl2 : s.heap.IsList l2 ys) (hend : xs[k1]? = none ∨ ys[k2]? = none)
    (hE : ∀ h' e, (∀ c o, c ≠ z → c ≠ TO → c ≠ i1 → c ≠ i2 → s.heap.get? c = some o → h'.get? c = some o) → (∃ o, h'.get? e = some o ∧ o.cls = .type "StopIteration") → E (.ref e) { s with heap := h' }) :
    wpAny (model prog w) A (Builtin.«zip.__next__» ⟨[.ref z], []⟩) Q E s := by
  show wpAny _ _ (field (.ref z) 2 >>= _) _ _ _
  refine wpAny_bind (wpAny_field hz rfl (x := .bool false) rfl ?_)
  show wpAny _ _ (field (.ref z) 3 >>= _) _ _ _
  refine wpAny_bind (wpAny_field hz rfl (x := .ref TI) rfl ?_)
  refine wpAny_bind (wpAny_seqItems hTI rfl ?_)
  show wpAny _ _ (Builtin.SmallTypes.ownedTupleIsFree (.ref z) >>= _) _ _ _
  refine wpAny_bind (zip_free hz hf ?_)
  simp only [if_true]
  refine wpAny_bind (wpAny_rule ?_)
  refine wpAny_bind (wpAny_field hz rfl (x := .ref TO) rfl ?_)
  refine wpAny_bind (wpAny_setField_rec hz (by simp) fun h₁ hz₁ hs₁ => ?_)
  replace hz₁ : IsZipF h₁ z TI TO .ellipsis f1 := hz₁
  refine wpAny_bind ?_
  simp only [List.zipIdx_cons, List.zipIdx_nil, List.forIn_cons, List.forIn_nil]
  refine wpAny_bind (wpAny_bind (wpAny_onRaise ?_))
  show wpAny _ _ (Builtin.SmallTypes.nextOf (.ref i1) >>= _) _ _ _
  cases hx : xs[k1]? with
  | none =>
    refine wpAny_bind (wpAny_nextOf_list_end hh (h1.extBut hs₁.extBut D.i1z) (hl1.extBut hs₁.extBut D.l1z) hx fun h₂ e hs₂ he => ?_)
    obtain ⟨oe, hoe, hce⟩ := he
    have hz₂ : IsZipF h₂ z TI TO .ellipsis f1 := hs₂ _ _ D.i1z.symm hz₁
    have hez : e ≠ z := fun x => by subst x; rw [hz₂] at hoe; cases hoe; simp at hce
    refine wpAny_setField_rec hz₂ (by simp) fun h₃ _ hs₃ => hE h₃ e (fun c o c1 _ c3 _ x => hs₃.extBut _ _ c1 (hs₂ _ _ c3 (hs₁.extBut _ _ c1 x))) ⟨oe, hs₃.extBut _ _ hez hoe, hce⟩
  | some x =>
    have hy : ys[k2]? = none := by rcases hend with h | h; rw [hx] at h; cases h; exact h
    refine wpAny_bind (wpAny_nextOf_list_item (h1.extBut hs₁.extBut D.i1z) (hl1.extBut hs₁.extBut D.l1z) hx fun h₂ h1₂ hs₂ => wpAny_pure ?_)
    have hTO₂ : IsPair h₂ TO a b := hs₂.extBut _ _ D.TOi1 (hs₁.extBut _ _ D.TOz hTO)
    refine wpAny_bind (wpAny_seqItems hTO₂ rfl ?_)
    refine wpAny_bind (wpAny_updateSeq_pair hTO₂ fun h₃ hTO₃ hs₃ => ?_)
    refine wpAny_bind (wpAny_letGo (wpAny_pure ?_))
    refine wpAny_bind (wpAny_bind (wpAny_onRaise ?_))
    show wpAny _ _ (Builtin.SmallTypes.nextOf (.ref i2) >>= _) _ _ _
    refine wpAny_bind (wpAny_nextOf_list_end hh (((h2.extBut hs₁.extBut D.i2z).extBut hs₂.extBut D.i12.symm).extBut hs₃.extBut D.TOi2.symm)
      (((hl2.extBut hs₁.extBut D.l2z).extBut hs₂.extBut D.l2i1).extBut hs₃.extBut D.l2TO) hy fun h₄ e hs₄ he => ?_)
    obtain ⟨oe, hoe, hce⟩ := he
    have hz₄ : IsZipF h₄ z TI TO .ellipsis f1 := hs₄ _ _ D.i2z.symm (hs₃.extBut _ _ D.TOz.symm (hs₂.extBut _ _ D.i1z.symm hz₁))
    have hez : e ≠ z := fun x => by subst x; rw [hz₄] at hoe; cases hoe; simp at hce
    refine wpAny_setField_rec hz₄ (by simp) fun h₅ _ hs₅ => hE h₅ e (fun c o c1 c2 c3 c4 x => hs₅.extBut _ _ c1 (hs₄ _ _ c4 (hs₃.extBut _ _ c2 (hs₂.extBut _ _ c3 (hs₁.extBut _ _ c1 x))))) ⟨oe, hs₅.extBut _ _ hez hoe, hce⟩
/-- a zip between two draws, whatever became of its tuples -/
structure ZSt (h : Heap) (z TI TO i1 i2 l1 l2 : Addr) (i : Nat) : Prop where
  ti : IsPair h TI (.ref i1) (.ref i2)
  to : ∃ a b, IsPair h TO a b
  h1 : h.IsListIter i1 l1 i
  h2 : h.IsListIter i2 l2 i
  z : ∃ f0 f1, IsZipF h z TI TO f0 f1 ∧ (f0 = .none ∨ ∃ T : Addr, f0 = rawInt T)
theorem ZSt.keep {h h' : Heap} {z TI TO i1 i2 l1 l2 : Addr} {i : Nat} (st : ZSt h z TI TO i1 i2 l1 l2 i) (k : ∀ b ∈ [z, TI, TO, i1, i2], ∀ o, h.get? b = some o → h'.get? b = some o) : ZSt h' z TI TO i1 i2 l1 l2 i := by
  obtain ⟨a, b, e⟩ := st.to
  obtain ⟨f0, f1, e1, e2⟩ := st.z
  exact ⟨k TI (by simp) _ st.ti, ⟨a, b, k TO (by simp) _ e⟩, st.h1.at fun o q => k i1 (by simp) o q, st.h2.at fun o q => k i2 (by simp) o q, f0, f1, k z (by simp) _ e1, e2⟩
theorem nextOf_zip_item {z TI TO i1 i2 l1 l2 : Addr} {i : Nat} {xs ys : Array Value} {x y : Value} {Q : Value → Shared → Prop} (D : ZipApart z TI TO i1 i2 l1 l2) (st : ZSt s.heap z TI TO i1 i2 l1 l2 i)
    (hl1 : s.heap.IsList l1 xs) (hl2 : s.heap.IsList l2 ys) (hx : xs[i]? = some x) (hy : ys[i]? = some y)
    (hQ : ∀ h', ZSt h' z TI TO i1 i2 l1 l2 (i + 1) → IsPair h' s.heap.objs.size x y → h'.objs.size = s.heap.objs.size + 1 →
      (∀ c o, c ≠ z → c ≠ TO → c ≠ i1 → c ≠ i2 → s.heap.get? c = some o → h'.get? c = some o) → Q (.ref s.heap.objs.size) { s with heap := h' }) :
    wpAny (model prog w) A (Builtin.SmallTypes.nextOf (.ref z)) Q E s := by
  obtain ⟨hTI, ⟨a, b, hTO⟩, h1, h2, f0, f1, hz, hf0⟩ := st
  have hTy : s.TypeIs (.ref z) "zip" := ⟨_, hz, rfl⟩
  unfold Builtin.SmallTypes.nextOf
  refine wpAny_bind (wpAny_callSpecial?_slot (name := Str.ofString "__next__") hTy F.slot_zip_next (wpAny_call_entry F.slot_zip_next hTy F.entry_zip_next ?_ (F.args_zip_next_1 _)))
  rcases hf0 with rfl | ⟨T, rfl⟩
  · exact zip_next_itemF D hz (.inl rfl) hTI hTO h1 h2 hl1 hl2 hx hy fun h' b1 b2 b3 b4 b5 b6 b7 => wpAny_pure (hQ h' ⟨b7 _ _ D.TIz D.TITO D.TIi1 D.TIi2 hTI, ⟨_, _, b2⟩, b3, b4, _, _, b1, .inr ⟨_, rfl⟩⟩ b5 b6 b7)
  · cases hT : s.heap.get? T with
    | none => exact zip_next_itemF D hz (.inr ⟨T, rfl, hT⟩) hTI hTO h1 h2 hl1 hl2 hx hy fun h' b1 b2 b3 b4 b5 b6 b7 => wpAny_pure (hQ h' ⟨b7 _ _ D.TIz D.TITO D.TIi1 D.TIi2 hTI, ⟨_, _, b2⟩, b3, b4, _, _, b1, .inr ⟨_, rfl⟩⟩ b5 b6 b7)
    | some oT =>
      exact zip_next_item_held D hz hT hTI h1 h2 hl1 hl2 hx hy fun h' b1 b3 b4 b5 b6 b7 => wpAny_pure (hQ h' ⟨b7 _ _ D.TIz D.TIi1 D.TIi2 hTI, ⟨_, _, b7 _ _ D.TOz D.TOi1 D.TOi2 hTO⟩, b3, b4, _, _, b1, .inr ⟨_, rfl⟩⟩ b5 b6 fun c o c1 _ c3 c4 e => b7 c o c1 c3 c4 e)
theorem nextOf_zip_end {z TI TO i1 i2 l1 l2 : Addr} {i : Nat} {xs ys : Array Value} {Q : Value → Shared → Prop} (hh : A.handled = none) (D : ZipApart z TI TO i1 i2 l1 l2) (st : ZSt s.heap z TI TO i1 i2 l1 l2 i)
    (hl1 : s.heap.IsList l1 xs) (hl2 : s.heap.IsList l2 ys) (hend : xs[i]? = none ∨ ys[i]? = none)
    (hE : ∀ h' e, (∀ c o, c ≠ z → c ≠ TO → c ≠ i1 → c ≠ i2 → s.heap.get? c = some o → h'.get? c = some o) → (∃ o, h'.get? e = some o ∧ o.cls = .type "StopIteration") → E (.ref e) { s with heap := h' }) :
    wpAny (model prog w) A (Builtin.SmallTypes.nextOf (.ref z)) Q E s := by
  obtain ⟨hTI, ⟨a, b, hTO⟩, h1, h2, f0, f1, hz, hf0⟩ := st
  have hTy : s.TypeIs (.ref z) "zip" := ⟨_, hz, rfl⟩
  unfold Builtin.SmallTypes.nextOf
  refine wpAny_bind (wpAny_callSpecial?_slot (name := Str.ofString "__next__") hTy F.slot_zip_next (wpAny_call_entry F.slot_zip_next hTy F.entry_zip_next ?_ (F.args_zip_next_1 _)))
  rcases hf0 with rfl | ⟨T, rfl⟩
  · exact zip_next_endF hh D hz (.inl rfl) hTI hTO h1 h2 hl1 hl2 hend hE
  · cases hT : s.heap.get? T with
    | none => exact zip_next_endF hh D hz (.inr ⟨T, rfl, hT⟩) hTI hTO h1 h2 hl1 hl2 hend hE
    | some oT => exact zip_next_end_held hh D hz hT hTI h1 h2 hl1 hl2 hend fun h' e k he => hE h' e (fun c o c1 _ c3 c4 x => k c o c1 c3 c4 x) he
theorem enumerate_next_itemZ {e z TI TO i1 i2 l1 l2 : Addr} {i : Nat} {c : Int} {xs ys : Array Value} {x y old : Value} {Q : Value → Shared → Prop} (D : ZipApart z TI TO i1 i2 l1 l2) (st : ZSt s.heap z TI TO i1 i2 l1 l2 i)
    (he : IsEnum s.heap e z c old) (hl1 : s.heap.IsList l1 xs) (hl2 : s.heap.IsList l2 ys) (hx : xs[i]? = some x) (hy : ys[i]? = some y) (hef : e ∉ [z, TI, TO, i1, i2])
    (hQ : ∀ h' tk t, IsEnumOut h' e z (c + 1) (.ref s.heap.objs.size) (s.heap.objs.size + 1) → ZSt h' z TI TO i1 i2 l1 l2 (i + 1) → IsPair h' s.heap.objs.size x y →
      h'.get? (s.heap.objs.size + 1) = some { cls := .type "tuple", data := .seq #[.int c t, .ref s.heap.objs.size] } → h'.objs.size = s.heap.objs.size + 2 →
      (∀ b o, b ∉ [e, z, TO, i1, i2] → s.heap.get? b = some o → h'.get? b = some o) → Q (.ref (s.heap.objs.size + 1)) { s with heap := h', toks := tk }) :
    wpAny (model prog w) A (Builtin.«enumerate.__next__» ⟨[.ref e], []⟩) (fun fin s' => ∃ v, fin = .done (.ret v) ∧ Q v s') E s := by
  obtain ⟨hp, gg, d, tk₀, os⟩ := s
  have n1 : e ≠ z := fun q => hef (by simp [q])
  have n2 : e ≠ TI := fun q => hef (by simp [q])
  have n3 : e ≠ TO := fun q => hef (by simp [q])
  have n4 : e ≠ i1 := fun q => hef (by simp [q])
  have n5 : e ≠ i2 := fun q => hef (by simp [q])
  show wpAny _ _ (field (.ref e) 2 >>= _) _ _ _
  refine wpAny_bind (wpAny_field he rfl (x := .ref z) rfl ?_)
  refine wpAny_bind (nextOf_zip_item D st hl1 hl2 hx hy fun h₁ st₁ hT₁ hz₁ hk₁ => ?_)
  have he₁ : IsEnum h₁ e z c old := hk₁ e _ n1 n3 n4 n5 he
  show wpAny _ _ (field (.ref e) 3 >>= _) _ _ ⟨h₁, gg, d, tk₀, os⟩
  refine wpAny_bind (wpAny_field he₁ rfl (x := rawInt c) rfl ?_)
  show wpAny _ _ (field (.ref e) 4 >>= _) _ _ ⟨h₁, gg, d, tk₀, os⟩
  refine wpAny_bind (wpAny_field he₁ rfl (x := .none) rfl ?_)
  show wpAny _ _ (mkInt c >>= _) _ _ ⟨h₁, gg, d, tk₀, os⟩
  refine wpAny_bind (wpAny_mkInt ?_)
  refine wpAny_bind (wpAny_setField_rec he₁ (by simp) fun h₂ he₂ hs₂ => ?_)
  replace hs₂ : Heap.SameBut e h₁ h₂ := hs₂
  replace he₂ : IsEnum h₂ e z (c + 1) old := he₂
  refine wpAny_bind (wpAny_setField_rec he₂ (by simp) fun h₃ he₃ hs₃ => ?_)
  replace hs₃ : Heap.SameBut e h₂ h₃ := hs₃
  replace he₃ : IsEnum h₃ e z (c + 1) old := he₃
  refine wpAny_bind (wpAny_newTuple ?_)
  have he₄ : IsEnum (h₃.push { cls := .type "tuple", data := .seq #[.int c tk₀, .ref hp.objs.size] }) e z (c + 1) old := Heap.get?_push_of_some _ he₃
  generalize hh₄ : h₃.push { cls := .type "tuple", data := .seq #[.int c tk₀, .ref hp.objs.size] } = h₄ at he₄
  have hsz : h₃.objs.size = hp.objs.size + 1 := by rw [hs₃.1, hs₂.1]; exact hz₁
  have hel : e < hp.objs.size := Heap.lt_size he
  have ht₄ : h₄.get? (hp.objs.size + 1) = some { cls := .type "tuple", data := .seq #[.int c tk₀, .ref hp.objs.size] } := by rw [← hh₄, ← hsz]; exact Heap.get?_push_size _ rfl
  have hz₄ : h₄.objs.size = hp.objs.size + 2 := by rw [← hh₄, Heap.size_push, hsz]
  have up₄ : ∀ b o, b ≠ e → h₁.get? b = some o → h₄.get? b = some o := fun b o hb q => by
    rw [← hh₄]; exact Heap.get?_push_of_some _ (hs₃.extBut b o hb (hs₂.extBut b o hb q))
  show wpAny _ _ (Builtin.SmallTypes.ownedTupleIsFree (.ref e) >>= _) _ _ ⟨h₄, gg, d, tk₀ + 1, os⟩
  rw [hsz]
  clear hh₄ he₃ hs₃ he₂ hs₂
  refine wpAny_bind ?_
  unfold Builtin.SmallTypes.ownedTupleIsFree
  refine wpAny_bind (wpAny_field he₄ rfl (x := .none) rfl (wpAny_pure ?_))
  simp only [if_true]
  refine wpAny_bind (wpAny_rule ?_)
  refine wpAny_bind (wpAny_field he₄ rfl (x := old) rfl ?_)
  refine wpAny_bind (wpAny_setField_rec he₄ (by simp) fun h₅ he₅ hs₅ => ?_)
  replace hs₅ : Heap.SameBut e h₄ h₅ := hs₅
  replace he₅ : IsEnum h₅ e z (c + 1) (.ref hp.objs.size) := he₅
  show wpAny _ _ (Builtin.SmallTypes.ownedTupleHandOut (.ref e) (.ref (hp.objs.size + 1)) >>= _) _ _ ⟨h₅, gg, d, tk₀ + 1, os⟩
  refine wpAny_bind ?_
  unfold Builtin.SmallTypes.ownedTupleHandOut
  refine wpAny_bind (wpAny_setField_rec he₅ (by simp) fun h₆ he₆ hs₆ => ?_)
  replace hs₆ : Heap.SameBut e h₅ h₆ := hs₆
  replace he₆ : IsEnumOut h₆ e z (c + 1) (.ref hp.objs.size) (hp.objs.size + 1) := he₆
  refine wpAny_setField_rec he₆ (by simp) fun h₇ he₇ hs₇ => ?_
  replace hs₇ : Heap.SameBut e h₆ h₇ := hs₇
  replace he₇ : IsEnumOut h₇ e z (c + 1) (.ref hp.objs.size) (hp.objs.size + 1) := he₇
  have up₇ : ∀ b o, b ≠ e → h₄.get? b = some o → h₇.get? b = some o := fun b o hb q => hs₇.extBut b o hb (hs₆.extBut b o hb (hs₅.extBut b o hb q))
  refine wpAny_bind (wpAny_letGo (wpAny_pure ⟨_, rfl, hQ h₇ (tk₀ + 1) tk₀ he₇ ?_ ?_ ?_ ?_ ?_⟩))
  · refine st₁.keep fun b hb o q => ?_
    have hbe : b ≠ e := fun q' => hef (q' ▸ hb)
    exact up₇ b o hbe (up₄ b o hbe q)
  · exact up₇ _ _ (Nat.ne_of_gt hel) (up₄ _ _ (Nat.ne_of_gt hel) hT₁)
  · exact up₇ _ _ (Nat.ne_of_gt (Nat.lt_succ_of_lt hel)) ht₄
  · rw [hs₇.1, hs₆.1, hs₅.1, hz₄]
  · intro b o hb q
    have hbe : b ≠ e := fun q' => hb (by simp [q'])
    exact up₇ b o hbe (up₄ b o hbe (hk₁ b o (fun q' => hb (by simp [q'])) (fun q' => hb (by simp [q'])) (fun q' => hb (by simp [q'])) (fun q' => hb (by simp [q'])) q))
theorem wpAny_pyNext_enum_itemZ {e z TI TO i1 i2 l1 l2 : Addr} {i : Nat} {c : Int} {xs ys : Array Value} {x y old : Value} {Q : Option Value → Shared → Prop} (D : ZipApart z TI TO i1 i2 l1 l2) (st : ZSt s.heap z TI TO i1 i2 l1 l2 i)
    (he : IsEnum s.heap e z c old) (hl1 : s.heap.IsList l1 xs) (hl2 : s.heap.IsList l2 ys) (hx : xs[i]? = some x) (hy : ys[i]? = some y) (hef : e ∉ [z, TI, TO, i1, i2])
    (hQ : ∀ h' tk t, IsEnumOut h' e z (c + 1) (.ref s.heap.objs.size) (s.heap.objs.size + 1) → ZSt h' z TI TO i1 i2 l1 l2 (i + 1) → IsPair h' s.heap.objs.size x y →
      h'.get? (s.heap.objs.size + 1) = some { cls := .type "tuple", data := .seq #[.int c t, .ref s.heap.objs.size] } → h'.objs.size = s.heap.objs.size + 2 →
      (∀ b o, b ∉ [e, z, TO, i1, i2] → s.heap.get? b = some o → h'.get? b = some o) → Q (some (.ref (s.heap.objs.size + 1))) { s with heap := h', toks := tk }) :
    wpAny (model prog w) A (pyNext (.ref e)) Q E s := by
  have hT : s.TypeIs (.ref e) "enumerate" := ⟨_, he, rfl⟩
  unfold pyNext
  exact wpAny_bind (wpAny_attempt (wpAny_callSpecial?_slot (name := Str.ofString "__next__") hT F.slot_enumerate_next
    (wpAny_call_entry F.slot_enumerate_next hT F.entry_enumerate_next
      (enumerate_next_itemZ D st he hl1 hl2 hx hy hef fun h' tk t a b c d k q => wpAny_pure (hQ h' tk t a b c d k q)) (F.args_enumerate_next_1 _))))
theorem wpAny_pyNext_enum_endZ {e z TI TO i1 i2 l1 l2 : Addr} {i : Nat} {c : Int} {xs ys : Array Value} {old : Value} {Q : Option Value → Shared → Prop} (hh : A.handled = none) (D : ZipApart z TI TO i1 i2 l1 l2) (st : ZSt s.heap z TI TO i1 i2 l1 l2 i)
    (he : IsEnum s.heap e z c old) (hl1 : s.heap.IsList l1 xs) (hl2 : s.heap.IsList l2 ys) (hend : xs[i]? = none ∨ ys[i]? = none)
    (hQ : ∀ h', (∀ c o, c ≠ z → c ≠ TO → c ≠ i1 → c ≠ i2 → s.heap.get? c = some o → h'.get? c = some o) → Q none { s with heap := h' }) : wpAny (model prog w) A (pyNext (.ref e)) Q E s := by
  have hT : s.TypeIs (.ref e) "enumerate" := ⟨_, he, rfl⟩
  unfold pyNext
  refine wpAny_bind (wpAny_attempt (wpAny_callSpecial?_slot (name := Str.ofString "__next__") hT F.slot_enumerate_next
    (wpAny_call_entry F.slot_enumerate_next hT F.entry_enumerate_next ?_ (F.args_enumerate_next_1 _))))
  show wpAny _ _ (field (.ref e) 2 >>= _) _ _ _
  refine wpAny_bind (wpAny_field he rfl (x := .ref z) rfl ?_)
  refine wpAny_bind (nextOf_zip_end hh D st hl1 hl2 hend fun h' x he' hx' => ?_)
  obtain ⟨o, ho, hc⟩ := hx'
  refine wpAny_bind (wpAny_isInstance (T := "StopIteration") (b := true) ⟨o, ho, hc⟩ isSubtype_stop ?_)
  exact wpAny_pure (hQ _ he')
end
end PySem
namespace PySem
open Sem (wp)
set_option maxHeartbeats 1000000 in
theorem meets_enumerate_newI {v it : Value} {H : Heap → Prop} (iter : ∀ (prog : Program) (w : World) (A : Around) (E : Value → Shared → Prop) (s : Shared) (Q : Value → Shared → Prop), H s.heap → Q it s → wpAny (model prog w) A (pyIter v) Q E s) :
    Meets (Builtin.«enumerate.__new__» ⟨[.type "enumerate", v], []⟩) (fun _ R s => H s.heap ∧
      R (.ok (.ret (.ref s.heap.objs.size))) { s with heap := s.heap.push { cls := .type "enumerate", data := .fields #[.none, .bool false, it, rawInt 0, .none, .none] } }) :=
  .of_wp fun prog w A R s h => by
    obtain ⟨hp, g, d, tk, os⟩ := s; obtain ⟨h1, h⟩ := h
    have hsub := sub_enumerate
    have q1 : ∀ {A' : Around} {E : Value → Shared → Prop} {Q : Value → Shared → Prop}, Q it ⟨hp, g, d, tk, os⟩ → wpAny (model prog w) A' (pyIter v) Q E ⟨hp, g, d, tk, os⟩ :=
      fun q => iter prog w _ _ ⟨hp, g, d, tk, os⟩ _ h1 q
    wp_walk using q1
    refine wpAny_stack_any fun st => wpAny_pure ?_
    split
    · rename_i c _ _ _ _ _
      cases (c == Value.type "enumerate")
      · wp_walk using q1
        exact ⟨_, rfl, h⟩
      · wp_walk using q1
        exact ⟨_, rfl, h⟩
    · wp_walk using q1
      exact ⟨_, rfl, h⟩
theorem call_enumerate_zip {prog : Program} {w : World} {A : Around} {E : Value → Shared → Prop} {s : Shared} {z TI TO : Addr} {Q : Value → Shared → Prop} (hz : IsZip s.heap z TI TO .none)
    (h : ∀ h', IsEnum h' s.heap.objs.size z 0 .none → (∀ b o, s.heap.get? b = some o → h'.get? b = some o) → Q (.ref s.heap.objs.size) { s with heap := h' }) :
    wpAny (model prog w) A (call (.type "enumerate") [.ref z]) Q E s := by
  refine callType_new F.called_enumerate (by decide) (F.typeCall_enumerate_1 _) (F.newCall_enumerate_1 _) (fun obj => F.args_object_init_2 obj _) F.entry_enumerate_new
    (meets_enumerate_newI (it := .ref z) (H := fun h => IsZip h z TI TO .none) fun prog w A E s Q hz q => wpAny_pyIter_zip hz q) ⟨hz, ?_⟩
  have he : IsEnum (s.heap.push { cls := .type "enumerate", data := .fields #[.none, .bool false, .ref z, rawInt 0, .none, .none] }) s.heap.objs.size z 0 .none := Heap.get?_push_size _ rfl
  exact ⟨⟨_, he, rfl⟩, h _ he fun b o x => Heap.get?_push_of_some _ x⟩
end PySem
namespace PL
open PySem PySem.Spec L2 PyProof.Rows
section
variable {X : Cx} {pins : List (Addr × Obj)} {σ : L2.St} {H : Hp} {s : Shared}
/-- things of ours may have changed, and two new objects are laid -/
theorem turnedNew2 {h' : Heap} {t' : Nat} {ch : List Addr} {T U : Addr} {ob ob2 : HO} (I : Inv X pins σ H s) (k : ∀ b o, b ∉ ch → s.heap.get? b = some o → h'.get? b = some o) (hf : ∀ b ∈ ch, FpOk X pins H b) (hT : s.heap.objs.size ≤ T) (hU : s.heap.objs.size ≤ U) (hTU : T ≠ U)
    (new : ∀ g : Heap, g.get? T = h'.get? T → ObjOk X.prog X.w (upd H T ob) g T ob) (new2 : ObjOk X.prog X.w (upd (upd H T ob) U ob2) h' U ob2) : Inv X pins σ (upd (upd H T ob) U ob2) { s with heap := h', toks := t' } := by
  obtain ⟨g2, p1, p2⟩ := restrict h' fun b => decide (b ≠ U)
  obtain ⟨g1, q1, q2⟩ := restrict g2 fun b => decide (b ≠ T)
  have hnT : H T = none := I.hok.fresh hT
  have hnU : upd H T ob U = none := by rw [upd_ne hTU.symm]; exact I.hok.fresh hU
  have e2U : g2.get? U = none := p2 U (decide_eq_false fun z => z rfl)
  have e1T : g1.get? T = none := q2 T (decide_eq_false fun z => z rfl)
  have e2 : ∀ b, b ≠ U → g2.get? b = h'.get? b := fun b hb => p1 b (decide_eq_true hb)
  have e1 : ∀ b, b ≠ T → g1.get? b = g2.get? b := fun b hb => q1 b (decide_eq_true hb)
  have I1 : Inv X pins σ H { s with heap := g1, toks := t' } := I.turnedL (ch := ch) (fun b o hb q => by
    have hlt := Heap.lt_size q
    have b1 : b ≠ T := fun z => by rw [z] at hlt; exact Nat.lt_irrefl _ (Nat.lt_of_lt_of_le hlt hT)
    have b2 : b ≠ U := fun z => by rw [z] at hlt; exact Nat.lt_irrefl _ (Nat.lt_of_lt_of_le hlt hU)
    rw [e1 b b1, e2 b b2]
    exact k b o hb q) hf
  have I2 : Inv X pins σ (upd H T ob) { s with heap := g2, toks := t' } := I1.laidN (t' := t') (fun b u q => by
    by_cases hb : b = T
    · rw [hb, e1T] at q; cases q
    · rw [← e1 b hb]; exact q) e1T hnT (new g2 (e2 T hTU))
  exact I2.laidN (t' := t') (fun b u q => by
    by_cases hb : b = U
    · rw [hb, e2U] at q; cases q
    · rw [← e2 b hb]; exact q) e2U hnU new2
end
def Itez (a b : Addr) : It :=
  ⟨fun i H => ∃ (xs ys : List V) (x y : V), H a = some (.lst xs) ∧ H b = some (.lst ys) ∧ xs[i]? = some x ∧ ys[i]? = some y,
    fun i H v H' => ∃ T U x y, v = .ref U ∧ H T = none ∧ upd H T (.tup [x, y]) U = none ∧ H' = upd (upd H T (.tup [x, y])) U (.tup [.int (i : Nat), .ref T]) ∧ (∀ xs, H a = some (.lst xs) → xs[i]? = some x) ∧ ∀ ys, H b = some (.lst ys) → ys[i]? = some y,
    fun i H => ∃ xs ys : List V, H a = some (.lst xs) ∧ H b = some (.lst ys) ∧ (xs.length ≤ i ∨ ys.length ≤ i)⟩
theorem turn_enumZ {P : Program} {w : World} {K : PySem.W.Frag} {elts : List Expr} {kk : Nat} {tpos : Pos} {a b e z TI TO i1 i2 : Addr} (D : ZipApart z TI TO i1 i2 a b) (hef : e ∉ [z, TI, TO, i1, i2]) :
    Turn P w K (.Tuple elts kk tpos) (Itez a b) [e, z, TI, TO, i1, i2] e (fun i h => (∃ old, IsEnum h e z ((i : Nat) : Int) old) ∧ ZSt h z TI TO i1 i2 a b i) where
  mem := by simp
  obj := fun i h st c hc => by
    obtain ⟨⟨old, he⟩, hTI, ⟨x, y, hTO⟩, ⟨o1, e1, _, d1⟩, ⟨o2, e2, _, d2⟩, f0, f1, hz, _⟩ := st
    have e' : c = e ∨ c = z ∨ c = TI ∨ c = TO ∨ c = i1 ∨ c = i2 := by simpa using hc
    rcases e' with q | q | q | q | q | q
    · rw [q]; exact ⟨_, he, fun v q => nomatch q⟩
    · rw [q]; exact ⟨_, hz, fun v q => nomatch q⟩
    · rw [q]; exact ⟨_, hTI, fun v q => nomatch q⟩
    · rw [q]; exact ⟨_, hTO, fun v q => nomatch q⟩
    · rw [q]; exact ⟨o1, e1, fun v q => by rw [d1] at q; cases q⟩
    · rw [q]; exact ⟨o2, e2, fun v q => by rw [d2] at q; cases q⟩
  keep := fun i h h' st k => by
    obtain ⟨⟨old, he⟩, st⟩ := st
    exact ⟨⟨old, k e (by simp) _ he⟩, st.keep fun b hb o q => k b (List.mem_cons_of_mem _ hb) o q⟩
  item := by
    intro X hP hw hK hc i pins s σ H E I hf st hg
    subst hP hw hK
    obtain ⟨⟨old, he⟩, zs⟩ := st
    obtain ⟨xs, ys, x, y, hqx, hqy, hx, hy⟩ := hg
    obtain ⟨its, rv, p, _⟩ := I.list (.inl (.inl hqx))
    obtain ⟨its2, rv2, p2, _⟩ := I.list (.inl (.inl hqy))
    obtain ⟨u, hu, ru⟩ := rv.get hx
    obtain ⟨u2, hu2, ru2⟩ := rv2.get hy
    have hfl : ∀ c ∈ [e, z, TI, TO, i1, i2], c < s.heap.objs.size := by
      intro c hcm
      obtain ⟨hTI, ⟨x, y, hTO⟩, ⟨o1, e1, _⟩, ⟨o2, e2, _⟩, f0, f1, hz, _⟩ := zs
      have e' : c = e ∨ c = z ∨ c = TI ∨ c = TO ∨ c = i1 ∨ c = i2 := by simpa using hcm
      rcases e' with q | q | q | q | q | q <;> rw [q]
      · exact Heap.lt_size he
      · exact Heap.lt_size hz
      · exact Heap.lt_size hTI
      · exact Heap.lt_size hTO
      · exact Heap.lt_size e1
      · exact Heap.lt_size e2
    refine wpAny_pyNext_enum_itemZ D zs he p.isList p2.isList (x := u) (y := u2) (by simpa using hu) (by simpa using hu2) hef fun h' tk t ho zs' hT0 hT1 hsz hk => ?_
    refine ⟨_, rfl, wpAny_letOwnedTupleGo_enum (s := { s with heap := h', toks := tk }) ho fun h'' he' sb => ?_⟩
    have hel : e < s.heap.objs.size := hfl e (by simp)
    have hT0' : IsPair h'' s.heap.objs.size u u2 := (sb.2 _ (Nat.ne_of_gt hel)).trans hT0
    have hT1' : h''.get? (s.heap.objs.size + 1) = some { cls := .type "tuple", data := .seq #[.int i t, .ref s.heap.objs.size] } := (sb.2 _ (Nat.ne_of_gt (Nat.lt_succ_of_lt hel))).trans hT1
    have hn0 : H s.heap.objs.size = none := I.hok.fresh (Nat.le_refl _)
    have hne : s.heap.objs.size ≠ s.heap.objs.size + 1 := Nat.ne_of_lt (Nat.lt_succ_self _)
    have hn1 : upd H s.heap.objs.size (.tup [x, y]) (s.heap.objs.size + 1) = none := by rw [upd_ne hne.symm]; exact I.hok.fresh (Nat.le_succ _)
    have I1 : Inv X pins σ (upd (upd H s.heap.objs.size (.tup [x, y])) (s.heap.objs.size + 1) (.tup [.int (i : Nat), .ref s.heap.objs.size])) { s with heap := h'', toks := tk } :=
      turnedNew2 I (ch := [e, z, TI, TO, i1, i2]) (fun b ob hb q => (sb.2 b (fun z => hb (by simp [z]))).trans (hk b ob (fun q' => hb (by
        have : b = e ∨ b = z ∨ b = TO ∨ b = i1 ∨ b = i2 := by simpa using q'
        rcases this with r | r | r | r | r <;> simp [r])) q)) hf (Nat.le_refl _) (Nat.le_succ _) hne
        (fun g hg => ⟨by show 2 ≤ sizeLine; decide, [u, u2], .cons ru (.cons ru2 .nil), ⟨_, hg.trans hT0', rfl, _, rfl⟩⟩)
        ⟨by show 2 ≤ sizeLine; decide, [.int i t, .ref s.heap.objs.size], .cons ⟨_, rfl⟩ (.cons rfl .nil), ⟨_, hT1', rfl, _, rfl⟩⟩
    refine ⟨.ref (s.heap.objs.size + 1), _, I1, rfl, ⟨_, _, x, y, rfl, hn0, hn1, rfl, fun zs hz => ?_, fun zs hz => ?_⟩, ⟨⟨.ref s.heap.objs.size, ?_⟩, zs'.keep fun b hb o q => (sb.2 b fun z => hef (z ▸ hb)).trans q⟩, fun b hb => ?_⟩
    · rw [hqx] at hz; cases hz; exact hx
    · rw [hqy] at hz; cases hz; exact hy
    · have e1 : ((i + 1 : Nat) : Int) = (i : Int) + 1 := by omega
      rw [e1]; exact he'
    · have hb' := hfl b hb
      rw [upd_ne (Nat.ne_of_lt (Nat.lt_succ_of_lt hb')), upd_ne (Nat.ne_of_lt hb')]
      exact (hf b hb).1
  done := by
    intro X hP hw hK hc i pins s σ H E I hf st hg
    subst hP hw hK
    obtain ⟨⟨old, he⟩, zs⟩ := st
    obtain ⟨xs, ys, hqx, hqy, hend⟩ := hg
    obtain ⟨its, rv, p, _⟩ := I.list (.inl (.inl hqx))
    obtain ⟨its2, rv2, p2, _⟩ := I.list (.inl (.inl hqy))
    have l1 := rv.length
    have l2 := rv2.length
    refine wpAny_pyNext_enum_endZ (I.ok.hd hc) D zs he p.isList p2.isList ?_ fun h' hk => ⟨rfl, I.turnedL (t' := s.toks) (ch := [e, z, TI, TO, i1, i2]) (fun c o hb q => hk c o (fun q' => hb (by simp [q'])) (fun q' => hb (by simp [q'])) (fun q' => hb (by simp [q'])) (fun q' => hb (by simp [q'])) q) hf⟩
    rcases hend with h | h
    · exact .inl (by simp; omega)
    · exact .inr (by simp; omega)
  self := fun A i s Q E st h => let ⟨⟨_, he⟩, _⟩ := st; wpAny_pyIter_enum he h
def iEnumZ (te : L2.St → Hp → (Addr → Addr → Hp → Prop) → Prop) : TI := fun σ H R => te σ H fun a b H1 => R (Itez a b) H1
theorem pi_enumZ {X : Cx} {e : Expr} {te : L2.St → Hp → (Addr → Addr → Hp → Prop) → Prop} {p pos tpos : Pos} {elts : List Expr} {kk : Nat} (hg : Gl X "enumerate") (hm : X.mg "enumerate" = none) (he : PZp X e te) (na : starEach [e] X.env = (false, eval e X.env) :: starEach [] X.env := by rfl) :
    PI X (.Tuple elts kk tpos) (.Call (.Name "enumerate" p) [e] [] pos) (iEnumZ te) := by
  refine ⟨fun pins s σ H R I h => ?_⟩
  refine Call_ (ld_blt I hg hm boot_enumerate (PyProof.Rows.callWith_type1 (args_cons (thn (he pins s σ H _ I h) fun x s1 ⟨z, TI, TO, i1, i2, a, b, H1, ex, D, I1, hf, hz, hTI, hTO, h1, h2, q⟩ => args_nil ?_) na) na))
  subst ex
  refine call_enumerate_zip hz fun h' he' hk => wpAny_pyIter_enum he' ?_
  have I2 : Inv X pins σ H1 { s1 with heap := h' } := I1.kept (t' := s1.toks) hk
  have hcl : ∀ c ∈ [z, TI, TO, i1, i2], c < s1.heap.objs.size := fun c hcm => by
    obtain ⟨o1, e1, _⟩ := id h1
    obtain ⟨o2, e2, _⟩ := id h2
    have e' : c = z ∨ c = TI ∨ c = TO ∨ c = i1 ∨ c = i2 := by simpa using hcm
    rcases e' with q | q | q | q | q <;> rw [q]
    · exact Heap.lt_size hz
    · exact Heap.lt_size hTI
    · exact Heap.lt_size hTO
    · exact Heap.lt_size e1
    · exact Heap.lt_size e2
  refine ⟨s1.heap.objs.size, [s1.heap.objs.size, z, TI, TO, i1, i2], _, _, H1, rfl, I2, turn_enumZ D (fun hm' => Nat.lt_irrefl _ (hcl _ hm')), ⟨⟨.none, he'⟩, hk _ _ hTI, ⟨_, _, hk _ _ hTO⟩, h1.at fun o q => hk _ o q, h2.at fun o q => hk _ o q, .none, false, hk _ _ hz, .inl rfl⟩, fun c hcm => ?_, q⟩
  rcases List.mem_cons.mp hcm with r | r
  · rw [r]
    exact I1.fpOk (Nat.le_refl _) (I1.hok.fresh (Nat.le_refl _))
  · exact hf c r
section
variable {W : WD} {ρ : Rho} {M : Cells} {ta : TA}
theorem si_enumZ {R : Nat → (Nat → D → Prop) → (Cells → Prop) → Cells → Prop} (h : SA W ta ρ M fun ds M1 => ∃ ps qs, ds = [dL ps, dL qs] ∧ R (min ps.length qs.length) (fun i d => ∃ p q, ps[i]? = some p ∧ qs[i]? = some q ∧ d = dT [.int (i : Int), .tuple [p, q]]) (fun _ => True) M1) : SI W (iEnumZ (tZp ta)) ρ M R := fun G σ H F Q re o mx q =>
  h G σ H F _ re o mx fun ds M1 vs G1 H1 ⟨ps, qs, ed, k⟩ e1 r1 o1 => by
    subst ed
    obtain ⟨v, w, rfl, rv, rw'⟩ := r1.two
    have rv' : Rp G1 v (.list ps) := rv
    have rw2 : Rp G1 w (.list qs) := rw'
    cases rv' with
    | @lst a xs _ ha hr =>
      cases rw2 with
      | @lst b ys _ hb hr2 =>
        have hl : xs.length = ps.length := hr.length
        have hl2 : ys.length = qs.length := hr2.length
        refine ⟨a, b, xs, ys, rfl, o1.ex _ _ ha, o1.ex _ _ hb, q _ _ _ M1 G1 H1 _ k e1 o1 ?_⟩
        refine ⟨fun H => H a = some (.lst xs) ∧ H b = some (.lst ys), fun i H v H' => ∃ T U x y, v = .ref U ∧ H T = none ∧ upd H T (.tup [x, y]) U = none ∧ H' = upd (upd H T (.tup [x, y])) U (.tup [.int (i : Nat), .ref T]) ∧ xs[i]? = some x ∧ ys[i]? = some y, ⟨fun i H hi gw => ?_, fun H gw => ?_, fun i H v H' hi gw y => ?_⟩, fun F' G' M' H e' o' _ => ⟨o'.ex _ _ (e' _ _ ha), o'.ex _ _ (e' _ _ hb)⟩, ?_⟩
        · have h1 : i < xs.length := by omega
          have h2 : i < ys.length := by omega
          exact ⟨xs, ys, xs[i], ys[i], gw.1, gw.2, List.getElem?_eq_getElem h1, List.getElem?_eq_getElem h2⟩
        · exact ⟨xs, ys, gw.1, gw.2, by omega⟩
        · obtain ⟨T, U, x, y, a1, a2, a3, a4, a5, a6⟩ := y
          exact ⟨T, U, x, y, a1, a2, a3, a4, a5 xs gw.1, a6 ys gw.2⟩
        · rintro F' i G' M' H v H2 hi e' o' _ ⟨T, U, x, y, rfl, hT, hU, rfl, hx, hy⟩
          obtain ⟨p, hp, rp⟩ := hr.getV hx
          obtain ⟨q', hq, rq⟩ := hr2.getV hy
          obtain ⟨G2, d, b1, b2, b3, b4⟩ := pair_new o' hT (Rp.mono e' rp) (Rp.mono e' rq)
          subst b3
          obtain ⟨G3, d3, c1, c2, c3, c4⟩ := pair_new b4 hU (Rp.int (i : Nat)) b2
          exact ⟨G3, d3, b1.trans c1, c2, ⟨p, q', hp, hq, c3⟩, c4⟩
/-- enumerate(zip(..)) of data -/
theorem src_EZ {α β : Type} (f : α → PyData) (g : β → PyData) (xs : List α) (ys : List β) {M2 : Cells} (h : SA W ta ρ M fun ds M1 => ds = [dL (xs.map f), dL (ys.map g)] ∧ M1 = M2) :
    SI W (iEnumZ (tZp ta)) ρ M (Src (xs.zip ys) (fun i x => dT [.int (i : Int), .tuple [f x.1, g x.2]]) M2) :=
  si_enumZ (SA.imp h fun d M1 ⟨e, i0⟩ => ⟨_, _, e, by simp, i0, fun i d _ ⟨p, q, hp, hq, e⟩ => by
    obtain ⟨o, ho, rfl⟩ := map_at hp
    obtain ⟨o2, ho2, rfl⟩ := map_at hq
    exact ⟨(o, o2), zip_at ho ho2, e⟩, fun _ => trivial⟩)
end
end PL

/-! PL29: a cell frozen wherever it is named; bit_length; slices of given lists. -/
namespace PL
open PySem PySem.Spec L2
/-- d, or d where it names p told as data -/
def SubD (p : Addr) (ps : List PyData) (d e : D) : Prop := e = d ∨ (d = dR p ∧ e = dL ps)
abbrev SubR (p : Addr) (ps : List PyData) : Rho → Rho → Prop := All2 fun a b => b = a ∨ (a = some (dR p) ∧ b = some (dL ps))
def SubC (p : Addr) (ps : List PyData) : Cell → Cell → Prop
  | .lst ds, .lst es => All2 (SubD p ps) ds es
  | .ins C fs, .ins C' gs => C = C' ∧ All2 (fun (a b : Str × D) => a.1 = b.1 ∧ SubD p ps a.2 b.2) fs gs
  | c, c' => c = c'
abbrev SubM (p : Addr) (ps : List PyData) : Cells → Cells → Prop := All2 fun a b => a.1 = b.1 ∧ SubC p ps a.2 b.2
theorem SubD.rd {G : Hp} {p : Addr} {ps : List PyData} (h : Rp G (.ref p) (.list ps)) {v : V} {d e : D} (s : SubD p ps d e) (r : RD G v d) : RD G v e := by
  rcases s with rfl | ⟨rfl, rfl⟩
  · exact r
  · cases r
    exact h
theorem all2_sub {α β : Type} {R : α → β → Prop} {S : β → β → Prop} (f : ∀ a b c, S b c → R a b → R a c) : ∀ {as : List α} {bs cs : List β}, All2 R as bs → All2 S bs cs → All2 R as cs
  | _, _, _, .nil, .nil => .nil
  | _, _, _, .cons a t, .cons s u => .cons (f _ _ _ s a) (all2_sub f t u)
theorem SubC.ok {G H : Hp} {p : Addr} {ps : List PyData} (h : Rp G (.ref p) (.list ps)) {a : Addr} {c c' : Cell} (s : SubC p ps c c') (r : CellR G H a c) : CellR G H a c' := by
  cases c with
  | lst ds =>
    cases c' with
    | lst es =>
      obtain ⟨vs, q, rr⟩ := r
      exact ⟨vs, q, all2_sub (R := RD G) (S := SubD p ps) (fun _ _ _ s r => SubD.rd h s r) rr s⟩
    | ins _ _ => cases s
    | dK _ => cases s
    | dT _ => cases s
  | ins C fs =>
    cases c' with
    | lst _ => cases s
    | ins C' gs =>
      obtain ⟨e, s⟩ := s
      subst e
      obtain ⟨dx, vs, q, rr⟩ := r
      exact ⟨dx, vs, q, all2_sub (R := fun (p : Str × V) (q : Str × D) => p.1 = q.1 ∧ RD G p.2 q.2) (S := fun (a b : Str × D) => a.1 = b.1 ∧ SubD p ps a.2 b.2) (fun _ _ _ s r => ⟨r.1.trans s.1, SubD.rd h s.2 r.2⟩) rr s⟩
    | dK _ => cases s
    | dT _ => cases s
  | dK _ => cases c' <;> first | (cases s; exact r) | cases s
  | dT _ => cases c' <;> first | (cases s; exact r) | cases s
theorem subM_keys {p : Addr} {ps : List PyData} : ∀ {M N : Cells}, SubM p ps M N → N.map (·.1) = M.map (·.1)
  | _, _, .nil => rfl
  | _, _, .cons a t => by rw [List.map_cons, List.map_cons, subM_keys t, a.1]
theorem subM_mem {p : Addr} {ps : List PyData} : ∀ {M N : Cells}, SubM p ps M N → ∀ q ∈ N, ∃ c, (q.1, c) ∈ M ∧ SubC p ps c q.2
  | _, _, .nil, q, hq => by cases hq
  | _, _, @All2.cons _ _ _ x y M N a t, q, hq => by
    rcases List.mem_cons.mp hq with e | hq
    · subst e
      exact ⟨x.2, by rw [← a.1]; exact List.mem_cons_self, a.2⟩
    · obtain ⟨c, h1, h2⟩ := subM_mem t q hq
      exact ⟨c, List.mem_cons_of_mem _ h1, h2⟩
theorem Own.subM {G H : Hp} {p : Addr} {ps : List PyData} {M N F : Cells} (o : Own G (M ++ F) H) (h : Rp G (.ref p) (.list ps)) (s : SubM p ps M N) : Own G (N ++ F) H := by
  have hk := subM_keys s
  refine ⟨o.ex, by rw [List.map_append, hk, ← List.map_append]; exact o.nd, fun q hq => ?_, fun q hq => ?_⟩
  · rcases List.mem_append.mp hq with z | z
    · obtain ⟨c, h1, h2⟩ := subM_mem s q z
      exact o.fr (q.1, c) (List.mem_append_left _ h1)
    · exact o.fr q (List.mem_append_right _ z)
  · rcases List.mem_append.mp hq with z | z
    · obtain ⟨c, h1, h2⟩ := subM_mem s q z
      exact h2.ok h (o.ok (q.1, c) (List.mem_append_left _ h1))
    · exact o.ok q (List.mem_append_right _ z)
theorem REnv.subR {G : Hp} {p : Addr} {ps : List PyData} (h : Rp G (.ref p) (.list ps)) : ∀ {σ : L2.St} {ρ ρ' : Rho}, REnv G σ ρ → SubR p ps ρ ρ' → REnv G σ ρ' := by
  intro σ ρ ρ' re
  induction re generalizing ρ' with
  | nil => intro s; cases s; exact .nil
  | none re ih =>
    intro s
    cases s with
    | cons a t =>
      rcases a with rfl | ⟨e, _⟩
      · exact .none (ih t)
      · cases e
  | some r re ih =>
    intro s
    cases s with
    | cons a t =>
      rcases a with rfl | ⟨e, rfl⟩
      · exact .some r (ih t)
      · cases e
        cases r
        exact .some h (ih t)
section
variable {W : WD} {ρ : Rho} {M : Cells} {P : PD}
/-- a cell stays as it is from now on; where it is named it may be told as data -/
theorem ss_frzA (j : Nat) {tt : TS} {p : Addr} {ps : List PyData} (hj : M[j]? = some (p, Cl ps)) (ρ' : Rho) (N : Cells) (hρ : SubR p ps ρ ρ') (hN : SubM p ps (M.eraseIdx j) N) (h : SS W tt ρ' N P) : SS W tt ρ M P := fun G σ H F D re o mx md => by
  obtain ⟨G', e, o', r'⟩ := o.freeze (p := p) (ps := ps) (N := M.eraseIdx j ++ F) (List.mem_append_left _ (List.mem_of_getElem? hj)) (List.Sublist.append (List.eraseIdx_sublist M j) (List.Sublist.refl F)) (apart_of o hj)
  exact h G' σ H F D (REnv.subR r' (re.mono e) hρ) (o'.subM r' hN) (mx.mono e) (md.mono e)
theorem subR_refl {p : Addr} {ps : List PyData} : ∀ ρ : Rho, SubR p ps ρ ρ
  | [] => .nil
  | _ :: t => .cons (.inl rfl) (subR_refl t)
theorem subC_refl {p : Addr} {ps : List PyData} : ∀ c : Cell, SubC p ps c c
  | .lst ds => by
    show All2 (SubD p ps) ds ds
    induction ds with
    | nil => exact .nil
    | cons a t ih => exact .cons (.inl rfl) ih
  | .ins C fs => by
    refine ⟨rfl, ?_⟩
    induction fs with
    | nil => exact .nil
    | cons a t ih => exact .cons ⟨rfl, .inl rfl⟩ ih
  | .dK _ => rfl
  | .dT _ => rfl
theorem subM_refl {p : Addr} {ps : List PyData} : ∀ M : Cells, SubM p ps M M
  | [] => .nil
  | c :: t => .cons ⟨rfl, subC_refl c.2⟩ (subM_refl t)
end
section
variable {W : WD} {ρ : Rho} {M : Cells} {K : D → Cells → Prop} {Kf : PySem.W.Frag} {te : TE}
/-- n.bit_length() -/
theorem se_bits (h : SE W te ρ M fun d M1 => IsI d fun i => K (dI (Builtin.Int.intBits i : Nat)) M1) : SE W (tBits te) ρ M K := fun G σ H F Q re o mx q =>
  h G σ H F _ re o mx fun d M1 v G1 H1 ⟨i, ed, k⟩ e1 r1 o1 => by
    subst ed
    cases int_of r1
    exact ⟨i, rfl, q _ M1 _ G1 H1 k e1 (Rp.int _) o1⟩
theorem bits_small {i : Int} {n : Nat} (h : i.natAbs < 2 ^ n) : Builtin.Int.intBits i ≤ n := PyProof.Rows.intBits_le h
/-- a slice of a given list -/
theorem lr_Q {Ks : PySem.W.Frag} {ns : List Int} {lo hi : Option Int} (k : K (dL ((cutP ns lo hi).map PyData.int)) M) : LR (rSlA Ks) (.sq Ks (ns.map V.int)) lo hi M K := fun G H F u Q r o q => by
  obtain ⟨a, rfl, ha⟩ := r
  refine .inl ⟨a, ns.map V.int, rfl, o.ex.sql ha, fun p hp => ?_⟩
  have e : cutV (ns.map V.int) lo hi = (cutP ns lo hi).map V.int := by
    unfold cutV cutP
    rw [List.length_map, List.map_take, List.map_drop]
  rw [e]
  obtain ⟨G', e2, r2, o2⟩ := new_lst o hp (RpAll.ofInts (cutP ns lo hi))
  exact q _ M _ G' _ k e2 r2 o2
end
end PL

/-! PL30: a def that hands back cells of its own in what it was given; a pair of cells. -/
namespace PL
open PySem PySem.Spec L2
open PyProof.Rows (envOfC)
/-- K, once some cells are let go or stay as they are from now on -/
inductive Fz (K : D → Cells → Prop) : D → Cells → Prop
  | here {d : D} {M : Cells} : K d M → Fz K d M
  | frz {d : D} {M : Cells} (j : Nat) {p : Addr} {ps : List PyData} (e : D) (N : Cells) : M[j]? = some (p, Cl ps) → SubD p ps d e → SubM p ps (M.eraseIdx j) N → Fz K e N → Fz K d M
  | sub {d : D} {M : Cells} (N : Cells) : List.Sublist N M → Fz K d N → Fz K d M
  | perm {d : D} {M : Cells} (N : Cells) : M.Perm N → Fz K d N → Fz K d M
theorem Fz.fin {G : Hp} {F : Cells} {K : D → Cells → Prop} {Q : VK} (h : Fin G F K Q) : Fin G F (Fz K) Q := fun d M v G' H k e r o => by
  induction k generalizing G' with
  | here k => exact h _ _ v G' H k e r o
  | @frz d M j p ps d' N hj hd hN _ ih =>
    obtain ⟨G2, e2, o2, r2⟩ := o.freeze (p := p) (ps := ps) (N := M.eraseIdx j ++ F) (List.mem_append_left _ (List.mem_of_getElem? hj)) (List.Sublist.append (List.eraseIdx_sublist M j) (List.Sublist.refl F)) (apart_of o hj)
    exact ih G2 (e.trans e2) (SubD.rd r2 hd (r.mono e2)) (o2.subM r2 hN)
  | sub N hs _ ih => exact ih G' e r (o.sub (List.Sublist.append hs (List.Sublist.refl F)))
  | perm N hp _ ih => exact ih G' e r (o.perm (hp.append_right F))
abbrev PFa (K : D → Cells → Prop) : PD := { nx := fun _ M => Fz K dN M, rt := Fz K }
theorem MatchD.fnA {G : Hp} {F : Cells} {K : D → Cells → Prop} {Q : VK} (h : Fin G F K Q) : MatchD G F (PFa K) { nx := fun _ H' => Q .non H', rt := Q } where
  nx := fun ρ M σ G' H k e re o => Fz.fin h dN M .non G' H k e Rp.non o
  rt := Fz.fin h
  bk := fun _ _ _ _ _ k => k.elim
  ct := fun _ _ _ _ _ k => k.elim
section
variable {P : Program} {w : World} {K : PySem.W.Frag} {mg : Str → Option Value} {base : Heap}
/-- a def that lets nothing out; it may leave new cells behind -/
theorem fnA_ok {x qual : Str} {st : Stmt} {f : Addr} {fd : FuncData} {N ps : List Str} {k : Nat} {s : DSp} (F : Fun K x qual st f fd) (S : FnScope N ps (defScope st)) (hl : ∀ ds M K KX, s ds M K KX → ds.length = ps.length)
    (hb : ∀ (cdv : Value) (A : Around) (outer : List PySem.Env) (s0 : Shared) (H : Hp) (E : XK), Room k (A.deeper (envOfC qual (defScope st) s0.heap.objs.size f cdv)) →
      ∃ t, PSs (cxOf CX0 P w K mg base N qual (defScope st) f cdv A outer s0 H E).nox (defBody st) t ∧
        ∀ (ds : List D) (M : Cells) (Kd : D → Cells → Prop) (KX : XD → Cells → Prop), s ds M Kd KX → SS W0 t (ds.map some ++ List.replicate (N.length - ps.length) none) M (PFa Kd)) :
    FnOk P w K mg base CX0 (k + 1) f fd ps (spD s) := by
  have hlen : ∀ vs H Q E, spD s vs H Q E → vs.length = ps.length := fun vs H Q E ⟨G, ds, M, F, Kd, KX, o, r, h, _, _⟩ => by
    rw [r.length]
    exact hl ds M Kd KX h
  refine F.ok S hlen fun cdv A outer s0 H vs Q E hr h => ?_
  obtain ⟨t, ht, hs⟩ := hb cdv A outer s0 H E hr
  refine ⟨t, ht, ?_⟩
  have hv := hlen vs H Q E h
  obtain ⟨G, ds, M, F, Kd, KX, o, r, h, q, qx⟩ := h
  unfold L2.start
  rw [hv]
  exact hs ds M Kd KX h G _ H F _ (REnv.start _ r) o matchX0 (MatchD.fnA q)
end
section
variable {W : WD} {ρ : Rho} {M : Cells} {K : D → Cells → Prop} {KE : Rho → Cells → Prop} {Kf : PySem.W.Frag} {ta : TA}
/-- a new instance, its __init__ leaves more cells behind -/
theorem se_makeA {C : Addr} {s : DSp} {E : XK} {ta' : TA} (hE : ∀ c d σ H, W.E c d σ H → E c d H)
    (h : SA W ta' ρ M fun ds M1 => ∀ x, s (dR x :: ds) [(x, .ins C [])] (fun d M' => d = dN ∧ K (dR x) (M1 ++ M')) fun _ _ => False) : SE W (tMake C (spD s) [] E ta') ρ M K := fun G σ H F Q re o mx q =>
  h G σ H F _ re o mx fun ds M1 vs G1 H1 k1 e1 r1 o1 => by
    intro x dx hx hdx hne
    show spD s (.ref x :: (vs ++ [])) _ _ E
    rw [List.append_nil]
    have e2 : Ex G1 (upd G1 dx (.own x)) := Ex.new (o1.ex.free hdx)
    have o2 : Own (upd G1 dx (.own x)) (M1 ++ F) (upd H1 dx (.own x)) := o1.push hdx _
    have hx2 : (upd H1 dx (.own x)) x = none := by rw [upd_ne hne.symm]; exact hx
    have o3 := o2.cell (c := .ins C []) hx2 (u := .ins C dx []) ⟨dx, [], upd_same, .nil⟩
    have o4 : Own (upd G1 dx (.own x)) ([(x, .ins C [])] ++ (M1 ++ F)) (upd (upd H1 dx (.own x)) x (.ins C dx [])) := o3.perm (by
      rw [List.append_assoc]
      exact (List.perm_middle (a := (x, Cell.ins C [])) (l₁ := M1) (l₂ := F)).trans (List.Perm.refl _))
    refine ⟨_, dR x :: ds, [(x, .ins C [])], M1 ++ F, _, _, o4, .cons rfl (RDs.mono e2 r1), k1 x, fun d M' v G' H' ⟨ed, k⟩ e r o' => ?_, fun _ _ _ _ _ k => k.elim⟩
    subst ed
    refine ⟨non_of r, q (dR x) (M1 ++ M') _ G' H' k (e1.trans (e2.trans e)) rfl (o'.perm ?_)⟩
    rw [← List.append_assoc]
    exact List.Perm.append_right F List.perm_append_comm
theorem se_makeA0 {C : Addr} {s : DSp} {ta' : TA}
    (h : SA W0 ta' ρ M fun ds M1 => ∀ x, s (dR x :: ds) [(x, .ins C [])] (fun d M' => d = dN ∧ K (dR x) (M1 ++ M')) fun _ _ => False) : SE W0 (tMake C (spD s) [] E0 ta') ρ M K := se_makeA (fun _ _ _ _ z => z) h
/-- (cell, cell) -/
abbrev dTwo (Kf : PySem.W.Frag) (a b : Addr) : D := .sqt Kf [.ref a, .ref b]
theorem se_tupQ2 (h : SA W ta ρ M fun ds M' => ∃ a b, ds = [dR a, dR b] ∧ K (dTwo Kf a b) M') : SE W (tTup ta) ρ M K := fun G σ H F Q re o mx q =>
  h G σ H F _ re o mx fun ds M1 vs G1 H1 ⟨a, b, eu, k⟩ e1 r1 o1 => by
    subst eu
    obtain ⟨v, w, rfl, ra, rb⟩ := r1.two
    obtain rfl : v = .ref a := ra
    obtain rfl : w = .ref b := rb
    refine ⟨big_ok (n := 2) (by decide), fun p hp => ?_⟩
    have e2 : Ex G1 (upd G1 p (.tup [.ref a, .ref b])) := Ex.new (o1.ex.free hp)
    exact q (dTwo Kf a b) M1 _ (upd G1 p (.tup [.ref a, .ref b])) _ k (e1.trans e2) ⟨p, rfl, SqT.of upd_same⟩ (o1.push hp _)
theorem sg_seqQ2 {gs : TGs} {a b : Addr} (h : SGs W gs [dR a, dR b] ρ M KE) : SG W (gSeq Kf 2 gs) (dTwo Kf a b) ρ M KE := fun G σ H F v Q r re o mx q => by
  obtain ⟨c, rfl, hq⟩ := r
  have hq' : SqT Kf H c [.ref a, .ref b] := by
    rcases hq with (h1 | ⟨o', h1⟩) | h1
    · exact .inl (.inl (o.ex _ _ h1))
    · exact .inl (.inr ⟨o', o.ex _ _ h1⟩)
    · exact .inr h1
  refine .inl ⟨c, _, rfl, hq', rfl, h G σ H F _ Q (.cons rfl (.cons rfl .nil)) re o mx q⟩
/-- a call, its cells picked from anywhere; they go back where they were -/
theorem se_callP0 {s : DSp} {t : TA} (Mc Mr : Cells) (h : SA W0 t ρ M fun ds M1 => M1.Perm (Mc ++ Mr) ∧ s ds Mc (fun d M' => ∃ N, (M' ++ Mr).Perm N ∧ K d N) fun _ _ => False) : SE W0 (tCall (spD s) [] E0 t) ρ M K := fun G σ H F Q re o mx q =>
  se_callP (K := fun d M' => ∃ N, M'.Perm N ∧ K d N) (fun _ _ _ _ z => z) (SA.imp h fun ds M1 ⟨hp, k⟩ => ⟨Mc, Mr, hp, k⟩) G σ H F Q re o mx fun d M' v G' H' ⟨N, hp, k⟩ e r o' => q d N v G' H' k e r (o'.perm (hp.append_right F))
theorem se_methP0 {m : Str} {C : Addr} {s : DSp} {to : TE} {ta' : TA} (Mc Mr : Cells)
    (h : SE W0 to ρ M fun x M1 => ∃ i p fs, x = dR p ∧ CA M1 i p (.ins C fs) ∧ fs.lookup m = none ∧ SA W0 ta' ρ M1 fun ds M2 => M2.Perm (Mc ++ Mr) ∧ s (dR p :: ds) Mc (fun d M' => ∃ N, (M' ++ Mr).Perm N ∧ K d N) fun _ _ => False) :
    SE W0 (tMeth C m (spD s) [] E0 to ta') ρ M K := fun G σ H F Q re o mx q =>
  se_meth (K := fun d M' => ∃ N, M'.Perm N ∧ K d N) (fun _ _ _ _ z => z) (h.imp fun x M1 ⟨i, p, fs, ex, hc, hl, h2⟩ => ⟨i, p, fs, ex, hc, hl, SA.imp h2 fun ds M2 ⟨hp, k⟩ => ⟨Mc, Mr, hp, k⟩⟩) G σ H F Q re o mx fun d M' v G' H' ⟨N, hp, k⟩ e r o' => q d N v G' H' k e r (o'.perm (hp.append_right F))
end
end PL

/-! FW1: wishes of strips in plain words. -/
namespace FW
open PL PySem
abbrev Strip := List (Bool × Int)
def CelD (c : Bool × Int) : PyData := .tuple [.bool c.1, .int c.2]
/-- a rising list of whole cells -/
structure IsWish (st : Strip) (ws : List Int) : Prop where
  up : ws.Pairwise (· < ·)
  ok : ∀ w ∈ ws, 0 ≤ w ∧ ∃ l, st[w.toNat]? = some (false, l)
theorem IsWish.lt {st : Strip} {ws : List Int} (h : IsWish st ws) {w : Int} (hw : w ∈ ws) : w.toNat < st.length := by
  obtain ⟨_, l, e⟩ := h.ok w hw
  exact (List.getElem?_eq_some_iff.mp e).1
theorem IsWish.ahead {st : Strip} {ws pre post : List Int} {w : Int} (h : IsWish st ws) (e : ws = pre ++ w :: post) : pre.getLast?.getD (-1) < w := by
  have hw : 0 ≤ w := (h.ok w (by rw [e]; simp)).1
  have hu := h.up
  rw [e, List.pairwise_append] at hu
  cases hp : pre.getLast? with
  | none => simp; omega
  | some x => exact hu.2.2 x (List.mem_of_getLast? hp) w List.mem_cons_self
theorem IsWish.notin {st : Strip} {ws pre post : List Int} {w : Int} (h : IsWish st ws) (e : ws = pre ++ w :: post) : w ∉ pre := fun hm => by
  have hu := h.up
  rw [e, List.pairwise_append] at hu
  exact Int.lt_irrefl _ (hu.2.2 w hm w List.mem_cons_self)
/-- how often a cell may be punched -/
def brC (ws : List Int) (i : Nat) (c : Bool × Int) : Int := if (i : Int) ∈ ws ∨ c.1 = true then c.2 else 0
def brg (st : Strip) (ws : List Int) : List Int := st.mapIdx (brC ws)
theorem brg_len (st : Strip) (ws : List Int) : (brg st ws).length = st.length := by simp [brg]
theorem brg_at {st : Strip} {ws : List Int} {i : Nat} : (brg st ws)[i]? = (st[i]?).map (brC ws i) := by simp [brg]
theorem brg_nil (st : Strip) : brg st [] = st.map fun c => if c.1 then c.2 else 0 := by
  apply List.ext_getElem?
  intro i
  rw [brg_at, List.getElem?_map]
  cases st[i]? with
  | none => rfl
  | some c => simp [brC]
theorem brg_step {st : Strip} {pre : List Int} {w : Int} {l : Int} {h : Bool} (h0 : 0 ≤ w) (hw : st[w.toNat]? = some (h, l)) : brg st (pre ++ [w]) = (brg st pre).set w.toNat l := by
  have hlt := (List.getElem?_eq_some_iff.mp hw).1
  apply List.ext_getElem?
  intro i
  rw [List.getElem?_set]
  by_cases e : w.toNat = i
  · subst e
    rw [if_pos rfl, brg_len, if_pos hlt, brg_at, hw]
    simp only [Option.map_some, brC]
    rw [if_pos (.inl (by simp; omega))]
  · rw [if_neg e, brg_at, brg_at]
    cases st[i]? with
    | none => rfl
    | some c =>
      simp only [Option.map_some, brC]
      congr 1
      have : ((i : Int) ∈ pre ++ [w]) ↔ (i : Int) ∈ pre := by
        rw [List.mem_append, List.mem_singleton]
        constructor
        · rintro (h | h)
          · exact h
          · omega
        · exact .inl
      simp only [this]
/-- what a cell counts, the wished ones of qs counted -/
def wgC (ws qs : List Int) (p : Int) (i : Nat) (c : Bool × Int) : Int := if (i : Int) % 2 = p then (if (i : Int) ∈ qs then 1 else 0) else (0 - brC ws i c) + 0
def wgP (st : Strip) (ws qs : List Int) (p : Int) : List Int := st.mapIdx (wgC ws qs p)
abbrev wgt (st : Strip) (ws : List Int) (p : Int) : List Int := wgP st ws ws p
theorem wgP_len (st : Strip) (ws qs : List Int) (p : Int) : (wgP st ws qs p).length = st.length := by simp [wgP]
theorem wgP_at {st : Strip} {ws qs : List Int} {p : Int} {i : Nat} : (wgP st ws qs p)[i]? = (st[i]?).map (wgC ws qs p i) := by simp [wgP]
theorem wgP_nil {st : Strip} {ws : List Int} {p : Int} : wgP st ws [] p = (brg st ws).mapIdx fun i m => if (i : Int) % 2 = p then 0 else 0 - m := by
  apply List.ext_getElem?
  intro i
  rw [wgP_at, List.getElem?_mapIdx, brg_at]
  cases st[i]? with
  | none => rfl
  | some c => simp [wgC]
theorem wgP_step {st : Strip} {ws pre : List Int} {p w : Int} (hn : w ∉ pre) (h0 : 0 ≤ w) {a : Int} (ha : (wgP st ws pre p)[w.toNat]? = some a) :
    wgP st ws (pre ++ [w]) p = (wgP st ws pre p).set w.toNat (a + (if w % 2 = p then 1 else 0)) := by
  have hlt := (List.getElem?_eq_some_iff.mp ha).1
  apply List.ext_getElem?
  intro i
  rw [List.getElem?_set]
  by_cases e : w.toNat = i
  · subst e
    rw [if_pos rfl, if_pos hlt, wgP_at]
    rw [wgP_at] at ha
    obtain ⟨c, hc, e⟩ := Option.map_eq_some_iff.mp ha
    rw [hc]
    simp only [Option.map_some]
    rw [← e]
    have ew : ((w.toNat : Nat) : Int) = w := Int.toNat_of_nonneg h0
    unfold wgC
    rw [ew]
    by_cases hp : w % 2 = p
    · rw [if_pos hp, if_pos hp, if_pos hp, if_pos (by simp), if_neg hn]
      rfl
    · rw [if_neg hp, if_neg hp, if_neg hp]
      simp
  · rw [if_neg e, wgP_at, wgP_at]
    cases st[i]? with
    | none => rfl
    | some c =>
      have : ((i : Int) ∈ pre ++ [w]) ↔ (i : Int) ∈ pre := by
        rw [List.mem_append, List.mem_singleton]
        constructor
        · rintro (h | h)
          · exact h
          · omega
        · exact .inl
      simp only [Option.map_some, wgC, this]
/-- the greatest sum of numbers side by side, as it is sought -/
def gst (s : Int × Int) (n : Int) : Int × Int := (max s.1 (max s.2 0 + n), max s.2 0 + n)
def gsF (L : List Int) : Int := (L.foldl gst (L.headD 0, 0)).1
/-- the wished cells without a pass -/
def trn (st : Strip) (ws : List Int) : List Int := ws.filter fun w => decide ((st[w.toNat]?.map (·.2)) = some 0)
def few (st : Strip) (ws : List Int) : Option Int := if ws = [] then some 0 else if trn st ws ≠ [] then none else some (max (gsF (wgt st ws 0)) (gsF (wgt st ws 1)))
/-- the search of the least stretch -/
def sg (L : List Int) (i j : Nat) : Int := ((L.drop i).take j).sum
def tsI (A B : List Int) (m : Int) (i : Nat) (j : Nat) : Option (Nat × Nat × Nat) := if m = sg A i (j + 1) then some (i, i + j, 0) else if m = sg B i (j + 1) then some (i, i + j, 1) else none
def tsO (A B : List Int) (m : Int) (n i : Nat) : Option (Nat × Nat × Nat) := (List.range (n - i)).findSome? (tsI A B m i)
def tsF (A B : List Int) (m : Int) (n : Nat) : Option (Nat × Nat × Nat) := (List.range n).findSome? (tsO A B m n)
theorem sg_succ {L : List Int} {i j : Nat} {x : Int} (h : L[i + j]? = some x) : sg L i (j + 1) = sg L i j + x := by
  unfold sg
  rw [List.take_add_one, List.getElem?_drop, h]
  simp
/-- the first that is met -/
theorem findSome_first {α β : Type} {f : α → Option β} : ∀ {xs : List α} {i : Nat} {x : α} {y : β}, xs[i]? = some x → f x = some y → (∀ k z, k < i → xs[k]? = some z → f z = none) → xs.findSome? f = some y
  | [], i, x, y, h, _, _ => by simp at h
  | z :: xs, 0, x, y, h, hf, _ => by
    simp at h
    subst h
    rw [List.findSome?_cons, hf]
  | z :: xs, i + 1, x, y, h, hf, hn => by
    rw [List.findSome?_cons, hn 0 z (by omega) (by simp)]
    exact findSome_first (i := i) (by simpa using h) hf fun k w hk hw => hn (k + 1) w (by omega) (by simpa using hw)
theorem findSome_none' {α β : Type} {f : α → Option β} {xs : List α} (h : ∀ x ∈ xs, f x = none) : xs.findSome? f = none := List.findSome?_eq_none_iff.mpr h
theorem tsF_of {A B : List Int} {m : Int} {n i j q : Nat} (hn : i + j < n) (hq : q < 2) (h1 : ∀ k, k < i → ∀ l, sg A k (l + 1) ≠ m ∧ sg B k (l + 1) ≠ m) (h2 : ∀ l, l < j → sg A i (l + 1) ≠ m ∧ sg B i (l + 1) ≠ m)
    (h3 : (if q = 0 then sg A i (j + 1) else sg B i (j + 1)) = m) (h4 : q = 1 → sg A i (j + 1) ≠ m) : tsF A B m n = some (i, i + j, q) := by
  refine findSome_first (i := i) (x := i) (range_at (by omega)) (findSome_first (i := j) (x := j) (range_at (by omega)) ?_ fun k z hk hz => ?_) fun k z hk hz => findSome_none' fun l _ => ?_
  · unfold tsI
    obtain rfl | rfl : q = 0 ∨ q = 1 := by omega
    · rw [if_pos (show m = sg A i (j + 1) from h3.symm)]
    · rw [if_neg (fun e => h4 rfl e.symm), if_pos (show m = sg B i (j + 1) from h3.symm)]
  · rw [List.getElem?_range (by omega)] at hz
    cases hz
    unfold tsI
    rw [if_neg (fun e => (h2 k hk).1 e.symm), if_neg (fun e => (h2 k hk).2 e.symm)]
  · rw [List.getElem?_range (by omega)] at hz
    cases hz
    unfold tsI
    rw [if_neg (fun e => (h1 k hk l).1 e.symm), if_neg (fun e => (h1 k hk l).2 e.symm)]
/-- what tight tells -/
def tgtD (st : Strip) (ws : List Int) : PyData := match few st ws with
  | none => (trn st ws).head?.elim .none .int
  | some m => if ws = [] then .none else match tsF (wgt st ws 0) (wgt st ws 1) m st.length with
    | some (i, j, q) => t3 i j q
    | none => .none
end FW

/-! FR1: stands round about: the least solution of steps between bounds on a ring. -/
namespace FR
section
variable (n : Nat) (f : Nat → Int)
/-- the sum of k cells from a on, round about -/
def rs (a : Nat) : Nat → Int
  | 0 => 0
  | k + 1 => rs a k + f ((a + k) % n)
end
section
variable {n : Nat} {f lo hi : Nat → Int}
theorem rs_mod (a : Nat) : ∀ k, rs n f (a % n) k = rs n f a k
  | 0 => rfl
  | k + 1 => by rw [rs, rs, rs_mod a k, Nat.mod_add_mod]
theorem rs_per (a k : Nat) : rs n f (a + n) k = rs n f a k := by rw [← rs_mod (a + n), Nat.add_mod_right, rs_mod]
theorem rs_front (a : Nat) : ∀ k, rs n f a (k + 1) = f (a % n) + rs n f (a + 1) k
  | 0 => by simp [rs]
  | k + 1 => by
    rw [rs, rs_front a k, rs, show a + (k + 1) = a + 1 + k by omega]
    omega
theorem rs_add (a j : Nat) : ∀ k, rs n f a (j + k) = rs n f a j + rs n f (a + j) k
  | 0 => by simp [rs]
  | k + 1 => by
    rw [show j + (k + 1) = (j + k) + 1 by omega, rs, rs_add a j k, rs, show a + (j + k) = a + j + k by omega]
    omega
/-- all round the sum is the same, wherever it begins -/
theorem rs_round (a : Nat) : rs n f a n = rs n f 0 n := by
  induction a with
  | zero => rfl
  | succ a ih =>
    have h1 := rs_front (n := n) (f := f) a n
    have h2 : rs n f a (n + 1) = rs n f a n + f ((a + n) % n) := rfl
    rw [Nat.add_mod_right] at h2
    omega
theorem rs_neg (a : Nat) : ∀ k, rs n (fun c => -f c) a k = -rs n f a k
  | 0 => rfl
  | k + 1 => by rw [rs, rs, rs_neg a k]; omega
theorem rs_congr {g : Nat → Int} (h : ∀ c, c < n → f c = g c) (hn : 0 < n) (a : Nat) : ∀ k, rs n f a k = rs n g a k
  | 0 => rfl
  | k + 1 => by rw [rs, rs, rs_congr h hn a k, h _ (Nat.mod_lt _ hn)]
/-! ### the greatest of many, none below 0 -/
def mx0 (xs : List Int) : Int := xs.foldl max 0
theorem foldl_max_or : ∀ (xs : List Int) (a : Int), (xs.foldl max a = a ∨ xs.foldl max a ∈ xs) ∧ a ≤ xs.foldl max a ∧ ∀ x ∈ xs, x ≤ xs.foldl max a
  | [], a => ⟨.inl rfl, Int.le_refl _, fun _ h => by cases h⟩
  | y :: xs, a => by
    obtain ⟨h1, h2, h3⟩ := foldl_max_or xs (max a y)
    rw [List.foldl_cons]
    refine ⟨?_, by omega, fun x hx => ?_⟩
    · rcases h1 with h1 | h1
      · rw [h1]
        by_cases h : a ≤ y
        · exact .inr (by rw [show max a y = y by omega]; simp)
        · exact .inl (by omega)
      · exact .inr (List.mem_cons_of_mem _ h1)
    · rcases List.mem_cons.mp hx with rfl | hx
      · omega
      · exact h3 x hx
theorem mx0_nn (xs : List Int) : 0 ≤ mx0 xs := (foldl_max_or xs 0).2.1
theorem mx0_ge {xs : List Int} {x : Int} (h : x ∈ xs) : x ≤ mx0 xs := (foldl_max_or xs 0).2.2 x h
theorem mx0_or (xs : List Int) : mx0 xs = 0 ∨ mx0 xs ∈ xs := (foldl_max_or xs 0).1
theorem mx0_le {xs : List Int} {b : Int} (h0 : 0 ≤ b) (h : ∀ x ∈ xs, x ≤ b) : mx0 xs ≤ b := by
  rcases mx0_or xs with e | e
  · omega
  · exact h _ e
/-! ### stands -/
/-- s is a walk by steps between lo and hi, round about -/
structure Feas (n : Nat) (lo hi : Nat → Int) (s : Nat → Int) : Prop where
  up : ∀ c, c < n → s c + lo c ≤ s ((c + 1) % n)
  dn : ∀ c, c < n → s ((c + 1) % n) ≤ s c + hi c
/-- the least stands, none below 0 -/
def stP (n : Nat) (lo hi : Nat → Int) (v : Nat) : Int := mx0 ((List.range n).map (fun k => rs n (fun c => -hi c) v k) ++ (List.range n).map fun k => rs n lo (v + n - k) k)
theorem stP_nn (v : Nat) : 0 ≤ stP n lo hi v := mx0_nn _
theorem stP_up {a k : Nat} (hk : k < n) (v : Nat) (hv : (a + k) % n = v) (hvn : v < n) : rs n lo a k ≤ stP n lo hi v := by
  refine mx0_ge (List.mem_append_right _ (List.mem_map.mpr ⟨k, List.mem_range.mpr hk, ?_⟩))
  rw [← rs_mod, ← rs_mod (a := a)]
  congr 1
  have h1 : (v + n - k + k) % n = (a + k) % n := by rw [Nat.sub_add_cancel (by omega), Nat.add_mod_right, Nat.mod_eq_of_lt hvn, hv]
  have h2 : (v + n - k + k + (n - k)) % n = (a + k + (n - k)) % n := by rw [Nat.add_mod, h1, ← Nat.add_mod]
  rw [show v + n - k + k + (n - k) = v + n - k + n by omega, show a + k + (n - k) = a + n by omega, Nat.add_mod_right, Nat.add_mod_right] at h2
  exact h2
theorem stP_dn {v k : Nat} (hk : k < n) : rs n (fun c => -hi c) v k ≤ stP n lo hi v := mx0_ge (List.mem_append_left _ (List.mem_map.mpr ⟨k, List.mem_range.mpr hk, rfl⟩))
theorem stP_or {v : Nat} (hn : 0 < n) : (∃ k, k < n ∧ stP n lo hi v = rs n (fun c => -hi c) v k) ∨ ∃ k, k < n ∧ stP n lo hi v = rs n lo (v + n - k) k := by
  rcases mx0_or ((List.range n).map (fun k => rs n (fun c => -hi c) v k) ++ (List.range n).map fun k => rs n lo (v + n - k) k) with e | e
  · exact .inl ⟨0, hn, e⟩
  · rcases List.mem_append.mp e with h | h
    · obtain ⟨k, hk, e⟩ := List.mem_map.mp h
      exact .inl ⟨k, List.mem_range.mp hk, e.symm⟩
    · obtain ⟨k, hk, e⟩ := List.mem_map.mp h
      exact .inr ⟨k, List.mem_range.mp hk, e.symm⟩
/-- what lets there be stands -/
structure Can (n : Nat) (lo hi : Nat → Int) : Prop where
  n2 : 2 ≤ n
  le : ∀ c, c < n → lo c ≤ hi c
  up : rs n lo 0 n ≤ 0
  dn : rs n (fun c => -hi c) 0 n ≤ 0
theorem stP_feas (h : Can n lo hi) : Feas n lo hi (stP n lo hi) := by
  have n2 := h.n2
  have per : ∀ {g : Nat → Int} (v k : Nat), v < n → rs n g ((v + 1) % n) k = rs n g (v + 1) k := fun v k _ => rs_mod _ _
  constructor
  · intro v hv
    have hw : (v + 1) % n < n := Nat.mod_lt _ (by omega)
    rcases stP_or (n := n) (lo := lo) (hi := hi) (v := v) (by omega) with ⟨k, hk, e⟩ | ⟨k, hk, e⟩
    · rw [e]
      cases k with
      | zero =>
        have := stP_up (n := n) (lo := lo) (hi := hi) (a := v) (k := 1) (by omega) _ rfl hw
        have e1 : rs n lo v 1 = lo v := by simp [rs, Nat.mod_eq_of_lt hv]
        rw [e1] at this
        simpa [rs] using this
      | succ k =>
        have h1 := rs_front (n := n) (f := fun c => -hi c) v k
        rw [Nat.mod_eq_of_lt hv] at h1
        have h2 := stP_dn (n := n) (lo := lo) (hi := hi) (v := (v + 1) % n) (k := k) (by omega)
        rw [per v k hv] at h2
        have := h.le v hv
        omega
    · rw [e]
      have h1 : rs n lo (v + n - k) (k + 1) = rs n lo (v + n - k) k + lo v := by
        rw [rs, show v + n - k + k = v + n by omega, Nat.add_mod_right, Nat.mod_eq_of_lt hv]
      by_cases hk1 : k + 1 < n
      · have := stP_up (n := n) (lo := lo) (hi := hi) (a := v + n - k) (k := k + 1) hk1 ((v + 1) % n) (by rw [show v + n - k + (k + 1) = v + 1 + n by omega, Nat.add_mod_right]) hw
        omega
      · obtain rfl : n = k + 1 := by omega
        have h2 := rs_round (n := k + 1) (f := lo) (v + (k + 1) - k)
        have h3 := stP_nn (n := k + 1) (lo := lo) (hi := hi) ((v + 1) % (k + 1))
        have h4 := h.up
        omega
  · intro v hv
    have hw : (v + 1) % n < n := Nat.mod_lt _ (by omega)
    rcases stP_or (n := n) (lo := lo) (hi := hi) (v := (v + 1) % n) (by omega) with ⟨k, hk, e⟩ | ⟨k, hk, e⟩
    · rw [e, per v k hv]
      have h1 := rs_front (n := n) (f := fun c => -hi c) v k
      rw [Nat.mod_eq_of_lt hv] at h1
      by_cases hk1 : k + 1 < n
      · have := stP_dn (n := n) (lo := lo) (hi := hi) (v := v) (k := k + 1) hk1
        omega
      · obtain rfl : n = k + 1 := by omega
        have h2 := rs_round (n := k + 1) (f := fun c => -hi c) v
        have h3 := stP_nn (n := k + 1) (lo := lo) (hi := hi) v
        have h4 := h.dn
        omega
    · rw [e]
      cases k with
      | zero =>
        have := stP_dn (n := n) (lo := lo) (hi := hi) (v := v) (k := 1) (by omega)
        have e1 : rs n (fun c => -hi c) v 1 = -hi v := by simp [rs, Nat.mod_eq_of_lt hv]
        rw [e1] at this
        show (0 : Int) ≤ _
        omega
      | succ k =>
        have ha : ((v + 1) % n + n - (k + 1) + k) % n = v := by
          have : (v + 1) % n + n - (k + 1) + k = (v + 1) % n + n - 1 := by omega
          rw [this]
          by_cases hlast : v + 1 < n
          · rw [Nat.mod_eq_of_lt hlast, show v + 1 + n - 1 = v + n by omega, Nat.add_mod_right, Nat.mod_eq_of_lt hv]
          · obtain rfl : n = v + 1 := by omega
            rw [Nat.mod_self, show 0 + (v + 1) - 1 = v by omega, Nat.mod_eq_of_lt hv]
        have h1 : rs n lo ((v + 1) % n + n - (k + 1)) (k + 1) = rs n lo ((v + 1) % n + n - (k + 1)) k + lo v := by rw [rs, ha]
        have h2 := stP_up (n := n) (lo := lo) (hi := hi) (a := (v + 1) % n + n - (k + 1)) (k := k) (by omega) v ha hv
        have := h.le v hv
        omega
/-- any other stands, none below 0, are as high at least -/
theorem feas_up {s : Nat → Int} (h : Feas n lo hi s) (hn : 0 < n) (a : Nat) : ∀ k, s (a % n) + rs n lo a k ≤ s ((a + k) % n)
  | 0 => by simp [rs]
  | k + 1 => by
    have ih := feas_up h hn a k
    have h1 := h.up ((a + k) % n) (Nat.mod_lt _ hn)
    rw [Nat.mod_add_mod] at h1
    rw [rs, show a + (k + 1) = a + k + 1 by omega]
    omega
theorem feas_dn {s : Nat → Int} (h : Feas n lo hi s) (hn : 0 < n) (a : Nat) : ∀ k, s ((a + k) % n) + rs n (fun c => -hi c) a k ≤ s (a % n)
  | 0 => by simp [rs]
  | k + 1 => by
    have ih := feas_dn h hn a k
    have h1 := h.dn ((a + k) % n) (Nat.mod_lt _ hn)
    rw [Nat.mod_add_mod] at h1
    rw [rs, show a + (k + 1) = a + k + 1 by omega]
    omega
theorem stP_least {s : Nat → Int} (h : Feas n lo hi s) (hn : 0 < n) (h0 : ∀ c, c < n → 0 ≤ s c) {v : Nat} (hv : v < n) : stP n lo hi v ≤ s v := by
  rcases stP_or (n := n) (lo := lo) (hi := hi) (v := v) hn with ⟨k, hk, e⟩ | ⟨k, hk, e⟩
  · have := feas_dn h hn v k
    have h1 := h0 ((v + k) % n) (Nat.mod_lt _ hn)
    rw [Nat.mod_eq_of_lt hv] at this
    omega
  · have := feas_up h hn (v + n - k) k
    have h1 := h0 ((v + n - k) % n) (Nat.mod_lt _ hn)
    rw [show v + n - k + k = v + n by omega, Nat.add_mod_right, Nat.mod_eq_of_lt hv] at this
    omega
/-- some stand is 0 -/
theorem stP_zero (h : Can n lo hi) : ∃ v, v < n ∧ stP n lo hi v = 0 := by
  refine Decidable.byContradiction fun hz => ?_
  have n2 := h.n2
  have pos : ∀ v, v < n → 1 ≤ stP n lo hi v := fun v hv => by
    have h0 := stP_nn (n := n) (lo := lo) (hi := hi) v
    have : stP n lo hi v ≠ 0 := fun e => hz ⟨v, hv, e⟩
    omega
  have hf := stP_feas h
  have f2 : Feas n lo hi fun v => stP n lo hi v - 1 := ⟨fun c hc => by have := hf.up c hc; omega, fun c hc => by have := hf.dn c hc; omega⟩
  have := stP_least f2 (by omega) (fun c hc => by have := pos c hc; omega) (v := 0) (by omega)
  omega
end
end FR

/-! FR2: rings and wishes in plain words. -/
namespace FR
open PL PySem FW
def sizeB (m : Int) : Bool := (decide (2 ≤ m) && decide (m ≤ 200)) && decide (m % 2 = 0)
def riseB (m : Int) (cs : List Int) : Bool := (cs.map fun c => decide (0 ≤ c) && decide (c < m)).all id && ((cs.zip (cs.drop 1)).map fun x => decide (x.1 < x.2)).all id
def gaps (m : Int) (cs : List Int) : List Int := (cs.zip (cs.drop 1 ++ cs.take 1)).map fun x => (x.2 - x.1) % m
def canB (m : Int) (cs : List Int) : Bool := sizeB m && (!decide (cs = [])) && (!decide ((cs.length : Int) % 2 = 1)) && riseB m cs && ((gaps m cs).map fun g => decide (g % 2 = 1)).all id
def loC (ws : List Int) (i : Nat) : Int := if (i : Int) ∈ ws then 1 else 0
def stepC (ws : List Int) (i : Nat) (c : Bool × Int) : Int × Int := if (i : Int) % 2 = 0 then (loC ws i, brC ws i c) else (0 - brC ws i c, 0 - loC ws i)
def stepsF (st : Strip) (ws : List Int) : List (Int × Int) := st.mapIdx (stepC ws)
def StepD (p : Int × Int) : PyData := .tuple [.int p.1, .int p.2]
def worthsF (ss : List (Int × Int)) (p : Int) : List Int := ss.map fun s => if p = 0 then s.1 else 0 - s.2
end FR

/-! FR3: the rounds that find the stands. -/
namespace FR
section
abbrev at0 (f : List Int) (v : Nat) : Int := f.getD v 0
def le (f g : List Int) : Prop := f.length = g.length ∧ ∀ v, at0 f v ≤ at0 g v
theorem le_refl (f : List Int) : le f f := ⟨rfl, fun _ => Int.le_refl _⟩
theorem le_trans {f g h : List Int} (a : le f g) (b : le g h) : le f h := ⟨a.1.trans b.1, fun v => Int.le_trans (a.2 v) (b.2 v)⟩
theorem ext0 {f g : List Int} (h : f.length = g.length) (e : ∀ v, v < f.length → at0 f v = at0 g v) : f = g := by
  apply List.ext_getElem h
  intro i h1 h2
  have := e i h1
  simpa [at0, h1, h2] using this
theorem le_anti {f g : List Int} (a : le f g) (b : le g f) : f = g := ext0 a.1 fun v _ => Int.le_antisymm (a.2 v) (b.2 v)
theorem at0_set {f : List Int} {i v : Nat} {x : Int} (hi : i < f.length) : at0 (f.set i x) v = if i = v then x else at0 f v := by
  unfold at0
  rw [List.getD_eq_getElem?_getD, List.getElem?_set, List.getD_eq_getElem?_getD]
  by_cases h : i = v
  · subst h; simp [hi]
  · simp [h]
theorem le_set {f : List Int} {i : Nat} {x : Int} (hi : i < f.length) (hx : at0 f i ≤ x) : le f (f.set i x) := ⟨by simp, fun v => by
  rw [at0_set hi]
  by_cases h : i = v
  · subst h; rw [if_pos rfl]; exact hx
  · rw [if_neg h]; exact Int.le_refl _⟩
/-- steps folded, each making more -/
theorem fold_le {op : Nat → List Int → List Int} {n : Nat} (h : ∀ i f, i < n → f.length = n → le f (op i f)) : ∀ (l : List Nat) (f : List Int), (∀ i ∈ l, i < n) → f.length = n → le f (l.foldl (fun f i => op i f) f)
  | [], f, _, _ => le_refl f
  | i :: l, f, hl, hf => by
    have h1 := h i f (hl i List.mem_cons_self) hf
    exact le_trans h1 (fold_le h l _ (fun j hj => hl j (List.mem_cons_of_mem _ hj)) (h1.1.symm.trans hf))
theorem fold_fix {op : Nat → List Int → List Int} {n : Nat} (h : ∀ i f, i < n → f.length = n → le f (op i f)) : ∀ (l : List Nat) (f : List Int), (∀ i ∈ l, i < n) → f.length = n → l.foldl (fun f i => op i f) f = f → ∀ i ∈ l, op i f = f
  | [], f, _, _, _, i, hi => by cases hi
  | j :: l, f, hl, hf, e, i, hi => by
    have h1 := h j f (hl j List.mem_cons_self) hf
    have hl' : ∀ k ∈ l, k < n := fun k hk => hl k (List.mem_cons_of_mem _ hk)
    have h2 := fold_le h l (op j f) hl' (h1.1.symm.trans hf)
    have e : l.foldl (fun f i => op i f) (op j f) = f := e
    rw [e] at h2
    have ej : op j f = f := le_anti h2 h1
    rcases List.mem_cons.mp hi with rfl | hi
    · exact ej
    · rw [ej] at e
      exact fold_fix h l f hl' hf e i hi
theorem fold_inv {op : Nat → List Int → List Int} {I : List Int → Prop} {n : Nat} (h : ∀ i f, i < n → I f → I (op i f)) : ∀ (l : List Nat) (f : List Int), (∀ i ∈ l, i < n) → I f → I (l.foldl (fun f i => op i f) f)
  | [], f, _, hf => hf
  | i :: l, f, hl, hf => fold_inv h l _ (fun j hj => hl j (List.mem_cons_of_mem _ hj)) (h i f (hl i List.mem_cons_self) hf)
variable (ss : List (Int × Int))
abbrev loS (i : Nat) : Int := (ss.getD i (0, 0)).1
abbrev hiS (i : Nat) : Int := (ss.getD i (0, 0)).2
def opU (i : Nat) (f : List Int) : List Int := f.set ((i + 1) % ss.length) (max (at0 f ((i + 1) % ss.length)) (at0 f i + loS ss i))
def opD (i : Nat) (f : List Int) : List Int := f.set i (max (at0 f i) (at0 f ((i + 1) % ss.length) - hiS ss i))
def rndU (f : List Int) : List Int := (List.range ss.length).foldl (fun f i => opU ss i f) f
def rndD (f : List Int) : List Int := ((List.range ss.length).map fun i => ss.length - 1 - i).foldl (fun f i => opD ss i f) f
def rnd (f : List Int) : List Int := rndD ss (rndU ss f)
end
section
variable {ss : List (Int × Int)}
theorem opU_le (i : Nat) (f : List Int) (hi : i < ss.length) (hf : f.length = ss.length) : le f (opU ss i f) := le_set (by rw [hf]; exact Nat.mod_lt _ (by omega)) (by omega)
theorem opD_le (i : Nat) (f : List Int) (hi : i < ss.length) (hf : f.length = ss.length) : le f (opD ss i f) := le_set (by omega) (by omega)
theorem in_rev {i n : Nat} (h : i ∈ (List.range n).map fun i => n - 1 - i) : i < n := by
  obtain ⟨j, hj, rfl⟩ := List.mem_map.mp h
  have := List.mem_range.mp hj
  omega
theorem rndU_le {f : List Int} (hf : f.length = ss.length) : le f (rndU ss f) := fold_le opU_le _ _ (fun i h => List.mem_range.mp h) hf
theorem rndD_le {f : List Int} (hf : f.length = ss.length) : le f (rndD ss f) := fold_le opD_le _ _ (fun i h => in_rev h) hf
theorem rnd_le {f : List Int} (hf : f.length = ss.length) : le f (rnd ss f) := le_trans (rndU_le hf) (rndD_le ((rndU_le hf).1.symm.trans hf))
/-- between 0 and the least stands -/
structure Bnd (ss : List (Int × Int)) (f : List Int) : Prop where
  len : f.length = ss.length
  lo : ∀ v, v < ss.length → 0 ≤ at0 f v
  hi : ∀ v, v < ss.length → at0 f v ≤ stP ss.length (loS ss) (hiS ss) v
theorem opU_bnd (hF : Feas ss.length (loS ss) (hiS ss) (stP ss.length (loS ss) (hiS ss))) (i : Nat) (f : List Int) (hi : i < ss.length) (h : Bnd ss f) : Bnd ss (opU ss i f) := by
  have hw : (i + 1) % ss.length < ss.length := Nat.mod_lt _ (by omega)
  refine ⟨by simp [opU, h.len], fun v hv => ?_, fun v hv => ?_⟩
  · have := (opU_le i f hi h.len).2 v
    have := h.lo v hv
    omega
  · unfold opU
    rw [at0_set (by rw [h.len]; exact hw)]
    split
    · rename_i e
      subst e
      have a := h.hi _ hv
      have b := h.hi i hi
      have c := hF.up i hi
      try dsimp only at *
      omega
    · exact h.hi v hv
theorem opD_bnd (hF : Feas ss.length (loS ss) (hiS ss) (stP ss.length (loS ss) (hiS ss))) (i : Nat) (f : List Int) (hi : i < ss.length) (h : Bnd ss f) : Bnd ss (opD ss i f) := by
  have hw : (i + 1) % ss.length < ss.length := Nat.mod_lt _ (by omega)
  refine ⟨by simp [opD, h.len], fun v hv => ?_, fun v hv => ?_⟩
  · have := (opD_le i f hi h.len).2 v
    have := h.lo v hv
    omega
  · unfold opD
    rw [at0_set (by rw [h.len]; exact hi)]
    split
    · rename_i e
      subst e
      have a := h.hi _ hv
      have b := h.hi _ hw
      have c := hF.dn i hi
      try dsimp only at *
      omega
    · exact h.hi v hv
theorem rnd_bnd (hF : Feas ss.length (loS ss) (hiS ss) (stP ss.length (loS ss) (hiS ss))) {f : List Int} (h : Bnd ss f) : Bnd ss (rnd ss f) :=
  fold_inv (opD_bnd hF) _ _ (fun i h => in_rev h) (fold_inv (opU_bnd hF) _ _ (fun i h => List.mem_range.mp h) h)
theorem rnd_fix {f : List Int} (hf : f.length = ss.length) (e : rnd ss f = f) : Feas ss.length (loS ss) (hiS ss) (at0 f) := by
  have h1 := rndU_le hf
  have h2 := rndD_le (ss := ss) (h1.1.symm.trans hf)
  have e : rndD ss (rndU ss f) = f := e
  rw [e] at h2
  have eU : rndU ss f = f := le_anti h2 h1
  rw [eU] at e
  have a := fold_fix opU_le _ f (fun i h => List.mem_range.mp h) hf eU
  have b := fold_fix opD_le _ f (fun i h => in_rev h) hf e
  constructor
  · intro c hc
    have := congrArg (fun g => at0 g ((c + 1) % ss.length)) (a c (List.mem_range.mpr hc))
    try dsimp only at this
    unfold opU at this
    rw [at0_set (by rw [hf]; exact Nat.mod_lt _ (by omega)), if_pos rfl] at this
    omega
  · intro c hc
    have := congrArg (fun g => at0 g c) (b c (List.mem_map.mpr ⟨ss.length - 1 - c, List.mem_range.mpr (by omega), by omega⟩))
    try dsimp only at this
    unfold opD at this
    rw [at0_set (by rw [hf]; exact hc), if_pos rfl] at this
    omega
/-- how much is left -/
def msr (ss : List (Int × Int)) (f : List Int) : Nat := ((List.range ss.length).map fun v => (stP ss.length (loS ss) (hiS ss) v - at0 f v).toNat).sum
theorem sum_lt {g h : Nat → Nat} : ∀ (l : List Nat), (∀ v ∈ l, g v ≤ h v) → (∃ v ∈ l, g v < h v) → (l.map g).sum < (l.map h).sum
  | [], _, ⟨v, hv, _⟩ => by cases hv
  | a :: l, hle, ⟨v, hv, hlt⟩ => by
    have ha := hle a List.mem_cons_self
    have hl : (l.map g).sum ≤ (l.map h).sum := by
      clear hlt hv
      have : ∀ l : List Nat, (∀ v ∈ l, g v ≤ h v) → (l.map g).sum ≤ (l.map h).sum := by
        intro l
        induction l with
        | nil => intro _; exact Nat.le_refl _
        | cons b l ih =>
          intro hb
          have h1 := hb b List.mem_cons_self
          have h2 := ih fun v hv => hb v (List.mem_cons_of_mem _ hv)
          simp only [List.map_cons, List.sum_cons]
          omega
      exact this l fun v hv => hle v (List.mem_cons_of_mem _ hv)
    simp only [List.map_cons, List.sum_cons]
    rcases List.mem_cons.mp hv with rfl | hv
    · omega
    · have := sum_lt l (fun v hv => hle v (List.mem_cons_of_mem _ hv)) ⟨v, hv, hlt⟩
      omega
theorem msr_lt {f g : List Int} (hl : le f g) (hg : Bnd ss g) (hf : Bnd ss f) (hne : g ≠ f) : msr ss g < msr ss f := by
  refine sum_lt _ (fun v _ => by have := hl.2 v; omega) ?_
  refine Decidable.byContradiction fun hc => hne ?_
  refine (ext0 hl.1 fun v hv => ?_).symm
  refine Decidable.byContradiction fun hn => hc ⟨v, List.mem_range.mpr (by rw [← hf.len]; exact hv), ?_⟩
  have h1 := hl.2 v
  have h2 := hg.hi v (by rw [← hf.len]; exact hv)
  omega
theorem bnd_fix (hC : Can ss.length (loS ss) (hiS ss)) {f : List Int} (h : Bnd ss f) (e : rnd ss f = f) : f = (List.range ss.length).map (stP ss.length (loS ss) (hiS ss)) := by
  have n2 := hC.n2
  have hF := rnd_fix h.len e
  refine ext0 (by simp [h.len]) fun v hv => ?_
  rw [h.len] at hv
  have h1 := stP_least hF (by omega) h.lo hv
  have h2 := h.hi v hv
  have h3 : at0 ((List.range ss.length).map (stP ss.length (loS ss) (hiS ss))) v = stP ss.length (loS ss) (hiS ss) v := by
    unfold at0
    rw [List.getD_eq_getElem?_getD, List.getElem?_map, List.getElem?_range hv]
    rfl
  rw [h3]
  omega
theorem bnd_zero (h : 2 ≤ ss.length) : Bnd ss (List.replicate ss.length 0) := by
  have e : ∀ v, at0 (List.replicate ss.length 0) v = 0 := fun v => by
    unfold at0
    rw [List.getD_eq_getElem?_getD, List.getElem?_replicate]
    split <;> rfl
  exact ⟨by simp, fun v _ => by rw [e]; exact Int.le_refl _, fun v _ => by rw [e]; exact stP_nn _⟩
/-- the first k steps -/
def uT (ss : List (Int × Int)) (f : List Int) : Nat → List Int
  | 0 => f
  | k + 1 => opU ss k (uT ss f k)
def dT (ss : List (Int × Int)) (f : List Int) : Nat → List Int
  | 0 => f
  | k + 1 => opD ss (ss.length - 1 - k) (dT ss f k)
theorem uT_eq (f : List Int) : ∀ k, uT ss f k = (List.range k).foldl (fun f i => opU ss i f) f
  | 0 => rfl
  | k + 1 => by rw [uT, uT_eq f k, List.range_succ, List.foldl_append]; rfl
theorem dT_eq (f : List Int) : ∀ k, dT ss f k = ((List.range k).map fun i => ss.length - 1 - i).foldl (fun f i => opD ss i f) f
  | 0 => rfl
  | k + 1 => by rw [dT, dT_eq f k, List.range_succ, List.map_append, List.foldl_append]; rfl
theorem rnd_eq (f : List Int) : rnd ss f = dT ss (uT ss f ss.length) ss.length := by rw [uT_eq, dT_eq]; rfl
theorem uT_len {f : List Int} (k : Nat) : (uT ss f k).length = f.length := by
  induction k with
  | zero => rfl
  | succ k ih => rw [uT, opU, List.length_set, ih]
theorem dT_len {f : List Int} (k : Nat) : (dT ss f k).length = f.length := by
  induction k with
  | zero => rfl
  | succ k ih => rw [dT, opD, List.length_set, ih]
end
end FR

/-! FR4: punches of one time: by turns; counts of a plan; the told plan is one. -/
namespace FR
open PL PySem FW
theorem zip_step {α : Type} {a b : α} {r : List α} : (a :: b :: r).zip ((a :: b :: r).drop 1) = (a, b) :: (b :: r).zip ((b :: r).drop 1) := rfl
/-- a list of cells by turns on a ring of n cells -/
structure Turn (n : Int) (cs : List Int) : Prop where
  ne : cs ≠ []
  ev : (cs.length : Int) % 2 = 0
  adj : ∀ x ∈ cs.zip (cs.drop 1), x.1 < x.2 ∧ (x.2 - x.1) % 2 = 1
  hd : ∀ h, cs.head? = some h → 0 ≤ h
  lt : ∀ l, cs.getLast? = some l → l < n
theorem mem_gap {α : Type} {z : α} {x : α × α} : ∀ {r : List α} {a : α}, x ∈ (a :: r).zip (r ++ [z]) → x ∈ (a :: r).zip r ∨ ((a :: r).getLast? = some x.1 ∧ x.2 = z)
  | [], a, h => by
    simp at h
    subst h
    exact .inr ⟨rfl, rfl⟩
  | b :: r, a, h => by
    have h : x ∈ (a, b) :: (b :: r).zip (r ++ [z]) := h
    rcases List.mem_cons.mp h with e | h
    · exact .inl (by subst e; exact List.mem_cons_self)
    · rcases mem_gap h with q | ⟨q1, q2⟩
      · exact .inl (List.mem_cons_of_mem _ q)
      · exact .inr ⟨by rw [List.getLast?_cons_cons]; exact q1, q2⟩
theorem gap_mem {α : Type} {z : α} {x : α × α} : ∀ {r : List α} {a : α}, x ∈ (a :: r).zip r → x ∈ (a :: r).zip (r ++ [z])
  | [], a, h => by simp at h
  | b :: r, a, h => by
    have h : x ∈ (a, b) :: (b :: r).zip r := h
    show x ∈ (a, b) :: (b :: r).zip (r ++ [z])
    rcases List.mem_cons.mp h with e | h
    · exact e ▸ List.mem_cons_self
    · exact List.mem_cons_of_mem _ (gap_mem h)
theorem adj_range {n : Int} : ∀ {cs : List Int}, (∀ x ∈ cs.zip (cs.drop 1), x.1 < x.2) → (∀ h, cs.head? = some h → 0 ≤ h) → (∀ l, cs.getLast? = some l → l < n) → ∀ c ∈ cs, 0 ≤ c ∧ c < n
  | [], _, _, _, c, h => by cases h
  | [a], _, h1, h2, c, h => by
    rw [List.mem_singleton] at h
    subst h
    exact ⟨h1 _ rfl, h2 _ rfl⟩
  | a :: b :: r, ha, h1, h2, c, h => by
    have hab := ha (a, b) (by rw [zip_step]; exact List.mem_cons_self)
    have h0 := h1 a rfl
    have ih := adj_range (cs := b :: r) (n := n) (fun x hx => ha x (by rw [zip_step]; exact List.mem_cons_of_mem _ hx)) (fun h e => by cases e; dsimp only at hab; omega) (fun l e => h2 l (by rw [List.getLast?_cons_cons]; exact e))
    rcases List.mem_cons.mp h with rfl | h
    · have := ih b List.mem_cons_self
      dsimp only at hab
      omega
    · exact ih c h
theorem adj_par : ∀ {cs : List Int} {a l : Int}, (∀ x ∈ cs.zip (cs.drop 1), (x.2 - x.1) % 2 = 1) → cs.head? = some a → cs.getLast? = some l → (l - a) % 2 = ((cs.length : Int) - 1) % 2
  | [], _, _, _, h, _ => by cases h
  | [x], a, l, _, h1, h2 => by
    cases h1
    cases h2
    simp
  | x :: y :: r, a, l, ha, h1, h2 => by
    cases h1
    have hxy := ha (x, y) (by rw [zip_step]; exact List.mem_cons_self)
    have ih := adj_par (cs := y :: r) (a := y) (l := l) (fun z hz => ha z (by rw [zip_step]; exact List.mem_cons_of_mem _ hz)) rfl (by rw [List.getLast?_cons_cons] at h2; exact h2)
    dsimp only at hxy
    simp only [List.length_cons] at ih ⊢
    omega
theorem emod_par {a n : Int} (hn : n % 2 = 0) (h0 : n ≠ 0) : (a % n) % 2 = a % 2 := Int.emod_emod_of_dvd a (Int.dvd_of_emod_eq_zero hn)
theorem canB_iff {n : Int} {cs : List Int} (h2 : 2 ≤ n) (h200 : n ≤ 200) (hev : n % 2 = 0) : canB n cs = true ↔ Turn n cs := by
  have hs : sizeB n = true := by unfold sizeB; simp [h2, h200, hev]
  have e : canB n cs = true ↔ (cs ≠ [] ∧ ¬ (cs.length : Int) % 2 = 1) ∧ ((∀ c ∈ cs, 0 ≤ c ∧ c < n) ∧ ∀ x ∈ cs.zip (cs.drop 1), x.1 < x.2) ∧ ∀ g ∈ gaps n cs, g % 2 = 1 := by
    unfold canB riseB
    rw [hs]
    simp [List.all_eq_true, and_assoc]
  rw [e]
  constructor
  · rintro ⟨⟨h1, h3⟩, ⟨h4, h5⟩, h6⟩
    refine ⟨h1, by omega, fun x hx => ⟨h5 x hx, ?_⟩, fun h e => (h4 h (List.mem_of_mem_head? e)).1, fun l e => (h4 l (List.mem_of_getLast? e)).2⟩
    have hg : (x.2 - x.1) % n ∈ gaps n cs := by
      unfold gaps
      refine List.mem_map.mpr ⟨x, ?_, rfl⟩
      cases cs with
      | nil => simp at hx
      | cons a r => exact gap_mem hx
    have := h6 _ hg
    rw [emod_par hev (by omega)] at this
    exact this
  · intro t
    refine ⟨⟨t.ne, by have := t.ev; omega⟩, ⟨adj_range (fun x hx => (t.adj x hx).1) t.hd t.lt, fun x hx => (t.adj x hx).1⟩, fun g hg => ?_⟩
    unfold gaps at hg
    obtain ⟨x, hx, rfl⟩ := List.mem_map.mp hg
    rw [emod_par hev (by omega)]
    cases hc : cs with
    | nil => exact absurd hc t.ne
    | cons a r =>
      rw [hc] at hx
      rcases mem_gap hx with q | ⟨q1, q2⟩
      · exact (t.adj x (by rw [hc]; exact q)).2
      · have hp := adj_par (cs := cs) (a := a) (l := x.1) (fun x hx => (t.adj x hx).2) (by rw [hc]; rfl) (by rw [hc]; exact q1)
        have := t.ev
        rw [q2]
        omega
/-! ### counts -/
def cntL (l : List Int) (c : Nat) : Int := ((l.countP fun k => decide (k = (c : Int)) : Nat) : Int)
def pn (n : Nat) (l : List Int) : List Int := (List.range n).map (cntL l)
theorem pn_len {n : Nat} {l : List Int} : (pn n l).length = n := by simp [pn]
theorem pn_at {n : Nat} {l : List Int} {i : Nat} (h : i < n) : (pn n l)[i]? = some (cntL l i) := by
  unfold pn
  rw [List.getElem?_map, List.getElem?_range h]
  rfl
theorem cntL_nn (l : List Int) (c : Nat) : 0 ≤ cntL l c := Int.natCast_nonneg _
theorem cntL_app (l m : List Int) (c : Nat) : cntL (l ++ m) c = cntL l c + cntL m c := by
  unfold cntL
  rw [List.countP_append]
  exact Int.natCast_add _ _
theorem pn_nil (n : Nat) : pn n [] = List.replicate n 0 := by
  unfold pn
  apply List.ext_getElem?
  intro i
  rw [List.getElem?_map, List.getElem?_replicate]
  by_cases h : i < n
  · rw [List.getElem?_range h, if_pos h]; rfl
  · rw [if_neg h, List.getElem?_eq_none (by simpa using h)]; rfl
theorem pn_step {n : Nat} {l : List Int} {k : Int} (h0 : 0 ≤ k) (h1 : k < n) : pn n (l ++ [k]) = (pn n l).set k.toNat (cntL l k.toNat + 1) := by
  apply List.ext_getElem?
  intro i
  rw [List.getElem?_set, pn_len]
  by_cases hi : i < n
  · rw [pn_at hi, pn_at hi, cntL_app]
    by_cases e : k.toNat = i
    · rw [if_pos e, if_pos (by omega), ← e]
      have : cntL [k] k.toNat = 1 := by
        unfold cntL
        simp [Int.toNat_of_nonneg h0]
      rw [this]
    · rw [if_neg e]
      have : cntL [k] i = 0 := by
        unfold cntL
        simp
        omega
      rw [this, Int.add_zero]
  · rw [List.getElem?_eq_none (by rw [pn_len]; omega)]
    by_cases e : k.toNat = i
    · rw [if_pos e, if_neg (by omega)]
    · rw [if_neg e, List.getElem?_eq_none (by rw [pn_len]; omega)]
/-- a cell's count lies where the wish wants it -/
def cellB (ws : List Int) (l : List Int) (i : Nat) (c : Bool × Int) : Bool := decide (loC ws i ≤ cntL l i) && decide (cntL l i ≤ brC ws i c)
def isPlanB (st : Strip) (ws : List Int) (plan : List (List Int)) : Bool := (plan.all fun r => canB (st.length : Int) r) && (st.mapIdx (cellB ws plan.flatten)).all id
end FR

/-! FR5: the told plan of a ring. -/
namespace FR
open PL PySem FW
theorem zip_snoc {α : Type} {x y : α} : ∀ {r : List α}, x ∈ r.getLast? → ∀ z, z ∈ (r ++ [y]).zip ((r ++ [y]).drop 1) → z ∈ r.zip (r.drop 1) ∨ z = (x, y)
  | [], h, _, _ => by cases h
  | [a], h, z, hz => by
    cases h
    simp at hz
    exact .inr hz
  | a :: b :: r, h, z, hz => by
    have hz : z ∈ (a, b) :: ((b :: r) ++ [y]).zip (((b :: r) ++ [y]).drop 1) := hz
    rcases List.mem_cons.mp hz with e | hz
    · exact .inl (by rw [zip_step, e]; exact List.mem_cons_self)
    · rcases zip_snoc (r := b :: r) (by rw [List.getLast?_cons_cons] at h; exact h) z hz with q | q
      · exact .inl (by rw [zip_step]; exact List.mem_cons_of_mem _ q)
      · exact .inr q
/-- where b changes, among the first k -/
def chg (b : Nat → Bool) (k : Nat) : List Nat := (List.range k).filter fun c => b c != b (c + 1)
theorem chg_succ (b : Nat → Bool) (k : Nat) : chg b (k + 1) = chg b k ++ if b k != b (k + 1) then [k] else [] := by
  unfold chg
  rw [List.range_succ, List.filter_append]
  congr 1
  by_cases h : (b k != b (k + 1)) = true <;> simp [h]
/-- upwards only at even cells, downwards only at odd ones -/
def Ups (b : Nat → Bool) (n : Nat) : Prop := ∀ c, c < n → (c % 2 = 0 → b c = true → b (c + 1) = true) ∧ (c % 2 = 1 → b (c + 1) = true → b c = true)
structure ChgI (b : Nat → Bool) (k : Nat) : Prop where
  ev : ((chg b k).length : Nat) % 2 = if b k = b 0 then 0 else 1
  last : ∀ x, x ∈ (chg b k).getLast? → x < k ∧ (x % 2 = 0 ↔ b k = true)
  adj : ∀ z ∈ (chg b k).zip ((chg b k).drop 1), z.1 < z.2 ∧ (z.2 - z.1) % 2 = 1
  lt : ∀ x ∈ chg b k, x < k
theorem chg_inv {b : Nat → Bool} {n : Nat} (h : Ups b n) : ∀ k, k ≤ n → ChgI b k
  | 0, _ => ⟨by simp [chg], by simp [chg], by simp [chg], by simp [chg]⟩
  | k + 1, hk => by
    have ih := chg_inv h k (by omega)
    obtain ⟨h1, h2⟩ := h k (by omega)
    by_cases hb : b k = b (k + 1)
    · have e : chg b (k + 1) = chg b k := by rw [chg_succ]; simp [hb]
      refine ⟨?_, ?_, ?_, ?_⟩
      · rw [e, ← hb]; exact ih.ev
      · rw [e, ← hb]; intro x hx; have := ih.last x hx; exact ⟨by omega, this.2⟩
      · rw [e]; exact ih.adj
      · rw [e]; intro x hx; have := ih.lt x hx; omega
    · have e : chg b (k + 1) = chg b k ++ [k] := by rw [chg_succ]; simp [hb]
      have hbk : b (k + 1) = !b k := by
        cases h3 : b k <;> cases h4 : b (k + 1) <;> simp_all
      have hpar : k % 2 = 0 ↔ b (k + 1) = true := by
        constructor
        · intro h0
          cases h3 : b k with
          | true => exact h1 h0 h3
          | false => rw [hbk, h3]; rfl
        · intro h4
          refine Decidable.byContradiction fun h0 => ?_
          have := h2 (by omega) h4
          rw [hbk, this] at h4
          cases h4
      refine ⟨?_, ?_, ?_, ?_⟩
      · rw [e, List.length_append, List.length_singleton]
        have := ih.ev
        cases h3 : b k <;> cases h4 : b 0 <;> simp [hbk, h3, h4] at this ⊢ <;> omega
      · rw [e]
        intro x hx
        rw [List.getLast?_append] at hx
        simp at hx
        subst hx
        exact ⟨by omega, hpar⟩
      · rw [e]
        intro z hz
        cases hl : (chg b k).getLast? with
        | none =>
          have : chg b k = [] := List.getLast?_eq_none_iff.mp hl
          rw [this] at hz
          simp at hz
        | some x =>
          rcases zip_snoc (x := x) (by rw [hl]; rfl) z hz with q | rfl
          · exact ih.adj z q
          · obtain ⟨l1, l2⟩ := ih.last x (by rw [hl]; rfl)
            refine ⟨l1, ?_⟩
            dsimp only
            cases h3 : b k <;> simp [hbk, h3] at hpar l2 <;> omega
      · rw [e]
        intro x hx
        rcases List.mem_append.mp hx with hx | hx
        · have := ih.lt x hx; omega
        · rw [List.mem_singleton] at hx; omega
theorem chg_mono {b : Nat → Bool} {n : Nat} (h : chg b n = []) : ∀ k, k ≤ n → b k = b 0
  | 0, _ => rfl
  | k + 1, hk => by
    have ih := chg_mono h k (by omega)
    rw [← ih]
    refine Decidable.byContradiction fun hb => ?_
    have : k ∈ chg b n := by
      unfold chg
      refine List.mem_filter.mpr ⟨List.mem_range.mpr (by omega), ?_⟩
      simp
      exact fun e => hb e.symm
    rw [h] at this
    cases this
theorem chg_turn {b : Nat → Bool} {n : Nat} (h : Ups b n) (hn : b n = b 0) (hx : ∃ v, v ≤ n ∧ b v ≠ b 0) : Turn (n : Int) ((chg b n).map fun (c : Nat) => (c : Int)) := by
  have I := chg_inv h n (Nat.le_refl _)
  have hne : chg b n ≠ [] := fun e => by
    obtain ⟨v, hv, hb⟩ := hx
    exact hb (chg_mono e v hv)
  refine ⟨fun e => hne (List.map_eq_nil_iff.mp e), ?_, fun x hxm => ?_, fun h hh => ?_, fun l hl => ?_⟩
  · have := I.ev
    rw [if_pos hn] at this
    rw [List.length_map]
    omega
  · rw [← List.map_drop, List.zip_map] at hxm
    obtain ⟨z, hz, rfl⟩ := List.mem_map.mp hxm
    obtain ⟨a1, a2⟩ := I.adj z hz
    show ((z.1 : Nat) : Int) < ((z.2 : Nat) : Int) ∧ (((z.2 : Nat) : Int) - ((z.1 : Nat) : Int)) % 2 = 1
    omega
  · rw [List.head?_map] at hh
    obtain ⟨c, _, rfl⟩ := Option.map_eq_some_iff.mp hh
    omega
  · rw [List.getLast?_map] at hl
    obtain ⟨c, hc, rfl⟩ := Option.map_eq_some_iff.mp hl
    have := (I.last c hc).1
    omega

/-! ### sums round about -/
theorem rs_take {ss : List (Int × Int)} {g : Int × Int → Int} : ∀ k, k ≤ ss.length → rs ss.length (fun i => g (ss.getD i (0, 0))) 0 k = ((ss.take k).map g).sum
  | 0, _ => by simp [rs]
  | k + 1, hk => by
    have hk' : k < ss.length := by omega
    rw [rs, rs_take k (by omega), List.take_add_one, List.getElem?_eq_getElem hk', List.map_append, List.sum_append, Nat.zero_add, Nat.mod_eq_of_lt hk', List.getD_eq_getElem?_getD, List.getElem?_eq_getElem hk']
    simp
/-- nothing hinders -/
def Free (st : Strip) (ws : List Int) : Prop := trn st ws = [] ∧ ¬ (worthsF (stepsF st ws) 0).sum > 0 ∧ ¬ (worthsF (stepsF st ws) 1).sum > 0
theorem stepsF_len {st : Strip} {ws : List Int} : (stepsF st ws).length = st.length := by simp [stepsF]
theorem stepsF_at {st : Strip} {ws : List Int} {i : Nat} {c : Bool × Int} (h : st[i]? = some c) : (stepsF st ws).getD i (0, 0) = stepC ws i c := by
  rw [List.getD_eq_getElem?_getD, stepsF, List.getElem?_mapIdx, h]
  rfl
/-- a strip and a wish as they come -/
structure RW (st : Strip) (ws : List Int) : Prop where
  n2 : 2 ≤ st.length
  n200 : st.length ≤ 200
  ev : st.length % 2 = 0
  l : ∀ c ∈ st, 0 ≤ c.2
  w : IsWish st ws
theorem lo_le {st : Strip} {ws : List Int} (h : RW st ws) (ht : trn st ws = []) {i : Nat} {c : Bool × Int} (hc : st[i]? = some c) : 0 ≤ loC ws i ∧ loC ws i ≤ brC ws i c := by
  have hl := h.l c (List.mem_of_getElem? hc)
  unfold loC brC
  by_cases hw : (i : Int) ∈ ws
  · rw [if_pos hw, if_pos (.inl hw)]
    refine ⟨by decide, ?_⟩
    have : c.2 ≠ 0 := fun e => by
      have : (i : Int) ∈ trn st ws := by
        unfold trn
        refine List.mem_filter.mpr ⟨hw, ?_⟩
        rw [Int.toNat_natCast, hc]
        simp [e]
      rw [ht] at this
      cases this
    omega
  · rw [if_neg hw]
    refine ⟨Int.le_refl _, ?_⟩
    split
    · exact hl
    · exact Int.le_refl _
theorem can_of {st : Strip} {ws : List Int} (h : RW st ws) (hf : Free st ws) : Can (stepsF st ws).length (loS (stepsF st ws)) (hiS (stepsF st ws)) := by
  obtain ⟨h1, h2, h3⟩ := hf
  refine ⟨by rw [stepsF_len]; exact h.n2, fun c hc => ?_, ?_, ?_⟩
  · rw [stepsF_len] at hc
    obtain ⟨x, hx⟩ : ∃ x, st[c]? = some x := ⟨_, List.getElem?_eq_getElem hc⟩
    have := lo_le h h1 hx
    unfold loS hiS
    rw [stepsF_at hx]
    unfold stepC
    split
    · exact this.2
    · dsimp only
      omega
  · have := rs_take (ss := stepsF st ws) (g := (·.1)) _ (Nat.le_refl _)
    rw [List.take_length] at this
    show rs _ (fun i => ((stepsF st ws).getD i (0, 0)).1) 0 _ ≤ 0
    rw [this]
    have e : worthsF (stepsF st ws) 0 = (stepsF st ws).map (·.1) := by unfold worthsF; simp
    rw [e] at h2
    omega
  · have := rs_take (ss := stepsF st ws) (g := fun s => -s.2) _ (Nat.le_refl _)
    rw [List.take_length] at this
    show rs _ (fun i => -((stepsF st ws).getD i (0, 0)).2) 0 _ ≤ 0
    rw [this]
    have e : worthsF (stepsF st ws) 1 = (stepsF st ws).map (fun s => -s.2) := by unfold worthsF; simp
    rw [e] at h3
    omega
/-! ### the told plan -/
abbrev stF (st : Strip) (ws : List Int) (v : Nat) : Int := stP st.length (loS (stepsF st ws)) (hiS (stepsF st ws)) v
abbrev stL (st : Strip) (ws : List Int) : List Int := (List.range st.length).map (stF st ws)
/-- the cells crossed at a level -/
def rowF (n : Nat) (s : Nat → Int) (L : Nat) : List Int := ((List.range n).filter fun c => decide (min (s c) (s ((c + 1) % n)) ≤ L) && decide ((L : Int) < max (s c) (s ((c + 1) % n)))).map fun (c : Nat) => (c : Int)
def planF (st : Strip) (ws : List Int) : List (List Int) := (List.range (maxL (stL st ws)).toNat).map (rowF st.length (stF st ws))
theorem row_chg {n : Nat} {s : Nat → Int} {L : Nat} : rowF n s L = (chg (fun v => decide ((L : Int) < s (v % n))) n).map fun (c : Nat) => (c : Int) := by
  unfold rowF chg
  congr 1
  refine List.filter_congr fun c hc => ?_
  have hc := List.mem_range.mp hc
  show _ = (decide ((L : Int) < s (c % n)) != decide ((L : Int) < s ((c + 1) % n)))
  rw [Nat.mod_eq_of_lt hc]
  by_cases h1 : (L : Int) < s c <;> by_cases h2 : (L : Int) < s ((c + 1) % n) <;> simp [h1, h2] <;> omega

theorem maxL_ge : ∀ {ns : List Int} {x : Int}, x ∈ ns → x ≤ maxL ns
  | n :: r, x, h => by
    have e : maxL (n :: r) = r.foldl max n := rfl
    rw [e]
    obtain ⟨_, h2, h3⟩ := foldl_max_or r n
    rcases List.mem_cons.mp h with rfl | h
    · exact h2
    · exact h3 x h
theorem maxL_mem : ∀ {ns : List Int}, ns ≠ [] → maxL ns ∈ ns
  | n :: r, _ => by
    have e : maxL (n :: r) = r.foldl max n := rfl
    rw [e]
    rcases (foldl_max_or r n).1 with h | h
    · rw [h]; exact List.mem_cons_self
    · exact List.mem_cons_of_mem _ h
theorem cnt_row {p : Nat → Bool} {i : Nat} : ∀ n, cntL (((List.range n).filter p).map fun (c : Nat) => (c : Int)) i = if i < n ∧ p i = true then 1 else 0
  | 0 => by simp [cntL]
  | n + 1 => by
    rw [List.range_succ, List.filter_append, List.map_append, cntL_app, cnt_row n]
    have h1 : cntL (([n].filter p).map fun (c : Nat) => (c : Int)) i = if i = n ∧ p i = true then 1 else 0 := by
      by_cases hp : p n = true
      · rw [List.filter_cons_of_pos hp]
        unfold cntL
        by_cases e : i = n
        · subst e; simp [hp]
        · have : ¬ (n : Int) = (i : Int) := by omega
          simp [this, e]
      · rw [List.filter_cons_of_neg hp]
        by_cases e : i = n
        · subst e; simp [cntL, hp]
        · simp [cntL, e]
    rw [h1]
    by_cases hp : p i = true
    · by_cases e : i = n
      · subst e; simp [hp]
      · by_cases h2 : i < n
        · rw [if_pos ⟨h2, hp⟩, if_neg (fun q => e q.1), if_pos ⟨by omega, hp⟩]; rfl
        · rw [if_neg (fun q => h2 q.1), if_neg (fun q => e q.1), if_neg (fun q => by omega)]; rfl
    · rw [if_neg (fun q => hp q.2), if_neg (fun q => hp q.2), if_neg (fun q => hp q.2)]; rfl
theorem cnt_levels {f : Nat → List Int} {i : Nat} {a b : Int} (h0 : 0 ≤ a) (hab : a ≤ b) (h : ∀ L, cntL (f L) i = if a ≤ (L : Int) ∧ (L : Int) < b then 1 else 0) : ∀ m : Nat, cntL ((List.range m).map f).flatten i = min b m - min a m
  | 0 => by simp [cntL]; omega
  | m + 1 => by
    rw [List.range_succ, List.map_append, List.flatten_append, cntL_app, cnt_levels h0 hab h m]
    have : cntL ([m].map f).flatten i = cntL (f m) i := by simp
    rw [this, h m]
    split <;> omega
theorem plan_ok {st : Strip} {ws : List Int} (h : RW st ws) (hf : Free st ws) : isPlanB st ws (planF st ws) = true := by
  have hC := can_of h hf
  have hF := stP_feas hC
  obtain ⟨u, hu, hu0⟩ := stP_zero hC
  rw [stepsF_len] at hF hu hu0
  obtain ⟨n, hn⟩ : ∃ n, st.length = n := ⟨_, rfl⟩
  have n2 := h.n2
  have n200 := h.n200
  have ev := h.ev
  obtain ⟨S, hS⟩ : ∃ S, stF st ws = S := ⟨_, rfl⟩
  have hSeq : stP st.length (loS (stepsF st ws)) (hiS (stepsF st ws)) = S := hS
  rw [hSeq] at hF hu0
  have hS0 : ∀ v, 0 ≤ S v := fun v => by rw [← hS]; exact stP_nn v
  have step : ∀ c, c < st.length → ∃ x, st[c]? = some x ∧ 0 ≤ loC ws c ∧ loC ws c ≤ brC ws c x ∧ (c % 2 = 0 → S c + loC ws c ≤ S ((c + 1) % st.length) ∧ S ((c + 1) % st.length) ≤ S c + brC ws c x) ∧
      (c % 2 = 1 → S ((c + 1) % st.length) + loC ws c ≤ S c ∧ S c ≤ S ((c + 1) % st.length) + brC ws c x) := by
    intro c hc
    obtain ⟨x, hx⟩ : ∃ x, st[c]? = some x := ⟨_, List.getElem?_eq_getElem hc⟩
    obtain ⟨l1, l2⟩ := lo_le h hf.1 hx
    have a1 := hF.up c hc
    have a2 := hF.dn c hc
    unfold loS at a1
    unfold hiS at a2
    rw [stepsF_at hx] at a1 a2
    unfold stepC at a1 a2
    refine ⟨x, hx, l1, l2, fun e => ?_, fun e => ?_⟩
    · rw [if_pos (by omega)] at a1 a2
      exact ⟨a1, a2⟩
    · rw [if_neg (by omega)] at a1 a2
      dsimp only at a1 a2
      omega
  have hmax : ∀ v, v < st.length → S v ≤ maxL (stL st ws) := fun v hv => maxL_ge (List.mem_map.mpr ⟨v, List.mem_range.mpr hv, by rw [hS]⟩)
  have hmem : ∃ v, v < st.length ∧ S v = maxL (stL st ws) := by
    have : maxL (stL st ws) ∈ stL st ws := maxL_mem (fun e => by have := congrArg List.length e; simp [stL] at this; rw [this] at n2; simp at n2)
    obtain ⟨v, hv, e⟩ := List.mem_map.mp this
    exact ⟨v, List.mem_range.mp hv, by rw [← hS]; exact e⟩
  unfold isPlanB
  rw [Bool.and_eq_true]
  constructor
  · rw [List.all_eq_true]
    intro r hr
    unfold planF at hr
    obtain ⟨L, hL, rfl⟩ := List.mem_map.mp hr
    have hL := List.mem_range.mp hL
    rw [canB_iff (by omega) (by omega) (by omega), hS, row_chg]
    obtain ⟨v, hv, hve⟩ := hmem
    obtain ⟨b, hb⟩ : ∃ b : Nat → Bool, (fun v => decide ((L : Int) < S (v % st.length))) = b := ⟨_, rfl⟩
    have hbv : ∀ v, b v = decide ((L : Int) < S (v % st.length)) := fun v => by rw [← hb]
    rw [hb]
    refine chg_turn (fun c hc => ?_) (by rw [hbv, hbv, Nat.mod_self, Nat.zero_mod]) ?_
    · obtain ⟨x, hx, l1, l2, e0, e1⟩ := step c hc
      rw [hbv, hbv, Nat.mod_eq_of_lt hc]
      refine ⟨fun e hb => ?_, fun e hb => ?_⟩
      · have := e0 e
        simp only [decide_eq_true_eq] at hb ⊢
        omega
      · have := e1 e
        simp only [decide_eq_true_eq] at hb ⊢
        omega
    · have b1 : b v = true := by
        rw [hbv, Nat.mod_eq_of_lt hv]
        simp
        omega
      have b2 : b u = false := by
        rw [hbv, Nat.mod_eq_of_lt hu, hu0]
        simp
      cases h0 : b 0 with
      | true => exact ⟨u, by omega, by rw [b2]; simp⟩
      | false => exact ⟨v, by omega, by rw [b1]; simp⟩
  · rw [List.all_eq_true]
    intro b hb
    obtain ⟨i, hi⟩ := List.mem_iff_getElem?.mp hb
    rw [List.getElem?_mapIdx] at hi
    obtain ⟨x, hx, rfl⟩ := Option.map_eq_some_iff.mp hi
    have hil := (List.getElem?_eq_some_iff.mp hx).1
    obtain ⟨x', hx', l1, l2, e0, e1⟩ := step i hil
    rw [hx] at hx'
    cases hx'
    have hw : (i + 1) % st.length < st.length := Nat.mod_lt _ (by omega)
    have m1 := hmax i hil
    have m2 := hmax _ hw
    have p1 := hS0 i
    have p2 := hS0 ((i + 1) % st.length)
    have hcnt : cntL (planF st ws).flatten i = max (S i) (S ((i + 1) % st.length)) - min (S i) (S ((i + 1) % st.length)) := by
      unfold planF
      rw [cnt_levels (a := min (S i) (S ((i + 1) % st.length))) (b := max (S i) (S ((i + 1) % st.length))) (by omega) (by omega) (fun L => ?_)]
      · omega
      · rw [hS]
        unfold rowF
        rw [cnt_row]
        by_cases q1 : min (S i) (S ((i + 1) % st.length)) ≤ (L : Int) <;> by_cases q2 : (L : Int) < max (S i) (S ((i + 1) % st.length)) <;> simp [q1, q2, hil]
    show cellB ws _ i x = true
    unfold cellB
    rw [hcnt]
    simp only [Bool.and_eq_true, decide_eq_true_eq]
    rcases Nat.mod_two_eq_zero_or_one i with e | e
    · have := e0 e
      omega
    · have := e1 e
      omega
end FR

/-! FK1: all foldings of small rings, in plain words; told over in the kernel. -/
namespace FK
open PL PySem FR
def waysN : Nat → Int
  | 0 => 1
  | t + 1 => waysN t * 2 * (2 * (t : Int) + 1) / ((t : Int) + 2)
def cntF (m : Int) (cs : List Int) : Int := (gaps m cs).foldl (fun f g => f * waysN ((g - 1) / 2).toNat) 1
def wk (bends : List Int) : Nat → List Int × Int × Int
  | 0 => ([], 0, 1)
  | k + 1 =>
    let w := wk bends k
    (w.1 ++ [w.2.1], if (k : Int) ∈ bends then (w.2.1, 0 - w.2.2) else (w.2.1 + w.2.2, w.2.2))
def ls : Nat → List (List Int)
  | 0 => [[]]
  | k + 1 => ls k ++ (ls k).map (· ++ [(k : Int)])
def insS (x : Int) : List Int → List Int
  | [] => [x]
  | y :: l => if x < y then x :: y :: l else if x = y then y :: l else y :: insS x l
def lvls (spots : List Int) : List Int := spots.foldr insS []
def rowAt (n : Nat) (spots : List Int) (lv : Int) : List Int := ((List.range n).filter fun k => decide (spots.getD k 0 = lv)).map fun (k : Nat) => (k : Int)
def heapsOf (n : Nat) (bends : List Int) : List (List Int) :=
  let w := wk bends n
  if w.2 = (0, 1) then (lvls w.1).map (rowAt n w.1) else []
def heapsF (n : Nat) : List (List Int) := (ls n).flatMap (heapsOf n)
def totN (n : Nat) : Nat := (ls n).countP fun b => decide ((wk b n).2 = (0, 1))
def hf (n : Nat) : Nat → Int
  | 0 => 1
  | k + 1 => hf n k * ((n : Int) - k) / ((k : Int) + 1)
def code (r : List Int) : Nat := r.foldr (fun x a => a * 16 + (x.toNat + 1)) 0
def codes (n : Nat) : List Nat := (heapsF n).map code
def dueN (n : Nat) (r : List Int) : Nat := (codes n).countP fun c => Nat.beq c (code r)
def chkA (n : Nat) : Bool := decide ((totN n : Int) * 2 = hf n (n / 2))
def chkB (n : Nat) : Bool := (ls n).all fun r => (canB (n : Int) r == Nat.blt 0 (dueN n r)) && (Nat.beq (dueN n r) 0 || decide (cntF (n : Int) r = (dueN n r : Int)))
def chkC (n : Nat) : Bool := (List.range n).all fun s => Nat.beq ((ls n).foldl (fun a r => a + if (s : Int) ∈ r then dueN n r else 0) 0) (totN n)
end FK

/-! FK2: heaps of foldings, counted by what is shown. -/
namespace FK
open PL PySem FR L2
theorem ins_mem {x y : Int} : ∀ {l : List Int}, y ∈ insS x l ↔ y = x ∨ y ∈ l
  | [] => by simp [insS]
  | z :: l => by
    unfold insS
    split
    · simp
    · split
      · rename_i e
        subst e
        simp
      · rw [List.mem_cons, ins_mem, List.mem_cons]
        constructor
        · rintro (h | h | h)
          · exact .inr (.inl h)
          · exact .inl h
          · exact .inr (.inr h)
        · rintro (h | h | h)
          · exact .inr (.inl h)
          · exact .inl h
          · exact .inr (.inr h)
theorem ins_up {x : Int} : ∀ {l : List Int}, l.Pairwise (· < ·) → (insS x l).Pairwise (· < ·)
  | [], _ => by simp [insS]
  | z :: l, h => by
    obtain ⟨h1, h2⟩ := List.pairwise_cons.mp h
    unfold insS
    split
    · rename_i e
      refine List.pairwise_cons.mpr ⟨fun y hy => ?_, h⟩
      rcases List.mem_cons.mp hy with q | q
      · omega
      · have := h1 y q; omega
    · split
      · exact h
      · refine List.pairwise_cons.mpr ⟨fun y hy => ?_, ins_up h2⟩
        rcases ins_mem.mp hy with q | q
        · omega
        · exact h1 y q
theorem ins_len {x : Int} : ∀ {l : List Int}, (insS x l).length ≤ l.length + 1
  | [] => by simp [insS]
  | z :: l => by
    unfold insS
    split
    · simp
    · split
      · simp
      · have := ins_len (x := x) (l := l)
        simp only [List.length_cons]
        omega
theorem lvls_up : ∀ s : List Int, (lvls s).Pairwise (· < ·)
  | [] => .nil
  | x :: s => ins_up (lvls_up s)
theorem lvls_mem {y : Int} : ∀ {s : List Int}, y ∈ lvls s ↔ y ∈ s
  | [] => by simp [lvls]
  | x :: s => by
    have e : lvls (x :: s) = insS x (lvls s) := rfl
    rw [e, ins_mem, lvls_mem, List.mem_cons]
theorem lvls_len : ∀ s : List Int, (lvls s).length ≤ s.length
  | [] => Nat.le_refl _
  | x :: s => by
    have e : lvls (x :: s) = insS x (lvls s) := rfl
    have := lvls_len s
    have := ins_len (x := x) (l := lvls s)
    rw [e]
    simp only [List.length_cons]
    omega
theorem inc_ext : ∀ {a b : List Int}, a.Pairwise (· < ·) → b.Pairwise (· < ·) → (∀ k, k ∈ a ↔ k ∈ b) → a = b
  | [], [], _, _, _ => rfl
  | [], y :: b, _, _, h => by have := (h y).mpr List.mem_cons_self; cases this
  | x :: a, [], _, _, h => by have := (h x).mp List.mem_cons_self; cases this
  | x :: a, y :: b, ha, hb, h => by
    obtain ⟨a1, a2⟩ := List.pairwise_cons.mp ha
    obtain ⟨b1, b2⟩ := List.pairwise_cons.mp hb
    have hx : x = y := by
      rcases List.mem_cons.mp ((h x).mp List.mem_cons_self) with q | q
      · exact q
      · rcases List.mem_cons.mp ((h y).mpr List.mem_cons_self) with r | r
        · exact r.symm
        · have := a1 y r; have := b1 x q; omega
    subst hx
    congr 1
    refine inc_ext a2 b2 fun k => ⟨fun hk => ?_, fun hk => ?_⟩
    · rcases List.mem_cons.mp ((h k).mp (List.mem_cons_of_mem _ hk)) with q | q
      · have := a1 k hk; omega
      · exact q
    · rcases List.mem_cons.mp ((h k).mpr (List.mem_cons_of_mem _ hk)) with q | q
      · have := b1 k hk; omega
      · exact q
theorem wk_len (b : List Int) : ∀ m, (wk b m).1.length = m
  | 0 => rfl
  | m + 1 => by show ((wk b m).1 ++ [(wk b m).2.1]).length = _; rw [List.length_append, wk_len b m]; rfl
theorem heaps_len {n : Nat} (hn : n ≤ 10) (b : List Int) : (heapsOf n b).length ≤ 10 := by
  unfold heapsOf
  dsimp only
  split
  · rw [List.length_map]
    have := lvls_len (wk b n).1
    rw [wk_len] at this
    omega
  · exact Nat.zero_le _
theorem flat_len {n : Nat} (hn : n ≤ 10) : ∀ l : List (List Int), (l.flatMap (heapsOf n)).length ≤ 10 * l.length
  | [] => by simp
  | b :: l => by
    have := flat_len hn l
    have := heaps_len hn b
    rw [List.flatMap_cons, List.length_append, List.length_cons]
    omega
/-! ### by what is shown -/
abbrev shw (r : List Int) : Str := PyData.shown (.list (r.map PyData.int))
def cntK (H : List (List Int)) (key : Str) : Int := ((H.countP fun r => decide (shw r = key) : Nat) : Int)
structure Rep (kvs : List (Key × D)) (H : List (List Int)) : Prop where
  len : kvs.length ≤ H.length
  val : ∀ key, (valD kvs (.inr key)).getD (dI 0) = dI (cntK H key)
theorem rep_nil : Rep [] [] := ⟨Nat.le_refl _, fun key => rfl⟩
theorem find_put (k k' : Key) (d : D) : ∀ kvs : List (Key × D), ((kvs.map (fun kv => if kv.1 = k then (kv.1, d) else kv)).find? fun kv => decide (kv.1 = k')).map (·.2) =
    if k = k' then (if (kvs.any fun kv => decide (kv.1 = k)) = true then some d else none) else (kvs.find? fun kv => decide (kv.1 = k')).map (·.2)
  | [] => by simp
  | kv :: kvs => by
    have ih := find_put k k' d kvs
    rw [List.map_cons, List.find?_cons, List.any_cons, List.find?_cons]
    by_cases e : kv.1 = k
    · rw [if_pos e]
      by_cases e2 : k = k'
      · subst e2
        simp [e]
      · have e3 : ¬ kv.1 = k' := fun q => e2 (e.symm.trans q)
        simp only [decide_eq_false e3, ih, if_neg e2]
    · rw [if_neg e]
      by_cases e3 : kv.1 = k'
      · have e2 : ¬ k = k' := fun q => e (e3.trans q.symm)
        simp [e3, e2]
      · simp only [decide_eq_false e3, ih, decide_eq_false e, Bool.false_or]
theorem valD_put (kvs : List (Key × D)) (k k' : Key) (d : D) : valD (putKD kvs k d) k' = if k = k' then some d else valD kvs k' := by
  unfold putKD valD
  split
  · rename_i h
    rw [find_put, if_pos h]
  · rename_i h
    rw [List.find?_append]
    by_cases e : k = k'
    · subst e
      have hn : (kvs.find? fun kv => decide (kv.1 = k)) = Option.none := by
        rw [List.find?_eq_none]
        intro x hx hd
        exact h (List.any_eq_true.mpr ⟨x, hx, hd⟩)
      rw [hn, if_pos rfl]
      simp
    · rw [if_neg e]
      simp [e]
theorem Rep.step {kvs : List (Key × D)} {H : List (List Int)} (h : Rep kvs H) (r : List Int) : Rep (putKD kvs (.inr (shw r)) (dI (cntK H (shw r) + 1))) (H ++ [r]) := by
  refine ⟨?_, fun key => ?_⟩
  · have := putKD_len kvs (.inr (shw r)) (dI (cntK H (shw r) + 1))
    have := h.len
    rw [List.length_append, List.length_singleton]
    omega
  · rw [valD_put]
    have e : cntK (H ++ [r]) key = cntK H key + if shw r = key then 1 else 0 := by
      unfold cntK
      rw [List.countP_append, Int.natCast_add]
      congr 1
      by_cases q : shw r = key <;> simp [q]
    rw [e]
    by_cases q : shw r = key
    · subst q
      rw [if_pos rfl, if_pos rfl]
      rfl
    · rw [if_neg (fun z => q (Sum.inr.inj z)), if_neg q, h.val, Int.add_zero]
end FK

/-! FR6: the least folding of a list by turns closes the ring and lays just the list at its first cell's place. -/
namespace FR
open PL PySem FW
/-- neighbours in a list -/
def Adj : List Int → Int → Int → Prop
  | u :: v :: t, x, y => (x = u ∧ y = v) ∨ Adj (v :: t) x y
  | _, _, _ => False
theorem adj_zip : ∀ {xs : List Int} {x y : Int}, (x, y) ∈ xs.zip (xs.drop 1) ↔ Adj xs x y
  | [], x, y => by simp [Adj]
  | [a], x, y => by simp [Adj]
  | a :: b :: t, x, y => by
    rw [zip_step, List.mem_cons, adj_zip (xs := b :: t)]
    simp [Adj, Prod.ext_iff]
theorem adj_snoc : ∀ {xs : List Int} {x y z : Int}, Adj (xs ++ [z]) x y ↔ Adj xs x y ∨ (xs.getLast? = some x ∧ y = z)
  | [], x, y, z => by simp [Adj]
  | [a], x, y, z => by
    show Adj [a, z] x y ↔ _
    simp only [Adj, or_false, List.getLast?_singleton, false_or]
    constructor
    · rintro ⟨rfl, rfl⟩; exact ⟨rfl, rfl⟩
    · rintro ⟨h, rfl⟩; exact ⟨(Option.some.inj h).symm, rfl⟩
  | a :: b :: t, x, y, z => by
    show Adj (a :: b :: (t ++ [z])) x y ↔ _
    have ih := adj_snoc (xs := b :: t) (x := x) (y := y) (z := z)
    rw [List.getLast?_cons_cons]
    show ((x = a ∧ y = b) ∨ Adj ((b :: t) ++ [z]) x y) ↔ ((x = a ∧ y = b) ∨ Adj (b :: t) x y) ∨ _
    rw [ih, or_assoc]
theorem adj_mem : ∀ {xs : List Int} {x y : Int}, Adj xs x y → x ∈ xs ∧ y ∈ xs
  | u :: v :: t, x, y, h => by
    rcases h with ⟨rfl, rfl⟩ | h
    · simp
    · have := adj_mem h
      exact ⟨List.mem_cons_of_mem _ this.1, List.mem_cons_of_mem _ this.2⟩
theorem adj_next : ∀ {xs : List Int} {x : Int}, x ∈ xs → (∃ y, Adj xs x y) ∨ xs.getLast? = some x
  | [a], x, h => by
    rw [List.mem_singleton] at h
    subst h
    exact .inr rfl
  | a :: b :: t, x, h => by
    rcases List.mem_cons.mp h with rfl | h
    · exact .inl ⟨b, .inl ⟨rfl, rfl⟩⟩
    · rcases adj_next h with ⟨y, q⟩ | q
      · exact .inl ⟨y, .inr q⟩
      · exact .inr (by rw [List.getLast?_cons_cons]; exact q)
/-- the neighbours between which a number lies (the first one may be it), and how often one has gone on to get there -/
def seg : Int → List Int → Int → Int × Int × Bool
  | a, [], _ => (a, a, false)
  | a, b :: t, k => if k < b then (a, b, false) else ((seg b t k).1, (seg b t k).2.1, !(seg b t k).2.2)
theorem seg_in : ∀ {t : List Int} {a k : Int}, (a :: t).Pairwise (· < ·) → a ≤ k → (∃ z ∈ t, k < z) → (seg a t k).1 ≤ k ∧ k < (seg a t k).2.1 ∧ Adj (a :: t) (seg a t k).1 (seg a t k).2.1
  | [], a, k, _, _, ⟨z, hz, _⟩ => by cases hz
  | b :: t, a, k, hp, ha, ⟨z, hz, hk⟩ => by
    unfold seg
    by_cases h : k < b
    · rw [if_pos h]
      exact ⟨ha, h, .inl ⟨rfl, rfl⟩⟩
    · rw [if_neg h]
      have hz' : z ∈ t := by
        rcases List.mem_cons.mp hz with rfl | q
        · omega
        · exact q
      obtain ⟨i1, i2, i3⟩ := seg_in (List.pairwise_cons.mp hp).2 (show b ≤ k by omega) ⟨z, hz', hk⟩
      exact ⟨i1, i2, .inr i3⟩
theorem seg_uni : ∀ {t : List Int} {a k x y : Int}, (a :: t).Pairwise (· < ·) → Adj (a :: t) x y → x ≤ k → k < y → (seg a t k).1 = x ∧ (seg a t k).2.1 = y
  | [], a, k, x, y, _, h, _, _ => by cases h
  | b :: t, a, k, x, y, hp, h, h1, h2 => by
    unfold seg
    rcases h with ⟨rfl, rfl⟩ | h
    · rw [if_pos h2]
      exact ⟨rfl, rfl⟩
    · have hb : b ≤ x := by
        rcases List.mem_cons.mp (adj_mem h).1 with e | q
        · omega
        · have := (List.pairwise_cons.mp (List.pairwise_cons.mp hp).2).1 x q
          omega
      rw [if_neg (by omega)]
      exact seg_uni (List.pairwise_cons.mp hp).2 h h1 h2
theorem seg_step : ∀ {t : List Int} {a k : Int}, (a :: t).Pairwise (· < ·) → a ≤ k → (∃ z ∈ t, k + 1 < z) →
    (k + 1 ∈ t → (seg a t k).2.1 = k + 1 ∧ (seg a t (k + 1)).1 = k + 1 ∧ (seg a t (k + 1)).2.2 = !(seg a t k).2.2) ∧ (k + 1 ∉ t → seg a t (k + 1) = seg a t k)
  | [], a, k, _, _, ⟨z, hz, _⟩ => by cases hz
  | b :: t, a, k, hp, ha, ⟨z, hz, hk⟩ => by
    have hp2 := (List.pairwise_cons.mp hp).2
    have hbt := (List.pairwise_cons.mp hp2).1
    by_cases h1 : k + 1 < b
    · have e1 : seg a (b :: t) k = (a, b, false) := by unfold seg; rw [if_pos (by omega)]
      have e2 : seg a (b :: t) (k + 1) = (a, b, false) := by unfold seg; rw [if_pos h1]
      refine ⟨fun hm => ?_, fun _ => by rw [e1, e2]⟩
      rcases List.mem_cons.mp hm with q | q
      · omega
      · have := hbt _ q; omega
    · by_cases h2 : k < b
      · have hkb : k + 1 = b := by omega
        have e1 : seg a (b :: t) k = (a, b, false) := by unfold seg; rw [if_pos h2]
        have hz' : z ∈ t := by
          rcases List.mem_cons.mp hz with rfl | q
          · omega
          · exact q
        cases t with
        | nil => cases hz'
        | cons b' t' =>
          have hbb := hbt b' List.mem_cons_self
          have e2 : seg a (b :: b' :: t') (k + 1) = (b, b', true) := by
            unfold seg
            rw [if_neg (by omega)]
            unfold seg
            rw [if_pos (by omega)]
            rfl
          refine ⟨fun _ => ?_, fun hm => absurd (by rw [hkb]; exact List.mem_cons_self) hm⟩
          rw [e1, e2]
          exact ⟨hkb.symm, hkb.symm, rfl⟩
      · have hz' : z ∈ t := by
          rcases List.mem_cons.mp hz with rfl | q
          · omega
          · exact q
        obtain ⟨i1, i2⟩ := seg_step hp2 (show b ≤ k by omega) ⟨z, hz', hk⟩
        have e1 : seg a (b :: t) k = ((seg b t k).1, (seg b t k).2.1, !(seg b t k).2.2) := by
          rw [seg]; rw [if_neg h2]
        have e2 : seg a (b :: t) (k + 1) = ((seg b t (k + 1)).1, (seg b t (k + 1)).2.1, !(seg b t (k + 1)).2.2) := by
          rw [seg]; rw [if_neg h1]
        refine ⟨fun hm => ?_, fun hm => ?_⟩
        · have hm' : k + 1 ∈ t := by
            rcases List.mem_cons.mp hm with q | q
            · omega
            · exact q
          obtain ⟨j1, j2, j3⟩ := i1 hm'
          rw [e1, e2]
          exact ⟨j1, j2, by rw [j3]⟩
        · have := i2 fun q => hm (List.mem_cons_of_mem _ q)
          rw [e1, e2, this]
/-- the place and the way, by the neighbours -/
def plF (A s : Int) (w : Int × Int × Bool) (k : Int) : Int := A + (if w.2.2 then s else -s) * min (k - w.1) (w.2.1 - k)
def dirF (s : Int) (w : Int × Int × Bool) (k : Int) : Int := if 2 * k + 1 ≤ w.1 + w.2.1 then (if w.2.2 then s else -s) else -(if w.2.2 then s else -s)
theorem walk_abs {b : List Int} {n : Nat} {g : Nat → Int × Int × Bool} {c : Nat → Prop} {A s : Int} (hs : s = 1 ∨ s = -1)
    (h1 : ∀ k : Nat, k ≤ n → (g k).1 ≤ k ∧ k < (g k).2.1 ∧ ((g k).2.1 - (g k).1) % 2 = 1)
    (h2 : ∀ k : Nat, k < n → (c (k + 1) → (g k).2.1 = k + 1 ∧ (g (k + 1)).1 = k + 1 ∧ (g (k + 1)).2.2 = !(g k).2.2) ∧ (¬ c (k + 1) → g (k + 1) = g k))
    (h3 : ∀ k : Nat, k < n → ((k : Int) ∈ b ↔ 2 * (k : Int) + 1 = (g k).1 + (g k).2.1))
    (h0 : plF A s (g 0) 0 = 0) (h0' : dirF s (g 0) 0 = 1) :
    ∀ k : Nat, k ≤ n → FK.wk b k = ((List.range k).map fun (j : Nat) => plF A s (g j) j, plF A s (g k) k, dirF s (g k) k)
  | 0, _ => by
    rw [show ((0 : Nat) : Int) = 0 from rfl, h0, h0']
    rfl
  | k + 1, hk => by
    have ih := walk_abs hs h1 h2 h3 h0 h0' k (by omega)
    have hst : FK.wk b (k + 1) = ((FK.wk b k).1 ++ [(FK.wk b k).2.1], if (k : Int) ∈ b then ((FK.wk b k).2.1, 0 - (FK.wk b k).2.2) else ((FK.wk b k).2.1 + (FK.wk b k).2.2, (FK.wk b k).2.2)) := rfl
    rw [hst, ih]
    dsimp only
    rw [List.range_succ, List.map_append]
    have key : (if (k : Int) ∈ b then (plF A s (g k) k, 0 - dirF s (g k) k) else (plF A s (g k) k + dirF s (g k) k, dirF s (g k) k)) = (plF A s (g (k + 1)) ((k + 1 : Nat) : Int), dirF s (g (k + 1)) ((k + 1 : Nat) : Int)) := by
      obtain ⟨a1, a2, a3⟩ := h1 k (by omega)
      obtain ⟨b1, b2, b3⟩ := h1 (k + 1) hk
      have hb := h3 k (by omega)
      obtain ⟨c1, c2⟩ := h2 k (by omega)
      have ek : ((k + 1 : Nat) : Int) = (k : Int) + 1 := by omega
      rw [ek] at b1 b2 ⊢
      by_cases hc : c (k + 1)
      · obtain ⟨d1, d2, d3⟩ := c1 hc
        obtain ⟨⟨p, q, e⟩, hg⟩ : ∃ z, g k = z := ⟨_, rfl⟩
        obtain ⟨⟨p', q', e'⟩, hg'⟩ : ∃ z, g (k + 1) = z := ⟨_, rfl⟩
        rw [hg, hg']
        rw [hg] at a1 a2 a3 hb d1 d3
        rw [hg'] at b1 b2 b3 d2 d3
        dsimp only at a1 a2 a3 hb d1 d2 d3 b1 b2 b3
        subst d1 d2 d3
        unfold plF dirF
        dsimp only
        rw [show min ((k : Int) + 1 - ((k : Int) + 1)) (q' - ((k : Int) + 1)) = 0 by omega, Int.mul_zero, Int.add_zero, if_pos (show 2 * ((k : Int) + 1) + 1 ≤ (k : Int) + 1 + q' by omega)]
        by_cases hk0 : p = k
        · rw [if_pos (hb.mpr (by omega)), show min ((k : Int) - p) ((k : Int) + 1 - k) = 0 by omega, Int.mul_zero, Int.add_zero, if_pos (show 2 * (k : Int) + 1 ≤ p + ((k : Int) + 1) by omega)]
          cases e <;> simp <;> omega
        · rw [if_neg (fun q => by have := hb.mp q; omega), show min ((k : Int) - p) ((k : Int) + 1 - k) = 1 by omega, Int.mul_one, if_neg (show ¬ 2 * (k : Int) + 1 ≤ p + ((k : Int) + 1) by omega)]
          cases e <;> simp <;> omega
      · have e := c2 hc
        rw [e] at b1 b2 b3 ⊢
        obtain ⟨⟨p, q, f⟩, hg⟩ : ∃ z, g k = z := ⟨_, rfl⟩
        rw [hg]
        rw [hg] at a1 a2 a3 hb b1 b2 b3
        dsimp only at a1 a2 a3 hb b1 b2 b3
        unfold plF dirF
        dsimp only
        obtain ⟨u, hu⟩ : ∃ u, (if f = true then s else -s) = u := ⟨_, rfl⟩
        have hu1 : u = 1 ∨ u = -1 := by
          rw [← hu]
          cases f <;> rcases hs with rfl | rfl <;> simp
        rw [hu]
        by_cases h4 : 2 * (k : Int) + 1 = p + q
        · rw [if_pos (hb.mpr h4), if_pos (show 2 * (k : Int) + 1 ≤ p + q by omega), if_neg (show ¬ 2 * ((k : Int) + 1) + 1 ≤ p + q by omega), show min ((k : Int) + 1 - p) (q - (k + 1)) = min ((k : Int) - p) (q - k) by omega]
          simp
        · rw [if_neg (fun z => h4 (hb.mp z))]
          by_cases h5 : 2 * (k : Int) + 1 ≤ p + q
          · rw [if_pos h5, if_pos (show 2 * ((k : Int) + 1) + 1 ≤ p + q by omega), show min ((k : Int) + 1 - p) (q - (k + 1)) = min ((k : Int) - p) (q - k) + 1 by omega, Int.mul_add, Int.mul_one, Int.add_assoc]
          · rw [if_neg h5, if_neg (show ¬ 2 * ((k : Int) + 1) + 1 ≤ p + q by omega), show min ((k : Int) + 1 - p) (q - (k + 1)) = min ((k : Int) - p) (q - k) - 1 by omega, Int.mul_sub, Int.mul_one]
            rw [show A + (u * min ((k : Int) - p) (q - k) - u) = A + u * min ((k : Int) - p) (q - k) + -u by omega]
    rw [key]
    rfl
/-! ### the list by turns, gone round -/
theorem adj_pw : ∀ {xs : List Int}, (∀ x y, Adj xs x y → x < y) → xs.Pairwise (· < ·)
  | [], _ => .nil
  | [a], _ => by simp
  | a :: b :: t, h => by
    have ih := adj_pw (xs := b :: t) fun x y q => h x y (.inr q)
    have hab := h a b (.inl ⟨rfl, rfl⟩)
    refine List.pairwise_cons.mpr ⟨fun z hz => ?_, ih⟩
    rcases List.mem_cons.mp hz with rfl | q
    · exact hab
    · have := (List.pairwise_cons.mp ih).1 z q
      omega
/-- what stands round about -/
def rndL (n : Int) (a b l : Int) (r : List Int) : List Int := a :: b :: r ++ [a + n] ++ [b + n]
theorem rndL_adj {n a b l : Int} {r : List Int} (hl : (a :: b :: r).getLast? = some l) {x y : Int} : Adj ((l - n) :: rndL n a b l r) x y ↔ (x = l - n ∧ y = a) ∨ Adj (a :: b :: r) x y ∨ (x = l ∧ y = a + n) ∨ (x = a + n ∧ y = b + n) := by
  unfold rndL
  have e : ((l - n) :: (a :: b :: r ++ [a + n] ++ [b + n])) = ((l - n) :: a :: b :: r) ++ [a + n] ++ [b + n] := by simp
  rw [e, adj_snoc, adj_snoc]
  rw [List.getLast?_concat]
  rw [List.getLast?_cons_cons, hl]
  simp only [Adj, Option.some.injEq]
  constructor
  · rintro ((h | ⟨rfl, rfl⟩) | ⟨rfl, rfl⟩)
    · rcases h with h | h
      · exact .inl h
      · exact .inr (.inl h)
    · exact .inr (.inr (.inl ⟨rfl, rfl⟩))
    · exact .inr (.inr (.inr ⟨rfl, rfl⟩))
  · rintro (h | h | ⟨rfl, rfl⟩ | ⟨rfl, rfl⟩)
    · exact .inl (.inl (.inl h))
    · exact .inl (.inl (.inr h))
    · exact .inl (.inr ⟨rfl, rfl⟩)
    · exact .inr ⟨rfl, rfl⟩
theorem seg_end : ∀ {t : List Int} {a k x y : Int} {u : List Int}, (∀ z ∈ t, z ≤ k) → k < y → (x :: t).getLast? = some a → seg x (t ++ y :: u) k = (a, y, decide (t.length % 2 = 1))
  | [], a, k, x, y, u, _, hk, hl => by
    show (if k < y then _ else _) = _
    rw [if_pos hk]
    have : x = a := by simpa using hl
    subst this
    rfl
  | b :: t, a, k, x, y, u, ht, hk, hl => by
    have hb := ht b List.mem_cons_self
    have ih := seg_end (t := t) (a := a) (k := k) (x := b) (y := y) (u := u) (fun z hz => ht z (List.mem_cons_of_mem _ hz)) hk (by rw [List.getLast?_cons_cons] at hl; exact hl)
    show (if k < b then (x, b, false) else ((seg b (t ++ y :: u) k).1, (seg b (t ++ y :: u) k).2.1, !(seg b (t ++ y :: u) k).2.2)) = _
    rw [if_neg (by omega), ih, List.length_cons]
    have : (!decide (t.length % 2 = 1)) = decide ((t.length + 1) % 2 = 1) := by
      by_cases h : t.length % 2 = 1
      · rw [decide_eq_true h, decide_eq_false (by omega)]; rfl
      · rw [decide_eq_false h, decide_eq_true (by omega)]; rfl
    rw [this]
theorem gap_last {α : Type} {z l : α} : ∀ {r : List α} {a : α}, (a :: r).getLast? = some l → (l, z) ∈ (a :: r).zip (r ++ [z])
  | [], a, h => by
    have : a = l := by simpa using h
    subst this
    simp
  | b :: r, a, h => by
    rw [List.getLast?_cons_cons] at h
    exact List.mem_cons_of_mem _ (gap_last (a := b) h)
/-- the middles of the gaps -/
def mids (n : Int) (cs : List Int) : List Int := (cs.zip (gaps n cs)).map fun x => (x.1 + x.2 / 2) % n
structure Cyc (n a b l : Int) (r : List Int) : Prop where
  n0 : 2 ≤ n
  ev : n % 2 = 0
  len : (a :: b :: r).length % 2 = 0
  la : (a :: b :: r).getLast? = some l
  rg : ∀ z ∈ a :: b :: r, 0 ≤ z ∧ z < n
  od : ∀ x y, Adj ((l - n) :: rndL n a b l r) x y → x < y ∧ (y - x) % 2 = 1 ∧ y - x < n
theorem cyc_of {n : Int} {cs : List Int} (h2 : 2 ≤ n) (he : n % 2 = 0) (t : Turn n cs) : ∃ a b l r, cs = a :: b :: r ∧ Cyc n a b l r := by
  match cs, t with
  | [], t => exact absurd rfl t.ne
  | [a], t => have := t.ev; simp at this
  | a :: b :: r, t =>
    obtain ⟨l, hl⟩ : ∃ l, (a :: b :: r).getLast? = some l := by
      cases e : (a :: b :: r).getLast? with
      | none => rw [List.getLast?_eq_none_iff] at e; cases e
      | some l => exact ⟨l, rfl⟩
    have hrg := adj_range (n := n) (fun x hx => (t.adj x hx).1) t.hd t.lt
    have hadj : ∀ x y, Adj (a :: b :: r) x y → x < y ∧ (y - x) % 2 = 1 := fun x y h => t.adj (x, y) (adj_zip.mpr h)
    have hpar := adj_par (fun x hx => (t.adj x hx).2) (show (a :: b :: r).head? = some a from rfl) hl
    have hev := t.ev
    have hal : a < l := by
      have hpw := adj_pw fun x y h => (hadj x y h).1
      have hm := List.mem_of_getLast? hl
      rcases List.mem_cons.mp hm with e | q
      · subst e
        rw [List.getLast?_cons_cons] at hl
        exact (List.pairwise_cons.mp hpw).1 l (List.mem_of_getLast? hl)
      · exact (List.pairwise_cons.mp hpw).1 l q
    have ha := hrg a (by simp)
    have hb := hrg b (by simp)
    have hll := hrg l (List.mem_of_getLast? hl)
    refine ⟨a, b, l, r, rfl, h2, he, by omega, hl, hrg, fun x y h => ?_⟩
    have hab := hadj a b (.inl ⟨rfl, rfl⟩)
    rcases (rndL_adj hl).mp h with ⟨rfl, rfl⟩ | h | ⟨rfl, rfl⟩ | ⟨rfl, rfl⟩
    · omega
    · have h1 := hrg x (adj_mem h).1
      have h2 := hrg y (adj_mem h).2
      have h3 := hadj x y h
      refine ⟨h3.1, h3.2, by omega⟩
    · omega
    · omega
section
variable {n a b l : Int} {r : List Int} (C : Cyc n a b l r)
include C
theorem Cyc.pw : ((l - n) :: rndL n a b l r).Pairwise (· < ·) := adj_pw fun x y h => (C.od x y h).1
theorem Cyc.ab : 0 ≤ a ∧ a < b ∧ b < n ∧ 0 ≤ l ∧ l < n ∧ a < l := by
  have h1 := C.rg a (by simp)
  have h2 := C.rg b (by simp)
  have hm := List.mem_of_getLast? C.la
  have h3 := C.rg l hm
  have h4 := C.od a b ((rndL_adj C.la).mpr (.inr (.inl (.inl ⟨rfl, rfl⟩))))
  have h5 := C.od (l - n) a ((rndL_adj C.la).mpr (.inl ⟨rfl, rfl⟩))
  omega
theorem Cyc.mid {x : Int × Int} (hx : x ∈ (a :: b :: r).zip (gaps n (a :: b :: r))) : (0 ≤ x.1 ∧ x.1 < n) ∧ x.2 % 2 = 1 ∧ (0 ≤ (x.1 + x.2 / 2) % n ∧ (x.1 + x.2 / 2) % n < n) ∧ ∃ X Y, Adj ((l - n) :: rndL n a b l r) X Y ∧ 2 * ((x.1 + x.2 / 2) % n) + 1 = X + Y ∧ (X = x.1 ∨ X = x.1 - n) := by
  obtain ⟨c1, c2, c3, c4, c5, c6⟩ := C.ab
  have n0 := C.n0
  have hz : ∃ v, (x.1, v) ∈ (a :: (b :: r)).zip ((b :: r) ++ [a]) ∧ x.2 = (v - x.1) % n := by
    unfold gaps at hx
    rw [List.zip_map_right] at hx
    obtain ⟨⟨u, u', v⟩, hz, e⟩ := List.mem_map.mp hx
    have hz2 : (u, u', v) ∈ (a :: b :: r).zip ((a :: b :: r).zip (b :: r ++ [a])) := hz
    obtain ⟨i, hi⟩ := List.mem_iff_getElem?.mp hz2
    rw [List.getElem?_zip_eq_some] at hi
    obtain ⟨i1, i2⟩ := hi
    rw [List.getElem?_zip_eq_some] at i2
    have huu : u = u' := Option.some.inj (i1.symm.trans i2.1)
    subst huu
    subst e
    exact ⟨v, List.mem_iff_getElem?.mpr ⟨i, List.getElem?_zip_eq_some.mpr i2⟩, rfl⟩
  obtain ⟨v, hv, e2⟩ := hz
  have m1 := Int.emod_nonneg (x.1 + x.2 / 2) (b := n) (by omega)
  have m2 := Int.emod_lt_of_pos (x.1 + x.2 / 2) (b := n) (by omega)
  rcases mem_gap hv with q | ⟨q1, q2⟩
  · have ha : Adj (a :: b :: r) x.1 v := adj_zip.mp q
    obtain ⟨o1, o2, o3⟩ := C.od x.1 v ((rndL_adj C.la).mpr (.inr (.inl ha)))
    have r1 := C.rg x.1 (adj_mem ha).1
    have r2 := C.rg v (adj_mem ha).2
    have e3 : x.2 = v - x.1 := by rw [e2]; exact Int.emod_eq_of_lt (by omega) (by omega)
    have e4 : (x.1 + x.2 / 2) % n = x.1 + x.2 / 2 := Int.emod_eq_of_lt (by omega) (by omega)
    refine ⟨r1, by omega, ⟨m1, m2⟩, x.1, v, (rndL_adj C.la).mpr (.inr (.inl ha)), by rw [e4]; omega, .inl rfl⟩
  · dsimp only at q1 q2
    have e5 : x.1 = l := Option.some.inj (q1.symm.trans C.la)
    have o := C.od (l - n) a ((rndL_adj C.la).mpr (.inl ⟨rfl, rfl⟩))
    have e3 : x.2 = a - l + n := by
      rw [e2, q2, e5]
      have h := Int.add_mul_emod_self_left (a - l) n 1
      rw [Int.mul_one] at h
      rw [← h]
      exact Int.emod_eq_of_lt (by omega) (by omega)
    by_cases hc : x.1 + x.2 / 2 < n
    · have e4 : (x.1 + x.2 / 2) % n = x.1 + x.2 / 2 := Int.emod_eq_of_lt (by omega) hc
      exact ⟨by omega, by omega, ⟨m1, m2⟩, l, a + n, (rndL_adj C.la).mpr (.inr (.inr (.inl ⟨rfl, rfl⟩))), by rw [e4]; omega, .inl e5.symm⟩
    · have e4 : (x.1 + x.2 / 2) % n = x.1 + x.2 / 2 - n := by
        have := Int.add_mul_emod_self_left (x.1 + x.2 / 2 - n) n 1
        rw [Int.mul_one, Int.sub_add_cancel] at this
        rw [this]
        exact Int.emod_eq_of_lt (by omega) (by omega)
      exact ⟨by omega, by omega, ⟨m1, m2⟩, l - n, a, (rndL_adj C.la).mpr (.inl ⟨rfl, rfl⟩), by rw [e4]; omega, .inr (by rw [e5])⟩
theorem Cyc.mid_of {k X Y : Int} (h : Adj ((l - n) :: rndL n a b l r) X Y) (h0 : 0 ≤ k) (h1 : k < n) (e : 2 * k + 1 = X + Y) : k ∈ mids n (a :: b :: r) := by
  obtain ⟨c1, c2, c3, c4, c5, c6⟩ := C.ab
  have n0 := C.n0
  have key : ∀ (u v : Int), (u, v) ∈ (a :: (b :: r)).zip ((b :: r) ++ [a]) → (u + (v - u) % n / 2) % n = k → k ∈ mids n (a :: b :: r) := by
    intro u v huv ek
    unfold mids
    refine List.mem_map.mpr ⟨(u, (v - u) % n), ?_, ek⟩
    obtain ⟨i, hi⟩ := List.mem_iff_getElem?.mp huv
    have hi2 := List.getElem?_zip_eq_some.mp hi
    refine List.mem_iff_getElem?.mpr ⟨i, List.getElem?_zip_eq_some.mpr ⟨hi2.1, ?_⟩⟩
    unfold gaps
    rw [List.getElem?_map]
    have : ((a :: b :: r).zip ((a :: b :: r).drop 1 ++ (a :: b :: r).take 1))[i]? = some (u, v) := hi
    rw [this]
    rfl
  rcases (rndL_adj C.la).mp h with ⟨rfl, rfl⟩ | h | ⟨rfl, rfl⟩ | ⟨rfl, rfl⟩
  · refine key l Y (gap_last C.la) ?_
    have h := Int.add_mul_emod_self_left (Y - l) n 1
    rw [Int.mul_one] at h
    rw [← h, Int.emod_eq_of_lt (a := Y - l + n) (by omega) (by omega)]
    have h2 := Int.add_mul_emod_self_left k n 1
    rw [show l + (Y - l + n) / 2 = k + n * 1 by omega, h2]
    exact Int.emod_eq_of_lt h0 h1
  · obtain ⟨o1, o2, o3⟩ := C.od X Y ((rndL_adj C.la).mpr (.inr (.inl h)))
    refine key X Y (gap_mem (adj_zip.mpr h)) ?_
    rw [Int.emod_eq_of_lt (a := Y - X) (by omega) (by omega), show X + (Y - X) / 2 = k by omega]
    exact Int.emod_eq_of_lt h0 h1
  · refine key X a (gap_last C.la) ?_
    have h := Int.add_mul_emod_self_left (a - X) n 1
    rw [Int.mul_one] at h
    rw [← h, Int.emod_eq_of_lt (a := a - X + n) (by omega) (by omega), show X + (a - X + n) / 2 = k by omega]
    exact Int.emod_eq_of_lt h0 h1
  · omega
theorem Cyc.mem_mids {k : Int} (h0 : 0 ≤ k) (h1 : k < n) : k ∈ mids n (a :: b :: r) ↔ 2 * k + 1 = (seg (l - n) (rndL n a b l r) k).1 + (seg (l - n) (rndL n a b l r) k).2.1 := by
  obtain ⟨c1, c2, c3, c4, c5, c6⟩ := C.ab
  constructor
  · intro h
    obtain ⟨x, hx, e⟩ := List.mem_map.mp h
    obtain ⟨_, _, _, X, Y, hA, e2, _⟩ := C.mid hx
    rw [e] at e2
    have o := C.od X Y hA
    obtain ⟨u1, u2⟩ := seg_uni (k := k) C.pw hA (by omega) (by omega)
    rw [u1, u2]
    exact e2
  · intro e
    have hb : b + n ∈ rndL n a b l r := by unfold rndL; simp
    obtain ⟨i1, i2, i3⟩ := seg_in (k := k) C.pw (by omega) ⟨b + n, hb, by omega⟩
    exact C.mid_of i3 h0 h1 e
theorem Cyc.mids_nd : (mids n (a :: b :: r)).Nodup := by
  have n0 := C.n0
  have hlen : (gaps n (a :: b :: r)).length = (a :: b :: r).length := by
    unfold gaps
    simp
  have hpw : ((a :: b :: r).zip (gaps n (a :: b :: r))).Pairwise fun x y => x.1 < y.1 := by
    rw [← List.pairwise_map (f := Prod.fst) (R := fun x y : Int => x < y), List.map_fst_zip (by omega)]
    exact adj_pw fun x y h => (C.od x y ((rndL_adj C.la).mpr (.inr (.inl h)))).1
  unfold mids List.Nodup
  rw [List.pairwise_map]
  refine List.Pairwise.imp_of_mem ?_ hpw
  intro x y hx hy hlt e
  obtain ⟨r1, _, _, X, Y, hA, e2, e3⟩ := C.mid hx
  obtain ⟨s1, _, _, X', Y', hA', e2', e3'⟩ := C.mid hy
  rw [← e] at e2'
  have o := C.od X Y hA
  have o' := C.od X' Y' hA'
  obtain ⟨u1, _⟩ := seg_uni (k := (x.1 + x.2 / 2) % n) C.pw hA (by omega) (by omega)
  obtain ⟨u1', _⟩ := seg_uni (k := (x.1 + x.2 / 2) % n) C.pw hA' (by omega) (by omega)
  rw [u1] at u1'
  omega
/-- walked by the least folding -/
theorem Cyc.walked {N : Nat} (hN : (N : Int) = n) {bs : List Int} (hb : ∀ k, k ∈ bs ↔ k ∈ mids n (a :: b :: r)) :
    (FK.wk bs N).2 = (0, 1) ∧ ∀ k : Nat, k < N → ((FK.wk bs N).1.getD k 0 = (FK.wk bs N).1.getD a.toNat 0 ↔ (k : Int) ∈ a :: b :: r) := by
  obtain ⟨c1, c2, c3, c4, c5, c6⟩ := C.ab
  have n0 := C.n0
  have hbn : b + n ∈ rndL n a b l r := by unfold rndL; simp
  obtain ⟨g, hg⟩ : ∃ g : Nat → Int × Int × Bool, g = fun (k : Nat) => seg (l - n) (rndL n a b l r) (k : Int) := ⟨_, rfl⟩
  have hgk : ∀ k, g k = seg (l - n) (rndL n a b l r) (k : Int) := fun k => by rw [hg]
  have hin : ∀ k : Nat, k ≤ N → (g k).1 ≤ k ∧ k < (g k).2.1 ∧ Adj ((l - n) :: rndL n a b l r) (g k).1 (g k).2.1 := fun k hk => by
    rw [hgk]
    exact seg_in C.pw (by omega) ⟨b + n, hbn, by omega⟩
  -- the round's end is its beginning
  have hper : g N = ((g 0).1 + n, (g 0).2.1 + n, (g 0).2.2) := by
    rw [hgk, hgk, hN]
    have hnn : ((0 : Nat) : Int) = 0 := rfl
    rw [hnn]
    by_cases ha : 0 < a
    · have e0 : seg (l - n) (rndL n a b l r) 0 = (l - n, a, false) := by
        show (if (0 : Int) < a then (l - n, a, false) else _) = _
        rw [if_pos ha]
      have e1 := seg_end (t := a :: b :: r) (a := l) (k := n) (x := l - n) (y := a + n) (u := [b + n]) (fun z hz => by have := C.rg z hz; omega) (by omega) (by rw [List.getLast?_cons_cons]; exact C.la)
      have e2 : (a :: b :: r) ++ (a + n) :: [b + n] = rndL n a b l r := by unfold rndL; simp
      rw [e2] at e1
      rw [e0, e1, decide_eq_false (by have := C.len; omega)]
      dsimp only
      rw [show l - n + n = l by omega]
    · have ha0 : a = 0 := by omega
      have e0 : seg (l - n) (rndL n a b l r) 0 = (a, b, true) := by
        show (if (0 : Int) < a then (l - n, a, false) else ((seg a (b :: r ++ [a + n] ++ [b + n]) 0).1, (seg a (b :: r ++ [a + n] ++ [b + n]) 0).2.1, !(seg a (b :: r ++ [a + n] ++ [b + n]) 0).2.2)) = _
        rw [if_neg ha]
        have : seg a (b :: r ++ [a + n] ++ [b + n]) 0 = (a, b, false) := by
          show (if (0 : Int) < b then (a, b, false) else _) = _
          rw [if_pos (by omega)]
        rw [this]
        rfl
      have e1 := seg_end (t := a :: b :: r ++ [a + n]) (a := a + n) (k := n) (x := l - n) (y := b + n) (u := []) (fun z hz => by
        rcases List.mem_append.mp hz with q | q
        · have := C.rg z q; omega
        · rw [List.mem_singleton] at q; omega) (by omega) (by rw [← List.cons_append, List.getLast?_concat])
      have e2 : (a :: b :: r ++ [a + n]) ++ (b + n) :: [] = rndL n a b l r := rfl
      rw [e2] at e1
      rw [e0, e1, decide_eq_true (by have := C.len; rw [List.length_append, List.length_singleton]; omega)]
  obtain ⟨⟨p0, q0, f0⟩, hg0⟩ : ∃ z, g 0 = z := ⟨_, rfl⟩
  have hin0 := hin 0 (Nat.zero_le _)
  rw [hg0] at hper hin0
  dsimp only at hper hin0
  obtain ⟨u0, hu0⟩ : ∃ u : Int, u = if 1 ≤ p0 + q0 then 1 else -1 := ⟨_, rfl⟩
  have hu : u0 = 1 ∨ u0 = -1 := by rw [hu0]; split <;> simp
  obtain ⟨s, hs⟩ : ∃ s : Int, s = if f0 = true then u0 else -u0 := ⟨_, rfl⟩
  have hs1 : s = 1 ∨ s = -1 := by rw [hs]; cases f0 <;> simp <;> omega
  have hsu : (if f0 = true then s else -s) = u0 := by rw [hs]; cases f0 <;> simp
  obtain ⟨A, hA⟩ : ∃ A : Int, A = -(u0 * min (-p0) q0) := ⟨_, rfl⟩
  have W := walk_abs (b := bs) (n := N) (g := g) (c := fun k => (k : Int) ∈ rndL n a b l r) (A := A) (s := s) hs1
    (fun k hk => by
      obtain ⟨i1, i2, i3⟩ := hin k hk
      exact ⟨i1, i2, (C.od _ _ i3).2.1⟩)
    (fun k hk => by
      have := seg_step (k := (k : Int)) C.pw (by omega) ⟨b + n, hbn, by omega⟩
      rw [hgk, hgk]
      exact this)
    (fun k hk => by rw [hb, hgk]; exact C.mem_mids (by omega) (by omega))
    (by
      rw [hg0]
      unfold plF
      dsimp only
      rw [hsu, show (0 : Int) - p0 = -p0 by omega, show q0 - 0 = q0 by omega, hA]
      omega)
    (by
      rw [hg0]
      unfold dirF
      dsimp only
      rw [hsu, hu0]
      by_cases h : 1 ≤ p0 + q0
      · rw [if_pos (by omega), if_pos h]
      · rw [if_neg (by omega), if_neg h]; rfl)
    N (Nat.le_refl N)
  have hz : ∀ k : Nat, k < N → (plF A s (g k) k = A ↔ (k : Int) ∈ a :: b :: r) := by
    intro k hk
    obtain ⟨i1, i2, i3⟩ := hin k (by omega)
    have e1 : plF A s (g k) k = A ↔ (k : Int) = (g k).1 := by
      unfold plF
      have : (if (g k).2.2 = true then s else -s) = 1 ∨ (if (g k).2.2 = true then s else -s) = -1 := by
        cases (g k).2.2 <;> rcases hs1 with h | h <;> simp [h]
      rcases this with h | h <;> rw [h] <;> omega
    rw [e1]
    constructor
    · intro e
      rcases (rndL_adj C.la).mp i3 with ⟨h1, h2⟩ | h | ⟨h1, h2⟩ | ⟨h1, h2⟩
      · omega
      · rw [e]; exact (adj_mem h).1
      · rw [e, h1]; exact List.mem_of_getLast? C.la
      · omega
    · intro hm
      have : ∃ y, Adj ((l - n) :: rndL n a b l r) k y := by
        rcases adj_next hm with ⟨y, h⟩ | h
        · exact ⟨y, (rndL_adj C.la).mpr (.inr (.inl h))⟩
        · exact ⟨a + n, (rndL_adj C.la).mpr (.inr (.inr (.inl ⟨Option.some.inj (h.symm.trans C.la), rfl⟩)))⟩
      obtain ⟨y, h⟩ := this
      have o := C.od _ _ h
      have := seg_uni (k := (k : Int)) C.pw h (by omega) (by omega)
      rw [hgk, this.1]
  rw [W]
  have hget : ∀ k : Nat, k < N → ((List.range N).map fun (j : Nat) => plF A s (g j) j).getD k 0 = plF A s (g k) k := fun k hk => by
    rw [List.getD_eq_getElem?_getD, List.getElem?_map, List.getElem?_range hk]
    rfl
  refine ⟨?_, fun k hk => ?_⟩
  · dsimp only
    rw [hper, hN]
    refine Prod.ext ?_ ?_
    · show plF A s (p0 + n, q0 + n, f0) n = 0
      unfold plF
      dsimp only
      rw [hsu, show n - (p0 + n) = -p0 by omega, show q0 + n - n = q0 by omega, hA]
      omega
    · show dirF s (p0 + n, q0 + n, f0) n = 1
      unfold dirF
      dsimp only
      rw [hsu, hu0]
      by_cases h : 1 ≤ p0 + q0
      · rw [if_pos (by omega), if_pos h]
      · rw [if_neg (by omega), if_neg h]; rfl
  · dsimp only
    rw [hget k hk, hget a.toNat (by omega), (hz a.toNat (by omega)).mpr (by rw [Int.toNat_of_nonneg c1]; simp)]
    exact hz k hk
end
/-- of a list by turns -/
theorem least_ok {n : Nat} {cs bs : List Int} (h2 : 2 ≤ n) (he : n % 2 = 0) (t : Turn (n : Int) cs) (hp : bs.Perm (mids n cs)) (hs : bs.Pairwise (· ≤ ·)) :
    (bs.Pairwise (· < ·) ∧ (∀ x ∈ bs, 0 ≤ x ∧ x < n)) ∧ (FK.wk bs n).2 = (0, 1) ∧ ∀ k : Nat, k < n → ((FK.wk bs n).1.getD k 0 = (FK.wk bs n).1.getD (cs.getD 0 0).toNat 0 ↔ (k : Int) ∈ cs) := by
  obtain ⟨a, b, l, r, rfl, C⟩ := cyc_of (by omega) (by omega) t
  have hnd := hp.nodup_iff.mpr C.mids_nd
  refine ⟨⟨?_, fun x hx => ?_⟩, C.walked rfl fun k => hp.mem_iff⟩
  · refine (List.pairwise_and_iff.mpr ⟨hs, hnd⟩).imp ?_
    rintro x y ⟨h1, h3⟩
    have h3 : x ≠ y := h3
    omega
  · obtain ⟨z, hz, e⟩ := List.mem_map.mp (hp.mem_iff.mp hx)
    have := (C.mid hz).2.2.1
    rw [e] at this
    exact this
theorem mids_alt {n : Nat} {cs : List Int} (h2 : 2 ≤ n) (he : n % 2 = 0) (t : Turn (n : Int) cs) : ((cs.zip (gaps (n : Int) cs)).map fun x => (x.1 + (x.2 - 1) / 2) % (n : Int)) = mids (n : Int) cs := by
  obtain ⟨a, b, l, r, rfl, C⟩ := cyc_of (by omega) (by omega) t
  unfold mids
  refine List.map_congr_left fun x hx => ?_
  have := (C.mid hx).2.1
  rw [show (x.2 - 1) / 2 = x.2 / 2 by omega]
end FR

/-! FR7: no plan has fewer punches than the greatest stand; the greatest arc. -/
namespace FR
open PL PySem FW
/-! ### one list's walk -/
def sgn (c : Int) : Int := if c % 2 = 0 then 1 else -1
def alt : List Int → Int → Int
  | [], _ => 0
  | c :: t, v => (if c < v then sgn c else 0) + alt t v
theorem alt_none : ∀ {r : List Int} {v : Int}, (∀ c ∈ r, v ≤ c) → alt r v = 0
  | [], _, _ => rfl
  | c :: t, v, h => by
    have h1 := h c List.mem_cons_self
    rw [alt, if_neg (by omega), alt_none fun d hd => h d (List.mem_cons_of_mem _ hd)]
    rfl
theorem alt_in : ∀ {r : List Int} {v h : Int}, (∀ x y, Adj r x y → x < y ∧ (y - x) % 2 = 1) → r.head? = some h → alt r v = 0 ∨ alt r v = sgn h
  | [], _, _, _, e => by cases e
  | [c], v, h, _, e => by
    have e : c = h := Option.some.inj e
    subst e
    unfold alt alt
    split
    · right; omega
    · left; rfl
  | c :: d :: t, v, h, ha, e => by
    have e : c = h := Option.some.inj e
    subst e
    have hcd := ha c d (.inl ⟨rfl, rfl⟩)
    have ih := alt_in (r := d :: t) (v := v) (h := d) (fun x y q => ha x y (.inr q)) rfl
    have hs : sgn d = -sgn c := by
      unfold sgn
      split <;> split <;> omega
    by_cases hv : c < v
    · rw [alt, if_pos hv]
      omega
    · have hp := adj_pw (xs := c :: d :: t) fun x y q => (ha x y q).1
      left
      refine alt_none fun x hx => ?_
      rcases List.mem_cons.mp hx with rfl | q
      · omega
      · have := (List.pairwise_cons.mp hp).1 x q
        omega
theorem alt_all : ∀ {r : List Int} {v : Int}, (∀ x y, Adj r x y → x < y ∧ (y - x) % 2 = 1) → (∀ c ∈ r, c < v) → (r.length % 2 = 0 → alt r v = 0) ∧ (r.length % 2 = 1 → ∀ h, r.head? = some h → alt r v = sgn h)
  | [], v, _, _ => ⟨fun _ => rfl, fun h => by simp at h⟩
  | [c], v, _, hv => ⟨fun h => by simp at h, fun _ h e => by
    have e : c = h := Option.some.inj e
    subst e
    rw [alt, if_pos (hv c List.mem_cons_self)]
    show sgn c + 0 = _
    omega⟩
  | c :: d :: t, v, ha, hv => by
    obtain ⟨i1, i2⟩ := alt_all (r := d :: t) (v := v) (fun x y q => ha x y (.inr q)) fun x hx => hv x (List.mem_cons_of_mem _ hx)
    have hcd := ha c d (.inl ⟨rfl, rfl⟩)
    have hs : sgn d = -sgn c := by
      unfold sgn
      split <;> split <;> omega
    have hc := hv c List.mem_cons_self
    have e0 : alt (c :: d :: t) v = sgn c + alt (d :: t) v := by rw [alt, if_pos hc]
    simp only [List.length_cons] at i1 i2 ⊢
    refine ⟨fun h => ?_, fun h k e => ?_⟩
    · rw [e0, i2 (by omega) d rfl, hs]
      omega
    · have e : c = k := Option.some.inj e
      subst e
      rw [e0, i1 (by omega)]
      omega
theorem alt_step : ∀ (r : List Int) (v : Int), alt r (v + 1) = alt r v + sgn v * ((r.countP fun k => decide (k = v) : Nat) : Int)
  | [], v => by simp [alt]
  | c :: t, v => by
    rw [alt, alt, alt_step t v, List.countP_cons]
    by_cases h : c = v
    · subst h
      rw [if_pos (by omega), if_neg (by omega), decide_eq_true rfl, if_pos rfl]
      rw [Int.natCast_add, Int.mul_add]
      simp
      omega
    · rw [decide_eq_false h]
      by_cases h2 : c < v
      · rw [if_pos (by omega), if_pos h2]
        simp
        omega
      · rw [if_neg (by omega), if_neg h2]
        simp
/-- the walk that a list is -/
def bse (r : List Int) : Int := match r.head? with
  | some h => if h % 2 = 0 then 0 else 1
  | none => 0
def wlk (r : List Int) (v : Int) : Int := bse r + alt r v
theorem turn_adj {n : Int} {r : List Int} (t : Turn n r) : ∀ x y, Adj r x y → x < y ∧ (y - x) % 2 = 1 := fun x y h => t.adj (x, y) (adj_zip.mpr h)
theorem turn_rg {n : Int} {r : List Int} (t : Turn n r) : ∀ c ∈ r, 0 ≤ c ∧ c < n := adj_range (fun x hx => (t.adj x hx).1) t.hd t.lt
theorem wlk_01 {n : Int} {r : List Int} (t : Turn n r) (v : Int) : 0 ≤ wlk r v ∧ wlk r v ≤ 1 := by
  obtain ⟨h, hh⟩ : ∃ h, r.head? = some h := by
    cases e : r with
    | nil => exact absurd e t.ne
    | cons a t => exact ⟨a, rfl⟩
  have := alt_in (v := v) (turn_adj t) hh
  unfold wlk bse
  rw [hh]
  dsimp only
  unfold sgn at this
  split <;> rename_i hc <;> simp [hc] at this <;> omega
theorem wlk_round {n : Int} {r : List Int} (t : Turn n r) : wlk r n = wlk r 0 := by
  have hr := turn_rg t
  have h1 := (alt_all (v := n) (turn_adj t) fun c hc => (hr c hc).2).1 (by have := t.ev; omega)
  have h2 : alt r 0 = 0 := alt_none fun c hc => (hr c hc).1
  unfold wlk
  rw [h1, h2]
/-- all lists' walks together -/
def wlks (P : List (List Int)) (v : Int) : Int := (P.map fun r => wlk r v).sum
theorem wlks_rg {n : Int} : ∀ {P : List (List Int)}, (∀ r ∈ P, Turn n r) → ∀ v, 0 ≤ wlks P v ∧ wlks P v ≤ P.length
  | [], _, v => ⟨Int.le_refl _, Int.le_refl _⟩
  | r :: P, h, v => by
    have h1 := wlk_01 (h r List.mem_cons_self) v
    have h2 := wlks_rg (P := P) (fun s hs => h s (List.mem_cons_of_mem _ hs)) v
    unfold wlks at h2 ⊢
    rw [List.map_cons, List.sum_cons, List.length_cons]
    omega
theorem wlks_round {n : Int} : ∀ {P : List (List Int)}, (∀ r ∈ P, Turn n r) → wlks P n = wlks P 0
  | [], _ => rfl
  | r :: P, h => by
    have h1 := wlk_round (h r List.mem_cons_self)
    have h2 := wlks_round (P := P) fun s hs => h s (List.mem_cons_of_mem _ hs)
    unfold wlks at h2 ⊢
    rw [List.map_cons, List.sum_cons, List.map_cons, List.sum_cons, h1, h2]
theorem wlks_step (v : Nat) : ∀ (P : List (List Int)), wlks P ((v : Int) + 1) = wlks P v + sgn v * cntL P.flatten v
  | [] => by simp [wlks, cntL]
  | r :: P => by
    have h2 := wlks_step v P
    have e : cntL (r :: P).flatten v = cntL r v + cntL P.flatten v := by rw [List.flatten_cons, cntL_app]
    have h3 := alt_step r v
    rw [e, Int.mul_add]
    unfold wlks at h2 ⊢
    rw [List.map_cons, List.sum_cons, List.map_cons, List.sum_cons, h2]
    unfold wlk
    rw [h3]
    unfold cntL
    omega
theorem plan_cell {st : Strip} {ws : List Int} {P : List (List Int)} (hp : isPlanB st ws P = true) {i : Nat} {x : Bool × Int} (hx : st[i]? = some x) : loC ws i ≤ cntL P.flatten i ∧ cntL P.flatten i ≤ brC ws i x := by
  unfold isPlanB at hp
  rw [Bool.and_eq_true] at hp
  have h2 := List.all_eq_true.mp hp.2 (cellB ws P.flatten i x) (List.mem_iff_getElem?.mpr ⟨i, by rw [List.getElem?_mapIdx, hx]; rfl⟩)
  unfold cellB at h2
  simp at h2
  exact h2
theorem plan_turn {st : Strip} {ws : List Int} {P : List (List Int)} (h : RW st ws) (hp : isPlanB st ws P = true) : ∀ r ∈ P, Turn (st.length : Int) r := by
  intro r hr
  unfold isPlanB at hp
  rw [Bool.and_eq_true] at hp
  have := List.all_eq_true.mp hp.1 r hr
  have n2 := h.n2
  have n200 := h.n200
  have ev := h.ev
  exact (canB_iff (by omega) (by omega) (by omega)).mp this
theorem plan_feas {st : Strip} {ws : List Int} {P : List (List Int)} (h : RW st ws) (hp : isPlanB st ws P = true) : Feas st.length (loS (stepsF st ws)) (hiS (stepsF st ws)) (fun c => wlks P (c : Int)) := by
  have ht := plan_turn h hp
  have n2 := h.n2
  have key : ∀ c, c < st.length → wlks P (((c + 1) % st.length : Nat) : Int) = wlks P c + sgn c * cntL P.flatten c := by
    intro c hc
    rw [← wlks_step]
    by_cases e : c + 1 < st.length
    · rw [Nat.mod_eq_of_lt e]
      rfl
    · have e2 : c + 1 = st.length := by omega
      rw [e2, Nat.mod_self]
      have := wlks_round ht
      rw [← e2] at this
      exact this.symm
  refine ⟨fun c hc => ?_, fun c hc => ?_⟩ <;> {
    obtain ⟨x, hx⟩ : ∃ x, st[c]? = some x := ⟨_, List.getElem?_eq_getElem hc⟩
    obtain ⟨b1, b2⟩ := plan_cell hp hx
    rw [key c hc]
    try unfold loS
    try unfold hiS
    rw [stepsF_at hx]
    unfold stepC sgn
    by_cases hc2 : (c : Int) % 2 = 0
    · rw [if_pos hc2, if_pos hc2]
      dsimp only
      omega
    · rw [if_neg hc2, if_neg hc2]
      dsimp only
      omega }
theorem plan_free {st : Strip} {ws : List Int} {P : List (List Int)} (h : RW st ws) (hp : isPlanB st ws P = true) : Free st ws := by
  have hF := plan_feas h hp
  have n2 := h.n2
  refine ⟨?_, ?_, ?_⟩
  · unfold trn
    rw [List.filter_eq_nil_iff]
    intro w hw hd
    have hd := of_decide_eq_true hd
    obtain ⟨x, hx, e⟩ := Option.map_eq_some_iff.mp hd
    obtain ⟨b1, b2⟩ := plan_cell hp hx
    have hww : ((w.toNat : Nat) : Int) = w := Int.toNat_of_nonneg (h.w.ok w hw).1
    unfold loC at b1
    unfold brC at b2
    rw [hww, if_pos hw] at b1
    rw [hww, if_pos (.inl hw), e] at b2
    omega
  · have := rs_take (ss := stepsF st ws) (g := (·.1)) _ (Nat.le_refl _)
    rw [List.take_length] at this
    have e : worthsF (stepsF st ws) 0 = (stepsF st ws).map (·.1) := by unfold worthsF; simp
    rw [e, ← this, stepsF_len]
    have := feas_up hF (by omega) 0 st.length
    rw [Nat.zero_add, Nat.mod_self, Nat.zero_mod] at this
    unfold loS at this
    omega
  · have := rs_take (ss := stepsF st ws) (g := fun s => -s.2) _ (Nat.le_refl _)
    rw [List.take_length] at this
    have e : worthsF (stepsF st ws) 1 = (stepsF st ws).map (fun s => -s.2) := by unfold worthsF; simp
    rw [e, ← this, stepsF_len]
    have := feas_dn hF (by omega) 0 st.length
    rw [Nat.zero_add, Nat.mod_self, Nat.zero_mod] at this
    unfold hiS at this
    omega
theorem plan_least {st : Strip} {ws : List Int} {P : List (List Int)} (h : RW st ws) (hp : isPlanB st ws P = true) : maxL (stL st ws) ≤ P.length := by
  have hF := plan_feas h hp
  have ht := plan_turn h hp
  have n2 := h.n2
  have hm : maxL (stL st ws) ∈ stL st ws := maxL_mem (fun e => by have := congrArg List.length e; simp [stL] at this; rw [this] at n2; simp at n2)
  obtain ⟨v, hv, e⟩ := List.mem_map.mp hm
  rw [← e]
  have := stP_least hF (by omega) (fun c _ => (wlks_rg ht c).1) (List.mem_range.mp hv)
  exact Int.le_trans this (wlks_rg ht v).2
/-! ### the greatest arc -/
/-- the worth of an arc -/
def arcW (ss : List (Int × Int)) (p : Nat) (first many : Nat) : Int := rs ss.length (fun i => if p = 0 then (ss.getD i (0, 0)).1 else 0 - (ss.getD i (0, 0)).2) first many
def arcsL (ss : List (Int × Int)) : List Int := ((List.range ss.length).map fun f => ((List.range (ss.length - 1)).map fun m => [arcW ss 0 f (m + 1), arcW ss 1 f (m + 1)]).flatten).flatten
theorem arcsL_mem {ss : List (Int × Int)} {x : Int} : x ∈ arcsL ss ↔ ∃ f m, f < ss.length ∧ m + 1 < ss.length ∧ (x = arcW ss 0 f (m + 1) ∨ x = arcW ss 1 f (m + 1)) := by
  unfold arcsL
  simp only [List.mem_flatten, List.mem_map, List.mem_range]
  constructor
  · rintro ⟨l, ⟨f, hf, rfl⟩, hx⟩
    obtain ⟨l2, hl2, hx2⟩ := List.mem_flatten.mp hx
    obtain ⟨m, hm, rfl⟩ := List.mem_map.mp hl2
    have := List.mem_range.mp hm
    simp at hx2
    exact ⟨f, m, hf, by omega, hx2⟩
  · rintro ⟨f, m, hf, hm, h⟩
    refine ⟨_, ⟨f, hf, rfl⟩, List.mem_flatten.mpr ⟨_, List.mem_map.mpr ⟨m, List.mem_range.mpr (by omega), rfl⟩, ?_⟩⟩
    simp
    exact h
theorem arcs_max {st : Strip} {ws : List Int} (h : RW st ws) (hf : Free st ws) (hw : ws ≠ []) : maxL (arcsL (stepsF st ws)) = maxL (stL st ws) := by
  have n2 := h.n2
  have hlen : (stepsF st ws).length = st.length := stepsF_len
  have hne : stL st ws ≠ [] := fun e => by have := congrArg List.length e; simp [stL] at this; rw [this] at n2; simp at n2
  have hup : ∀ x ∈ arcsL (stepsF st ws), x ≤ maxL (stL st ws) := by
    intro x hx
    obtain ⟨f, m, h1, h2, h3⟩ := arcsL_mem.mp hx
    rw [hlen] at h1 h2
    rcases h3 with rfl | rfl
    · refine Int.le_trans ?_ (maxL_ge (x := stF st ws ((f + (m + 1)) % st.length)) (List.mem_map.mpr ⟨_, List.mem_range.mpr (Nat.mod_lt _ (by omega)), rfl⟩))
      have := stP_up (n := st.length) (lo := loS (stepsF st ws)) (hi := hiS (stepsF st ws)) (a := f) (k := m + 1) h2 ((f + (m + 1)) % st.length) rfl (Nat.mod_lt _ (by omega))
      unfold arcW
      rw [hlen]
      exact this
    · refine Int.le_trans ?_ (maxL_ge (x := stF st ws f) (List.mem_map.mpr ⟨_, List.mem_range.mpr h1, rfl⟩))
      have := stP_dn (n := st.length) (lo := loS (stepsF st ws)) (hi := hiS (stepsF st ws)) (v := f) (k := m + 1) h2
      unfold arcW
      rw [hlen]
      have e : (fun i => if 1 = 0 then ((stepsF st ws).getD i (0, 0)).1 else 0 - ((stepsF st ws).getD i (0, 0)).2) = fun c => -hiS (stepsF st ws) c := by
        funext i
        unfold hiS
        simp
      rw [e]
      exact this
  -- a wished cell alone is worth one
  obtain ⟨w, hwm⟩ : ∃ w, w ∈ ws := List.exists_mem_of_ne_nil ws hw
  have hwl := h.w.lt hwm
  have hww : ((w.toNat : Nat) : Int) = w := Int.toNat_of_nonneg (h.w.ok w hwm).1
  obtain ⟨x, hx⟩ : ∃ x, st[w.toNat]? = some x := ⟨_, List.getElem?_eq_getElem hwl⟩
  have hone : ∃ y ∈ arcsL (stepsF st ws), 1 ≤ y := by
    have l1 : loC ws w.toNat = 1 := by unfold loC; rw [hww, if_pos hwm]
    by_cases hp : (w.toNat : Int) % 2 = 0
    · refine ⟨_, arcsL_mem.mpr ⟨w.toNat, 0, by rw [hlen]; exact hwl, by rw [hlen]; omega, .inl rfl⟩, ?_⟩
      unfold arcW rs rs
      rw [hlen, Nat.add_zero, Nat.mod_eq_of_lt hwl, stepsF_at hx]
      unfold stepC
      rw [if_pos hp, if_pos rfl]
      dsimp only
      omega
    · refine ⟨_, arcsL_mem.mpr ⟨w.toNat, 0, by rw [hlen]; exact hwl, by rw [hlen]; omega, .inr rfl⟩, ?_⟩
      unfold arcW rs rs
      rw [hlen, Nat.add_zero, Nat.mod_eq_of_lt hwl, stepsF_at hx]
      unfold stepC
      rw [if_neg hp, if_neg (by decide)]
      dsimp only
      omega
  obtain ⟨y, hy, hy1⟩ := hone
  have hne2 : arcsL (stepsF st ws) ≠ [] := List.ne_nil_of_mem hy
  refine Int.le_antisymm (hup _ (maxL_mem hne2)) ?_
  obtain ⟨v, hv, e⟩ := List.mem_map.mp (maxL_mem hne)
  have hv := List.mem_range.mp hv
  rw [← e]
  have hyM := hup y hy
  rw [← e] at hyM
  have hpos : 1 ≤ stF st ws v := by omega
  have e1 : (fun i => if 1 = 0 then ((stepsF st ws).getD i (0, 0)).1 else 0 - ((stepsF st ws).getD i (0, 0)).2) = fun c => -hiS (stepsF st ws) c := by
    funext i
    unfold hiS
    simp
  rcases stP_or (n := st.length) (lo := loS (stepsF st ws)) (hi := hiS (stepsF st ws)) (v := v) (by omega) with ⟨k, hk, e2⟩ | ⟨k, hk, e2⟩
  · cases k with
    | zero =>
      have e3 : stF st ws v = 0 := e2
      rw [e3] at hpos
      omega
    | succ m =>
      refine maxL_ge (arcsL_mem.mpr ⟨v, m, by rw [hlen]; exact hv, by rw [hlen]; exact hk, .inr ?_⟩)
      unfold arcW
      rw [hlen, e1]
      exact e2
  · cases k with
    | zero =>
      have e3 : stF st ws v = 0 := e2
      rw [e3] at hpos
      omega
    | succ m =>
      refine maxL_ge (arcsL_mem.mpr ⟨(v + st.length - (m + 1)) % st.length, m, by rw [hlen]; exact Nat.mod_lt _ (by omega), by rw [hlen]; exact hk, .inl ?_⟩)
      unfold arcW
      rw [hlen, rs_mod]
      exact e2
/-- nothing wished, nothing punched -/
theorem max_none {st : Strip} (h : RW st []) : maxL (stL st []) = 0 := by
  have n2 := h.n2
  have hne : stL st [] ≠ [] := fun e => by have := congrArg List.length e; simp [stL] at this; rw [this] at n2; simp at n2
  have hp : isPlanB st [] [] = true := by
    unfold isPlanB
    rw [Bool.and_eq_true]
    refine ⟨rfl, ?_⟩
    rw [List.all_eq_true]
    intro b hb
    obtain ⟨i, hi⟩ := List.mem_iff_getElem?.mp hb
    rw [List.getElem?_mapIdx] at hi
    obtain ⟨x, hx, rfl⟩ := Option.map_eq_some_iff.mp hi
    have hl := h.l x (List.mem_of_getElem? hx)
    unfold cellB loC brC cntL
    simp
    split <;> simp [hl]
  have h1 := plan_least h hp
  obtain ⟨v, hv, e⟩ := List.mem_map.mp (maxL_mem hne)
  have h5 : 0 ≤ stF st [] v := stP_nn (n := st.length) (lo := loS (stepsF st [])) (hi := hiS (stepsF st [])) v
  rw [e] at h5
  exact Int.le_antisymm h1 h5
end FR

/-! FS1: strips: what lies at one place; how few punches; punches that make counts. -/
namespace FS
open PL PySem FW FR
/-- a list that one punch of a strip may have -/
structure Alt (r : List Int) : Prop where
  ne : r ≠ []
  adj : ∀ x y, Adj r x y → x < y ∧ (y - x) % 2 = 1
/-! ### cells at one place -/
def plc (b : List Int) (k : Nat) : Int := (FK.wk b k).2.1
def way (b : List Int) (k : Nat) : Int := (FK.wk b k).2.2
theorem plc_step (b : List Int) (k : Nat) : plc b (k + 1) = if (k : Int) ∈ b then plc b k else plc b k + way b k := by
  unfold plc way
  show (if (k : Int) ∈ b then ((FK.wk b k).2.1, 0 - (FK.wk b k).2.2) else ((FK.wk b k).2.1 + (FK.wk b k).2.2, (FK.wk b k).2.2)).1 = _
  split <;> rfl
theorem way_step (b : List Int) (k : Nat) : way b (k + 1) = if (k : Int) ∈ b then 0 - way b k else way b k := by
  unfold way
  show (if (k : Int) ∈ b then ((FK.wk b k).2.1, 0 - (FK.wk b k).2.2) else ((FK.wk b k).2.1 + (FK.wk b k).2.2, (FK.wk b k).2.2)).2 = _
  split <;> rfl
theorem way_pm (b : List Int) : ∀ k, way b k = 1 ∨ way b k = -1
  | 0 => .inl rfl
  | k + 1 => by
    rw [way_step]
    have := way_pm b k
    split <;> omega
theorem plc_spots (b : List Int) : ∀ n, (FK.wk b n).1 = (List.range n).map (plc b)
  | 0 => rfl
  | n + 1 => by
    show (FK.wk b n).1 ++ [(FK.wk b n).2.1] = _
    rw [plc_spots b n, List.range_succ, List.map_append]
    rfl
/-- gone from one cell on, till the place is come to again -/
theorem gone {b : List Int} {i : Nat} (h0 : (i : Int) ∉ b) : ∀ (m : Nat), (∀ k, i < k → k < i + 1 + m → plc b k ≠ plc b i) → 
    ∃ d : Int, plc b (i + 1 + m) = plc b i + way b i * d ∧ 0 ≤ d ∧ (way b (i + 1 + m) = way b i ∨ way b (i + 1 + m) = -way b i) ∧ ((1 + m : Int) - d) % 2 = (if way b (i + 1 + m) = way b i then 0 else 1) ∧ (d = 0 → way b (i + 1 + m) ≠ way b i ∧ 1 ≤ m)
  | 0, _ => by
    refine ⟨1, ?_, by decide, ?_, ?_, fun h => by omega⟩
    · rw [Nat.add_zero, plc_step, if_neg h0]; omega
    · rw [Nat.add_zero, way_step, if_neg h0]; exact .inl rfl
    · rw [Nat.add_zero, way_step, if_neg h0, if_pos rfl]; rfl
  | m + 1, hk => by
    obtain ⟨d, e1, d0, e2, e3, e4⟩ := gone h0 m fun k h1 h2 => hk k h1 (by omega)
    have hne := hk (i + 1 + m) (by omega) (by omega)
    have hd : 1 ≤ d := by
      have : d ≠ 0 := fun h => hne (by rw [e1, h]; omega)
      omega
    have hw := way_pm b i
    have es : i + 1 + (m + 1) = (i + 1 + m) + 1 := by omega
    rw [es, plc_step, way_step, e1]
    by_cases hc : ((i + 1 + m : Nat) : Int) ∈ b
    · rw [if_pos hc, if_pos hc]
      refine ⟨d, rfl, d0, by omega, ?_, fun h => by omega⟩
      rcases e2 with e2 | e2
      · rw [e2] at e3 ⊢
        rw [if_pos rfl] at e3
        rw [if_neg (by omega)]
        push_cast
        omega
      · rw [e2] at e3 ⊢
        rw [if_neg (by omega)] at e3
        rw [if_pos (by omega)]
        push_cast
        omega
    · rw [if_neg hc, if_neg hc]
      rcases e2 with e2 | e2
      · rw [e2] at e3 ⊢
        rw [if_pos rfl] at e3
        refine ⟨d + 1, ?_, by omega, .inl rfl, ?_, fun h => by omega⟩
        · rw [Int.mul_add, Int.mul_one]; omega
        · rw [if_pos rfl]; push_cast; omega
      · rw [e2] at e3 ⊢
        rw [if_neg (by omega)] at e3
        refine ⟨d - 1, ?_, by omega, .inr rfl, ?_, fun h => ⟨by omega, by omega⟩⟩
        · rw [Int.mul_sub, Int.mul_one]; omega
        · rw [if_neg (by omega)]; push_cast; omega
theorem back_odd {b : List Int} {i j : Nat} (hij : i < j) (e : plc b j = plc b i) (h : ∀ k, i < k → k < j → plc b k ≠ plc b i) : (j - i) % 2 = 1 := by
  by_cases h0 : (i : Int) ∈ b
  · have e1 : plc b (i + 1) = plc b i := by rw [plc_step, if_pos h0]
    have : j = i + 1 := by
      refine Decidable.byContradiction fun hn => ?_
      exact h (i + 1) (by omega) (by omega) e1
    omega
  · obtain ⟨m, rfl⟩ : ∃ m, j = i + 1 + m := ⟨j - i - 1, by omega⟩
    obtain ⟨d, e1, d0, e2, e3, e4⟩ := gone h0 m h
    have hw := way_pm b i
    have hd : d = 0 := by
      rw [e] at e1
      rcases hw with q | q <;> rw [q] at e1 <;> omega
    obtain ⟨e5, e6⟩ := e4 hd
    rw [if_neg e5, hd] at e3
    omega
theorem filt_last {p : Nat → Bool} : ∀ {n x : Nat}, ((List.range n).filter p).getLast? = some x → x < n ∧ p x = true ∧ ∀ k, x < k → k < n → p k = false
  | 0, x, h => by simp at h
  | n + 1, x, h => by
    rw [List.range_succ, List.filter_append] at h
    by_cases hp : p n = true
    · rw [List.filter_cons_of_pos hp, List.filter_nil, List.getLast?_concat] at h
      cases h
      exact ⟨by omega, hp, fun k h1 h2 => by omega⟩
    · rw [List.filter_cons_of_neg hp, List.filter_nil, List.append_nil] at h
      obtain ⟨h1, h2, h3⟩ := filt_last h
      refine ⟨by omega, h2, fun k k1 k2 => ?_⟩
      by_cases e : k = n
      · subst e; simpa using hp
      · exact h3 k k1 (by omega)
theorem filt_adj {p : Nat → Bool} : ∀ {n : Nat} {x y : Int}, Adj (((List.range n).filter p).map fun (k : Nat) => (k : Int)) x y → ∃ i j : Nat, x = i ∧ y = j ∧ i < j ∧ p i = true ∧ p j = true ∧ ∀ k, i < k → k < j → p k = false
  | 0, x, y, h => by cases h
  | n + 1, x, y, h => by
    rw [List.range_succ, List.filter_append, List.map_append] at h
    by_cases hp : p n = true
    · rw [List.filter_cons_of_pos hp, List.filter_nil, List.map_cons, List.map_nil] at h
      rcases adj_snoc.mp h with h | ⟨h1, h2⟩
      · exact filt_adj h
      · rw [List.getLast?_map] at h1
        obtain ⟨i, hi, e⟩ := Option.map_eq_some_iff.mp h1
        obtain ⟨a1, a2, a3⟩ := filt_last hi
        exact ⟨i, n, e.symm, h2, a1, a2, hp, a3⟩
    · rw [List.filter_cons_of_neg hp, List.filter_nil, List.map_nil, List.append_nil] at h
      exact filt_adj h
/-- the cells at a place of a strip -/
def atP (b : List Int) (n : Nat) (s : Int) : List Int := ((List.range n).filter fun k => decide (plc b k = s)).map fun (k : Nat) => (k : Int)
theorem atP_alt {b : List Int} {n : Nat} {s : Int} (h : atP b n s ≠ []) : Alt (atP b n s) := by
  refine ⟨h, fun x y hA => ?_⟩
  obtain ⟨i, j, rfl, rfl, hij, hi, hj, hk⟩ := filt_adj hA
  have e1 := of_decide_eq_true hi
  have e2 := of_decide_eq_true hj
  have := back_odd (b := b) hij (e2.trans e1.symm) fun k h1 h2 => by
    have := of_decide_eq_false (hk k h1 h2)
    rw [e1]
    exact this
  omega
theorem atP_rg {b : List Int} {n : Nat} {s : Int} : ∀ c ∈ atP b n s, 0 ≤ c ∧ c < n := by
  intro c hc
  obtain ⟨k, hk, rfl⟩ := List.mem_map.mp hc
  have := List.mem_range.mp (List.mem_filter.mp hk).1
  omega
/-! ### stands -/
/-- the stand ahead of a cell -/
def stS (cs : List Int) : Nat → Int
  | 0 => 0
  | k + 1 => stS cs k + sgn k * cs.getD k 0
def stsL (cs : List Int) : List Int := (List.range (cs.length + 1)).map (stS cs)
/-- punches that make counts -/
def Makes (n : Nat) (P : List (List Int)) (cs : List Int) : Prop := cs = pn n P.flatten ∧ ∀ r ∈ P, Alt r ∧ ∀ c ∈ r, 0 ≤ c ∧ c < n
def alts (P : List (List Int)) (v : Int) : Int := (P.map fun r => alt r v).sum
theorem alts_step (v : Nat) : ∀ (P : List (List Int)), alts P ((v : Int) + 1) = alts P v + sgn v * cntL P.flatten v
  | [] => by simp [alts, cntL]
  | r :: P => by
    have h2 := alts_step v P
    have e : cntL (r :: P).flatten v = cntL r v + cntL P.flatten v := by rw [List.flatten_cons, cntL_app]
    have h3 := alt_step r v
    rw [e, Int.mul_add]
    unfold alts at h2 ⊢
    rw [List.map_cons, List.sum_cons, List.map_cons, List.sum_cons, h2, h3]
    unfold cntL
    omega
theorem alts_zero : ∀ {P : List (List Int)}, (∀ r ∈ P, ∀ c ∈ r, 0 ≤ c) → alts P 0 = 0
  | [], _ => rfl
  | r :: P, h => by
    have h1 := alt_none (v := 0) (h r List.mem_cons_self)
    have h2 := alts_zero (P := P) fun s hs => h s (List.mem_cons_of_mem _ hs)
    unfold alts at h2 ⊢
    rw [List.map_cons, List.sum_cons, h1, h2]
    rfl
theorem makes_stS {n : Nat} {P : List (List Int)} {cs : List Int} (h : Makes n P cs) : ∀ v : Nat, v ≤ n → stS cs v = alts P v
  | 0, _ => (alts_zero fun r hr c hc => ((h.2 r hr).2 c hc).1).symm
  | v + 1, hv => by
    rw [stS, makes_stS h v (by omega), h.1, pn_getD (by omega), Int.natCast_succ, alts_step]
where pn_getD {n : Nat} {l : List Int} {i : Nat} (h : i < n) : (pn n l).getD i 0 = cntL l i := by rw [List.getD_eq_getElem?_getD, pn_at h]; rfl
theorem alts_rg : ∀ {P : List (List Int)}, (∀ r ∈ P, Alt r) → ∃ a : Int, ∀ v, a ≤ alts P v ∧ alts P v ≤ a + P.length
  | [], _ => ⟨0, fun v => ⟨Int.le_refl _, Int.le_refl _⟩⟩
  | r :: P, h => by
    obtain ⟨a, ha⟩ := alts_rg (P := P) fun s hs => h s (List.mem_cons_of_mem _ hs)
    obtain ⟨hne, hadj⟩ := h r List.mem_cons_self
    obtain ⟨x, hx⟩ : ∃ x, r.head? = some x := by
      cases e : r with
      | nil => exact absurd e hne
      | cons a t => exact ⟨a, rfl⟩
    refine ⟨a + (if sgn x = 1 then 0 else -1), fun v => ?_⟩
    have h1 := alt_in (v := v) hadj hx
    have h2 := ha v
    have e : alts (r :: P) v = alt r v + alts P v := by unfold alts; rw [List.map_cons, List.sum_cons]
    rw [e, List.length_cons]
    have hs : sgn x = 1 ∨ sgn x = -1 := by unfold sgn; split <;> simp
    rcases hs with q | q
    · rw [if_pos q]; omega
    · rw [if_neg (by omega)]; omega
theorem stsL_ne (cs : List Int) : stsL cs ≠ [] := fun e => by have := congrArg List.length e; simp [stsL] at this
theorem few_le {P : List (List Int)} {cs : List Int} (h : Makes cs.length P cs) : maxL (stsL cs) - minL (stsL cs) ≤ P.length := by
  obtain ⟨a, ha⟩ := alts_rg fun r hr => (h.2 r hr).1
  have m1 : maxL (stsL cs) ∈ stsL cs := PL.maxL_mem (stsL_ne cs)
  have m2 : minL (stsL cs) ∈ stsL cs := PL.minL_mem (stsL_ne cs)
  obtain ⟨A, hA⟩ : ∃ A, maxL (stsL cs) = A := ⟨_, rfl⟩
  obtain ⟨B, hB⟩ : ∃ B, minL (stsL cs) = B := ⟨_, rfl⟩
  rw [hA] at m1
  rw [hB] at m2
  rw [hA, hB]
  obtain ⟨u, hu, e1⟩ := List.mem_map.mp m1
  obtain ⟨v, hv, e2⟩ := List.mem_map.mp m2
  have hu := List.mem_range.mp hu
  have hv := List.mem_range.mp hv
  rw [makes_stS h u (by omega)] at e1
  rw [makes_stS h v (by omega)] at e2
  have h1 := ha u
  have h2 := ha v
  omega
/-! ### punches that make counts, level by level -/
/-- the cells crossed at a level, of the first k -/
def lvR (cs : List Int) (lo : Int) (k L : Nat) : List Int := ((List.range k).filter fun c => decide (min (stS cs c) (stS cs (c + 1)) ≤ lo + L) && decide (lo + L < max (stS cs c) (stS cs (c + 1)))).map fun (c : Nat) => (c : Int)
def lvls (cs : List Int) (k : Nat) : List (List Int) := (List.range (maxL (stsL cs) - minL (stsL cs)).toNat).map (lvR cs (minL (stsL cs)) k)
theorem stS_step {cs : List Int} (h : ∀ c ∈ cs, 0 ≤ c) (k : Nat) : (k % 2 = 0 → stS cs k ≤ stS cs (k + 1)) ∧ (k % 2 = 1 → stS cs (k + 1) ≤ stS cs k) := by
  have h0 : 0 ≤ cs.getD k 0 := by
    rw [List.getD_eq_getElem?_getD]
    cases e : cs[k]? with
    | none => exact Int.le_refl 0
    | some c => exact h c (List.mem_of_getElem? e)
  rw [stS]
  unfold sgn
  refine ⟨fun e => ?_, fun e => ?_⟩
  · rw [if_pos (by omega)]; omega
  · rw [if_neg (by omega)]; omega
theorem lvR_chg {cs : List Int} (lo : Int) (k L : Nat) : lvR cs lo k L = (chg (fun v => decide (lo + L < stS cs v)) k).map fun (c : Nat) => (c : Int) := by
  unfold lvR chg
  congr 1
  refine List.filter_congr fun c _ => ?_
  show (decide (min (stS cs c) (stS cs (c + 1)) ≤ lo + L) && decide (lo + (L : Int) < max (stS cs c) (stS cs (c + 1)))) = (decide (lo + (L : Int) < stS cs c) != decide (lo + (L : Int) < stS cs (c + 1)))
  by_cases h1 : lo + (L : Int) < stS cs c <;> by_cases h2 : lo + (L : Int) < stS cs (c + 1)
  · rw [decide_eq_true h1, decide_eq_true h2, decide_eq_false (show ¬ min (stS cs c) (stS cs (c + 1)) ≤ lo + L by omega)]; rfl
  · rw [decide_eq_true h1, decide_eq_false h2, decide_eq_true (show min (stS cs c) (stS cs (c + 1)) ≤ lo + L by omega), decide_eq_true (show lo + L < max (stS cs c) (stS cs (c + 1)) by omega)]; rfl
  · rw [decide_eq_false h1, decide_eq_true h2, decide_eq_true (show min (stS cs c) (stS cs (c + 1)) ≤ lo + L by omega), decide_eq_true (show lo + L < max (stS cs c) (stS cs (c + 1)) by omega)]; rfl
  · rw [decide_eq_false h1, decide_eq_false h2, decide_eq_false (show ¬ lo + L < max (stS cs c) (stS cs (c + 1)) by omega)]
    cases decide (min (stS cs c) (stS cs (c + 1)) ≤ lo + L) <;> rfl
theorem lvls_alt {cs : List Int} (h : ∀ c ∈ cs, 0 ≤ c) : ∀ r ∈ lvls cs cs.length, Alt r ∧ ∀ c ∈ r, 0 ≤ c ∧ c < cs.length := by
  intro r hr
  obtain ⟨L, hL, rfl⟩ := List.mem_map.mp hr
  have hL := List.mem_range.mp hL
  obtain ⟨lo, hlo⟩ : ∃ lo, minL (stsL cs) = lo := ⟨_, rfl⟩
  have m1 : maxL (stsL cs) ∈ stsL cs := PL.maxL_mem (stsL_ne cs)
  have m2 : minL (stsL cs) ∈ stsL cs := PL.minL_mem (stsL_ne cs)
  obtain ⟨A, hA⟩ : ∃ A, maxL (stsL cs) = A := ⟨_, rfl⟩
  rw [hA] at m1 hL
  rw [hlo] at m2 hL ⊢
  obtain ⟨u, hu, e1⟩ := List.mem_map.mp m1
  obtain ⟨v, hv, e2⟩ := List.mem_map.mp m2
  have hu := List.mem_range.mp hu
  have hv := List.mem_range.mp hv
  rw [lvR_chg]
  obtain ⟨b, hb⟩ : ∃ b : Nat → Bool, (fun v => decide (lo + (L : Int) < stS cs v)) = b := ⟨_, rfl⟩
  have hbv : ∀ v, b v = decide (lo + (L : Int) < stS cs v) := fun v => by rw [← hb]
  have hups : Ups b cs.length := fun c hc => by
    have := stS_step h c
    rw [hbv, hbv]
    refine ⟨fun e q => ?_, fun e q => ?_⟩
    · have := this.1 e
      simp only [decide_eq_true_eq] at q ⊢
      omega
    · have := this.2 e
      simp only [decide_eq_true_eq] at q ⊢
      omega
  rw [hb]
  have I := chg_inv hups cs.length (Nat.le_refl _)
  have b1 : b u = true := by rw [hbv, decide_eq_true_eq]; omega
  have b2 : b v = false := by rw [hbv, decide_eq_false_iff_not]; omega
  refine ⟨⟨fun e => ?_, fun x y hxy => ?_⟩, fun c hc => ?_⟩
  · have e := List.map_eq_nil_iff.mp e
    have q1 := chg_mono e u (by omega)
    have q2 := chg_mono e v (by omega)
    rw [b1] at q1
    rw [b2, ← q1] at q2
    cases q2
  · have hz := adj_zip.mpr hxy
    rw [← List.map_drop, List.zip_map] at hz
    obtain ⟨z, hz, e⟩ := List.mem_map.mp hz
    obtain ⟨a1, a2⟩ := I.adj z hz
    have e1 : ((z.1 : Nat) : Int) = x := congrArg Prod.fst e
    have e2 : ((z.2 : Nat) : Int) = y := congrArg Prod.snd e
    omega
  · obtain ⟨k, hk, rfl⟩ := List.mem_map.mp hc
    have := I.lt k hk
    omega
theorem lvls_cnt {cs : List Int} (h : ∀ c ∈ cs, 0 ≤ c) {i : Nat} (hi : i < cs.length) : cntL (lvls cs cs.length).flatten i = cs.getD i 0 := by
  obtain ⟨lo, hlo⟩ : ∃ lo, minL (stsL cs) = lo := ⟨_, rfl⟩
  obtain ⟨A, hA⟩ : ∃ A, maxL (stsL cs) = A := ⟨_, rfl⟩
  have b1 : ∀ v, v ≤ cs.length → lo ≤ stS cs v ∧ stS cs v ≤ A := fun v hv => by
    have hm : stS cs v ∈ stsL cs := List.mem_map.mpr ⟨v, List.mem_range.mpr (by omega), rfl⟩
    rw [← hlo, ← hA]
    exact ⟨PL.minL_le hm, PL.maxL_ge hm⟩
  have h1 := b1 i (by omega)
  have h2 := b1 (i + 1) (by omega)
  unfold lvls
  rw [hlo, hA]
  rw [cnt_levels (a := min (stS cs i) (stS cs (i + 1)) - lo) (b := max (stS cs i) (stS cs (i + 1)) - lo) (by omega) (by omega) fun L => ?_]
  · have hs := stS_step h i
    have h0 : 0 ≤ cs.getD i 0 := by
      rw [List.getD_eq_getElem?_getD, List.getElem?_eq_getElem hi]
      exact h _ (List.getElem_mem hi)
    have e : stS cs (i + 1) = stS cs i + sgn i * cs.getD i 0 := rfl
    unfold sgn at e
    by_cases hp : (i : Int) % 2 = 0
    · rw [if_pos hp] at e; omega
    · rw [if_neg hp] at e; omega
  · unfold lvR
    rw [cnt_row]
    by_cases hc : min (stS cs i) (stS cs (i + 1)) ≤ lo + L ∧ lo + L < max (stS cs i) (stS cs (i + 1))
    · rw [if_pos ⟨hi, by simp [hc.1, hc.2]⟩, if_pos (by omega)]
    · rw [if_neg (fun q => hc (by simpa using q.2)), if_neg (by omega)]
theorem lvls_makes {cs : List Int} (h : ∀ c ∈ cs, 0 ≤ c) : Makes cs.length (lvls cs cs.length) cs := by
  refine ⟨?_, lvls_alt h⟩
  apply List.ext_getElem?
  intro i
  by_cases hi : i < cs.length
  · rw [pn_at hi, lvls_cnt h hi, List.getD_eq_getElem?_getD, List.getElem?_eq_getElem hi]
    rfl
  · rw [List.getElem?_eq_none (by omega), List.getElem?_eq_none (by rw [pn_len]; omega)]
theorem lvls_len (cs : List Int) (k : Nat) : (lvls cs k).length = (maxL (stsL cs) - minL (stsL cs)).toNat := by simp [lvls]
/-! ### parted -/
/-- the lists parted into more -/
def prt : Int → List (List Int) → List (List Int)
  | _, [] => []
  | m, r :: t => (r.take (min m (r.length - 1 : Int)).toNat).map (fun c => [c]) ++ [r.drop (min m (r.length - 1 : Int)).toNat] ++ prt (m - min m (r.length - 1)) t
theorem drop_adj : ∀ {xs : List Int} {x y : Int} (m : Nat), Adj (xs.drop m) x y → Adj xs x y
  | xs, x, y, 0, h => h
  | [], x, y, m + 1, h => h
  | [a], x, y, m + 1, h => by simp [Adj] at h
  | a :: b :: t, x, y, m + 1, h => .inr (drop_adj (xs := b :: t) m h)
theorem prt_alt {n : Nat} : ∀ {P : List (List Int)} (m : Int), (∀ r ∈ P, Alt r ∧ ∀ c ∈ r, 0 ≤ c ∧ c < n) → ∀ r ∈ prt m P, Alt r ∧ ∀ c ∈ r, 0 ≤ c ∧ c < n
  | [], m, h, r, hr => by cases hr
  | q :: P, m, h, r, hr => by
    obtain ⟨⟨hne, hadj⟩, hrg⟩ := h q List.mem_cons_self
    have hql : 0 < q.length := List.length_pos_iff.mpr hne
    rw [prt] at hr
    rcases List.mem_append.mp hr with hr | hr
    · rcases List.mem_append.mp hr with hr | hr
      · obtain ⟨c, hc, rfl⟩ := List.mem_map.mp hr
        exact ⟨⟨by simp, fun x y h => by cases h⟩, fun d hd => by rw [List.mem_singleton] at hd; subst hd; exact hrg d (List.mem_of_mem_take hc)⟩
      · rw [List.mem_singleton] at hr
        subst hr
        refine ⟨⟨fun e => ?_, fun x y h => hadj x y (drop_adj _ h)⟩, fun c hc => hrg c (List.mem_of_mem_drop hc)⟩
        have := congrArg List.length e
        rw [List.length_drop, List.length_nil] at this
        omega
    · exact prt_alt _ (fun r hr => h r (List.mem_cons_of_mem _ hr)) r hr
theorem prt_flat : ∀ (P : List (List Int)) (m : Int), (prt m P).flatten = P.flatten
  | [], _ => rfl
  | q :: P, m => by
    rw [prt, List.flatten_append, List.flatten_append, prt_flat P, List.flatten_cons]
    have : ∀ l : List Int, (l.map fun c => [c]).flatten = l := fun l => by induction l with
      | nil => rfl
      | cons a t ih => simp [ih]
    rw [this]
    simp
theorem prt_len : ∀ (P : List (List Int)) (m : Int), (∀ r ∈ P, r ≠ []) → 0 ≤ m → m ≤ P.flatten.length - P.length → ((prt m P).length : Int) = P.length + m
  | [], m, _, h0, h1 => by
    simp at h1
    simp [prt]
    omega
  | q :: P, m, h, h0, h1 => by
    have hq : 0 < q.length := List.length_pos_iff.mpr (h q List.mem_cons_self)
    rw [List.flatten_cons, List.length_append, List.length_cons] at h1
    have hp : P.length ≤ P.flatten.length := by
      have : ∀ (P : List (List Int)), (∀ r ∈ P, r ≠ []) → P.length ≤ P.flatten.length := fun P => by
        induction P with
        | nil => intro _; exact Nat.le_refl 0
        | cons a t ih =>
          intro h
          have h1 := ih fun r hr => h r (List.mem_cons_of_mem _ hr)
          have h2 : 0 < a.length := List.length_pos_iff.mpr (h a List.mem_cons_self)
          rw [List.flatten_cons, List.length_append, List.length_cons]
          omega
      exact this P fun r hr => h r (List.mem_cons_of_mem _ hr)
    have ih := prt_len P (m - min m (q.length - 1)) (fun r hr => h r (List.mem_cons_of_mem _ hr)) (by omega) (by push_cast at h1; omega)
    rw [prt, List.length_append, List.length_append, List.length_map, List.length_take, List.length_singleton, List.length_cons]
    push_cast
    rw [ih]
    omega
theorem prt_makes {n : Nat} {P : List (List Int)} {cs : List Int} (m : Int) (h : Makes n P cs) : Makes n (prt m P) cs := ⟨by rw [prt_flat]; exact h.1, prt_alt m h.2⟩
end FS

namespace TX
open PySem PySem.Spec L2 PL
open PyProof.Rows (envOfC)

def topS (i : Nat) : Stmt := PySem.Challenge.pw_pleatpunch_k98_whole_seen_at_a_paper.main.body.getD i (.Pass ⟨0, 0, 0, 0⟩)
abbrev s_wall : Stmt := topS 0
theorem sc_wall : FnScope ["k"] ["k"] (defScope s_wall) := ⟨rfl, rfl, rfl, by decide +kernel, rfl, by decide +kernel, by decide +kernel⟩
abbrev s_stands : Stmt := topS 2
theorem sc_stands : FnScope ["counts", "found", "cell", "count"] ["counts"] (defScope s_stands) := ⟨rfl, rfl, rfl, by decide +kernel, rfl, by decide +kernel, by decide +kernel⟩
abbrev s_fewest_seen : Stmt := topS 3
theorem sc_fewest_seen : FnScope ["counts", "there"] ["counts"] (defScope s_fewest_seen) := ⟨rfl, rfl, rfl, by decide +kernel, rfl, by decide +kernel, by decide +kernel⟩
abbrev s_by_levels : Stmt := topS 4
theorem sc_by_levels : FnScope ["counts", "there", "least", "found", "cell", "one", "other", "level"] ["counts"] (defScope s_by_levels) := ⟨rfl, rfl, rfl, by decide +kernel, rfl, by decide +kernel, by decide +kernel⟩
abbrev s_made : Stmt := topS 5
theorem sc_made : FnScope ["counts", "many", "found", "more", "cells", "cut", "cell"] ["counts", "many"] (defScope s_made) := ⟨rfl, rfl, rfl, by decide +kernel, rfl, by decide +kernel, by decide +kernel⟩
abbrev s_is_rising : Stmt := topS 14
theorem sc_is_rising : FnScope ["numbers", "one", "other"] ["numbers"] (defScope s_is_rising) := ⟨rfl, rfl, rfl, by decide +kernel, rfl, by decide +kernel, by decide +kernel⟩
abbrev s_is_folding : Stmt := topS 15
theorem sc_is_folding : FnScope ["many", "folds", "crease"] ["many", "folds"] (defScope s_is_folding) := ⟨rfl, rfl, rfl, by decide +kernel, rfl, by decide +kernel, by decide +kernel⟩
abbrev s_laid : Stmt := topS 16
theorem sc_laid : FnScope ["many", "folds", "found", "step", "cell"] ["many", "folds"] (defScope s_laid) := ⟨rfl, rfl, rfl, by decide +kernel, rfl, by decide +kernel, by decide +kernel⟩
abbrev s_places : Stmt := topS 17
theorem sc_places : FnScope ["many", "folds"] ["many", "folds"] (defScope s_places) := ⟨rfl, rfl, rfl, by decide +kernel, rfl, by decide +kernel, by decide +kernel⟩
abbrev s_cells_at : Stmt := topS 18
theorem sc_cells_at : FnScope ["many", "folds", "place", "cell", "here"] ["many", "folds", "place"] (defScope s_cells_at) := ⟨rfl, rfl, rfl, by decide +kernel, rfl, by decide +kernel, by decide +kernel⟩
abbrev s_need_wish : Stmt := topS 20
theorem sc_need_wish : FnScope ["strip", "wish", "ahead", "cell"] ["strip", "wish"] (defScope s_need_wish) := ⟨rfl, rfl, rfl, by decide +kernel, rfl, by decide +kernel, by decide +kernel⟩
abbrev s_torn_ones : Stmt := topS 21
theorem sc_torn_ones : FnScope ["strip", "wish", "cell"] ["strip", "wish"] (defScope s_torn_ones) := ⟨rfl, rfl, rfl, by decide +kernel, rfl, by decide +kernel, by decide +kernel⟩
abbrev s_bearings : Stmt := topS 22
theorem sc_bearings : FnScope ["strip", "wish", "found", "cell", "holed", "left"] ["strip", "wish"] (defScope s_bearings) := ⟨rfl, rfl, rfl, by decide +kernel, rfl, by decide +kernel, by decide +kernel⟩
abbrev s_weights : Stmt := topS 23
theorem sc_weights : FnScope ["strip", "wish", "parity", "found", "cell", "most"] ["strip", "wish", "parity"] (defScope s_weights) := ⟨rfl, rfl, rfl, by decide +kernel, rfl, by decide +kernel, by decide +kernel⟩
abbrev s_greatest_sum : Stmt := topS 24
theorem sc_greatest_sum : FnScope ["numbers", "best", "here", "number"] ["numbers"] (defScope s_greatest_sum) := ⟨rfl, rfl, rfl, by decide +kernel, rfl, by decide +kernel, by decide +kernel⟩
abbrev s_fewest : Stmt := topS 25
theorem sc_fewest : FnScope ["strip", "wish", "parity"] ["strip", "wish"] (defScope s_fewest) := ⟨rfl, rfl, rfl, by decide +kernel, rfl, by decide +kernel, by decide +kernel⟩
abbrev s_law_bag : Stmt := topS 30
theorem sc_law_bag : FnScope ["script", "stir", "cell"] ["script"] (defScope s_law_bag) := ⟨rfl, rfl, rfl, by decide +kernel, rfl, by decide +kernel, by decide +kernel⟩
abbrev s_law_stirred : Stmt := topS 31
theorem sc_law_stirred : FnScope ["bag", "wide", "found", "k"] ["bag", "wide"] (defScope s_law_stirred) := ⟨rfl, rfl, rfl, by decide +kernel, rfl, by decide +kernel, by decide +kernel⟩
abbrev s_law_draw : Stmt := topS 32
theorem sc_law_draw : FnScope ["bag", "wide", "found"] ["bag", "wide"] (defScope s_law_draw) := ⟨rfl, rfl, rfl, by decide +kernel, rfl, by decide +kernel, by decide +kernel⟩
abbrev s_law_alike : Stmt := topS 33
theorem sc_law_alike : FnScope ["found", "due", "k"] ["found", "due"] (defScope s_law_alike) := ⟨rfl, rfl, rfl, by decide +kernel, rfl, by decide +kernel, by decide +kernel⟩
abbrev s_law_list_right : Stmt := topS 34
theorem sc_law_list_right : FnScope ["cells", "k"] ["cells"] (defScope s_law_list_right) := ⟨rfl, rfl, rfl, by decide +kernel, rfl, by decide +kernel, by decide +kernel⟩
abbrev s_law_places : Stmt := topS 35
theorem sc_law_places : FnScope ["size", "folds", "found", "way", "k"] ["size", "folds"] (defScope s_law_places) := ⟨rfl, rfl, rfl, by decide +kernel, rfl, by decide +kernel, by decide +kernel⟩
abbrev s_law_punched : Stmt := topS 36
theorem sc_law_punched : FnScope ["bag", "sheet", "size", "part", "folds", "spots", "spot", "cells", "strip", "k"] ["bag", "sheet", "size", "part"] (defScope s_law_punched) := ⟨rfl, rfl, rfl, by decide +kernel, rfl, by decide +kernel, by decide +kernel⟩
abbrev s_law_made_right : Stmt := topS 37
theorem sc_law_made_right : FnScope ["counts", "amount", "told", "found", "cells", "k"] ["counts", "amount"] (defScope s_law_made_right) := ⟨rfl, rfl, rfl, by decide +kernel, rfl, by decide +kernel, by decide +kernel⟩
abbrev s_law : Stmt := topS 38
theorem sc_law : FnScope ["script", "bag", "size", "passes", "sheet", "counts", "done", "kept", "back", "turn", "cells", "at", "low", "high", "k", "one", "amount"] ["script"] (defScope s_law) := ⟨rfl, rfl, rfl, by decide +kernel, rfl, by decide +kernel, by decide +kernel⟩
abbrev s_Torn_init : Stmt := inClass (topS 11) 0
theorem sc_Torn_init : FnScope ["self", "cell"] ["self", "cell"] (defScope s_Torn_init) := ⟨rfl, rfl, rfl, by decide +kernel, rfl, by decide +kernel, by decide +kernel⟩
abbrev s_Paper_init : Stmt := inClass (topS 28) 0
theorem sc_Paper_init : FnScope ["self", "many", "left"] ["self", "many", "left"] (defScope s_Paper_init) := ⟨rfl, rfl, rfl, by decide +kernel, rfl, by decide +kernel, by decide +kernel⟩
abbrev s_Paper_hit : Stmt := inClass (topS 28) 1
theorem sc_Paper_hit : FnScope ["self", "cells", "cell"] ["self", "cells"] (defScope s_Paper_hit) := ⟨rfl, rfl, rfl, by decide +kernel, rfl, by decide +kernel, by decide +kernel⟩
abbrev s_Paper_punch : Stmt := inClass (topS 28) 2
theorem sc_Paper_punch : FnScope ["self", "folds", "place", "found", "worn", "cell"] ["self", "folds", "place"] (defScope s_Paper_punch) := ⟨rfl, rfl, rfl, by decide +kernel, rfl, by decide +kernel, by decide +kernel⟩
abbrev s_Paper_patch : Stmt := inClass (topS 28) 3
theorem sc_Paper_patch : FnScope ["self", "cell"] ["self", "cell"] (defScope s_Paper_patch) := ⟨rfl, rfl, rfl, by decide +kernel, rfl, by decide +kernel, by decide +kernel⟩
abbrev s_Paper_do : Stmt := inClass (topS 28) 4
theorem sc_Paper_do : FnScope ["self", "wish"] ["self", "wish"] (defScope s_Paper_do) := ⟨rfl, rfl, rfl, by decide +kernel, rfl, by decide +kernel, by decide +kernel⟩
abbrev s_Paper_mark : Stmt := inClass (topS 28) 5
theorem sc_Paper_mark : FnScope ["self"] ["self"] (defScope s_Paper_mark) := ⟨rfl, rfl, rfl, by decide +kernel, rfl, by decide +kernel, by decide +kernel⟩
abbrev s_Paper_undo : Stmt := inClass (topS 28) 6
theorem sc_Paper_undo : FnScope ["self", "mark"] ["self", "mark"] (defScope s_Paper_undo) := ⟨rfl, rfl, rfl, by decide +kernel, rfl, by decide +kernel, by decide +kernel⟩
abbrev s_Paper_strip : Stmt := inClass (topS 28) 7
theorem sc_Paper_strip : FnScope ["self"] ["self"] (defScope s_Paper_strip) := ⟨rfl, rfl, rfl, by decide +kernel, rfl, by decide +kernel, by decide +kernel⟩
abbrev s_Paper_fewest : Stmt := inClass (topS 28) 8
theorem sc_Paper_fewest : FnScope ["self", "wish"] ["self", "wish"] (defScope s_Paper_fewest) := ⟨rfl, rfl, rfl, by decide +kernel, rfl, by decide +kernel, by decide +kernel⟩
abbrev s_Paper_counts : Stmt := inClass (topS 28) 9
theorem sc_Paper_counts : FnScope ["self"] ["self"] (defScope s_Paper_counts) := ⟨rfl, rfl, rfl, by decide +kernel, rfl, by decide +kernel, by decide +kernel⟩
structure Txt (K : PySem.W.Frag) (mg : Str → Option Value) where
  f_wall : Addr
  fd_wall : FuncData
  F_wall : Fun K "_wall" "_wall" s_wall f_wall fd_wall
  b_wall : Binds K fd_wall ["k"] []
  g_wall : mg "_wall" = some (.ref f_wall)
  f_stands : Addr
  fd_stands : FuncData
  F_stands : Fun K "stands" "stands" s_stands f_stands fd_stands
  b_stands : Binds K fd_stands ["counts"] []
  g_stands : mg "stands" = some (.ref f_stands)
  f_fewest_seen : Addr
  fd_fewest_seen : FuncData
  F_fewest_seen : Fun K "fewest_seen" "fewest_seen" s_fewest_seen f_fewest_seen fd_fewest_seen
  b_fewest_seen : Binds K fd_fewest_seen ["counts"] []
  g_fewest_seen : mg "fewest_seen" = some (.ref f_fewest_seen)
  f_by_levels : Addr
  fd_by_levels : FuncData
  F_by_levels : Fun K "by_levels" "by_levels" s_by_levels f_by_levels fd_by_levels
  b_by_levels : Binds K fd_by_levels ["counts"] []
  g_by_levels : mg "by_levels" = some (.ref f_by_levels)
  f_made : Addr
  fd_made : FuncData
  F_made : Fun K "made" "made" s_made f_made fd_made
  b_made : Binds K fd_made ["counts", "many"] []
  g_made : mg "made" = some (.ref f_made)
  f_is_rising : Addr
  fd_is_rising : FuncData
  F_is_rising : Fun K "is_rising" "is_rising" s_is_rising f_is_rising fd_is_rising
  b_is_rising : Binds K fd_is_rising ["numbers"] []
  g_is_rising : mg "is_rising" = some (.ref f_is_rising)
  f_is_folding : Addr
  fd_is_folding : FuncData
  F_is_folding : Fun K "is_folding" "is_folding" s_is_folding f_is_folding fd_is_folding
  b_is_folding : Binds K fd_is_folding ["many", "folds"] []
  g_is_folding : mg "is_folding" = some (.ref f_is_folding)
  f_laid : Addr
  fd_laid : FuncData
  F_laid : Fun K "laid" "laid" s_laid f_laid fd_laid
  b_laid : Binds K fd_laid ["many", "folds"] []
  g_laid : mg "laid" = some (.ref f_laid)
  f_places : Addr
  fd_places : FuncData
  F_places : Fun K "places" "places" s_places f_places fd_places
  b_places : Binds K fd_places ["many", "folds"] []
  g_places : mg "places" = some (.ref f_places)
  f_cells_at : Addr
  fd_cells_at : FuncData
  F_cells_at : Fun K "cells_at" "cells_at" s_cells_at f_cells_at fd_cells_at
  b_cells_at : Binds K fd_cells_at ["many", "folds", "place"] []
  g_cells_at : mg "cells_at" = some (.ref f_cells_at)
  f_need_wish : Addr
  fd_need_wish : FuncData
  F_need_wish : Fun K "need_wish" "need_wish" s_need_wish f_need_wish fd_need_wish
  b_need_wish : Binds K fd_need_wish ["strip", "wish"] []
  g_need_wish : mg "need_wish" = some (.ref f_need_wish)
  f_torn_ones : Addr
  fd_torn_ones : FuncData
  F_torn_ones : Fun K "torn_ones" "torn_ones" s_torn_ones f_torn_ones fd_torn_ones
  b_torn_ones : Binds K fd_torn_ones ["strip", "wish"] []
  g_torn_ones : mg "torn_ones" = some (.ref f_torn_ones)
  f_bearings : Addr
  fd_bearings : FuncData
  F_bearings : Fun K "bearings" "bearings" s_bearings f_bearings fd_bearings
  b_bearings : Binds K fd_bearings ["strip", "wish"] []
  g_bearings : mg "bearings" = some (.ref f_bearings)
  f_weights : Addr
  fd_weights : FuncData
  F_weights : Fun K "weights" "weights" s_weights f_weights fd_weights
  b_weights : Binds K fd_weights ["strip", "wish", "parity"] []
  g_weights : mg "weights" = some (.ref f_weights)
  f_greatest_sum : Addr
  fd_greatest_sum : FuncData
  F_greatest_sum : Fun K "greatest_sum" "greatest_sum" s_greatest_sum f_greatest_sum fd_greatest_sum
  b_greatest_sum : Binds K fd_greatest_sum ["numbers"] []
  g_greatest_sum : mg "greatest_sum" = some (.ref f_greatest_sum)
  f_fewest : Addr
  fd_fewest : FuncData
  F_fewest : Fun K "fewest" "fewest" s_fewest f_fewest fd_fewest
  b_fewest : Binds K fd_fewest ["strip", "wish"] []
  g_fewest : mg "fewest" = some (.ref f_fewest)
  f_law_bag : Addr
  fd_law_bag : FuncData
  F_law_bag : Fun K "_law_bag" "_law_bag" s_law_bag f_law_bag fd_law_bag
  b_law_bag : Binds K fd_law_bag ["script"] []
  g_law_bag : mg "_law_bag" = some (.ref f_law_bag)
  f_law_stirred : Addr
  fd_law_stirred : FuncData
  F_law_stirred : Fun K "_law_stirred" "_law_stirred" s_law_stirred f_law_stirred fd_law_stirred
  b_law_stirred : Binds K fd_law_stirred ["bag", "wide"] []
  g_law_stirred : mg "_law_stirred" = some (.ref f_law_stirred)
  f_law_draw : Addr
  fd_law_draw : FuncData
  F_law_draw : Fun K "_law_draw" "_law_draw" s_law_draw f_law_draw fd_law_draw
  b_law_draw : Binds K fd_law_draw ["bag", "wide"] []
  g_law_draw : mg "_law_draw" = some (.ref f_law_draw)
  f_law_alike : Addr
  fd_law_alike : FuncData
  F_law_alike : Fun K "_law_alike" "_law_alike" s_law_alike f_law_alike fd_law_alike
  b_law_alike : Binds K fd_law_alike ["found", "due"] []
  g_law_alike : mg "_law_alike" = some (.ref f_law_alike)
  f_law_list_right : Addr
  fd_law_list_right : FuncData
  F_law_list_right : Fun K "_law_list_right" "_law_list_right" s_law_list_right f_law_list_right fd_law_list_right
  b_law_list_right : Binds K fd_law_list_right ["cells"] []
  g_law_list_right : mg "_law_list_right" = some (.ref f_law_list_right)
  f_law_places : Addr
  fd_law_places : FuncData
  F_law_places : Fun K "_law_places" "_law_places" s_law_places f_law_places fd_law_places
  b_law_places : Binds K fd_law_places ["size", "folds"] []
  g_law_places : mg "_law_places" = some (.ref f_law_places)
  f_law_punched : Addr
  fd_law_punched : FuncData
  F_law_punched : Fun K "_law_punched" "_law_punched" s_law_punched f_law_punched fd_law_punched
  b_law_punched : Binds K fd_law_punched ["bag", "sheet", "size", "part"] []
  g_law_punched : mg "_law_punched" = some (.ref f_law_punched)
  f_law_made_right : Addr
  fd_law_made_right : FuncData
  F_law_made_right : Fun K "_law_made_right" "_law_made_right" s_law_made_right f_law_made_right fd_law_made_right
  b_law_made_right : Binds K fd_law_made_right ["counts", "amount"] []
  g_law_made_right : mg "_law_made_right" = some (.ref f_law_made_right)
  f_law : Addr
  fd_law : FuncData
  F_law : Fun K "law" "law" s_law f_law fd_law
  b_law : Binds K fd_law ["script"] []
  g_law : mg "law" = some (.ref f_law)
  C_Paper : Addr
  g_Paper : mg "Paper" = some (.ref C_Paper)
  cl_Paper : Cls K C_Paper
  f_Paper_init : Addr
  fd_Paper_init : FuncData
  F_Paper_init : Fun K "__init__" "Paper.__init__" s_Paper_init f_Paper_init fd_Paper_init
  b_Paper_init : Binds K fd_Paper_init ["self", "many", "left"] []
  mk_Paper : Mk K C_Paper f_Paper_init
  f_Paper_hit : Addr
  fd_Paper_hit : FuncData
  F_Paper_hit : Fun K "hit" "Paper.hit" s_Paper_hit f_Paper_hit fd_Paper_hit
  b_Paper_hit : Binds K fd_Paper_hit ["self", "cells"] []
  m_Paper_hit : Meth K C_Paper "hit" f_Paper_hit
  f_Paper_punch : Addr
  fd_Paper_punch : FuncData
  F_Paper_punch : Fun K "punch" "Paper.punch" s_Paper_punch f_Paper_punch fd_Paper_punch
  b_Paper_punch : Binds K fd_Paper_punch ["self", "folds", "place"] []
  m_Paper_punch : Meth K C_Paper "punch" f_Paper_punch
  f_Paper_patch : Addr
  fd_Paper_patch : FuncData
  F_Paper_patch : Fun K "patch" "Paper.patch" s_Paper_patch f_Paper_patch fd_Paper_patch
  b_Paper_patch : Binds K fd_Paper_patch ["self", "cell"] []
  m_Paper_patch : Meth K C_Paper "patch" f_Paper_patch
  f_Paper_do : Addr
  fd_Paper_do : FuncData
  F_Paper_do : Fun K "do" "Paper.do" s_Paper_do f_Paper_do fd_Paper_do
  b_Paper_do : Binds K fd_Paper_do ["self", "wish"] []
  m_Paper_do : Meth K C_Paper "do" f_Paper_do
  f_Paper_mark : Addr
  fd_Paper_mark : FuncData
  F_Paper_mark : Fun K "mark" "Paper.mark" s_Paper_mark f_Paper_mark fd_Paper_mark
  b_Paper_mark : Binds K fd_Paper_mark ["self"] []
  m_Paper_mark : Meth K C_Paper "mark" f_Paper_mark
  f_Paper_undo : Addr
  fd_Paper_undo : FuncData
  F_Paper_undo : Fun K "undo" "Paper.undo" s_Paper_undo f_Paper_undo fd_Paper_undo
  b_Paper_undo : Binds K fd_Paper_undo ["self", "mark"] []
  m_Paper_undo : Meth K C_Paper "undo" f_Paper_undo
  f_Paper_strip : Addr
  fd_Paper_strip : FuncData
  F_Paper_strip : Fun K "strip" "Paper.strip" s_Paper_strip f_Paper_strip fd_Paper_strip
  b_Paper_strip : Binds K fd_Paper_strip ["self"] []
  m_Paper_strip : Meth K C_Paper "strip" f_Paper_strip
  f_Paper_fewest : Addr
  fd_Paper_fewest : FuncData
  F_Paper_fewest : Fun K "fewest" "Paper.fewest" s_Paper_fewest f_Paper_fewest fd_Paper_fewest
  b_Paper_fewest : Binds K fd_Paper_fewest ["self", "wish"] []
  m_Paper_fewest : Meth K C_Paper "fewest" f_Paper_fewest
  f_Paper_counts : Addr
  fd_Paper_counts : FuncData
  F_Paper_counts : Fun K "counts" "Paper.counts" s_Paper_counts f_Paper_counts fd_Paper_counts
  b_Paper_counts : Binds K fd_Paper_counts ["self"] []
  m_Paper_counts : Meth K C_Paper "counts" f_Paper_counts
  n_Paper_cells_now : NoAttr K C_Paper "cells_now"
  n_Paper_times_now : NoAttr K C_Paper "times_now"
  n_Paper_marked : NoAttr K C_Paper "marked"
  g_MOST_CELLS : ∃ t, mg "MOST_CELLS" = some (.int 200 t)
  g_fewest_wishes : mg "fewest_wishes" = some (.ref f_fewest)
  z_KeyError : mg "KeyError" = none
  z_LookupError : mg "LookupError" = none
  z_ValueError : mg "ValueError" = none
  z_abs : mg "abs" = none
  z_all : mg "all" = none
  z_bool : mg "bool" = none
  z_enumerate : mg "enumerate" = none
  z_int : mg "int" = none
  z_isinstance : mg "isinstance" = none
  z_len : mg "len" = none
  z_list : mg "list" = none
  z_max : mg "max" = none
  z_min : mg "min" = none
  z_range : mg "range" = none
  z_str : mg "str" = none
  z_sum : mg "sum" = none
  z_tuple : mg "tuple" = none
  z_zip : mg "zip" = none

section
local macro_rules | `(tactic| walk_at "e1") => `(tactic| first
  | refine se_var rfl ?_
  | with_reducible refine se_int ?_
  | with_reducible refine se_op ?_
  | with_reducible refine or_addI ?_
  | with_reducible refine or_sub ?_
  | with_reducible refine or_cmp ?_
  | with_reducible refine or_eqAI ?_
  | with_reducible refine or_neAI ?_
  | with_reducible refine or_eqAS ?_
  | with_reducible refine or_neAS ?_
  | with_reducible refine or_eqAB ?_
  | with_reducible refine or_isN ?_
  | with_reducible refine or_ntN ?_
  | with_reducible refine or_isNR ?_
  | refine or_mod (by first | assumption | decide | omega) ?_
  | refine or_fdiv (fdiv_ok (by first | assumption | decide) (by first | assumption | decide)) ?_
  | refine or_mulI (mulOk_l (by decide) (by decide)) ?_
  | refine or_pow ⟨by decide, by decide, by decide⟩ ?_
  | refine or_ixC 0 rfl rfl ?_
  | refine or_ixC 1 rfl rfl ?_
  | with_reducible refine or_ixH ?_
  | refine or_ix rfl ?_
  | refine or_ixT rfl ?_
  | with_reducible refine isB ?_
  | with_reducible refine br_T rfl ?_
  | with_reducible refine br_F rfl ?_
  | with_reducible refine br_not ?_
  | with_reducible refine isI ?_
  | with_reducible refine st_test ?_
  | with_reducible refine st_B ?_
  | with_reducible refine st_yes ?_
  | with_reducible refine sa_cons ?_
  | with_reducible refine sa_nil ?_
  | with_reducible refine se_cb ?_
  | with_reducible refine se_str ?_
  | with_reducible refine se_bl ?_
  | with_reducible refine se_non ?_
  | with_reducible refine se_un ?_
  | with_reducible refine ur_neg ?_
  | with_reducible refine st_not ?_
  | with_reducible refine st_and ?_
  | with_reducible refine st_or ?_
  | with_reducible refine se_if ?_
  | with_reducible refine se_chain ?_
  | with_reducible refine se_andV ?_
  | with_reducible refine se_orV ?_
  | with_reducible refine se_notV ?_
  | with_reducible refine se_sl ?_
  | with_reducible refine so_none ?_
  | with_reducible refine so_some ?_
  | with_reducible refine lr_L ?_
  | with_reducible refine cr_len ?_
  | with_reducible refine cr_lenT ?_
  | with_reducible refine cr_abs ?_
  | with_reducible refine cr_max2 ?_
  | with_reducible refine cr_min2 ?_
  | with_reducible refine cr_max3 ?_
  | with_reducible refine cr_intI ?_
  | with_reducible refine cr_intB ?_
  | with_reducible refine se_lst (sa_cons ?_)
  | with_reducible refine se_tup ?_
  | refine unp rfl (Nat.le_of_ble_eq_true rfl) ?_)
local macro_rules | `(tactic| walk_at "e") => `(tactic| repeat walk_at "e1")
local macro_rules | `(tactic| walk_at "s1") => `(tactic| first
  | with_reducible refine ss_next ?_
  | with_reducible refine ss_seq ?_
  | with_reducible refine ss_set ?_
  | with_reducible refine ss_par ?_
  | with_reducible refine ss_if ?_
  | with_reducible refine ss_ret ?_
  | with_reducible refine ss_break ?_
  | with_reducible refine ss_cont ?_
  | with_reducible refine ss_asg ?_
  | with_reducible refine sg_name ?_
  | with_reducible refine sg_setL ?_
  | with_reducible refine ⟨_, _, rfl, ?_⟩
  | refine ⟨0, _, _, _, _, rfl, rfl, rfl, rfl, ?_⟩
  | refine ⟨1, _, _, _, _, rfl, rfl, rfl, rfl, ?_⟩
  | walk_at "e1")
local macro_rules | `(tactic| walk_at "s") => `(tactic| repeat walk_at "s1")
local macro_rules | `(tactic| walk_at "g") => `(tactic| first
  | exact gok_name
  | exact gok_seq (goks_cons gok_name (goks_cons gok_name goks_nil))
  | exact gok_seq (goks_cons gok_name (goks_cons gok_name (goks_cons gok_name goks_nil)))
  | exact gok_seq (goks_cons gok_name (goks_cons (gok_seq (goks_cons gok_name (goks_cons gok_name goks_nil))) goks_nil)))
local macro_rules | `(tactic| walk_at "tgE") => `(tactic| refine sg_seqT rfl (sgs_cons (sg_name (sgs_cons (sg_seqT rfl (sgs_cons (sg_name (sgs_cons (sg_name (sgs_nil (sgs_nil ?_)))))))))))
local macro_rules | `(tactic| walk_at "T") => `(tactic| refine br_T (decide_eq_true (by omega)) ?_)
local macro_rules | `(tactic| walk_at "F") => `(tactic| refine br_F (decide_eq_false (by omega)) ?_)
local macro_rules | `(tactic| walk_at "tg2") => `(tactic| refine sg_seqT rfl (sgs_cons (sg_name (sgs_cons (sg_name (sgs_nil ?_))))))
local macro_rules | `(tactic| walk_at "tg3") => `(tactic| refine sg_seqT rfl (sgs_cons (sg_name (sgs_cons (sg_name (sgs_cons (sg_name (sgs_nil ?_))))))))
variable {P : Program} {w : World} {K : PySem.W.Frag} {mg : Str → Option Value} {base : Heap}

--nofm
theorem inP_ints {i : Int} {ws : List Int} : inP (.int i) (ws.map PyData.int) = decide (i ∈ ws) := by
  induction ws with
  | nil => simp [inP]
  | cons w ws ih =>
    unfold inP at ih ⊢
    rw [List.map_cons, List.any_cons, ih, eqv_int]
    by_cases h : w = i
    · subst h; simp
    · have h' : ¬ i = w := fun e => h e.symm
      simp [h, h']
theorem flat_ints (ws : List Int) : (ws.map PyData.int).all flatP = true := by
  rw [List.all_eq_true]
  intro p hp
  obtain ⟨w, _, rfl⟩ := List.mem_map.mp hp
  rfl
theorem cutP_tail {α : Type} (xs : List α) : cutP xs (some 1) none = xs.drop 1 := by
  rw [show (1 : Int) = ((1 : Nat) : Int) from rfl, cutP_from (by omega)]
  rfl
abbrev HoD (b : List Int) : D := dL (b.map PyData.int)
structure Fold (n : Nat) (b : List Int) : Prop where
  n1 : 1 ≤ n
  n2 : n ≤ 200
  l : b.length ≤ 200
  rise : ∀ x y, FR.Adj b x y → x < y
  rg : ∀ c ∈ b, 0 ≤ c ∧ c ≤ (n : Int) - 2
theorem all_tt {α : Type} (xs : List α) : (xs.map fun _ => PyData.bool true) = (xs.map fun _ => true).map PyData.bool := by rw [List.map_map]; rfl
theorem all_ti {α : Type} (xs : List α) : (xs.map fun _ => true).all id = true := by
  rw [List.all_eq_true]
  intro x hx
  obtain ⟨_, _, rfl⟩ := List.mem_map.mp hx
  rfl
def sp_is_rising (T : Txt K mg) : DSp := fun ds M Kd KX => ∃ (b : List Int), ds = [HoD b] ∧ M = [] ∧ b.length ≤ 200 ∧ (∀ x y, FR.Adj b x y → x < y) ∧ Kd (dB true) []
theorem ok_is_rising (T : Txt K mg) : FnOk P w K mg base CX0 1 T.f_is_rising T.fd_is_rising ["numbers"] (spD (sp_is_rising T)) := by
  refine fn_ok T.F_is_rising sc_is_rising (fun ds M Kd KX h => ?hl) (fun cdv A outer s0 H E hr => ⟨_, (pss_one (ps_ret (pe_callB (cr_allK (K := K) rfl) (by rfl) T.z_all (by decide +kernel) (pa_cons (pe_lc (own := [("one", 1), ("other", 2)]) rfl sc_is_rising.nd (pi_zipAK (K := K) (by rfl) T.z_zip (pa_cons (pv 0) (pa_cons (pe_slice (sl_anyK (K := K)) (pv 0) (po_some pe_int) po_none) pa_nil))) (blkOk_by (own := [("one", 1), ("other", 2)]) (N := ["numbers", "one", "other"]) (sc := defScope s_is_rising) (by decide +kernel)) (fun _ _ _ _ _ => pg_seqK (K := K) (n := 2) rfl (pgs_cons (pg_name (i := 1) sc_is_rising.nd rfl (by first | exact Or.inl rfl | exact Or.inr rfl)) (pgs_cons (pg_name (i := 2) sc_is_rising.nd rfl (by first | exact Or.inl rfl | exact Or.inr rfl)) pgs_nil))) (fun _ _ _ _ _ => pts_nil) (fun _ _ _ _ _ => pe_cmpR op_lt (pv 1) (pv 2) (nomark _))) pa_nil)))), fun ds M Kd KX h => ?_⟩)
  · obtain ⟨b, rfl, _⟩ := h
    rfl
  · obtain ⟨b, rfl, rfl, hl, hr, k⟩ := h
    show SS W0 _ [some (HoD b), none, none] [] _
    refine ss_ret (se_cb (sa_cons ?_))
    refine se_lcM (xs := b.zip (b.drop 1)) (M2 := []) (fun _ => .bool true) (by walk_at "g") (src_ZL PyData.int PyData.int b (b.drop 1) ?_) (by rw [List.length_zip]; omega) ?_ ?_
    · refine sa_cons (se_var rfl (sa_cons (se_sl (se_var rfl (so_some (se_int (isI (so_none (lr_L ?_)))))))))
      rw [cutP_tail]
      exact sa_nil ⟨by rw [List.map_drop], rfl⟩
    · rintro pre ⟨x, y⟩ post hx
      have := hr x y (FR.adj_zip.mp (by rw [hx]; simp))
      show SG W0 _ (dT [.int x, .int y]) _ _ _
      walk_at "tg2"
      walk_at "e"
      exact ⟨by rw [decide_eq_true this], rfl, rfl⟩
    · rw [all_tt]
      refine sa_nil (cr_allL (.py _) ?_)
      rw [all_ti]
      exact Ret.py k
def sp_is_folding (T : Txt K mg) : DSp := fun ds M Kd KX => ∃ (n : Nat) (b : List Int), ds = [dI (n : Int), HoD b] ∧ M = [] ∧ Fold n b ∧ Kd (dB true) []
theorem ok_is_folding (T : Txt K mg) : FnOk P w K mg base CX0 2 T.f_is_folding T.fd_is_folding ["many", "folds"] (spD (sp_is_folding T)) := by
  refine fn_ok T.F_is_folding sc_is_folding (fun ds M Kd KX h => ?hl) (fun cdv A outer s0 H E hr => ⟨_, (pss_cons (ps_if (PW.pt (pw_or (pt_not (pt_chain op_le op_le pe_int (pv 0) (pe_globI (by rfl) T.g_MOST_CELLS))) (pw_or1 (pt_not (pt_val (pe_call (ok_is_rising T) hr (by rfl) T.g_is_rising T.F_is_rising.kp T.b_is_rising .nil pass0 (pa_cons (pv 1) pa_nil)))))))
      (pss_one (ps_ret pe_bl))
      pss_nil)
      (pss_one (ps_ret (pe_callB (cr_allK (K := K) rfl) (by rfl) T.z_all (by decide +kernel) (pa_cons (pe_lc (own := [("crease", 2)]) rfl sc_is_folding.nd (pi_anyK (K := K) (pv 1)) (blkOk_by (own := [("crease", 2)]) (N := ["many", "folds", "crease"]) (sc := defScope s_is_folding) (by decide +kernel)) (fun _ _ _ _ _ => pg_name (i := 2) sc_is_folding.nd rfl (by first | exact Or.inl rfl | exact Or.inr rfl)) (fun _ _ _ _ _ => pts_nil) (fun _ _ _ _ _ => pe_chain op_le op_le pe_int (pv 2) (pe_op op_sub (pv 0) pe_int))) pa_nil))))), fun ds M Kd KX h => ?_⟩)
  · obtain ⟨n, b, rfl, _⟩ := h
    rfl
  · obtain ⟨n, b, rfl, rfl, hf, k⟩ := h
    have n1 := hf.n1
    have n2 := hf.n2
    have hl := hf.l
    show SS W0 _ [some (dI (n : Int)), some (HoD b), none] [] _
    walk_at "s"
    walk_at "T"
    walk_at "s"
    walk_at "T"
    walk_at "s"
    refine se_call0 0 ?_
    walk_at "s"
    refine ⟨b, rfl, rfl, hl, hf.rise, ?_⟩
    walk_at "s"
    refine se_lcM (xs := b) (M2 := []) (fun _ => .bool true) (by walk_at "g") (src_L PyData.int b (se_var rfl ⟨rfl, rfl⟩)) (by omega) ?_ ?_
    · rintro pre x post hx
      have := hf.rg x (by rw [hx]; simp)
      refine sg_name ?_
      walk_at "e"
      refine br_T (decide_eq_true this.1) ?_
      walk_at "e"
      exact ⟨by rw [decide_eq_true this.2], rfl, rfl⟩
    · rw [all_tt]
      walk_at "s"
      refine cr_allL (.py _) ?_
      rw [all_ti]
      exact Ret.py k
theorem zipIdx_range (n : Nat) : (List.range n).zipIdx = (List.range n).map fun k => (k, k) := by
  apply List.ext_getElem?
  intro i
  simp only [List.getElem?_zipIdx, List.getElem?_map]
  by_cases h : i < n
  · simp [List.getElem?_range h]
  · rw [List.getElem?_eq_none (by simp; omega)]
    rfl
abbrev plL (b : List Int) (n : Nat) : List Int := (List.range n).map (FS.plc b)
def sp_laid (T : Txt K mg) : DSp := fun ds M Kd KX => ∃ (n : Nat) (b : List Int), ds = [dI (n : Int), HoD b] ∧ M = [] ∧ Fold n b ∧ Kd (HoD (plL b n)) []
theorem ok_laid (T : Txt K mg) : FnOk P w K mg base CX0 1 T.f_laid T.fd_laid ["many", "folds"] (spD (sp_laid T)) := by
  refine fn_ok T.F_laid sc_laid (fun ds M Kd KX h => ?hl) (fun cdv A outer s0 H E hr => ⟨_, (pss_cons (ps_set (i := 2) sc_laid.nd rfl (by first | exact Or.inl rfl | exact Or.inr rfl) (pe_lst (pa_cons pe_int pa_nil)))
      (pss_cons (ps_set (i := 3) sc_laid.nd rfl (by first | exact Or.inl rfl | exact Or.inr rfl) pe_int)
      (pss_cons (ps_for PassesOwn.never rfl (pi_range1 (by rfl) T.z_range (pa_cons (pe_op op_sub (pv 0) pe_int) pa_nil)) (pg_name (i := 4) sc_laid.nd rfl (by first | exact Or.inl rfl | exact Or.inr rfl))
      (pss_one (ps_if (pt_cmpR (op_inK (K := K)) (pv 4) (pv 1) (by rfl))
      (pss_cons (ps_set (i := 3) sc_laid.nd rfl (by first | exact Or.inl rfl | exact Or.inr rfl) (pe_un un_neg (pv 3)))
      (pss_one (ps_expr (pe_bmK (K := K) PySem.F.plainAttrs_list PySem.F.slot_list_append PySem.F.type_list_append mt_append (pv 2) (pa_cons (pe_ix (ix_seqK (K := K)) (pv 2) (pe_un un_neg pe_int) (fun _ _ => rfl)) pa_nil)))))
      (pss_one (ps_expr (pe_bmK (K := K) PySem.F.plainAttrs_list PySem.F.slot_list_append PySem.F.type_list_append mt_append (pv 2) (pa_cons (pe_op op_addA (pe_ix (ix_seqK (K := K)) (pv 2) (pe_un un_neg pe_int) (fun _ _ => rfl)) (pv 3)) pa_nil)))))))
      (pss_one (ps_ret (pv 2)))))), fun ds M Kd KX h => ?_⟩)
  · obtain ⟨n, b, rfl, _⟩ := h
    rfl
  · obtain ⟨n, b, rfl, rfl, hf, k⟩ := h
    have n1 := hf.n1
    have n2 := hf.n2
    have hl := hf.l
    show SS W0 _ [some (dI (n : Int)), some (HoD b), none, none, none] [] _
    refine ss_seq (ss_set (se_lstC (sa_cons (se_int (sa_nil ⟨by decide, fun a => ?_⟩)))))
    refine ss_seq (ss_set (se_int ?_))
    show SS W0 _ [some (dI (n : Int)), some (HoD b), some (dR a), some (dI 1), none] [(a, .lst [dI 0])] _
    refine ss_seq (ss_forX (xs := List.range (n - 1)) (M2 := [(a, .lst [dI 0])]) (fun pre ρ' M' => ∃ x4, ρ' = [some (dI (n : Int)), some (HoD b), some (dR a), some (dI (FS.way b pre.length)), x4] ∧ M' = [(a, Cl ((plL b (pre.length + 1)).map PyData.int))]) (src_R1 (n - 1) ?_) ⟨_, rfl, rfl⟩ ⟨?_, ?_⟩)
    · walk_at "s"
      exact ⟨_, rfl, by omega, by omega, by omega, rfl⟩
    · rintro pre t post ρ' M' hx ⟨x4, rfl, rfl⟩
      have hpl : pre.length < n - 1 := by
        have := congrArg List.length hx
        simp at this
        omega
      have ht : t = pre.length := by
        have h2 : (List.range (n - 1))[pre.length]? = some t := by rw [hx]; simp
        rw [List.getElem?_range hpl] at h2
        exact (Option.some.inj h2).symm
      subst ht
      obtain ⟨m, hm⟩ : ∃ m, pre.length = m := ⟨_, rfl⟩
      rw [List.length_append, List.length_singleton]
      rw [hm] at hpl ⊢
      have e1 : plL b (m + 1 + 1) = plL b (m + 1) ++ [FS.plc b (m + 1)] := by unfold plL; rw [List.range_succ (n := m + 1), List.map_append]; rfl
      have hlast : ((plL b (m + 1)).map PyData.int).getLast? = some (.int (FS.plc b m)) := by
        unfold plL
        rw [List.range_succ, List.map_append, List.map_append]
        simp
      have hlen : ((plL b (m + 1)).map PyData.int).length ≤ 1000 := by simp [plL]; omega
      have es := FS.plc_step b m
      have ew := FS.way_step b m
      rw [e1]
      obtain ⟨L, hL⟩ : ∃ L, plL b (m + 1) = L := ⟨_, rfl⟩
      rw [hL] at hlast hlen ⊢
      refine sg_name (ss_if (st_test (se_op (se_var rfl (se_var rfl (or_inAL (.py _) rfl (flat_ints b) (isB ?_)))))))
      rw [inP_ints]
      by_cases hb : (m : Int) ∈ b
      · rw [if_pos hb] at es ew
        refine br_T (decide_eq_true hb) ?_
        refine ss_seq (ss_set (se_un (se_var rfl (ur_neg ?_))))
        refine ss_appP 0 rfl ⟨_, rfl⟩ (se_op (se_var rfl (se_un (se_int (ur_neg (or_ixEC 0 rfl hlast ?_))))))
        refine ⟨_, _, rfl, rfl, by omega, ?_⟩
        rw [es, ew]
        refine ⟨some (dI (m : Int)), ?_, by rw [List.map_append]; rfl⟩
        rw [show (0 : Int) - FS.way b m = -FS.way b m by omega]
        rfl
      · rw [if_neg hb] at es ew
        refine br_F (decide_eq_false hb) ?_
        refine ss_appP 0 rfl ⟨_, rfl⟩ (se_op (se_op (se_var rfl (se_un (se_int (ur_neg (or_ixEC 0 rfl hlast (se_var rfl (or_addI ?_)))))))))
        refine ⟨_, _, rfl, rfl, by omega, ?_⟩
        rw [es, ew]
        exact ⟨_, rfl, by rw [List.map_append]; rfl⟩
    · rintro ρ' M' ⟨x4, rfl, rfl⟩
      rw [List.length_range, show n - 1 + 1 = n by omega]
      refine ss_frz 0 2 rfl rfl ?_
      walk_at "s"
      exact Ret.py k
def sp_law_places (T : Txt K mg) : DSp := fun ds M Kd KX => ∃ (n : Nat) (b : List Int), ds = [dI (n : Int), HoD b] ∧ M = [] ∧ Fold n b ∧ Kd (HoD (plL b n)) []
theorem ok_law_places (T : Txt K mg) : FnOk P w K mg base CX0 1 T.f_law_places T.fd_law_places ["size", "folds"] (spD (sp_law_places T)) := by
  refine fn_ok T.F_law_places sc_law_places (fun ds M Kd KX h => ?hl) (fun cdv A outer s0 H E hr => ⟨_, (pss_cons (ps_par (by rfl) sc_law_places.nd (i := 2) (j := 3) rfl rfl (by decide) rfl rfl (pa_cons (pe_lst (pa_cons pe_int pa_nil)) (pa_cons pe_int pa_nil)) (by rfl))
      (pss_cons (ps_for PassesOwn.never rfl (pi_range1 (by rfl) T.z_range (pa_cons (pe_op op_sub (pv 0) pe_int) pa_nil)) (pg_name (i := 4) sc_law_places.nd rfl (by first | exact Or.inl rfl | exact Or.inr rfl))
      (pss_one (ps_if (pt_cmpR (op_inK (K := K)) (pv 4) (pv 1) (by rfl))
      (pss_cons (ps_set (i := 3) sc_law_places.nd rfl (by first | exact Or.inl rfl | exact Or.inr rfl) (pe_un un_neg (pv 3)))
      (pss_one (ps_expr (pe_bmK (K := K) PySem.F.plainAttrs_list PySem.F.slot_list_append PySem.F.type_list_append mt_append (pv 2) (pa_cons (pe_ix (ix_seqK (K := K)) (pv 2) (pe_un un_neg pe_int) (fun _ _ => rfl)) pa_nil)))))
      (pss_one (ps_expr (pe_bmK (K := K) PySem.F.plainAttrs_list PySem.F.slot_list_append PySem.F.type_list_append mt_append (pv 2) (pa_cons (pe_op op_addA (pe_ix (ix_seqK (K := K)) (pv 2) (pe_un un_neg pe_int) (fun _ _ => rfl)) (pv 3)) pa_nil)))))))
      (pss_one (ps_ret (pv 2))))), fun ds M Kd KX h => ?_⟩)
  · obtain ⟨n, b, rfl, _⟩ := h
    rfl
  · obtain ⟨n, b, rfl, rfl, hf, k⟩ := h
    have n1 := hf.n1
    have n2 := hf.n2
    have hl := hf.l
    show SS W0 _ [some (dI (n : Int)), some (HoD b), none, none, none] [] _
    refine ss_seq (ss_par (sa_cons (se_lstC (sa_cons (se_int (sa_nil ⟨by decide, fun a => ?_⟩))))))
    refine sa_cons (se_int (sa_nil ⟨_, _, rfl, ?_⟩))
    show SS W0 _ [some (dI (n : Int)), some (HoD b), some (dR a), some (dI 1), none] [(a, .lst [dI 0])] _
    refine ss_seq (ss_forX (xs := List.range (n - 1)) (M2 := [(a, .lst [dI 0])]) (fun pre ρ' M' => ∃ x4, ρ' = [some (dI (n : Int)), some (HoD b), some (dR a), some (dI (FS.way b pre.length)), x4] ∧ M' = [(a, Cl ((plL b (pre.length + 1)).map PyData.int))]) (src_R1 (n - 1) ?_) ⟨_, rfl, rfl⟩ ⟨?_, ?_⟩)
    · walk_at "s"
      exact ⟨_, rfl, by omega, by omega, by omega, rfl⟩
    · rintro pre t post ρ' M' hx ⟨x4, rfl, rfl⟩
      have hpl : pre.length < n - 1 := by
        have := congrArg List.length hx
        simp at this
        omega
      have ht : t = pre.length := by
        have h2 : (List.range (n - 1))[pre.length]? = some t := by rw [hx]; simp
        rw [List.getElem?_range hpl] at h2
        exact (Option.some.inj h2).symm
      subst ht
      obtain ⟨m, hm⟩ : ∃ m, pre.length = m := ⟨_, rfl⟩
      rw [List.length_append, List.length_singleton]
      rw [hm] at hpl ⊢
      have e1 : plL b (m + 1 + 1) = plL b (m + 1) ++ [FS.plc b (m + 1)] := by unfold plL; rw [List.range_succ (n := m + 1), List.map_append]; rfl
      have hlast : ((plL b (m + 1)).map PyData.int).getLast? = some (.int (FS.plc b m)) := by
        unfold plL
        rw [List.range_succ, List.map_append, List.map_append]
        simp
      have hlen : ((plL b (m + 1)).map PyData.int).length ≤ 1000 := by simp [plL]; omega
      have es := FS.plc_step b m
      have ew := FS.way_step b m
      rw [e1]
      obtain ⟨L, hL⟩ : ∃ L, plL b (m + 1) = L := ⟨_, rfl⟩
      rw [hL] at hlast hlen ⊢
      refine sg_name (ss_if (st_test (se_op (se_var rfl (se_var rfl (or_inAL (.py _) rfl (flat_ints b) (isB ?_)))))))
      rw [inP_ints]
      by_cases hb : (m : Int) ∈ b
      · rw [if_pos hb] at es ew
        refine br_T (decide_eq_true hb) ?_
        refine ss_seq (ss_set (se_un (se_var rfl (ur_neg ?_))))
        refine ss_appP 0 rfl ⟨_, rfl⟩ (se_op (se_var rfl (se_un (se_int (ur_neg (or_ixEC 0 rfl hlast ?_))))))
        refine ⟨_, _, rfl, rfl, by omega, ?_⟩
        rw [es, ew]
        refine ⟨some (dI (m : Int)), ?_, by rw [List.map_append]; rfl⟩
        rw [show (0 : Int) - FS.way b m = -FS.way b m by omega]
        rfl
      · rw [if_neg hb] at es ew
        refine br_F (decide_eq_false hb) ?_
        refine ss_appP 0 rfl ⟨_, rfl⟩ (se_op (se_op (se_var rfl (se_un (se_int (ur_neg (or_ixEC 0 rfl hlast (se_var rfl (or_addI ?_)))))))))
        refine ⟨_, _, rfl, rfl, by omega, ?_⟩
        rw [es, ew]
        exact ⟨_, rfl, by rw [List.map_append]; rfl⟩
    · rintro ρ' M' ⟨x4, rfl, rfl⟩
      rw [List.length_range, show n - 1 + 1 = n by omega]
      refine ss_frz 0 2 rfl rfl ?_
      walk_at "s"
      exact Ret.py k
def sp_places (T : Txt K mg) : DSp := fun ds M Kd KX => ∃ (n : Nat) (b : List Int), ds = [dI (n : Int), HoD b] ∧ M = [] ∧ Fold n b ∧ Kd (HoD (plL b n)) []
theorem ok_places (T : Txt K mg) : FnOk P w K mg base CX0 3 T.f_places T.fd_places ["many", "folds"] (spD (sp_places T)) := by
  refine fn_ok T.F_places sc_places (fun ds M Kd KX h => ?hl) (fun cdv A outer s0 H E hr => ⟨_, (pss_cons (ps_if (pt_not (pt_val (pe_call (ok_is_folding T) hr (by rfl) T.g_is_folding T.F_is_folding.kp T.b_is_folding .nil pass0 (pa_cons (pv 0) (pa_cons (pv 1) pa_nil)))))
      (pss_one (PL.ps_never))
      pss_nil)
      (pss_one (ps_ret (pe_call (ok_laid T) (hr.mono (by decide)) (by rfl) T.g_laid T.F_laid.kp T.b_laid .nil pass0 (pa_cons (pv 0) (pa_cons (pv 1) pa_nil)))))), fun ds M Kd KX h => ?_⟩)
  · obtain ⟨n, b, rfl, _⟩ := h
    rfl
  · obtain ⟨n, b, rfl, rfl, hf, k⟩ := h
    show SS W0 _ [some (dI (n : Int)), some (HoD b)] [] _
    walk_at "s"
    refine se_call0 0 ?_
    walk_at "s"
    refine ⟨n, b, rfl, rfl, hf, ?_⟩
    walk_at "s"
    refine se_call0 0 ?_
    walk_at "s"
    exact ⟨n, b, rfl, rfl, hf, Ret.py k⟩
def sp_cells_at (T : Txt K mg) : DSp := fun ds M Kd KX => ∃ (n : Nat) (b : List Int) (s : Int), ds = [dI (n : Int), HoD b, dI s] ∧ M = [] ∧ Fold n b ∧ Kd (HoD (FS.atP b n s)) []
theorem ok_cells_at (T : Txt K mg) : FnOk P w K mg base CX0 4 T.f_cells_at T.fd_cells_at ["many", "folds", "place"] (spD (sp_cells_at T)) := by
  refine fn_ok T.F_cells_at sc_cells_at (fun ds M Kd KX h => ?hl) (fun cdv A outer s0 H E hr => ⟨_, (pss_one (ps_ret (pe_lc (own := [("cell", 3), ("here", 4)]) rfl sc_cells_at.nd (pi_enumAK (K := K) (by rfl) T.z_enumerate (pa_cons (pe_call (ok_places T) hr (by rfl) T.g_places T.F_places.kp T.b_places .nil pass0 (pa_cons (pv 0) (pa_cons (pv 1) pa_nil))) pa_nil)) (blkOk_by (own := [("cell", 3), ("here", 4)]) (N := ["many", "folds", "place", "cell", "here"]) (sc := defScope s_cells_at) (by decide +kernel)) (fun _ _ _ _ _ => pg_seqK (K := K) (n := 2) rfl (pgs_cons (pg_name (i := 3) sc_cells_at.nd rfl (by first | exact Or.inl rfl | exact Or.inr rfl)) (pgs_cons (pg_name (i := 4) sc_cells_at.nd rfl (by first | exact Or.inl rfl | exact Or.inr rfl)) pgs_nil))) (fun _ _ _ _ _ => pts_one (pt_cmpR (op_eqK (K := K) hr.units) (pv 4) (pv 2) (nomark _))) (fun _ _ _ _ _ => pv 3)))), fun ds M Kd KX h => ?_⟩)
  · obtain ⟨n, b, s, rfl, _⟩ := h
    rfl
  · obtain ⟨n, b, s, rfl, rfl, hf, k⟩ := h
    have n2 := hf.n2
    show SS W0 _ [some (dI (n : Int)), some (HoD b), some (dI s), none, none] [] _
    refine ss_ret ?_
    refine se_lcF (xs := (plL b n).zipIdx) (M2 := []) (fun x => decide (x.1 = s)) (fun x => .int (x.2 : Int)) (by walk_at "g") (src_Ei PyData.int (plL b n) ?_) (by simp [plL]; omega) ?_ ?_
    · walk_at "e"
      refine se_call0 0 ?_
      walk_at "e"
      exact ⟨n, b, rfl, rfl, hf, sa_nil ⟨rfl, rfl⟩⟩
    · rintro pre ⟨x, i⟩ post hx
      show SG W0 _ (dT [.int (i : Int), .int x]) _ _ _
      walk_at "tg2"
      walk_at "e"
      exact ⟨rfl, rfl, fun _ => se_var rfl ⟨rfl, rfl⟩⟩
    · have e : ((plL b n).zipIdx.filter fun x => decide (x.1 = s)).map (fun x => PyData.int (x.2 : Int)) = (FS.atP b n s).map PyData.int := by
        unfold plL FS.atP
        rw [List.zipIdx_map, zipIdx_range, List.filter_map, List.filter_map, List.map_map, List.map_map, List.map_map]
        rfl
      rw [e]
      exact Ret.py k

--nofm
theorem layI (ws : List Int) : ∀ p ∈ ws.map PyData.int, p.canLay0 = true ∧ p.depth ≤ 10 := by
  intro p hp
  obtain ⟨w, _, rfl⟩ := List.mem_map.mp hp
  exact ⟨by simp [PyData.canLay0], by simp [PyData.depth]⟩
def celP (ps c : Int) : PyData := .tuple [.bool (decide (0 < c)), .int (ps - c)]
abbrev celL (ps : Int) (cs : List Int) : List PyData := cs.map (celP ps)
abbrev timL (cs : List Int) : List PyData := cs.map PyData.int
def mrkP (ps : Int) (cs : List Int) : PyData := .tuple [.list (celL ps cs), .list (timL cs)]
abbrev papC (T : Txt K mg) (ps : Int) (cs : List Int) (m : Addr) : Cell := .ins T.C_Paper [(Str.ofString "cells_now", dL (celL ps cs)), (Str.ofString "times_now", dL (timL cs)), (Str.ofString "marked", dR m)]
abbrev mksC (ps : Int) (ms : List (List Int)) : Cell := Cl (ms.map (mrkP ps))
theorem rep_fl (n : Nat) (x : PyData) : (List.replicate n [x]).flatten = List.replicate n x := by
  induction n with
  | zero => rfl
  | succ n ih => rw [List.replicate_succ, List.replicate_succ, List.flatten_cons, ih]; rfl
def sp_Paper_init (T : Txt K mg) : DSp := fun ds M Kd KX => ∃ (p : Addr) (n : Nat) (ps : Int), ds = [dR p, dI (n : Int), dI ps] ∧ M = [(p, .ins T.C_Paper [])] ∧ 1 ≤ n ∧ n ≤ 200 ∧ ∀ m, Kd dN [(p, papC T ps (List.replicate n 0) m), (m, mksC ps [])]
theorem ok_Paper_init (T : Txt K mg) : FnOk P w K mg base CX0 1 T.f_Paper_init T.fd_Paper_init ["self", "many", "left"] (spD (sp_Paper_init T)) := by
  refine fnA_ok T.F_Paper_init sc_Paper_init (fun ds M Kd KX h => ?hl) (fun cdv A outer s0 H E hr => ⟨_, (pss_cons (ps_fld (pv 0) (pe_op op_mulA (pe_lst (pa_cons (pe_tup (pa_cons pe_bl (pa_cons (pv 2) pa_nil))) pa_nil)) (pv 1)) rfl)
      (pss_cons (ps_fld (pv 0) (pe_op op_mulA (pe_lst (pa_cons pe_int pa_nil)) (pv 1)) rfl)
      (pss_one (ps_fld (pv 0) (pe_lst pa_nil) rfl)))), fun ds M Kd KX h => ?_⟩)
  · obtain ⟨p, n, ps, rfl, _⟩ := h
    rfl
  · obtain ⟨p, n, ps, rfl, rfl, n1, n2, k⟩ := h
    show SS W0 _ [some (dR p), some (dI (n : Int)), some (dI ps)] _ _
    refine ss_seq (ss_fld (se_op (se_lst (sa_cons (se_tup ?_)))))
    walk_at "s"
    refine or_repV (.py _) (by omega) (by omega) (by simp; omega) ?_
    refine se_var rfl ⟨0, p, _, _, rfl, rfl, T.cl_Paper, T.n_Paper_cells_now, (by show (0 : Nat) < 1000; decide), ?_⟩
    refine ss_seq (ss_fld (se_op (se_lst ?_)))
    walk_at "s"
    refine or_repV (.py _) (by omega) (by omega) (by simp; omega) ?_
    refine se_var rfl ⟨0, p, _, _, rfl, rfl, T.cl_Paper, T.n_Paper_times_now, (by show (1 : Nat) < 1000; decide), ?_⟩
    refine ss_fld (se_lstC (sa_nil ⟨by decide, fun m => ?_⟩))
    refine se_var rfl ⟨0, p, _, _, rfl, rfl, T.cl_Paper, T.n_Paper_marked, (by show (2 : Nat) < 1000; decide), ?_⟩
    have e1 : (List.replicate (Int.toNat n) [PyData.tuple [PyData.bool false, PyData.int ps]]).flatten = celL ps (List.replicate n 0) := by
      rw [rep_fl, Int.toNat_natCast]
      show _ = (List.replicate n 0).map _
      rw [List.map_replicate]
      unfold celP
      rw [Int.sub_zero]
      rfl
    have e2 : (List.replicate (Int.toNat n) [PyData.int 0]).flatten = timL (List.replicate n 0) := by
      rw [rep_fl, Int.toNat_natCast]
      show _ = (List.replicate n 0).map _
      rw [List.map_replicate]
    rw [e1, e2]
    exact .here (k m)
def addP (cs r : List Int) : List Int := (List.range cs.length).map fun k => cs.getD k 0 + FR.cntL r k
theorem addP_len (cs r : List Int) : (addP cs r).length = cs.length := by simp [addP]
theorem addP_at {cs r : List Int} {k : Nat} (h : k < cs.length) : (addP cs r)[k]? = some (cs.getD k 0 + FR.cntL r k) := by
  unfold addP
  rw [List.getElem?_map, List.getElem?_range h]
  rfl
theorem addP_nil (cs : List Int) : addP cs [] = cs := by
  apply List.ext_getElem?
  intro i
  by_cases h : i < cs.length
  · rw [addP_at h, List.getD_eq_getElem?_getD, List.getElem?_eq_getElem h]
    show some (cs[i] + 0) = some cs[i]
    rw [Int.add_zero]
  · rw [List.getElem?_eq_none (by rw [addP_len]; omega), List.getElem?_eq_none (by omega)]
theorem addP_snoc {cs r : List Int} {c : Nat} (h : c < cs.length) : addP cs (r ++ [(c : Int)]) = (addP cs r).set c (cs.getD c 0 + FR.cntL r c + 1) := by
  apply List.ext_getElem?
  intro i
  rw [List.getElem?_set]
  by_cases hi : i < cs.length
  · rw [addP_at hi, FR.cntL_app]
    by_cases e : c = i
    · subst e
      rw [if_pos rfl, if_pos (by rw [addP_len]; exact h)]
      have : FR.cntL [(c : Int)] c = 1 := by simp [FR.cntL]
      rw [this, Int.add_assoc]
    · rw [if_neg e, addP_at hi]
      have : FR.cntL [(c : Int)] i = 0 := by simp [FR.cntL]; omega
      rw [this, Int.add_zero]
  · rw [List.getElem?_eq_none (by rw [addP_len]; omega), List.getElem?_eq_none (by rw [addP_len]; omega)]
    rw [if_neg (by omega)]
theorem addP_nn {cs r : List Int} (h : ∀ c ∈ cs, 0 ≤ c) : ∀ c ∈ addP cs r, 0 ≤ c := by
  intro c hc
  obtain ⟨k, hk, rfl⟩ := List.mem_map.mp hc
  have := FR.cntL_nn r k
  have hk := List.mem_range.mp hk
  have : 0 ≤ cs.getD k 0 := by
    rw [List.getD_eq_getElem?_getD, List.getElem?_eq_getElem hk]
    exact h _ (List.getElem_mem hk)
  omega
abbrev papQ (T : Txt K mg) (p1 p2 m : Addr) : Cell := .ins T.C_Paper [(Str.ofString "cells_now", dR p1), (Str.ofString "times_now", dR p2), (Str.ofString "marked", dR m)]
def sp_Paper_hit (T : Txt K mg) : DSp := fun ds M Kd KX => ∃ (p m : Addr) (ps : Int) (cs r : List Int), ds = [dR p, dL (r.map PyData.int)] ∧ M = [(p, papC T ps cs m)] ∧ cs.length ≤ 200 ∧ r.length ≤ 200 ∧ (∀ c ∈ r, 0 ≤ c ∧ c < cs.length) ∧ (∀ c ∈ cs, 0 ≤ c) ∧ Kd dN [(p, papC T ps (addP cs r) m)]
theorem ok_Paper_hit (T : Txt K mg) : FnOk P w K mg base CX0 1 T.f_Paper_hit T.fd_Paper_hit ["self", "cells"] (spD (sp_Paper_hit T)) := by
  refine fnA_ok T.F_Paper_hit sc_Paper_hit (fun ds M Kd KX h => ?hl) (fun cdv A outer s0 H E hr => ⟨_, (pss_cons (ps_asg (pe_tup (pa_cons (pe_callTy (call_listK (K := K)) (by rfl) T.z_list (by decide +kernel) (pa_cons (pe_fldK (K := K) (pv 0) rfl) pa_nil)) (pa_cons (pe_callTy (call_listK (K := K)) (by rfl) T.z_list (by decide +kernel) (pa_cons (pe_fldK (K := K) (pv 0) rfl) pa_nil)) pa_nil))) (pg_seqK (K := K) (n := 2) rfl (pgs_cons (pg_attrK (K := K) (pv 0)) (pgs_cons (pg_attrK (K := K) (pv 0)) pgs_nil))))
      (pss_one (ps_for PassesOwn.never rfl (pi_anyK (K := K) (pv 1)) (pg_name (i := 2) sc_Paper_hit.nd rfl (by first | exact Or.inl rfl | exact Or.inr rfl))
      (pss_cons (ps_asg (pe_tup (pa_cons pe_bl (pa_cons (pe_op op_sub (pe_ix (ix_seqK (K := K)) (pe_ix (ix_seqK (K := K)) (pe_fldK (K := K) (pv 0) rfl) (pv 2) (fun _ _ => rfl)) pe_int (fun _ _ => rfl)) pe_int) pa_nil))) (pg_sub (pe_fldK (K := K) (pv 0) rfl) (pv 2) set_list))
      (pss_one (ps_augS (pe_fldK (K := K) (pv 0) rfl) (pv 2) get_list pe_int ip_add set_list)))))), fun ds M Kd KX h => ?_⟩)
  · obtain ⟨p, m, ps, cs, r, rfl, _⟩ := h
    rfl
  · obtain ⟨p, m, ps, cs, r, rfl, rfl, hn, hr, hc, h0, k⟩ := h
    show SS W0 _ [some (dR p), some (dL (r.map PyData.int)), none] _ _
    refine ss_seq (ss_asg (se_tupQ2 (Kf := K) (sa_cons (se_cb (sa_cons (se_fld (se_var rfl ⟨0, p, _, _, _, rfl, rfl, T.cl_Paper, T.n_Paper_cells_now, rfl, sa_nil (cr_listC (.py _) fun p1 => ?_)⟩)))))))
    refine sa_cons (se_cb (sa_cons (se_fld (se_var rfl ⟨0, p, _, _, _, rfl, rfl, T.cl_Paper, T.n_Paper_times_now, rfl, sa_nil (cr_listC (.py _) fun p2 => sa_nil ?_)⟩))))
    refine ⟨p1, p2, rfl, sg_seqQ2 (sgs_cons (sg_attr (se_var rfl ⟨0, p, _, _, rfl, rfl, T.cl_Paper, T.n_Paper_cells_now, (by show (3 : Nat) < 1000; decide), ?_⟩)))⟩
    refine sgs_cons (sg_attr (se_var rfl ⟨0, p, _, _, rfl, rfl, T.cl_Paper, T.n_Paper_times_now, (by show (3 : Nat) < 1000; decide), sgs_nil ?_⟩))
    show SS W0 _ [some (dR p), some (dL (r.map PyData.int)), none] [(p, papQ T p1 p2 m), (p1, Cl (celL ps cs)), (p2, Cl (timL cs))] _
    refine ss_forL PyData.int r (fun pre ρ' M' => ∃ x, ρ' = [some (dR p), some (dL (r.map PyData.int)), x] ∧ M' = [(p, papQ T p1 p2 m), (p1, Cl (celL ps (addP cs pre))), (p2, Cl (timL (addP cs pre)))]) (se_var rfl ⟨rfl, _, rfl, by rw [addP_nil]⟩) ⟨?_, ?_⟩
    · rintro pre c post ρ' M' hx ⟨x, rfl, rfl⟩
      obtain ⟨c0, c1⟩ := hc c (by rw [hx]; simp)
      obtain ⟨i, rfl⟩ : ∃ i : Nat, c = (i : Int) := ⟨c.toNat, by omega⟩
      have hi : i < cs.length := by omega
      have hat := addP_at (r := pre) hi
      have hnn := addP_nn (r := pre) h0 _ (List.mem_of_getElem? hat)
      have hlen := addP_len cs pre
      rw [addP_snoc hi]
      obtain ⟨L, hL⟩ : ∃ L, addP cs pre = L := ⟨_, rfl⟩
      obtain ⟨v, hv⟩ : ∃ v, cs.getD i 0 + FR.cntL pre i = v := ⟨_, rfl⟩
      rw [hL, hv] at hat
      rw [hv] at hnn
      rw [hL] at hlen
      rw [hL, hv]
      refine sg_name (ss_seq (ss_asg (se_tup (sa_cons (se_bl (sa_cons (se_op (se_op (se_op (se_fld ?_)))))))))) 
      refine se_var rfl ⟨0, p, _, _, _, rfl, rfl, T.cl_Paper, T.n_Paper_cells_now, rfl, ?_⟩
      refine se_var rfl (or_ixPC (p := celP ps v) 1 rfl c0 (by rw [Int.toNat_natCast, List.getElem?_map, hat]; rfl) ?_)
      refine se_int (or_ixT (p := .int (ps - v)) rfl (se_int (or_sub (sa_nil (unp rfl (Nat.le_of_ble_eq_true rfl) ?_)))))
      refine sg_setP (se_fld (se_var rfl ⟨0, p, _, _, _, rfl, rfl, T.cl_Paper, T.n_Paper_cells_now, rfl, se_var rfl ?_⟩))
      refine ⟨1, p1, celL ps L, i, _, rfl, rfl, rfl, rfl, c0, by rw [Int.toNat_natCast, List.length_map]; omega, ?_⟩
      have e : (celL ps L).set i (PyData.tuple [PyData.bool true, PyData.int (ps - v - 1)]) = celL ps (L.set i (v + 1)) := by
        have e3 : celP ps (v + 1) = PyData.tuple [PyData.bool true, PyData.int (ps - v - 1)] := by
          unfold celP
          rw [decide_eq_true (show 0 < v + 1 by omega), show ps - (v + 1) = ps - v - 1 by omega]
        show _ = (L.set i (v + 1)).map (celP ps)
        rw [List.map_set, e3]
      rw [Int.toNat_natCast, e]
      show SS W0 _ [some (dR p), some (dL (r.map PyData.int)), some (dI (i : Int))] [(p, papQ T p1 p2 m), (p1, Cl (celL ps (L.set i (v + 1)))), (p2, Cl (timL L))] _
      refine ss_augP (se_fld (se_var rfl ⟨0, p, _, _, _, rfl, rfl, T.cl_Paper, T.n_Paper_times_now, rfl, se_var rfl ?_⟩))
      refine ⟨2, p2, L, i, v, rfl, rfl, rfl, c0, by rw [Int.toNat_natCast]; exact hat, se_int (isI ⟨rfl, ?_⟩)⟩
      rw [Int.toNat_natCast]
      exact ⟨_, rfl, rfl⟩
    · rintro ρ' M' ⟨x, rfl, rfl⟩
      exact .frz 1 (p := p1) (ps := celL ps (addP cs r)) dN [(p, .ins T.C_Paper [(Str.ofString "cells_now", dL (celL ps (addP cs r))), (Str.ofString "times_now", dR p2), (Str.ofString "marked", dR m)]), (p2, Cl (timL (addP cs r)))] rfl (.inl rfl) (.cons ⟨rfl, rfl, .cons ⟨rfl, .inr ⟨rfl, rfl⟩⟩ (.cons ⟨rfl, .inl rfl⟩ (.cons ⟨rfl, .inl rfl⟩ .nil))⟩ (.cons ⟨rfl, subC_refl _⟩ .nil))
        (.frz 1 (p := p2) (ps := timL (addP cs r)) dN [(p, papC T ps (addP cs r) m)] rfl (.inl rfl) (.cons ⟨rfl, rfl, .cons ⟨rfl, .inl rfl⟩ (.cons ⟨rfl, .inr ⟨rfl, rfl⟩⟩ (.cons ⟨rfl, .inl rfl⟩ .nil))⟩ .nil) (.here k))
def sp_Paper_mark (T : Txt K mg) : DSp := fun ds M Kd KX => ∃ (p m : Addr) (ps : Int) (cs : List Int) (ms : List (List Int)), ds = [dR p] ∧ M = [(p, papC T ps cs m), (m, mksC ps ms)] ∧ ms.length ≤ 1000 ∧ Kd (dI (ms.length : Int)) [(p, papC T ps cs m), (m, mksC ps (ms ++ [cs]))]
theorem ok_Paper_mark (T : Txt K mg) : FnOk P w K mg base CX0 1 T.f_Paper_mark T.fd_Paper_mark ["self"] (spD (sp_Paper_mark T)) := by
  refine fnA_ok T.F_Paper_mark sc_Paper_mark (fun ds M Kd KX h => ?hl) (fun cdv A outer s0 H E hr => ⟨_, (pss_cons (ps_expr (pe_bmK (K := K) PySem.F.plainAttrs_list PySem.F.slot_list_append PySem.F.type_list_append mt_append (pe_fldK (K := K) (pv 0) rfl) (pa_cons (pe_tup (pa_cons (pe_fldK (K := K) (pv 0) rfl) (pa_cons (pe_fldK (K := K) (pv 0) rfl) pa_nil))) pa_nil)))
      (pss_one (ps_ret (pe_op op_sub (pe_callB (call_lenK (K := K)) (by rfl) T.z_len (by decide +kernel) (pa_cons (pe_fldK (K := K) (pv 0) rfl) pa_nil)) pe_int)))), fun ds M Kd KX h => ?_⟩)
  · obtain ⟨p, m, ps, cs, ms, rfl, _⟩ := h
    rfl
  · obtain ⟨p, m, ps, cs, ms, rfl, rfl, hm, k⟩ := h
    show SS W0 _ [some (dR p)] _ _
    refine ss_seq (ss_drop (se_bm (se_fld (se_var rfl ⟨0, p, _, _, _, rfl, rfl, T.cl_Paper, T.n_Paper_marked, rfl, ty_cell (i := 1) rfl, ?_⟩))))
    refine sa_cons (se_tup (sa_cons (se_fld (se_var rfl ⟨0, p, _, _, _, rfl, rfl, T.cl_Paper, T.n_Paper_cells_now, rfl, ?_⟩))))
    refine sa_cons (se_fld (se_var rfl ⟨0, p, _, _, _, rfl, rfl, T.cl_Paper, T.n_Paper_times_now, rfl, ?_⟩))
    refine sa_nil (unp rfl (Nat.le_of_ble_eq_true rfl) (sa_nil (br_append 1 rfl (by simp; omega) ?_)))
    show SS W0 _ _ [(p, papC T ps cs m), (m, .lst ((ms.map (mrkP ps)).map D.py ++ [.py (mrkP ps cs)]))] _
    rw [cl_app, show (ms.map (mrkP ps)) ++ [mrkP ps cs] = (ms ++ [cs]).map (mrkP ps) by rw [List.map_append]; rfl]
    refine ss_ret (se_op (se_cb (sa_cons (se_fld (se_var rfl ⟨0, p, _, _, _, rfl, rfl, T.cl_Paper, T.n_Paper_marked, rfl, sa_nil (cr_lenP 1 rfl ?_)⟩)))))
    refine se_int (or_sub ?_)
    rw [List.length_map, List.length_append, List.length_singleton, show ((ms.length + 1 : Nat) : Int) - 1 = ms.length by omega]
    exact .here k
def sp_Paper_strip (T : Txt K mg) : DSp := fun ds M Kd KX => ∃ (p m : Addr) (ps : Int) (cs : List Int), ds = [dR p] ∧ M = [(p, papC T ps cs m)] ∧ Kd (dL (celL ps cs)) [(p, papC T ps cs m)]
theorem ok_Paper_strip (T : Txt K mg) : FnOk P w K mg base CX0 1 T.f_Paper_strip T.fd_Paper_strip ["self"] (spD (sp_Paper_strip T)) := by
  refine fnA_ok T.F_Paper_strip sc_Paper_strip (fun ds M Kd KX h => ?hl) (fun cdv A outer s0 H E hr => ⟨_, (pss_one (ps_ret (pe_callTy (call_listK (K := K)) (by rfl) T.z_list (by decide +kernel) (pa_cons (pe_fldK (K := K) (pv 0) rfl) pa_nil)))), fun ds M Kd KX h => ?_⟩)
  · obtain ⟨p, m, ps, cs, rfl, _⟩ := h
    rfl
  · obtain ⟨p, m, ps, cs, rfl, rfl, k⟩ := h
    show SS W0 _ [some (dR p)] _ _
    refine ss_ret (se_cb (sa_cons (se_fld (se_var rfl ⟨0, p, _, _, _, rfl, rfl, T.cl_Paper, T.n_Paper_cells_now, rfl, sa_nil (cr_listD (.py _) (.here k))⟩))))
def sp_Paper_counts (T : Txt K mg) : DSp := fun ds M Kd KX => ∃ (p m : Addr) (ps : Int) (cs : List Int), ds = [dR p] ∧ M = [(p, papC T ps cs m)] ∧ Kd (dL (timL cs)) [(p, papC T ps cs m)]
theorem ok_Paper_counts (T : Txt K mg) : FnOk P w K mg base CX0 1 T.f_Paper_counts T.fd_Paper_counts ["self"] (spD (sp_Paper_counts T)) := by
  refine fnA_ok T.F_Paper_counts sc_Paper_counts (fun ds M Kd KX h => ?hl) (fun cdv A outer s0 H E hr => ⟨_, (pss_one (ps_ret (pe_callTy (call_listK (K := K)) (by rfl) T.z_list (by decide +kernel) (pa_cons (pe_fldK (K := K) (pv 0) rfl) pa_nil)))), fun ds M Kd KX h => ?_⟩)
  · obtain ⟨p, m, ps, cs, rfl, _⟩ := h
    rfl
  · obtain ⟨p, m, ps, cs, rfl, rfl, k⟩ := h
    show SS W0 _ [some (dR p)] _ _
    refine ss_ret (se_cb (sa_cons (se_fld (se_var rfl ⟨0, p, _, _, _, rfl, rfl, T.cl_Paper, T.n_Paper_times_now, rfl, sa_nil (cr_listD (.py _) (.here k))⟩))))
def sp_Paper_undo (T : Txt K mg) : DSp := fun ds M Kd KX => ∃ (p m : Addr) (ps : Int) (cs : List Int) (ms : List (List Int)) (i : Nat) (x : List Int), ds = [dR p, dI (i : Int)] ∧ M = [(p, papC T ps cs m), (m, mksC ps ms)] ∧ ms.length ≤ 1000 ∧ ms[i]? = some x ∧ ∀ m', Kd dN [(p, papC T ps x m'), (m', mksC ps (ms.take (i + 1)))]
theorem ok_Paper_undo (T : Txt K mg) : FnOk P w K mg base CX0 1 T.f_Paper_undo T.fd_Paper_undo ["self", "mark"] (spD (sp_Paper_undo T)) := by
  refine fnA_ok T.F_Paper_undo sc_Paper_undo (fun ds M Kd KX h => ?hl) (fun cdv A outer s0 H E hr => ⟨_, (pss_cons (ps_if (pt_not (pt_chain op_le op_lt pe_int (pv 1) (pe_callB (call_lenK (K := K)) (by rfl) T.z_len (by decide +kernel) (pa_cons (pe_fldK (K := K) (pv 0) rfl) pa_nil))))
      (pss_one (PL.ps_never))
      pss_nil)
      (pss_cons (ps_fld (pv 0) (pe_slice (sl_anyK (K := K)) (pe_fldK (K := K) (pv 0) rfl) po_none (po_some (pe_op op_addA (pv 1) pe_int))) rfl)
      (pss_one (ps_asg (pe_ix (ix_seqK (K := K)) (pe_fldK (K := K) (pv 0) rfl) (pe_un un_neg pe_int) (fun _ _ => rfl)) (pg_seqK (K := K) (n := 2) rfl (pgs_cons (pg_attrK (K := K) (pv 0)) (pgs_cons (pg_attrK (K := K) (pv 0)) pgs_nil))))))), fun ds M Kd KX h => ?_⟩)
  · obtain ⟨p, m, ps, cs, ms, i, x, rfl, _⟩ := h
    rfl
  · obtain ⟨p, m, ps, cs, ms, i, x, rfl, rfl, hm, hx, k⟩ := h
    have hi : i < ms.length := by
      rcases Nat.lt_or_ge i ms.length with h | h
      · exact h
      · rw [List.getElem?_eq_none h] at hx; cases hx
    show SS W0 _ [some (dR p), some (dI (i : Int))] _ _
    refine ss_seq (ss_if ?_)
    walk_at "s"
    refine se_fld (se_var rfl ⟨0, p, _, _, _, rfl, rfl, T.cl_Paper, T.n_Paper_marked, rfl, sa_nil (cr_lenP 1 rfl ?_)⟩)
    rw [List.length_map]
    walk_at "s"
    refine br_T (decide_eq_true (by omega)) (ss_next ?_)
    have hlast : ((ms.take (i + 1)).map (mrkP ps)).getLast? = some (mrkP ps x) := by
      rw [List.getLast?_eq_getElem?, List.length_map, List.length_take, Nat.min_eq_left hi]
      rw [List.getElem?_map, show i.succ - 1 = i from rfl, List.getElem?_take_of_lt (by omega), hx]
      rfl
    refine ss_seq <| ss_fld <| se_sl <| se_fld <| se_var rfl ⟨0, p, _, _, _, rfl, rfl, T.cl_Paper, T.n_Paper_marked, rfl, ?_⟩
    refine so_none <| so_some <| se_op <| se_var rfl <| se_int <| or_addI <| isI <| lr_VC (ps := ms.map (mrkP ps)) (.cell 1 rfl) fun m' => ?_
    rw [show ((i : Int) + 1) = ((i + 1 : Nat) : Int) by omega, cutP_to (by omega), Int.toNat_natCast, ← List.map_take]
    refine se_var rfl ⟨0, p, _, _, rfl, rfl, T.cl_Paper, T.n_Paper_marked, (by show (3 : Nat) < 1000; decide), ?_⟩
    refine ss_letgo 1 ?_
    show SS W0 _ [some (dR p), some (dI (i : Int))] [(p, papC T ps cs m'), (m', mksC ps (ms.take (i + 1)))] _
    refine ss_asg (se_op (se_fld (se_var rfl ⟨0, p, _, _, _, rfl, rfl, T.cl_Paper, T.n_Paper_marked, rfl, se_un (se_int (ur_neg (or_ixEC 1 rfl hlast ?_)))⟩)))
    refine sg_seqT rfl (sgs_cons (sg_attr (se_var rfl ⟨0, p, _, _, rfl, rfl, T.cl_Paper, T.n_Paper_cells_now, (by show (3 : Nat) < 1000; decide), ?_⟩)))
    refine sgs_cons (sg_attr (se_var rfl ⟨0, p, _, _, rfl, rfl, T.cl_Paper, T.n_Paper_times_now, (by show (3 : Nat) < 1000; decide), sgs_nil ?_⟩))
    exact .here (k m')
def sp_Paper_punch (T : Txt K mg) : DSp := fun ds M Kd KX => ∃ (p m : Addr) (ps : Int) (cs b : List Int) (s : Int), ds = [dR p, HoD b, dI s] ∧ M = [(p, papC T ps cs m)] ∧ Fold cs.length b ∧ (∀ c ∈ cs, 0 ≤ c) ∧ FS.atP b cs.length s ≠ [] ∧ (∀ c ∈ FS.atP b cs.length s, cs.getD c.toNat 0 ≠ ps) ∧ Kd (HoD (FS.atP b cs.length s)) [(p, papC T ps (addP cs (FS.atP b cs.length s)) m)]
theorem ok_Paper_punch (T : Txt K mg) : FnOk P w K mg base CX0 5 T.f_Paper_punch T.fd_Paper_punch ["self", "folds", "place"] (spD (sp_Paper_punch T)) := by
  refine fnA_ok T.F_Paper_punch sc_Paper_punch (fun ds M Kd KX h => ?hl) (fun cdv A outer s0 H E hr => ⟨_, (pss_cons (ps_set (i := 3) sc_Paper_punch.nd rfl (by first | exact Or.inl rfl | exact Or.inr rfl) (pe_call (ok_cells_at T) hr (by rfl) T.g_cells_at T.F_cells_at.kp T.b_cells_at .nil pass0 (pa_cons (pe_callB (call_lenK (K := K)) (by rfl) T.z_len (by decide +kernel) (pa_cons (pe_fldK (K := K) (pv 0) rfl) pa_nil)) (pa_cons (pv 1) (pa_cons (pv 2) pa_nil)))))
      (pss_cons (ps_if (pt_cmpR (op_eqK (K := K) hr.units) (pv 3) (pe_lst pa_nil) (nomark _))
      (pss_one (PL.ps_never))
      pss_nil)
      (pss_cons (ps_setLc (i := 4) (own := [("cell", 5)]) rfl sc_Paper_punch.nd rfl rfl (sw_true rfl rfl rfl (by decide +kernel)) (pi_anyK (K := K) (pv 3)) (blkOk_by (own := [("cell", 5)]) (N := ["self", "folds", "place", "found", "worn", "cell"]) (sc := defScope s_Paper_punch) (by decide +kernel)) (fun _ _ _ _ _ => pg_name (i := 5) sc_Paper_punch.nd rfl (by first | exact Or.inl rfl | exact Or.inr rfl)) (fun _ _ _ _ _ => pts_one (pt_cmpR (op_eqK (K := K) hr.units) (pe_ix (ix_seqK (K := K)) (pe_ix (ix_seqK (K := K)) (pe_fldK (K := K) (pv 0) rfl) (pv 5) (fun _ _ => rfl)) pe_int (fun _ _ => rfl)) pe_int (nomark _))) (fun _ _ _ _ _ => pv 5))
      (pss_cons (ps_if (pt_cmpR (op_neK (K := K) hr.units) (pv 4) (pe_lst pa_nil) (nomark _))
      (pss_one (PL.ps_never))
      pss_nil)
      (pss_cons (ps_expr (pe_meth (pv 0) T.cl_Paper T.m_Paper_hit (ok_Paper_hit T) (hr.mono (by decide)) T.b_Paper_hit .nil pass0 (pa_cons (pv 3) pa_nil)))
      (pss_one (ps_ret (pv 3)))))))), fun ds M Kd KX h => ?_⟩)
  · obtain ⟨p, m, ps, cs, b, s, rfl, _⟩ := h
    rfl
  · obtain ⟨p, m, ps, cs, b, s, rfl, rfl, hf, h0, hne, hw, k⟩ := h
    have n2 := hf.n2
    show SS W0 _ [some (dR p), some (HoD b), some (dI s), none, none, none] _ _
    refine ss_seq (ss_set (se_call0 0 (sa_cons (se_cb (sa_cons (se_fld (se_var rfl ⟨0, p, _, _, _, rfl, rfl, T.cl_Paper, T.n_Paper_cells_now, rfl, sa_nil (cr_len ?_)⟩)))))))
    rw [List.length_map]
    refine sa_cons (se_var rfl (sa_cons (se_var rfl (sa_nil ⟨cs.length, b, s, rfl, rfl, hf, ?_⟩))))
    have hrg := FS.atP_rg (b := b) (n := cs.length) (s := s)
    have hl : (FS.atP b cs.length s).length ≤ 200 := by
      unfold FS.atP
      rw [List.length_map]
      exact Nat.le_trans (List.length_filter_le _ _) (by rw [List.length_range]; exact n2)
    obtain ⟨L, hL⟩ : ∃ L, FS.atP b cs.length s = L := ⟨_, rfl⟩
    rw [hL] at hne hw k hrg hl ⊢
    show SS W0 _ [some (dR p), some (HoD b), some (dI s), some (HoD L), none, none] [(p, papC T ps cs m)] _
    refine ss_seq (ss_if ?_)
    refine st_test (se_op (se_var rfl (se_lst0 (or_eqNil (layI _) (isB (br_F (decide_eq_false fun e => hne (List.map_eq_nil_iff.mp e)) (ss_next ?_)))))))
    have hfil : L.filter (fun c => decide (ps - cs.getD c.toNat 0 = 0)) = [] := by
      rw [List.filter_eq_nil_iff]
      intro c hc
      have := hw c hc
      rw [decide_eq_true_eq]
      omega
    refine ss_seq (ss_asg (se_lcF (xs := L) (M2 := [(p, papC T ps cs m)]) (fun c => decide (ps - cs.getD c.toNat 0 = 0)) PyData.int (by walk_at "g") (src_L PyData.int L (se_var rfl ⟨rfl, rfl⟩)) (by omega) ?_ ?_))
    · rintro pre c post hx
      obtain ⟨c0, c1⟩ := hrg c (by rw [hx]; simp)
      have hat : cs[c.toNat]? = some (cs.getD c.toNat 0) := by
        rw [List.getD_eq_getElem?_getD, List.getElem?_eq_getElem (by omega)]
        rfl
      refine sg_name (st_test (se_op (se_op (se_op (se_fld (se_var rfl ⟨0, p, _, _, _, rfl, rfl, T.cl_Paper, T.n_Paper_cells_now, rfl, se_var rfl ?_⟩))))))
      refine or_ixP (celP ps) c0 hat (se_int (or_ixT (p := .int (ps - cs.getD c.toNat 0)) rfl (se_int (or_eqAI (isB ?_)))))
      exact ⟨rfl, rfl, fun _ => se_var rfl ⟨rfl, rfl⟩⟩
    rw [hfil]
    refine sg_name (ss_seq (ss_if (st_test (se_op (se_var rfl (se_lst0 (or_neNil (by intro p hp; cases hp) (isB (br_F rfl (ss_next ?_))))))))))
    refine ss_seq (ss_drop (se_meth0 1 (se_var rfl ⟨0, p, _, rfl, rfl, rfl, ?_⟩)))
    refine sa_cons (se_var rfl (sa_nil ⟨p, m, ps, cs, L, rfl, rfl, n2, hl, hrg, h0, ?_⟩))
    exact ss_ret (se_var rfl (.here k))

--nofm
theorem pow3_ok {i : Int} (h0 : 0 ≤ i) (h1 : i < 2 ^ 250) : CPowW i 3 := by
  refine ⟨by decide, by decide, ?_⟩
  have e : (2 : Int) ^ 250 < 2 ^ 1000 := by decide +kernel
  have h2 : ((2 ^ 1000 : Nat) : Int) = 2 ^ 1000 := by rw [Int.natCast_pow]; rfl
  have h3 : (i.natAbs : Int) = i := Int.natAbs_of_nonneg h0
  have h4 : (i.natAbs : Int) < ((2 ^ 1000 : Nat) : Int) := by rw [h2, h3]; exact Int.lt_trans h1 e
  exact Int.ofNat_lt.mp h4
/-- the draws' list -/
structure Bag where
  xs : List Int
  a : Int
  b : Int
  c : Int
  d : Int
abbrev bagC (g : Bag) : Cell := .lst [dL (g.xs.map PyData.int), dI g.a, dI g.b, dI g.c, dI g.d]
structure OkB (n : Nat) (g : Bag) : Prop where
  l : g.xs.length ≤ 63
  x : ∀ x ∈ g.xs, 0 ≤ x
  a0 : 0 ≤ g.a
  b0 : 0 ≤ g.b
  c0 : 0 ≤ g.c
  c1 : g.c < 2147483647
  d0 : 0 ≤ g.d
  d1 : g.d ≤ n
theorem OkB.mono {n m : Nat} {g : Bag} (h : OkB n g) (hm : n ≤ m) : OkB m g := ⟨h.l, h.x, h.a0, h.b0, h.c0, h.c1, h.d0, Int.le_trans h.d1 (by omega)⟩
theorem cutP_take {α : Type} (xs : List α) (k : Nat) : cutP xs none (some (k : Int)) = xs.take k := by rw [cutP_to (by omega), Int.toNat_natCast]
def sp_law_bag (T : Txt K mg) : DSp := fun ds M Kd KX => ∃ (ns : List Int), ds = [.sq K (ns.map V.int)] ∧ M = [] ∧ ∀ p g, OkB 0 g → Kd (dR p) [(p, bagC g)]
theorem ok_law_bag (T : Txt K mg) : FnOk P w K mg base CX0 1 T.f_law_bag T.fd_law_bag ["script"] (spD (sp_law_bag T)) := by
  refine fn_ok T.F_law_bag sc_law_bag (fun ds M Kd KX h => ?hl) (fun cdv A outer s0 H E hr => ⟨_, (pss_cons (ps_set (i := 1) sc_law_bag.nd rfl (by first | exact Or.inl rfl | exact Or.inr rfl) pe_int)
      (pss_cons (ps_for PassesOwn.never rfl (pi_anyK (K := K) (pe_slice (sl_anyK (K := K)) (pv 0) po_none (po_some pe_int))) (pg_name (i := 2) sc_law_bag.nd rfl (by first | exact Or.inl rfl | exact Or.inr rfl))
      (pss_one (ps_set (i := 1) sc_law_bag.nd rfl (by first | exact Or.inl rfl | exact Or.inr rfl) (pe_op op_mod (pe_op op_addA (pe_op op_addA (pe_op op_mulA (pv 1) pe_int) (pe_op op_mod (pv 2) pe_int)) pe_int) pe_int))))
      (pss_one (ps_ret (pe_lst (pa_cons (pe_lc (own := [("cell", 2)]) rfl sc_law_bag.nd (pi_anyK (K := K) (pe_slice (sl_anyK (K := K)) (pv 0) po_none (po_some pe_int))) (blkOk_by (own := [("cell", 2)]) (N := ["script", "stir", "cell"]) (sc := defScope s_law_bag) (by decide +kernel)) (fun _ _ _ _ _ => pg_name (i := 2) sc_law_bag.nd rfl (by first | exact Or.inl rfl | exact Or.inr rfl)) (fun _ _ _ _ _ => pts_nil) (fun _ _ _ _ _ => pe_op op_mod (pe_callB call_abs' (by rfl) T.z_abs (by decide +kernel) (pa_cons (pv 2) pa_nil)) (pe_op op_powW (pe_op op_powW pe_int pe_int) pe_int))) (pa_cons pe_int (pa_cons pe_int (pa_cons (pv 1) (pa_cons pe_int pa_nil)))))))))), fun ds M Kd KX h => ?_⟩)
  · obtain ⟨ns, rfl, _⟩ := h
    rfl
  · obtain ⟨ns, rfl, rfl, k⟩ := h
    show SS W0 _ [some (.sq K (ns.map V.int)), none, none] [] _
    refine ss_seq (ss_set (se_int ?_))
    refine ss_seq (ss_forL PyData.int (ns.take 63) (fun pre ρ' M' => ∃ (s : Int) (x2 : Option D), ρ' = [some (.sq K (ns.map V.int)), some (dI s), x2] ∧ M' = [] ∧ 0 ≤ s ∧ s < 2147483647) ?_ ⟨?_, ?_⟩)
    · refine se_sl (se_var rfl (so_none (so_some (se_int (isI (lr_Q ?_))))))
      rw [show (63 : Int) = ((63 : Nat) : Int) from rfl, cutP_take]
      exact ⟨rfl, 59, _, rfl, rfl, by decide, by decide⟩
    · rintro pre x post ρ' M' hx ⟨s, x2, rfl, rfl, s0, s1⟩
      refine sg_name (ss_set (se_op (se_op (se_op (se_op (se_var rfl (se_int ?_)))))))
      refine or_mulI (mulOk_r (by decide) (by decide)) ?_
      refine se_op (se_var rfl (se_int (or_mod (by decide) (or_addI (se_int (or_addI (se_int (or_mod (by decide) ?_))))))))
      exact ⟨_, _, rfl, rfl, Int.emod_nonneg _ (by decide), Int.emod_lt_of_pos _ (by decide)⟩
    · rintro ρ' M' ⟨s, x2, rfl, rfl, s0, s1⟩
      refine ss_ret (se_lstC (sa_cons ?_))
      have e600 : (0 : Int) < (10 ^ Int.toNat 60) ^ Int.toNat 10 := by decide +kernel
      refine se_lcM (xs := ns.take 63) (M2 := []) (fun x => .int ((if x < 0 then -x else x) % ((10 ^ Int.toNat 60) ^ Int.toNat 10))) (by walk_at "g") (src_L PyData.int (ns.take 63) ?_) (by rw [List.length_take]; omega) ?_ ?_
      · refine se_sl (se_var rfl (so_none (so_some (se_int (isI (lr_Q ?_))))))
        rw [show (63 : Int) = ((63 : Nat) : Int) from rfl, cutP_take]
        exact ⟨rfl, rfl⟩
      · rintro pre x post hx
        refine sg_name (se_op (se_cb (sa_cons (se_var rfl (sa_nil (cr_abs ?_))))))
        refine se_op (se_op (se_int (se_int (or_pow ⟨by decide, by decide, by decide⟩ (se_int (or_pow ⟨by decide, by decide, by decide +kernel⟩ (or_mod e600 ?_)))))))
        exact ⟨rfl, rfl, rfl⟩
      · refine sa_cons (se_int (sa_cons (se_int (sa_cons (se_var rfl (sa_cons (se_int (sa_nil ⟨by simp, fun p => ?_⟩))))))))
        have e : (ns.take 63).map (fun x => PyData.int ((if x < 0 then -x else x) % ((10 ^ Int.toNat 60) ^ Int.toNat 10))) = ((ns.take 63).map fun x => (if x < 0 then -x else x) % ((10 ^ Int.toNat 60) ^ Int.toNat 10)).map PyData.int := by rw [List.map_map]; rfl
        rw [e]
        refine Ret.cell rfl (k p ⟨(ns.take 63).map fun x => (if x < 0 then -x else x) % ((10 ^ Int.toNat 60) ^ Int.toNat 10), 0, 0, s, 0⟩ ⟨by rw [List.length_map, List.length_take]; omega, fun x hx => ?_, Int.le_refl 0, Int.le_refl 0, s0, s1, Int.le_refl 0, Int.le_refl 0⟩)
        obtain ⟨y, _, rfl⟩ := List.mem_map.mp hx
        exact Int.emod_nonneg _ (Int.ne_of_gt e600)
def sp_law_stirred (T : Txt K mg) : DSp := fun ds M Kd KX => ∃ (p : Addr) (w : Int) (g : Bag) (n : Nat), ds = [dR p, dI w] ∧ M = [(p, bagC g)] ∧ OkB n g ∧ n ≤ 10 ^ 18 ∧ 0 < w ∧ w ≤ 1000 ∧ ∀ r g', 0 ≤ r → r < w → OkB (n + 1) g' → Kd (dI r) [(p, bagC g')]
theorem ok_law_stirred (T : Txt K mg) : FnOk P w K mg base CX0 1 T.f_law_stirred T.fd_law_stirred ["bag", "wide"] (spD (sp_law_stirred T)) := by
  refine fn_ok T.F_law_stirred sc_law_stirred (fun ds M Kd KX h => ?hl) (fun cdv A outer s0 H E hr => ⟨_, (pss_cons (ps_set (i := 2) sc_law_stirred.nd rfl (by first | exact Or.inl rfl | exact Or.inr rfl) pe_int)
      (pss_cons (ps_for PassesOwn.never rfl (pi_range1 (by rfl) T.z_range (pa_cons (pe_op op_addA pe_int (pe_op op_fdivW (pe_bits (pv 1)) pe_int)) pa_nil)) (pg_name (i := 3) sc_law_stirred.nd rfl (by first | exact Or.inl rfl | exact Or.inr rfl))
      (pss_cons (ps_asg (pe_op op_addA (pe_ix (ix_seqK (K := K)) (pv 0) pe_int (fun _ _ => rfl)) pe_int) (pg_sub (pv 0) pe_int set_list))
      (pss_cons (ps_asg (pe_op op_mod (pe_op op_addA (pe_op op_addA (pe_op op_addA (pe_op op_powW (pe_ix (ix_seqK (K := K)) (pv 0) pe_int (fun _ _ => rfl)) pe_int) (pe_op op_mulA pe_int (pe_ix (ix_seqK (K := K)) (pv 0) pe_int (fun _ _ => rfl)))) (pe_op op_mulA pe_int (pe_ix (ix_seqK (K := K)) (pv 0) pe_int (fun _ _ => rfl)))) pe_int) pe_int) (pg_sub (pv 0) pe_int set_list))
      (pss_one (ps_set (i := 2) sc_law_stirred.nd rfl (by first | exact Or.inl rfl | exact Or.inr rfl) (pe_op op_addA (pe_op op_mulA (pv 2) pe_int) (pe_op op_fdivW (pe_ix (ix_seqK (K := K)) (pv 0) pe_int (fun _ _ => rfl)) pe_int)))))))
      (pss_one (ps_ret (pe_op op_mod (pv 2) (pv 1)))))), fun ds M Kd KX h => ?_⟩)
  · obtain ⟨p, w, g, n, rfl, _⟩ := h
    rfl
  · obtain ⟨p, w, g, n, rfl, rfl, ok, hn, w0, w1, k⟩ := h
    obtain ⟨xs, ga, gb, gc, gd⟩ := g
    have hb : Builtin.Int.intBits w ≤ 10 := bits_small (n := 10) (by
      have e : (2 : Nat) ^ 10 = 1024 := by decide
      omega)
    obtain ⟨hl, hx, a0, b0, c0, c1, d0, d1⟩ := ok
    dsimp only at hl hx a0 b0 c0 c1 d0 d1
    have hn' : (n : Int) ≤ 10 ^ 18 := by exact_mod_cast hn
    show SS W0 _ [some (dR p), some (dI w), none, none] [(p, .lst [dL (xs.map PyData.int), dI ga, dI gb, dI gc, dI gd])] _
    refine ss_seq (ss_set (se_int ?_))
    refine ss_seq (ss_forX (xs := List.range 1) (M2 := [(p, .lst [dL (xs.map PyData.int), dI ga, dI gb, dI gc, dI gd])]) (fun pre ρ' M' => ∃ (f : Int) (x3 : Option D) (g' : Bag), ρ' = [some (dR p), some (dI w), some (dI f), x3] ∧ M' = [(p, bagC g')] ∧ OkB (n + pre.length) g') (src_R1 1 ?_) ⟨0, _, ⟨xs, ga, gb, gc, gd⟩, rfl, rfl, ⟨hl, hx, a0, b0, c0, c1, d0, d1⟩⟩ ⟨?_, ?_⟩)
    · refine sa_cons (se_op (se_int (se_op (se_bits (se_var rfl (isI (se_int ?_)))))))
      refine or_fdiv (fdiv_ok (j := 27) (by decide) (by decide)) (or_addI ?_)
      exact sa_nil ⟨_, rfl, by omega, by omega, by omega, rfl⟩
    · rintro pre t post ρ' M' hx2 ⟨f, x3, ⟨ys, ha, hb2, hc, hd⟩, rfl, rfl, ⟨hl, hx, a0, b0, c0, c1, d0, d1⟩⟩
      have hpl : pre.length < 1 := by
        have := congrArg List.length hx2
        simp at this
        omega
      dsimp only at hl hx a0 b0 c0 c1 d0 d1
      refine sg_name ?_
      show SS W0 _ [some (dR p), some (dI w), some (dI f), some (dI (t : Int))] [(p, .lst [dL (ys.map PyData.int), dI ha, dI hb2, dI hc, dI hd])] _
      refine ss_seq (ss_asg (se_op (se_op (se_var rfl (se_int (or_ixC 0 rfl rfl (se_int (or_addI ?_))))))))
      refine sg_setL (se_var rfl (se_int ⟨0, _, _, _, _, rfl, rfl, rfl, rfl, ?_⟩))
      show SS W0 _ [some (dR p), some (dI w), some (dI f), some (dI (t : Int))] [(p, .lst [dL (ys.map PyData.int), dI ha, dI hb2, dI hc, dI (hd + 1)])] _
      refine ss_seq (ss_asg (se_op (se_op (se_op (se_op (se_op (se_op (se_var rfl (se_int (or_ixC 0 rfl rfl ?_)))))))))) 
      refine se_int (or_pow (pow3_ok c0 (Int.lt_trans c1 (by decide))) ?_)
      refine se_op (se_int (se_op (se_var rfl (se_int (or_ixC 0 rfl rfl ?_)))))
      refine or_mulI (mulOk_l (by decide) (by decide)) (or_addI ?_)
      refine se_op (se_int (se_op (se_var rfl (se_int (or_ixC 0 rfl rfl ?_)))))
      refine or_mulI (mulOk_l (by decide) (by decide)) (or_addI ?_)
      refine se_int (or_addI (se_int (or_mod (by decide) ?_)))
      refine sg_setL (se_var rfl (se_int ⟨0, _, _, _, _, rfl, rfl, rfl, rfl, ?_⟩))
      have m0 := Int.emod_nonneg (hc ^ Int.toNat 3 + 69621 * hc + 1031 * (hd + 1) + 1) (b := 2147483647) (by decide)
      have m1 := Int.emod_lt_of_pos (hc ^ Int.toNat 3 + 69621 * hc + 1031 * (hd + 1) + 1) (b := 2147483647) (by decide)
      obtain ⟨q, hq⟩ : ∃ q, (hc ^ Int.toNat 3 + 69621 * hc + 1031 * (hd + 1) + 1) % 2147483647 = q := ⟨_, rfl⟩
      rw [hq] at m0 m1 ⊢
      show SS W0 _ [some (dR p), some (dI w), some (dI f), some (dI (t : Int))] [(p, .lst [dL (ys.map PyData.int), dI ha, dI hb2, dI q, dI (hd + 1)])] _
      refine ss_set (se_op (se_op (se_var rfl (se_int (or_mulI (mulOk_r (by decide) (by decide)) ?_)))))
      refine se_op (se_op (se_var rfl (se_int (or_ixC 0 rfl rfl (se_int (or_fdiv (fdiv_ok (by decide) (by decide)) (or_addI ?_)))))))
      exact ⟨_, _, ⟨ys, ha, hb2, q, hd + 1⟩, rfl, rfl, ⟨hl, hx, a0, b0, m0, m1, by dsimp only; omega, by dsimp only; rw [List.length_append]; simp; omega⟩⟩
    · rintro ρ' M' ⟨f, x3, g', rfl, rfl, ok'⟩
      rw [List.length_range] at ok'
      refine ss_ret (se_op (se_var rfl (se_var rfl (or_mod w0 ?_))))
      exact Ret.py (k _ g' (Int.emod_nonneg _ (Int.ne_of_gt w0)) (Int.emod_lt_of_pos _ w0) ok')
def sp_law_draw (T : Txt K mg) : DSp := fun ds M Kd KX => ∃ (p : Addr) (w : Int) (g : Bag) (n : Nat), ds = [dR p, dI w] ∧ M = [(p, bagC g)] ∧ OkB n g ∧ n ≤ 10 ^ 18 ∧ 0 < w ∧ w ≤ 1000 ∧ ∀ r g', 0 ≤ r → r < w → OkB (n + 1) g' → Kd (dI r) [(p, bagC g')]
theorem ok_law_draw (T : Txt K mg) : FnOk P w K mg base CX0 2 T.f_law_draw T.fd_law_draw ["bag", "wide"] (spD (sp_law_draw T)) := by
  refine fn_ok T.F_law_draw sc_law_draw (fun ds M Kd KX h => ?hl) (fun cdv A outer s0 H E hr => ⟨_, (pss_cons (ps_if (PW.pt (pw_and (pt_cmpR (op_eqK (K := K) hr.units) (pe_ix (ix_seqK (K := K)) (pv 0) pe_int (fun _ _ => rfl)) pe_int (nomark _)) (pw_and1 (pt_cmpR op_lt (pe_ix (ix_seqK (K := K)) (pv 0) pe_int (fun _ _ => rfl)) (pe_callB (call_lenK (K := K)) (by rfl) T.z_len (by decide +kernel) (pa_cons (pe_ix (ix_seqK (K := K)) (pv 0) pe_int (fun _ _ => rfl)) pa_nil)) (nomark _)))))
      (pss_cons (ps_asg (pe_ix (ix_seqK (K := K)) (pe_ix (ix_seqK (K := K)) (pv 0) pe_int (fun _ _ => rfl)) (pe_ix (ix_seqK (K := K)) (pv 0) pe_int (fun _ _ => rfl)) (fun _ _ => rfl)) (pg_sub (pv 0) pe_int set_list))
      (pss_one (ps_asg (pe_op op_addA (pe_ix (ix_seqK (K := K)) (pv 0) pe_int (fun _ _ => rfl)) pe_int) (pg_sub (pv 0) pe_int set_list))))
      (pss_one (ps_if (pt_cmpR (op_eqK (K := K) hr.units) (pe_ix (ix_seqK (K := K)) (pv 0) pe_int (fun _ _ => rfl)) pe_int (nomark _))
      (pss_one (ps_ret (pe_call (ok_law_stirred T) hr (by rfl) T.g_law_stirred T.F_law_stirred.kp T.b_law_stirred .nil pass0 (pa_cons (pv 0) (pa_cons (pv 1) pa_nil)))))
      pss_nil)))
      (pss_cons (ps_set (i := 2) sc_law_draw.nd rfl (by first | exact Or.inl rfl | exact Or.inr rfl) (pe_op op_mod (pe_ix (ix_seqK (K := K)) (pv 0) pe_int (fun _ _ => rfl)) (pv 1)))
      (pss_cons (ps_asg (pe_op op_fdivW (pe_ix (ix_seqK (K := K)) (pv 0) pe_int (fun _ _ => rfl)) (pv 1)) (pg_sub (pv 0) pe_int set_list))
      (pss_one (ps_ret (pv 2)))))), fun ds M Kd KX h => ?_⟩)
  · obtain ⟨p, w, g, n, rfl, _⟩ := h
    rfl
  · obtain ⟨p, w, g, n, rfl, rfl, ok, hn, w0, w1, k⟩ := h
    obtain ⟨xs, ga, gb, gc, gd⟩ := g
    have ok0 := ok
    obtain ⟨hl, hx, a0, b0, c0, c1, d0, d1⟩ := ok
    dsimp only at hl hx a0 b0 c0 c1 d0 d1
    have wb : w < 2 ^ 8000 := Int.lt_of_le_of_lt w1 (by decide +kernel)
    show SS W0 _ [some (dR p), some (dI w), none] [(p, .lst [dL (xs.map PyData.int), dI ga, dI gb, dI gc, dI gd])] _
    refine ss_mid (Q := fun ρ' M' => ∃ a b : Int, 0 ≤ a ∧ 0 ≤ b ∧ ρ' = [some (dR p), some (dI w), none] ∧ M' = [(p, .lst [dL (xs.map PyData.int), dI a, dI b, dI gc, dI gd])]) ?_ ?_
    · refine ss_if <| st_and <| st_test <| se_op <| se_op <| se_var rfl <| se_int <| or_ixC 0 rfl rfl <| se_int <| or_eqAI <| isB ?_
      by_cases hb0 : gb = 0
      · refine br_T (decide_eq_true hb0) <| st_test <| se_op <| se_op <| se_var rfl <| se_int <| or_ixC 0 rfl rfl ?_
        refine se_cb <| sa_cons <| se_op <| se_var rfl <| se_int <| or_ixC 0 rfl rfl <| sa_nil <| cr_len ?_
        rw [List.length_map]
        refine or_cmp (isB (br_dec (fun g1 => ?_) fun g1 => ?_))
        · obtain ⟨y, hy⟩ : ∃ y, xs[ga.toNat]? = some y := ⟨_, List.getElem?_eq_getElem (by omega)⟩
          refine ss_seq <| ss_asg <| se_op <| se_op <| se_var rfl <| se_int <| or_ixC 0 rfl rfl <| se_op <| se_var rfl <| se_int <| or_ixC 0 rfl rfl <| or_ixP PyData.int a0 hy ?_
          refine sg_setL (se_var rfl (se_int ⟨0, _, _, _, _, rfl, rfl, rfl, rfl, ?_⟩))
          show SS W0 _ _ [(p, .lst [dL (xs.map PyData.int), dI ga, dI y, dI gc, dI gd])] _
          refine ss_asg <| se_op <| se_op <| se_var rfl <| se_int <| or_ixC 0 rfl rfl <| se_int <| or_addI ?_
          refine sg_setL (se_var rfl (se_int ⟨0, _, _, _, _, rfl, rfl, rfl, rfl, ?_⟩))
          exact ⟨ga + 1, y, by omega, hx y (List.mem_of_getElem? hy), rfl, rfl⟩
        · refine ss_if <| st_test <| se_op <| se_op <| se_var rfl <| se_int <| or_ixC 0 rfl rfl <| se_int <| or_eqAI <| isB <| br_T (decide_eq_true hb0) ?_
          refine ss_ret (se_call0 1 (sa_cons (se_var rfl (sa_cons (se_var rfl (sa_nil ⟨p, w, ⟨xs, ga, gb, gc, gd⟩, n, rfl, rfl, ok0, hn, w0, w1, fun r g' r0 r1 ok' => ?_⟩))))))
          exact Ret.py (k r g' r0 r1 ok')
      · refine br_F (decide_eq_false hb0) (br_F rfl ?_)
        refine ss_if <| st_test <| se_op <| se_op <| se_var rfl <| se_int <| or_ixC 0 rfl rfl <| se_int <| or_eqAI <| isB <| br_F (decide_eq_false hb0) ?_
        exact ss_next ⟨ga, gb, a0, b0, rfl, rfl⟩
    rintro ρ' M' ⟨a, b, a0', b0', rfl, rfl⟩
    refine ss_seq <| ss_set <| se_op <| se_op <| se_var rfl <| se_int <| or_ixC 0 rfl rfl <| se_var rfl <| or_mod w0 ?_
    refine ss_seq <| ss_asg <| se_op <| se_op <| se_var rfl <| se_int <| or_ixC 0 rfl rfl <| se_var rfl <| or_fdiv (fdiv_ok w0 wb) ?_
    refine sg_setL (se_var rfl (se_int ⟨0, _, _, _, _, rfl, rfl, rfl, rfl, ?_⟩))
    refine ss_ret (se_var rfl ?_)
    exact Ret.py (k _ ⟨xs, a, b / w, gc, gd⟩ (Int.emod_nonneg _ (Int.ne_of_gt w0)) (Int.emod_lt_of_pos _ w0) ⟨hl, hx, a0', Int.ediv_nonneg b0' (Int.le_of_lt w0), c0, c1, d0, by dsimp only; omega⟩)
theorem draw_s {T : Txt K mg} {p : Addr} {w : Int} {g : Bag} {n : Nat} {Kd : D → Cells → Prop} {KX : XD → Cells → Prop} (ok : OkB n g) (hn : n ≤ 10 ^ 18) (w0 : 0 < w) (w1 : w ≤ 1000)
    (k : ∀ r g', 0 ≤ r → r < w → OkB (n + 1) g' → Kd (dI r) [(p, bagC g')]) : sp_law_draw T [dR p, dI w] [(p, bagC g)] Kd KX := ⟨p, w, g, n, rfl, rfl, ok, hn, w0, w1, k⟩

--nofm
inductive Scl : PyData → Prop
  | int (i : Int) : Scl (.int i)
  | bool (b : Bool) : Scl (.bool b)
/-- things within things, so deep -/
def alk : Nat → PyData → Prop
  | 0, d => Scl d
  | n + 1, d => Scl d ∨ ∃ ps : List PyData, (d = .list ps ∨ d = .tuple ps) ∧ ps.length ≤ 1000 ∧ ∀ p ∈ ps, alk n p
theorem alk_up : ∀ {n : Nat} {d : PyData}, alk n d → alk (n + 1) d
  | 0, _, h => .inl h
  | n + 1, _, .inl h => .inl h
  | n + 1, _, .inr ⟨ps, h1, h2, h3⟩ => .inr ⟨ps, h1, h2, fun p hp => alk_up (h3 p hp)⟩
def sp_law_alike (T : Txt K mg) : Nat → DSp
  | 0 => fun _ _ _ _ => False
  | n + 1 => fun ds M Kd KX => ∃ d, ds = [.py d, .py d] ∧ M = [] ∧ alk n d ∧ Kd (dB true) []
theorem ok_law_alike (T : Txt K mg) (n : Nat) : FnOk P w K mg base CX0 (n + 1) T.f_law_alike T.fd_law_alike ["found", "due"] (spD (sp_law_alike T n)) := by
  induction n with
  | zero =>
    refine fn_ok T.F_law_alike sc_law_alike (fun ds M Kd KX h => False.elim h) (fun cdv A outer s0 H E hr => ⟨_, (pss_cons (ps_if (pt_val (pe_callB (call_isiTK (K := K)) (by rfl) T.z_isinstance (by decide +kernel) (pa_cons (pv 1) (pa_cons (pe_tup (pa_cons (pe_bltn (v := .ty "list") (u := .type "list") (by rfl) T.z_list (by decide +kernel) rfl) (pa_cons (pe_bltn (v := .ty "tuple") (u := .type "tuple") (by rfl) T.z_tuple (by decide +kernel) rfl) pa_nil))) pa_nil))))
      (pss_cons (ps_if (PW.pt (pw_or (pt_not (pt_val (pe_callB (call_isiTK (K := K)) (by rfl) T.z_isinstance (by decide +kernel) (pa_cons (pv 0) (pa_cons (pe_tup (pa_cons (pe_bltn (v := .ty "list") (u := .type "list") (by rfl) T.z_list (by decide +kernel) rfl) (pa_cons (pe_bltn (v := .ty "tuple") (u := .type "tuple") (by rfl) T.z_tuple (by decide +kernel) rfl) pa_nil))) pa_nil))))) (pw_or1 (pt_cmpR (op_neK (K := K) hr.units) (pe_callB (call_isiK (K := K)) (by rfl) T.z_isinstance (by decide +kernel) (pa_cons (pv 0) (pa_cons (pe_bltn (v := .ty "list") (u := .type "list") (by rfl) T.z_list (by decide +kernel) rfl) pa_nil))) (pe_callB (call_isiK (K := K)) (by rfl) T.z_isinstance (by decide +kernel) (pa_cons (pv 1) (pa_cons (pe_bltn (v := .ty "list") (u := .type "list") (by rfl) T.z_list (by decide +kernel) rfl) pa_nil))) (nomark _)))))
      (pss_one (ps_ret pe_bl))
      pss_nil)
      (pss_cons (ps_if (pt_cmpR (op_neK (K := K) hr.units) (pe_callB (call_lenK (K := K)) (by rfl) T.z_len (by decide +kernel) (pa_cons (pv 0) pa_nil)) (pe_callB (call_lenK (K := K)) (by rfl) T.z_len (by decide +kernel) (pa_cons (pv 1) pa_nil)) (nomark _))
      (pss_one (ps_ret pe_bl))
      pss_nil)
      (pss_one (ps_ret (pe_callB (cr_allK (K := K) rfl) (by rfl) T.z_all (by decide +kernel) (pa_cons (pe_lc (own := [("k", 2)]) rfl sc_law_alike.nd (pi_range1 (by rfl) T.z_range (pa_cons (pe_callB (call_lenK (K := K)) (by rfl) T.z_len (by decide +kernel) (pa_cons (pv 1) pa_nil)) pa_nil)) (blkOk_by (own := [("k", 2)]) (N := ["found", "due", "k"]) (sc := defScope s_law_alike) (by decide +kernel)) (fun _ _ _ _ _ => pg_name (i := 2) sc_law_alike.nd rfl (by first | exact Or.inl rfl | exact Or.inr rfl)) (fun _ _ _ _ _ => pts_nil) (fun _ _ _ _ _ => PL.pe_never)) pa_nil))))))
      pss_nil)
      (pss_cons (ps_if (PW.pt (pw_or (pt_cmpR (op_neK (K := K) hr.units) (pe_callB (call_isiK (K := K)) (by rfl) T.z_isinstance (by decide +kernel) (pa_cons (pv 0) (pa_cons (pe_bltn (v := .ty "bool") (u := .type "bool") (by rfl) T.z_bool (by decide +kernel) rfl) pa_nil))) (pe_callB (call_isiK (K := K)) (by rfl) T.z_isinstance (by decide +kernel) (pa_cons (pv 1) (pa_cons (pe_bltn (v := .ty "bool") (u := .type "bool") (by rfl) T.z_bool (by decide +kernel) rfl) pa_nil))) (nomark _)) (pw_or1 (pt_cmpR (op_neK (K := K) hr.units) (pe_callB (call_isiK (K := K)) (by rfl) T.z_isinstance (by decide +kernel) (pa_cons (pv 0) (pa_cons (pe_bltn (v := .ty "int") (u := .type "int") (by rfl) T.z_int (by decide +kernel) rfl) pa_nil))) (pe_callB (call_isiK (K := K)) (by rfl) T.z_isinstance (by decide +kernel) (pa_cons (pv 1) (pa_cons (pe_bltn (v := .ty "int") (u := .type "int") (by rfl) T.z_int (by decide +kernel) rfl) pa_nil))) (nomark _)))))
      (pss_one (ps_ret pe_bl))
      pss_nil)
      (pss_one (ps_ret (pe_and (pe_cmpR (op_eqK (K := K) hr.units) (pe_callB (call_isiK (K := K)) (by rfl) T.z_isinstance (by decide +kernel) (pa_cons (pv 0) (pa_cons (pe_bltn (v := .ty "str") (u := .type "str") (by rfl) T.z_str (by decide +kernel) rfl) pa_nil))) (pe_callB (call_isiK (K := K)) (by rfl) T.z_isinstance (by decide +kernel) (pa_cons (pv 1) (pa_cons (pe_bltn (v := .ty "str") (u := .type "str") (by rfl) T.z_str (by decide +kernel) rfl) pa_nil))) (nomark _)) (pe_one (pe_cmpR (op_eqK (K := K) hr.units) (pv 0) (pv 1) (nomark _)))))))), fun ds M Kd KX h => False.elim h⟩)
  | succ n ih =>
    refine fn_ok T.F_law_alike sc_law_alike (fun ds M Kd KX h => ?hl) (fun cdv A outer s0 H E hr => ⟨_, (pss_cons (ps_if (pt_val (pe_callB (call_isiTK (K := K)) (by rfl) T.z_isinstance (by decide +kernel) (pa_cons (pv 1) (pa_cons (pe_tup (pa_cons (pe_bltn (v := .ty "list") (u := .type "list") (by rfl) T.z_list (by decide +kernel) rfl) (pa_cons (pe_bltn (v := .ty "tuple") (u := .type "tuple") (by rfl) T.z_tuple (by decide +kernel) rfl) pa_nil))) pa_nil))))
      (pss_cons (ps_if (PW.pt (pw_or (pt_not (pt_val (pe_callB (call_isiTK (K := K)) (by rfl) T.z_isinstance (by decide +kernel) (pa_cons (pv 0) (pa_cons (pe_tup (pa_cons (pe_bltn (v := .ty "list") (u := .type "list") (by rfl) T.z_list (by decide +kernel) rfl) (pa_cons (pe_bltn (v := .ty "tuple") (u := .type "tuple") (by rfl) T.z_tuple (by decide +kernel) rfl) pa_nil))) pa_nil))))) (pw_or1 (pt_cmpR (op_neK (K := K) hr.units) (pe_callB (call_isiK (K := K)) (by rfl) T.z_isinstance (by decide +kernel) (pa_cons (pv 0) (pa_cons (pe_bltn (v := .ty "list") (u := .type "list") (by rfl) T.z_list (by decide +kernel) rfl) pa_nil))) (pe_callB (call_isiK (K := K)) (by rfl) T.z_isinstance (by decide +kernel) (pa_cons (pv 1) (pa_cons (pe_bltn (v := .ty "list") (u := .type "list") (by rfl) T.z_list (by decide +kernel) rfl) pa_nil))) (nomark _)))))
      (pss_one (ps_ret pe_bl))
      pss_nil)
      (pss_cons (ps_if (pt_cmpR (op_neK (K := K) hr.units) (pe_callB (call_lenK (K := K)) (by rfl) T.z_len (by decide +kernel) (pa_cons (pv 0) pa_nil)) (pe_callB (call_lenK (K := K)) (by rfl) T.z_len (by decide +kernel) (pa_cons (pv 1) pa_nil)) (nomark _))
      (pss_one (ps_ret pe_bl))
      pss_nil)
      (pss_one (ps_ret (pe_callB (cr_allK (K := K) rfl) (by rfl) T.z_all (by decide +kernel) (pa_cons (pe_lc (own := [("k", 2)]) rfl sc_law_alike.nd (pi_range1 (by rfl) T.z_range (pa_cons (pe_callB (call_lenK (K := K)) (by rfl) T.z_len (by decide +kernel) (pa_cons (pv 1) pa_nil)) pa_nil)) (blkOk_by (own := [("k", 2)]) (N := ["found", "due", "k"]) (sc := defScope s_law_alike) (by decide +kernel)) (fun _ _ _ _ _ => pg_name (i := 2) sc_law_alike.nd rfl (by first | exact Or.inl rfl | exact Or.inr rfl)) (fun _ _ _ _ _ => pts_nil) (fun _ _ _ _ _ => pe_call ih hr (by rfl) T.g_law_alike T.F_law_alike.kp T.b_law_alike .nil pass0 (pa_cons (pe_ix (ix_seqK (K := K)) (pv 0) (pv 2) (fun _ _ => rfl)) (pa_cons (pe_ix (ix_seqK (K := K)) (pv 1) (pv 2) (fun _ _ => rfl)) pa_nil)))) pa_nil))))))
      pss_nil)
      (pss_cons (ps_if (PW.pt (pw_or (pt_cmpR (op_neK (K := K) hr.units) (pe_callB (call_isiK (K := K)) (by rfl) T.z_isinstance (by decide +kernel) (pa_cons (pv 0) (pa_cons (pe_bltn (v := .ty "bool") (u := .type "bool") (by rfl) T.z_bool (by decide +kernel) rfl) pa_nil))) (pe_callB (call_isiK (K := K)) (by rfl) T.z_isinstance (by decide +kernel) (pa_cons (pv 1) (pa_cons (pe_bltn (v := .ty "bool") (u := .type "bool") (by rfl) T.z_bool (by decide +kernel) rfl) pa_nil))) (nomark _)) (pw_or1 (pt_cmpR (op_neK (K := K) hr.units) (pe_callB (call_isiK (K := K)) (by rfl) T.z_isinstance (by decide +kernel) (pa_cons (pv 0) (pa_cons (pe_bltn (v := .ty "int") (u := .type "int") (by rfl) T.z_int (by decide +kernel) rfl) pa_nil))) (pe_callB (call_isiK (K := K)) (by rfl) T.z_isinstance (by decide +kernel) (pa_cons (pv 1) (pa_cons (pe_bltn (v := .ty "int") (u := .type "int") (by rfl) T.z_int (by decide +kernel) rfl) pa_nil))) (nomark _)))))
      (pss_one (ps_ret pe_bl))
      pss_nil)
      (pss_one (ps_ret (pe_and (pe_cmpR (op_eqK (K := K) hr.units) (pe_callB (call_isiK (K := K)) (by rfl) T.z_isinstance (by decide +kernel) (pa_cons (pv 0) (pa_cons (pe_bltn (v := .ty "str") (u := .type "str") (by rfl) T.z_str (by decide +kernel) rfl) pa_nil))) (pe_callB (call_isiK (K := K)) (by rfl) T.z_isinstance (by decide +kernel) (pa_cons (pv 1) (pa_cons (pe_bltn (v := .ty "str") (u := .type "str") (by rfl) T.z_str (by decide +kernel) rfl) pa_nil))) (nomark _)) (pe_one (pe_cmpR (op_eqK (K := K) hr.units) (pv 0) (pv 1) (nomark _)))))))), fun ds M Kd KX h => ?_⟩)
    · obtain ⟨d, rfl, _⟩ := h
      rfl
    · obtain ⟨d, rfl, rfl, ha, k⟩ := h
      have key : Scl d ∨ ∃ m ps, n = m + 1 ∧ (d = .list ps ∨ d = .tuple ps) ∧ ps.length ≤ 1000 ∧ ∀ p ∈ ps, alk m p := by
        cases n with
        | zero => exact .inl ha
        | succ n =>
          rcases ha with ha | ⟨ps, ha, hl, hps⟩
          · exact .inl ha
          · exact .inr ⟨n, ps, rfl, ha, hl, hps⟩
      rcases key with hs | ⟨n, ps, rfl, ha, hl, hps⟩
      · show SS W0 _ [some (.py d), some (.py d), none] [] _
        refine ss_seq (ss_if (st_B (se_isiT (se_var rfl (sa_cons (se_raw (sa_cons (se_raw (sa_nil ⟨_, d, false, .ty _ (.ty _ .nil), rfl, Nat.le_of_ble_eq_true rfl, ?_, isB (br_F rfl (ss_next ?_))⟩)))))))))
        · cases hs with
          | int _ => exact kit2 (x := false) (y := false) (by show kitB "int" "list" = _; decide +kernel) (by show kitB "int" "tuple" = _; decide +kernel)
          | bool _ => exact kit2 (x := false) (y := false) (by show kitB "bool" "list" = _; decide +kernel) (by show kitB "bool" "tuple" = _; decide +kernel)
        · have key : ∃ b1 b2 b3, kitB (tyP d) "bool" = some b1 ∧ kitB (tyP d) "int" = some b2 ∧ kitB (tyP d) "str" = some b3 ∧ PySem.SeqAt.shaped d = true ∧ PyData.eqv d d = true := by
            cases hs with
            | int i => exact ⟨false, true, false, by show kitB "int" "bool" = _; decide +kernel, by show kitB "int" "int" = _; decide +kernel, by show kitB "int" "str" = _; decide +kernel, rfl, by rw [eqv_int]; exact decide_eq_true rfl⟩
            | bool i => exact ⟨true, true, false, by show kitB "bool" "bool" = _; decide +kernel, by show kitB "bool" "int" = _; decide +kernel, by show kitB "bool" "str" = _; decide +kernel, rfl, by rw [eqv_bool]; exact decide_eq_true rfl⟩
          obtain ⟨b1, b2, b3, q1, q2, q3, q4, q5⟩ := key
          have nn : ∀ b : Bool, (!PyData.eqv (.bool b) (.bool b)) = false := fun b => by rw [eqv_bool]; simp
          refine ss_seq <| ss_if <| st_or <| st_test <| se_op <| se_cb <| sa_cons <| se_var rfl <| sa_cons <| se_raw <| sa_nil <| cr_isi q1 ?_
          refine se_cb <| sa_cons <| se_var rfl <| sa_cons <| se_raw <| sa_nil <| cr_isi q1 ?_
          refine or_neAD rfl rfl (isB (br_F (nn b1) ?_))
          refine st_test <| se_op <| se_cb <| sa_cons <| se_var rfl <| sa_cons <| se_raw <| sa_nil <| cr_isi q2 ?_
          refine se_cb <| sa_cons <| se_var rfl <| sa_cons <| se_raw <| sa_nil <| cr_isi q2 ?_
          refine or_neAD rfl rfl (isB (br_F (nn b2) (ss_next ?_)))
          refine ss_ret <| se_andV <| se_op <| se_cb <| sa_cons <| se_var rfl <| sa_cons <| se_raw <| sa_nil <| cr_isi q3 ?_
          refine se_cb <| sa_cons <| se_var rfl <| sa_cons <| se_raw <| sa_nil <| cr_isi q3 ?_
          refine or_eqAB (isB (br_T (decide_eq_true rfl) ?_))
          refine se_op <| se_var rfl <| se_var rfl <| or_eqAD q4 q4 ?_
          rw [q5]
          exact Ret.py k
      · show SS W0 _ [some (.py d), some (.py d), none] [] _
        have hall : ∀ p ∈ ps, ∀ Kd', Kd' (dB true) [] → sp_law_alike T (n + 1) [.py p, .py p] [] Kd' (fun _ _ => False) := fun p hp Kd' k' => ⟨p, rfl, rfl, hps p hp, k'⟩
        have hz : ((List.range ps.length).map fun _ => PyData.bool true) = (List.replicate ps.length true).map PyData.bool := by
          rw [List.map_const', List.map_replicate, List.length_range]
        have hrep : (List.replicate ps.length true).all id = true := by simp
        rcases ha with rfl | rfl
        · refine ss_seq (ss_if (st_B (se_isiT (se_var rfl (sa_cons (se_raw (sa_cons (se_raw (sa_nil ⟨_, .list ps, true, .ty _ (.ty _ .nil), rfl, Nat.le_of_ble_eq_true rfl, kit2 (x := true) (y := false) (by show kitB "list" "list" = _; decide +kernel) (by show kitB "list" "tuple" = _; decide +kernel), isB (br_T rfl ?_)⟩)))))))))
          refine ss_seq (ss_if (st_or (st_not (st_B (se_isiT (se_var rfl (sa_cons (se_raw (sa_cons (se_raw (sa_nil ⟨_, .list ps, true, .ty _ (.ty _ .nil), rfl, Nat.le_of_ble_eq_true rfl, kit2 (x := true) (y := false) (by show kitB "list" "list" = _; decide +kernel) (by show kitB "list" "tuple" = _; decide +kernel), isB (br_F rfl ?_)⟩)))))))))))
          walk_at "s"
          refine se_raw ?_
          walk_at "s"
          refine cr_isi (b := true) (by show kitB "list" "list" = some true; decide +kernel) ?_
          walk_at "s"
          refine se_raw ?_
          walk_at "s"
          refine cr_isi (b := true) (by show kitB "list" "list" = some true; decide +kernel) ?_
          refine or_neAD (p := .bool true) (q := .bool true) rfl rfl (isB (br_F rfl ?_))
          walk_at "s"
          walk_at "T"
          walk_at "s"
          refine se_lcM (xs := List.range ps.length) (M2 := []) (fun _ => .bool true) (by walk_at "g") (src_R1 ps.length (sa_cons <| se_cb <| sa_cons <| se_var rfl <| sa_nil <| cr_len <| sa_nil ⟨_, rfl, by omega, by omega, by omega, rfl⟩)) (by simp; omega) ?_ ?_
          · rintro pre t post hx
            have ht : t < ps.length := List.mem_range.mp (by rw [hx]; simp)
            obtain ⟨p, hp⟩ : ∃ p, ps[t]? = some p := ⟨_, List.getElem?_eq_getElem ht⟩
            have hat : atI ps (t : Int) = some p := atI_nn (by omega) (by rw [Int.toNat_natCast]; exact hp)
            refine sg_name <| se_call0 0 <| sa_cons <| se_op <| se_var rfl <| se_var rfl <| or_ix hat <| sa_cons <| se_op <| se_var rfl <| se_var rfl <| or_ix hat <| sa_nil ?_
            exact hall p (List.mem_of_getElem? hp) _ ⟨rfl, rfl, rfl⟩
          rw [hz]
          walk_at "s"
          refine cr_allL (.py _) ?_
          rw [hrep]
          exact Ret.py k
        · refine ss_seq (ss_if (st_B (se_isiT (se_var rfl (sa_cons (se_raw (sa_cons (se_raw (sa_nil ⟨_, .tuple ps, true, .ty _ (.ty _ .nil), rfl, Nat.le_of_ble_eq_true rfl, kit2 (x := false) (y := true) (by show kitB "tuple" "list" = _; decide +kernel) (by show kitB "tuple" "tuple" = _; decide +kernel), isB (br_T rfl ?_)⟩)))))))))
          refine ss_seq (ss_if (st_or (st_not (st_B (se_isiT (se_var rfl (sa_cons (se_raw (sa_cons (se_raw (sa_nil ⟨_, .tuple ps, true, .ty _ (.ty _ .nil), rfl, Nat.le_of_ble_eq_true rfl, kit2 (x := false) (y := true) (by show kitB "tuple" "list" = _; decide +kernel) (by show kitB "tuple" "tuple" = _; decide +kernel), isB (br_F rfl ?_)⟩)))))))))))
          walk_at "s"
          refine se_raw ?_
          walk_at "s"
          refine cr_isi (b := false) (by show kitB "tuple" "list" = some false; decide +kernel) ?_
          walk_at "s"
          refine se_raw ?_
          walk_at "s"
          refine cr_isi (b := false) (by show kitB "tuple" "list" = some false; decide +kernel) ?_
          refine or_neAD (p := .bool false) (q := .bool false) rfl rfl (isB (br_F rfl ?_))
          walk_at "s"
          walk_at "T"
          walk_at "s"
          refine se_lcM (xs := List.range ps.length) (M2 := []) (fun _ => .bool true) (by walk_at "g") (src_R1 ps.length (sa_cons <| se_cb <| sa_cons <| se_var rfl <| sa_nil <| cr_lenT <| sa_nil ⟨_, rfl, by omega, by omega, by omega, rfl⟩)) (by simp; omega) ?_ ?_
          · rintro pre t post hx
            have ht : t < ps.length := List.mem_range.mp (by rw [hx]; simp)
            obtain ⟨p, hp⟩ : ∃ p, ps[t]? = some p := ⟨_, List.getElem?_eq_getElem ht⟩
            have hat : atI ps (t : Int) = some p := atI_nn (by omega) (by rw [Int.toNat_natCast]; exact hp)
            refine sg_name <| se_call0 0 <| sa_cons <| se_op <| se_var rfl <| se_var rfl <| or_ixT hat <| sa_cons <| se_op <| se_var rfl <| se_var rfl <| or_ixT hat <| sa_nil ?_
            exact hall p (List.mem_of_getElem? hp) _ ⟨rfl, rfl, rfl⟩
          rw [hz]
          walk_at "s"
          refine cr_allL (.py _) ?_
          rw [hrep]
          exact Ret.py k

--nofm
theorem alk_I (n : Nat) (i : Int) : alk n (.int i) := by cases n with | zero => exact .int i | succ n => exact .inl (.int i)
theorem alk_B (n : Nat) (i : Bool) : alk n (.bool i) := by cases n with | zero => exact .bool i | succ n => exact .inl (.bool i)
theorem alk_ints (n : Nat) {l : List Int} (hl : l.length ≤ 1000) : alk (n + 1) (.list (l.map PyData.int)) := .inr ⟨_, .inl rfl, by rw [List.length_map]; exact hl, fun p hp => by
  obtain ⟨i, _, rfl⟩ := List.mem_map.mp hp
  exact alk_I _ _⟩
theorem alk_cel (n : Nat) (ps : Int) {l : List Int} (hl : l.length ≤ 1000) : alk (n + 2) (.list (celL ps l)) := .inr ⟨_, .inl rfl, by rw [List.length_map]; exact hl, fun p hp => by
  obtain ⟨i, _, rfl⟩ := List.mem_map.mp hp
  refine .inr ⟨_, .inr rfl, Nat.le_of_ble_eq_true rfl, fun q hq => ?_⟩
  simp only [List.mem_cons, List.not_mem_nil, or_false] at hq
  rcases hq with rfl | rfl
  · exact alk_B _ _
  · exact alk_I _ _⟩
theorem OkB.step {n : Nat} {g : Bag} {m : Nat} (h : OkB n g) (e : n = m) : OkB m g := e ▸ h
theorem filt_put (q : Nat → Bool) (m : Nat) (v : Bool) : (List.range (m + 1)).filter (fun k => if k = m then v else q k) = (List.range m).filter q ++ if v then [m] else [] := by
  rw [List.range_succ, List.filter_append]
  congr 1
  · refine List.filter_congr fun k hk => ?_
    have := List.mem_range.mp hk
    rw [if_neg (by omega)]
  · cases v
    · rw [List.filter_cons_of_neg (by simp)]; rfl
    · rw [List.filter_cons_of_pos (by simp)]; rfl
def sp_law_punched (T : Txt K mg) : DSp := fun ds M Kd KX => ∃ (c p m : Addr) (g : Bag) (d : Nat) (ps : Int) (cs : List Int) (part : Int), ds = [dR c, dR p, dI (cs.length : Int), dI part] ∧ M = [(c, bagC g), (p, papC T ps cs m)] ∧ OkB d g ∧ d + 300 ≤ 10 ^ 18 ∧ 1 ≤ cs.length ∧ cs.length ≤ 200 ∧ 1 ≤ part ∧ part ≤ 6 ∧ (∀ c ∈ cs, 0 ≤ c) ∧ 
  (∀ g', OkB (d + 201) g' → Kd (dL []) [(c, bagC g'), (p, papC T ps cs m)]) ∧ (∀ g' r, OkB (d + 201) g' → FS.Alt r → r.length ≤ 200 → (∀ c ∈ r, 0 ≤ c ∧ c < cs.length ∧ cs.getD c.toNat 0 ≠ ps) → Kd (HoD r) [(c, bagC g'), (p, papC T ps (addP cs r) m)])
theorem ok_law_punched (T : Txt K mg) : FnOk P w K mg base CX0 8 T.f_law_punched T.fd_law_punched ["bag", "sheet", "size", "part"] (spD (sp_law_punched T)) := by
  refine fn_ok T.F_law_punched sc_law_punched (fun ds M Kd KX h => ?hl) (fun cdv A outer s0 H E hr => ⟨_, (pss_cons (ps_setLc (i := 4) (own := [("k", 9)]) rfl sc_law_punched.nd rfl rfl (sw_true rfl rfl rfl (by decide +kernel)) (pi_range1 (by rfl) T.z_range (pa_cons (pe_op op_sub (pv 2) pe_int) pa_nil)) (blkOk_by (own := [("k", 9)]) (N := ["bag", "sheet", "size", "part", "folds", "spots", "spot", "cells", "strip", "k"]) (sc := defScope s_law_punched) (by decide +kernel)) (fun _ _ _ _ _ => pg_name (i := 9) sc_law_punched.nd rfl (by first | exact Or.inl rfl | exact Or.inr rfl)) (fun _ _ _ _ _ => pts_one (pt_cmpR (op_eqK (K := K) hr.units) (pe_call (ok_law_draw T) (hr.mono (by decide)) (by rfl) T.g_law_draw T.F_law_draw.kp T.b_law_draw .nil pass0 (pa_cons (pv 0) (pa_cons (pv 3) pa_nil))) pe_int (nomark _))) (fun _ _ _ _ _ => pv 9))
      (pss_cons (ps_set (i := 5) sc_law_punched.nd rfl (by first | exact Or.inl rfl | exact Or.inr rfl) (pe_call (ok_law_places T) (hr.mono (by decide)) (by rfl) T.g_law_places T.F_law_places.kp T.b_law_places .nil pass0 (pa_cons (pv 2) (pa_cons (pv 4) pa_nil))))
      (pss_cons (ps_set (i := 6) sc_law_punched.nd rfl (by first | exact Or.inl rfl | exact Or.inr rfl) (pe_ix (ix_seqK (K := K)) (pv 5) (pe_call (ok_law_draw T) (hr.mono (by decide)) (by rfl) T.g_law_draw T.F_law_draw.kp T.b_law_draw .nil pass0 (pa_cons (pv 0) (pa_cons (pv 2) pa_nil))) (fun _ _ => rfl)))
      (pss_cons (ps_setLc (i := 7) (own := [("k", 9)]) rfl sc_law_punched.nd rfl rfl (sw_true rfl rfl rfl (by decide +kernel)) (pi_range1 (by rfl) T.z_range (pa_cons (pv 2) pa_nil)) (blkOk_by (own := [("k", 9)]) (N := ["bag", "sheet", "size", "part", "folds", "spots", "spot", "cells", "strip", "k"]) (sc := defScope s_law_punched) (by decide +kernel)) (fun _ _ _ _ _ => pg_name (i := 9) sc_law_punched.nd rfl (by first | exact Or.inl rfl | exact Or.inr rfl)) (fun _ _ _ _ _ => pts_one (pt_cmpR (op_eqK (K := K) hr.units) (pe_ix (ix_seqK (K := K)) (pv 5) (pv 9) (fun _ _ => rfl)) (pv 6) (nomark _))) (fun _ _ _ _ _ => pv 9))
      (pss_cons (ps_set (i := 8) sc_law_punched.nd rfl (by first | exact Or.inl rfl | exact Or.inr rfl) (pe_meth0 (pv 1) T.cl_Paper T.m_Paper_strip (ok_Paper_strip T) (hr.mono (by decide)) T.b_Paper_strip .nil pass0))
      (pss_cons (ps_if (pt_cmpR (op_neK (K := K) hr.units) (pe_lc (own := [("k", 9)]) rfl sc_law_punched.nd (pi_anyK (K := K) (pv 7)) (blkOk_by (own := [("k", 9)]) (N := ["bag", "sheet", "size", "part", "folds", "spots", "spot", "cells", "strip", "k"]) (sc := defScope s_law_punched) (by decide +kernel)) (fun _ _ _ _ _ => pg_name (i := 9) sc_law_punched.nd rfl (by first | exact Or.inl rfl | exact Or.inr rfl)) (fun _ _ _ _ _ => pts_one (pt_cmpR (op_eqK (K := K) hr.units) (pe_ix (ix_seqK (K := K)) (pe_ix (ix_seqK (K := K)) (pv 8) (pv 9) (fun _ _ => rfl)) pe_int (fun _ _ => rfl)) pe_int (nomark _))) (fun _ _ _ _ _ => pv 9)) (pe_lst pa_nil) (nomark _))
      (pss_one (ps_ret (pe_lst pa_nil)))
      pss_nil)
      (pss_one (ps_ret (pe_ifExp (pt_val (pe_call (ok_law_alike T 6) hr (by rfl) T.g_law_alike T.F_law_alike.kp T.b_law_alike .nil pass0 (pa_cons (pe_meth (pv 1) T.cl_Paper T.m_Paper_punch (ok_Paper_punch T) (hr.mono (by decide)) T.b_Paper_punch .nil pass0 (pa_cons (pv 4) (pa_cons (pv 6) pa_nil))) (pa_cons (pv 7) pa_nil)))) (pv 7) pe_non))))))))), fun ds M Kd KX h => ?_⟩)
  · obtain ⟨c, p, m, g, d, ps, cs, part, rfl, _⟩ := h
    rfl
  · obtain ⟨c, p, m, g, d, ps, cs, part, rfl, rfl, ok, hd, n1, n2, p1, p2, h0, k1, k2⟩ := h
    show SS W0 _ [some (dR c), some (dR p), some (dI (cs.length : Int)), some (dI part), none, none, none, none, none, none] [(c, bagC g), (p, papC T ps cs m)] _
    refine ss_seq (ss_asg (se_lcI (xs := List.range (cs.length - 1)) (M2 := [(c, bagC g), (p, papC T ps cs m)]) (by walk_at "g") (src_R1 (cs.length - 1) ?_) (by simp; omega) (fun pre acc M' => ∃ (g' : Bag) (q : Nat → Bool), OkB (d + pre.length) g' ∧ acc = ((((List.range pre.length).filter q).map fun (k : Nat) => (k : Int)).map PyData.int).map D.py ∧ M' = [(c, bagC g'), (p, papC T ps cs m)]) ⟨g, fun _ => false, ok, rfl, rfl⟩ ?_ ?_))
    · exact sa_cons (se_op (se_var rfl (se_int (or_sub (sa_nil ⟨_, rfl, by omega, by omega, by omega, rfl⟩)))))
    · rintro pre x post acc M' hx ha ⟨g', q, ok', rfl, rfl⟩
      have hpl : pre.length < cs.length - 1 := by
        have := congrArg List.length hx
        simp at this
        omega
      have hx' : x = pre.length := by
        have h2 : (List.range (cs.length - 1))[pre.length]? = some x := by rw [hx]; simp
        rw [List.getElem?_range hpl] at h2
        exact (Option.some.inj h2).symm
      subst hx'
      refine sg_name (st_test (se_op (se_call0 1 (sa_cons (se_var rfl (sa_cons (se_var rfl (sa_nil (draw_s ok' (by omega) (by omega) (by omega) fun r g2 r0 r1 ok2 => ?_)))))))))
      refine se_int (or_eqAI (isB (br_dec (fun _ => ?_) fun _ => ?_)))
      · refine se_var rfl ⟨g2, fun k => if k = pre.length then true else q k, ok2.step (by simp; omega), ?_, rfl⟩
        rw [List.length_append, List.length_singleton, filt_put]
        simp
      · refine ⟨g2, fun k => if k = pre.length then false else q k, ok2.step (by simp; omega), ?_, rfl⟩
        rw [List.length_append, List.length_singleton, filt_put]
        simp
    rintro acc M' ⟨g1, q, ok1, rfl, rfl⟩
    refine .inl ⟨_, rfl, sg_name ?_⟩
    rw [List.length_range] at ok1 ⊢
    obtain ⟨b, hb⟩ : ∃ b, ((List.range (cs.length - 1)).filter q).map (fun (k : Nat) => (k : Int)) = b := ⟨_, rfl⟩
    have hf : Fold cs.length b := by
      refine ⟨n1, n2, ?_, fun x y hxy => ?_, fun x hx => ?_⟩
      · rw [← hb, List.length_map]
        exact Nat.le_trans (List.length_filter_le _ _) (by rw [List.length_range]; omega)
      · rw [← hb] at hxy
        obtain ⟨i, j, rfl, rfl, hij, _⟩ := FS.filt_adj hxy
        omega
      · rw [← hb] at hx
        obtain ⟨k, hk, rfl⟩ := List.mem_map.mp hx
        have := List.mem_range.mp (List.mem_filter.mp hk).1
        omega
    rw [hb]
    show SS W0 _ [some (dR c), some (dR p), some (dI (cs.length : Int)), some (dI part), some (HoD b), none, none, none, none, none] [(c, bagC g1), (p, papC T ps cs m)] _
    refine ss_seq (ss_set (se_call0 0 (sa_cons (se_var rfl (sa_cons (se_var rfl (sa_nil ⟨cs.length, b, rfl, rfl, hf, ?_⟩)))))))
    refine ss_seq <| ss_set <| se_op <| se_var rfl <| se_call0 1 <| sa_cons <| se_var rfl <| sa_cons <| se_var rfl <| sa_nil <| draw_s ok1 (by omega) (by omega) (by omega) fun r g2 r0 r1 ok2 => ?_
    have hat : (plL b cs.length)[r.toNat]? = some (FS.plc b r.toNat) := by
      unfold plL
      rw [List.getElem?_map, List.getElem?_range (by omega)]
      rfl
    refine or_ixP PyData.int r0 hat ?_
    obtain ⟨s, hs⟩ : ∃ s, FS.plc b r.toNat = s := ⟨_, rfl⟩
    rw [hs]
    have ok2 : OkB (d + 201) g2 := ok2.mono (by omega)
    have hne : FS.atP b cs.length s ≠ [] := fun e => by
      have : ((r.toNat : Nat) : Int) ∈ FS.atP b cs.length s := List.mem_map.mpr ⟨r.toNat, List.mem_filter.mpr ⟨List.mem_range.mpr (by omega), decide_eq_true hs⟩, rfl⟩
      rw [e] at this
      cases this
    show SS W0 _ [some (dR c), some (dR p), some (dI (cs.length : Int)), some (dI part), some (HoD b), some (HoD (plL b cs.length)), some (dI s), none, none, none] [(c, bagC g2), (p, papC T ps cs m)] _
    refine ss_seq (ss_asg (se_lcF (xs := List.range cs.length) (M2 := [(c, bagC g2), (p, papC T ps cs m)]) (fun k => decide (FS.plc b k = s)) (fun k => .int (k : Int)) (by walk_at "g") (src_R1 cs.length (sa_cons (se_var rfl (sa_nil ⟨_, rfl, by omega, by omega, by omega, rfl⟩)))) (by simp; omega) ?_ ?_))
    · rintro pre t post hx
      have ht : t < cs.length := List.mem_range.mp (by rw [hx]; simp)
      have hat : (plL b cs.length)[((t : Nat) : Int).toNat]? = some (FS.plc b t) := by
        unfold plL
        rw [Int.toNat_natCast, List.getElem?_map, List.getElem?_range ht]
        rfl
      refine sg_name <| st_test <| se_op <| se_op <| se_var rfl <| se_var rfl <| or_ixP PyData.int (by omega) hat <| se_var rfl <| or_eqAI <| isB ?_
      exact ⟨rfl, rfl, fun _ => se_var rfl ⟨rfl, rfl⟩⟩
    have e1 : (((List.range cs.length).filter fun k => decide (FS.plc b k = s)).map fun k => PyData.int ((k : Nat) : Int)) = (FS.atP b cs.length s).map PyData.int := by
      unfold FS.atP
      rw [List.map_map]
      rfl
    rw [e1]
    have halt := FS.atP_alt hne
    have hrg := FS.atP_rg (b := b) (n := cs.length) (s := s)
    have hrl : (FS.atP b cs.length s).length ≤ 200 := by
      unfold FS.atP
      rw [List.length_map]
      exact Nat.le_trans (List.length_filter_le _ _) (by rw [List.length_range]; exact n2)
    refine sg_name ?_
    obtain ⟨L, hL⟩ : ∃ L, FS.atP b cs.length s = L := ⟨_, rfl⟩
    rw [hL] at hne halt hrg hrl ⊢
    show SS W0 _ [some (dR c), some (dR p), some (dI (cs.length : Int)), some (dI part), some (HoD b), some (HoD (plL b cs.length)), some (dI s), some (HoD L), none, none] [(c, bagC g2), (p, papC T ps cs m)] _
    refine ss_seq (ss_set (se_methP0 [(p, papC T ps cs m)] [(c, bagC g2)] (se_var rfl ⟨1, p, _, rfl, rfl, rfl, sa_nil ⟨List.Perm.swap _ _ _, p, m, ps, cs, rfl, rfl, [(c, bagC g2), (p, papC T ps cs m)], List.Perm.swap _ _ _, ?_⟩⟩)))
    refine ss_seq (ss_if (st_test (se_op (se_lcF (xs := L) (M2 := [(c, bagC g2), (p, papC T ps cs m)]) (fun c => decide (ps - cs.getD c.toNat 0 = 0)) PyData.int (by walk_at "g") (src_L PyData.int L (se_var rfl ⟨rfl, rfl⟩)) (by omega) ?_ ?_))))
    · rintro pre i post hx
      obtain ⟨c0, c1⟩ := hrg i (by rw [hx]; simp)
      have hat : cs[i.toNat]? = some (cs.getD i.toNat 0) := by
        rw [List.getD_eq_getElem?_getD, List.getElem?_eq_getElem (by omega)]
        rfl
      refine sg_name <| st_test <| se_op <| se_op <| se_op <| se_var rfl <| se_var rfl <| or_ixP (celP ps) c0 hat <| se_int <| or_ixT (p := .int (ps - cs.getD i.toNat 0)) rfl <| se_int <| or_eqAI <| isB ?_
      exact ⟨rfl, rfl, fun _ => se_var rfl ⟨rfl, rfl⟩⟩
    refine se_lst0 (or_neNil (layI _) (isB ?_))
    by_cases hw : L.filter (fun c => decide (ps - cs.getD c.toNat 0 = 0)) = []
    · rw [hw]
      refine br_F rfl (ss_next ?_)
      have hw' : ∀ c ∈ L, cs.getD c.toNat 0 ≠ ps := fun c hc e => by
        have := List.filter_eq_nil_iff.mp hw c hc
        rw [decide_eq_true_eq] at this
        omega
      refine ss_ret (se_if (st_B (se_call0 0 (sa_cons (se_methP0 [(p, papC T ps cs m)] [(c, bagC g2)] (se_var rfl ⟨1, p, _, rfl, rfl, rfl, ?_⟩))))))
      refine sa_cons (se_var rfl (sa_cons (se_var rfl (sa_nil ⟨List.Perm.swap _ _ _, p, m, ps, cs, b, s, rfl, rfl, hf, h0, ?_⟩))))
      rw [hL]
      refine ⟨hne, hw', [(c, bagC g2), (p, papC T ps (addP cs L) m)], List.Perm.swap _ _ _, ?_⟩
      refine sa_cons (se_var rfl (sa_nil ⟨.list (L.map PyData.int), rfl, rfl, alk_ints _ (by omega), isB (br_T rfl (se_var rfl (Ret.py ?_)))⟩))
      exact k2 g2 L ok2 halt hrl fun c hc => ⟨(hrg c hc).1, (hrg c hc).2, hw' c hc⟩
    · refine br_T (by rw [decide_eq_false (fun e => hw (List.map_eq_nil_iff.mp e))]; rfl) ?_
      exact ss_ret (se_lst0 (Ret.py (k1 g2 ok2)))

--nofm
abbrev few (cs : List Int) : Int := maxL (FS.stsL cs) - minL (FS.stsL cs)
theorem stsL_nn {cs : List Int} : FS.stsL cs ≠ [] := FS.stsL_ne cs
def sp_stands (T : Txt K mg) : DSp := fun ds M Kd KX => ∃ cs : List Int, ds = [HoD cs] ∧ M = [] ∧ cs.length ≤ 200 ∧ Kd (HoD (FS.stsL cs)) []
theorem ok_stands (T : Txt K mg) : FnOk P w K mg base CX0 1 T.f_stands T.fd_stands ["counts"] (spD (sp_stands T)) := by
  refine fn_ok T.F_stands sc_stands (fun ds M Kd KX h => ?hl) (fun cdv A outer s0 H E hr => ⟨_, (pss_cons (ps_set (i := 1) sc_stands.nd rfl (by first | exact Or.inl rfl | exact Or.inr rfl) (pe_lst (pa_cons pe_int pa_nil)))
      (pss_cons (ps_for PassesOwn.never rfl (pi_enumAK (K := K) (by rfl) T.z_enumerate (pa_cons (pv 0) pa_nil)) (pg_seqK (K := K) (n := 2) rfl (pgs_cons (pg_name (i := 2) sc_stands.nd rfl (by first | exact Or.inl rfl | exact Or.inr rfl)) (pgs_cons (pg_name (i := 3) sc_stands.nd rfl (by first | exact Or.inl rfl | exact Or.inr rfl)) pgs_nil)))
      (pss_one (ps_expr (pe_bmK (K := K) PySem.F.plainAttrs_list PySem.F.slot_list_append PySem.F.type_list_append mt_append (pv 1) (pa_cons (pe_op op_addA (pe_ix (ix_seqK (K := K)) (pv 1) (pe_un un_neg pe_int) (fun _ _ => rfl)) (pe_ifExp (pt_cmpR (op_eqK (K := K) hr.units) (pe_op op_mod (pv 2) pe_int) pe_int (nomark _)) (pv 3) (pe_un un_neg (pv 3)))) pa_nil)))))
      (pss_one (ps_ret (pv 1))))), fun ds M Kd KX h => ?_⟩)
  · obtain ⟨cs, rfl, _⟩ := h
    rfl
  · obtain ⟨cs, rfl, rfl, hn, k⟩ := h
    show SS W0 _ [some (HoD cs), none, none, none] [] _
    refine ss_seq (ss_set (se_lstC (sa_cons (se_int (sa_nil ⟨by decide, fun q => ?_⟩)))))
    refine ss_seq (ss_forE PyData.int cs (fun pre ρ' M' => ∃ x2 x3, ρ' = [some (HoD cs), some (dR q), x2, x3] ∧ M' = [(q, Cl (((List.range (pre.length + 1)).map (FS.stS cs)).map PyData.int))]) (sa_cons (se_var rfl (sa_nil ⟨rfl, _, _, rfl, rfl⟩))) ⟨?_, ?_⟩)
    · rintro pre c post ρ' M' hx ⟨x2, x3, rfl, rfl⟩
      have hpl : pre.length < cs.length := by rw [hx]; simp
      have hat : cs.getD pre.length 0 = c := by
        rw [List.getD_eq_getElem?_getD, hx]
        simp
      obtain ⟨i, hi⟩ : ∃ i, pre.length = i := ⟨_, rfl⟩
      rw [List.length_append, List.length_singleton, hi]
      rw [hi] at hpl hat
      have hlast : (((List.range (i + 1)).map (FS.stS cs)).map PyData.int).getLast? = some (.int (FS.stS cs i)) := by
        rw [List.range_succ, List.map_append, List.map_append]
        simp
      have e1 : (List.range (i + 1 + 1)).map (FS.stS cs) = (List.range (i + 1)).map (FS.stS cs) ++ [FS.stS cs (i + 1)] := by
        rw [List.range_succ (n := i + 1), List.map_append]
        rfl
      have es : FS.stS cs (i + 1) = FS.stS cs i + FR.sgn i * c := by rw [← hat]; rfl
      have hll : (((List.range (i + 1)).map (FS.stS cs)).map PyData.int).length ≤ 1000 := by simp; omega
      rw [e1]
      obtain ⟨L, hL⟩ : ∃ L, (List.range (i + 1)).map (FS.stS cs) = L := ⟨_, rfl⟩
      rw [hL] at hlast hll ⊢
      walk_at "tg2"
      refine ss_appP 0 rfl ⟨_, rfl⟩ (se_op (se_op (se_var rfl (se_un (se_int (ur_neg (or_ixEC 0 rfl hlast (se_if (st_test (se_op (se_op (se_var rfl (se_int (or_mod (by decide) (se_int (or_eqAI (isB ?_))))))))))))))))) 
      refine br_dec (fun g => ?_) fun g => ?_
      · refine se_var rfl (or_addI ⟨_, _, rfl, rfl, by omega, ?_⟩)
        refine ⟨_, _, rfl, ?_⟩
        rw [es]
        unfold FR.sgn
        rw [if_pos g, Int.one_mul, List.map_append]
        rfl
      · refine se_un (se_var rfl (ur_neg (or_addI ⟨_, _, rfl, rfl, by omega, ?_⟩)))
        refine ⟨_, _, rfl, ?_⟩
        rw [es]
        unfold FR.sgn
        rw [if_neg g, List.map_append, show (-1 : Int) * c = -c by omega]
        rfl
    · rintro ρ' M' ⟨x2, x3, rfl, rfl⟩
      refine ss_frz 0 1 rfl rfl ?_
      exact ss_ret (se_var rfl (Ret.py k))
def sp_fewest_seen (T : Txt K mg) : DSp := fun ds M Kd KX => ∃ cs : List Int, ds = [HoD cs] ∧ M = [] ∧ cs.length ≤ 200 ∧ Kd (dI (few cs)) []
theorem ok_fewest_seen (T : Txt K mg) : FnOk P w K mg base CX0 2 T.f_fewest_seen T.fd_fewest_seen ["counts"] (spD (sp_fewest_seen T)) := by
  refine fn_ok T.F_fewest_seen sc_fewest_seen (fun ds M Kd KX h => ?hl) (fun cdv A outer s0 H E hr => ⟨_, (pss_cons (ps_set (i := 1) sc_fewest_seen.nd rfl (by first | exact Or.inl rfl | exact Or.inr rfl) (pe_call (ok_stands T) hr (by rfl) T.g_stands T.F_stands.kp T.b_stands .nil pass0 (pa_cons (pv 0) pa_nil)))
      (pss_one (ps_ret (pe_op op_sub (pe_callB (cr_maxK (K := K) rfl) (by rfl) T.z_max (by decide +kernel) (pa_cons (pv 1) pa_nil)) (pe_callB (cr_minK (K := K) rfl) (by rfl) T.z_min (by decide +kernel) (pa_cons (pv 1) pa_nil)))))), fun ds M Kd KX h => ?_⟩)
  · obtain ⟨cs, rfl, _⟩ := h
    rfl
  · obtain ⟨cs, rfl, rfl, hn, k⟩ := h
    show SS W0 _ [some (HoD cs), none] [] _
    refine ss_seq (ss_set (se_call0 0 (sa_cons (se_var rfl (sa_nil ⟨cs, rfl, rfl, hn, ?_⟩)))))
    refine ss_ret (se_op (se_cb (sa_cons (se_var rfl (sa_nil (cr_maxL (.py _) stsL_nn ?_))))))
    exact se_cb (sa_cons (se_var rfl (sa_nil (cr_minL (.py _) stsL_nn (or_sub (Ret.py k))))))
theorem all2_app {α β : Type} {R : α → β → Prop} {as as' : List α} {bs bs' : List β} (h : All2 R as bs) (h' : All2 R as' bs') : All2 R (as ++ as') (bs ++ bs') := h.append h'
theorem subD_refl {p : Addr} {ps : List PyData} : ∀ l : List D, All2 (SubD p ps) l l
  | [] => .nil
  | _ :: t => .cons (.inl rfl) (subD_refl t)
/-- changed lists in a list, all as they are from now on -/
theorem fz_rows {q : Addr} {Kx : D → Cells → Prop} : ∀ (as : List Addr) (rows : List (List PyData)) (dn : List PyData), as.length = rows.length → Kx (dL (dn ++ rows.map PyData.list)) [] → Fz Kx (dR q) (((as.zip rows).map fun x => (x.1, Cl x.2)) ++ [(q, .lst (dn.map D.py ++ as.map dR))])
  | [], [], dn, _, k => by
    rw [List.map_nil, List.append_nil] at k
    refine .frz 0 (p := q) (ps := dn) (dL dn) [] ?_ (.inr ⟨rfl, rfl⟩) .nil (.here k)
    simp [Cl]
  | a :: as, r :: rows, dn, hl, k => by
    have k' : Kx (dL ((dn ++ [.list r]) ++ rows.map PyData.list)) [] := by rw [List.append_assoc]; exact k
    have ih := fz_rows (q := q) as rows (dn ++ [.list r]) (by simpa using hl) k'
    refine .frz 0 (p := a) (ps := r) (dR q) _ rfl (.inl rfl) ?_ ih
    show SubM a r (((as.zip rows).map fun x => (x.1, Cl x.2)) ++ [(q, .lst (dn.map D.py ++ dR a :: as.map dR))]) _
    refine All2.append (subM_refl _) (.cons ⟨rfl, ?_⟩ .nil)
    rw [List.map_append, List.append_assoc]
    exact All2.append (subD_refl _) (.cons (.inr ⟨rfl, rfl⟩) (subD_refl _))
abbrev rowsC (as : List Addr) (R : List (List Int)) : Cells := (as.zip (R.map fun r => r.map PyData.int)).map fun x => (x.1, Cl x.2)
theorem rowsC_set {as : List Addr} {R : List (List Int)} {i : Nat} {a : Addr} {r : List Int} (q : Addr) (c : Cell) (hl : as.length = R.length) (ha : as[i]? = some a) : (rowsC as R ++ [(q, c)]).set i (a, Cl (r.map PyData.int)) = rowsC as (R.set i r) ++ [(q, c)] := by
  have hi : i < as.length := by
    rcases Nat.lt_or_ge i as.length with h | h
    · exact h
    · rw [List.getElem?_eq_none h] at ha; cases ha
  have hr : (rowsC as R).length = as.length := by simp [rowsC, hl]
  rw [List.set_append_left _ _ (by omega)]
  congr 1
  apply List.ext_getElem?
  intro j
  rw [List.getElem?_set]
  by_cases e : i = j
  · subst e
    rw [if_pos rfl, if_pos (by omega)]
    unfold rowsC
    rw [List.getElem?_map, zip_at ha (show ((R.set i r).map fun r => r.map PyData.int)[i]? = some (r.map PyData.int) by rw [List.getElem?_map, List.getElem?_set, if_pos rfl, if_pos (by omega)]; rfl)]
    rfl
  · rw [if_neg e]
    unfold rowsC
    simp only [List.zip, List.getElem?_map, List.getElem?_zipWith, List.getElem?_set, if_neg e]
theorem rowsC_at {as : List Addr} {R : List (List Int)} {i : Nat} {a : Addr} {r : List Int} (q : Addr) (c : Cell) (ha : as[i]? = some a) (hr : R[i]? = some r) : (rowsC as R ++ [(q, c)])[i]? = some (a, Cl (r.map PyData.int)) := by
  have h : (rowsC as R)[i]? = some (a, Cl (r.map PyData.int)) := by
    unfold rowsC
    rw [List.getElem?_map, zip_at ha (show (R.map fun r => r.map PyData.int)[i]? = some (r.map PyData.int) by rw [List.getElem?_map, hr]; rfl)]
    rfl
  have hi : i < (rowsC as R).length := by
    rcases Nat.lt_or_ge i (rowsC as R).length with h' | h'
    · exact h'
    · rw [List.getElem?_eq_none h'] at h; cases h
  rw [List.getElem?_append_left hi]
  exact h

--nofm
abbrev RowD (r : List Int) : PyData := .list (r.map PyData.int)
theorem rng_as {α : Type} {xs : List α} {n : Nat} {a : α} {i : Nat} (h : xs[i]? = some a) (hn : xs.length = n) : i < n := by
  rcases Nat.lt_or_ge i xs.length with h' | h'
  · omega
  · rw [List.getElem?_eq_none h'] at h; cases h
/-- level by level, so many of cell k's levels written down -/
def lvJ (cs : List Int) (lo : Int) (N k j : Nat) : List (List Int) := (List.range N).map fun L => FS.lvR cs lo k L ++ if min (FS.stS cs k) (FS.stS cs (k + 1)) ≤ lo + (L : Int) ∧ lo + (L : Int) < min (FS.stS cs k) (FS.stS cs (k + 1)) + j then [(k : Int)] else []
theorem lvJ_zero (cs : List Int) (lo : Int) (N k : Nat) : lvJ cs lo N k 0 = (List.range N).map (FS.lvR cs lo k) := by
  unfold lvJ
  refine List.map_congr_left fun L _ => ?_
  rw [if_neg (by omega), List.append_nil]
theorem lvJ_all (cs : List Int) (lo : Int) (N k j : Nat) (hj : (j : Int) = max (FS.stS cs k) (FS.stS cs (k + 1)) - min (FS.stS cs k) (FS.stS cs (k + 1))) : lvJ cs lo N k j = (List.range N).map (FS.lvR cs lo (k + 1)) := by
  unfold lvJ
  refine List.map_congr_left fun L _ => ?_
  unfold FS.lvR
  rw [List.range_succ, List.filter_append, List.map_append]
  congr 1
  by_cases h : min (FS.stS cs k) (FS.stS cs (k + 1)) ≤ lo + (L : Int) ∧ lo + (L : Int) < max (FS.stS cs k) (FS.stS cs (k + 1))
  · rw [if_pos (by omega), List.filter_cons_of_pos (by simp [h.1, h.2])]
    rfl
  · rw [if_neg (by omega), List.filter_cons_of_neg (by simpa using h)]
    rfl
theorem lvJ_len {cs : List Int} {lo : Int} {N k j : Nat} : (lvJ cs lo N k j).length = N := by simp [lvJ]
theorem lvJ_at {cs : List Int} {lo : Int} {N k j i : Nat} (hi : i < N) (e : lo + (i : Int) = min (FS.stS cs k) (FS.stS cs (k + 1)) + j) : (lvJ cs lo N k j)[i]? = some (FS.lvR cs lo k i) := by
  unfold lvJ
  rw [List.getElem?_map, List.getElem?_range hi]
  show some _ = _
  dsimp only
  rw [if_neg (by omega), List.append_nil]
theorem lvJ_step {cs : List Int} {lo : Int} {N k j i : Nat} (hi : i < N) (e : lo + (i : Int) = min (FS.stS cs k) (FS.stS cs (k + 1)) + j) : (lvJ cs lo N k j).set i (FS.lvR cs lo k i ++ [(k : Int)]) = lvJ cs lo N k (j + 1) := by
  apply List.ext_getElem?
  intro x
  rw [List.getElem?_set]
  by_cases hx : x < N
  · unfold lvJ
    rw [List.getElem?_map, List.getElem?_map, List.getElem?_range hx]
    by_cases ex : i = x
    · subst ex
      rw [if_pos rfl, if_pos (by simp; exact hi)]
      show _ = some _
      dsimp only
      rw [if_pos (by push_cast; omega)]
    · rw [if_neg ex]
      show some _ = some _
      congr 1
      dsimp only
      congr 1
      by_cases h : min (FS.stS cs k) (FS.stS cs (k + 1)) ≤ lo + (x : Int) ∧ lo + (x : Int) < min (FS.stS cs k) (FS.stS cs (k + 1)) + j
      · rw [if_pos h, if_pos (by push_cast; omega)]
      · rw [if_neg h, if_neg (by push_cast; omega)]
  · rw [if_neg (by omega), List.getElem?_eq_none (by rw [lvJ_len]; omega), List.getElem?_eq_none (by rw [lvJ_len]; omega)]
theorem lvR_len {cs : List Int} {lo : Int} {k L : Nat} : (FS.lvR cs lo k L).length ≤ k := by
  unfold FS.lvR
  rw [List.length_map]
  exact Nat.le_trans (List.length_filter_le _ _) (by simp)
def sp_by_levels (T : Txt K mg) : DSp := fun ds M Kd KX => ∃ cs : List Int, ds = [HoD cs] ∧ M = [] ∧ cs.length ≤ 200 ∧ (∀ v ∈ FS.stsL cs, -(2 ^ 60) ≤ v ∧ v ≤ 2 ^ 60) ∧ few cs ≤ 1000 ∧ Kd (dL ((FS.lvls cs cs.length).map RowD)) []
theorem ok_by_levels (T : Txt K mg) : FnOk P w K mg base CX0 2 T.f_by_levels T.fd_by_levels ["counts"] (spD (sp_by_levels T)) := by
  refine fnA_ok T.F_by_levels sc_by_levels (fun ds M Kd KX h => ?hl) (fun cdv A outer s0 H E hr => ⟨_, (pss_cons (ps_set (i := 1) sc_by_levels.nd rfl (by first | exact Or.inl rfl | exact Or.inr rfl) (pe_call (ok_stands T) hr (by rfl) T.g_stands T.F_stands.kp T.b_stands .nil pass0 (pa_cons (pv 0) pa_nil)))
      (pss_cons (ps_set (i := 2) sc_by_levels.nd rfl (by first | exact Or.inl rfl | exact Or.inr rfl) (pe_callB (cr_minK (K := K) rfl) (by rfl) T.z_min (by decide +kernel) (pa_cons (pv 1) pa_nil)))
      (pss_cons (ps_setLc (i := 3) (own := [("level", 7)]) rfl sc_by_levels.nd rfl rfl (sw_true rfl rfl rfl (by decide +kernel)) (pi_range1 (by rfl) T.z_range (pa_cons (pe_op op_sub (pe_callB (cr_maxK (K := K) rfl) (by rfl) T.z_max (by decide +kernel) (pa_cons (pv 1) pa_nil)) (pv 2)) pa_nil)) (blkOk_by (own := [("level", 7)]) (N := ["counts", "there", "least", "found", "cell", "one", "other", "level"]) (sc := defScope s_by_levels) (by decide +kernel)) (fun _ _ _ _ _ => pg_name (i := 7) sc_by_levels.nd rfl (by first | exact Or.inl rfl | exact Or.inr rfl)) (fun _ _ _ _ _ => pts_nil) (fun _ _ _ _ _ => pe_lst pa_nil))
      (pss_cons (ps_for PassesOwn.never rfl (pi_enumZ (by rfl) T.z_enumerate (pzp_2 (by rfl) T.z_zip (pa_cons (pv 1) (pa_cons (pe_slice (sl_anyK (K := K)) (pv 1) (po_some pe_int) po_none) pa_nil)))) (pg_seqK (K := K) (n := 2) rfl (pgs_cons (pg_name (i := 4) sc_by_levels.nd rfl (by first | exact Or.inl rfl | exact Or.inr rfl)) (pgs_cons (pg_seqK (K := K) (n := 2) rfl (pgs_cons (pg_name (i := 5) sc_by_levels.nd rfl (by first | exact Or.inl rfl | exact Or.inr rfl)) (pgs_cons (pg_name (i := 6) sc_by_levels.nd rfl (by first | exact Or.inl rfl | exact Or.inr rfl)) pgs_nil))) pgs_nil)))
      (pss_one (ps_for PassesOwn.never rfl (pi_range2 (by rfl) T.z_range (pa_cons (pe_callB (call_min2' rfl) (by rfl) T.z_min (by decide +kernel) (pa_cons (pv 5) (pa_cons (pv 6) pa_nil))) (pa_cons (pe_callB (call_max2' rfl) (by rfl) T.z_max (by decide +kernel) (pa_cons (pv 5) (pa_cons (pv 6) pa_nil))) pa_nil))) (pg_name (i := 7) sc_by_levels.nd rfl (by first | exact Or.inl rfl | exact Or.inr rfl))
      (pss_one (ps_expr (pe_bmK (K := K) PySem.F.plainAttrs_list PySem.F.slot_list_append PySem.F.type_list_append mt_append (pe_ix (ix_seqK (K := K)) (pv 3) (pe_op op_sub (pv 7) (pv 2)) (fun _ _ => rfl)) (pa_cons (pv 4) pa_nil)))))))
      (pss_one (ps_ret (pv 3))))))), fun ds M Kd KX h => ?_⟩)
  · obtain ⟨cs, rfl, _⟩ := h
    rfl
  · obtain ⟨cs, rfl, rfl, hn, hv, hf, k⟩ := h
    show SS W0 _ [some (HoD cs), none, none, none, none, none, none, none] [] _
    refine ss_seq (ss_set (se_call0 0 (sa_cons (se_var rfl (sa_nil ⟨cs, rfl, rfl, hn, ?_⟩)))))
    refine ss_seq (ss_set (se_cb (sa_cons (se_var rfl (sa_nil (cr_minL (.py _) stsL_nn ?_))))))
    have hlo : ∀ v ∈ FS.stsL cs, minL (FS.stsL cs) ≤ v ∧ v ≤ maxL (FS.stsL cs) := fun v hv => ⟨PL.minL_le hv, PL.maxL_ge hv⟩
    have h0 : 0 ≤ few cs := by
      have := hlo _ (PL.maxL_mem (stsL_nn (cs := cs)))
      unfold few
      omega
    obtain ⟨N, hN⟩ : ∃ N, (few cs).toNat = N := ⟨_, rfl⟩
    have hNf : (N : Int) = few cs := by omega
    have hlv : FS.lvls cs cs.length = (List.range N).map (FS.lvR cs (minL (FS.stsL cs)) cs.length) := by
      rw [← hN]; rfl
    rw [hlv] at k
    unfold few at hNf
    obtain ⟨lo, hlo'⟩ : ∃ lo, minL (FS.stsL cs) = lo := ⟨_, rfl⟩
    obtain ⟨hi, hhi'⟩ : ∃ hi, maxL (FS.stsL cs) = hi := ⟨_, rfl⟩
    rw [hlo'] at hlo hNf k ⊢
    rw [hhi'] at hlo hNf
    refine ss_seq (ss_asg (se_lcI (xs := List.range N) (M2 := []) (by walk_at "g") (src_R1 N ?_) (by simp; omega) (fun pre acc M' => ∃ as : List Addr, as.length = pre.length ∧ acc = as.map dR ∧ M' = as.map fun a => (a, Cl [])) ⟨[], rfl, rfl, rfl⟩ ?_ ?_))
    · refine sa_cons (se_op (se_cb (sa_cons (se_var rfl (sa_nil (cr_maxL (.py _) stsL_nn ?_))))))
      rw [hhi']
      refine se_var rfl (or_sub (sa_nil ⟨_, rfl, by omega, by omega, by omega, rfl⟩))
    · rintro pre x post acc M' hx ha ⟨as, hl, rfl, rfl⟩
      refine sg_name (st_yes (br_T rfl (se_lstC (sa_nil ⟨by decide, fun p => ?_⟩))))
      exact ⟨as ++ [p], by simp [hl], by rw [List.map_append]; rfl, by rw [List.map_append]; rfl⟩
    rintro acc M' ⟨as, hl, rfl, rfl⟩
    refine .inr fun q => sg_name ?_
    rw [List.length_range] at hl
    have e0 : (as.map fun a => ((a, Cl []) : Addr × Cell)) = rowsC as ((List.range N).map (FS.lvR cs lo 0)) := by
      apply List.ext_getElem?
      intro i
      rw [List.getElem?_map]
      by_cases hi : i < N
      · obtain ⟨a, ha⟩ : ∃ a, as[i]? = some a := ⟨_, List.getElem?_eq_getElem (by omega)⟩
        rw [ha]
        unfold rowsC
        rw [List.getElem?_map, zip_at ha (show (((List.range N).map (FS.lvR cs lo 0)).map fun r => r.map PyData.int)[i]? = some [] by rw [List.getElem?_map, List.getElem?_map, List.getElem?_range hi]; rfl)]
        rfl
      · rw [List.getElem?_eq_none (by omega), List.getElem?_eq_none (by simp; omega)]
        rfl
    rw [e0]
    show SS W0 _ [some (HoD cs), some (HoD (FS.stsL cs)), some (dI lo), some (dR q), none, none, none, none] (rowsC as ((List.range N).map (FS.lvR cs lo 0)) ++ [(q, .lst (as.map dR))]) _
    have hzl : ((FS.stsL cs).zip ((FS.stsL cs).drop 1)).length = cs.length := by simp [FS.stsL]
    refine ss_seq (ss_forX (xs := (FS.stsL cs).zip ((FS.stsL cs).drop 1)) (M2 := rowsC as ((List.range N).map (FS.lvR cs lo 0)) ++ [(q, .lst (as.map dR))]) (fun pre ρ' M' => ∃ x4 x5 x6 x7, ρ' = [some (HoD cs), some (HoD (FS.stsL cs)), some (dI lo), some (dR q), x4, x5, x6, x7] ∧ M' = rowsC as ((List.range N).map (FS.lvR cs lo pre.length)) ++ [(q, .lst (as.map dR))]) (src_EZ PyData.int PyData.int (FS.stsL cs) ((FS.stsL cs).drop 1) ?_) ⟨_, _, _, _, rfl, rfl⟩ ⟨?_, ?_⟩)
    · refine sa_cons (se_var rfl (sa_cons (se_sl (se_var rfl (so_some (se_int (isI (so_none (lr_L ?_))))))))) 
      rw [cutP_tail]
      exact sa_nil ⟨by rw [List.map_drop], rfl⟩
    · rintro pre ⟨x, y⟩ post ρ' M' hx ⟨x4, x5, x6, x7, rfl, rfl⟩
      have hpl : pre.length < cs.length := by rw [← hzl, hx]; simp
      have hz : ((FS.stsL cs).zip ((FS.stsL cs).drop 1))[pre.length]? = some (x, y) := by rw [hx]; simp
      obtain ⟨c, hc⟩ : ∃ c, pre.length = c := ⟨_, rfl⟩
      rw [List.length_append, List.length_singleton, hc]
      rw [hc] at hpl hz
      have s1 : (FS.stsL cs)[c]? = some (FS.stS cs c) := by unfold FS.stsL; rw [List.getElem?_map, List.getElem?_range (by omega)]; rfl
      have s2 : (FS.stsL cs)[c + 1]? = some (FS.stS cs (c + 1)) := by unfold FS.stsL; rw [List.getElem?_map, List.getElem?_range (by omega)]; rfl
      have hz2 : ((FS.stsL cs).zip ((FS.stsL cs).drop 1))[c]? = some (FS.stS cs c, FS.stS cs (c + 1)) := zip_at s1 (by rw [List.getElem?_drop, Nat.add_comm]; exact s2)
      rw [hz] at hz2
      obtain ⟨rfl, rfl⟩ : x = FS.stS cs c ∧ y = FS.stS cs (c + 1) := by
        have := Option.some.inj hz2
        exact ⟨congrArg Prod.fst this, congrArg Prod.snd this⟩
      have b1 := hlo _ (List.mem_of_getElem? s1)
      have b2 := hlo _ (List.mem_of_getElem? s2)
      have v1 := hv _ (List.mem_of_getElem? s1)
      have v2 := hv _ (List.mem_of_getElem? s2)
      obtain ⟨u, hu⟩ : ∃ u, FS.stS cs c = u := ⟨_, rfl⟩
      obtain ⟨v, hv'⟩ : ∃ v, FS.stS cs (c + 1) = v := ⟨_, rfl⟩
      rw [hu] at b1 v1
      rw [hv'] at b2 v2
      rw [hu, hv']
      walk_at "tgE"
      rw [← lvJ_zero]
      refine ss_forX (xs := List.range (max u v - min u v).toNat) (M2 := rowsC as (lvJ cs lo N c 0) ++ [(q, .lst (as.map dR))]) (fun pre2 ρ' M' => ∃ x7, ρ' = [some (HoD cs), some (HoD (FS.stsL cs)), some (dI lo), some (dR q), some (dI (c : Int)), some (dI u), some (dI v), x7] ∧ M' = rowsC as (lvJ cs lo N c pre2.length) ++ [(q, .lst (as.map dR))]) (src_R2 (min u v) (max u v - min u v).toNat ?_) ⟨_, rfl, rfl⟩ ⟨?_, ?_⟩
      · refine sa_cons (se_cb (sa_cons (se_var rfl (sa_cons (se_var rfl (sa_nil (cr_min2 ?_)))))))
        refine sa_cons (se_cb (sa_cons (se_var rfl (sa_cons (se_var rfl (sa_nil (cr_max2 ?_)))))))
        exact sa_nil ⟨_, rfl, rfl, by omega, rfl⟩
      · rintro pre2 j post2 ρ' M' hx2 ⟨x7, rfl, rfl⟩
        have hp2 : pre2.length < (max u v - min u v).toNat := by
          have := congrArg List.length hx2
          simp at this
          omega
        have hj : j = pre2.length := by
          have h2 : (List.range (max u v - min u v).toNat)[pre2.length]? = some j := by rw [hx2]; simp
          rw [List.getElem?_range hp2] at h2
          exact (Option.some.inj h2).symm
        subst hj
        obtain ⟨j, hj⟩ : ∃ j, pre2.length = j := ⟨_, rfl⟩
        rw [List.length_append, List.length_singleton, hj]
        rw [hj] at hp2
        obtain ⟨i, hi'⟩ : ∃ i : Nat, (i : Int) = min u v + j - lo := ⟨(min u v + j - lo).toNat, by omega⟩
        have hiN : i < N := by omega
        obtain ⟨a, ha⟩ : ∃ a, as[i]? = some a := ⟨_, List.getElem?_eq_getElem (by omega)⟩
        have hE : lo + (i : Int) = min (FS.stS cs c) (FS.stS cs (c + 1)) + j := by rw [hu, hv']; omega
        have hR := lvJ_at hiN hE
        have hlen := lvR_len (cs := cs) (lo := lo) (k := c) (L := i)
        have hca := rowsC_at q (.lst (as.map dR)) ha hR
        have hcq : CA (rowsC as (lvJ cs lo N c j) ++ [(q, .lst (as.map dR))]) N q (.lst (as.map dR)) := by
          have hlr : (rowsC as (lvJ cs lo N c j)).length = N := by simp [rowsC, lvJ_len, hl]
          show _[N]? = _
          rw [List.getElem?_append_right (by omega), hlr]
          simp
        refine sg_name ?_
        refine ss_drop (se_bm (se_op (se_var rfl (se_op (se_var rfl (se_var rfl (or_sub ?_)))))))
        rw [← hi']
        refine or_ixC N hcq (e := dR a) (by rw [atI_nn (by omega) (x := dR a) (by rw [Int.toNat_natCast, List.getElem?_map, ha]; rfl)]) ⟨ty_cell hca, ?_⟩
        refine sa_cons (se_var rfl (sa_nil (br_append i hca (by rw [List.length_map, List.length_map]; omega) ?_)))
        have e9 : (a, Cell.lst (((FS.lvR cs lo c i).map PyData.int).map D.py ++ [dI (c : Int)])) = (a, Cl ((FS.lvR cs lo c i ++ [(c : Int)]).map PyData.int)) := by
          rw [cl_app, List.map_append]
          rfl
        rw [e9, rowsC_set q _ (by rw [lvJ_len]; exact hl) ha, lvJ_step hiN hE]
        exact ⟨_, rfl, rfl⟩
      · rintro ρ' M' ⟨x7, rfl, rfl⟩
        rw [List.length_range, lvJ_all cs lo N c _ (by rw [hu, hv']; omega)]
        exact ⟨_, _, _, _, rfl, rfl⟩
    · rintro ρ' M' ⟨x4, x5, x6, x7, rfl, rfl⟩
      rw [hzl]
      refine ss_ret (se_var rfl ?_)
      have := fz_rows (q := q) (Kx := Kd) as (((List.range N).map (FS.lvR cs lo cs.length)).map fun r => r.map PyData.int) [] (by simp [hl]) (by rw [List.map_map]; exact k)
      exact this

--nofm
theorem flat_len {P : List (List Int)} (h : ∀ r ∈ P, r ≠ []) : P.length ≤ P.flatten.length := by
  induction P with
  | nil => exact Nat.le_refl 0
  | cons a t ih =>
    have h1 := ih fun r hr => h r (List.mem_cons_of_mem _ hr)
    have h2 : 0 < a.length := List.length_pos_iff.mpr (h a List.mem_cons_self)
    rw [List.flatten_cons, List.length_append, List.length_cons]
    omega
theorem pn_sum {n : Nat} : ∀ {l : List Int}, (∀ c ∈ l, 0 ≤ c ∧ c < n) → (FR.pn n l).sum = l.length
  | [], _ => by
    rw [FR.pn_nil]
    induction n with
    | zero => rfl
    | succ n ih => rw [List.replicate_succ, List.sum_cons, ih (by intro c hc; cases hc)]; rfl
  | c :: t, h => by
    obtain ⟨c0, c1⟩ := h c List.mem_cons_self
    have ih := pn_sum (n := n) fun d hd => h d (List.mem_cons_of_mem _ hd)
    have e : ∀ m : Nat, m ≤ n → ((List.range m).map (FR.cntL (c :: t))).sum = ((List.range m).map (FR.cntL t)).sum + if c < m then 1 else 0 := by
      intro m
      induction m with
      | zero => intro _; rw [if_neg (by omega)]; rfl
      | succ m ih2 =>
        intro hm
        rw [List.range_succ, List.map_append, List.map_append, List.sum_append, List.sum_append, ih2 (by omega)]
        have e1 : FR.cntL (c :: t) m = FR.cntL t m + if c = (m : Int) then 1 else 0 := by
          rw [show c :: t = [c] ++ t from rfl, FR.cntL_app]
          by_cases q : c = (m : Int)
          · rw [if_pos q]; simp [FR.cntL, q]; omega
          · rw [if_neg q]; simp [FR.cntL, q]
        simp only [List.map_cons, List.map_nil, List.sum_cons, List.sum_nil]
        rw [e1]
        by_cases q : c = (m : Int)
        · rw [if_pos q, if_neg (by omega), if_pos (by omega)]; omega
        · rw [if_neg q]
          by_cases q2 : c < (m : Int)
          · rw [if_pos q2, if_pos (by omega)]; omega
          · rw [if_neg q2, if_neg (by omega)]; omega
    have := e n (Nat.le_refl n)
    unfold FR.pn at ih ⊢
    rw [this, ih, if_pos c1, List.length_cons]
    push_cast
    omega
theorem adj_len : ∀ {t : List Int} {a hi : Int}, (∀ x y, FR.Adj (a :: t) x y → x < y) → (∀ c ∈ a :: t, c < hi) → (((a :: t).length : Nat) : Int) ≤ hi - a
  | [], a, hi, _, h => by
    have := h a List.mem_cons_self
    simp
    omega
  | b :: t, a, hi, h1, h => by
    have := adj_len (t := t) (a := b) (hi := hi) (fun x y hx => h1 x y (.inr hx)) fun c hc => h c (List.mem_cons_of_mem _ hc)
    have h2 := h1 a b (.inl ⟨rfl, rfl⟩)
    rw [List.length_cons]
    push_cast
    omega
theorem alt_len {n : Nat} {r : List Int} (h : FS.Alt r) (hr : ∀ c ∈ r, 0 ≤ c ∧ c < n) (hn : n ≤ 200) : r.length ≤ 200 := by
  cases r with
  | nil => simp
  | cons a t =>
    have := adj_len (hi := n) (fun x y hx => (h.adj x y hx).1) fun c hc => (hr c hc).2
    have := hr a List.mem_cons_self
    omega
/-- what is asked of counts -/
structure CntOk (cs : List Int) : Prop where
  n : cs.length ≤ 200
  nn : ∀ c ∈ cs, 0 ≤ c
  f : few cs ≤ 1000
  s : cs.sum ≤ 900000
  v : ∀ v ∈ FS.stsL cs, -(2 ^ 60) ≤ v ∧ v ≤ 2 ^ 60
theorem few_nn (cs : List Int) : 0 ≤ few cs := by
  have := PL.minL_le (PL.maxL_mem (stsL_nn (cs := cs)))
  unfold few
  omega
theorem CntOk.flat {cs : List Int} (h : CntOk cs) : (((FS.lvls cs cs.length).flatten.length : Nat) : Int) = cs.sum := by
  have m := FS.lvls_makes h.nn
  conv => rhs; rw [m.1]
  rw [pn_sum]
  intro c hc
  obtain ⟨r, hr, hcr⟩ := List.mem_flatten.mp hc
  exact (m.2 r hr).2 c hcr
theorem lvls_nelen (cs : List Int) : ((FS.lvls cs cs.length).length : Int) = few cs := by
  rw [FS.lvls_len, Int.toNat_of_nonneg (few_nn cs)]
abbrev plan (cs : List Int) (many : Int) : List (List Int) := FS.prt (many - few cs) (FS.lvls cs cs.length)
theorem CntOk.plan_len {cs : List Int} (h : CntOk cs) {many : Int} (h1 : few cs ≤ many) (h2 : many ≤ cs.sum) : ((plan cs many).length : Int) = many := by
  have m := FS.lvls_makes h.nn
  rw [FS.prt_len _ _ (fun r hr => (m.2 r hr).1.ne) (by omega) (by rw [h.flat, lvls_nelen]; omega), lvls_nelen]
  omega
theorem CntOk.plan_makes {cs : List Int} (h : CntOk cs) (many : Int) : FS.Makes cs.length (plan cs many) cs := FS.prt_makes _ (FS.lvls_makes h.nn)
def sp_made (T : Txt K mg) : DSp := fun ds M Kd KX => ∃ (cs : List Int) (many : Int), ds = [HoD cs, dI many] ∧ M = [] ∧ CntOk cs ∧ (¬ (few cs ≤ many ∧ many ≤ cs.sum) → Kd dN []) ∧ (few cs ≤ many → many ≤ cs.sum → Kd (dL ((plan cs many).map RowD)) [])
theorem ok_made (T : Txt K mg) : FnOk P w K mg base CX0 3 T.f_made T.fd_made ["counts", "many"] (spD (sp_made T)) := by
  refine fn_ok T.F_made sc_made (fun ds M Kd KX h => ?hl) (fun cdv A outer s0 H E hr => ⟨_, (pss_cons (ps_if (pt_not (pt_chain op_le op_le (pe_call (ok_fewest_seen T) hr (by rfl) T.g_fewest_seen T.F_fewest_seen.kp T.b_fewest_seen .nil pass0 (pa_cons (pv 0) pa_nil)) (pv 1) (pe_callB (cr_sumK (K := K) rfl) (by rfl) T.z_sum (by decide +kernel) (pa_cons (pv 0) pa_nil))))
      (pss_one (ps_ret pe_non))
      pss_nil)
      (pss_cons (ps_set (i := 2) sc_made.nd rfl (by first | exact Or.inl rfl | exact Or.inr rfl) (pe_lst pa_nil))
      (pss_cons (ps_set (i := 3) sc_made.nd rfl (by first | exact Or.inl rfl | exact Or.inr rfl) (pe_op op_sub (pv 1) (pe_call (ok_fewest_seen T) hr (by rfl) T.g_fewest_seen T.F_fewest_seen.kp T.b_fewest_seen .nil pass0 (pa_cons (pv 0) pa_nil))))
      (pss_cons (ps_for PassesOwn.never rfl (pi_anyK (K := K) (pe_call (ok_by_levels T) hr (by rfl) T.g_by_levels T.F_by_levels.kp T.b_by_levels .nil pass0 (pa_cons (pv 0) pa_nil))) (pg_name (i := 4) sc_made.nd rfl (by first | exact Or.inl rfl | exact Or.inr rfl))
      (pss_cons (ps_set (i := 5) sc_made.nd rfl (by first | exact Or.inl rfl | exact Or.inr rfl) (pe_callB (call_min2' rfl) (by rfl) T.z_min (by decide +kernel) (pa_cons (pv 3) (pa_cons (pe_op op_sub (pe_callB (call_lenK (K := K)) (by rfl) T.z_len (by decide +kernel) (pa_cons (pv 4) pa_nil)) pe_int) pa_nil))))
      (pss_cons (ps_expr (pe_bmK (K := K) PySem.F.plainAttrs_list PySem.F.slot_list_extend PySem.F.type_list_extend mt_extend (pv 2) (pa_cons (pe_lc (own := [("cell", 6)]) rfl sc_made.nd (pi_anyK (K := K) (pe_slice (sl_anyK (K := K)) (pv 4) po_none (po_some (pv 5)))) (blkOk_by (own := [("cell", 6)]) (N := ["counts", "many", "found", "more", "cells", "cut", "cell"]) (sc := defScope s_made) (by decide +kernel)) (fun _ _ _ _ _ => pg_name (i := 6) sc_made.nd rfl (by first | exact Or.inl rfl | exact Or.inr rfl)) (fun _ _ _ _ _ => pts_nil) (fun _ _ _ _ _ => pe_lst (pa_cons (pv 6) pa_nil))) pa_nil)))
      (pss_cons (ps_expr (pe_bmK (K := K) PySem.F.plainAttrs_list PySem.F.slot_list_append PySem.F.type_list_append mt_append (pv 2) (pa_cons (pe_slice (sl_anyK (K := K)) (pv 4) (po_some (pv 5)) po_none) pa_nil)))
      (pss_one (ps_aug (i := 3) sc_made.nd rfl (by first | exact Or.inl rfl | exact Or.inr rfl) (pv 5) ip_sub))))))
      (pss_one (ps_ret (pv 2))))))), fun ds M Kd KX h => ?_⟩)
  · obtain ⟨cs, many, rfl, _⟩ := h
    rfl
  · obtain ⟨cs, many, rfl, rfl, ok, k1, k2⟩ := h
    have hn := ok.n
    show SS W0 _ [some (HoD cs), some (dI many), none, none, none, none, none] [] _
    refine ss_seq (ss_if (st_not (ST.imp (K' := fun b M' => b = decide (few cs ≤ many ∧ many ≤ cs.sum) ∧ M' = []) ?_ ?_)))
    · refine st_test <| se_chain <| se_call0 0 <| sa_cons <| se_var rfl <| sa_nil ⟨cs, rfl, rfl, hn, ?_⟩
      walk_at "e"
      by_cases h1 : few cs ≤ many
      · refine br_T (decide_eq_true h1) ?_
        walk_at "e"
        refine cr_sumL (.py _) ?_
        walk_at "e"
        exact ⟨by simp [h1], rfl⟩
      · refine br_F (decide_eq_false h1) ?_
        walk_at "e"
        exact ⟨by simp [h1], rfl⟩
    rintro b M' ⟨rfl, rfl⟩
    by_cases hb : few cs ≤ many ∧ many ≤ cs.sum
    · rw [decide_eq_true hb]
      have k := k2 hb.1 hb.2
      have hpl := ok.plan_len hb.1 hb.2
      have hs := ok.s
      have hR := (FS.lvls_makes ok.nn).2
      refine br_F rfl (ss_next ?_)
      refine ss_seq (ss_set (se_lstC (sa_nil ⟨by decide, fun q => ?_⟩)))
      refine ss_seq (ss_set (se_op (se_var rfl (se_call0 0 (sa_cons (se_var rfl (sa_nil ⟨cs, rfl, rfl, hn, or_sub ?_⟩)))))))
      unfold plan at k hpl
      obtain ⟨P0, hP0⟩ : ∃ P0, FS.lvls cs cs.length = P0 := ⟨_, rfl⟩
      obtain ⟨m0, hm0⟩ : ∃ m0, many - few cs = m0 := ⟨_, rfl⟩
      have hm00 : 0 ≤ m0 := by omega
      rw [hP0] at k hpl hR
      rw [hm0] at k hpl ⊢
      show SS W0 _ [some (HoD cs), some (dI many), some (dR q), some (dI m0), none, none, none] [(q, .lst [])] _
      refine ss_seq (ss_forX (xs := P0) (M2 := [(q, .lst [])]) (fun pre ρ' M' => ∃ (F : List (List Int)) (m : Int) (post : List (List Int)) (x4 x5 x6 : Option D), P0 = pre ++ post ∧ ρ' = [some (HoD cs), some (dI many), some (dR q), some (dI m), x4, x5, x6] ∧ M' = [(q, Cl (F.map RowD))] ∧ F ++ FS.prt m post = FS.prt m0 P0 ∧ 0 ≤ m) (src_L RowD P0 ?_) ⟨[], m0, P0, _, _, _, rfl, rfl, rfl, rfl, hm00⟩ ⟨?_, ?_⟩)
      · refine se_call0 0 (sa_cons (se_var rfl (sa_nil ⟨cs, rfl, rfl, hn, ok.v, ok.f, ?_⟩)))
        rw [hP0]
        exact ⟨rfl, rfl⟩
      · rintro pre r post ρ' M' hx ⟨F, m, post', x4, x5, x6, hpost, rfl, rfl, hF, hm⟩
        obtain rfl : r :: post = post' := List.append_cancel_left (hx.symm.trans hpost)
        have hrm : r ∈ P0 := by rw [hx]; simp
        have hrl : 0 < r.length := List.length_pos_iff.mpr (hR r hrm).1.ne
        rw [FS.prt] at hF
        obtain ⟨ct, hct⟩ : ∃ ct, min m ((r.length : Int) - 1) = ct := ⟨_, rfl⟩
        rw [hct] at hF
        have hFl := congrArg List.length hF
        simp only [List.length_append, List.length_map, List.length_singleton] at hFl
        refine sg_name ?_
        refine ss_seq <| ss_set <| se_cb <| sa_cons <| se_var rfl <| sa_cons <| se_op <| se_cb <| sa_cons <| se_var rfl <| sa_nil <| cr_len ?_
        rw [List.length_map]
        refine se_int <| or_sub <| sa_nil <| cr_min2 ?_
        rw [hct]
        refine ss_seq <| ss_drop <| se_bm <| se_var rfl ⟨ty_cell (i := 0) rfl, ?_⟩
        have hrl2 : ∀ r ∈ P0, r.length ≤ 200 := fun r hr => alt_len (hR r hr).1 (hR r hr).2 hn
        refine sa_cons <| se_lcM (xs := r.take ct.toNat) (M2 := [(q, Cl (F.map RowD))]) (fun c => RowD [c]) (by walk_at "g") (src_L PyData.int (r.take ct.toNat) ?_) ?_ ?_ ?_
        · refine se_sl <| se_var rfl <| so_none <| so_some <| se_var rfl <| isI <| lr_L ?_
          rw [cutP_to (by omega), ← List.map_take]
          exact ⟨rfl, rfl⟩
        · rw [List.length_take]
          have := hrl2 r hrm
          omega
        · rintro pre2 c post2 hx2
          exact sg_name (se_lst (sa_cons (se_var rfl (sa_nil (unp rfl (Nat.le_of_ble_eq_true rfl) ⟨rfl, rfl, rfl⟩)))))
        refine sa_nil (br_extend 0 (ds := (F.map RowD).map D.py) (es := ((r.take ct.toNat).map fun c => RowD [c]).map D.py) rfl (.py _) ?_ ?_)
        · rw [List.length_map, List.length_map, List.length_map, List.length_map]
          rw [List.length_take] at hFl ⊢
          omega
        refine ss_seq <| ss_drop <| se_bm <| se_var rfl ⟨ty_cell (i := 0) rfl, ?_⟩
        refine sa_cons <| se_sl <| se_var rfl <| so_some <| se_var rfl <| isI <| so_none <| lr_L ?_
        rw [cutP_from (by omega), ← List.map_drop]
        refine sa_nil (br_append 0 (ds := (F.map RowD).map D.py ++ ((r.take ct.toNat).map fun c => RowD [c]).map D.py) rfl ?_ ?_)
        · rw [List.length_append, List.length_map, List.length_map, List.length_map, List.length_map]
          rw [List.length_take] at hFl ⊢
          omega
        refine ss_augI rfl (se_var rfl (isI ⟨F ++ ((r.take ct.toNat).map (fun c => [c]) ++ [r.drop ct.toNat]), m - ct, post, _, _, _, by rw [hx]; simp, rfl, ?_, ?_, by omega⟩))
        · show [(q, Cell.lst _)] = [(q, Cell.lst _)]
          simp [List.map_append]
          rfl
        · rw [← hF]
          simp [List.append_assoc]
      · rintro ρ' M' ⟨F, m, post, x4, x5, x6, hpost, rfl, rfl, hF, hm⟩
        obtain rfl : post = [] := by
          have := congrArg List.length hpost
          rw [List.length_append] at this
          exact List.length_eq_zero_iff.mp (by omega)
        rw [FS.prt, List.append_nil] at hF
        subst hF
        exact ss_ret (se_var rfl (Ret.lst 0 rfl k))
    · rw [decide_eq_false hb]
      refine br_T rfl (ss_ret (se_non (Ret.py (k1 hb))))
def sp_law_list_right (T : Txt K mg) : DSp := fun ds M Kd KX => ∃ (r : List Int), ds = [HoD r] ∧ M = [] ∧ r.length ≤ 1000 ∧ FS.Alt r ∧ Kd (dB true) []
theorem ok_law_list_right (T : Txt K mg) : FnOk P w K mg base CX0 1 T.f_law_list_right T.fd_law_list_right ["cells"] (spD (sp_law_list_right T)) := by
  refine fn_ok T.F_law_list_right sc_law_list_right (fun ds M Kd KX h => ?hl) (fun cdv A outer s0 H E hr => ⟨_, (pss_cons (ps_for PassesOwn.never rfl (pi_range2 (by rfl) T.z_range (pa_cons pe_int (pa_cons (pe_callB (call_lenK (K := K)) (by rfl) T.z_len (by decide +kernel) (pa_cons (pv 0) pa_nil)) pa_nil))) (pg_name (i := 1) sc_law_list_right.nd rfl (by first | exact Or.inl rfl | exact Or.inr rfl))
      (pss_one (ps_if (PW.pt (pw_or (pt_cmpR op_le (pe_ix (ix_seqK (K := K)) (pv 0) (pv 1) (fun _ _ => rfl)) (pe_ix (ix_seqK (K := K)) (pv 0) (pe_op op_sub (pv 1) pe_int) (fun _ _ => rfl)) (nomark _)) (pw_or1 (pt_cmpR (op_eqK (K := K) hr.units) (pe_op op_mod (pe_op op_sub (pe_ix (ix_seqK (K := K)) (pv 0) (pv 1) (fun _ _ => rfl)) (pe_ix (ix_seqK (K := K)) (pv 0) (pe_op op_sub (pv 1) pe_int) (fun _ _ => rfl))) pe_int) pe_int (nomark _)))))
      (pss_one (ps_ret pe_bl))
      pss_nil)))
      (pss_one (ps_ret (pe_cmpR (op_neK (K := K) hr.units) (pv 0) (pe_lst pa_nil) (nomark _))))), fun ds M Kd KX h => ?_⟩)
  · obtain ⟨r, rfl, _⟩ := h
    rfl
  · obtain ⟨r, rfl, rfl, hl, ha, k⟩ := h
    show SS W0 _ [some (HoD r), none] [] _
    refine ss_seq (ss_forX (xs := List.range (r.length - 1)) (M2 := []) (fun pre ρ' M' => ∃ x, ρ' = [some (HoD r), x] ∧ M' = []) (src_R2 1 (r.length - 1) ?_) ⟨_, rfl, rfl⟩ ⟨?_, ?_⟩)
    · refine sa_cons (se_int (sa_cons (se_cb (sa_cons (se_var rfl (sa_nil (cr_len ?_)))))))
      rw [List.length_map]
      exact sa_nil ⟨_, rfl, by omega, by omega, rfl⟩
    · rintro pre t post ρ' M' hx ⟨x, rfl, rfl⟩
      have ht : t < r.length - 1 := List.mem_range.mp (by rw [hx]; simp)
      obtain ⟨a, hat⟩ : ∃ a, r[t]? = some a := ⟨_, List.getElem?_eq_getElem (by omega)⟩
      obtain ⟨b, hbt⟩ : ∃ b, r[t + 1]? = some b := ⟨_, List.getElem?_eq_getElem (by omega)⟩
      have hadj := ha.adj a b (FR.adj_zip.mp (List.mem_of_getElem? (zip_at hat (show (r.drop 1)[t]? = some b by rw [List.getElem?_drop, Nat.add_comm]; exact hbt))))
      have hb' : r[(1 + (t : Int)).toNat]? = some b := by rw [show (1 + (t : Int)).toNat = t + 1 by omega]; exact hbt
      have ha' : r[(1 + (t : Int) - 1).toNat]? = some a := by rw [show (1 + (t : Int) - 1).toNat = t by omega]; exact hat
      refine sg_name (ss_if (st_or ?_))
      refine st_test <| se_op <| se_op <| se_var rfl <| se_var rfl <| or_ixP PyData.int (by omega) hb' ?_
      refine se_op <| se_var rfl <| se_op <| se_var rfl <| se_int <| or_sub <| or_ixP PyData.int (by omega) ha' <| or_cmp <| isB ?_
      refine br_F (decide_eq_false (by omega)) ?_
      refine st_test <| se_op <| se_op <| se_op <| se_op <| se_var rfl <| se_var rfl <| or_ixP PyData.int (by omega) hb' ?_
      refine se_op <| se_var rfl <| se_op <| se_var rfl <| se_int <| or_sub <| or_ixP PyData.int (by omega) ha' <| or_sub <| se_int <| or_mod (by decide) <| se_int <| or_eqAI <| isB ?_
      exact br_F (decide_eq_false (by omega)) (ss_next ⟨_, rfl, rfl⟩)
    · rintro ρ' M' ⟨x, rfl, rfl⟩
      refine ss_ret (se_op (se_var rfl (se_lst0 (or_neNil (layI _) ?_))))
      rw [decide_eq_false (fun e => ha.ne (List.map_eq_nil_iff.mp e))]
      exact Ret.py k
theorem eqv_ints : ∀ (xs ys : List Int), PyData.eqv (.list (xs.map PyData.int)) (.list (ys.map PyData.int)) = decide (xs = ys) := by
  have key : ∀ (xs ys : List Int), PyData.eqvAll (xs.map PyData.int) (ys.map PyData.int) = decide (xs = ys) := by
    intro xs
    induction xs with
    | nil => intro ys; cases ys <;> simp [PyData.eqvAll]
    | cons x xs ih =>
      intro ys
      cases ys with
      | nil => simp [PyData.eqvAll]
      | cons y ys =>
        simp only [List.map_cons, PyData.eqvAll, eqv_int, ih, List.cons.injEq]
        by_cases h : x = y <;> simp [h]
  intro xs ys
  rw [PyData.eqv]
  exact key xs ys
def sp_law_made_right (T : Txt K mg) : DSp := fun ds M Kd KX => ∃ (cs : List Int) (am : Int), ds = [HoD cs, dI am] ∧ M = [] ∧ CntOk cs ∧ few cs ≤ am ∧ am ≤ cs.sum ∧ Kd (dB true) []
theorem ok_law_made_right (T : Txt K mg) : FnOk P w K mg base CX0 4 T.f_law_made_right T.fd_law_made_right ["counts", "amount"] (spD (sp_law_made_right T)) := by
  refine fn_ok T.F_law_made_right sc_law_made_right (fun ds M Kd KX h => ?hl) (fun cdv A outer s0 H E hr => ⟨_, (pss_cons (ps_set (i := 2) sc_law_made_right.nd rfl (by first | exact Or.inl rfl | exact Or.inr rfl) (pe_call (ok_made T) hr (by rfl) T.g_made T.F_made.kp T.b_made .nil pass0 (pa_cons (pv 0) (pa_cons (pv 1) pa_nil))))
      (pss_cons (ps_if (PW.pt (pw_or (pt_cmpR op_isN (pv 2) pe_non (nomark _)) (pw_or (pt_cmpR (op_neK (K := K) hr.units) (pe_callB (call_lenK (K := K)) (by rfl) T.z_len (by decide +kernel) (pa_cons (pv 2) pa_nil)) (pv 1) (nomark _)) (pw_or1 (pt_cmpR (op_neK (K := K) hr.units) (pe_lc (own := [("cells", 4)]) rfl sc_law_made_right.nd (pi_anyK (K := K) (pv 2)) (blkOk_by (own := [("cells", 4)]) (N := ["counts", "amount", "told", "found", "cells", "k"]) (sc := defScope s_law_made_right) (by decide +kernel)) (fun _ _ _ _ _ => pg_name (i := 4) sc_law_made_right.nd rfl (by first | exact Or.inl rfl | exact Or.inr rfl)) (fun _ _ _ _ _ => pts_one (pt_not (pt_val (pe_call (ok_law_list_right T) (hr.mono (by decide)) (by rfl) T.g_law_list_right T.F_law_list_right.kp T.b_law_list_right .nil pass0 (pa_cons (pv 4) pa_nil))))) (fun _ _ _ _ _ => pv 4)) (pe_lst pa_nil) (nomark _))))))
      (pss_one (ps_ret pe_bl))
      pss_nil)
      (pss_cons (ps_set (i := 3) sc_law_made_right.nd rfl (by first | exact Or.inl rfl | exact Or.inr rfl) (pe_op op_mulA (pe_lst (pa_cons pe_int pa_nil)) (pe_callB (call_lenK (K := K)) (by rfl) T.z_len (by decide +kernel) (pa_cons (pv 0) pa_nil))))
      (pss_cons (ps_for PassesOwn.never rfl (pi_anyK (K := K) (pv 2)) (pg_name (i := 4) sc_law_made_right.nd rfl (by first | exact Or.inl rfl | exact Or.inr rfl))
      (pss_one (ps_for PassesOwn.never rfl (pi_anyK (K := K) (pv 4)) (pg_name (i := 5) sc_law_made_right.nd rfl (by first | exact Or.inl rfl | exact Or.inr rfl))
      (pss_one (ps_asg (pe_op op_addA (pe_ix (ix_seqK (K := K)) (pv 3) (pv 5) (fun _ _ => rfl)) pe_int) (pg_sub (pv 3) (pv 5) set_list))))))
      (pss_one (ps_ret (pe_cmpR (op_eqK (K := K) hr.units) (pv 3) (pv 0) (nomark _)))))))), fun ds M Kd KX h => ?_⟩)
  · obtain ⟨cs, am, rfl, _⟩ := h
    rfl
  · obtain ⟨cs, am, rfl, rfl, ok, h1, h2, k⟩ := h
    have hn := ok.n
    have hs := ok.s
    show SS W0 _ [some (HoD cs), some (dI am), none, none, none, none] [] _
    refine ss_seq (ss_asg (se_call0 0 (sa_cons (se_var rfl (sa_cons (se_var rfl (sa_nil ⟨cs, am, rfl, rfl, ok, fun e => absurd ⟨h1, h2⟩ e, fun _ _ => ?_⟩)))))))
    have hpl := ok.plan_len h1 h2
    obtain ⟨mk, hR⟩ := ok.plan_makes am
    obtain ⟨Q, hQ⟩ : ∃ Q, plan cs am = Q := ⟨_, rfl⟩
    rw [hQ] at hpl mk hR ⊢
    have hRl : ∀ r ∈ Q, r.length ≤ 200 := fun r hr => alt_len (hR r hr).1 (hR r hr).2 hn
    refine sg_name ?_
    show SS W0 _ [some (HoD cs), some (dI am), some (dL (Q.map RowD)), none, none, none] [] _
    refine ss_seq <| ss_if <| st_or <| st_test <| se_op <| se_var rfl <| se_non <| or_isN <| isB <| br_F (by rfl) ?_
    refine st_or <| st_test <| se_op <| se_cb <| sa_cons <| se_var rfl <| sa_nil <| cr_len ?_
    rw [List.length_map]
    refine se_var rfl <| or_neAI <| isB <| br_F (by rw [decide_eq_true hpl]; rfl) ?_
    refine st_test <| se_op <| se_lcF (xs := Q) (M2 := []) (fun _ => false) RowD (by walk_at "g") (src_L RowD Q (se_var rfl ⟨rfl, rfl⟩)) (by omega) ?_ ?_
    · rintro pre r post hx
      have hr : r ∈ Q := by rw [hx]; simp
      have := hRl r hr
      refine sg_name (st_not (st_B (se_call0 0 (sa_cons (se_var rfl (sa_nil ⟨r, rfl, rfl, by omega, (hR r hr).1, isB ?_⟩))))))
      exact ⟨rfl, rfl, fun h => by cases h⟩
    refine se_lst0 <| or_neNil ?_ ?_
    · intro p hp
      rw [List.filter_eq_nil_iff.mpr (by simp)] at hp
      cases hp
    rw [List.filter_eq_nil_iff.mpr (by simp)]
    refine isB (br_F rfl (ss_next ?_))
    refine ss_seq <| ss_asg <| se_op <| se_lst <| sa_cons <| se_int <| sa_nil <| unp rfl (Nat.le_of_ble_eq_true rfl) ?_
    refine se_cb <| sa_cons <| se_var rfl <| sa_nil <| cr_len ?_
    rw [List.length_map]
    refine or_repC (.py _) (by omega) (by omega) (by simp; omega) fun q => sg_name ?_
    have e0 : (List.replicate (Int.toNat cs.length) [PyData.int 0]).flatten = (FR.pn cs.length []).map PyData.int := by
      rw [rep_fl, Int.toNat_natCast, FR.pn_nil, List.map_replicate]
    rw [e0]
    show SS W0 _ [some (HoD cs), some (dI am), some (dL (Q.map RowD)), some (dR q), none, none] [(q, Cl ((FR.pn cs.length []).map PyData.int))] _
    refine ss_seq (ss_forL RowD Q (fun pre ρ' M' => ∃ x4 x5, ρ' = [some (HoD cs), some (dI am), some (dL (Q.map RowD)), some (dR q), x4, x5] ∧ M' = [(q, Cl ((FR.pn cs.length pre.flatten).map PyData.int))]) (se_var rfl ⟨rfl, _, _, rfl, rfl⟩) ⟨?_, ?_⟩)
    · rintro pre r post ρ' M' hx ⟨x4, x5, rfl, rfl⟩
      have hr : r ∈ Q := by rw [hx]; simp
      refine sg_name (ss_forL PyData.int r (fun pre2 ρ' M' => ∃ x5, ρ' = [some (HoD cs), some (dI am), some (dL (Q.map RowD)), some (dR q), some (HoD r), x5] ∧ M' = [(q, Cl ((FR.pn cs.length (pre.flatten ++ pre2)).map PyData.int))]) (se_var rfl ⟨rfl, _, rfl, by rw [List.append_nil]⟩) ⟨?_, ?_⟩)
      · rintro pre2 c post2 ρ' M' hx2 ⟨x5, rfl, rfl⟩
        obtain ⟨c0, c1⟩ := (hR r hr).2 c (by rw [hx2]; simp)
        have hat : (FR.pn cs.length (pre.flatten ++ pre2))[c.toNat]? = some (FR.cntL (pre.flatten ++ pre2) c.toNat) := FR.pn_at (by omega)
        have hst := FR.pn_step (l := pre.flatten ++ pre2) c0 c1
        have hll : (FR.pn cs.length (pre.flatten ++ pre2)).length = cs.length := FR.pn_len
        rw [← List.append_assoc, hst]
        obtain ⟨L, hL⟩ : ∃ L, FR.pn cs.length (pre.flatten ++ pre2) = L := ⟨_, rfl⟩
        obtain ⟨v, hv⟩ : ∃ v, FR.cntL (pre.flatten ++ pre2) c.toNat = v := ⟨_, rfl⟩
        rw [hL] at hat hll ⊢
        rw [hv] at hat ⊢
        refine sg_name <| ss_asg <| se_op <| se_op <| se_var rfl <| se_var rfl <| or_ixPC (p := .int v) 0 rfl c0 (by rw [List.getElem?_map, hat]; rfl) ?_
        refine se_int <| or_addI <| sg_setP <| se_var rfl <| se_var rfl ⟨0, q, L.map PyData.int, c, _, rfl, rfl, rfl, rfl, c0, by rw [List.length_map]; omega, ?_⟩
        exact ⟨_, rfl, by rw [List.map_set]; rfl⟩
      · rintro ρ' M' ⟨x5, rfl, rfl⟩
        exact ⟨_, _, rfl, by simp⟩
    · rintro ρ' M' ⟨x4, x5, rfl, rfl⟩
      rw [← mk]
      refine ss_frz 0 3 rfl rfl ?_
      refine ss_ret <| se_op <| se_var rfl <| se_var rfl <| or_eqAD (shaped_list (layI _)) (shaped_list (layI _)) ?_
      have : PyData.eqv (.list (cs.map PyData.int)) (.list (cs.map PyData.int)) = true := by rw [eqv_ints]; exact decide_eq_true rfl
      rw [this]
      exact Ret.py k

--nofm
theorem pw_cnt : ∀ {r : List Int} (k : Nat), r.Pairwise (· < ·) → FR.cntL r k = if (k : Int) ∈ r then 1 else 0
  | [], k, _ => by simp [FR.cntL]
  | c :: t, k, h => by
    have h' := List.pairwise_cons.mp h
    have ih := pw_cnt k h'.2
    rw [show c :: t = [c] ++ t from rfl, FR.cntL_app, ih]
    by_cases e : c = (k : Int)
    · have : (k : Int) ∉ t := fun hk => by
        have := h'.1 _ hk
        omega
      rw [if_neg this, if_pos (by simp [e])]
      simp [FR.cntL, e]
    · by_cases hk : (k : Int) ∈ t
      · rw [if_pos hk, if_pos (by simp [hk])]
        simp [FR.cntL, e]
      · have : (k : Int) ∉ [c] ++ t := by
          simp only [List.singleton_append, List.mem_cons, not_or]
          exact ⟨fun q => e q.symm, hk⟩
        rw [if_neg hk, if_neg this]
        simp [FR.cntL, e]
theorem alt_cnt {r : List Int} (h : FS.Alt r) (k : Nat) : FR.cntL r k = if (k : Int) ∈ r then 1 else 0 := pw_cnt k (FR.adj_pw fun x y hx => (h.adj x y hx).1)
theorem addP_pn (n : Nat) (l r : List Int) : addP (FR.pn n l) r = FR.pn n (l ++ r) := by
  apply List.ext_getElem?
  intro i
  by_cases h : i < n
  · rw [addP_at (by rw [FR.pn_len]; exact h), FR.pn_at h, show (FR.pn n l).getD i 0 = FR.cntL l i by rw [List.getD_eq_getElem?_getD, FR.pn_at h]; rfl, FR.cntL_app]
  · rw [List.getElem?_eq_none (by rw [addP_len, FR.pn_len]; omega), List.getElem?_eq_none (by rw [FR.pn_len]; omega)]
theorem makes_len {n : Nat} {P : List (List Int)} {cs : List Int} (h : FS.Makes n P cs) : cs.length = n := by rw [h.1, FR.pn_len]
theorem makes_nn {n : Nat} {P : List (List Int)} {cs : List Int} (h : FS.Makes n P cs) : ∀ c ∈ cs, 0 ≤ c := by
  intro c hc
  rw [h.1] at hc
  obtain ⟨k, _, rfl⟩ := List.mem_map.mp hc
  exact FR.cntL_nn _ _
theorem makes_add {n : Nat} {P : List (List Int)} {cs r : List Int} (h : FS.Makes n P cs) (ha : FS.Alt r) (hr : ∀ c ∈ r, 0 ≤ c ∧ c < n) : FS.Makes n (P ++ [r]) (addP cs r) := by
  refine ⟨?_, fun q hq => ?_⟩
  · conv => lhs; rw [h.1]
    rw [addP_pn, List.flatten_append]
    simp
  · rcases List.mem_append.mp hq with hq | hq
    · exact h.2 q hq
    · rw [List.mem_singleton] at hq
      subst hq
      exact ⟨ha, hr⟩
theorem flat_max {P : List (List Int)} (h : ∀ r ∈ P, r.length ≤ 200) : P.flatten.length ≤ 200 * P.length := by
  induction P with
  | nil => exact Nat.le_refl 0
  | cons a t ih =>
    have h1 := ih fun r hr => h r (List.mem_cons_of_mem _ hr)
    have h2 := h a List.mem_cons_self
    rw [List.flatten_cons, List.length_append, List.length_cons]
    omega
theorem makes_sum {n : Nat} {P : List (List Int)} {cs : List Int} (h : FS.Makes n P cs) : cs.sum = P.flatten.length := by
  conv => lhs; rw [h.1]
  refine pn_sum fun c hc => ?_
  obtain ⟨r, hr, hcr⟩ := List.mem_flatten.mp hc
  exact (h.2 r hr).2 c hcr
theorem makes_ok {n : Nat} {P : List (List Int)} {cs : List Int} (h : FS.Makes n P cs) (hn : n ≤ 200) (hp : P.length ≤ 1000) : CntOk cs ∧ few cs ≤ P.length ∧ (P.length : Int) ≤ cs.sum := by
  have e := makes_len h
  have f := FS.few_le (P := P) (cs := cs) (by rw [e]; exact h)
  have s := makes_sum h
  have m := flat_max (P := P) fun r hr => alt_len (h.2 r hr).1 (h.2 r hr).2 hn
  have l := flat_len (P := P) fun r hr => (h.2 r hr).1.ne
  have h0 : (0 : Int) ∈ FS.stsL cs := List.mem_map.mpr ⟨0, List.mem_range.mpr (by omega), rfl⟩
  have a1 := PL.minL_le h0
  have a2 := PL.maxL_ge h0
  refine ⟨⟨by omega, makes_nn h, by unfold few; omega, by omega, fun v hv => ?_⟩, f, by omega⟩
  have b1 := PL.minL_le hv
  have b2 := PL.maxL_ge hv
  omega
/-- what is kept: counts, the punches that make them -/
abbrev Kp : Type := List Int × List (List Int)
def kpP (x : Kp × Nat) : PyData := .tuple [.int (x.2 : Int), .list (x.1.1.map PyData.int), .int (x.1.2.length : Int)]
abbrev kpC (Kq : List Kp) : Cell := Cl (Kq.zipIdx.map kpP)
theorem kp_lay (Kq : List Kp) : ∀ p ∈ Kq.zipIdx.map kpP, p.canLay0 = true ∧ p.depth ≤ 10 := by
  intro p hp
  obtain ⟨x, _, rfl⟩ := List.mem_map.mp hp
  have h1 : ∀ v : List Int, PyData.canLayAll0 (v.map PyData.int) = true ∧ PyData.depthAll (v.map PyData.int) ≤ 3 := by
    intro v
    induction v with
    | nil => exact ⟨rfl, by simp [PyData.depthAll]⟩
    | cons a t ih =>
      simp only [List.map_cons, PyData.canLayAll0, PyData.depthAll, PyData.canLay0, PyData.depth]
      refine ⟨by simp [ih.1], by omega⟩
  have h1 := h1 x.1.1
  unfold kpP
  simp only [PyData.canLay0, PyData.canLayAll0, PyData.depth, PyData.depthAll]
  refine ⟨by simp [h1.1], by omega⟩
theorem kp_app (Kq : List Kp) (x : Kp) : (Kq ++ [x]).zipIdx.map kpP = Kq.zipIdx.map kpP ++ [kpP (x, Kq.length)] := by
  rw [List.zipIdx_append, List.map_append]
  simp
structure KpOk (n t : Nat) (Kq : List Kp) : Prop where
  l : Kq.length ≤ 5
  m : ∀ x ∈ Kq, FS.Makes n x.2 x.1 ∧ x.2.length ≤ t
theorem KpOk.mono {n t t' : Nat} {Kq : List Kp} (h : KpOk n t Kq) (ht : t ≤ t') : KpOk n t' Kq := ⟨h.l, fun x hx => ⟨(h.m x hx).1, Nat.le_trans (h.m x hx).2 ht⟩⟩
theorem rot4 {α : Type} (a b c d : α) : [a, b, c, d].Perm ([b, c] ++ [a, d]) := (List.Perm.swap _ _ _).trans ((List.Perm.swap _ _ _).cons _)
abbrev cel4 (T : Txt K mg) (c p m q : Addr) (g : Bag) (ps : Int) (cs : List Int) (Kq : List Kp) : Cells := [(c, bagC g), (p, papC T ps cs m), (m, mksC ps (Kq.map (·.1))), (q, kpC Kq)]
def sp_law (T : Txt K mg) : DSp := fun ds M Kd KX => ∃ (ns : List Int), ds = [.sq K (ns.map V.int)] ∧ M = [] ∧ ns.length ≤ 63 ∧ Kd (dB true) []
theorem ok_law (T : Txt K mg) : FnOk P w K mg base CX0 9 T.f_law T.fd_law ["script"] (spD (sp_law T)) := by
  refine fn_ok T.F_law sc_law (fun ds M Kd KX h => ?hl) (fun cdv A outer s0 H E hr => ⟨_, (pss_cons (ps_set (i := 1) sc_law.nd rfl (by first | exact Or.inl rfl | exact Or.inr rfl) (pe_call (ok_law_bag T) (hr.mono (by decide)) (by rfl) T.g_law_bag T.F_law_bag.kp T.b_law_bag .nil pass0 (pa_cons (pv 0) pa_nil)))
      (pss_cons (ps_set (i := 2) sc_law.nd rfl (by first | exact Or.inl rfl | exact Or.inr rfl) (pe_ix (ix_seqK (K := K)) (pe_lst (pa_cons (pe_op op_addA pe_int (pe_call (ok_law_draw T) (hr.mono (by decide)) (by rfl) T.g_law_draw T.F_law_draw.kp T.b_law_draw .nil pass0 (pa_cons (pv 1) (pa_cons pe_int pa_nil)))) (pa_cons (pe_op op_addA pe_int (pe_call (ok_law_draw T) (hr.mono (by decide)) (by rfl) T.g_law_draw T.F_law_draw.kp T.b_law_draw .nil pass0 (pa_cons (pv 1) (pa_cons pe_int pa_nil)))) (pa_cons pe_int pa_nil)))) (pe_ix (ix_seqK (K := K)) (pe_lst (pa_cons pe_int (pa_cons pe_int (pa_cons pe_int (pa_cons pe_int (pa_cons pe_int pa_nil)))))) (pe_call (ok_law_draw T) (hr.mono (by decide)) (by rfl) T.g_law_draw T.F_law_draw.kp T.b_law_draw .nil pass0 (pa_cons (pv 1) (pa_cons pe_int pa_nil))) (fun _ _ => rfl)) (fun _ _ => rfl)))
      (pss_cons (ps_set (i := 3) sc_law.nd rfl (by first | exact Or.inl rfl | exact Or.inr rfl) (pe_ix (ix_seqK (K := K)) (pe_lst (pa_cons pe_int (pa_cons pe_int (pa_cons pe_int pa_nil)))) (pe_call (ok_law_draw T) (hr.mono (by decide)) (by rfl) T.g_law_draw T.F_law_draw.kp T.b_law_draw .nil pass0 (pa_cons (pv 1) (pa_cons pe_int pa_nil))) (fun _ _ => rfl)))
      (pss_cons (ps_set (i := 4) sc_law.nd rfl (by first | exact Or.inl rfl | exact Or.inr rfl) (pe_make T.mk_Paper (ok_Paper_init T) (hr.mono (by decide)) (by rfl) T.g_Paper T.b_Paper_init .nil pass0 (pa_cons (pv 2) (pa_cons (pv 3) pa_nil))))
      (pss_cons (ps_asg (pe_tup (pa_cons (pe_op op_mulA (pe_lst (pa_cons pe_int pa_nil)) (pv 2)) (pa_cons pe_int pa_nil))) (pg_seqK (K := K) (n := 2) rfl (pgs_cons (pg_name (i := 5) sc_law.nd rfl (by first | exact Or.inl rfl | exact Or.inr rfl)) (pgs_cons (pg_name (i := 6) sc_law.nd rfl (by first | exact Or.inl rfl | exact Or.inr rfl)) pgs_nil))))
      (pss_cons (ps_set (i := 7) sc_law.nd rfl (by first | exact Or.inl rfl | exact Or.inr rfl) (pe_lst pa_nil))
      (pss_cons (ps_set (i := 8) sc_law.nd rfl (by first | exact Or.inl rfl | exact Or.inr rfl) pe_int)
      (pss_cons (ps_for PassesOwn.never rfl (pi_range1 (by rfl) T.z_range (pa_cons (pe_ix (ix_seqK (K := K)) (pe_lst (pa_cons (pe_call (ok_law_draw T) (hr.mono (by decide)) (by rfl) T.g_law_draw T.F_law_draw.kp T.b_law_draw .nil pass0 (pa_cons (pv 1) (pa_cons pe_int pa_nil))) (pa_cons pe_int (pa_cons pe_int pa_nil)))) (pe_ix (ix_seqK (K := K)) (pe_lst (pa_cons pe_int (pa_cons pe_int (pa_cons pe_int (pa_cons pe_int (pa_cons pe_int (pa_cons pe_int pa_nil))))))) (pe_call (ok_law_draw T) (hr.mono (by decide)) (by rfl) T.g_law_draw T.F_law_draw.kp T.b_law_draw .nil pass0 (pa_cons (pv 1) (pa_cons pe_int pa_nil))) (fun _ _ => rfl)) (fun _ _ => rfl)) pa_nil)) (pg_name (i := 9) sc_law.nd rfl (by first | exact Or.inl rfl | exact Or.inr rfl))
      (pss_cons (ps_set (i := 10) sc_law.nd rfl (by first | exact Or.inl rfl | exact Or.inr rfl) (pe_call (ok_law_punched T) hr (by rfl) T.g_law_punched T.F_law_punched.kp T.b_law_punched .nil pass0 (pa_cons (pv 1) (pa_cons (pv 4) (pa_cons (pv 2) (pa_cons (pe_ix (ix_seqK (K := K)) (pe_lst (pa_cons pe_int (pa_cons pe_int (pa_cons pe_int pa_nil)))) (pe_call (ok_law_draw T) (hr.mono (by decide)) (by rfl) T.g_law_draw T.F_law_draw.kp T.b_law_draw .nil pass0 (pa_cons (pv 1) (pa_cons pe_int pa_nil))) (fun _ _ => rfl)) pa_nil))))))
      (pss_cons (ps_if (pt_cmpR op_isN (pv 10) pe_non (nomark _))
      (pss_one (ps_ret pe_bl))
      pss_nil)
      (pss_cons (ps_if (pt_cmpR (op_neK (K := K) hr.units) (pv 10) (pe_lst pa_nil) (nomark _))
      (pss_cons (ps_set (i := 5) sc_law.nd rfl (by first | exact Or.inl rfl | exact Or.inr rfl) (pe_lc (own := [("k", 14)]) rfl sc_law.nd (pi_range1 (by rfl) T.z_range (pa_cons (pv 2) pa_nil)) (blkOk_by (own := [("k", 14)]) (N := ["script", "bag", "size", "passes", "sheet", "counts", "done", "kept", "back", "turn", "cells", "at", "low", "high", "k", "one", "amount"]) (sc := defScope s_law) (by decide +kernel)) (fun _ _ _ _ _ => pg_name (i := 14) sc_law.nd rfl (by first | exact Or.inl rfl | exact Or.inr rfl)) (fun _ _ _ _ _ => pts_nil) (fun _ _ _ _ _ => pe_op op_addA (pe_ix (ix_seqK (K := K)) (pv 5) (pv 14) (fun _ _ => rfl)) (pe_callTy call_int1' (by rfl) T.z_int (by decide +kernel) (pa_cons (pe_cmpR (op_inK (K := K)) (pv 14) (pv 10) (by rfl)) pa_nil)))))
      (pss_one (ps_set (i := 6) sc_law.nd rfl (by first | exact Or.inl rfl | exact Or.inr rfl) (pe_op op_addA (pv 6) pe_int))))
      pss_nil)
      (pss_cons (ps_if (PW.pt (pw_and (pt_cmpR op_lt (pe_callB (call_lenK (K := K)) (by rfl) T.z_len (by decide +kernel) (pa_cons (pv 7) pa_nil)) pe_int (nomark _)) (pw_and1 (pt_cmpR (op_eqK (K := K) hr.units) (pe_call (ok_law_draw T) (hr.mono (by decide)) (by rfl) T.g_law_draw T.F_law_draw.kp T.b_law_draw .nil pass0 (pa_cons (pv 1) (pa_cons pe_int pa_nil))) pe_int (nomark _)))))
      (pss_one (ps_expr (pe_bmK (K := K) PySem.F.plainAttrs_list PySem.F.slot_list_append PySem.F.type_list_append mt_append (pv 7) (pa_cons (pe_tup (pa_cons (pe_meth0 (pv 4) T.cl_Paper T.m_Paper_mark (ok_Paper_mark T) (hr.mono (by decide)) T.b_Paper_mark .nil pass0) (pa_cons (pv 5) (pa_cons (pv 6) pa_nil)))) pa_nil))))
      pss_nil)
      (pss_cons (ps_if (PW.pt (pw_and (pt_cmpR (op_neK (K := K) hr.units) (pv 7) (pe_lst pa_nil) (nomark _)) (pw_and (pt_cmpR op_lt (pv 8) pe_int (nomark _)) (pw_and1 (pt_cmpR (op_eqK (K := K) hr.units) (pe_call (ok_law_draw T) (hr.mono (by decide)) (by rfl) T.g_law_draw T.F_law_draw.kp T.b_law_draw .nil pass0 (pa_cons (pv 1) (pa_cons pe_int pa_nil))) pe_int (nomark _))))))
      (pss_cons (ps_asg (pe_ix (ix_seqK (K := K)) (pv 7) (pe_un un_neg pe_int) (fun _ _ => rfl)) (pg_seqK (K := K) (n := 3) rfl (pgs_cons (pg_name (i := 11) sc_law.nd rfl (by first | exact Or.inl rfl | exact Or.inr rfl)) (pgs_cons (pg_name (i := 5) sc_law.nd rfl (by first | exact Or.inl rfl | exact Or.inr rfl)) (pgs_cons (pg_name (i := 6) sc_law.nd rfl (by first | exact Or.inl rfl | exact Or.inr rfl)) pgs_nil)))))
      (pss_cons (ps_set (i := 8) sc_law.nd rfl (by first | exact Or.inl rfl | exact Or.inr rfl) (pe_op op_addA (pv 8) pe_int))
      (pss_one (ps_expr (pe_meth (pv 4) T.cl_Paper T.m_Paper_undo (ok_Paper_undo T) (hr.mono (by decide)) T.b_Paper_undo .nil pass0 (pa_cons (pv 11) pa_nil))))))
      pss_nil)
      (pss_one (ps_if (pt_not (pt_val (pe_call (ok_law_alike T 6) (hr.mono (by decide)) (by rfl) T.g_law_alike T.F_law_alike.kp T.b_law_alike .nil pass0 (pa_cons (pe_meth0 (pv 4) T.cl_Paper T.m_Paper_counts (ok_Paper_counts T) (hr.mono (by decide)) T.b_Paper_counts .nil pass0) (pa_cons (pv 5) pa_nil)))))
      (pss_one (ps_ret pe_bl))
      pss_nil))))))))
      (pss_cons (ps_if (pt_not (pt_val (pe_call (ok_law_alike T 6) (hr.mono (by decide)) (by rfl) T.g_law_alike T.F_law_alike.kp T.b_law_alike .nil pass0 (pa_cons (pe_meth0 (pv 4) T.cl_Paper T.m_Paper_strip (ok_Paper_strip T) (hr.mono (by decide)) T.b_Paper_strip .nil pass0) (pa_cons (pe_lc (own := [("one", 15)]) rfl sc_law.nd (pi_anyK (K := K) (pv 5)) (blkOk_by (own := [("one", 15)]) (N := ["script", "bag", "size", "passes", "sheet", "counts", "done", "kept", "back", "turn", "cells", "at", "low", "high", "k", "one", "amount"]) (sc := defScope s_law) (by decide +kernel)) (fun _ _ _ _ _ => pg_name (i := 15) sc_law.nd rfl (by first | exact Or.inl rfl | exact Or.inr rfl)) (fun _ _ _ _ _ => pts_nil) (fun _ _ _ _ _ => pe_tup (pa_cons (pe_cmpR op_gt (pv 15) pe_int (nomark _)) (pa_cons (pe_op op_sub (pv 3) (pv 15)) pa_nil)))) pa_nil)))))
      (pss_one (ps_ret pe_bl))
      pss_nil)
      (pss_cons (ps_par (by rfl) sc_law.nd (i := 12) (j := 13) rfl rfl (by decide) rfl rfl (pa_cons (pe_call (ok_fewest_seen T) (hr.mono (by decide)) (by rfl) T.g_fewest_seen T.F_fewest_seen.kp T.b_fewest_seen .nil pass0 (pa_cons (pv 5) pa_nil)) (pa_cons (pe_callB (cr_sumK (K := K) rfl) (by rfl) T.z_sum (by decide +kernel) (pa_cons (pv 5) pa_nil)) pa_nil)) (by rfl))
      (pss_cons (ps_if (PW.pt (pw_or (pt_cmpR op_gt (pv 12) (pv 6) (nomark _)) (pw_or (pt_cmpR op_notN (pe_call (ok_made T) (hr.mono (by decide)) (by rfl) T.g_made T.F_made.kp T.b_made .nil pass0 (pa_cons (pv 5) (pa_cons (pe_op op_sub (pv 12) pe_int) pa_nil))) pe_non (nomark _)) (pw_or1 (pt_cmpR op_notN (pe_call (ok_made T) (hr.mono (by decide)) (by rfl) T.g_made T.F_made.kp T.b_made .nil pass0 (pa_cons (pv 5) (pa_cons (pe_op op_addA (pv 13) pe_int) pa_nil))) pe_non (nomark _))))))
      (pss_one (ps_ret pe_bl))
      pss_nil)
      (pss_one (ps_ret (pe_callB (cr_allK (K := K) rfl) (by rfl) T.z_all (by decide +kernel) (pa_cons (pe_lc (own := [("amount", 16)]) rfl sc_law.nd (pi_anyK (K := K) (pe_lst (pa_cons (pv 12) (pa_cons (pv 6) (pa_cons (pe_ifExp (pt_cmpR op_lt (pv 13) pe_int (nomark _)) (pv 13) (pv 12)) pa_nil))))) (blkOk_by (own := [("amount", 16)]) (N := ["script", "bag", "size", "passes", "sheet", "counts", "done", "kept", "back", "turn", "cells", "at", "low", "high", "k", "one", "amount"]) (sc := defScope s_law) (by decide +kernel)) (fun _ _ _ _ _ => pg_name (i := 16) sc_law.nd rfl (by first | exact Or.inl rfl | exact Or.inr rfl)) (fun _ _ _ _ _ => pts_nil) (fun _ _ _ _ _ => pe_call (ok_law_made_right T) (hr.mono (by decide)) (by rfl) T.g_law_made_right T.F_law_made_right.kp T.b_law_made_right .nil pass0 (pa_cons (pv 5) (pa_cons (pv 16) pa_nil)))) pa_nil))))))))))))))), fun ds M Kd KX h => ?_⟩)
  · obtain ⟨ns, rfl, _⟩ := h
    rfl
  · obtain ⟨ns, rfl, rfl, hns, k⟩ := h
    show SS W0 _ [some (.sq K (ns.map V.int)), none, none, none, none, none, none, none, none, none, none, none, none, none, none, none, none] [] _
    refine ss_seq (ss_set (se_call0 0 (sa_cons (se_var rfl (sa_nil ⟨ns, rfl, rfl, fun c g0 ok0 => ?_⟩)))))
    refine ss_seq <| ss_asg <| se_op <| se_lst <| sa_cons <| se_op <| se_int <| se_call0 1 <| sa_cons <| se_var rfl <| sa_cons <| se_int <| sa_nil <| draw_s ok0 (by decide) (by decide) (by decide) fun r1 g1 r10 r11 ok1 => ?_
    refine or_addI <| sa_cons <| se_op <| se_int <| se_call0 1 <| sa_cons <| se_var rfl <| sa_cons <| se_int <| sa_nil <| draw_s ok1 (by decide) (by decide) (by decide) fun r2 g2 r20 r21 ok2 => ?_
    refine or_addI <| sa_cons <| se_int <| sa_nil <| unp rfl (Nat.le_of_ble_eq_true rfl) ?_
    refine se_op <| se_lst <| sa_cons <| se_int <| sa_cons <| se_int <| sa_cons <| se_int <| sa_cons <| se_int <| sa_cons <| se_int <| sa_nil <| unp rfl (Nat.le_of_ble_eq_true rfl) ?_
    refine se_call0 1 <| sa_cons <| se_var rfl <| sa_cons <| se_int <| sa_nil <| draw_s ok2 (by decide) (by decide) (by decide) fun r3 g3 r30 r31 ok3 => ?_
    obtain ⟨j, hj⟩ : ∃ j, ([0, 1, 0, 1, 2] : List Int)[r3.toNat]? = some j := ⟨_, List.getElem?_eq_getElem (by simp; omega)⟩
    have hjm := List.mem_of_getElem? hj
    refine or_ixP (xs := [0, 1, 0, 1, 2]) (x := j) PyData.int r30 hj ?_
    simp only [List.mem_cons, List.not_mem_nil, or_false] at hjm
    obtain ⟨z, hz⟩ : ∃ z, ([1 + r1, 1 + r2, 200] : List Int)[j.toNat]? = some z := ⟨_, List.getElem?_eq_getElem (by simp; omega)⟩
    have hzm := List.mem_of_getElem? hz
    refine or_ixP (xs := [1 + r1, 1 + r2, 200]) (x := z) PyData.int (by omega) hz ?_
    simp only [List.mem_cons, List.not_mem_nil, or_false] at hzm
    obtain ⟨n, rfl⟩ : ∃ n : Nat, z = (n : Int) := ⟨z.toNat, by omega⟩
    have n1 : 1 ≤ n := by omega
    have n2 : n ≤ 200 := by omega
    refine sg_name ?_
    refine ss_seq <| ss_asg <| se_op <| se_lst <| sa_cons <| se_int <| sa_cons <| se_int <| sa_cons <| se_int <| sa_nil <| unp rfl (Nat.le_of_ble_eq_true rfl) ?_
    refine se_call0 1 <| sa_cons <| se_var rfl <| sa_cons <| se_int <| sa_nil <| draw_s ok3 (by decide) (by decide) (by decide) fun r4 g4 r40 r41 ok4 => ?_
    obtain ⟨ps, hps⟩ : ∃ ps, ([3, 9, 99] : List Int)[r4.toNat]? = some ps := ⟨_, List.getElem?_eq_getElem (by simp; omega)⟩
    refine or_ixP (xs := [3, 9, 99]) (x := ps) PyData.int r40 hps (sg_name ?_)
    refine ss_seq <| ss_asg <| se_makeA0 <| sa_cons <| se_var rfl <| sa_cons <| se_var rfl <| sa_nil fun p => ⟨p, n, ps, rfl, rfl, n1, n2, fun m => ⟨rfl, sg_name ?_⟩⟩
    refine ss_seq <| ss_asg <| se_tup <| sa_cons <| se_op <| se_lst <| sa_cons <| se_int <| sa_nil <| unp rfl (Nat.le_of_ble_eq_true rfl) <| se_var rfl <| or_repV (.py _) (by omega) (by omega) (by simp; omega) ?_
    have e0 : (List.replicate (Int.toNat n) [PyData.int 0]).flatten = timL (List.replicate n 0) := by
      rw [rep_fl, Int.toNat_natCast]
      show _ = (List.replicate n 0).map _
      rw [List.map_replicate]
    rw [e0]
    refine sa_cons <| se_int <| sa_nil <| unp rfl (Nat.le_of_ble_eq_true rfl) ?_
    refine sg_seqT rfl (sgs_cons (sg_name (sgs_cons (sg_name (sgs_nil ?_)))))
    refine ss_seq <| ss_set <| se_lstC <| sa_nil ⟨by decide, fun q => ?_⟩
    refine ss_seq <| ss_set <| se_int ?_
    have mk0 : FS.Makes n [] (List.replicate n 0) := ⟨(FR.pn_nil n).symm, fun r hr => by cases hr⟩
    show SS W0 _ [some (.sq K (ns.map V.int)), some (dR c), some (dI (n : Int)), some (dI ps), some (dR p), some (HoD (List.replicate n 0)), some (dI 0), some (dR q), some (dI 0), none, none, none, none, none, none, none, none] (cel4 T c p m q g4 ps (List.replicate n 0) []) _
    refine ss_mid (Q := fun ρ' M' => ∃ (g : Bag) (cs : List Int) (P : List (List Int)) (Kq : List Kp) (m : Addr) (back : Int) (x9 x10 x11 x12 x13 x14 x15 x16 : Option D), ρ' = [some (.sq K (ns.map V.int)), some (dR c), some (dI (n : Int)), some (dI ps), some (dR p), some (HoD cs), some (dI (P.length : Int)), some (dR q), some (dI back), x9, x10, x11, x12, x13, x14, x15, x16] ∧ M' = cel4 T c p m q g ps cs Kq ∧ FS.Makes n P cs ∧ P.length ≤ 360) ?_ ?_
    · refine ss_for (si_range1 ?_)
      refine sa_cons <| se_op <| se_lst <| sa_cons <| se_call0 1 <| sa_cons <| se_var rfl <| sa_cons <| se_int <| sa_nil <| draw_s ok4 (by decide) (by decide) (by decide) fun r5 g5 r50 r51 ok5 => ?_
      refine sa_cons <| se_int <| sa_cons <| se_int <| sa_nil <| unp rfl (Nat.le_of_ble_eq_true rfl) ?_
      refine se_op <| se_lst <| sa_cons <| se_int <| sa_cons <| se_int <| sa_cons <| se_int <| sa_cons <| se_int <| sa_cons <| se_int <| sa_cons <| se_int <| sa_nil <| unp rfl (Nat.le_of_ble_eq_true rfl) ?_
      refine se_call0 1 <| sa_cons <| se_var rfl <| sa_cons <| se_int <| sa_nil <| draw_s ok5 (by decide) (by decide) (by decide) fun r6 g6 r60 r61 ok6 => ?_
      obtain ⟨j', hj'⟩ : ∃ j, ([0, 1, 0, 0, 0, 2] : List Int)[r6.toNat]? = some j := ⟨_, List.getElem?_eq_getElem (by simp; omega)⟩
      have hjm' := List.mem_of_getElem? hj'
      refine or_ixP (xs := [0, 1, 0, 0, 0, 2]) (x := j') PyData.int r60 hj' ?_
      simp only [List.mem_cons, List.not_mem_nil, or_false] at hjm'
      obtain ⟨z, hz⟩ : ∃ z, ([r5, 20, 360] : List Int)[j'.toNat]? = some z := ⟨_, List.getElem?_eq_getElem (by simp; omega)⟩
      have hzm := List.mem_of_getElem? hz
      refine or_ixP (xs := [r5, 20, 360]) (x := z) PyData.int (by omega) hz ?_
      simp only [List.mem_cons, List.not_mem_nil, or_false] at hzm
      refine sa_nil ⟨z, rfl, by omega, by omega, fun i ρ' M' => ∃ (g : Bag) (cs : List Int) (P : List (List Int)) (Kq : List Kp) (m : Addr) (back : Int) (x9 x10 x11 x12 x13 x14 x15 x16 : Option D), ρ' = [some (.sq K (ns.map V.int)), some (dR c), some (dI (n : Int)), some (dI ps), some (dR p), some (HoD cs), some (dI (P.length : Int)), some (dR q), some (dI back), x9, x10, x11, x12, x13, x14, x15, x16] ∧ M' = cel4 T c p m q g ps cs Kq ∧ FS.Makes n P cs ∧ P.length ≤ i ∧ KpOk n i Kq ∧ OkB (6 + 210 * i) g, ⟨g6, List.replicate n 0, [], [], m, 0, _, _, _, _, _, _, _, _, rfl, rfl, mk0, Nat.le_refl 0, ⟨by decide, fun x hx => by cases hx⟩, ok6⟩, fun _ _ _ _ _ => trivial, ?_, ?_⟩
      · rintro t d ρ' M' ht rfl ⟨g, cs, P, Kq, m, back, x9, x10, x11, x12, x13, x14, x15, x16, rfl, rfl, mk, hP, hK, okb⟩
        have hcl := makes_len mk
        have ht' : t < 360 := by omega
        refine sg_name ?_
        show SS W0 _ [some (.sq K (ns.map V.int)), some (dR c), some (dI (n : Int)), some (dI ps), some (dR p), some (HoD cs), some (dI (P.length : Int)), some (dR q), some (dI back), some (dI (t : Int)), x10, x11, x12, x13, x14, x15, x16] (cel4 T c p m q g ps cs Kq) _
        refine ss_mid (Q := fun ρ' M' => ∃ (g' : Bag) (cs' r : List Int), OkB (6 + 210 * t + 202) g' ∧ ((r = [] ∧ cs' = cs) ∨ (FS.Alt r ∧ r.length ≤ 200 ∧ (∀ c ∈ r, 0 ≤ c ∧ c < (n : Int)) ∧ cs' = addP cs r)) ∧ ρ' = [some (.sq K (ns.map V.int)), some (dR c), some (dI (n : Int)), some (dI ps), some (dR p), some (HoD cs), some (dI (P.length : Int)), some (dR q), some (dI back), some (dI (t : Int)), some (HoD r), x11, x12, x13, x14, x15, x16] ∧ M' = cel4 T c p m q g' ps cs' Kq) ?_ ?_
        · refine ss_asg <| se_call0 2 <| sa_cons <| se_var rfl <| sa_cons <| se_var rfl <| sa_cons <| se_var rfl ?_
          refine sa_cons <| se_op <| se_lst <| sa_cons <| se_int <| sa_cons <| se_int <| sa_cons <| se_int <| sa_nil <| unp rfl (Nat.le_of_ble_eq_true rfl) ?_
          refine se_call0 1 <| sa_cons <| se_var rfl <| sa_cons <| se_int <| sa_nil <| draw_s okb (by omega) (by decide) (by decide) fun r7 g7 r70 r71 ok7 => ?_
          obtain ⟨pt, hpt⟩ : ∃ j, ([2, 3, 6] : List Int)[r7.toNat]? = some j := ⟨_, List.getElem?_eq_getElem (by simp; omega)⟩
          have hpm := List.mem_of_getElem? hpt
          simp only [List.mem_cons, List.not_mem_nil, or_false] at hpm
          refine or_ixP (xs := [2, 3, 6]) (x := pt) PyData.int r70 hpt ?_
          refine sa_nil ⟨c, p, m, g7, 6 + 210 * t + 1, ps, cs, pt, by rw [hcl], rfl, ok7, by omega, by omega, by omega, by omega, by omega, makes_nn mk, fun g' ok' => sg_name ?_, fun g' r ok' ha hl hr => sg_name ?_⟩
          · exact ⟨g', cs, [], ok'.mono (by omega), .inl ⟨rfl, rfl⟩, rfl, rfl⟩
          · exact ⟨g', addP cs r, r, ok'.mono (by omega), .inr ⟨ha, hl, fun c hc => ⟨(hr c hc).1, by rw [← hcl]; exact (hr c hc).2.1⟩, rfl⟩, rfl, rfl⟩
        rintro ρ' M' ⟨g1, cs1, r, ok1, hr, rfl, rfl⟩
        refine ss_seq <| ss_if <| st_test <| se_op <| se_var rfl <| se_non <| or_isN <| isB <| br_F rfl <| ss_next ?_
        refine ss_mid (Q := fun ρ' M' => ∃ (P' : List (List Int)) (x14 : Option D), FS.Makes n P' cs1 ∧ P'.length ≤ t + 1 ∧ ρ' = [some (.sq K (ns.map V.int)), some (dR c), some (dI (n : Int)), some (dI ps), some (dR p), some (HoD cs1), some (dI (P'.length : Int)), some (dR q), some (dI back), some (dI (t : Int)), some (HoD r), x11, x12, x13, x14, x15, x16] ∧ M' = cel4 T c p m q g1 ps cs1 Kq) ?_ ?_
        · refine ss_if <| st_test <| se_op <| se_var rfl <| se_lst0 <| or_neNil (layI _) <| isB ?_
          rcases hr with ⟨rfl, rfl⟩ | ⟨ha, hl, hrg, rfl⟩
          · exact br_F rfl (ss_next ⟨P, _, mk, by omega, rfl, rfl⟩)
          · refine br_T (by rw [decide_eq_false (fun e => ha.ne (List.map_eq_nil_iff.mp e))]; rfl) ?_
            refine ss_seq <| ss_asg <| se_lcM (xs := List.range n) (M2 := cel4 T c p m q g1 ps (addP cs r) Kq) (fun k => .int (cs.getD k 0 + FR.cntL r k)) (by walk_at "g") (src_R1 n (sa_cons (se_var rfl (sa_nil ⟨_, rfl, by omega, by omega, by omega, rfl⟩)))) (by simp; omega) ?_ ?_
            · rintro pre k post hx
              have hk : k < n := List.mem_range.mp (by rw [hx]; simp)
              have hat : cs[((k : Nat) : Int).toNat]? = some (cs.getD k 0) := by
                rw [Int.toNat_natCast, List.getD_eq_getElem?_getD, List.getElem?_eq_getElem (by omega)]
                rfl
              refine sg_name <| se_op <| se_op <| se_var rfl <| se_var rfl <| or_ixP PyData.int (by omega) hat ?_
              refine se_cb <| sa_cons <| se_op <| se_var rfl <| se_var rfl <| or_inAL (.py _) rfl (flat_ints r) ?_
              rw [inP_ints]
              refine sa_nil <| cr_intB <| or_addI ⟨?_, rfl, rfl⟩
              rw [alt_cnt ha]
              by_cases hm : (k : Int) ∈ r
              · simp [hm]
              · simp [hm]
            have e1 : ((List.range n).map fun k => PyData.int (cs.getD k 0 + FR.cntL r k)) = (addP cs r).map PyData.int := by
              unfold addP
              rw [hcl, List.map_map]
              rfl
            rw [e1]
            refine sg_name <| ss_set <| se_op <| se_var rfl <| se_int <| or_addI ?_
            refine ⟨P ++ [r], x14, makes_add mk ha hrg, by rw [List.length_append, List.length_singleton]; omega, ?_, rfl⟩
            rw [List.length_append, List.length_singleton]
            rfl
        clear hr
        rintro ρ' M' ⟨P1, x14, mk1, hP1, rfl, rfl⟩
        refine ss_mid (Q := fun ρ' M' => ∃ (g' : Bag) (Kq' : List Kp), KpOk n (t + 1) Kq' ∧ OkB (6 + 210 * t + 203) g' ∧ ρ' = [some (.sq K (ns.map V.int)), some (dR c), some (dI (n : Int)), some (dI ps), some (dR p), some (HoD cs1), some (dI (P1.length : Int)), some (dR q), some (dI back), some (dI (t : Int)), some (HoD r), x11, x12, x13, x14, x15, x16] ∧ M' = cel4 T c p m q g' ps cs1 Kq') ?_ ?_
        · refine ss_if <| st_and <| st_test <| se_op <| se_cb <| sa_cons <| se_var rfl <| sa_nil <| cr_lenP 3 rfl ?_
          rw [List.length_map, List.length_zipIdx]
          refine se_int <| or_cmp <| isB <| br_dec (fun h5 => ?_) fun h5 => ?_
          · refine st_test <| se_op <| se_call0 1 <| sa_cons <| se_var rfl <| sa_cons <| se_int <| sa_nil <| draw_s ok1 (by omega) (by decide) (by decide) fun r8 g8 r80 r81 ok8 => ?_
            refine se_int <| or_eqAI <| isB <| br_dec (fun _ => ?_) fun _ => ?_
            · refine ss_drop <| se_bm <| se_var rfl ⟨ty_cell (i := 3) rfl, ?_⟩
              refine sa_cons <| se_tup <| sa_cons <| se_methP0 [(p, papC T ps cs1 m), (m, mksC ps (Kq.map (·.1)))] [(c, bagC g8), (q, kpC Kq)] <| se_var rfl ⟨1, p, _, rfl, rfl, rfl, ?_⟩
              have hKl := hK.l
              refine sa_nil ⟨rot4 _ _ _ _, p, m, ps, cs1, Kq.map (·.1), rfl, rfl, by rw [List.length_map]; omega, cel4 T c p m q g8 ps cs1 Kq |>.set 2 (m, mksC ps (Kq.map (·.1) ++ [cs1])), (rot4 _ _ _ _).symm, ?_⟩
              refine sa_cons <| se_var rfl <| sa_cons <| se_var rfl <| sa_nil <| unp rfl (Nat.le_of_ble_eq_true rfl) <| sa_nil <| br_append 3 rfl (by simp; omega) ?_
              refine ⟨g8, Kq ++ [(cs1, P1)], ⟨by rw [List.length_append, List.length_singleton]; omega, fun x hx => ?_⟩, ok8.mono (by omega), rfl, ?_⟩
              · rcases List.mem_append.mp hx with hx | hx
                · exact ⟨(hK.m x hx).1, by have := (hK.m x hx).2; omega⟩
                · rw [List.mem_singleton] at hx
                  subst hx
                  exact ⟨mk1, hP1⟩
              · unfold cel4 kpC
                rw [kp_app, ← cl_app, List.map_append]
                unfold kpP
                rw [List.length_map]
                rfl
            · exact ss_next ⟨g8, Kq, hK.mono (by omega), ok8.mono (by omega), rfl, rfl⟩
          · exact br_F rfl (ss_next ⟨g1, Kq, hK.mono (by omega), ok1.mono (by omega), rfl, rfl⟩)
        rintro ρ' M' ⟨g2, K2, hK2, ok2, rfl, rfl⟩
        refine ss_mid (Q := fun ρ' M' => ∃ (g' : Bag) (cs2 : List Int) (P2 : List (List Int)) (m' : Addr) (back' : Int) (x11 : Option D), OkB (6 + 210 * t + 204) g' ∧ FS.Makes n P2 cs2 ∧ P2.length ≤ t + 1 ∧ ρ' = [some (.sq K (ns.map V.int)), some (dR c), some (dI (n : Int)), some (dI ps), some (dR p), some (HoD cs2), some (dI (P2.length : Int)), some (dR q), some (dI back'), some (dI (t : Int)), some (HoD r), x11, x12, x13, x14, x15, x16] ∧ M' = cel4 T c p m' q g' ps cs2 K2) ?_ ?_
        · refine ss_if <| st_and <| st_test <| se_op <| se_var rfl <| se_lst0 <| or_neV (.cell 3 rfl) (.py []) (shaped_list (kp_lay K2)) rfl ?_
          rw [eqv_nil]
          rcases List.eq_nil_or_concat K2 with rfl | ⟨K0, x, hc⟩
          · exact isB (br_F rfl (br_F rfl (ss_next ⟨g2, cs1, P1, m, back, _, ok2.mono (by omega), mk1, hP1, rfl, rfl⟩)))
          · rw [List.concat_eq_append] at hc
            subst hc
            have hx := hK2.m x (by simp)
            have hlast : ((K0 ++ [x]).zipIdx.map kpP).getLast? = some (kpP (x, K0.length)) := by rw [kp_app]; simp
            have hKl := hK2.l
            refine isB (br_T (by rw [kp_app]; simp) ?_)
            refine st_and <| st_test <| se_op <| se_var rfl <| se_int <| or_cmp <| isB <| br_dec (fun _ => ?_) fun _ => ?_
            · refine st_test <| se_op <| se_call0 1 <| sa_cons <| se_var rfl <| sa_cons <| se_int <| sa_nil <| draw_s ok2 (by omega) (by decide) (by decide) fun r9 g9 r90 r91 ok9 => ?_
              refine se_int <| or_eqAI <| isB <| br_dec (fun _ => ?_) fun _ => ?_
              · refine ss_seq <| ss_asg <| se_op <| se_var rfl <| se_un <| se_int <| ur_neg <| or_ixEC 3 rfl hlast ?_
                refine sg_seqT rfl (sgs_cons (sg_name (sgs_cons (sg_name (sgs_cons (sg_name (sgs_nil ?_)))))))
                refine ss_seq <| ss_set <| se_op <| se_var rfl <| se_int <| or_addI ?_
                refine ss_drop <| se_methP0 [(p, papC T ps cs1 m), (m, mksC ps ((K0 ++ [x]).map (·.1)))] [(c, bagC g9), (q, kpC (K0 ++ [x]))] <| se_var rfl ⟨1, p, _, rfl, rfl, rfl, ?_⟩
                refine sa_cons <| se_var rfl <| sa_nil ⟨rot4 _ _ _ _, p, m, ps, cs1, (K0 ++ [x]).map (·.1), K0.length, x.1, rfl, rfl, by rw [List.length_map]; omega, by simp, fun m' => ?_⟩
                have e5 : ((K0 ++ [x]).map (·.1)).take (K0.length + 1) = (K0 ++ [x]).map (·.1) := List.take_of_length_le (by simp)
                rw [e5]
                exact ⟨cel4 T c p m' q g9 ps x.1 (K0 ++ [x]), (rot4 _ _ _ _).symm, g9, x.1, x.2, m', back + 1, _, ok9.mono (by omega), hx.1, hx.2, rfl, rfl⟩
              · exact ss_next ⟨g9, cs1, P1, m, back, _, ok9.mono (by omega), mk1, hP1, rfl, rfl⟩
            · exact br_F rfl (ss_next ⟨g2, cs1, P1, m, back, _, ok2.mono (by omega), mk1, hP1, rfl, rfl⟩)
        rintro ρ' M' ⟨g3, cs2, P2, m', back', x11, ok3, mk2, hP2, rfl, rfl⟩
        have hcl2 := makes_len mk2
        refine ss_if <| st_not <| st_B <| se_call0 0 <| sa_cons <| se_methP0 [(p, papC T ps cs2 m')] [(c, bagC g3), (m', mksC ps (K2.map (·.1))), (q, kpC K2)] <| se_var rfl ⟨1, p, _, rfl, rfl, rfl, ?_⟩
        refine sa_nil ⟨List.Perm.swap _ _ _, p, m', ps, cs2, rfl, rfl, cel4 T c p m' q g3 ps cs2 K2, List.Perm.swap _ _ _, ?_⟩
        refine sa_cons <| se_var rfl <| sa_nil ⟨.list (timL cs2), rfl, rfl, alk_ints _ (by omega), isB (br_F rfl (ss_next ?_))⟩
        exact ⟨g3, cs2, P2, K2, m', back', _, _, _, _, _, _, _, _, rfl, rfl, mk2, hP2, hK2, ok3.mono (by omega)⟩
      · rintro ρ' M' ⟨g, cs, P, Kq, m, back, x9, x10, x11, x12, x13, x14, x15, x16, rfl, rfl, mk, hP, hK, okb⟩
        exact ⟨g, cs, P, Kq, m, back, _, _, _, _, _, _, _, _, rfl, rfl, mk, by omega⟩
    rintro ρ' M' ⟨g, cs, P, Kq, m, back, x9, x10, x11, x12, x13, x14, x15, x16, rfl, rfl, mk, hP⟩
    obtain ⟨ok, hfew, hsum⟩ := makes_ok mk n2 (by omega)
    have hn := ok.n
    refine ss_seq <| ss_if <| st_not <| st_B <| se_call0 0 <| sa_cons <| se_methP0 [(p, papC T ps cs m)] [(c, bagC g), (m, mksC ps (Kq.map (·.1))), (q, kpC Kq)] <| se_var rfl ⟨1, p, _, rfl, rfl, rfl, ?_⟩
    refine sa_nil ⟨List.Perm.swap _ _ _, p, m, ps, cs, rfl, rfl, cel4 T c p m q g ps cs Kq, List.Perm.swap _ _ _, ?_⟩
    refine sa_cons <| se_lcM (xs := cs) (M2 := cel4 T c p m q g ps cs Kq) (celP ps) (by walk_at "g") (src_L PyData.int cs (se_var rfl ⟨rfl, rfl⟩)) (by omega) ?_ ?_
    · rintro pre x post hx
      refine sg_name ?_
      refine se_tup <| sa_cons <| se_op <| se_var rfl <| se_int <| or_cmp <| sa_cons <| se_op <| se_var rfl <| se_var rfl <| or_sub <| sa_nil <| unp rfl (Nat.le_of_ble_eq_true rfl) ⟨rfl, rfl, rfl⟩
    refine sa_nil ⟨.list (celL ps cs), rfl, rfl, alk_cel _ _ (by omega), isB (br_F rfl (ss_next ?_))⟩
    refine ss_seq <| ss_par <| sa_cons <| se_call0 0 <| sa_cons <| se_var rfl <| sa_nil ⟨cs, rfl, rfl, hn, ?_⟩
    refine sa_cons <| se_cb <| sa_cons <| se_var rfl <| sa_nil <| cr_sumL (.py _) <| sa_nil ⟨_, _, rfl, ?_⟩
    refine ss_seq <| ss_if <| st_or <| st_test <| se_op <| se_var rfl <| se_var rfl <| or_cmp <| isB <| br_F (decide_eq_false (by omega)) ?_
    refine st_or <| st_test <| se_op <| se_call0 0 <| sa_cons <| se_var rfl <| sa_cons <| se_op <| se_var rfl <| se_int <| or_sub <| sa_nil ⟨cs, _, rfl, rfl, ok, fun _ => ?_, fun h1 => by omega⟩
    refine se_non <| or_ntN <| isB <| br_F rfl ?_
    refine st_test <| se_op <| se_call0 0 <| sa_cons <| se_var rfl <| sa_cons <| se_op <| se_var rfl <| se_int <| or_addI <| sa_nil ⟨cs, _, rfl, rfl, ok, fun _ => ?_, fun _ h1 => by omega⟩
    refine se_non <| or_ntN <| isB <| br_F rfl <| ss_next ?_
    have hfl : few cs ≤ cs.sum := by omega
    obtain ⟨hh, h1, h2, h3⟩ : ∃ hh, few cs ≤ hh ∧ hh ≤ cs.sum ∧ hh = (if cs.sum < 900 then cs.sum else few cs) := ⟨_, by split <;> omega, by split <;> omega, rfl⟩
    refine ss_ret <| se_cb <| sa_cons ?_
    refine se_lcM (xs := [few cs, (P.length : Int), hh]) (M2 := cel4 T c p m q g ps cs Kq) (fun _ => .bool true) (by walk_at "g") (src_L PyData.int [few cs, (P.length : Int), hh] ?_) (Nat.le_of_ble_eq_true rfl) ?_ ?_
    · refine se_lst <| sa_cons <| se_var rfl <| sa_cons <| se_var rfl <| sa_cons <| se_if <| st_test <| se_op <| se_var rfl <| se_int <| or_cmp <| isB <| br_dec (fun h9 => ?_) fun h9 => ?_
      · rw [if_pos h9] at h3
        refine se_var rfl <| sa_nil <| unp rfl (Nat.le_of_ble_eq_true rfl) ⟨by rw [h3]; rfl, rfl⟩
      · rw [if_neg h9] at h3
        refine se_var rfl <| sa_nil <| unp rfl (Nat.le_of_ble_eq_true rfl) ⟨by rw [h3]; rfl, rfl⟩
    · rintro pre a post hx
      have ha : a ∈ [few cs, (P.length : Int), hh] := by rw [hx]; simp
      simp only [List.mem_cons, List.not_mem_nil, or_false] at ha
      exact sg_name (se_call0 0 (sa_cons (se_var rfl (sa_cons (se_var rfl (sa_nil ⟨cs, a, rfl, rfl, ok, by omega, by omega, rfl, rfl, rfl⟩))))))
    rw [all_tt]
    refine sa_nil (cr_allL (.py _) ?_)
    rw [all_ti]
    exact Ret.py k

def spLaw (K : PySem.W.Frag) : Sp := fun vs H Q _ => ∃ (a : Addr) (ns : List Int), vs = [.ref a] ∧ SqL K H a (ns.map V.int) ∧ ns.length ≤ 63 ∧ ∀ H', Q (.bl true) H'
theorem ok_lawS (T : Txt K mg) : FnOk P w K mg base CX0 9 T.f_law T.fd_law ["script"] (spLaw K) := (ok_law T).imp fun vs H Q E ⟨a, ns, e, h, hl, q⟩ => by
  subst e
  exact ⟨H, [.sq K (ns.map V.int)], [], [], fun d _ => d = dB true, fun _ _ => False, Own.self H, .cons ⟨a, rfl, h⟩ .nil, ⟨ns, rfl, rfl, hl, rfl⟩, fun d M v G' H' e _ r _ => by
    subst e
    rw [bl_of r]
    exact q H', fun _ _ _ _ _ k => k.elim⟩

end
section
set_option maxRecDepth 100000
theorem txt_mk {K : PySem.W.Frag} {h : Heap} {mg : Str → Option Value} (X : K.In h) (G : h.Ns mainGlobals mg) {fa : Addr} (hfa : mg "law" = some (.ref fa))
    {f_wall : Addr} {od_wall an_wall : Option Addr} {sl_wall : Array (Option Value)} {oc_wall kV_wall dc_wall pm_wall cd_wall ct_wall : Value}
    {f_stands : Addr} {od_stands an_stands : Option Addr} {sl_stands : Array (Option Value)} {oc_stands kV_stands dc_stands pm_stands cd_stands ct_stands : Value}
    {f_fewest_seen : Addr} {od_fewest_seen an_fewest_seen : Option Addr} {sl_fewest_seen : Array (Option Value)} {oc_fewest_seen kV_fewest_seen dc_fewest_seen pm_fewest_seen cd_fewest_seen ct_fewest_seen : Value}
    {f_by_levels : Addr} {od_by_levels an_by_levels : Option Addr} {sl_by_levels : Array (Option Value)} {oc_by_levels kV_by_levels dc_by_levels pm_by_levels cd_by_levels ct_by_levels : Value}
    {f_made : Addr} {od_made an_made : Option Addr} {sl_made : Array (Option Value)} {oc_made kV_made dc_made pm_made cd_made ct_made : Value}
    {f_is_rising : Addr} {od_is_rising an_is_rising : Option Addr} {sl_is_rising : Array (Option Value)} {oc_is_rising kV_is_rising dc_is_rising pm_is_rising cd_is_rising ct_is_rising : Value}
    {f_is_folding : Addr} {od_is_folding an_is_folding : Option Addr} {sl_is_folding : Array (Option Value)} {oc_is_folding kV_is_folding dc_is_folding pm_is_folding cd_is_folding ct_is_folding : Value}
    {f_laid : Addr} {od_laid an_laid : Option Addr} {sl_laid : Array (Option Value)} {oc_laid kV_laid dc_laid pm_laid cd_laid ct_laid : Value}
    {f_places : Addr} {od_places an_places : Option Addr} {sl_places : Array (Option Value)} {oc_places kV_places dc_places pm_places cd_places ct_places : Value}
    {f_cells_at : Addr} {od_cells_at an_cells_at : Option Addr} {sl_cells_at : Array (Option Value)} {oc_cells_at kV_cells_at dc_cells_at pm_cells_at cd_cells_at ct_cells_at : Value}
    {f_need_wish : Addr} {od_need_wish an_need_wish : Option Addr} {sl_need_wish : Array (Option Value)} {oc_need_wish kV_need_wish dc_need_wish pm_need_wish cd_need_wish ct_need_wish : Value}
    {f_torn_ones : Addr} {od_torn_ones an_torn_ones : Option Addr} {sl_torn_ones : Array (Option Value)} {oc_torn_ones kV_torn_ones dc_torn_ones pm_torn_ones cd_torn_ones ct_torn_ones : Value}
    {f_bearings : Addr} {od_bearings an_bearings : Option Addr} {sl_bearings : Array (Option Value)} {oc_bearings kV_bearings dc_bearings pm_bearings cd_bearings ct_bearings : Value}
    {f_weights : Addr} {od_weights an_weights : Option Addr} {sl_weights : Array (Option Value)} {oc_weights kV_weights dc_weights pm_weights cd_weights ct_weights : Value}
    {f_greatest_sum : Addr} {od_greatest_sum an_greatest_sum : Option Addr} {sl_greatest_sum : Array (Option Value)} {oc_greatest_sum kV_greatest_sum dc_greatest_sum pm_greatest_sum cd_greatest_sum ct_greatest_sum : Value}
    {f_fewest : Addr} {od_fewest an_fewest : Option Addr} {sl_fewest : Array (Option Value)} {oc_fewest kV_fewest dc_fewest pm_fewest cd_fewest ct_fewest : Value}
    {f_law_bag : Addr} {od_law_bag an_law_bag : Option Addr} {sl_law_bag : Array (Option Value)} {oc_law_bag kV_law_bag dc_law_bag pm_law_bag cd_law_bag ct_law_bag : Value}
    {f_law_stirred : Addr} {od_law_stirred an_law_stirred : Option Addr} {sl_law_stirred : Array (Option Value)} {oc_law_stirred kV_law_stirred dc_law_stirred pm_law_stirred cd_law_stirred ct_law_stirred : Value}
    {f_law_draw : Addr} {od_law_draw an_law_draw : Option Addr} {sl_law_draw : Array (Option Value)} {oc_law_draw kV_law_draw dc_law_draw pm_law_draw cd_law_draw ct_law_draw : Value}
    {f_law_alike : Addr} {od_law_alike an_law_alike : Option Addr} {sl_law_alike : Array (Option Value)} {oc_law_alike kV_law_alike dc_law_alike pm_law_alike cd_law_alike ct_law_alike : Value}
    {f_law_list_right : Addr} {od_law_list_right an_law_list_right : Option Addr} {sl_law_list_right : Array (Option Value)} {oc_law_list_right kV_law_list_right dc_law_list_right pm_law_list_right cd_law_list_right ct_law_list_right : Value}
    {f_law_places : Addr} {od_law_places an_law_places : Option Addr} {sl_law_places : Array (Option Value)} {oc_law_places kV_law_places dc_law_places pm_law_places cd_law_places ct_law_places : Value}
    {f_law_punched : Addr} {od_law_punched an_law_punched : Option Addr} {sl_law_punched : Array (Option Value)} {oc_law_punched kV_law_punched dc_law_punched pm_law_punched cd_law_punched ct_law_punched : Value}
    {f_law_made_right : Addr} {od_law_made_right an_law_made_right : Option Addr} {sl_law_made_right : Array (Option Value)} {oc_law_made_right kV_law_made_right dc_law_made_right pm_law_made_right cd_law_made_right ct_law_made_right : Value}
    {f_law : Addr} {od_law an_law : Option Addr} {sl_law : Array (Option Value)} {oc_law kV_law dc_law pm_law cd_law ct_law : Value}
    {C_Paper : Addr}
    {f_Paper_init : Addr} {od_Paper_init an_Paper_init : Option Addr} {sl_Paper_init : Array (Option Value)} {oc_Paper_init kV_Paper_init dc_Paper_init pm_Paper_init cd_Paper_init ct_Paper_init : Value}
    {f_Paper_hit : Addr} {od_Paper_hit an_Paper_hit : Option Addr} {sl_Paper_hit : Array (Option Value)} {oc_Paper_hit kV_Paper_hit dc_Paper_hit pm_Paper_hit cd_Paper_hit ct_Paper_hit : Value}
    {f_Paper_punch : Addr} {od_Paper_punch an_Paper_punch : Option Addr} {sl_Paper_punch : Array (Option Value)} {oc_Paper_punch kV_Paper_punch dc_Paper_punch pm_Paper_punch cd_Paper_punch ct_Paper_punch : Value}
    {f_Paper_patch : Addr} {od_Paper_patch an_Paper_patch : Option Addr} {sl_Paper_patch : Array (Option Value)} {oc_Paper_patch kV_Paper_patch dc_Paper_patch pm_Paper_patch cd_Paper_patch ct_Paper_patch : Value}
    {f_Paper_do : Addr} {od_Paper_do an_Paper_do : Option Addr} {sl_Paper_do : Array (Option Value)} {oc_Paper_do kV_Paper_do dc_Paper_do pm_Paper_do cd_Paper_do ct_Paper_do : Value}
    {f_Paper_mark : Addr} {od_Paper_mark an_Paper_mark : Option Addr} {sl_Paper_mark : Array (Option Value)} {oc_Paper_mark kV_Paper_mark dc_Paper_mark pm_Paper_mark cd_Paper_mark ct_Paper_mark : Value}
    {f_Paper_undo : Addr} {od_Paper_undo an_Paper_undo : Option Addr} {sl_Paper_undo : Array (Option Value)} {oc_Paper_undo kV_Paper_undo dc_Paper_undo pm_Paper_undo cd_Paper_undo ct_Paper_undo : Value}
    {f_Paper_strip : Addr} {od_Paper_strip an_Paper_strip : Option Addr} {sl_Paper_strip : Array (Option Value)} {oc_Paper_strip kV_Paper_strip dc_Paper_strip pm_Paper_strip cd_Paper_strip ct_Paper_strip : Value}
    {f_Paper_fewest : Addr} {od_Paper_fewest an_Paper_fewest : Option Addr} {sl_Paper_fewest : Array (Option Value)} {oc_Paper_fewest kV_Paper_fewest dc_Paper_fewest pm_Paper_fewest cd_Paper_fewest ct_Paper_fewest : Value}
    {f_Paper_counts : Addr} {od_Paper_counts an_Paper_counts : Option Addr} {sl_Paper_counts : Array (Option Value)} {oc_Paper_counts kV_Paper_counts dc_Paper_counts pm_Paper_counts cd_Paper_counts ct_Paper_counts : Value}
    {t_MOST_CELLS : Tok}
    (a_wall : PySem.W.nsIn K mainGlobals "_wall" = some (some (.ref f_wall)))
    (l_wall : K.lookup f_wall = some ⟨oc_wall, od_wall, .func (PySem.W.fnOf "_wall" "_wall" (defArgs s_wall) (defBody s_wall) (defScope s_wall) .none kV_wall dc_wall pm_wall an_wall cd_wall ct_wall), sl_wall⟩)
    (c_wall : PySem.W.codeIn K cd_wall "_wall" = true)
    (k_wall : PySem.W.keepIn K (.ref f_wall) = true)
    (a_stands : PySem.W.nsIn K mainGlobals "stands" = some (some (.ref f_stands)))
    (l_stands : K.lookup f_stands = some ⟨oc_stands, od_stands, .func (PySem.W.fnOf "stands" "stands" (defArgs s_stands) (defBody s_stands) (defScope s_stands) .none kV_stands dc_stands pm_stands an_stands cd_stands ct_stands), sl_stands⟩)
    (c_stands : PySem.W.codeIn K cd_stands "stands" = true)
    (k_stands : PySem.W.keepIn K (.ref f_stands) = true)
    (a_fewest_seen : PySem.W.nsIn K mainGlobals "fewest_seen" = some (some (.ref f_fewest_seen)))
    (l_fewest_seen : K.lookup f_fewest_seen = some ⟨oc_fewest_seen, od_fewest_seen, .func (PySem.W.fnOf "fewest_seen" "fewest_seen" (defArgs s_fewest_seen) (defBody s_fewest_seen) (defScope s_fewest_seen) .none kV_fewest_seen dc_fewest_seen pm_fewest_seen an_fewest_seen cd_fewest_seen ct_fewest_seen), sl_fewest_seen⟩)
    (c_fewest_seen : PySem.W.codeIn K cd_fewest_seen "fewest_seen" = true)
    (k_fewest_seen : PySem.W.keepIn K (.ref f_fewest_seen) = true)
    (a_by_levels : PySem.W.nsIn K mainGlobals "by_levels" = some (some (.ref f_by_levels)))
    (l_by_levels : K.lookup f_by_levels = some ⟨oc_by_levels, od_by_levels, .func (PySem.W.fnOf "by_levels" "by_levels" (defArgs s_by_levels) (defBody s_by_levels) (defScope s_by_levels) .none kV_by_levels dc_by_levels pm_by_levels an_by_levels cd_by_levels ct_by_levels), sl_by_levels⟩)
    (c_by_levels : PySem.W.codeIn K cd_by_levels "by_levels" = true)
    (k_by_levels : PySem.W.keepIn K (.ref f_by_levels) = true)
    (a_made : PySem.W.nsIn K mainGlobals "made" = some (some (.ref f_made)))
    (l_made : K.lookup f_made = some ⟨oc_made, od_made, .func (PySem.W.fnOf "made" "made" (defArgs s_made) (defBody s_made) (defScope s_made) .none kV_made dc_made pm_made an_made cd_made ct_made), sl_made⟩)
    (c_made : PySem.W.codeIn K cd_made "made" = true)
    (k_made : PySem.W.keepIn K (.ref f_made) = true)
    (a_is_rising : PySem.W.nsIn K mainGlobals "is_rising" = some (some (.ref f_is_rising)))
    (l_is_rising : K.lookup f_is_rising = some ⟨oc_is_rising, od_is_rising, .func (PySem.W.fnOf "is_rising" "is_rising" (defArgs s_is_rising) (defBody s_is_rising) (defScope s_is_rising) .none kV_is_rising dc_is_rising pm_is_rising an_is_rising cd_is_rising ct_is_rising), sl_is_rising⟩)
    (c_is_rising : PySem.W.codeIn K cd_is_rising "is_rising" = true)
    (k_is_rising : PySem.W.keepIn K (.ref f_is_rising) = true)
    (a_is_folding : PySem.W.nsIn K mainGlobals "is_folding" = some (some (.ref f_is_folding)))
    (l_is_folding : K.lookup f_is_folding = some ⟨oc_is_folding, od_is_folding, .func (PySem.W.fnOf "is_folding" "is_folding" (defArgs s_is_folding) (defBody s_is_folding) (defScope s_is_folding) .none kV_is_folding dc_is_folding pm_is_folding an_is_folding cd_is_folding ct_is_folding), sl_is_folding⟩)
    (c_is_folding : PySem.W.codeIn K cd_is_folding "is_folding" = true)
    (k_is_folding : PySem.W.keepIn K (.ref f_is_folding) = true)
    (a_laid : PySem.W.nsIn K mainGlobals "laid" = some (some (.ref f_laid)))
    (l_laid : K.lookup f_laid = some ⟨oc_laid, od_laid, .func (PySem.W.fnOf "laid" "laid" (defArgs s_laid) (defBody s_laid) (defScope s_laid) .none kV_laid dc_laid pm_laid an_laid cd_laid ct_laid), sl_laid⟩)
    (c_laid : PySem.W.codeIn K cd_laid "laid" = true)
    (k_laid : PySem.W.keepIn K (.ref f_laid) = true)
    (a_places : PySem.W.nsIn K mainGlobals "places" = some (some (.ref f_places)))
    (l_places : K.lookup f_places = some ⟨oc_places, od_places, .func (PySem.W.fnOf "places" "places" (defArgs s_places) (defBody s_places) (defScope s_places) .none kV_places dc_places pm_places an_places cd_places ct_places), sl_places⟩)
    (c_places : PySem.W.codeIn K cd_places "places" = true)
    (k_places : PySem.W.keepIn K (.ref f_places) = true)
    (a_cells_at : PySem.W.nsIn K mainGlobals "cells_at" = some (some (.ref f_cells_at)))
    (l_cells_at : K.lookup f_cells_at = some ⟨oc_cells_at, od_cells_at, .func (PySem.W.fnOf "cells_at" "cells_at" (defArgs s_cells_at) (defBody s_cells_at) (defScope s_cells_at) .none kV_cells_at dc_cells_at pm_cells_at an_cells_at cd_cells_at ct_cells_at), sl_cells_at⟩)
    (c_cells_at : PySem.W.codeIn K cd_cells_at "cells_at" = true)
    (k_cells_at : PySem.W.keepIn K (.ref f_cells_at) = true)
    (a_need_wish : PySem.W.nsIn K mainGlobals "need_wish" = some (some (.ref f_need_wish)))
    (l_need_wish : K.lookup f_need_wish = some ⟨oc_need_wish, od_need_wish, .func (PySem.W.fnOf "need_wish" "need_wish" (defArgs s_need_wish) (defBody s_need_wish) (defScope s_need_wish) .none kV_need_wish dc_need_wish pm_need_wish an_need_wish cd_need_wish ct_need_wish), sl_need_wish⟩)
    (c_need_wish : PySem.W.codeIn K cd_need_wish "need_wish" = true)
    (k_need_wish : PySem.W.keepIn K (.ref f_need_wish) = true)
    (a_torn_ones : PySem.W.nsIn K mainGlobals "torn_ones" = some (some (.ref f_torn_ones)))
    (l_torn_ones : K.lookup f_torn_ones = some ⟨oc_torn_ones, od_torn_ones, .func (PySem.W.fnOf "torn_ones" "torn_ones" (defArgs s_torn_ones) (defBody s_torn_ones) (defScope s_torn_ones) .none kV_torn_ones dc_torn_ones pm_torn_ones an_torn_ones cd_torn_ones ct_torn_ones), sl_torn_ones⟩)
    (c_torn_ones : PySem.W.codeIn K cd_torn_ones "torn_ones" = true)
    (k_torn_ones : PySem.W.keepIn K (.ref f_torn_ones) = true)
    (a_bearings : PySem.W.nsIn K mainGlobals "bearings" = some (some (.ref f_bearings)))
    (l_bearings : K.lookup f_bearings = some ⟨oc_bearings, od_bearings, .func (PySem.W.fnOf "bearings" "bearings" (defArgs s_bearings) (defBody s_bearings) (defScope s_bearings) .none kV_bearings dc_bearings pm_bearings an_bearings cd_bearings ct_bearings), sl_bearings⟩)
    (c_bearings : PySem.W.codeIn K cd_bearings "bearings" = true)
    (k_bearings : PySem.W.keepIn K (.ref f_bearings) = true)
    (a_weights : PySem.W.nsIn K mainGlobals "weights" = some (some (.ref f_weights)))
    (l_weights : K.lookup f_weights = some ⟨oc_weights, od_weights, .func (PySem.W.fnOf "weights" "weights" (defArgs s_weights) (defBody s_weights) (defScope s_weights) .none kV_weights dc_weights pm_weights an_weights cd_weights ct_weights), sl_weights⟩)
    (c_weights : PySem.W.codeIn K cd_weights "weights" = true)
    (k_weights : PySem.W.keepIn K (.ref f_weights) = true)
    (a_greatest_sum : PySem.W.nsIn K mainGlobals "greatest_sum" = some (some (.ref f_greatest_sum)))
    (l_greatest_sum : K.lookup f_greatest_sum = some ⟨oc_greatest_sum, od_greatest_sum, .func (PySem.W.fnOf "greatest_sum" "greatest_sum" (defArgs s_greatest_sum) (defBody s_greatest_sum) (defScope s_greatest_sum) .none kV_greatest_sum dc_greatest_sum pm_greatest_sum an_greatest_sum cd_greatest_sum ct_greatest_sum), sl_greatest_sum⟩)
    (c_greatest_sum : PySem.W.codeIn K cd_greatest_sum "greatest_sum" = true)
    (k_greatest_sum : PySem.W.keepIn K (.ref f_greatest_sum) = true)
    (a_fewest : PySem.W.nsIn K mainGlobals "fewest" = some (some (.ref f_fewest)))
    (l_fewest : K.lookup f_fewest = some ⟨oc_fewest, od_fewest, .func (PySem.W.fnOf "fewest" "fewest" (defArgs s_fewest) (defBody s_fewest) (defScope s_fewest) .none kV_fewest dc_fewest pm_fewest an_fewest cd_fewest ct_fewest), sl_fewest⟩)
    (c_fewest : PySem.W.codeIn K cd_fewest "fewest" = true)
    (k_fewest : PySem.W.keepIn K (.ref f_fewest) = true)
    (a_law_bag : PySem.W.nsIn K mainGlobals "_law_bag" = some (some (.ref f_law_bag)))
    (l_law_bag : K.lookup f_law_bag = some ⟨oc_law_bag, od_law_bag, .func (PySem.W.fnOf "_law_bag" "_law_bag" (defArgs s_law_bag) (defBody s_law_bag) (defScope s_law_bag) .none kV_law_bag dc_law_bag pm_law_bag an_law_bag cd_law_bag ct_law_bag), sl_law_bag⟩)
    (c_law_bag : PySem.W.codeIn K cd_law_bag "_law_bag" = true)
    (k_law_bag : PySem.W.keepIn K (.ref f_law_bag) = true)
    (a_law_stirred : PySem.W.nsIn K mainGlobals "_law_stirred" = some (some (.ref f_law_stirred)))
    (l_law_stirred : K.lookup f_law_stirred = some ⟨oc_law_stirred, od_law_stirred, .func (PySem.W.fnOf "_law_stirred" "_law_stirred" (defArgs s_law_stirred) (defBody s_law_stirred) (defScope s_law_stirred) .none kV_law_stirred dc_law_stirred pm_law_stirred an_law_stirred cd_law_stirred ct_law_stirred), sl_law_stirred⟩)
    (c_law_stirred : PySem.W.codeIn K cd_law_stirred "_law_stirred" = true)
    (k_law_stirred : PySem.W.keepIn K (.ref f_law_stirred) = true)
    (a_law_draw : PySem.W.nsIn K mainGlobals "_law_draw" = some (some (.ref f_law_draw)))
    (l_law_draw : K.lookup f_law_draw = some ⟨oc_law_draw, od_law_draw, .func (PySem.W.fnOf "_law_draw" "_law_draw" (defArgs s_law_draw) (defBody s_law_draw) (defScope s_law_draw) .none kV_law_draw dc_law_draw pm_law_draw an_law_draw cd_law_draw ct_law_draw), sl_law_draw⟩)
    (c_law_draw : PySem.W.codeIn K cd_law_draw "_law_draw" = true)
    (k_law_draw : PySem.W.keepIn K (.ref f_law_draw) = true)
    (a_law_alike : PySem.W.nsIn K mainGlobals "_law_alike" = some (some (.ref f_law_alike)))
    (l_law_alike : K.lookup f_law_alike = some ⟨oc_law_alike, od_law_alike, .func (PySem.W.fnOf "_law_alike" "_law_alike" (defArgs s_law_alike) (defBody s_law_alike) (defScope s_law_alike) .none kV_law_alike dc_law_alike pm_law_alike an_law_alike cd_law_alike ct_law_alike), sl_law_alike⟩)
    (c_law_alike : PySem.W.codeIn K cd_law_alike "_law_alike" = true)
    (k_law_alike : PySem.W.keepIn K (.ref f_law_alike) = true)
    (a_law_list_right : PySem.W.nsIn K mainGlobals "_law_list_right" = some (some (.ref f_law_list_right)))
    (l_law_list_right : K.lookup f_law_list_right = some ⟨oc_law_list_right, od_law_list_right, .func (PySem.W.fnOf "_law_list_right" "_law_list_right" (defArgs s_law_list_right) (defBody s_law_list_right) (defScope s_law_list_right) .none kV_law_list_right dc_law_list_right pm_law_list_right an_law_list_right cd_law_list_right ct_law_list_right), sl_law_list_right⟩)
    (c_law_list_right : PySem.W.codeIn K cd_law_list_right "_law_list_right" = true)
    (k_law_list_right : PySem.W.keepIn K (.ref f_law_list_right) = true)
    (a_law_places : PySem.W.nsIn K mainGlobals "_law_places" = some (some (.ref f_law_places)))
    (l_law_places : K.lookup f_law_places = some ⟨oc_law_places, od_law_places, .func (PySem.W.fnOf "_law_places" "_law_places" (defArgs s_law_places) (defBody s_law_places) (defScope s_law_places) .none kV_law_places dc_law_places pm_law_places an_law_places cd_law_places ct_law_places), sl_law_places⟩)
    (c_law_places : PySem.W.codeIn K cd_law_places "_law_places" = true)
    (k_law_places : PySem.W.keepIn K (.ref f_law_places) = true)
    (a_law_punched : PySem.W.nsIn K mainGlobals "_law_punched" = some (some (.ref f_law_punched)))
    (l_law_punched : K.lookup f_law_punched = some ⟨oc_law_punched, od_law_punched, .func (PySem.W.fnOf "_law_punched" "_law_punched" (defArgs s_law_punched) (defBody s_law_punched) (defScope s_law_punched) .none kV_law_punched dc_law_punched pm_law_punched an_law_punched cd_law_punched ct_law_punched), sl_law_punched⟩)
    (c_law_punched : PySem.W.codeIn K cd_law_punched "_law_punched" = true)
    (k_law_punched : PySem.W.keepIn K (.ref f_law_punched) = true)
    (a_law_made_right : PySem.W.nsIn K mainGlobals "_law_made_right" = some (some (.ref f_law_made_right)))
    (l_law_made_right : K.lookup f_law_made_right = some ⟨oc_law_made_right, od_law_made_right, .func (PySem.W.fnOf "_law_made_right" "_law_made_right" (defArgs s_law_made_right) (defBody s_law_made_right) (defScope s_law_made_right) .none kV_law_made_right dc_law_made_right pm_law_made_right an_law_made_right cd_law_made_right ct_law_made_right), sl_law_made_right⟩)
    (c_law_made_right : PySem.W.codeIn K cd_law_made_right "_law_made_right" = true)
    (k_law_made_right : PySem.W.keepIn K (.ref f_law_made_right) = true)
    (a_law : PySem.W.nsIn K mainGlobals "law" = some (some (.ref f_law)))
    (l_law : K.lookup f_law = some ⟨oc_law, od_law, .func (PySem.W.fnOf "law" "law" (defArgs s_law) (defBody s_law) (defScope s_law) .none kV_law dc_law pm_law an_law cd_law ct_law), sl_law⟩)
    (c_law : PySem.W.codeIn K cd_law "law" = true)
    (k_law : PySem.W.keepIn K (.ref f_law) = true)
    (a_Paper : PySem.W.nsIn K mainGlobals "Paper" = some (some (.ref C_Paper)))
    (pg_Paper : PySem.W.plainGet K C_Paper Str.empty = true)
    (hd_Paper : PySem.W.hasDictIn K C_Paper = true)
    (po_Paper : PySem.W.plainOver K C_Paper = true)
    (sa_Paper : PySem.W.findIn K (.ref C_Paper) "__setattr__" = some (some (.builtin "object.__setattr__")))
    (mk_Paper : PySem.W.makesIn K C_Paper = true)
    (kc_Paper : PySem.W.keepIn K (.ref C_Paper) = true)
    (a_Paper_init : PySem.W.findIn K (.ref C_Paper) "__init__" = some (some (.ref f_Paper_init)))
    (l_Paper_init : K.lookup f_Paper_init = some ⟨oc_Paper_init, od_Paper_init, .func (PySem.W.fnOf "__init__" "Paper.__init__" (defArgs s_Paper_init) (defBody s_Paper_init) (defScope s_Paper_init) .none kV_Paper_init dc_Paper_init pm_Paper_init an_Paper_init cd_Paper_init ct_Paper_init), sl_Paper_init⟩)
    (c_Paper_init : PySem.W.codeIn K cd_Paper_init "Paper.__init__" = true)
    (k_Paper_init : PySem.W.keepIn K (.ref f_Paper_init) = true)
    (i_Paper_init : PySem.W.isFn K (.ref f_Paper_init) = true)
    (a_Paper_hit : PySem.W.findIn K (.ref C_Paper) "hit" = some (some (.ref f_Paper_hit)))
    (l_Paper_hit : K.lookup f_Paper_hit = some ⟨oc_Paper_hit, od_Paper_hit, .func (PySem.W.fnOf "hit" "Paper.hit" (defArgs s_Paper_hit) (defBody s_Paper_hit) (defScope s_Paper_hit) .none kV_Paper_hit dc_Paper_hit pm_Paper_hit an_Paper_hit cd_Paper_hit ct_Paper_hit), sl_Paper_hit⟩)
    (c_Paper_hit : PySem.W.codeIn K cd_Paper_hit "Paper.hit" = true)
    (k_Paper_hit : PySem.W.keepIn K (.ref f_Paper_hit) = true)
    (i_Paper_hit : PySem.W.isFn K (.ref f_Paper_hit) = true)
    (a_Paper_punch : PySem.W.findIn K (.ref C_Paper) "punch" = some (some (.ref f_Paper_punch)))
    (l_Paper_punch : K.lookup f_Paper_punch = some ⟨oc_Paper_punch, od_Paper_punch, .func (PySem.W.fnOf "punch" "Paper.punch" (defArgs s_Paper_punch) (defBody s_Paper_punch) (defScope s_Paper_punch) .none kV_Paper_punch dc_Paper_punch pm_Paper_punch an_Paper_punch cd_Paper_punch ct_Paper_punch), sl_Paper_punch⟩)
    (c_Paper_punch : PySem.W.codeIn K cd_Paper_punch "Paper.punch" = true)
    (k_Paper_punch : PySem.W.keepIn K (.ref f_Paper_punch) = true)
    (i_Paper_punch : PySem.W.isFn K (.ref f_Paper_punch) = true)
    (a_Paper_patch : PySem.W.findIn K (.ref C_Paper) "patch" = some (some (.ref f_Paper_patch)))
    (l_Paper_patch : K.lookup f_Paper_patch = some ⟨oc_Paper_patch, od_Paper_patch, .func (PySem.W.fnOf "patch" "Paper.patch" (defArgs s_Paper_patch) (defBody s_Paper_patch) (defScope s_Paper_patch) .none kV_Paper_patch dc_Paper_patch pm_Paper_patch an_Paper_patch cd_Paper_patch ct_Paper_patch), sl_Paper_patch⟩)
    (c_Paper_patch : PySem.W.codeIn K cd_Paper_patch "Paper.patch" = true)
    (k_Paper_patch : PySem.W.keepIn K (.ref f_Paper_patch) = true)
    (i_Paper_patch : PySem.W.isFn K (.ref f_Paper_patch) = true)
    (a_Paper_do : PySem.W.findIn K (.ref C_Paper) "do" = some (some (.ref f_Paper_do)))
    (l_Paper_do : K.lookup f_Paper_do = some ⟨oc_Paper_do, od_Paper_do, .func (PySem.W.fnOf "do" "Paper.do" (defArgs s_Paper_do) (defBody s_Paper_do) (defScope s_Paper_do) .none kV_Paper_do dc_Paper_do pm_Paper_do an_Paper_do cd_Paper_do ct_Paper_do), sl_Paper_do⟩)
    (c_Paper_do : PySem.W.codeIn K cd_Paper_do "Paper.do" = true)
    (k_Paper_do : PySem.W.keepIn K (.ref f_Paper_do) = true)
    (i_Paper_do : PySem.W.isFn K (.ref f_Paper_do) = true)
    (a_Paper_mark : PySem.W.findIn K (.ref C_Paper) "mark" = some (some (.ref f_Paper_mark)))
    (l_Paper_mark : K.lookup f_Paper_mark = some ⟨oc_Paper_mark, od_Paper_mark, .func (PySem.W.fnOf "mark" "Paper.mark" (defArgs s_Paper_mark) (defBody s_Paper_mark) (defScope s_Paper_mark) .none kV_Paper_mark dc_Paper_mark pm_Paper_mark an_Paper_mark cd_Paper_mark ct_Paper_mark), sl_Paper_mark⟩)
    (c_Paper_mark : PySem.W.codeIn K cd_Paper_mark "Paper.mark" = true)
    (k_Paper_mark : PySem.W.keepIn K (.ref f_Paper_mark) = true)
    (i_Paper_mark : PySem.W.isFn K (.ref f_Paper_mark) = true)
    (a_Paper_undo : PySem.W.findIn K (.ref C_Paper) "undo" = some (some (.ref f_Paper_undo)))
    (l_Paper_undo : K.lookup f_Paper_undo = some ⟨oc_Paper_undo, od_Paper_undo, .func (PySem.W.fnOf "undo" "Paper.undo" (defArgs s_Paper_undo) (defBody s_Paper_undo) (defScope s_Paper_undo) .none kV_Paper_undo dc_Paper_undo pm_Paper_undo an_Paper_undo cd_Paper_undo ct_Paper_undo), sl_Paper_undo⟩)
    (c_Paper_undo : PySem.W.codeIn K cd_Paper_undo "Paper.undo" = true)
    (k_Paper_undo : PySem.W.keepIn K (.ref f_Paper_undo) = true)
    (i_Paper_undo : PySem.W.isFn K (.ref f_Paper_undo) = true)
    (a_Paper_strip : PySem.W.findIn K (.ref C_Paper) "strip" = some (some (.ref f_Paper_strip)))
    (l_Paper_strip : K.lookup f_Paper_strip = some ⟨oc_Paper_strip, od_Paper_strip, .func (PySem.W.fnOf "strip" "Paper.strip" (defArgs s_Paper_strip) (defBody s_Paper_strip) (defScope s_Paper_strip) .none kV_Paper_strip dc_Paper_strip pm_Paper_strip an_Paper_strip cd_Paper_strip ct_Paper_strip), sl_Paper_strip⟩)
    (c_Paper_strip : PySem.W.codeIn K cd_Paper_strip "Paper.strip" = true)
    (k_Paper_strip : PySem.W.keepIn K (.ref f_Paper_strip) = true)
    (i_Paper_strip : PySem.W.isFn K (.ref f_Paper_strip) = true)
    (a_Paper_fewest : PySem.W.findIn K (.ref C_Paper) "fewest" = some (some (.ref f_Paper_fewest)))
    (l_Paper_fewest : K.lookup f_Paper_fewest = some ⟨oc_Paper_fewest, od_Paper_fewest, .func (PySem.W.fnOf "fewest" "Paper.fewest" (defArgs s_Paper_fewest) (defBody s_Paper_fewest) (defScope s_Paper_fewest) .none kV_Paper_fewest dc_Paper_fewest pm_Paper_fewest an_Paper_fewest cd_Paper_fewest ct_Paper_fewest), sl_Paper_fewest⟩)
    (c_Paper_fewest : PySem.W.codeIn K cd_Paper_fewest "Paper.fewest" = true)
    (k_Paper_fewest : PySem.W.keepIn K (.ref f_Paper_fewest) = true)
    (i_Paper_fewest : PySem.W.isFn K (.ref f_Paper_fewest) = true)
    (a_Paper_counts : PySem.W.findIn K (.ref C_Paper) "counts" = some (some (.ref f_Paper_counts)))
    (l_Paper_counts : K.lookup f_Paper_counts = some ⟨oc_Paper_counts, od_Paper_counts, .func (PySem.W.fnOf "counts" "Paper.counts" (defArgs s_Paper_counts) (defBody s_Paper_counts) (defScope s_Paper_counts) .none kV_Paper_counts dc_Paper_counts pm_Paper_counts an_Paper_counts cd_Paper_counts ct_Paper_counts), sl_Paper_counts⟩)
    (c_Paper_counts : PySem.W.codeIn K cd_Paper_counts "Paper.counts" = true)
    (k_Paper_counts : PySem.W.keepIn K (.ref f_Paper_counts) = true)
    (i_Paper_counts : PySem.W.isFn K (.ref f_Paper_counts) = true)
    (n_Paper_cells_now : PySem.W.findIn K (.ref C_Paper) "cells_now" = some none)
    (n_Paper_times_now : PySem.W.findIn K (.ref C_Paper) "times_now" = some none)
    (n_Paper_marked : PySem.W.findIn K (.ref C_Paper) "marked" = some none)
    (a_MOST_CELLS : PySem.W.nsIn K mainGlobals "MOST_CELLS" = some (some (.int 200 t_MOST_CELLS)))
    (al_fewest_wishes : PySem.W.nsIn K mainGlobals "fewest_wishes" = some (some (.ref f_fewest)))
    (z_KeyError : PySem.W.nsIn K mainGlobals "KeyError" = some none)
    (z_LookupError : PySem.W.nsIn K mainGlobals "LookupError" = some none)
    (z_ValueError : PySem.W.nsIn K mainGlobals "ValueError" = some none)
    (z_abs : PySem.W.nsIn K mainGlobals "abs" = some none)
    (z_all : PySem.W.nsIn K mainGlobals "all" = some none)
    (z_bool : PySem.W.nsIn K mainGlobals "bool" = some none)
    (z_enumerate : PySem.W.nsIn K mainGlobals "enumerate" = some none)
    (z_int : PySem.W.nsIn K mainGlobals "int" = some none)
    (z_isinstance : PySem.W.nsIn K mainGlobals "isinstance" = some none)
    (z_len : PySem.W.nsIn K mainGlobals "len" = some none)
    (z_list : PySem.W.nsIn K mainGlobals "list" = some none)
    (z_max : PySem.W.nsIn K mainGlobals "max" = some none)
    (z_min : PySem.W.nsIn K mainGlobals "min" = some none)
    (z_range : PySem.W.nsIn K mainGlobals "range" = some none)
    (z_str : PySem.W.nsIn K mainGlobals "str" = some none)
    (z_sum : PySem.W.nsIn K mainGlobals "sum" = some none)
    (z_tuple : PySem.W.nsIn K mainGlobals "tuple" = some none)
    (z_zip : PySem.W.nsIn K mainGlobals "zip" = some none)
    : ∃ T : Txt K mg, T.f_law = fa ∧ ∀ (s : Shared) (v : Value), BindsTo s T.fd_law ⟨[v], []⟩ [("script", v)] := by
  have e := hfa.symm.trans (PySem.W.mg_of X G a_law)
  cases e
  have F_wall := fun_mk (st := s_wall) l_wall c_wall k_wall
  have b_wall := F_wall.binds (ps := ["k"]) fun _ _ _ _ _ _ us hl => match us, hl with | [_], _ => rfl
  have F_stands := fun_mk (st := s_stands) l_stands c_stands k_stands
  have b_stands := F_stands.binds (ps := ["counts"]) fun _ _ _ _ _ _ us hl => match us, hl with | [_], _ => rfl
  have F_fewest_seen := fun_mk (st := s_fewest_seen) l_fewest_seen c_fewest_seen k_fewest_seen
  have b_fewest_seen := F_fewest_seen.binds (ps := ["counts"]) fun _ _ _ _ _ _ us hl => match us, hl with | [_], _ => rfl
  have F_by_levels := fun_mk (st := s_by_levels) l_by_levels c_by_levels k_by_levels
  have b_by_levels := F_by_levels.binds (ps := ["counts"]) fun _ _ _ _ _ _ us hl => match us, hl with | [_], _ => rfl
  have F_made := fun_mk (st := s_made) l_made c_made k_made
  have b_made := F_made.binds (ps := ["counts", "many"]) fun _ _ _ _ _ _ us hl => match us, hl with | [_, _], _ => rfl
  have F_is_rising := fun_mk (st := s_is_rising) l_is_rising c_is_rising k_is_rising
  have b_is_rising := F_is_rising.binds (ps := ["numbers"]) fun _ _ _ _ _ _ us hl => match us, hl with | [_], _ => rfl
  have F_is_folding := fun_mk (st := s_is_folding) l_is_folding c_is_folding k_is_folding
  have b_is_folding := F_is_folding.binds (ps := ["many", "folds"]) fun _ _ _ _ _ _ us hl => match us, hl with | [_, _], _ => rfl
  have F_laid := fun_mk (st := s_laid) l_laid c_laid k_laid
  have b_laid := F_laid.binds (ps := ["many", "folds"]) fun _ _ _ _ _ _ us hl => match us, hl with | [_, _], _ => rfl
  have F_places := fun_mk (st := s_places) l_places c_places k_places
  have b_places := F_places.binds (ps := ["many", "folds"]) fun _ _ _ _ _ _ us hl => match us, hl with | [_, _], _ => rfl
  have F_cells_at := fun_mk (st := s_cells_at) l_cells_at c_cells_at k_cells_at
  have b_cells_at := F_cells_at.binds (ps := ["many", "folds", "place"]) fun _ _ _ _ _ _ us hl => match us, hl with | [_, _, _], _ => rfl
  have F_need_wish := fun_mk (st := s_need_wish) l_need_wish c_need_wish k_need_wish
  have b_need_wish := F_need_wish.binds (ps := ["strip", "wish"]) fun _ _ _ _ _ _ us hl => match us, hl with | [_, _], _ => rfl
  have F_torn_ones := fun_mk (st := s_torn_ones) l_torn_ones c_torn_ones k_torn_ones
  have b_torn_ones := F_torn_ones.binds (ps := ["strip", "wish"]) fun _ _ _ _ _ _ us hl => match us, hl with | [_, _], _ => rfl
  have F_bearings := fun_mk (st := s_bearings) l_bearings c_bearings k_bearings
  have b_bearings := F_bearings.binds (ps := ["strip", "wish"]) fun _ _ _ _ _ _ us hl => match us, hl with | [_, _], _ => rfl
  have F_weights := fun_mk (st := s_weights) l_weights c_weights k_weights
  have b_weights := F_weights.binds (ps := ["strip", "wish", "parity"]) fun _ _ _ _ _ _ us hl => match us, hl with | [_, _, _], _ => rfl
  have F_greatest_sum := fun_mk (st := s_greatest_sum) l_greatest_sum c_greatest_sum k_greatest_sum
  have b_greatest_sum := F_greatest_sum.binds (ps := ["numbers"]) fun _ _ _ _ _ _ us hl => match us, hl with | [_], _ => rfl
  have F_fewest := fun_mk (st := s_fewest) l_fewest c_fewest k_fewest
  have b_fewest := F_fewest.binds (ps := ["strip", "wish"]) fun _ _ _ _ _ _ us hl => match us, hl with | [_, _], _ => rfl
  have F_law_bag := fun_mk (st := s_law_bag) l_law_bag c_law_bag k_law_bag
  have b_law_bag := F_law_bag.binds (ps := ["script"]) fun _ _ _ _ _ _ us hl => match us, hl with | [_], _ => rfl
  have F_law_stirred := fun_mk (st := s_law_stirred) l_law_stirred c_law_stirred k_law_stirred
  have b_law_stirred := F_law_stirred.binds (ps := ["bag", "wide"]) fun _ _ _ _ _ _ us hl => match us, hl with | [_, _], _ => rfl
  have F_law_draw := fun_mk (st := s_law_draw) l_law_draw c_law_draw k_law_draw
  have b_law_draw := F_law_draw.binds (ps := ["bag", "wide"]) fun _ _ _ _ _ _ us hl => match us, hl with | [_, _], _ => rfl
  have F_law_alike := fun_mk (st := s_law_alike) l_law_alike c_law_alike k_law_alike
  have b_law_alike := F_law_alike.binds (ps := ["found", "due"]) fun _ _ _ _ _ _ us hl => match us, hl with | [_, _], _ => rfl
  have F_law_list_right := fun_mk (st := s_law_list_right) l_law_list_right c_law_list_right k_law_list_right
  have b_law_list_right := F_law_list_right.binds (ps := ["cells"]) fun _ _ _ _ _ _ us hl => match us, hl with | [_], _ => rfl
  have F_law_places := fun_mk (st := s_law_places) l_law_places c_law_places k_law_places
  have b_law_places := F_law_places.binds (ps := ["size", "folds"]) fun _ _ _ _ _ _ us hl => match us, hl with | [_, _], _ => rfl
  have F_law_punched := fun_mk (st := s_law_punched) l_law_punched c_law_punched k_law_punched
  have b_law_punched := F_law_punched.binds (ps := ["bag", "sheet", "size", "part"]) fun _ _ _ _ _ _ us hl => match us, hl with | [_, _, _, _], _ => rfl
  have F_law_made_right := fun_mk (st := s_law_made_right) l_law_made_right c_law_made_right k_law_made_right
  have b_law_made_right := F_law_made_right.binds (ps := ["counts", "amount"]) fun _ _ _ _ _ _ us hl => match us, hl with | [_, _], _ => rfl
  have F_law := fun_mk (st := s_law) l_law c_law k_law
  have b_law := F_law.binds (ps := ["script"]) fun _ _ _ _ _ _ us hl => match us, hl with | [_], _ => rfl
  have F_Paper_init := fun_mk (st := s_Paper_init) l_Paper_init c_Paper_init k_Paper_init
  have b_Paper_init := F_Paper_init.binds (ps := ["self", "many", "left"]) fun _ _ _ _ _ _ us hl => match us, hl with | [_, _, _], _ => rfl
  have F_Paper_hit := fun_mk (st := s_Paper_hit) l_Paper_hit c_Paper_hit k_Paper_hit
  have b_Paper_hit := F_Paper_hit.binds (ps := ["self", "cells"]) fun _ _ _ _ _ _ us hl => match us, hl with | [_, _], _ => rfl
  have F_Paper_punch := fun_mk (st := s_Paper_punch) l_Paper_punch c_Paper_punch k_Paper_punch
  have b_Paper_punch := F_Paper_punch.binds (ps := ["self", "folds", "place"]) fun _ _ _ _ _ _ us hl => match us, hl with | [_, _, _], _ => rfl
  have F_Paper_patch := fun_mk (st := s_Paper_patch) l_Paper_patch c_Paper_patch k_Paper_patch
  have b_Paper_patch := F_Paper_patch.binds (ps := ["self", "cell"]) fun _ _ _ _ _ _ us hl => match us, hl with | [_, _], _ => rfl
  have F_Paper_do := fun_mk (st := s_Paper_do) l_Paper_do c_Paper_do k_Paper_do
  have b_Paper_do := F_Paper_do.binds (ps := ["self", "wish"]) fun _ _ _ _ _ _ us hl => match us, hl with | [_, _], _ => rfl
  have F_Paper_mark := fun_mk (st := s_Paper_mark) l_Paper_mark c_Paper_mark k_Paper_mark
  have b_Paper_mark := F_Paper_mark.binds (ps := ["self"]) fun _ _ _ _ _ _ us hl => match us, hl with | [_], _ => rfl
  have F_Paper_undo := fun_mk (st := s_Paper_undo) l_Paper_undo c_Paper_undo k_Paper_undo
  have b_Paper_undo := F_Paper_undo.binds (ps := ["self", "mark"]) fun _ _ _ _ _ _ us hl => match us, hl with | [_, _], _ => rfl
  have F_Paper_strip := fun_mk (st := s_Paper_strip) l_Paper_strip c_Paper_strip k_Paper_strip
  have b_Paper_strip := F_Paper_strip.binds (ps := ["self"]) fun _ _ _ _ _ _ us hl => match us, hl with | [_], _ => rfl
  have F_Paper_fewest := fun_mk (st := s_Paper_fewest) l_Paper_fewest c_Paper_fewest k_Paper_fewest
  have b_Paper_fewest := F_Paper_fewest.binds (ps := ["self", "wish"]) fun _ _ _ _ _ _ us hl => match us, hl with | [_, _], _ => rfl
  have F_Paper_counts := fun_mk (st := s_Paper_counts) l_Paper_counts c_Paper_counts k_Paper_counts
  have b_Paper_counts := F_Paper_counts.binds (ps := ["self"]) fun _ _ _ _ _ _ us hl => match us, hl with | [_], _ => rfl
  let T : Txt K mg := {
    f_wall := f_wall
    fd_wall := _
    F_wall := F_wall
    b_wall := b_wall
    g_wall := PySem.W.mg_of X G a_wall
    f_stands := f_stands
    fd_stands := _
    F_stands := F_stands
    b_stands := b_stands
    g_stands := PySem.W.mg_of X G a_stands
    f_fewest_seen := f_fewest_seen
    fd_fewest_seen := _
    F_fewest_seen := F_fewest_seen
    b_fewest_seen := b_fewest_seen
    g_fewest_seen := PySem.W.mg_of X G a_fewest_seen
    f_by_levels := f_by_levels
    fd_by_levels := _
    F_by_levels := F_by_levels
    b_by_levels := b_by_levels
    g_by_levels := PySem.W.mg_of X G a_by_levels
    f_made := f_made
    fd_made := _
    F_made := F_made
    b_made := b_made
    g_made := PySem.W.mg_of X G a_made
    f_is_rising := f_is_rising
    fd_is_rising := _
    F_is_rising := F_is_rising
    b_is_rising := b_is_rising
    g_is_rising := PySem.W.mg_of X G a_is_rising
    f_is_folding := f_is_folding
    fd_is_folding := _
    F_is_folding := F_is_folding
    b_is_folding := b_is_folding
    g_is_folding := PySem.W.mg_of X G a_is_folding
    f_laid := f_laid
    fd_laid := _
    F_laid := F_laid
    b_laid := b_laid
    g_laid := PySem.W.mg_of X G a_laid
    f_places := f_places
    fd_places := _
    F_places := F_places
    b_places := b_places
    g_places := PySem.W.mg_of X G a_places
    f_cells_at := f_cells_at
    fd_cells_at := _
    F_cells_at := F_cells_at
    b_cells_at := b_cells_at
    g_cells_at := PySem.W.mg_of X G a_cells_at
    f_need_wish := f_need_wish
    fd_need_wish := _
    F_need_wish := F_need_wish
    b_need_wish := b_need_wish
    g_need_wish := PySem.W.mg_of X G a_need_wish
    f_torn_ones := f_torn_ones
    fd_torn_ones := _
    F_torn_ones := F_torn_ones
    b_torn_ones := b_torn_ones
    g_torn_ones := PySem.W.mg_of X G a_torn_ones
    f_bearings := f_bearings
    fd_bearings := _
    F_bearings := F_bearings
    b_bearings := b_bearings
    g_bearings := PySem.W.mg_of X G a_bearings
    f_weights := f_weights
    fd_weights := _
    F_weights := F_weights
    b_weights := b_weights
    g_weights := PySem.W.mg_of X G a_weights
    f_greatest_sum := f_greatest_sum
    fd_greatest_sum := _
    F_greatest_sum := F_greatest_sum
    b_greatest_sum := b_greatest_sum
    g_greatest_sum := PySem.W.mg_of X G a_greatest_sum
    f_fewest := f_fewest
    fd_fewest := _
    F_fewest := F_fewest
    b_fewest := b_fewest
    g_fewest := PySem.W.mg_of X G a_fewest
    f_law_bag := f_law_bag
    fd_law_bag := _
    F_law_bag := F_law_bag
    b_law_bag := b_law_bag
    g_law_bag := PySem.W.mg_of X G a_law_bag
    f_law_stirred := f_law_stirred
    fd_law_stirred := _
    F_law_stirred := F_law_stirred
    b_law_stirred := b_law_stirred
    g_law_stirred := PySem.W.mg_of X G a_law_stirred
    f_law_draw := f_law_draw
    fd_law_draw := _
    F_law_draw := F_law_draw
    b_law_draw := b_law_draw
    g_law_draw := PySem.W.mg_of X G a_law_draw
    f_law_alike := f_law_alike
    fd_law_alike := _
    F_law_alike := F_law_alike
    b_law_alike := b_law_alike
    g_law_alike := PySem.W.mg_of X G a_law_alike
    f_law_list_right := f_law_list_right
    fd_law_list_right := _
    F_law_list_right := F_law_list_right
    b_law_list_right := b_law_list_right
    g_law_list_right := PySem.W.mg_of X G a_law_list_right
    f_law_places := f_law_places
    fd_law_places := _
    F_law_places := F_law_places
    b_law_places := b_law_places
    g_law_places := PySem.W.mg_of X G a_law_places
    f_law_punched := f_law_punched
    fd_law_punched := _
    F_law_punched := F_law_punched
    b_law_punched := b_law_punched
    g_law_punched := PySem.W.mg_of X G a_law_punched
    f_law_made_right := f_law_made_right
    fd_law_made_right := _
    F_law_made_right := F_law_made_right
    b_law_made_right := b_law_made_right
    g_law_made_right := PySem.W.mg_of X G a_law_made_right
    f_law := fa
    fd_law := _
    F_law := F_law
    b_law := b_law
    g_law := PySem.W.mg_of X G a_law
    C_Paper := C_Paper
    g_Paper := PySem.W.mg_of X G a_Paper
    cl_Paper := ⟨pg_Paper, hd_Paper, po_Paper, sa_Paper⟩
    f_Paper_init := f_Paper_init
    fd_Paper_init := _
    F_Paper_init := F_Paper_init
    b_Paper_init := b_Paper_init
    mk_Paper := ⟨mk_Paper, a_Paper_init, i_Paper_init, kc_Paper⟩
    f_Paper_hit := f_Paper_hit
    fd_Paper_hit := _
    F_Paper_hit := F_Paper_hit
    b_Paper_hit := b_Paper_hit
    m_Paper_hit := ⟨a_Paper_hit, i_Paper_hit, k_Paper_hit⟩
    f_Paper_punch := f_Paper_punch
    fd_Paper_punch := _
    F_Paper_punch := F_Paper_punch
    b_Paper_punch := b_Paper_punch
    m_Paper_punch := ⟨a_Paper_punch, i_Paper_punch, k_Paper_punch⟩
    f_Paper_patch := f_Paper_patch
    fd_Paper_patch := _
    F_Paper_patch := F_Paper_patch
    b_Paper_patch := b_Paper_patch
    m_Paper_patch := ⟨a_Paper_patch, i_Paper_patch, k_Paper_patch⟩
    f_Paper_do := f_Paper_do
    fd_Paper_do := _
    F_Paper_do := F_Paper_do
    b_Paper_do := b_Paper_do
    m_Paper_do := ⟨a_Paper_do, i_Paper_do, k_Paper_do⟩
    f_Paper_mark := f_Paper_mark
    fd_Paper_mark := _
    F_Paper_mark := F_Paper_mark
    b_Paper_mark := b_Paper_mark
    m_Paper_mark := ⟨a_Paper_mark, i_Paper_mark, k_Paper_mark⟩
    f_Paper_undo := f_Paper_undo
    fd_Paper_undo := _
    F_Paper_undo := F_Paper_undo
    b_Paper_undo := b_Paper_undo
    m_Paper_undo := ⟨a_Paper_undo, i_Paper_undo, k_Paper_undo⟩
    f_Paper_strip := f_Paper_strip
    fd_Paper_strip := _
    F_Paper_strip := F_Paper_strip
    b_Paper_strip := b_Paper_strip
    m_Paper_strip := ⟨a_Paper_strip, i_Paper_strip, k_Paper_strip⟩
    f_Paper_fewest := f_Paper_fewest
    fd_Paper_fewest := _
    F_Paper_fewest := F_Paper_fewest
    b_Paper_fewest := b_Paper_fewest
    m_Paper_fewest := ⟨a_Paper_fewest, i_Paper_fewest, k_Paper_fewest⟩
    f_Paper_counts := f_Paper_counts
    fd_Paper_counts := _
    F_Paper_counts := F_Paper_counts
    b_Paper_counts := b_Paper_counts
    m_Paper_counts := ⟨a_Paper_counts, i_Paper_counts, k_Paper_counts⟩
    n_Paper_cells_now := n_Paper_cells_now
    n_Paper_times_now := n_Paper_times_now
    n_Paper_marked := n_Paper_marked
    g_MOST_CELLS := ⟨_, PySem.W.mg_of X G a_MOST_CELLS⟩
    g_fewest_wishes := PySem.W.mg_of X G al_fewest_wishes
    z_KeyError := PySem.W.mg_none_of X G z_KeyError
    z_LookupError := PySem.W.mg_none_of X G z_LookupError
    z_ValueError := PySem.W.mg_none_of X G z_ValueError
    z_abs := PySem.W.mg_none_of X G z_abs
    z_all := PySem.W.mg_none_of X G z_all
    z_bool := PySem.W.mg_none_of X G z_bool
    z_enumerate := PySem.W.mg_none_of X G z_enumerate
    z_int := PySem.W.mg_none_of X G z_int
    z_isinstance := PySem.W.mg_none_of X G z_isinstance
    z_len := PySem.W.mg_none_of X G z_len
    z_list := PySem.W.mg_none_of X G z_list
    z_max := PySem.W.mg_none_of X G z_max
    z_min := PySem.W.mg_none_of X G z_min
    z_range := PySem.W.mg_none_of X G z_range
    z_str := PySem.W.mg_none_of X G z_str
    z_sum := PySem.W.mg_none_of X G z_sum
    z_tuple := PySem.W.mg_none_of X G z_tuple
    z_zip := PySem.W.mg_none_of X G z_zip
  }
  exact ⟨T, rfl, fun s v => .of_eq rfl⟩
theorem all_mk {l : PySem.W.OpenLaw} {w : World} {K : PySem.W.Frag} {mg : Str → Option Value} {fa : Addr} (hT : ∃ T : Txt K mg, T.f_law = fa ∧ ∀ (s : Shared) (v : Value), BindsTo s T.fd_law ⟨[v], []⟩ [("script", v)]) :
    ∃ fd : FuncData, (∀ (s : Shared) (v : Value), BindsTo s fd ⟨[v], []⟩ [("script", v)]) ∧ ∀ base : Heap, K.In base → base.Ns mainGlobals mg → FnOk l.prog w K mg base CX0 9 fa fd ["script"] (spLaw K) := by
  obtain ⟨T, rfl, hb⟩ := hT
  exact ⟨T.fd_law, hb, fun base _ _ => ok_lawS T⟩
end
end TX

open PySem PySem.W PyProof.Rows

set_option maxRecDepth 100000 in
set_option maxHeartbeats 0 in
theorem PySem.Challenge.cw_pleatpunch_k98_whole_seen_at_a_paper_holds : PySem.Challenge.rw_pleatpunch_k98_whole_seen_at_a_paper.Holds := by
  w_on; o_law; k_head; (case hw => w_witness2)
  k_fill
  refine L2.walk_of (l := PySem.Challenge.rw_pleatpunch_k98_whole_seen_at_a_paper) (n := 63) (k := 9) (x := "script") (CX := fun _ => L2.CX0) (sp := fun w => TX.spLaw _) rfl (by decide) rfl ⟨rfl, by decide, by decide⟩ (fun w h Y => PySem.W.kIn_of Y) ?F (fun _ _ a ns hl _ hS => ⟨a, ns, rfl, hS, hl, fun _ => rfl⟩) (fun _ _ _ _ _ h => h)
  case F =>
    intro w mg fa h KX G hmg
    refine TX.all_mk ?_
    refine' TX.txt_mk KX G hmg ?a_wall ?l_wall ?c_wall ?k_wall ?a_stands ?l_stands ?c_stands ?k_stands ?a_fewest_seen ?l_fewest_seen ?c_fewest_seen ?k_fewest_seen ?a_by_levels ?l_by_levels ?c_by_levels ?k_by_levels ?a_made ?l_made ?c_made ?k_made ?a_is_rising ?l_is_rising ?c_is_rising ?k_is_rising ?a_is_folding ?l_is_folding ?c_is_folding ?k_is_folding ?a_laid ?l_laid ?c_laid ?k_laid ?a_places ?l_places ?c_places ?k_places ?a_cells_at ?l_cells_at ?c_cells_at ?k_cells_at ?a_need_wish ?l_need_wish ?c_need_wish ?k_need_wish ?a_torn_ones ?l_torn_ones ?c_torn_ones ?k_torn_ones ?a_bearings ?l_bearings ?c_bearings ?k_bearings ?a_weights ?l_weights ?c_weights ?k_weights ?a_greatest_sum ?l_greatest_sum ?c_greatest_sum ?k_greatest_sum ?a_fewest ?l_fewest ?c_fewest ?k_fewest ?a_law_bag ?l_law_bag ?c_law_bag ?k_law_bag ?a_law_stirred ?l_law_stirred ?c_law_stirred ?k_law_stirred ?a_law_draw ?l_law_draw ?c_law_draw ?k_law_draw ?a_law_alike ?l_law_alike ?c_law_alike ?k_law_alike ?a_law_list_right ?l_law_list_right ?c_law_list_right ?k_law_list_right ?a_law_places ?l_law_places ?c_law_places ?k_law_places ?a_law_punched ?l_law_punched ?c_law_punched ?k_law_punched ?a_law_made_right ?l_law_made_right ?c_law_made_right ?k_law_made_right ?a_law ?l_law ?c_law ?k_law ?a_Paper ?pg_Paper ?hd_Paper ?po_Paper ?sa_Paper ?mk_Paper ?kc_Paper ?a_Paper_init ?l_Paper_init ?c_Paper_init ?k_Paper_init ?i_Paper_init ?a_Paper_hit ?l_Paper_hit ?c_Paper_hit ?k_Paper_hit ?i_Paper_hit ?a_Paper_punch ?l_Paper_punch ?c_Paper_punch ?k_Paper_punch ?i_Paper_punch ?a_Paper_patch ?l_Paper_patch ?c_Paper_patch ?k_Paper_patch ?i_Paper_patch ?a_Paper_do ?l_Paper_do ?c_Paper_do ?k_Paper_do ?i_Paper_do ?a_Paper_mark ?l_Paper_mark ?c_Paper_mark ?k_Paper_mark ?i_Paper_mark ?a_Paper_undo ?l_Paper_undo ?c_Paper_undo ?k_Paper_undo ?i_Paper_undo ?a_Paper_strip ?l_Paper_strip ?c_Paper_strip ?k_Paper_strip ?i_Paper_strip ?a_Paper_fewest ?l_Paper_fewest ?c_Paper_fewest ?k_Paper_fewest ?i_Paper_fewest ?a_Paper_counts ?l_Paper_counts ?c_Paper_counts ?k_Paper_counts ?i_Paper_counts ?n_Paper_cells_now ?n_Paper_times_now ?n_Paper_marked ?a_MOST_CELLS ?al_fewest_wishes ?z_KeyError ?z_LookupError ?z_ValueError ?z_abs ?z_all ?z_bool ?z_enumerate ?z_int ?z_isinstance ?z_len ?z_list ?z_max ?z_min ?z_range ?z_str ?z_sum ?z_tuple ?z_zip
    (case a_wall => k_is)
    (case l_wall => k_is)
    (case c_wall => k_is)
    (case k_wall => k_is)
    (case a_stands => k_is)
    (case l_stands => k_is)
    (case c_stands => k_is)
    (case k_stands => k_is)
    (case a_fewest_seen => k_is)
    (case l_fewest_seen => k_is)
    (case c_fewest_seen => k_is)
    (case k_fewest_seen => k_is)
    (case a_by_levels => k_is)
    (case l_by_levels => k_is)
    (case c_by_levels => k_is)
    (case k_by_levels => k_is)
    (case a_made => k_is)
    (case l_made => k_is)
    (case c_made => k_is)
    (case k_made => k_is)
    (case a_is_rising => k_is)
    (case l_is_rising => k_is)
    (case c_is_rising => k_is)
    (case k_is_rising => k_is)
    (case a_is_folding => k_is)
    (case l_is_folding => k_is)
    (case c_is_folding => k_is)
    (case k_is_folding => k_is)
    (case a_laid => k_is)
    (case l_laid => k_is)
    (case c_laid => k_is)
    (case k_laid => k_is)
    (case a_places => k_is)
    (case l_places => k_is)
    (case c_places => k_is)
    (case k_places => k_is)
    (case a_cells_at => k_is)
    (case l_cells_at => k_is)
    (case c_cells_at => k_is)
    (case k_cells_at => k_is)
    (case a_need_wish => k_is)
    (case l_need_wish => k_is)
    (case c_need_wish => k_is)
    (case k_need_wish => k_is)
    (case a_torn_ones => k_is)
    (case l_torn_ones => k_is)
    (case c_torn_ones => k_is)
    (case k_torn_ones => k_is)
    (case a_bearings => k_is)
    (case l_bearings => k_is)
    (case c_bearings => k_is)
    (case k_bearings => k_is)
    (case a_weights => k_is)
    (case l_weights => k_is)
    (case c_weights => k_is)
    (case k_weights => k_is)
    (case a_greatest_sum => k_is)
    (case l_greatest_sum => k_is)
    (case c_greatest_sum => k_is)
    (case k_greatest_sum => k_is)
    (case a_fewest => k_is)
    (case l_fewest => k_is)
    (case c_fewest => k_is)
    (case k_fewest => k_is)
    (case a_law_bag => k_is)
    (case l_law_bag => k_is)
    (case c_law_bag => k_is)
    (case k_law_bag => k_is)
    (case a_law_stirred => k_is)
    (case l_law_stirred => k_is)
    (case c_law_stirred => k_is)
    (case k_law_stirred => k_is)
    (case a_law_draw => k_is)
    (case l_law_draw => k_is)
    (case c_law_draw => k_is)
    (case k_law_draw => k_is)
    (case a_law_alike => k_is)
    (case l_law_alike => k_is)
    (case c_law_alike => k_is)
    (case k_law_alike => k_is)
    (case a_law_list_right => k_is)
    (case l_law_list_right => k_is)
    (case c_law_list_right => k_is)
    (case k_law_list_right => k_is)
    (case a_law_places => k_is)
    (case l_law_places => k_is)
    (case c_law_places => k_is)
    (case k_law_places => k_is)
    (case a_law_punched => k_is)
    (case l_law_punched => k_is)
    (case c_law_punched => k_is)
    (case k_law_punched => k_is)
    (case a_law_made_right => k_is)
    (case l_law_made_right => k_is)
    (case c_law_made_right => k_is)
    (case k_law_made_right => k_is)
    (case a_law => k_is)
    (case l_law => k_is)
    (case c_law => k_is)
    (case k_law => k_is)
    (case a_Paper => k_is)
    (case pg_Paper => k_is)
    (case hd_Paper => k_is)
    (case po_Paper => k_is)
    (case sa_Paper => k_is)
    (case mk_Paper => k_is)
    (case kc_Paper => k_is)
    (case a_Paper_init => k_is)
    (case l_Paper_init => k_is)
    (case c_Paper_init => k_is)
    (case k_Paper_init => k_is)
    (case i_Paper_init => k_is)
    (case a_Paper_hit => k_is)
    (case l_Paper_hit => k_is)
    (case c_Paper_hit => k_is)
    (case k_Paper_hit => k_is)
    (case i_Paper_hit => k_is)
    (case a_Paper_punch => k_is)
    (case l_Paper_punch => k_is)
    (case c_Paper_punch => k_is)
    (case k_Paper_punch => k_is)
    (case i_Paper_punch => k_is)
    (case a_Paper_patch => k_is)
    (case l_Paper_patch => k_is)
    (case c_Paper_patch => k_is)
    (case k_Paper_patch => k_is)
    (case i_Paper_patch => k_is)
    (case a_Paper_do => k_is)
    (case l_Paper_do => k_is)
    (case c_Paper_do => k_is)
    (case k_Paper_do => k_is)
    (case i_Paper_do => k_is)
    (case a_Paper_mark => k_is)
    (case l_Paper_mark => k_is)
    (case c_Paper_mark => k_is)
    (case k_Paper_mark => k_is)
    (case i_Paper_mark => k_is)
    (case a_Paper_undo => k_is)
    (case l_Paper_undo => k_is)
    (case c_Paper_undo => k_is)
    (case k_Paper_undo => k_is)
    (case i_Paper_undo => k_is)
    (case a_Paper_strip => k_is)
    (case l_Paper_strip => k_is)
    (case c_Paper_strip => k_is)
    (case k_Paper_strip => k_is)
    (case i_Paper_strip => k_is)
    (case a_Paper_fewest => k_is)
    (case l_Paper_fewest => k_is)
    (case c_Paper_fewest => k_is)
    (case k_Paper_fewest => k_is)
    (case i_Paper_fewest => k_is)
    (case a_Paper_counts => k_is)
    (case l_Paper_counts => k_is)
    (case c_Paper_counts => k_is)
    (case k_Paper_counts => k_is)
    (case i_Paper_counts => k_is)
    (case n_Paper_cells_now => k_is)
    (case n_Paper_times_now => k_is)
    (case n_Paper_marked => k_is)
    (case a_MOST_CELLS => k_is)
    (case al_fewest_wishes => k_is)
    (case z_KeyError => k_is)
    (case z_LookupError => k_is)
    (case z_ValueError => k_is)
    (case z_abs => k_is)
    (case z_all => k_is)
    (case z_bool => k_is)
    (case z_enumerate => k_is)
    (case z_int => k_is)
    (case z_isinstance => k_is)
    (case z_len => k_is)
    (case z_list => k_is)
    (case z_max => k_is)
    (case z_min => k_is)
    (case z_range => k_is)
    (case z_str => k_is)
    (case z_sum => k_is)
    (case z_tuple => k_is)
    (case z_zip => k_is)
