import PyProof.Rows.All
import HandS.ForMost
import HandS.ForExc
import HandS.Wide
import HandS.Gcd
import HandS.IsInst
import HandS.TupAny
import HandS.Style
import HandS.Flow
import HandS.NoneIn
import HandS.Walk
import HandS.Zip
import HandS.ExcIs
import KE.GoesEnum
import PySem.Challenge.RW_lawsunseen_k10_whole_marks_and_what_fits
import HandS.Small
import KE.SortData
import HandS.TupSets
import KE.KeyNested
set_option Elab.async false
set_option linter.all false
set_option maxRecDepth 100000
set_option maxHeartbeats 2100000
/-! a layer of data over HandS: what stands in the heap is told by PyData, lists that change by a memory -/
namespace K10
open L2 PyProof.Rows PySem.Spec PySem

abbrev Dt := PyData
abbrev Fg := PySem.W.Frag

def hide (U : List Addr) (H : Hp) : Hp := fun a => if a ∈ U then none else H a
theorem hide_in {U : List Addr} {H : Hp} {a : Addr} (h : a ∈ U) : hide U H a = none := if_pos h
theorem hide_out {U : List Addr} {H : Hp} {a : Addr} (h : a ∉ U) : hide U H a = H a := if_neg h
theorem hide_le {U : List Addr} {H : Hp} : Same (hide U H) H := fun a o h => by
  unfold hide at h
  split at h
  · cases h
  · exact h
theorem hide_same {U : List Addr} {H H' : Hp} (h : Same H H') : Same (hide U H) (hide U H') := fun a o e => by
  by_cases m : a ∈ U
  · rw [hide_in m] at e; cases e
  · rw [hide_out m] at e ⊢; exact h a o e
theorem hide_upd {U : List Addr} {H : Hp} {a : Addr} {o : HO} (m : a ∈ U) : hide U (upd H a o) = hide U H := by
  funext b
  by_cases h : b ∈ U
  · rw [hide_in h, hide_in h]
  · rw [hide_out h, hide_out h, upd_ne (show b ≠ a from fun e => h (e ▸ m))]
theorem same_new {H : Hp} {p : Addr} {o : HO} (h : H p = none) : Same H (upd H p o) := fun b x e => by
  rw [upd_ne (ne_of_none e h)]
  exact e

mutual
inductive Rp (K : Fg) (H : Hp) : V → Dt → Prop
  | non : Rp K H .non .none
  | bl (b : Bool) : Rp K H (.bl b) (.bool b)
  | int (i : Int) : Rp K H (.int i) (.int i)
  | str (x : Str) : Rp K H (.str x) (.str x)
  | lst {a : Addr} {xs : List V} {ds : List Dt} : H a = some (.lst xs) → RpAll K H xs ds → Rp K H (.ref a) (.list ds)
  | tup {a : Addr} {xs : List V} {ds : List Dt} : SqT K H a xs → RpAll K H xs ds → Rp K H (.ref a) (.tuple ds)
inductive RpAll (K : Fg) (H : Hp) : List V → List Dt → Prop
  | nil : RpAll K H [] []
  | cons {v : V} {vs : List V} {d : Dt} {ds : List Dt} : Rp K H v d → RpAll K H vs ds → RpAll K H (v :: vs) (d :: ds)
end

theorem sqt_same {K : Fg} {H H' : Hp} {a : Addr} {xs : List V} (e : Same H H') (h : SqT K H a xs) : SqT K H' a xs := by
  rcases h with ((h | ⟨o, h⟩) | h)
  · exact .inl (.inl (e _ _ h))
  · refine .inl (.inr ⟨o, e _ _ h⟩)
  · exact .inr h
mutual
theorem Rp.mono {K : Fg} {H H' : Hp} (e : Same H H') : ∀ {v : V} {d : Dt}, Rp K H v d → Rp K H' v d
  | _, _, .non => .non
  | _, _, .bl b => .bl b
  | _, _, .int i => .int i
  | _, _, .str x => .str x
  | _, _, .lst h r => .lst (e _ _ h) (RpAll.mono e r)
  | _, _, .tup h r => .tup (sqt_same e h) (RpAll.mono e r)
theorem RpAll.mono {K : Fg} {H H' : Hp} (e : Same H H') : ∀ {v : List V} {d : List Dt}, RpAll K H v d → RpAll K H' v d
  | _, _, .nil => .nil
  | _, _, .cons h r => .cons (Rp.mono e h) (RpAll.mono e r)
end
mutual
theorem Rp.dp {K : Fg} {H : Hp} : ∀ {v : V} {d : Dt}, Rp K H v d → Dp K H v d
  | _, _, .non => .non
  | _, _, .bl b => .bl b
  | _, _, .int i => .int i
  | _, _, .str x => .str x
  | _, _, .lst h r => .lst (SqL.of h) (RpAll.dp r)
  | _, _, .tup h r => .tup h (RpAll.dp r)
theorem RpAll.dp {K : Fg} {H : Hp} : ∀ {v : List V} {d : List Dt}, RpAll K H v d → DpAll K H v d
  | _, _, .nil => .nil
  | _, _, .cons h r => .cons (Rp.dp h) (RpAll.dp r)
end
theorem RpAll.length {K : Fg} {H : Hp} : ∀ {vs : List V} {ds : List Dt}, RpAll K H vs ds → vs.length = ds.length
  | _, _, .nil => rfl
  | _, _, .cons _ r => congrArg (· + 1) (RpAll.length r)
theorem RpAll.get {K : Fg} {H : Hp} : ∀ {vs : List V} {ds : List Dt} {i : Nat} {d : Dt}, RpAll K H vs ds → ds[i]? = some d → ∃ v, vs[i]? = some v ∧ Rp K H v d
  | _, _, _, _, .nil, z => by simp at z
  | _, _, 0, _, .cons h _, e => by simp at e; subst e; exact ⟨_, rfl, h⟩
  | _, _, i + 1, d, .cons _ r, e => by
    obtain ⟨v, h1, h2⟩ := RpAll.get (i := i) (d := d) r (by simpa using e)
    exact ⟨v, by simpa using h1, h2⟩
theorem RpAll.getV {K : Fg} {H : Hp} {vs : List V} {ds : List Dt} {i : Nat} {v : V} (r : RpAll K H vs ds) (e : vs[i]? = some v) : ∃ d, ds[i]? = some d ∧ Rp K H v d := by
  have hi : i < ds.length := by
    rw [← r.length]
    refine (List.getElem?_eq_some_iff.mp e).1
  obtain ⟨u, h1, h2⟩ := r.get (List.getElem?_eq_getElem hi)
  rw [e] at h1
  cases h1
  exact ⟨_, List.getElem?_eq_getElem hi, h2⟩
theorem RpAll.append {K : Fg} {H : Hp} : ∀ {vs us : List V} {ds es : List Dt}, RpAll K H vs ds → RpAll K H us es → RpAll K H (vs ++ us) (ds ++ es)
  | _, _, _, _, .nil, s => s
  | _, _, _, _, .cons h r, s => .cons h (RpAll.append r s)
theorem RpAll.drop {K : Fg} {H : Hp} : ∀ {vs : List V} {ds : List Dt} (n : Nat), RpAll K H vs ds → RpAll K H (vs.drop n) (ds.drop n)
  | _, _, 0, r => r
  | _, _, _ + 1, .nil => .nil
  | _, _, n + 1, .cons _ r => RpAll.drop n r
theorem RpAll.take {K : Fg} {H : Hp} : ∀ {vs : List V} {ds : List Dt} (n : Nat), RpAll K H vs ds → RpAll K H (vs.take n) (ds.take n)
  | _, _, 0, _ => .nil
  | _, _, _ + 1, .nil => .nil
  | _, _, n + 1, .cons h r => .cons h (RpAll.take n r)
theorem RpAll.set {K : Fg} {H : Hp} {v : V} {d : Dt} (h : Rp K H v d) : ∀ {vs : List V} {ds : List Dt} (i : Nat), RpAll K H vs ds → RpAll K H (vs.set i v) (ds.set i d)
  | _, _, _, .nil => .nil
  | _, _, 0, .cons _ r => .cons h r
  | _, _, i + 1, .cons q r => .cons q (RpAll.set h i r)
/-- the value read off data that has no object -/
theorem Rp.int_inv {K : Fg} {H : Hp} {v : V} {i : Int} (h : Rp K H v (.int i)) : v = .int i := by cases h; rfl
theorem Rp.bl_inv {K : Fg} {H : Hp} {v : V} {b : Bool} (h : Rp K H v (.bool b)) : v = .bl b := by cases h; rfl
theorem Rp.non_inv {K : Fg} {H : Hp} {v : V} (h : Rp K H v .none) : v = .non := by cases h; rfl
theorem Rp.str_inv {K : Fg} {H : Hp} {v : V} {x : Str} (h : Rp K H v (.str x)) : v = .str x := by cases h; rfl
theorem Rp.tup_inv {K : Fg} {H : Hp} {v : V} {ds : List Dt} (h : Rp K H v (.tuple ds)) : ∃ a xs, v = .ref a ∧ SqT K H a xs ∧ RpAll K H xs ds := by cases h with | tup h r => exact ⟨_, _, rfl, h, r⟩
theorem Rp.lst_inv {K : Fg} {H : Hp} {v : V} {ds : List Dt} (h : Rp K H v (.list ds)) : ∃ a xs, v = .ref a ∧ H a = some (.lst xs) ∧ RpAll K H xs ds := by cases h with | lst h r => exact ⟨_, _, rfl, h, r⟩
theorem RpAll.ints {K : Fg} {H : Hp} : ∀ {vs : List V} {ns : List Int}, RpAll K H vs (ns.map PyData.int) → vs = ns.map V.int
  | _, [], .nil => rfl
  | _, n :: ns, .cons h r => by rw [h.int_inv, RpAll.ints r]; rfl
theorem RpAll.of_ints {K : Fg} {H : Hp} : ∀ (ns : List Int), RpAll K H (ns.map V.int) (ns.map PyData.int)
  | [] => .nil
  | n :: ns => .cons (.int n) (RpAll.of_ints ns)
theorem RpAll.bls {K : Fg} {H : Hp} : ∀ {vs : List V} {ns : List Bool}, RpAll K H vs (ns.map PyData.bool) → vs = ns.map V.bl
  | _, [], .nil => rfl
  | _, n :: ns, .cons h r => by rw [h.bl_inv, RpAll.bls r]; rfl

/-! ### what a name may hold, the memory, the state -/
inductive W where
  | d (x : Dt)
  | m (a : Addr)
def Rw (K : Fg) (H : Hp) (v : V) : W → Prop
  | .d x => Rp K H v x
  | .m a => v = .ref a
theorem Rw.mono {K : Fg} {H H' : Hp} (e : Same H H') {v : V} : ∀ {w : W}, Rw K H v w → Rw K H' v w
  | .d _, h => Rp.mono e h
  | .m _, h => h
abbrev Slots := List (Option W)
abbrev Mem := List (Addr × List Dt)
structure Bs where
  H0 : Hp
  T : List Addr
  U : List Addr
structure Ok (K : Fg) (B : Bs) (δ : Slots) (τ : Mem) (σ : L2.St) (H : Hp) : Prop where
  fr : ∀ a o, a ∉ B.T → B.H0 a = some o → H a = some o
  sub : ∀ a ∈ B.T, a ∈ B.U
  ex : ∀ a ∈ B.U, H a ≠ none
  mu : ∀ p ∈ τ, p.1 ∈ B.U ∧ (p.1 ∈ B.T ∨ B.H0 p.1 = none) ∧ ∃ xs, H p.1 = some (.lst xs) ∧ RpAll K (hide B.U H) xs p.2
  nd : (τ.map (·.1)).Nodup
  sl : ∀ (i : Nat) (w : W), δ[i]? = some (some w) → ∃ v, σ[i]? = some (some v) ∧ Rw K (hide B.U H) v w
  len : δ.length = σ.length
section
variable {K : Fg} {B : Bs} {δ : Slots} {τ : Mem} {σ : L2.St} {H H' : Hp}
theorem Ok.pure (k : Ok K B δ τ σ H) (e : Same H H') : Ok K B δ τ σ H' where
  fr := fun a o n h => e _ _ (k.fr a o n h)
  sub := k.sub
  ex := fun a m z => by
    cases q : H a with
    | none => exact k.ex a m q
    | some o => rw [e _ _ q] at z; cases z
  mu := fun p m => by
    obtain ⟨h1, h2, xs, h3, h4⟩ := k.mu p m
    exact ⟨h1, h2, xs, e _ _ h3, h4.mono (hide_same e)⟩
  nd := k.nd
  sl := fun i w h => by
    obtain ⟨v, h1, h2⟩ := k.sl i w h
    exact ⟨v, h1, h2.mono (hide_same e)⟩
  len := k.len
theorem Ok.new (k : Ok K B δ τ σ H) {p : Addr} (h : H p = none) : p ∉ B.U := fun m => k.ex p m h
theorem Ok.new0 (k : Ok K B δ τ σ H) {p : Addr} (h : H p = none) : B.H0 p = none := by
  cases q : B.H0 p with
  | none => rfl
  | some o =>
    by_cases t : p ∈ B.T
    · exact absurd h (k.ex p (k.sub p t))
    · rw [k.fr p o t q] at h; cases h
theorem Ok.sets (k : Ok K B δ τ σ H) {v : V} {w : W} (r : Rw K (hide B.U H) v w) (i : Nat) : Ok K B (δ.set i (some w)) τ (σ.set i (some v)) H where
  fr := k.fr
  sub := k.sub
  ex := k.ex
  mu := k.mu
  nd := k.nd
  sl := fun j u h => by
    by_cases e : i = j
    · subst e
      by_cases hl : i < δ.length
      · rw [List.getElem?_set_self hl] at h
        cases h
        exact ⟨v, List.getElem?_set_self (by rw [← k.len]; exact hl), r⟩
      · rw [List.getElem?_eq_none (by simpa using hl)] at h
        cases h
    · rw [List.getElem?_set_ne e] at h ⊢
      exact k.sl j u h
  len := by rw [List.length_set, List.length_set]; exact k.len
end
def memAt (τ : Mem) (a : Addr) : Option (List Dt) := (τ.find? fun p => decide (p.1 = a)).map (·.2)
def memPut (τ : Mem) (a : Addr) (ys : List Dt) : Mem := τ.map fun p => if p.1 = a then (a, ys) else p
theorem memPut_keys (τ : Mem) (a : Addr) (ys : List Dt) : (memPut τ a ys).map (·.1) = τ.map (·.1) := by
  unfold memPut
  rw [List.map_map]
  refine List.map_congr_left (fun p _ => ?_)
  show (if p.1 = a then (a, ys) else p).1 = p.1
  split
  · rename_i h; exact h.symm
  · rfl
theorem memAt_mem {τ : Mem} {a : Addr} {ys : List Dt} (h : memAt τ a = some ys) : (a, ys) ∈ τ := by
  unfold memAt at h
  cases q : τ.find? fun p => decide (p.1 = a) with
  | none => rw [q] at h; cases h
  | some p =>
    rw [q] at h
    have e1 : p.2 = ys := Option.some.inj h
    have e2 : p.1 = a := of_decide_eq_true (List.find?_some (p := fun p : Addr × List Dt => decide (p.1 = a)) q)
    have e3 := List.mem_of_find?_eq_some q
    rw [← e1, ← e2]
    exact e3
section
variable {K : Fg} {B : Bs} {δ : Slots} {τ : Mem} {σ : L2.St} {H H' : Hp}
/-- a told list is changed -/
theorem Ok.put (k : Ok K B δ τ σ H) {a : Addr} {ys zs : List Dt} {xs : List V} (h : memAt τ a = some ys) (r : RpAll K (hide B.U H) xs zs)
    (h' : H' a = some (.lst xs)) (o : ∀ b u, b ≠ a → H b = some u → H' b = some u) : Ok K B δ (memPut τ a zs) σ H' ∧ Same (hide B.U H) (hide B.U H') := by
  have m := k.mu _ (memAt_mem h)
  have sm : Same (hide B.U H) (hide B.U H') := fun b u e => by
    by_cases c : b ∈ B.U
    · rw [hide_in c] at e; cases e
    · rw [hide_out c] at e ⊢
      exact o b u (fun z => c (z ▸ m.1)) e
  refine ⟨⟨fun b u n e => ?_, k.sub, fun b c z => ?_, fun p hp => ?_, ?_, fun i w e => ?_, k.len⟩, sm⟩
  · refine o b u (fun z => ?_) (k.fr b u n e)
    subst z
    rcases m.2.1 with q | q
    · exact n q
    · rw [q] at e; cases e
  · by_cases e : b = a
    · subst e; rw [h'] at z; cases z
    · cases q : H b with
      | none => exact k.ex b c q
      | some u => rw [o b u e q] at z; cases z
  · unfold memPut at hp
    obtain ⟨q, hq, e⟩ := List.mem_map.mp hp
    by_cases c : q.1 = a
    · rw [if_pos c] at e
      subst e
      exact ⟨m.1, m.2.1, xs, h', r.mono sm⟩
    · rw [if_neg c] at e
      subst e
      obtain ⟨h1, h2, us, h3, h4⟩ := k.mu q hq
      exact ⟨h1, h2, us, o _ _ c h3, h4.mono sm⟩
  · rw [memPut_keys]; exact k.nd
  · obtain ⟨v, h1, h2⟩ := k.sl i w e
    exact ⟨v, h1, h2.mono sm⟩
theorem fresh_same {U : List Addr} {H : Hp} {p : Addr} {o : HO} (h : H p = none) : Same (hide U H) (hide (p :: U) (upd H p o)) := fun b u e => by
  by_cases c : b ∈ U
  · rw [hide_in c] at e; cases e
  · rw [hide_out c] at e
    have ne : b ≠ p := fun z => by rw [z, h] at e; cases e
    rw [hide_out (by simp [ne, c]), upd_ne ne]
    exact e
/-- a new list to be told -/
theorem Ok.fresh (k : Ok K B δ τ σ H) {p : Addr} {xs : List V} {ys : List Dt} (h : H p = none) (r : RpAll K (hide B.U H) xs ys) :
    Ok K { B with U := p :: B.U } δ ((p, ys) :: τ) σ (upd H p (.lst xs)) := by
  have nU := k.new h
  have sm : Same (hide B.U H) (hide (p :: B.U) (upd H p (.lst xs))) := fun b u e => by
    by_cases c : b ∈ B.U
    · rw [hide_in c] at e; cases e
    · rw [hide_out c] at e
      have ne : b ≠ p := fun z => by rw [z, h] at e; cases e
      rw [hide_out (by simp [ne, c]), upd_ne ne]
      exact e
  refine ⟨fun b u n e => ?_, fun b m => List.mem_cons_of_mem _ (k.sub b m), fun b m => ?_, fun q hq => ?_, ?_, fun i w e => ?_, k.len⟩
  · exact same_new h _ _ (k.fr b u n e)
  · rcases List.mem_cons.mp m with e | m
    · rw [e, upd_same]; exact fun z => nomatch z
    · rw [upd_ne (show b ≠ p from fun z => nU (z ▸ m))]; exact k.ex b m
  · rcases List.mem_cons.mp hq with e | hq
    · subst e
      exact ⟨List.mem_cons_self, .inr (k.new0 h), xs, upd_same, r.mono sm⟩
    · obtain ⟨h1, h2, us, h3, h4⟩ := k.mu q hq
      exact ⟨List.mem_cons_of_mem _ h1, h2, us, same_new h _ _ h3, h4.mono sm⟩
  · rw [List.map_cons]
    refine List.nodup_cons.mpr ⟨fun m => ?_, k.nd⟩
    rcases List.mem_map.mp m with ⟨q, hq, e⟩
    have e' : q.1 = p := e
    exact nU (e' ▸ (k.mu q hq).1)
  · obtain ⟨v, h1, h2⟩ := k.sl i w e
    exact ⟨v, h1, h2.mono sm⟩
end
end K10

set_option maxRecDepth 100000
set_option maxHeartbeats 2100000
namespace K10
open L2 PyProof.Rows PySem.Spec PySem

abbrev RwAll (K : Fg) (H : Hp) : List V → List W → Prop := Paired (Rw K H)
theorem RwAll.mono {K : Fg} {H H' : Hp} (e : Same H H') : ∀ {vs : List V} {ws : List W}, RwAll K H vs ws → RwAll K H' vs ws
  | _, _, .nil => .nil
  | _, _, .cons h r => .cons (h.mono e) (RwAll.mono e r)
theorem RwAll.data {K : Fg} {H : Hp} : ∀ {vs : List V} {ds : List Dt}, RwAll K H vs (ds.map W.d) → RpAll K H vs ds
  | _, [], .nil => .nil
  | _, _ :: _, .cons h r => .cons h (RwAll.data r)
theorem RwAll.of {K : Fg} {H : Hp} : ∀ {vs : List V} {ds : List Dt}, RpAll K H vs ds → RwAll K H vs (ds.map W.d)
  | _, _, .nil => .nil
  | _, _, .cons h r => .cons h (RwAll.of r)

/-! ### canonical readings -/
def rdE (K : Fg) (B : Bs) (δ : Slots) (τ : Mem) (P : W → Mem → Prop) : TE := fun σ H Q => Ok K B δ τ σ H ∧
  ∀ v w τ' H', Ok K B δ τ' σ H' → Same (hide B.U H) (hide B.U H') → Rw K (hide B.U H') v w → P w τ' → Q v H'
def rdT (K : Fg) (B : Bs) (δ : Slots) (τ : Mem) (P : Bool → Mem → Prop) : TT := fun σ H Q => Ok K B δ τ σ H ∧
  ∀ b τ' H', Ok K B δ τ' σ H' → Same (hide B.U H) (hide B.U H') → P b τ' → Q b H'
def rdA (K : Fg) (B : Bs) (δ : Slots) (τ : Mem) (P : List W → Mem → Prop) : TA := fun σ H Q => Ok K B δ τ σ H ∧
  ∀ vs ws τ' H', Ok K B δ τ' σ H' → Same (hide B.U H) (hide B.U H') → RwAll K (hide B.U H') vs ws → P ws τ' → Q vs H'
structure XE (X : Cx) (B : Bs) (δ : Slots) (τ : Mem) (e : Expr) (P : W → Mem → Prop) : Prop where
  pe : PE X e (rdE X.K B δ τ P)
structure XT (X : Cx) (B : Bs) (δ : Slots) (τ : Mem) (e : Expr) (P : Bool → Mem → Prop) : Prop where
  pt : PT X e (rdT X.K B δ τ P)
structure XW (X : Cx) (B : Bs) (δ : Slots) (τ : Mem) (e : Expr) (P : Bool → Mem → Prop) : Prop where
  pw : PW X e (rdT X.K B δ τ P)
structure XA (X : Cx) (B : Bs) (δ : Slots) (τ : Mem) (es : List Expr) (P : List W → Mem → Prop) : Prop where
  pa : PA X es (rdA X.K B δ τ P)

section
variable {X : Cx} {B : Bs} {δ : Slots} {τ : Mem} {P : W → Mem → Prop} {PB : Bool → Mem → Prop} {e a b c : Expr} {es : List Expr} {pos : Pos}
theorem XE.of {te : TE} (h : PE X e te) (k : ∀ σ H Q, Ok X.K B δ τ σ H → (∀ v w τ' H', Ok X.K B δ τ' σ H' → Same (hide B.U H) (hide B.U H') → Rw X.K (hide B.U H') v w → P w τ' → Q v H') → te σ H Q) : XE X B δ τ e P :=
  ⟨⟨fun pins s σ H Q I r => h.run pins s σ H Q I (k σ H Q r.1 r.2)⟩⟩
theorem XT.of {te : TT} (h : PT X e te) (k : ∀ σ H Q, Ok X.K B δ τ σ H → (∀ b τ' H', Ok X.K B δ τ' σ H' → Same (hide B.U H) (hide B.U H') → PB b τ' → Q b H') → te σ H Q) : XT X B δ τ e PB :=
  ⟨⟨fun pins s σ H Q I r => h.run pins s σ H Q I (k σ H Q r.1 r.2)⟩⟩
theorem XW.of {te : TT} (h : PW X e te) (k : ∀ σ H Q, Ok X.K B δ τ σ H → (∀ b τ' H', Ok X.K B δ τ' σ H' → Same (hide B.U H) (hide B.U H') → PB b τ' → Q b H') → te σ H Q) : XW X B δ τ e PB :=
  ⟨⟨fun wh pins s σ H Q I r => h.run wh pins s σ H Q I (k σ H Q r.1 r.2)⟩⟩
theorem XA.of {PA' : List W → Mem → Prop} {te : TA} (h : PA X es te) (k : ∀ σ H Q, Ok X.K B δ τ σ H → (∀ vs ws τ' H', Ok X.K B δ τ' σ H' → Same (hide B.U H) (hide B.U H') → RwAll X.K (hide B.U H') vs ws → PA' ws τ' → Q vs H') → te σ H Q) : XA X B δ τ es PA' :=
  ⟨⟨fun pos pins s σ H Q I r => h.run pos pins s σ H Q I (k σ H Q r.1 r.2)⟩⟩
/-- an expression behind another -/
def sqE (X : Cx) (B : Bs) (δ : Slots) (b : Expr) : TE := fun σ H Q => ∃ τ1 R, XE X B δ τ1 b R ∧ rdE X.K B δ τ1 R σ H Q
theorem sqE.ok : PE X b (sqE X B δ b) := ⟨fun pins s σ H Q I h => by
  obtain ⟨τ1, R, hx, r⟩ := h
  exact hx.pe.run pins s σ H Q I r⟩
def sqT (X : Cx) (B : Bs) (δ : Slots) (b : Expr) : TT := fun σ H Q => ∃ τ1 R, XT X B δ τ1 b R ∧ rdT X.K B δ τ1 R σ H Q
theorem sqT.ok : PT X b (sqT X B δ b) := ⟨fun pins s σ H Q I h => by
  obtain ⟨τ1, R, hx, r⟩ := h
  exact hx.pt.run pins s σ H Q I r⟩
def sqW (X : Cx) (B : Bs) (δ : Slots) (b : Expr) : TT := fun σ H Q => ∃ τ1 R, XW X B δ τ1 b R ∧ rdT X.K B δ τ1 R σ H Q
theorem sqW.ok : PW X b (sqW X B δ b) := ⟨fun wh pins s σ H Q I h => by
  obtain ⟨τ1, R, hx, r⟩ := h
  exact hx.pw.run wh pins s σ H Q I r⟩
def sqA (X : Cx) (B : Bs) (δ : Slots) (es : List Expr) : TA := fun σ H Q => ∃ τ1 R, XA X B δ τ1 es R ∧ rdA X.K B δ τ1 R σ H Q
theorem sqA.ok : PA X es (sqA X B δ es) := ⟨fun pos pins s σ H Q I h => by
  obtain ⟨τ1, R, hx, r⟩ := h
  exact hx.pa.run pos pins s σ H Q I r⟩

theorem XE.mono {P' : W → Mem → Prop} (h : XE X B δ τ e P) (k : ∀ w τ', P w τ' → P' w τ') : XE X B δ τ e P' :=
  .of h.pe fun σ H Q o q => ⟨o, fun v w τ' H' o' s r p => q v w τ' H' o' s r (k _ _ p)⟩

/-! ### names, constants -/
theorem xe_var {x : Str} {i : Nat} {w : W} (hw : δ[i]? = some (some w)) (hP : P w τ) (hN : X.N[i]? = some x := by rfl) (hv : Vis X.env.scope x := by first | exact Or.inl rfl | exact Or.inr (Or.inl rfl) | exact Or.inr (Or.inr rfl))
    (hd : (x == ("__debug__" : Str)) = false := by decide) (hcd : (x == ("__classdict__" : Str)) = false := by decide) : XE X B δ τ (.Name x pos) P :=
  .of (pe_var hN hv hd hcd) fun σ H Q k q => by
    obtain ⟨v, h1, h2⟩ := k.sl i w hw
    exact ⟨v, h1, q v w τ H k (Same.refl _) h2 hP⟩
theorem xe_int {i : Int} {j pos} (h : P (.d (.int i)) τ) : XE X B δ τ (.Constant (.int i) j pos) P := .of pe_int fun σ H Q k q => q _ (.d (.int i)) τ H k (Same.refl _) (.int i) h
theorem xe_bl {i : Bool} {j pos} (h : P (.d (.bool i)) τ) : XE X B δ τ (.Constant (.bool i) j pos) P := .of pe_bl fun σ H Q k q => q _ (.d (.bool i)) τ H k (Same.refl _) (.bl i) h
theorem xe_non {j pos} (h : P (.d .none) τ) : XE X B δ τ (.Constant .none j pos) P := .of pe_non fun σ H Q k q => q _ (.d .none) τ H k (Same.refl _) .non h
theorem xe_str {x : Str} {j pos} (h : P (.d (.str x)) τ) : XE X B δ τ (.Constant (.str x) j pos) P := .of pe_str fun σ H Q k q => q _ (.d (.str x)) τ H k (Same.refl _) (.str x) h
/-- a module's constant that stands in the written part -/
structure Glo (mg : Str → Option Value) (K : Fg) (x : Str) (d : Dt) : Prop where
  ex : ∃ u v, mg x = some u ∧ RelV v u ∧ ∀ H : Hp, Rp K H v d
theorem xe_glo {x : Str} {d : Dt} (g : Glo X.mg X.K x d) (h : P (.d d) τ) (hg : Gl X x := by rfl) (hd : (x == ("__debug__" : Str)) = false := by decide) : XE X B δ τ (.Name x pos) P := by
  obtain ⟨u, v, h1, h2, h3⟩ := g.ex
  exact .of (pe_glob hg h1 h2 hd) fun σ H Q k q => q v (.d d) τ H k (Same.refl _) (h3 _) h

/-! ### arguments -/
theorem xa_nil {PA' : List W → Mem → Prop} (h : PA' [] τ) : XA X B δ τ [] PA' := .of pa_nil fun σ H Q k q => q [] [] τ H k (Same.refl _) .nil h
theorem xa_cons {PA' : List W → Mem → Prop} (h : XE X B δ τ e fun w τ1 => XA X B δ τ1 es fun ws τ2 => PA' (w :: ws) τ2) (hs : starEach (e :: es) X.env = (false, eval e X.env) :: starEach es X.env := by rfl) : XA X B δ τ (e :: es) PA' :=
  .of (pa_cons h.pe sqA.ok hs) fun σ H Q k q => ⟨k, fun v w τ1 H1 k1 s1 r1 hx => ⟨τ1, _, hx, k1, fun vs ws τ2 H2 k2 s2 r2 p => q _ (w :: ws) τ2 H2 k2 (s1.trans s2) (.cons (r1.mono s2) r2) p⟩⟩

/-! ### operations by values -/
def R1D (K : Fg) (U : List Addr) (r : V → Hp → VK → Prop) (x : W) (P : W → Prop) : Prop := ∀ v H, (∀ c ∈ U, H c ≠ none) → Rw K (hide U H) v x → ∀ Q : VK, (∀ z w H', Same H H' → Rw K (hide U H') z w → P w → Q z H') → r v H Q
def R2D (K : Fg) (U : List Addr) (r : R2) (x y : W) (P : W → Prop) : Prop := ∀ v u H, (∀ c ∈ U, H c ≠ none) → Rw K (hide U H) v x → Rw K (hide U H) u y → ∀ Q : VK, (∀ z w H', Same H H' → Rw K (hide U H') z w → P w → Q z H') → r v u H Q
def RND (K : Fg) (U : List Addr) (r : List V → Hp → VK → Prop) (x : List W) (P : W → Prop) : Prop := ∀ v H, (∀ c ∈ U, H c ≠ none) → RwAll K (hide U H) v x → ∀ Q : VK, (∀ z w H', Same H H' → Rw K (hide U H') z w → P w → Q z H') → r v H Q

theorem xe_bin {op : Operator} {r : R2} (ho : OpR X (binaryOp op) r) (h : XE X B δ τ a fun x τ1 => XE X B δ τ1 b fun y τ2 => R2D X.K B.U r x y fun w => P w τ2) : XE X B δ τ (.BinOp a op b pos) P :=
  .of (pe_op ho h.pe sqE.ok) fun σ H Q k q => ⟨k, fun v x τ1 H1 k1 s1 r1 hx => ⟨τ1, _, hx, k1, fun u y τ2 H2 k2 s2 r2 hy => hy v u H2 k2.ex (r1.mono s2) r2 Q fun z w H' s3 r3 p => q z w τ2 H' (k2.pure s3) ((s1.trans s2).trans (hide_same s3)) r3 p⟩⟩
theorem xe_un {op : UnaryOp} {r : V → Hp → VK → Prop} (ho : UnR X (unaryOp op) r) (h : XE X B δ τ a fun x τ1 => R1D X.K B.U r x fun w => P w τ1) : XE X B δ τ (.UnaryOp op a pos) P :=
  .of (pe_un ho h.pe) fun σ H Q k q => ⟨k, fun v x τ1 H1 k1 s1 r1 hx => hx v H1 k1.ex r1 Q fun z w H' s3 r3 p => q z w τ1 H' (k1.pure s3) (s1.trans (hide_same s3)) r3 p⟩
theorem xe_cmp {op : CmpOp} {r : R2} (ho : OpR X (compareOp op) r) (h : XE X B δ τ a fun x τ1 => XE X B δ τ1 b fun y τ2 => R2D X.K B.U r x y fun w => P w τ2) (hm : behindInMarks op b = false := by exact nomark _) : XE X B δ τ (.Compare a [op] [b] pos) P :=
  .of (pe_cmpR ho h.pe sqE.ok hm) fun σ H Q k q => ⟨k, fun v x τ1 H1 k1 s1 r1 hx => ⟨τ1, _, hx, k1, fun u y τ2 H2 k2 s2 r2 hy => hy v u H2 k2.ex (r1.mono s2) r2 Q fun z w H' s3 r3 p => q z w τ2 H' (k2.pure s3) ((s1.trans s2).trans (hide_same s3)) r3 p⟩⟩
theorem xt_cmp {op : CmpOp} {r : R2} (ho : OpR X (compareOp op) r) (h : XE X B δ τ a fun x τ1 => XE X B δ τ1 b fun y τ2 => R2D X.K B.U r x y fun w => ∃ k, w = .d (.bool k) ∧ PB k τ2) (hm : behindInMarks op b = false := by exact nomark _) : XT X B δ τ (.Compare a [op] [b] pos) PB :=
  .of (pt_cmpR ho h.pe sqE.ok hm) fun σ H Q k q => ⟨k, fun v x τ1 H1 k1 s1 r1 hx => ⟨τ1, _, hx, k1, fun u y τ2 H2 k2 s2 r2 hy => hy v u H2 k2.ex (r1.mono s2) r2 _ fun z w H' s3 r3 p => by
    obtain ⟨kb, rfl, p⟩ := p
    exact ⟨kb, r3.bl_inv, q kb τ2 H' (k2.pure s3) ((s1.trans s2).trans (hide_same s3)) p⟩⟩⟩
theorem xe_ix {r : R2} (hr : IxR X r) (h : XE X B δ τ a fun x τ1 => XE X B δ τ1 b fun y τ2 => R2D X.K B.U r x y fun w => P w τ2) (hs : PlainIx b := by exact fun _ _ => rfl) : XE X B δ τ (.Subscript a b pos) P :=
  .of (pe_ix hr h.pe sqE.ok hs) fun σ H Q k q => ⟨k, fun v x τ1 H1 k1 s1 r1 hx => ⟨τ1, _, hx, k1, fun u y τ2 H2 k2 s2 r2 hy => hy v u H2 k2.ex (r1.mono s2) r2 Q fun z w H' s3 r3 p => q z w τ2 H' (k2.pure s3) ((s1.trans s2).trans (hide_same s3)) r3 p⟩⟩
theorem xe_callB {id : String} {r : List V → Hp → VK → Prop} {x : Str} {p : Pos} (hc : CallR X (.builtin id) r) (hm : X.mg x = none) (hv : bootBuiltins x = some (.builtin id))
    (h : XA X B δ τ (e :: es) fun ws τ1 => RND X.K B.U r ws fun w => P w τ1) (hg : Gl X x := by rfl) (hn : x ≠ "__name__" := by decide) (hdb : (x == ("__debug__" : Str)) = false := by decide)
    (he : starEach (e :: es) X.env = (false, eval e X.env) :: starEach es X.env := by rfl) (hpl : (backTo pos (starEach es X.env)).any (·.1) = false := by rfl) : XE X B δ τ (.Call (.Name x p) (e :: es) [] pos) P :=
  .of (pe_callB hc hg hm hv h.pa hn hdb he hpl) fun σ H Q k q => ⟨k, fun vs ws τ1 H1 k1 s1 r1 hx => hx vs H1 k1.ex r1 Q fun z w H' s3 r3 p => q z w τ1 H' (k1.pure s3) (s1.trans (hide_same s3)) r3 p⟩
theorem xe_callTy {T : String} {r : List V → Hp → VK → Prop} {x : Str} {p : Pos} (hc : CallR X (.type T) r) (hm : X.mg x = none) (hv : bootBuiltins x = some (.type T))
    (h : XA X B δ τ (e :: es) fun ws τ1 => RND X.K B.U r ws fun w => P w τ1) (hg : Gl X x := by rfl) (hn : x ≠ "__name__" := by decide) (hdb : (x == ("__debug__" : Str)) = false := by decide)
    (he : starEach (e :: es) X.env = (false, eval e X.env) :: starEach es X.env := by rfl) (hpl : (backTo pos (starEach es X.env)).any (·.1) = false := by rfl) : XE X B δ τ (.Call (.Name x p) (e :: es) [] pos) P :=
  .of (pe_callTy hc hg hm hv h.pa hn hdb he hpl) fun σ H Q k q => ⟨k, fun vs ws τ1 H1 k1 s1 r1 hx => hx vs H1 k1.ex r1 Q fun z w H' s3 r3 p => q z w τ1 H' (k1.pure s3) (s1.trans (hide_same s3)) r3 p⟩
theorem xe_callF {id : String} {r : List V → Hp → VK → Prop} {x : Str} {p : Pos} (hc : CallR X (.builtin id) r) (hm : X.mg x = some (.builtin id))
    (h : XA X B δ τ (e :: es) fun ws τ1 => RND X.K B.U r ws fun w => P w τ1) (hg : Gl X x := by rfl) (hdb : (x == ("__debug__" : Str)) = false := by decide)
    (he : starEach (e :: es) X.env = (false, eval e X.env) :: starEach es X.env := by rfl) (hpl : (backTo pos (starEach es X.env)).any (·.1) = false := by rfl) : XE X B δ τ (.Call (.Name x p) (e :: es) [] pos) P :=
  .of (pe_callBfun hc hg hm h.pa hdb he hpl) fun σ H Q k q => ⟨k, fun vs ws τ1 H1 k1 s1 r1 hx => hx vs H1 k1.ex r1 Q fun z w H' s3 r3 p => q z w τ1 H' (k1.pure s3) (s1.trans (hide_same s3)) r3 p⟩

/-! ### tests -/
theorem xt_val (h : XE X B δ τ e fun w τ1 => ∃ k, w = .d (.bool k) ∧ PB k τ1) (he : ∀ whole, isTrue e X.env whole = (do let v ← whole; standAt e.pos; holding [v] (truthy v)) := by intro _; rfl) : XT X B δ τ e PB :=
  .of (pt_val h.pe he) fun σ H Q k q => ⟨k, fun v w τ1 H1 k1 s1 r1 p => by
    obtain ⟨kb, rfl, p⟩ := p
    exact ⟨kb, r1.bl_inv, q kb τ1 H1 k1 s1 p⟩⟩
theorem xt_not (h : XT X B δ τ a fun c τ1 => PB (!c) τ1) : XT X B δ τ (.UnaryOp .Not a pos) PB :=
  .of (pt_not h.pt) fun σ H Q k q => ⟨k, fun c τ1 H1 k1 s1 p => q _ τ1 H1 k1 s1 p⟩
theorem xt_w (h : XW X B δ τ e PB) : XT X B δ τ e PB := ⟨h.pw.pt⟩
theorem xw_and1 (h : XT X B δ τ a PB) : XW X B δ τ (.BoolOp .And [a] pos) PB := ⟨pw_and1 h.pt⟩
theorem xw_or1 (h : XT X B δ τ a PB) : XW X B δ τ (.BoolOp .Or [a] pos) PB := ⟨pw_or1 h.pt⟩
theorem xw_and (h : XT X B δ τ a fun c τ1 => if c = true then XW X B δ τ1 (.BoolOp .And (b :: es) pos) PB else PB false τ1) : XW X B δ τ (.BoolOp .And (a :: b :: es) pos) PB :=
  .of (pw_and h.pt sqW.ok) fun σ H Q k q => ⟨k, fun c τ1 H1 k1 s1 p => by
    cases c with
    | true => exact ⟨τ1, _, p, k1, fun d τ2 H2 k2 s2 p2 => q d τ2 H2 k2 (s1.trans s2) p2⟩
    | false => exact q false τ1 H1 k1 s1 p⟩
theorem xw_or (h : XT X B δ τ a fun c τ1 => if c = true then PB true τ1 else XW X B δ τ1 (.BoolOp .Or (b :: es) pos) PB) : XW X B δ τ (.BoolOp .Or (a :: b :: es) pos) PB :=
  .of (pw_or h.pt sqW.ok) fun σ H Q k q => ⟨k, fun c τ1 H1 k1 s1 p => by
    cases c with
    | false => exact ⟨τ1, _, p, k1, fun d τ2 H2 k2 s2 p2 => q d τ2 H2 k2 (s1.trans s2) p2⟩
    | true => exact q true τ1 H1 k1 s1 p⟩
theorem xe_notV (h : XE X B δ τ a fun w τ1 => ∃ k, w = .d (.bool k) ∧ P (.d (.bool (!k))) τ1) : XE X B δ τ (.UnaryOp .Not a pos) P :=
  .of (pe_not h.pe) fun σ H Q k q => ⟨k, fun v w τ1 H1 k1 s1 r1 p => by
    obtain ⟨kb, rfl, p⟩ := p
    exact ⟨kb, r1.bl_inv, q _ (.d (.bool (!kb))) τ1 H1 k1 s1 (.bl _) p⟩⟩
theorem xe_one {op : BoolOp} (h : XE X B δ τ a P) : XE X B δ τ (.BoolOp op [a] pos) P := ⟨pe_one h.pe⟩
theorem xe_andV (h : XE X B δ τ a fun w τ1 => ∃ k, w = .d (.bool k) ∧ if k = true then XE X B δ τ1 (.BoolOp .And (b :: es) pos) P else P (.d (.bool false)) τ1) : XE X B δ τ (.BoolOp .And (a :: b :: es) pos) P :=
  .of (pe_and h.pe sqE.ok) fun σ H Q k q => ⟨k, fun v w τ1 H1 k1 s1 r1 p => by
    obtain ⟨kb, rfl, p⟩ := p
    refine ⟨kb, r1.bl_inv, ?_⟩
    cases kb with
    | true => exact ⟨τ1, _, p, k1, fun v2 w2 τ2 H2 k2 s2 r2 p2 => q v2 w2 τ2 H2 k2 (s1.trans s2) r2 p2⟩
    | false => exact q _ (.d (.bool false)) τ1 H1 k1 s1 (.bl _) p⟩
theorem xe_ifx (h : XT X B δ τ c fun k τ1 => if k = true then XE X B δ τ1 a P else XE X B δ τ1 b P) : XE X B δ τ (.IfExp c a b pos) P :=
  .of (pe_ifExp h.pt sqE.ok sqE.ok) fun σ H Q k q => ⟨k, fun kb τ1 H1 k1 s1 p => by
    cases kb with
    | true => exact ⟨τ1, _, p, k1, fun v2 w2 τ2 H2 k2 s2 r2 p2 => q v2 w2 τ2 H2 k2 (s1.trans s2) r2 p2⟩
    | false => exact ⟨τ1, _, p, k1, fun v2 w2 τ2 H2 k2 s2 r2 p2 => q v2 w2 τ2 H2 k2 (s1.trans s2) r2 p2⟩⟩

/-! ### displays -/
theorem xe_tup {x1} (h : XA X B δ τ es fun ws τ1 => ∃ ds, ws = ds.map W.d ∧ ds.length ≤ 100000 ∧ P (.d (.tuple ds)) τ1) : XE X B δ τ (.Tuple es x1 pos) P :=
  .of (pe_tup h.pa) fun σ H Q k q => ⟨k, fun vs ws τ1 H1 k1 s1 r1 p => by
    obtain ⟨ds, rfl, hl, p⟩ := p
    have rr := r1.data
    refine ⟨by rw [rr.length]; exact Nat.le_trans hl (by decide), fun p' hp => ?_⟩
    have s2 : Same H1 (upd H1 p' (.tup vs)) := same_new hp
    refine q _ (.d (.tuple ds)) τ1 _ (k1.pure s2) (s1.trans (hide_same s2)) (.tup (xs := vs) ?_ (rr.mono (hide_same s2))) p
    exact .inl (.inl (by rw [hide_out (k1.new hp)]; exact upd_same))⟩
theorem xe_lst (h : XA X B δ τ es fun ws τ1 => ∃ ds, ws = ds.map W.d ∧ ds.length ≤ 100000 ∧ P (.d (.list ds)) τ1) : XE X B δ τ (.List es pos) P :=
  .of (pe_lst h.pa) fun σ H Q k q => ⟨k, fun vs ws τ1 H1 k1 s1 r1 p => by
    obtain ⟨ds, rfl, hl, p⟩ := p
    have rr := r1.data
    refine ⟨by rw [rr.length]; exact Nat.le_trans hl (by decide), fun p' hp => ?_⟩
    have s2 : Same H1 (upd H1 p' (.lst vs)) := same_new hp
    refine q _ (.d (.list ds)) τ1 _ (k1.pure s2) (s1.trans (hide_same s2)) (.lst (xs := vs) ?_ (rr.mono (hide_same s2))) p
    rw [hide_out (k1.new hp)]; exact upd_same⟩
end
end K10

set_option maxRecDepth 100000
set_option maxHeartbeats 2100000
namespace K10
open L2 PyProof.Rows PySem.Spec PySem

/-! ### statements -/
structure DE where
  nx : Bs → Slots → Mem → Prop
  rt : W → Mem → Prop
  bk : Bs → Slots → Mem → Prop := fun _ _ _ => False
  ct : Bs → Slots → Mem → Prop := fun _ _ _ => False
structure Bs.le (B B' : Bs) : Prop where
  h0 : B'.H0 = B.H0
  t : B'.T = B.T
  u : ∀ a ∈ B.U, a ∈ B'.U
theorem Bs.le.refl (B : Bs) : B.le B := ⟨rfl, rfl, fun _ h => h⟩
theorem Bs.le.trans {A B C : Bs} (h : A.le B) (k : B.le C) : A.le C := ⟨k.h0.trans h.h0, k.t.trans h.t, fun a m => k.u a (h.u a m)⟩
structure RdS (K : Fg) (B : Bs) (δ : Slots) (τ : Mem) (D : DE) (E : Ends) (σ : L2.St) (H : Hp) : Prop where
  ok : Ok K B δ τ σ H
  nx : ∀ B' δ' τ' σ' H', B.le B' → Ok K B' δ' τ' σ' H' → Same (hide B.U H) (hide B'.U H') → D.nx B' δ' τ' → E.nx σ' H'
  rt : ∀ v w B' δ' τ' σ' H', B.le B' → Ok K B' δ' τ' σ' H' → Rw K (hide B'.U H') v w → D.rt w τ' → E.rt v H'
  bk : ∀ B' δ' τ' σ' H', B.le B' → Ok K B' δ' τ' σ' H' → Same (hide B.U H) (hide B'.U H') → D.bk B' δ' τ' → E.bk σ' H'
  ct : ∀ B' δ' τ' σ' H', B.le B' → Ok K B' δ' τ' σ' H' → Same (hide B.U H) (hide B'.U H') → D.ct B' δ' τ' → E.ct σ' H'
def rdS (K : Fg) (B : Bs) (δ : Slots) (τ : Mem) (D : DE) : TS := fun E σ H => RdS K B δ τ D E σ H
structure XS (X : Cx) (B : Bs) (δ : Slots) (τ : Mem) (st : Stmt) (D : DE) : Prop where
  ps : PS X st (rdS X.K B δ τ D)
structure XSs (X : Cx) (B : Bs) (δ : Slots) (τ : Mem) (st : List Stmt) (D : DE) : Prop where
  ps : PSs X st (rdS X.K B δ τ D)
section
variable {X : Cx} {B : Bs} {δ : Slots} {τ : Mem} {D : DE} {e a b c : Expr} {es : List Expr} {pos : Pos} {st : Stmt} {rest : List Stmt}
theorem XS.of {t : TS} (h : PS X st t) (k : ∀ E σ H, RdS X.K B δ τ D E σ H → t E σ H) : XS X B δ τ st D := ⟨⟨fun pins s σ H E I r => h.run pins s σ H E I (k E σ H r)⟩⟩
theorem XSs.of {t : TS} (h : PSs X rest t) (k : ∀ E σ H, RdS X.K B δ τ D E σ H → t E σ H) : XSs X B δ τ rest D := ⟨⟨fun pins s σ H E I r => h.run pins s σ H E I (k E σ H r)⟩⟩
theorem RdS.to {K : Fg} {B' : Bs} {δ' : Slots} {τ' : Mem} {E : Ends} {σ σ' : L2.St} {H H' : Hp} (r : RdS K B δ τ D E σ H) (l : B.le B') (o : Ok K B' δ' τ' σ' H') (s : Same (hide B.U H) (hide B'.U H')) : RdS K B' δ' τ' D E σ' H' :=
  ⟨o, fun _ _ _ _ _ l' o' s' => r.nx _ _ _ _ _ (l.trans l') o' (s.trans s'), fun _ _ _ _ _ _ _ l' => r.rt _ _ _ _ _ _ _ (l.trans l'), fun _ _ _ _ _ l' o' s' => r.bk _ _ _ _ _ (l.trans l') o' (s.trans s'), fun _ _ _ _ _ l' o' s' => r.ct _ _ _ _ _ (l.trans l') o' (s.trans s')⟩
def sqS (X : Cx) (rest : List Stmt) : TS := fun E σ H => ∃ B δ τ D, XSs X B δ τ rest D ∧ RdS X.K B δ τ D E σ H
theorem sqS.ok : PSs X rest (sqS X rest) := ⟨fun pins s σ H E I h => by
  obtain ⟨B, δ, τ, D, hx, r⟩ := h
  exact hx.ps.run pins s σ H E I r⟩
theorem xss_nil (h : D.nx B δ τ) : XSs X B δ τ [] D := .of pss_nil fun E σ H r => r.nx _ _ _ _ _ (.refl _) r.ok (Same.refl _) h
theorem xss_cons (h : XS X B δ τ st { D with nx := fun B' δ' τ' => XSs X B' δ' τ' rest D }) : XSs X B δ τ (st :: rest) D :=
  .of (pss_cons h.ps sqS.ok) fun E σ H r => ⟨r.ok, fun B' δ' τ' σ' H' l o s hx => ⟨B', δ', τ', D, hx, r.to l o s⟩, r.rt, r.bk, r.ct⟩
theorem xss_one (h : XS X B δ τ st D) : XSs X B δ τ [st] D := .of (pss_one h.ps) fun E σ H r => r

theorem xs_ret (h : XE X B δ τ e D.rt) : XS X B δ τ (.Return (some e) pos) D :=
  .of (ps_ret h.pe) fun E σ H r => ⟨r.ok, fun v w τ' H' o s rw' p => r.rt v w B δ τ' σ H' (.refl _) o rw' p⟩
theorem xs_if {p q : List Stmt} (h : XT X B δ τ c fun k τ1 => if k = true then XSs X B δ τ1 p D else XSs X B δ τ1 q D) : XS X B δ τ (.If c p q pos) D :=
  .of (ps_if h.pt sqS.ok sqS.ok) fun E σ H r => ⟨r.ok, fun k τ1 H1 o s p => by
    cases k with
    | true => exact ⟨B, δ, τ1, D, p, r.to (.refl _) o s⟩
    | false => exact ⟨B, δ, τ1, D, p, r.to (.refl _) o s⟩⟩
theorem xs_set {i : Nat} {x : Str} {pos' : Pos} (hN : X.N.Nodup) (hi : X.N[i]? = some x) (hx : Loc X.env.scope x) (h : XE X B δ τ e fun w τ' => D.nx B (δ.set i (some w)) τ') (hs : swapsWith e (some (.Name x pos')) pos.line X.env = pure false := by rfl)
    (hf : X.fn x = true ∨ X.env.scope.names.lookup x = some .local := by first | exact .inl rfl | exact .inr rfl | assumption) : XS X B δ τ (.Assign [.Name x pos'] e pos) D :=
  .of (ps_set hN hi hx h.pe hs hf) fun E σ H r => ⟨r.ok, fun v w τ' H' o s rw' p => r.nx B _ τ' _ H' (.refl _) (o.sets rw' _) s p⟩
/-- x = []: a list that is to change -/
theorem xs_newl {i : Nat} {x : Str} {pos' pl : Pos} (hN : X.N.Nodup) (hi : X.N[i]? = some x) (hx : Loc X.env.scope x) (h : ∀ p, p ∉ B.U → D.nx { B with U := p :: B.U } (δ.set i (some (.m p))) ((p, []) :: τ)) (hs : swapsWith (.List [] pl) (some (.Name x pos')) pos.line X.env = pure false := by rfl)
    (hf : X.fn x = true ∨ X.env.scope.names.lookup x = some .local := by first | exact .inl rfl | exact .inr rfl | assumption) : XS X B δ τ (.Assign [.Name x pos'] (.List [] pl) pos) D :=
  .of (ps_set hN hi hx (pe_lst pa_nil) hs hf) fun E σ H r => ⟨Nat.zero_le _, fun p hp => by
    exact r.nx { B with U := p :: B.U } _ _ _ _ ⟨rfl, rfl, fun a m => List.mem_cons_of_mem p m⟩ ((r.ok.fresh (xs := []) (ys := []) hp .nil).sets (v := .ref p) (w := .m p) rfl _) (fresh_same hp) (h p (r.ok.new hp))⟩
/-- xs.append(e), xs a list that changes -/
theorem xs_append {i : Nat} {x : Str} {px apos cpos : Pos} {l : Addr} (hl : δ[i]? = some (some (.m l))) (h : XE X B δ τ e fun w τ1 => ∃ d ys, w = .d d ∧ memAt τ1 l = some ys ∧ ys.length ≤ 10000 ∧ D.nx B δ (memPut τ1 l (ys ++ [d])))
    (hN : X.N[i]? = some x := by rfl) (hv : Vis X.env.scope x := by first | exact Or.inl rfl | exact Or.inr (Or.inl rfl) | exact Or.inr (Or.inr rfl)) (hd : (x == ("__debug__" : Str)) = false := by decide) (hcd : (x == ("__classdict__" : Str)) = false := by decide)
    (hbase : attributeBase (.Name x px) "append" X.env (eval (.Name x px) X.env) = eval (.Name x px) X.env := by rfl) (hfew : ((backTo cpos (starEach [e] X.env)).all (fun x => !x.1) && (backToKw cpos (keywordEach [] X.env)).all (fun x => x.1.isSome) && decide (([e] : List Expr).length + ([] : List Keyword).length + (if ([] : List Keyword).isEmpty then 0 else 1) < 30)) = true := by rfl)
    (hline : (apos.endLine == cpos.line) = true := by rfl) (hs : starEach [e] X.env = (false, eval e X.env) :: starEach [] X.env := by rfl) (hplain : (backTo cpos (starEach [] X.env)).any (·.1) = false := by rfl)
    (hsw : swapsWith (.Call (.Attribute (.Name x px) "append" apos) [e] [] cpos) none pos.line X.env = pure false := by rfl) (hm0 : memAt τ l ≠ none := by simp [memAt]) :
    XS X B δ τ (.Expr (.Call (.Attribute (.Name x px) "append" apos) [e] [] cpos) pos) D :=
  .of (ps_expr (pe_bm PySem.F.plainAttrs_list PySem.F.slot_list_append PySem.F.type_list_append mt_append (pe_var hN hv hd hcd) (pa_cons h.pe pa_nil hs) hbase hfew hline hs hplain) hsw) fun E σ H r => by
    obtain ⟨v, h1, h2⟩ := r.ok.sl i _ hl
    have h2' : v = .ref l := h2
    subst h2'
    obtain ⟨y0, e0⟩ := Option.ne_none_iff_exists'.mp hm0
    obtain ⟨_, _, x0, q0, _⟩ := r.ok.mu _ (memAt_mem e0)
    refine ⟨_, h1, Or.inl ⟨rfl, _, Or.inl (Or.inl q0)⟩, r.ok, fun v w τ1 H1 o s rw' p => ?_⟩
    obtain ⟨d, ys, rfl, hm, hlen, p⟩ := p
    obtain ⟨_, _, xs, q1, q2⟩ := o.mu _ (memAt_mem hm)
    refine ⟨l, xs, v, rfl, rfl, q1, ?_, ?_⟩
    · rw [q2.length]; exact Nat.lt_of_le_of_lt hlen (by decide)
    · obtain ⟨o2, s2⟩ := o.put (H' := upd H1 l (.lst (xs ++ [v]))) hm (q2.append (.cons (show Rp X.K (hide B.U H1) v d from rw') .nil)) upd_same (fun b u ne e => by rw [upd_ne ne]; exact e)
      exact r.nx B δ _ _ _ (.refl _) o2 (s.trans s2) p

/-! ### targets -/
abbrev GD := Dt → Slots → (Slots → Prop) → Prop
abbrev GDs := List Dt → Slots → (Slots → Prop) → Prop
def rdG (K : Fg) (B : Bs) (is : List Nat) (γ : GD) : TG := fun v σ H Q => ∃ d δ τ R, Ok K B δ τ σ H ∧ Rp K (hide B.U H) v d ∧ γ d δ R ∧
  ∀ δ' σ', Ok K B δ' τ σ' H → (∀ j, j ∉ is → σ'[j]? = σ[j]?) → σ'.length = σ.length → R δ' → Q σ' H
def rdGs (K : Fg) (B : Bs) (is : List Nat) (γ : GDs) : TGs := fun v σ H Q => ∃ d δ τ R, Ok K B δ τ σ H ∧ RpAll K (hide B.U H) v d ∧ γ d δ R ∧
  ∀ δ' σ', Ok K B δ' τ σ' H → (∀ j, j ∉ is → σ'[j]? = σ[j]?) → σ'.length = σ.length → R δ' → Q σ' H
structure XG (X : Cx) (tg : Expr) (is : List Nat) (γ : GD) : Prop where
  pg : ∀ B, PG X tg (rdG X.K B is γ)
structure XGs (X : Cx) (tg : List Expr) (is : List Nat) (γ : GDs) : Prop where
  pg : ∀ B, PGs X tg (rdGs X.K B is γ)
theorem xg_name {i : Nat} {x : Str} (hN : X.N.Nodup) (hi : X.N[i]? = some x) (hx : Loc X.env.scope x) (hf : X.fn x = true ∨ X.env.scope.names.lookup x = some .local := by first | exact .inl rfl | exact .inr rfl | assumption) :
    XG X (.Name x pos) [i] (fun d δ R => R (δ.set i (some (.d d)))) := ⟨fun B => ⟨fun pins s σ H v u Q I rv h => by
  refine (pg_name hN hi hx hf).run pins s σ H v u Q I rv ?_
  obtain ⟨d, δ, τ, R, o, r, g, k⟩ := h
  refine k _ _ (o.sets (w := .d d) r i) (fun j hj => ?_) (List.length_set ..) g
  exact List.getElem?_set_ne (fun e => hj (by simp [e]))⟩⟩
theorem xgs_nil : XGs X [] [] (fun ds δ R => ds = [] ∧ R δ) := ⟨fun B => ⟨fun pins s σ H v u Q I rv h => by
  refine pgs_nil.run pins s σ H v u Q I rv ?_
  obtain ⟨d, δ, τ, R, o, r, ⟨rfl, g⟩, k⟩ := h
  cases r
  exact ⟨rfl, k δ σ o (fun _ _ => rfl) rfl g⟩⟩⟩
theorem xgs_cons {t : Expr} {ts : List Expr} {is is' : List Nat} {γ : GD} {γs : GDs} (h : XG X t is γ) (hr : XGs X ts is' γs) (ha : (assignEach (t :: ts) X.env).map (·.2) = assign t X.env :: (assignEach ts X.env).map (·.2) := by rfl) :
    XGs X (t :: ts) (is ++ is') (fun ds δ R => ∃ d r, ds = d :: r ∧ γ d δ fun δ1 => γs r δ1 R) := ⟨fun B => ⟨fun pins s σ H v u Q I rv h' => by
  refine (pgs_cons (h.pg B) (hr.pg B) ha).run pins s σ H v u Q I rv ?_
  obtain ⟨d, δ, τ, R, o, r, ⟨d0, r0, rfl, g⟩, k⟩ := h'
  cases r with
  | @cons x xs _ _ rx rxs =>
    refine ⟨x, xs, rfl, d0, δ, τ, _, o, rx, g, fun δ1 σ1 o1 c1 l1 g1 => ⟨r0, δ1, τ, R, o1, rxs, g1, fun δ2 σ2 o2 c2 l2 g2 => ?_⟩⟩
    exact k δ2 σ2 o2 (fun j hj => (c2 j (fun m => hj (List.mem_append_right _ m))).trans (c1 j (fun m => hj (List.mem_append_left _ m)))) (l2.trans l1) g2⟩⟩
theorem xg_tup {ts : List Expr} {k : Nat} {is : List Nat} {γs : GDs} {n : Nat} (hc : X.calm = true) (h : XGs X ts is γs) (hn : (assignEach ts X.env).length = n := by rfl) (hst : (assignEach ts X.env).findIdx? (·.1) = none := by rfl) :
    XG X (.Tuple ts k pos) is (fun d δ R => ∃ ds, d = .tuple ds ∧ ds.length = n ∧ γs ds δ R) := ⟨fun B => ⟨fun pins s σ H v u Q I rv h' => by
  refine (pg_tup hc (h.pg B) hn hst).run pins s σ H v u Q I rv ?_
  obtain ⟨d, δ, τ, R, o, r, ⟨ds, rfl, hl, g⟩, k⟩ := h'
  obtain ⟨p, xs, rfl, q1, q2⟩ := r.tup_inv
  exact ⟨p, xs, rfl, sqt_same hide_le q1, q2.length.trans hl, ds, δ, τ, R, o, q2, g, k⟩⟩⟩
theorem xg_lst {ts : List Expr} {k : Nat} {is : List Nat} {γs : GDs} {n : Nat} (hc : X.calm = true) (h : XGs X ts is γs) (hn : (assignEach ts X.env).length = n := by rfl) (hst : (assignEach ts X.env).findIdx? (·.1) = none := by rfl) :
    XG X (.Tuple ts k pos) is (fun d δ R => ∃ ds, d = .list ds ∧ ds.length = n ∧ γs ds δ R) := ⟨fun B => ⟨fun pins s σ H v u Q I rv h' => by
  refine (pg_unl hc (h.pg B) hn hst).run pins s σ H v u Q I rv ?_
  obtain ⟨d, δ, τ, R, o, r, ⟨ds, rfl, hl, g⟩, k⟩ := h'
  obtain ⟨p, xs, rfl, q1, q2⟩ := r.lst_inv
  exact ⟨p, xs, rfl, SqL.of (hide_le _ _ q1), q2.length.trans hl, ds, δ, τ, R, o, q2, g, k⟩⟩⟩
theorem xs_asg {tg : Expr} {is : List Nat} {γ : GD} (hg : XG X tg is γ) (h : XE X B δ τ e fun w τ' => ∃ d, w = .d d ∧ γ d δ fun δ' => D.nx B δ' τ') (hs : swapsWithSole [tg] e pos.line X.env = pure false := by rfl) (hw : swappedStores [tg] e X.env = pure none := by rfl)
    (h1 : (assignEach [tg] X.env).map (·.2) = [assign tg X.env] := by rfl) : XS X B δ τ (.Assign [tg] e pos) D :=
  .of (ps_asg h.pe (hg.pg B) hs hw h1) fun E σ H r => ⟨r.ok, fun v w τ' H' o s rw' p => by
    obtain ⟨d, rfl, g⟩ := p
    exact ⟨d, δ, τ', _, o, rw', g, fun δ' σ' o' _ _ q => r.nx B δ' τ' σ' H' (.refl _) o' s q⟩⟩
/-- a, b = x, y -/
theorem xs_par {i j : Nat} {x y : Str} {px py pt : Pos} {kt k2 pt2} (hc : X.calm = true) (hN : X.N.Nodup) (hi : X.N[i]? = some x) (hj : X.N[j]? = some y) (hij : i ≠ j)
    (hx : X.env.scope.names.lookup x = some .local) (hy : X.env.scope.names.lookup y = some .local) (hw : swappedStores [.Tuple [.Name x px, .Name y py] kt pt] (.Tuple [a, b] k2 pt2) X.env = pure (some [x, y]))
    (h : XA X B δ τ [a, b] fun ws τ' => ∃ u v, ws = [u, v] ∧ D.nx B ((δ.set i (some u)).set j (some v)) τ') (hs : swapsWithSole [.Tuple [.Name x px, .Name y py] kt pt] (.Tuple [a, b] k2 pt2) pos.line X.env = pure false := by rfl) :
    XS X B δ τ (.Assign [.Tuple [.Name x px, .Name y py] kt pt] (.Tuple [a, b] k2 pt2) pos) D :=
  .of (ps_par hc hN hi hj hij hx hy h.pa hw hs) fun E σ H r => ⟨r.ok, fun vs ws τ' H' o s rw' p => by
    obtain ⟨u, v, rfl, p⟩ := p
    cases rw' with
    | cons r1 rr =>
      cases rr with
      | cons r2 rr =>
        cases rr
        exact ⟨_, _, rfl, r.nx B _ τ' _ H' (.refl _) ((o.sets r1 i).sets r2 j) s p⟩⟩
end

/-! ### iteration over data -/
structure WalkD (K : Fg) (U : List Addr) (J : It) (ds : List Dt) (H1 : Hp) : Prop where
  goes : ∀ i H, i < ds.length → Same (hide U H1) (hide U H) → J.go i H
  stops : ∀ H, Same (hide U H1) (hide U H) → J.stop ds.length H
  yields : ∀ i H x H', i < ds.length → Same (hide U H1) (hide U H) → (∀ a ∈ U, H a ≠ none) → J.yld i H x H' → Same H H' ∧ ∃ d, ds[i]? = some d ∧ Rp K (hide U H') x d
def rdI (K : Fg) (B : Bs) (δ : Slots) (τ : Mem) (P : List Dt → Mem → Prop) : TI := fun σ H R => Ok K B δ τ σ H ∧
  ∀ J ds τ' H1, Ok K B δ τ' σ H1 → Same (hide B.U H) (hide B.U H1) → (∀ U', (∀ a ∈ B.U, a ∈ U') → (∀ a ∈ U', a ∉ B.U → H1 a = none) → WalkD K U' J ds H1) → P ds τ' → R J H1
structure XI (X : Cx) (B : Bs) (δ : Slots) (τ : Mem) (tg e : Expr) (P : List Dt → Mem → Prop) : Prop where
  pi : PI X tg e (rdI X.K B δ τ P)
theorem sub_hide {U U' : List Addr} {H1 : Hp} (h : ∀ a ∈ U, a ∈ U') (n : ∀ a ∈ U', a ∉ U → H1 a = none) : hide U' H1 = hide U H1 := by
  funext a
  by_cases c : a ∈ U
  · rw [hide_in c, hide_in (h a c)]
  · rw [hide_out c]
    by_cases c' : a ∈ U'
    · rw [hide_in c', n a c' c]
    · rw [hide_out c']
section
variable {X : Cx} {B : Bs} {δ : Slots} {τ : Mem} {D : DE} {e a b c tg : Expr} {es : List Expr} {pos : Pos} {st : Stmt} {rest : List Stmt} {P : List Dt → Mem → Prop}
theorem XI.of {ti : TI} (h : PI X tg e ti) (k : ∀ σ H R, Ok X.K B δ τ σ H → (∀ J ds τ' H1, Ok X.K B δ τ' σ H1 → Same (hide B.U H) (hide B.U H1) → (∀ U', (∀ a ∈ B.U, a ∈ U') → (∀ a ∈ U', a ∉ B.U → H1 a = none) → WalkD X.K U' J ds H1) → P ds τ' → R J H1) → ti σ H R) : XI X B δ τ tg e P :=
  ⟨⟨fun pins s σ H R I r => h.run pins s σ H R I (k σ H R r.1 r.2)⟩⟩
theorem walkD_tup {K : Fg} {U : List Addr} {p : Addr} {xs : List V} {ds : List Dt} {H1 : Hp} (q : SqT K (hide U H1) p xs) (r : RpAll K (hide U H1) xs ds) : WalkD K U (Itt K p) ds H1 where
  goes := fun i H hi s => ⟨xs, xs[i]'(by rw [r.length]; exact hi), sqt_same (s.trans hide_le) q, List.getElem?_eq_getElem _⟩
  stops := fun H s => ⟨xs, sqt_same (s.trans hide_le) q, Nat.le_of_eq r.length⟩
  yields := fun i H x H' hi s _ y => by
    obtain ⟨rfl, y⟩ := y
    obtain ⟨d, h1, h2⟩ := r.getV (y xs (sqt_same (s.trans hide_le) q))
    exact ⟨Same.refl _, d, h1, h2.mono s⟩
theorem walkD_lst {K : Fg} {U : List Addr} {p : Addr} {xs : List V} {ds : List Dt} {H1 : Hp} (q : hide U H1 p = some (.lst xs)) (r : RpAll K (hide U H1) xs ds) : WalkD K U (Itl K p) ds H1 where
  goes := fun i H hi s => ⟨xs, xs[i]'(by rw [r.length]; exact hi), SqL.of (hide_le _ _ (s _ _ q)), List.getElem?_eq_getElem _⟩
  stops := fun H s => ⟨xs, SqL.of (hide_le _ _ (s _ _ q)), Nat.le_of_eq r.length⟩
  yields := fun i H x H' hi s _ y => by
    obtain ⟨rfl, y⟩ := y
    obtain ⟨d, h1, h2⟩ := r.getV (y xs (SqL.of (hide_le _ _ (s _ _ q))))
    exact ⟨Same.refl _, d, h1, h2.mono s⟩
theorem xi_tup (h : XE X B δ τ e fun w τ1 => ∃ ds, w = .d (.tuple ds) ∧ P ds τ1) : XI X B δ τ tg e P :=
  .of (pi_tup h.pe) fun σ H R k q => ⟨k, fun v w τ1 H1 k1 s1 r1 p => by
    obtain ⟨ds, rfl, p⟩ := p
    obtain ⟨t, xs, rfl, q1, q2⟩ := Rp.tup_inv r1
    refine ⟨t, rfl, ⟨xs, sqt_same hide_le q1⟩, q _ ds τ1 H1 k1 s1 (fun U' h1 h2 => ?_) p⟩
    have eq := sub_hide h1 h2
    exact walkD_tup (by rw [eq]; exact q1) (by rw [eq]; exact q2)⟩
theorem xi_lst (h : XE X B δ τ e fun w τ1 => ∃ ds, w = .d (.list ds) ∧ P ds τ1) : XI X B δ τ tg e P :=
  .of (pi_list h.pe) fun σ H R k q => ⟨k, fun v w τ1 H1 k1 s1 r1 p => by
    obtain ⟨ds, rfl, p⟩ := p
    obtain ⟨t, xs, rfl, q1, q2⟩ := Rp.lst_inv r1
    refine ⟨t, rfl, ⟨xs, SqL.of (hide_le _ _ q1)⟩, q _ ds τ1 H1 k1 s1 (fun U' h1 h2 => ?_) p⟩
    have eq := sub_hide h1 h2
    exact walkD_lst (by rw [eq]; exact q1) (by rw [eq]; exact q2)⟩
theorem xi_range1 {p : Pos} {x : Str} (hx : x = "range") (hm : X.mg "range" = none) (h : XA X B δ τ [e] fun ws τ1 => ∃ n : Nat, ws = [.d (.int n)] ∧ n < 2 ^ 60 ∧ P ((List.range n).map fun i : Nat => PyData.int (i : Int)) τ1) (hg : Gl X "range" := by rfl)
    (hs : starEach [e] X.env = [(false, eval e X.env)] := by rfl) : XI X B δ τ tg (.Call (.Name x p) [e] [] pos) P := by
  subst hx
  refine .of (pi_range1 hg hm h.pa hs) fun σ H R k q => ⟨k, fun vs ws τ1 H1 k1 s1 r1 pp => ?_⟩
  obtain ⟨n, rfl, hn, pp⟩ := pp
  cases r1 with
  | cons r1 rr =>
    cases rr
    have e0 := Rp.int_inv r1
    subst e0
    refine ⟨n, rfl, by omega, by omega, q _ _ τ1 H1 k1 s1 (fun U' h1 h2 => ⟨fun i H hi _ => ?_, fun H _ => ?_, fun i H x H' hi s ex y => ?_⟩) pp⟩
    · have hi' : i < n := by simpa using hi
      show i < (n : Int).toNat
      omega
    · show (n : Int).toNat ≤ _
      simp
    · obtain ⟨rfl, rfl⟩ := y
      have hi' : i < n := by simpa using hi
      refine ⟨Same.refl _, .int i, by simp [hi'], ?_⟩
      rw [Int.zero_add]
      exact .int _

/-! ### for -/
theorem xs_for {is : List Nat} {γ : GD} {body : List Stmt} (hp : PassesOwn (model X.prog X.w) X.A X.env X.xe) (hc : X.calm = true) (hg : XG X tg is γ)
    (hi : XI X B δ τ tg e fun ds τ1 => ∃ I : Nat → Slots → Mem → Prop, I 0 δ τ1 ∧
      (∀ i d δ1 τ2, ds[i]? = some d → I i δ1 τ2 → γ d δ1 fun δ2 => XSs X B δ2 τ2 body { D with nx := fun B' δ3 τ3 => B' = B ∧ I (i + 1) δ3 τ3, ct := fun B' δ3 τ3 => B' = B ∧ I (i + 1) δ3 τ3, bk := D.nx }) ∧
      ∀ δ1 τ2, I ds.length δ1 τ2 → D.nx B δ1 τ2)
    (hs : ∀ x, foldedSetIterable e X.env x = pure x := by intro _; rfl) : XS X B δ τ (.For tg e body [] pos) D :=
  .of (ps_for hp hc hi.pi (hg.pg B) sqS.ok hs) fun E σ H r => ⟨r.ok, fun J ds τ1 H1 o s wk p => by
    obtain ⟨I, i0, it, ie⟩ := p
    have wd := wk B.U (fun _ h => h) (fun a h n => absurd h n)
    refine ⟨fun i m σ2 H2 => m = ds.length - i ∧ i ≤ ds.length ∧ ∃ δ2 τ2, I i δ2 τ2 ∧ Ok X.K B δ2 τ2 σ2 H2 ∧ Same (hide B.U H1) (hide B.U H2), ⟨_, rfl, Nat.zero_le _, δ, τ1, i0, o, Same.refl _⟩, ?_⟩
    rintro i m σ2 H2 ⟨rfl, hle, δ2, τ2, iv, o2, s2⟩
    by_cases hlt : i < ds.length
    · refine .inr ⟨wd.goes i H2 hlt s2, fun σ3 H3 => ∃ δ3 τ3, I (i + 1) δ3 τ3 ∧ Ok X.K B δ3 τ3 σ3 H3 ∧ Same (hide B.U H1) (hide B.U H3), fun σ3 H3 q => ⟨ds.length - (i + 1), by omega, rfl, hlt, q⟩, fun x H3 y => ?_⟩
      obtain ⟨s3, d, hd, rx⟩ := wd.yields i H2 x H3 hlt s2 o2.ex y
      refine ⟨d, δ2, τ2, _, o2.pure s3, rx, it i d δ2 τ2 hd iv, fun δ3 σ3 o3 _ _ hx => ⟨B, δ3, τ2, _, hx, ?_⟩⟩
      have s4 := s2.trans (hide_same s3)
      exact ⟨o3, fun B' δ4 τ4 σ4 H4 l o4 s5 q => by
          obtain ⟨rfl, q⟩ := q
          exact ⟨δ4, τ4, q, o4, s4.trans s5⟩, r.rt, fun B' δ4 τ4 σ4 H4 l o4 s5 q => r.nx B' δ4 τ4 σ4 H4 l o4 ((s.trans s4).trans s5) q, fun B' δ4 τ4 σ4 H4 l o4 s5 q => by
          obtain ⟨rfl, q⟩ := q
          exact ⟨δ4, τ4, q, o4, s4.trans s5⟩⟩
    · have e0 : i = ds.length := by omega
      subst e0
      exact .inl ⟨wd.stops H2 s2, r.nx B δ2 τ2 σ2 H2 (.refl _) o2 (s.trans s2) (ie δ2 τ2 iv)⟩⟩
end
end K10

set_option maxRecDepth 100000
set_option maxHeartbeats 2100000
namespace K10
open L2 PyProof.Rows PySem.Spec PySem

/-! ### operations by values -/
section
variable {K : Fg} {U : List Addr} {P : W → Prop}
theorem r2_int0 {g : Int → Int → Int} {i j : Int} (h : P (.d (.int (g i j)))) : R2D K U (rI0 fun i j => .int (g i j)) (.d (.int i)) (.d (.int j)) P := fun v u H _ rv ru Q q => by
  have e1 := Rp.int_inv rv
  have e2 := Rp.int_inv ru
  subst e1 e2
  exact ⟨i, j, rfl, rfl, q _ (.d (.int (g i j))) H (Same.refl _) (.int _) h⟩
theorem r2_int {C : Int → Int → Prop} {g : Int → Int → Int} {i j : Int} (hc : C i j) (h : P (.d (.int (g i j)))) : R2D K U (rI C fun i j => .int (g i j)) (.d (.int i)) (.d (.int j)) P := fun v u H _ rv ru Q q => by
  have e1 := Rp.int_inv rv
  have e2 := Rp.int_inv ru
  subst e1 e2
  exact ⟨i, j, rfl, rfl, hc, q _ (.d (.int (g i j))) H (Same.refl _) (.int _) h⟩
theorem r2_bool0 {g : Int → Int → Bool} {i j : Int} (h : P (.d (.bool (g i j)))) : R2D K U (rI0 fun i j => .bl (g i j)) (.d (.int i)) (.d (.int j)) P := fun v u H _ rv ru Q q => by
  have e1 := Rp.int_inv rv
  have e2 := Rp.int_inv ru
  subst e1 e2
  exact ⟨i, j, rfl, rfl, q _ (.d (.bool (g i j))) H (Same.refl _) (.bl _) h⟩
theorem r2_eqI {i j : Int} (h : P (.d (.bool (decide (i = j))))) : R2D K U rEq (.d (.int i)) (.d (.int j)) P := fun v u H _ rv ru Q q => by
  have e1 := Rp.int_inv rv
  have e2 := Rp.int_inv ru
  subst e1 e2
  refine ⟨rfl, ?_⟩
  have e : decide (V.int i = V.int j) = decide (i = j) := by rw [dec_int]; by_cases c : i = j <;> simp [c]
  rw [e]
  exact q _ (.d (.bool _)) H (Same.refl _) (.bl _) h
theorem r2_neI {i j : Int} (h : P (.d (.bool (!decide (i = j))))) : R2D K U rNe (.d (.int i)) (.d (.int j)) P := fun v u H _ rv ru Q q => by
  have e1 := Rp.int_inv rv
  have e2 := Rp.int_inv ru
  subst e1 e2
  refine ⟨rfl, ?_⟩
  have e : decide (V.int i = V.int j) = decide (i = j) := by rw [dec_int]; by_cases c : i = j <;> simp [c]
  rw [e]
  exact q _ (.d (.bool _)) H (Same.refl _) (.bl _) h
theorem r1_neg {i : Int} (h : P (.d (.int (-i)))) : R1D K U (rU fun i => .int (-i)) (.d (.int i)) P := fun v H _ rv Q q => by
  have e1 := Rp.int_inv rv
  subst e1
  exact ⟨i, rfl, q _ (.d (.int _)) H (Same.refl _) (.int _) h⟩
def isNone : Dt → Bool
  | .none => true
  | _ => false
theorem Rp.isNone {K : Fg} {H : Hp} {v : V} {d : Dt} (h : Rp K H v d) : decide (v = .non) = isNone d := by cases h <;> rfl
theorem r2_isN {x : Dt} (h : P (.d (.bool (isNone x)))) : R2D K U (fun x y H Q => y = .non ∧ Q (.bl (decide (x = .non))) H) (.d x) (.d .none) P := fun v u H _ rv ru Q q => by
  have e2 := Rp.non_inv ru
  subst e2
  refine ⟨rfl, ?_⟩
  rw [Rp.isNone (show Rp K (hide U H) v x from rv)]
  exact q _ (.d (.bool _)) H (Same.refl _) (.bl _) h
theorem r2_notN {x : Dt} (h : P (.d (.bool (!isNone x)))) : R2D K U (fun x y H Q => y = .non ∧ Q (.bl (!decide (x = .non))) H) (.d x) (.d .none) P := fun v u H _ rv ru Q q => by
  have e2 := Rp.non_inv ru
  subst e2
  refine ⟨rfl, ?_⟩
  rw [Rp.isNone (show Rp K (hide U H) v x from rv)]
  exact q _ (.d (.bool _)) H (Same.refl _) (.bl _) h
theorem r2_isB {x y : Bool} (h : P (.d (.bool (decide (x = y))))) : R2D K U rIsB (.d (.bool x)) (.d (.bool y)) P := fun v u H _ rv ru Q q => by
  have e1 := Rp.bl_inv rv
  have e2 := Rp.bl_inv ru
  subst e1 e2
  exact ⟨x, y, rfl, rfl, q _ (.d (.bool _)) H (Same.refl _) (.bl _) h⟩
theorem r2_notB {x y : Bool} (h : P (.d (.bool (!decide (x = y))))) : R2D K U rNotB (.d (.bool x)) (.d (.bool y)) P := fun v u H _ rv ru Q q => by
  have e1 := Rp.bl_inv rv
  have e2 := Rp.bl_inv ru
  subst e1 e2
  exact ⟨x, y, rfl, rfl, q _ (.d (.bool _)) H (Same.refl _) (.bl _) h⟩
/-- == of data at any depth -/
theorem r2_eqD {x y : Dt} (hx : SeqAt.shaped x = true) (hy : SeqAt.shaped y = true) (h : P (.d (.bool (PyData.eqv x y)))) : R2D K U (rEqD K) (.d x) (.d y) P := fun v u H _ rv ru Q q =>
  ⟨x, y, (Rp.mono hide_le rv).dp, (Rp.mono hide_le ru).dp, hx, hy, q _ (.d (.bool _)) H (Same.refl _) (.bl _) h⟩
theorem r2_neD {x y : Dt} (hx : SeqAt.shaped x = true) (hy : SeqAt.shaped y = true) (h : P (.d (.bool (!PyData.eqv x y)))) : R2D K U (rNeD K) (.d x) (.d y) P := fun v u H _ rv ru Q q =>
  ⟨x, y, (Rp.mono hide_le rv).dp, (Rp.mono hide_le ru).dp, hx, hy, q _ (.d (.bool _)) H (Same.refl _) (.bl _) h⟩
theorem atI_of {xs : List V} {ds : List Dt} {i : Int} {d : Dt} {K : Fg} {H : Hp} (r : RpAll K H xs ds) (h : atI ds i = some d) : ∃ v, atI xs i = some v ∧ Rp K H v d := by
  unfold atI at h ⊢
  rw [r.length]
  cases c : ixN ds.length i with
  | none => rw [c] at h; cases h
  | some j =>
    rw [c] at h
    exact r.get (i := j) h
theorem r2_ixT {ds : List Dt} {i : Int} {d : Dt} (hd : atI ds i = some d) (h : P (.d d)) : R2D K U (rIxT K) (.d (.tuple ds)) (.d (.int i)) P := fun v u H _ rv ru Q q => by
  have e2 := Rp.int_inv ru
  subst e2
  obtain ⟨a, xs, rfl, q1, q2⟩ := Rp.tup_inv rv
  obtain ⟨z, z1, z2⟩ := atI_of q2 hd
  exact ⟨a, xs, i, z, rfl, rfl, sqt_same hide_le q1, z1, q z (.d d) H (Same.refl _) z2 h⟩
theorem r2_ixL {ds : List Dt} {i : Int} {d : Dt} (hd : atI ds i = some d) (h : P (.d d)) : R2D K U (rIxL K) (.d (.list ds)) (.d (.int i)) P := fun v u H _ rv ru Q q => by
  have e2 := Rp.int_inv ru
  subst e2
  obtain ⟨a, xs, rfl, q1, q2⟩ := Rp.lst_inv rv
  obtain ⟨z, z1, z2⟩ := atI_of q2 hd
  exact ⟨a, xs, i, z, rfl, rfl, SqL.of (hide_le _ _ q1), z1, q z (.d d) H (Same.refl _) z2 h⟩
theorem r2_ix0 {d : Dt} {ds : List Dt} (h : P (.d d)) : R2D K U (rIxT K) (.d (.tuple (d :: ds))) (.d (.int 0)) P := r2_ixT (atI_nat (j := 0) rfl) h
theorem r2_ix1 {d e : Dt} {ds : List Dt} (h : P (.d d)) : R2D K U (rIxT K) (.d (.tuple (e :: d :: ds))) (.d (.int 1)) P := r2_ixT (atI_nat (j := 1) rfl) h
theorem r2_ix2 {d e e' : Dt} {ds : List Dt} (h : P (.d d)) : R2D K U (rIxT K) (.d (.tuple (e :: e' :: d :: ds))) (.d (.int 2)) P := r2_ixT (atI_nat (j := 2) rfl) h
theorem newU {U : List Addr} {H : Hp} {p : Addr} (ex : ∀ c ∈ U, H c ≠ none) (h : H p = none) : p ∉ U := fun m => ex p m h
theorem rp_newT {xs : List V} {ds : List Dt} {H : Hp} {p : Addr} (ex : ∀ c ∈ U, H c ≠ none) (h : H p = none) (r : RpAll K (hide U H) xs ds) : Rp K (hide U (upd H p (.tup xs))) (.ref p) (.tuple ds) :=
  .tup (xs := xs) (.inl (.inl (by rw [hide_out (newU ex h)]; exact upd_same))) (r.mono (hide_same (same_new h)))
theorem rp_newL {xs : List V} {ds : List Dt} {H : Hp} {p : Addr} (ex : ∀ c ∈ U, H c ≠ none) (h : H p = none) (r : RpAll K (hide U H) xs ds) : Rp K (hide U (upd H p (.lst xs))) (.ref p) (.list ds) :=
  .lst (xs := xs) (by rw [hide_out (newU ex h)]; exact upd_same) (r.mono (hide_same (same_new h)))
theorem r2_catT {xs ys : List Dt} (hl : xs.length + ys.length ≤ 100000) (h : P (.d (.tuple (xs ++ ys)))) : R2D K U (rCatA K) (.d (.tuple xs)) (.d (.tuple ys)) P := fun v u H ex rv ru Q q => by
  obtain ⟨a, vs, rfl, q1, q2⟩ := Rp.tup_inv rv
  obtain ⟨b, us, rfl, p1, p2⟩ := Rp.tup_inv ru
  refine ⟨a, b, vs, us, rfl, rfl, sqt_same hide_le q1, sqt_same hide_le p1, by rw [q2.length, p2.length]; exact Nat.le_trans hl (by decide), fun e => ?_, fun _ e => ?_, fun _ _ p hp => ?_⟩
  · subst e
    cases q2
    exact q _ (.d (.tuple ys)) H (Same.refl _) ru h
  · subst e
    cases p2
    rw [List.append_nil] at h
    exact q _ (.d (.tuple xs)) H (Same.refl _) rv h
  · exact q _ (.d (.tuple (xs ++ ys))) _ (same_new hp) (rp_newT ex hp (q2.append p2)) h
theorem r2_catL {xs ys : List Dt} (hl : xs.length + ys.length ≤ 100000) (h : P (.d (.list (xs ++ ys)))) : R2D K U rCat (.d (.list xs)) (.d (.list ys)) P := fun v u H ex rv ru Q q => by
  obtain ⟨a, vs, rfl, q1, q2⟩ := Rp.lst_inv rv
  obtain ⟨b, us, rfl, p1, p2⟩ := Rp.lst_inv ru
  exact ⟨a, b, vs, us, rfl, rfl, hide_le _ _ q1, hide_le _ _ p1, by rw [q2.length, p2.length]; exact Nat.le_trans hl (by decide), fun p hp => q _ (.d (.list (xs ++ ys))) _ (same_new hp) (rp_newL ex hp (q2.append p2)) h⟩
/-! calls of what Python brings -/
theorem rn_one {r : List V → Hp → VK → Prop} {x : W} (h : R1D K U (fun v H Q => r [v] H Q) x P) : RND K U r [x] P := fun v H ex rv Q q => by
  cases rv with
  | cons r1 rr =>
    cases rr
    exact h _ H ex r1 Q q
theorem rn_tuple_of {ds : List Dt} (h : P (.d (.tuple ds))) : RND K U (fun xs H Q => ∃ p ys, xs = [.ref p] ∧ ((SqL K H p ys ∧ ∀ l, H l = none → Q (.ref l) (upd H l (.tup ys))) ∨ (SqT K H p ys ∧ Q (.ref p) H))) [.d (.list ds)] P :=
  rn_one fun v H ex rv Q q => by
    obtain ⟨a, vs, rfl, q1, q2⟩ := Rp.lst_inv rv
    exact ⟨a, vs, rfl, .inl ⟨SqL.of (hide_le _ _ q1), fun l hl => q _ (.d (.tuple ds)) _ (same_new hl) (rp_newT ex hl q2) h⟩⟩
theorem rn_tuple_ofT {ds : List Dt} (h : P (.d (.tuple ds))) : RND K U (fun xs H Q => ∃ p ys, xs = [.ref p] ∧ ((SqL K H p ys ∧ ∀ l, H l = none → Q (.ref l) (upd H l (.tup ys))) ∨ (SqT K H p ys ∧ Q (.ref p) H))) [.d (.tuple ds)] P :=
  rn_one fun v H ex rv Q q => by
    obtain ⟨a, vs, rfl, q1, q2⟩ := Rp.tup_inv rv
    exact ⟨a, vs, rfl, .inr ⟨sqt_same hide_le q1, q _ (.d (.tuple ds)) H (Same.refl _) rv h⟩⟩
theorem rn_lenT {ds : List Dt} (h : P (.d (.int ds.length))) : RND K U (fun xs H Q => ∃ p ys, xs = [.ref p] ∧ (SqL K H p ys ∨ SqT K H p ys) ∧ Q (.int ys.length) H) [.d (.tuple ds)] P :=
  rn_one fun v H ex rv Q q => by
    obtain ⟨a, vs, rfl, q1, q2⟩ := Rp.tup_inv rv
    refine ⟨a, vs, rfl, .inr (sqt_same hide_le q1), ?_⟩
    rw [q2.length]
    exact q _ (.d (.int _)) H (Same.refl _) (.int _) h
theorem rn_lenL {ds : List Dt} (h : P (.d (.int ds.length))) : RND K U (fun xs H Q => ∃ p ys, xs = [.ref p] ∧ (SqL K H p ys ∨ SqT K H p ys) ∧ Q (.int ys.length) H) [.d (.list ds)] P :=
  rn_one fun v H ex rv Q q => by
    obtain ⟨a, vs, rfl, q1, q2⟩ := Rp.lst_inv rv
    refine ⟨a, vs, rfl, .inl (SqL.of (hide_le _ _ q1)), ?_⟩
    rw [q2.length]
    exact q _ (.d (.int _)) H (Same.refl _) (.int _) h
theorem rn_all {bs : List Bool} (h : P (.d (.bool (bs.all id)))) : RND K U (rAll K) [.d (.list (bs.map PyData.bool))] P :=
  rn_one fun v H ex rv Q q => by
    obtain ⟨a, vs, rfl, q1, q2⟩ := Rp.lst_inv rv
    have e := q2.bls
    subst e
    exact ⟨a, bs, rfl, SqL.of (hide_le _ _ q1), q _ (.d (.bool _)) H (Same.refl _) (.bl _) h⟩
theorem rn_any {bs : List Bool} (h : P (.d (.bool (bs.any id)))) : RND K U (rAny K) [.d (.list (bs.map PyData.bool))] P :=
  rn_one fun v H ex rv Q q => by
    obtain ⟨a, vs, rfl, q1, q2⟩ := Rp.lst_inv rv
    have e := q2.bls
    subst e
    exact ⟨a, bs, rfl, SqL.of (hide_le _ _ q1), q _ (.d (.bool _)) H (Same.refl _) (.bl _) h⟩
theorem rn_gcd {a b : Int} (h : P (.d (.int ((Nat.gcd a.natAbs b.natAbs : Nat) : Int)))) : RND K U rGcd [.d (.int a), .d (.int b)] P := fun v H ex rv Q q => by
  have e := RpAll.ints (ns := [a, b]) (RwAll.data (ds := [.int a, .int b]) rv)
  subst e
  exact ⟨a, b, rfl, q _ (.d (.int _)) H (Same.refl _) (.int _) h⟩
theorem rn_abs {a : Int} (h : P (.d (.int (if a < 0 then -a else a)))) : RND K U (fun xs H Q => ∃ i, xs = [.int i] ∧ Q (.int (if i < 0 then -i else i)) H) [.d (.int a)] P :=
  rn_one fun v H ex rv Q q => by
    have e := Rp.int_inv rv
    subst e
    exact ⟨a, rfl, q _ (.d (.int _)) H (Same.refl _) (.int _) h⟩
theorem rn_intI {a : Int} (h : P (.d (.int a))) : RND K U (fun xs H Q => (∃ i, xs = [.int i] ∧ Q (.int i) H) ∨ ∃ k, xs = [.bl k] ∧ Q (.int (if k then 1 else 0)) H) [.d (.int a)] P :=
  rn_one fun v H ex rv Q q => by
    have e := Rp.int_inv rv
    subst e
    exact .inl ⟨a, rfl, q _ (.d (.int _)) H (Same.refl _) (.int _) h⟩
theorem rn_intB {a : Bool} (h : P (.d (.int (if a then 1 else 0)))) : RND K U (fun xs H Q => (∃ i, xs = [.int i] ∧ Q (.int i) H) ∨ ∃ k, xs = [.bl k] ∧ Q (.int (if k then 1 else 0)) H) [.d (.bool a)] P :=
  rn_one fun v H ex rv Q q => by
    have e := Rp.bl_inv rv
    subst e
    exact .inr ⟨a, rfl, q _ (.d (.int _)) H (Same.refl _) (.int _) h⟩
end


section
variable {X : Cx} {B : Bs} {δ : Slots} {τ : Mem} {P : W → Mem → Prop} {PB : Bool → Mem → Prop} {a b : Expr} {pos : Pos}
theorem xe_add (h : XE X B δ τ a fun x τ1 => XE X B δ τ1 b fun y τ2 => R2D X.K B.U (rI0 fun i j => .int (i + j)) x y fun w => P w τ2) : XE X B δ τ (.BinOp a .Add b pos) P := xe_bin op_add h
theorem xe_sub (h : XE X B δ τ a fun x τ1 => XE X B δ τ1 b fun y τ2 => R2D X.K B.U (rI0 fun i j => .int (i - j)) x y fun w => P w τ2) : XE X B δ τ (.BinOp a .Sub b pos) P := xe_bin op_sub h
theorem xe_mulW (h : XE X B δ τ a fun x τ1 => XE X B δ τ1 b fun y τ2 => R2D X.K B.U (rI CMulW fun i j => .int (i * j)) x y fun w => P w τ2) : XE X B δ τ (.BinOp a .Mult b pos) P := xe_bin op_mulW h
theorem xe_mul (h : XE X B δ τ a fun x τ1 => XE X B δ τ1 b fun y τ2 => R2D X.K B.U (rI CMul fun i j => .int (i * j)) x y fun w => P w τ2) : XE X B δ τ (.BinOp a .Mult b pos) P := xe_bin op_mul h
theorem xe_divW (h : XE X B δ τ a fun x τ1 => XE X B δ τ1 b fun y τ2 => R2D X.K B.U (rI CDivW fun i j => .int (i / j)) x y fun w => P w τ2) : XE X B δ τ (.BinOp a .FloorDiv b pos) P := xe_bin op_fdivW h
theorem xe_mod (h : XE X B δ τ a fun x τ1 => XE X B δ τ1 b fun y τ2 => R2D X.K B.U (rI (fun _ j => 0 < j) fun i j => .int (i % j)) x y fun w => P w τ2) : XE X B δ τ (.BinOp a .Mod b pos) P := xe_bin op_mod h
theorem xe_modN (h : XE X B δ τ a fun x τ1 => XE X B δ τ1 b fun y τ2 => R2D X.K B.U (rI (fun _ j => j ≠ 0) fun i j => .int (i.fmod j)) x y fun w => P w τ2) : XE X B δ τ (.BinOp a .Mod b pos) P := xe_bin op_modN h
theorem xe_pow (h : XE X B δ τ a fun x τ1 => XE X B δ τ1 b fun y τ2 => R2D X.K B.U (rI CPow fun i j => .int (i ^ j.toNat)) x y fun w => P w τ2) : XE X B δ τ (.BinOp a .Pow b pos) P := xe_bin op_pow h
theorem xe_rep (h : XE X B δ τ a fun x τ1 => XE X B δ τ1 b fun y τ2 => R2D X.K B.U rRep x y fun w => P w τ2) : XE X B δ τ (.BinOp a .Mult b pos) P := xe_bin op_rep h
theorem xe_catL (h : XE X B δ τ a fun x τ1 => XE X B δ τ1 b fun y τ2 => R2D X.K B.U rCat x y fun w => P w τ2) : XE X B δ τ (.BinOp a .Add b pos) P := xe_bin op_cat h
theorem xe_catT (h : XE X B δ τ a fun x τ1 => XE X B δ τ1 b fun y τ2 => R2D X.K B.U (rCatA X.K) x y fun w => P w τ2) : XE X B δ τ (.BinOp a .Add b pos) P := xe_bin op_catA h
theorem xe_lt (h : XE X B δ τ a fun x τ1 => XE X B δ τ1 b fun y τ2 => R2D X.K B.U (rI0 fun i j => .bl (decide (i < j))) x y fun w => P w τ2) : XE X B δ τ (.Compare a [.Lt] [b] pos) P := xe_cmp op_lt h
theorem xt_lt (h : XE X B δ τ a fun x τ1 => XE X B δ τ1 b fun y τ2 => R2D X.K B.U (rI0 fun i j => .bl (decide (i < j))) x y fun w => ∃ k, w = .d (.bool k) ∧ PB k τ2) : XT X B δ τ (.Compare a [.Lt] [b] pos) PB := xt_cmp op_lt h
theorem xe_le (h : XE X B δ τ a fun x τ1 => XE X B δ τ1 b fun y τ2 => R2D X.K B.U (rI0 fun i j => .bl (decide (i ≤ j))) x y fun w => P w τ2) : XE X B δ τ (.Compare a [.LtE] [b] pos) P := xe_cmp op_le h
theorem xt_le (h : XE X B δ τ a fun x τ1 => XE X B δ τ1 b fun y τ2 => R2D X.K B.U (rI0 fun i j => .bl (decide (i ≤ j))) x y fun w => ∃ k, w = .d (.bool k) ∧ PB k τ2) : XT X B δ τ (.Compare a [.LtE] [b] pos) PB := xt_cmp op_le h
theorem xe_gt (h : XE X B δ τ a fun x τ1 => XE X B δ τ1 b fun y τ2 => R2D X.K B.U (rI0 fun i j => .bl (decide (j < i))) x y fun w => P w τ2) : XE X B δ τ (.Compare a [.Gt] [b] pos) P := xe_cmp op_gt h
theorem xt_gt (h : XE X B δ τ a fun x τ1 => XE X B δ τ1 b fun y τ2 => R2D X.K B.U (rI0 fun i j => .bl (decide (j < i))) x y fun w => ∃ k, w = .d (.bool k) ∧ PB k τ2) : XT X B δ τ (.Compare a [.Gt] [b] pos) PB := xt_cmp op_gt h
theorem xe_ge (h : XE X B δ τ a fun x τ1 => XE X B δ τ1 b fun y τ2 => R2D X.K B.U (rI0 fun i j => .bl (decide (j ≤ i))) x y fun w => P w τ2) : XE X B δ τ (.Compare a [.GtE] [b] pos) P := xe_cmp op_ge h
theorem xt_ge (h : XE X B δ τ a fun x τ1 => XE X B δ τ1 b fun y τ2 => R2D X.K B.U (rI0 fun i j => .bl (decide (j ≤ i))) x y fun w => ∃ k, w = .d (.bool k) ∧ PB k τ2) : XT X B δ τ (.Compare a [.GtE] [b] pos) PB := xt_cmp op_ge h
theorem xe_eqI (h : XE X B δ τ a fun x τ1 => XE X B δ τ1 b fun y τ2 => R2D X.K B.U rEq x y fun w => P w τ2) : XE X B δ τ (.Compare a [.Eq] [b] pos) P := xe_cmp op_eq h
theorem xt_eqI (h : XE X B δ τ a fun x τ1 => XE X B δ τ1 b fun y τ2 => R2D X.K B.U rEq x y fun w => ∃ k, w = .d (.bool k) ∧ PB k τ2) : XT X B δ τ (.Compare a [.Eq] [b] pos) PB := xt_cmp op_eq h
theorem xe_neI (h : XE X B δ τ a fun x τ1 => XE X B δ τ1 b fun y τ2 => R2D X.K B.U rNe x y fun w => P w τ2) : XE X B δ τ (.Compare a [.NotEq] [b] pos) P := xe_cmp op_ne h
theorem xt_neI (h : XE X B δ τ a fun x τ1 => XE X B δ τ1 b fun y τ2 => R2D X.K B.U rNe x y fun w => ∃ k, w = .d (.bool k) ∧ PB k τ2) : XT X B δ τ (.Compare a [.NotEq] [b] pos) PB := xt_cmp op_ne h
theorem xe_isN (h : XE X B δ τ a fun x τ1 => XE X B δ τ1 b fun y τ2 => R2D X.K B.U (fun x y H Q => y = .non ∧ Q (.bl (decide (x = .non))) H) x y fun w => P w τ2) : XE X B δ τ (.Compare a [.Is] [b] pos) P := xe_cmp op_isN h
theorem xt_isN (h : XE X B δ τ a fun x τ1 => XE X B δ τ1 b fun y τ2 => R2D X.K B.U (fun x y H Q => y = .non ∧ Q (.bl (decide (x = .non))) H) x y fun w => ∃ k, w = .d (.bool k) ∧ PB k τ2) : XT X B δ τ (.Compare a [.Is] [b] pos) PB := xt_cmp op_isN h
theorem xe_notN (h : XE X B δ τ a fun x τ1 => XE X B δ τ1 b fun y τ2 => R2D X.K B.U (fun x y H Q => y = .non ∧ Q (.bl (!decide (x = .non))) H) x y fun w => P w τ2) : XE X B δ τ (.Compare a [.IsNot] [b] pos) P := xe_cmp op_notN h
theorem xt_notN (h : XE X B δ τ a fun x τ1 => XE X B δ τ1 b fun y τ2 => R2D X.K B.U (fun x y H Q => y = .non ∧ Q (.bl (!decide (x = .non))) H) x y fun w => ∃ k, w = .d (.bool k) ∧ PB k τ2) : XT X B δ τ (.Compare a [.IsNot] [b] pos) PB := xt_cmp op_notN h
theorem xe_isB (h : XE X B δ τ a fun x τ1 => XE X B δ τ1 b fun y τ2 => R2D X.K B.U rIsB x y fun w => P w τ2) : XE X B δ τ (.Compare a [.Is] [b] pos) P := xe_cmp op_isBl h
theorem xt_isB (h : XE X B δ τ a fun x τ1 => XE X B δ τ1 b fun y τ2 => R2D X.K B.U rIsB x y fun w => ∃ k, w = .d (.bool k) ∧ PB k τ2) : XT X B δ τ (.Compare a [.Is] [b] pos) PB := xt_cmp op_isBl h
theorem xe_notB (h : XE X B δ τ a fun x τ1 => XE X B δ τ1 b fun y τ2 => R2D X.K B.U rNotB x y fun w => P w τ2) : XE X B δ τ (.Compare a [.IsNot] [b] pos) P := xe_cmp op_notBl h
theorem xt_notB (h : XE X B δ τ a fun x τ1 => XE X B δ τ1 b fun y τ2 => R2D X.K B.U rNotB x y fun w => ∃ k, w = .d (.bool k) ∧ PB k τ2) : XT X B δ τ (.Compare a [.IsNot] [b] pos) PB := xt_cmp op_notBl h
theorem xe_neg (h : XE X B δ τ a fun x τ1 => R1D X.K B.U (rU fun i => .int (-i)) x fun w => P w τ1) : XE X B δ τ (.UnaryOp .USub a pos) P := xe_un un_neg h
theorem xe_ixT (h : XE X B δ τ a fun x τ1 => XE X B δ τ1 b fun y τ2 => R2D X.K B.U (rIxT X.K) x y fun w => P w τ2) (hs : PlainIx b := by exact fun _ _ => rfl) : XE X B δ τ (.Subscript a b pos) P := xe_ix ix_tup h hs
theorem xe_ixL (h : XE X B δ τ a fun x τ1 => XE X B δ τ1 b fun y τ2 => R2D X.K B.U (rIxL X.K) x y fun w => P w τ2) (hs : PlainIx b := by exact fun _ _ => rfl) : XE X B δ τ (.Subscript a b pos) P := xe_ix ix_list h hs
end
/-! ### slices -/
structure XO (X : Cx) (e : Option Expr) (o : Option Int) : Prop where
  po : PO X e (fun _ H Q => Q o H)
section
variable {X : Cx} {B : Bs} {δ : Slots} {τ : Mem} {P : W → Mem → Prop} {e a b c : Expr} {es : List Expr} {pos p2 : Pos}
theorem xo_none : XO X none none := ⟨po_none⟩
theorem xo_int {i : Int} {j p} : XO X (some (.Constant (.int i) j p)) (some i) := ⟨⟨fun pins s σ H Q I h => (po_some pe_int).run pins s σ H Q I ⟨i, rfl, h⟩⟩⟩
theorem Rp.cut {K : Fg} {H : Hp} {xs : List V} {ds : List Dt} (r : RpAll K H xs ds) (n : Nat) : RpAll K H (xs.drop n) (ds.drop n) := r.drop n
theorem cut_from (xs : List V) (n : Nat) : cutV xs (some (n : Int)) none = xs.drop n := by
  unfold cutV
  rw [HT.sIx_nat xs.length 0 n, HT.sIx_none]
  by_cases h : n ≤ xs.length
  · rw [Nat.min_eq_left h]
    have e : (xs.drop n).length = xs.length - n := List.length_drop
    rw [← e]
    exact List.take_length
  · rw [Nat.min_eq_right (by omega), List.drop_eq_nil_of_le (Nat.le_refl _), List.drop_eq_nil_of_le (by omega)]
    exact List.take_nil
/-- t[n:] of a tuple -/
theorem xe_cutT {n : Nat} {lo : Option Expr} (hl : XO X lo (some (n : Int))) (h : XE X B δ τ e fun w τ1 => ∃ ds, w = .d (.tuple ds) ∧ P (.d (.tuple (ds.drop n))) τ1) : XE X B δ τ (.Subscript e (.Slice lo none none p2) pos) P :=
  .of (pe_slice sl_tupA h.pe hl.po po_none) fun σ H Q k q => ⟨k, fun v w τ1 H1 k1 s1 r1 p => by
    obtain ⟨ds, rfl, p⟩ := p
    obtain ⟨t, xs, rfl, q1, q2⟩ := Rp.tup_inv r1
    refine ⟨t, xs, rfl, sqt_same hide_le q1, fun hh => ?_, fun _ l hl' => ?_⟩
    · have e0 : ds.drop n = ds := by
        rw [HT.sIx_nat xs.length 0 n] at hh
        have hd := hh.1
        rcases Nat.eq_zero_or_pos n with z | z
        · rw [z]; rfl
        · have : xs.length = 0 := by omega
          rw [q2.length] at this
          rw [List.eq_nil_of_length_eq_zero this]; simp
      rw [e0] at p
      exact q _ (.d (.tuple ds)) τ1 H1 k1 s1 r1 p
    · rw [cut_from]
      exact q _ (.d (.tuple (ds.drop n))) τ1 _ (k1.pure (same_new hl')) (s1.trans (hide_same (same_new hl'))) (rp_newT k1.ex hl' (q2.drop n)) p⟩
end
end K10

set_option maxRecDepth 100000
set_option maxHeartbeats 2100000
namespace K10
open L2 PyProof.Rows PySem.Spec PySem

/-! ### promises -/
abbrev RR := List Dt → (Dt → Prop) → Prop
abbrev RT := List Dt → List Dt → (Dt → List Dt → Prop) → Prop
/-- data in, data out -/
def spP (K : Fg) (R : RR) : Sp := fun vs H Q _ => ∃ U ds P, (∀ a ∈ U, H a ≠ none) ∧ RpAll K (hide U H) vs ds ∧ R ds P ∧ ∀ v d H', Same H H' → Rp K (hide U H') v d → P d → Q v H'
/-- the first argument a list that changes -/
def spT (K : Fg) (R : RT) : Sp := fun vs H Q _ => ∃ U a vs' xs ys ds P, (∀ a ∈ U, H a ≠ none) ∧ vs = .ref a :: vs' ∧ a ∈ U ∧ H a = some (.lst xs) ∧ RpAll K (hide U H) xs ys ∧ RpAll K (hide U H) vs' ds ∧ R ys ds P ∧
  ∀ v d xs' ys' H', (∀ b o, b ≠ a → H b = some o → H' b = some o) → H' a = some (.lst xs') → RpAll K (hide U H') xs' ys' → Rp K (hide U H') v d → P d ys' → Q v H'
/-- data in, data out or an exception of the class C -/
abbrev RX := List Dt → (Dt → Prop) → Prop → Prop
def spX (K : Fg) (C : Addr) (R : RX) : Sp := fun vs H Q E => ∃ U ds P Pe, (∀ a ∈ U, H a ≠ none) ∧ RpAll K (hide U H) vs ds ∧ R ds P Pe ∧ (∀ v d H', Same H H' → Rp K (hide U H') v d → P d → Q v H') ∧ ∀ H', Same H H' → Pe → E (.ref C) none H'

structure Has (P : Program) (w : World) (K : Fg) (mg : Str → Option Value) (base : Heap) (CX : CXT) (k : Nat) (x : Str) (ps : List Str) (sp : Sp) : Prop where
  ex : ∃ f fd, mg x = some (.ref f) ∧ PySem.W.keepIn K (.ref f) = true ∧ Binds K fd ps [] ∧ FnOk P w K mg base CX k f fd ps sp
abbrev HasX (X : Cx) (CX : CXT) (k : Nat) (x : Str) (ps : List Str) (sp : Sp) : Prop := Has X.prog X.w X.K X.mg X.base CX k x ps sp

section
variable {X : Cx} {B : Bs} {δ : Slots} {τ : Mem} {P : W → Mem → Prop} {e a b c tg : Expr} {es : List Expr} {pos p2 : Pos} {k : Nat} {x : Str} {ps : List Str} {p : Pos}
theorem xe_call {R : RR} (F : HasX X CX0 k x ps (spP X.K R)) (hr : Room k X.A) (h : XA X B δ τ (e :: es) fun ws τ1 => ∃ ds, ws = ds.map W.d ∧ R ds fun d => P (.d d) τ1) (hg : Gl X x := by rfl) (hdb : (x == ("__debug__" : Str)) = false := by decide)
    (he : starEach (e :: es) X.env = (false, eval e X.env) :: starEach es X.env := by rfl) (hpl : (backTo pos (starEach es X.env)).any (·.1) = false := by rfl) : XE X B δ τ (.Call (.Name x p) (e :: es) [] pos) P := by
  obtain ⟨f, fd, h1, h2, h3, h4⟩ := F.ex
  exact .of (pe_call h4 hr hg h1 h2 h3 .nil pass0 h.pa hdb he hpl) fun σ H Q k q => ⟨k, fun vs ws τ1 H1 k1 s1 r1 pp => by
    obtain ⟨ds, rfl, r⟩ := pp
    rw [List.append_nil]
    exact ⟨B.U, ds, _, k1.ex, r1.data, r, fun v d H' s rv pd => q v (.d d) τ1 H' (k1.pure s) (s1.trans (hide_same s)) rv pd⟩⟩
theorem xe_callT {R : RT} (F : HasX X CX0 k x ps (spT X.K R)) (hr : Room k X.A) (h : XA X B δ τ (e :: es) fun ws τ1 => ∃ a ds ys, ws = .m a :: ds.map W.d ∧ memAt τ1 a = some ys ∧ R ys ds fun d ys' => P (.d d) (memPut τ1 a ys')) (hg : Gl X x := by rfl) (hdb : (x == ("__debug__" : Str)) = false := by decide)
    (he : starEach (e :: es) X.env = (false, eval e X.env) :: starEach es X.env := by rfl) (hpl : (backTo pos (starEach es X.env)).any (·.1) = false := by rfl) : XE X B δ τ (.Call (.Name x p) (e :: es) [] pos) P := by
  obtain ⟨f, fd, h1, h2, h3, h4⟩ := F.ex
  exact .of (pe_call h4 hr hg h1 h2 h3 .nil pass0 h.pa hdb he hpl) fun σ H Q k q => ⟨k, fun vs ws τ1 H1 k1 s1 r1 pp => by
    obtain ⟨a, ds, ys, rfl, hm, r⟩ := pp
    rw [List.append_nil]
    cases r1 with
    | @cons va _ vr _ ra rr =>
      have ea : va = .ref a := ra
      subst ea
      obtain ⟨mU, mT, xs, q1, q2⟩ := k1.mu _ (memAt_mem hm)
      refine ⟨B.U, a, vr, xs, ys, ds, _, k1.ex, rfl, mU, q1, q2, RwAll.data rr, r, fun v d xs' ys' H' o1 o2 o3 o4 pd => ?_⟩
      have sm : Same (hide B.U H1) (hide B.U H') := fun b u e => by
        by_cases c : b ∈ B.U
        · rw [hide_in c] at e; cases e
        · rw [hide_out c] at e ⊢
          exact o1 b u (fun z => c (z ▸ mU)) e
      have o5 : Ok X.K B δ (memPut τ1 a ys') σ H' := by
        refine ⟨fun b u n e => ?_, k1.sub, fun b c z => ?_, fun t ht => ?_, ?_, fun i w e => ?_, k1.len⟩
        · refine o1 b u (fun z => ?_) (k1.fr b u n e)
          subst z
          rcases mT with q | q
          · exact n q
          · rw [q] at e; cases e
        · by_cases e : b = a
          · subst e; rw [o2] at z; cases z
          · cases q : H1 b with
            | none => exact k1.ex b c q
            | some u => rw [o1 b u e q] at z; cases z
        · unfold memPut at ht
          obtain ⟨t', ht', e⟩ := List.mem_map.mp ht
          by_cases c : t'.1 = a
          · rw [if_pos c] at e
            subst e
            exact ⟨mU, mT, xs', o2, o3⟩
          · rw [if_neg c] at e
            subst e
            obtain ⟨h1, h2, us, h3, h4⟩ := k1.mu t' ht'
            exact ⟨h1, h2, us, o1 _ _ c h3, h4.mono sm⟩
        · rw [memPut_keys]; exact k1.nd
        · obtain ⟨v, h1, h2⟩ := k1.sl i w e
          exact ⟨v, h1, h2.mono sm⟩
      exact q v (.d d) _ H' o5 (s1.trans sm) o4 pd⟩
/-- a call of a def that may raise; here it may not -/
theorem xe_callX0 {R : RX} {C : Addr} (F : HasX X (L2.CX X.prog X.w) k x ps (spX X.K C R)) (hr : Room k X.A) (h : XA X B δ τ (e :: es) fun ws τ1 => ∃ ds, ws = ds.map W.d ∧ R ds (fun d => P (.d d) τ1) False) (hg : Gl X x := by rfl) (hdb : (x == ("__debug__" : Str)) = false := by decide)
    (he : starEach (e :: es) X.env = (false, eval e X.env) :: starEach es X.env := by rfl) (hpl : (backTo pos (starEach es X.env)).any (·.1) = false := by rfl) : XE X B δ τ (.Call (.Name x p) (e :: es) [] pos) P := by
  obtain ⟨f, fd, h1, h2, h3, h4⟩ := F.ex
  exact .of (pe_call h4 hr hg h1 h2 h3 .nil passL h.pa hdb he hpl) fun σ H Q k q => ⟨k, fun vs ws τ1 H1 k1 s1 r1 pp => by
    obtain ⟨ds, rfl, r⟩ := pp
    rw [List.append_nil]
    exact ⟨B.U, ds, _, _, k1.ex, r1.data, r, fun v d H' s rv pd => q v (.d d) τ1 H' (k1.pure s) (s1.trans (hide_same s)) rv pd, fun _ _ z => z.elim⟩⟩
end

/-! ### a def from its body -/
section
variable {P : Program} {w : World} {K : Fg} {mg : Str → Option Value} {base : Heap}
def slots0 (N : List Str) (ws : List W) : Slots := ws.map some ++ List.replicate (N.length - ws.length) none
theorem start_slots {K : Fg} {H : Hp} {N : List Str} {vs : List V} {ws : List W} (r : RwAll K H vs ws) : ∀ (i : Nat) (w : W), (slots0 N ws)[i]? = some (some w) → ∃ v, (L2.start N vs)[i]? = some (some v) ∧ Rw K H v w := by
  have hl : vs.length = ws.length := Paired.length r
  intro i w h
  unfold slots0 at h
  unfold L2.start
  by_cases c : i < ws.length
  · rw [List.getElem?_append_left (by simpa using c), List.getElem?_map] at h
    rw [List.getElem?_append_left (by simpa using (by omega : i < vs.length)), List.getElem?_map]
    have key : ∀ {vs : List V} {ws : List W}, RwAll K H vs ws → ∀ (i : Nat) (w : W), ws[i]? = some w → ∃ v, vs[i]? = some v ∧ Rw K H v w := by
      intro vs ws r
      induction r with
      | nil => intro i w e; simp at e
      | cons h1 _ ih =>
        intro i w e
        cases i with
        | zero => simp at e; subst e; exact ⟨_, rfl, h1⟩
        | succ j => simpa using ih j w (by simpa using e)
    cases q : ws[i]? with
    | none => rw [q] at h; simp at h
    | some w' =>
      rw [q] at h
      have e0 : w' = w := by simpa using h
      subst e0
      obtain ⟨v, h1, h2⟩ := key r i w' q
      exact ⟨v, by rw [h1]; rfl, h2⟩
  · rw [List.getElem?_append_right (by simpa using c)] at h
    rw [List.getElem?_replicate] at h
    split at h <;> cases h
theorem start_len {N : List Str} {vs : List V} {ws : List W} (hl : vs.length = ws.length) : (slots0 N ws).length = (L2.start N vs).length := by
  unfold slots0 L2.start
  simp [hl]
abbrev cx0 (P : Program) (w : World) (K : Fg) (mg : Str → Option Value) (base : Heap) (N : List Str) (qual : Str) (st : Stmt) (f : Addr) (cdv : Value) (A : Around) (outer : List Env) (s : Shared) (H : Hp) (E : XK) : Cx :=
  (cxOf CX0 P w K mg base N qual (defScope st) f cdv A outer s H E).nox
/-- THE RULE for a def of data -/
theorem fnP {x : Str} {st : Stmt} {f : Addr} {fd : FuncData} {N ps : List Str} {k : Nat} {R : RR} (F : Fun K x x st f fd) (S : FnScope N ps (defScope st)) (len : ∀ ds P, R ds P → ds.length = ps.length)
    (hbody : ∀ (X : Cx) (B : Bs) (ds : List Dt) (Pr : Dt → Prop), (∃ cdv A outer s H E, X = cx0 P w K mg base N x st f cdv A outer s H E) → Room k X.A → R ds Pr →
      XSs X B (slots0 N (ds.map W.d)) [] (defBody st) { nx := fun _ _ _ => Pr .none, rt := fun v _ => ∃ d, v = .d d ∧ Pr d }) : FnOk P w K mg base CX0 (k + 1) f fd ps (spP K R) := by
  refine F.ok S (fun vs H Q E h => ?_) (fun cdv A outer s H vs Q E hr h => ?_)
  · obtain ⟨U, ds, Pr, _, r, hR, _⟩ := h
    rw [r.length]; exact len _ _ hR
  · obtain ⟨U, ds, Pr, ex, r, hR, q⟩ := h
    refine ⟨_, (hbody (cx0 P w K mg base N x st f cdv A outer s H E) ⟨H, [], U⟩ ds Pr ⟨cdv, A, outer, s, H, E, rfl⟩ hr hR).ps, ?_⟩
    have sm : ∀ {B' δ' τ' σ' H'}, Bs.le ⟨H, [], U⟩ B' → Ok K B' δ' τ' σ' H' → Same H H' := fun {B' δ' τ' σ' H'} l o b u e =>
      o.fr b u (by rw [l.t]; simp) (by rw [l.h0]; exact e)
    have un : ∀ {B' : Bs} {H' : Hp}, Bs.le ⟨H, [], U⟩ B' → Same (hide B'.U H') (hide U H') := fun {B' H'} l b u e => by
      by_cases c : b ∈ B'.U
      · rw [hide_in c] at e; cases e
      · rw [hide_out c] at e
        rw [hide_out (fun m => c (l.u b m))]; exact e
    refine ⟨⟨fun _ _ _ e => e, (fun _ m => nomatch m), ex, (fun _ m => nomatch m), List.nodup_nil, start_slots (RwAll.of r), start_len (by rw [List.length_map]; exact r.length)⟩, fun B' δ' τ' σ' H' l o _ pd => ?_, fun v w' B' δ' τ' σ' H' l o rv pd => ?_, fun _ _ _ _ _ _ _ _ z => z.elim, fun _ _ _ _ _ _ _ _ z => z.elim⟩
    · exact q .non .none H' (sm l o) .non pd
    · obtain ⟨d, rfl, pd⟩ := pd
      exact q v d H' (sm l o) (Rp.mono (un l) rv) pd
/-- .. whose first argument is a list that changes -/
theorem fnT {x : Str} {st : Stmt} {f : Addr} {fd : FuncData} {N ps : List Str} {k : Nat} {R : RT} (F : Fun K x x st f fd) (S : FnScope N ps (defScope st)) (len : ∀ ys ds P, R ys ds P → ds.length + 1 = ps.length)
    (hbody : ∀ (X : Cx) (B : Bs) (a : Addr) (ys ds : List Dt) (Pr : Dt → List Dt → Prop), (∃ cdv A outer s H E, X = cx0 P w K mg base N x st f cdv A outer s H E) → Room k X.A → a ∈ B.U → R ys ds Pr →
      XSs X B (slots0 N (.m a :: ds.map W.d)) [(a, ys)] (defBody st) { nx := fun _ _ τ => ∃ ys', memAt τ a = some ys' ∧ Pr .none ys', rt := fun v τ => ∃ d ys', v = .d d ∧ memAt τ a = some ys' ∧ Pr d ys' }) : FnOk P w K mg base CX0 (k + 1) f fd ps (spT K R) := by
  refine F.ok S (fun vs H Q E h => ?_) (fun cdv A outer s H vs Q E hr h => ?_)
  · obtain ⟨U, a, vs', xs, ys, ds, Pr, _, rfl, _, _, _, r, hR, _⟩ := h
    rw [List.length_cons, r.length]; exact len _ _ _ hR
  · obtain ⟨U, a, vs', xs, ys, ds, Pr, ex, rfl, aU, ha, rx, r, hR, q⟩ := h
    refine ⟨_, (hbody (cx0 P w K mg base N x st f cdv A outer s H E) ⟨H, [a], U⟩ a ys ds Pr ⟨cdv, A, outer, s, H, E, rfl⟩ hr aU hR).ps, ?_⟩
    have sm : ∀ {B' δ' τ' σ' H'}, Bs.le ⟨H, [a], U⟩ B' → Ok K B' δ' τ' σ' H' → ∀ b o, b ≠ a → H b = some o → H' b = some o := fun {B' δ' τ' σ' H'} l o b u ne e =>
      o.fr b u (by rw [l.t]; simpa using ne) (by rw [l.h0]; exact e)
    have un : ∀ {B' : Bs} {H' : Hp}, Bs.le ⟨H, [a], U⟩ B' → Same (hide B'.U H') (hide U H') := fun {B' H'} l b u e => by
      by_cases c : b ∈ B'.U
      · rw [hide_in c] at e; cases e
      · rw [hide_out c] at e
        rw [hide_out (fun m => c (l.u b m))]; exact e
    refine ⟨⟨fun _ _ _ e => e, fun b m => ?_, ex, fun p m => ?_, ?_, start_slots (.cons (show Rw K (hide U H) (.ref a) (.m a) from rfl) (RwAll.of r)), start_len (by rw [List.length_cons, List.length_cons, List.length_map, r.length])⟩, fun B' δ' τ' σ' H' l o _ pd => ?_, fun v w' B' δ' τ' σ' H' l o rv pd => ?_, fun _ _ _ _ _ _ _ _ z => z.elim, fun _ _ _ _ _ _ _ _ z => z.elim⟩
    · have e : b = a := by simpa using m
      rw [e]; exact aU
    · have e : p = (a, ys) := by simpa using m
      subst e
      exact ⟨aU, .inl (by simp), xs, ha, rx⟩
    · simp
    · obtain ⟨ys', hm, pd⟩ := pd
      obtain ⟨_, _, xs', h1, h2⟩ := o.mu _ (memAt_mem hm)
      exact q .non .none xs' ys' H' (sm l o) h1 (h2.mono (un l)) .non pd
    · obtain ⟨d, ys', rfl, hm, pd⟩ := pd
      obtain ⟨_, _, xs', h1, h2⟩ := o.mu _ (memAt_mem hm)
      exact q v d xs' ys' H' (sm l o) h1 (h2.mono (un l)) (Rp.mono (un l) rv) pd
end
end K10

set_option maxRecDepth 100000
set_option maxHeartbeats 2100000
namespace K10
open L2 PyProof.Rows PySem.Spec PySem

theorem memPut_not {τ : Mem} {a : Addr} {ys : List Dt} (h : a ∉ τ.map (·.1)) : memPut τ a ys = τ := by
  unfold memPut
  have e : τ.map (fun p => if p.1 = a then (a, ys) else p) = τ.map id := List.map_congr_left fun p hp => by
    rw [if_neg (fun e => h (List.mem_map.mpr ⟨p, hp, e⟩))]; rfl
  rw [e, List.map_id]
theorem memPut_head {τ : Mem} {a : Addr} {xs ys : List Dt} (h : a ∉ τ.map (·.1)) : memPut ((a, xs) :: τ) a ys = (a, ys) :: τ := by
  have e := memPut_not (ys := ys) h
  unfold memPut at e ⊢
  rw [List.map_cons, e, if_pos rfl]
theorem memPut_tail {τ : Mem} {a b : Addr} {xs ys : List Dt} (h : b ≠ a) : memPut ((b, xs) :: τ) a ys = (b, xs) :: memPut τ a ys := by
  unfold memPut
  rw [List.map_cons, if_neg h]
theorem memAt_head {τ : Mem} {a : Addr} {xs : List Dt} : memAt ((a, xs) :: τ) a = some xs := by
  unfold memAt
  rw [List.find?_cons_of_pos (by simp)]; rfl
theorem memAt_tail {τ : Mem} {a b : Addr} {xs : List Dt} (h : b ≠ a) : memAt ((b, xs) :: τ) a = memAt τ a := by
  unfold memAt
  rw [List.find?_cons_of_neg (by simpa using h)]
theorem memAt_put {τ : Mem} {a : Addr} {ys zs : List Dt} (h : memAt τ a = some zs) : memAt (memPut τ a ys) a = some ys := by
  induction τ with
  | nil => cases h
  | cons p τ ih =>
    obtain ⟨b, xs⟩ := p
    by_cases c : b = a
    · subst c
      unfold memPut memAt
      rw [List.map_cons, if_pos rfl, List.find?_cons_of_pos (by simp)]; rfl
    · rw [memPut_tail c, memAt_tail c]
      rw [memAt_tail c] at h
      exact ih h
theorem memPut_put {τ : Mem} {a : Addr} {ys zs : List Dt} : memPut (memPut τ a ys) a zs = memPut τ a zs := by
  unfold memPut
  rw [List.map_map]
  refine List.map_congr_left (fun p _ => ?_)
  by_cases c : p.1 = a
  · simp [c]
  · simp [c]

/-! ### comprehensions -/
def wipeD (δ : Slots) : List Nat → Slots
  | [] => δ
  | v :: vs => (wipeD δ vs).set v none
theorem wipeD_len (δ : Slots) : ∀ vs, (wipeD δ vs).length = δ.length
  | [] => rfl
  | v :: vs => by unfold wipeD; rw [List.length_set, wipeD_len δ vs]
theorem wipeD_some {δ : Slots} {i : Nat} {w : W} : ∀ {vs : List Nat}, (wipeD δ vs)[i]? = some (some w) → δ[i]? = some (some w) ∧ i ∉ vs
  | [], h => ⟨h, by simp⟩
  | v :: vs, h => by
    unfold wipeD at h
    by_cases hi : v = i
    · subst hi
      by_cases hv : v < (wipeD δ vs).length
      · (rw [List.getElem?_set_self hv] at h; cases h)
      · (rw [List.getElem?_eq_none (by simpa using hv)] at h; cases h)
    · (rw [List.getElem?_set_ne hi] at h)
      obtain ⟨h1, h2⟩ := wipeD_some h
      refine ⟨h1, by simp only [List.mem_cons, not_or]; exact ⟨fun e => hi e.symm, h2⟩⟩
theorem wipe_get (σ : L2.St) (i : Nat) : ∀ vs : List Nat, (wipe σ vs)[i]? = if i ∈ vs then (σ[i]?).map (fun _ => none) else σ[i]?
  | [] => by simp [wipe]
  | v :: vs => by
    have ih := wipe_get σ i vs
    have hl := wipe_length σ vs
    show ((wipe σ vs).set v none)[i]? = _
    by_cases hi : v = i
    · subst hi
      rw [if_pos List.mem_cons_self]
      by_cases hv : v < σ.length
      · rw [List.getElem?_set_self (by rw [hl]; exact hv), List.getElem?_eq_getElem hv]; rfl
      · rw [List.getElem?_eq_none (by rw [List.length_set, hl]; omega), List.getElem?_eq_none (by omega)]; rfl
    · rw [List.getElem?_set_ne hi, ih]
      by_cases c : i ∈ vs
      · rw [if_pos c, if_pos (List.mem_cons_of_mem _ c)]
      · rw [if_neg c, if_neg (by simp only [List.mem_cons, not_or]; exact ⟨fun e => hi e.symm, c⟩)]
theorem wipe_back {σ σ' : L2.St} {vs is : List Nat} (hs : ∀ i ∈ is, i ∈ vs) (h : ∀ j, j ∉ is → σ'[j]? = (wipe σ vs)[j]?) (hl : σ'.length = (wipe σ vs).length) : wipe σ' vs = wipe σ vs := by
  refine List.ext_getElem? (fun j => ?_)
  rw [wipe_get σ' j vs, wipe_get σ j vs]
  by_cases c : j ∈ vs
  · rw [if_pos c, if_pos c]
    have hl' : σ'.length = σ.length := hl.trans (wipe_length σ vs)
    by_cases b : j < σ.length
    · rw [List.getElem?_eq_getElem b, List.getElem?_eq_getElem (by omega)]; rfl
    · rw [List.getElem?_eq_none (by omega), List.getElem?_eq_none (by omega)]
  · rw [if_neg c, if_neg c, h j (fun m => c (hs j m)), wipe_get σ j vs, if_neg c]
section
variable {K : Fg} {B : Bs} {δ δ2 : Slots} {τ τ2 : Mem} {σ σ2 : L2.St} {H H' : Hp}
theorem Ok.wipe (k : Ok K B δ τ σ H) (vs : List Nat) : Ok K B (wipeD δ vs) τ (wipe σ vs) H :=
  ⟨k.fr, k.sub, k.ex, k.mu, k.nd, fun i w h => by
    obtain ⟨h1, h2⟩ := wipeD_some h
    obtain ⟨v, q1, q2⟩ := k.sl i w h1
    exact ⟨v, by rw [wipe_get σ i vs, if_neg h2]; exact q1, q2⟩, by rw [wipeD_len, wipe_length]; exact k.len⟩
theorem Ok.swap (k : Ok K B δ τ σ H) (k2 : Ok K B δ2 τ2 σ2 H') (s : Same (hide B.U H) (hide B.U H')) : Ok K B δ τ2 σ H' :=
  ⟨k2.fr, k2.sub, k2.ex, k2.mu, k2.nd, fun i w h => by
    obtain ⟨v, q1, q2⟩ := k.sl i w h
    exact ⟨v, q1, q2.mono s⟩, k.len⟩
theorem unhide_le {U : List Addr} {D : Addr} {H : Hp} : Same (hide (D :: U) H) (hide U H) := fun b u e => by
  by_cases c : b ∈ D :: U
  · rw [hide_in c] at e; cases e
  · rw [hide_out c] at e
    rw [hide_out (fun m => c (List.mem_cons_of_mem _ m))]; exact e
theorem Ok.unhide {D : Addr} {acc : List Dt} (hs : ∀ a ∈ B.T, a ∈ B.U) (k : Ok K { B with U := D :: B.U } δ ((D, acc) :: τ) σ H) : Ok K B δ τ σ H := by
  have nd := k.nd
  rw [List.map_cons] at nd
  rcases List.nodup_cons.mp nd with ⟨n1, n2⟩
  refine ⟨k.fr, hs, fun a m => k.ex a (List.mem_cons_of_mem _ m), fun p hp => ?_, n2, fun i w h => ?_, k.len⟩
  · obtain ⟨h1, h2, xs, h3, h4⟩ := k.mu p (List.mem_cons_of_mem _ hp)
    refine ⟨?_, h2, xs, h3, h4.mono unhide_le⟩
    rcases List.mem_cons.mp h1 with e | m
    · exact absurd (List.mem_map.mpr ⟨p, hp, e⟩) n1
    · exact m
  · obtain ⟨v, q1, q2⟩ := k.sl i w h
    exact ⟨v, q1, q2.mono unhide_le⟩
end

def Blk (X : Cx) (scope : Scope) (X' : Cx) : Prop := ∃ (s : Shared) (H : Hp) (C : Addr) (cl : List (Str × Addr)) (fp : List Addr), X' = X.blk s H scope (compEnvC scope cl C X.env) fp
structure XTs (X : Cx) (B : Bs) (δ : Slots) (τ : Mem) (es : List Expr) (P : Bool → Mem → Prop) : Prop where
  pt : PTs X es (rdT X.K B δ τ P)
section
variable {X : Cx} {B : Bs} {δ : Slots} {τ : Mem} {PB : Bool → Mem → Prop} {c : Expr}
theorem xts_nil (h : PB true τ) : XTs X B δ τ [] PB := ⟨⟨fun pins s σ H Q I r => pts_nil.run pins s σ H Q I (r.2 true τ H r.1 (Same.refl _) h)⟩⟩
theorem xts_one (h : XT X B δ τ c PB) : XTs X B δ τ [c] PB := ⟨pts_one h.pt⟩
end
/-- one turn of a comprehension -/
def TurnD (X : Cx) (scope : Scope) (B : Bs) (δ : Slots) (τ : Mem) (ifs : List Expr) (elt : Expr) (Yes : Dt → Mem → Prop) (No : Mem → Prop) : Prop :=
  ∃ T : Bool → Mem → Prop, (∀ X', Blk X scope X' → XTs X' B δ τ ifs T) ∧ ∀ b τ1, T b τ1 → if b = true then (∀ X', Blk X scope X' → XE X' B δ τ1 elt fun w τ2 => ∃ x, w = .d x ∧ Yes x τ2) else No τ1
theorem turn_nil {X : Cx} {scope : Scope} {B : Bs} {δ : Slots} {τ : Mem} {elt : Expr} {Yes : Dt → Mem → Prop} {No : Mem → Prop} (h : ∀ X', Blk X scope X' → XE X' B δ τ elt fun w τ2 => ∃ x, w = .d x ∧ Yes x τ2) : TurnD X scope B δ τ [] elt Yes No :=
  ⟨fun b τ1 => b = true ∧ τ1 = τ, fun X' _ => xts_nil ⟨rfl, rfl⟩, fun b τ1 e => by
    obtain ⟨rfl, rfl⟩ := e
    exact iteT h⟩
section
variable {X : Cx} {B : Bs} {δ : Slots} {τ : Mem} {P : W → Mem → Prop} {elt tg iter : Expr} {ifs : List Expr} {scope : Scope} {own : List (Str × Nat)} {pos : Pos} {is : List Nat} {γ : GD}
def sqG (K : Fg) (is : List Nat) (γ : GD) : TG := fun v σ H Q => ∃ B, rdG K B is γ v σ H Q
def sqTs (X : Cx) (scope : Scope) (ifs : List Expr) : TT := fun σ H Q => ∃ B δ τ T, (∀ X', Blk X scope X' → XTs X' B δ τ ifs T) ∧ rdT X.K B δ τ T σ H Q
def sqEl (X : Cx) (scope : Scope) (e : Expr) : TE := fun σ H Q => ∃ B δ τ R, (∀ X', Blk X scope X' → XE X' B δ τ e R) ∧ rdE X.K B δ τ R σ H Q
theorem lc_reading (hT : ∀ i ∈ is, i ∈ own.map (·.2)) {wi : TI} (hwi : wi = rdI X.K B δ τ fun ds τ1 => ∃ J : Nat → List Dt → Mem → Prop, J 0 [] τ1 ∧ (∀ i d acc τ2 D, D ∉ B.U → ds[i]? = some d → J i acc τ2 → γ d (wipeD δ (own.map (·.2))) fun δ2 =>
      TurnD X scope { B with U := D :: B.U } δ2 ((D, acc) :: τ2) ifs elt (fun x τ3 => ∃ τ4, τ3 = (D, acc) :: τ4 ∧ acc.length ≤ 10000 ∧ J (i + 1) (acc ++ [x]) τ4) (fun τ3 => ∃ τ4, τ3 = (D, acc) :: τ4 ∧ J (i + 1) acc τ4)) ∧
      ∀ acc τ2, J ds.length acc τ2 → P (.d (.list acc)) τ2) (σ : L2.St) (H : Hp) (Q : VK) (k : Ok X.K B δ τ σ H)
    (q : ∀ v w τ' H', Ok X.K B δ τ' σ H' → Same (hide B.U H) (hide B.U H') → Rw X.K (hide B.U H') v w → P w τ' → Q v H') :
    tLc wi (sqG X.K is γ) (sqTs X scope ifs) (sqEl X scope elt) (own.map (·.2)) σ H Q := by
  subst hwi
  refine ⟨k, fun J ds τ1 H1 k1 s1 wk p D hD => ?_⟩
  obtain ⟨Jv, j0, jt, je⟩ := p
  have nD := k1.new hD
  have eD : hide (D :: B.U) H1 = hide B.U H1 := sub_hide (fun a m => List.mem_cons_of_mem _ m) (fun a m n => by
    rcases List.mem_cons.mp m with e | m
    · rw [e]; exact hD
    · exact absurd m n)
  have wd := wk (D :: B.U) (fun a m => List.mem_cons_of_mem _ m) (fun a m n => by
    rcases List.mem_cons.mp m with e | m
    · rw [e]; exact hD
    · exact absurd m n)
  have s0 : Same (hide (D :: B.U) H1) (hide (D :: B.U) (upd H1 D (.lst []))) := by rw [eD]; exact fresh_same hD
  refine ⟨fun i m H2 => m = ds.length - i ∧ i ≤ ds.length ∧ ∃ acc τ2, Jv i acc τ2 ∧ Ok X.K { B with U := D :: B.U } δ ((D, acc) :: τ2) σ H2 ∧ Same (hide (D :: B.U) H1) (hide (D :: B.U) H2),
    ⟨_, rfl, Nat.zero_le _, [], τ1, j0, k1.fresh hD .nil, s0⟩, ?_⟩
  rintro i m H2 ⟨rfl, hle, acc, τ2, jv, o2, s2⟩
  by_cases hlt : i < ds.length
  · refine .inr ⟨wd.goes i H2 hlt s2, fun H3 => ∃ acc3 τ3, Jv (i + 1) acc3 τ3 ∧ Ok X.K { B with U := D :: B.U } δ ((D, acc3) :: τ3) σ H3 ∧ Same (hide (D :: B.U) H1) (hide (D :: B.U) H3), fun H3 z => ⟨ds.length - (i + 1), by omega, rfl, hlt, z⟩, fun x H3 y => ?_⟩
    obtain ⟨s3, d, hd, rx⟩ := wd.yields i H2 x H3 hlt s2 o2.ex y
    have o3 := o2.pure s3
    refine ⟨{ B with U := D :: B.U }, d, _, _, _, o3.wipe (own.map (·.2)), rx, jt i d acc τ2 D nD hd jv, fun δ4 σ4 o4 c4 l4 tn => ⟨wipe_back hT c4 l4, ?_⟩⟩
    obtain ⟨T, ht, hb⟩ := tn
    refine ⟨_, δ4, _, T, ht, o4, fun b τ5 H5 o5 s5 tb => ?_⟩
    have s25 := (s2.trans (hide_same s3)).trans s5
    have y5 := hb b τ5 tb
    cases b with
    | true =>
      have y5' := (show (∀ X', Blk X scope X' → XE X' _ δ4 τ5 elt _) from y5)
      refine ⟨_, δ4, τ5, _, y5', o5, fun v w τ6 H6 o6 s6 rw6 z => ?_⟩
      obtain ⟨xd, rfl, τ7, rfl, hlen, j7⟩ := z
      have o6' := (o3.swap o5 s5).swap o6 s6
      obtain ⟨_, _, xs, h1, h2⟩ := o6'.mu (D, acc) List.mem_cons_self
      have nd := o6'.nd
      rw [List.map_cons] at nd
      have nd1 := (List.nodup_cons.mp nd).1
      refine ⟨xs, h1, by rw [h2.length]; exact Nat.lt_of_le_of_lt hlen (by decide), acc ++ [xd], τ7, j7, ?_⟩
      obtain ⟨o7, s7⟩ := o6'.put (H' := upd H6 D (.lst (xs ++ [v]))) memAt_head (h2.append (.cons rw6 .nil)) upd_same (fun b u ne e => by rw [upd_ne ne]; exact e)
      rw [memPut_head nd1] at o7
      exact ⟨o7, (s25.trans s6).trans s7⟩
    | false =>
      obtain ⟨τ4, rfl, j4⟩ := (show ∃ τ4, τ5 = (D, acc) :: τ4 ∧ Jv (i + 1) acc τ4 from y5)
      exact ⟨acc, τ4, j4, o3.swap o5 s5, s25⟩
  · have e0 : i = ds.length := by omega
    subst e0
    refine .inl ⟨wd.stops H2 s2, ?_⟩
    obtain ⟨_, _, xs, h1, h2⟩ := o2.mu (D, acc) List.mem_cons_self
    have h1' : H2 D = some (.lst xs) := h1
    refine q _ (.d (.list acc)) τ2 H2 (o2.unhide k1.sub) ?_ (.lst (xs := xs) (by rw [hide_out nD]; exact h1') (h2.mono unhide_le)) (je acc τ2 jv)
    refine s1.trans ?_
    rw [← eD]
    exact s2.trans unhide_le
theorem xe_lc (hc : X.calm = true) (hN : X.N.Nodup) (ok : BlkOk X.N X.env.scope scope own) (hT : ∀ i ∈ is, i ∈ own.map (·.2)) (hg : ∀ X', Blk X scope X' → XG X' tg is γ)
    (hi : XI X B δ τ tg iter fun ds τ1 => ∃ J : Nat → List Dt → Mem → Prop, J 0 [] τ1 ∧ (∀ i d acc τ2 D, D ∉ B.U → ds[i]? = some d → J i acc τ2 → γ d (wipeD δ (own.map (·.2))) fun δ2 =>
      TurnD X scope { B with U := D :: B.U } δ2 ((D, acc) :: τ2) ifs elt (fun x τ3 => ∃ τ4, τ3 = (D, acc) :: τ4 ∧ acc.length ≤ 10000 ∧ J (i + 1) (acc ++ [x]) τ4) (fun τ3 => ∃ τ4, τ3 = (D, acc) :: τ4 ∧ J (i + 1) acc τ4)) ∧
      ∀ acc τ2, J ds.length acc τ2 → P (.d (.list acc)) τ2) (hs : ∀ x, foldedSetIterable iter X.env x = pure x := by intro _; rfl) :
    XE X B δ τ (.ListComp elt [⟨tg, iter, ifs, 0⟩] scope pos) P :=
  .of (pe_lc hc hN hi.pi ok (g := sqG X.K is γ) (tt := sqTs X scope ifs) (te := sqEl X scope elt)
    (fun s H C cl fp => ⟨fun pins s1 σ H1 v u Q I rv h => by
      obtain ⟨B1, h⟩ := h
      exact ((hg _ ⟨s, H, C, cl, fp, rfl⟩).pg B1).run pins s1 σ H1 v u Q I rv h⟩)
    (fun s H C cl fp => ⟨fun pins s1 σ H1 Q I h => by
      obtain ⟨B1, δ1, τ1, T, ht, r⟩ := h
      exact (ht _ ⟨s, H, C, cl, fp, rfl⟩).pt.run pins s1 σ H1 Q I r⟩)
    (fun s H C cl fp => ⟨fun pins s1 σ H1 Q I h => by
      obtain ⟨B1, δ1, τ1, T, ht, r⟩ := h
      exact (ht _ ⟨s, H, C, cl, fp, rfl⟩).pe.run pins s1 σ H1 Q I r⟩) hs) fun σ H Q k q => lc_reading hT rfl σ H Q k q
end
end K10

set_option maxRecDepth 100000
set_option maxHeartbeats 2100000
namespace K10
open L2 PyProof.Rows PySem.Spec PySem

/-! ### enumerate of a tuple -/
theorem enum1_meets {v : Value} {o : Obj} {G : Heap → Prop} (B : Begins v o G) :
    Meets (Builtin.«enumerate.__new__» ⟨[.type "enumerate", v], []⟩)
      (fun _ R s => G s.heap ∧ R (.ok (.ret (.ref (s.heap.push o).objs.size)))
        { s with heap := (s.heap.push o).push { cls := .type "enumerate", data := .fields #[.none, .bool false, .ref s.heap.objs.size, rawInt 0, .none, .none] } }) :=
  .of_wp fun prog w A R s hh => by
    rcases s with ⟨hp, g, d, tk, os⟩
    obtain ⟨hG, hR⟩ := hh
    have hsub := sub_enumerate
    have itr : ∀ {A1 : Around} {E1 : Value → Shared → Prop} {Q1 : Value → Shared → Prop},
        Q1 (.ref hp.objs.size) ⟨hp.push o, g, d, tk, os⟩ → wpAny (model prog w) A1 (pyIter v) Q1 E1 ⟨hp, g, d, tk, os⟩ :=
      fun z => B.iter prog w _ _ ⟨hp, g, d, tk, os⟩ _ hG z
    wp_walk using itr
    refine wpAny_stack_any (fun st => wpAny_pure ?_)
    split
    · rename_i c _ _ _ _ _
      rcases (c == Value.type "enumerate") with _ | _
      · wp_walk using itr
        exact ⟨_, rfl, hR⟩
      · wp_walk using itr
        exact ⟨_, rfl, hR⟩
    · wp_walk using itr
      exact ⟨_, rfl, hR⟩
section
variable {prog : Program} {A : Around} {w : World} {E : Value → Shared → Prop} {s : Shared}
theorem enum1_call {v : Value} {o : Obj} {G : Heap → Prop} {Q : Value → Shared → Prop} (B : Begins v o G) (hG : G s.heap)
    (h : ∀ h', IsEnum h' (s.heap.objs.size + 1) s.heap.objs.size 0 .none → h'.get? s.heap.objs.size = some o → h'.objs.size = s.heap.objs.size + 2 →
      (∀ b u, s.heap.get? b = some u → h'.get? b = some u) → Q (.ref (s.heap.objs.size + 1)) { s with heap := h' }) :
    wpAny (model prog w) A (call (.type "enumerate") [v]) Q E s := by
  refine callType_new F.called_enumerate (by decide) (F.typeCall_enumerate_1 _) (F.newCall_enumerate_1 _)
    (fun obj => F.args_object_init_2 obj _) F.entry_enumerate_new (enum1_meets B) ⟨hG, ?_⟩
  have sz : (s.heap.push o).objs.size = s.heap.objs.size + 1 := Heap.size_push ..
  show _ ∧ _
  rw [sz]
  have ie : IsEnum ((s.heap.push o).push { cls := .type "enumerate", data := .fields #[.none, .bool false, .ref s.heap.objs.size, rawInt 0, .none, .none] })
      (s.heap.objs.size + 1) s.heap.objs.size 0 .none := by
    have q := Heap.get?_push_size (s.heap.push o) (o := { cls := .type "enumerate", data := .fields #[.none, .bool false, .ref s.heap.objs.size, rawInt 0, .none, .none] }) rfl
    rw [sz] at q
    exact q
  exact ⟨⟨_, ie, rfl⟩, h _ ie (Heap.get?_push_of_some _ (Heap.get?_push_size _ B.free)) (by rw [Heap.size_push, sz])
    fun b u e => Heap.get?_push_of_some _ (Heap.get?_push_of_some _ e)⟩
end
/-- the tuple at a, each item with its place -/
def IteT (K : Fg) (a : Addr) : It :=
  ⟨fun i H => ∃ (xs : List V) (x : V), SqT K H a xs ∧ xs[i]? = some x,
   fun i H v H' => ∃ T x, v = .ref T ∧ H T = none ∧ H' = upd H T (.tup [.int (i : Nat), x]) ∧ ∀ xs, SqT K H a xs → xs[i]? = some x,
   fun i H => ∃ xs : List V, SqT K H a xs ∧ xs.length = i⟩
theorem turn_enumT {P : Program} {w : World} {K : Fg} {elts : List Expr} {kk : Nat} {tpos : Pos} (a e it : Addr) :
    Turn P w K (.Tuple elts kk tpos) (IteT K a) [e, it] e (fun i h => (∃ old, IsEnum h e it ((i : Nat) : Int) old) ∧ h.IsTupleIter it a i ∧ e ≠ it ∧ a ≠ it ∧ a ≠ e) where
  mem := by simp
  obj := fun i h st b hb => by
    rcases st with ⟨⟨old, he⟩, ⟨o, ho, hc, hd⟩, _⟩
    have hbb : b = e ∨ b = it := by simpa using hb
    rcases hbb with z | z
    · (rw [z]; exact ⟨_, he, fun v q => nomatch q⟩)
    · (rw [z]; exact ⟨o, ho, fun v q => by rw [hd] at q; cases q⟩)
  keep := fun i h h' st k => ⟨⟨_, k e (by simp) _ st.1.choose_spec⟩, st.2.1.at fun o q => k it (by simp) o q, st.2.2⟩
  item := by
    intro X hP hw hK hc i pins s σ H E I hf st hg; subst hP hw hK
    obtain ⟨⟨old, he⟩, hit, hne, na1, na2⟩ := st
    obtain ⟨xs, x, hq, hx⟩ := hg
    rcases I.tuple hq with ⟨its, rv, p, hz⟩
    rcases rv.get hx with ⟨u, hu, ru⟩; have hel : e < s.heap.objs.size := Heap.lt_size he; have hil : it < s.heap.objs.size := by obtain ⟨_, q, _⟩ := hit; exact Heap.lt_size q
    have dr := Draws.tuple (prog := X.prog) (w := X.w) (A := X.A.in1) (I.ok.hd hc) it a na1 its.toArray
    have hlt : i < its.toArray.size := by
      have := (List.getElem?_eq_some_iff.mp hu).1
      simpa using this
    refine wpAny_pyNext_enum_itemC dr he ⟨hit, p⟩ hlt hne (by simp [hne, Ne.symm na2]) fun x' h' tk hx' ho hst' hT hsz hk => ?_
    have ex' : x' = u := by
      have z : its[i]? = some x' := by simpa using hx'
      rw [hu] at z; exact (Option.some.inj z).symm
    subst ex'
    refine ⟨_, rfl, wpAny_letOwnedTupleGo_enum (s := { s with heap := h', toks := tk + 1 }) ho fun h'' he' sb => ?_⟩
    have hT2 : h''.get? s.heap.objs.size = some { cls := .type "tuple", data := .seq #[.int i tk, x'] } := (sb.2 _ (Nat.ne_of_gt hel)).trans hT; have new : ObjOk X.prog X.w (upd H s.heap.objs.size (.tup [.int (i : Nat), x])) h'' s.heap.objs.size (.tup [.int (i : Nat), x]) :=
      ⟨by show 2 ≤ sizeLine; decide, [.int i tk, x'], .cons ⟨_, rfl⟩ (.cons ru .nil), ⟨_, hT2, rfl, _, rfl⟩⟩
    have I1 : Inv X pins σ (upd H s.heap.objs.size (.tup [.int (i : Nat), x])) { s with heap := h'', toks := tk + 1 } :=
      (I.turnedNew (ch := [e, it]) (fun b ob hb q => (sb.2 b (fun z => hb (by simp [z]))).trans (hk b ob (fun z => hb (by simp [z])) (fun z => hb (by simp [z])) q)) hf (Nat.le_refl _) new)
    refine ⟨.ref s.heap.objs.size, _, I1, rfl, ⟨_, x, rfl, I.hok.fresh (Nat.le_refl _), rfl, fun ys hy => by rw [I.tuple_inj hy hq]; exact hx⟩,
      ⟨⟨x', ?_⟩, hst'.1.at fun o q => (sb.2 it (Ne.symm hne)).trans q, hne, na1, na2⟩, fun b hb => ?_⟩
    · have e1 : ((i + 1 : Nat) : Int) = (i : Int) + 1 := (by omega)
      rw [e1]; exact he'
    · have hbb : b = e ∨ b = it := by simpa using hb
      have hlt' : b < s.heap.objs.size := by
        rcases hbb with z | z
        · rw [z]; exact hel
        · rw [z]; exact hil
      rw [upd_ne (Nat.ne_of_lt hlt')]
      exact (hf b hb).1
  done := by
    intro X hP hw hK hc i pins s σ H E I hf st hg; subst hP hw hK
    obtain ⟨⟨old, he⟩, hit, hne, na1, na2⟩ := st
    obtain ⟨xs, hq, hx⟩ := hg
    rcases I.tuple hq with ⟨its, rv, p, hz⟩
    rcases hf it (by simp) with ⟨f0, f1, f2, f3, f4, f5⟩
    have hl := rv.length
    have dr := Draws.tuple (prog := X.prog) (w := X.w) (A := X.A.in1) (I.ok.hd hc) it a na1 its.toArray
    have ei : its.toArray.size = i := by simp; omega
    exact wpAny_pyNext_enum_endD dr he ⟨by rw [ei]; exact hit, p⟩ fun h' eb => ⟨rfl, I.turned (t' := s.toks) (fun b o hb q => eb b o hb q) f0 f1 f3 f4 f5⟩
  self := fun A i s Q E st h => wpAny_pyIter_enum st.1.choose_spec h

def iEnumT (K : Fg) (ta : TA) : TI := fun σ H R => ta σ H fun vs H1 => ∃ a xs, vs = [.ref a] ∧ SqT K H1 a xs ∧ R (IteT K a) H1
theorem pi_enumT {X : Cx} {e : Expr} {ta : TA} {p pos tpos : Pos} {elts : List Expr} {kk : Nat} (hg : Gl X "enumerate") (hm : X.mg "enumerate" = none) (ha : PA X [e] ta)
    (hs : starEach [e] X.env = [(false, eval e X.env)] := by rfl) :
    PI X (.Tuple elts kk tpos) (.Call (.Name "enumerate" p) [e] [] pos) (iEnumT X.K ta) := by
  refine ⟨fun pins s σ H R I h => ?_⟩; refine Call_ (ld_blt I hg hm boot_enumerate (PyProof.Rows.callWith_type1 (thn (ha.run pos pins s σ H _ I h) fun us s1 z => ?_) hs rfl))
  obtain ⟨vs, H1, I1, r1, a, xs, ex, hq, q⟩ := z
  subst ex
  cases r1 with
  | cons r rr =>
    cases rr
    cases r
    rcases I1.tuple hq with ⟨its, rv, pt, hz⟩
    have la : a < s1.heap.objs.size := by obtain ⟨_, e0, _⟩ := id pt; exact Heap.lt_size e0
    refine enum1_call (begins_tuple a its.toArray) (show s1.heap.IsTuple a its.toArray from pt) fun h' he hit hsz hk => wpAny_pyIter_enum he ?_
    have I2 : Inv X pins σ H1 { s1 with heap := h' } := I1.kept (t' := s1.toks) hk; refine ⟨s1.heap.objs.size + 1, [s1.heap.objs.size + 1, s1.heap.objs.size], _, _, H1, rfl, I2, turn_enumT a (s1.heap.objs.size + 1) s1.heap.objs.size,
      ⟨⟨.none, he⟩, ⟨_, hit, rfl, rfl⟩, Nat.succ_ne_self _, Nat.ne_of_lt la, Nat.ne_of_lt (Nat.lt_succ_of_lt la)⟩, fun b hb => ?_, q⟩
    have hbb : b = s1.heap.objs.size + 1 ∨ b = s1.heap.objs.size := by simpa using hb
    have hle : b ≥ s1.heap.objs.size := by
      rcases hbb with z | z
      · (rw [z]; exact Nat.le_add_right _ _)
      · rw [z]; exact Nat.le_refl _
    refine I1.fpOk hle (I1.hok.fresh hle)

/-! ### the data that they give -/
def pairsD (xs ys : List Dt) : List Dt := (xs.zip ys).map fun p => PyData.tuple [p.1, p.2]
def enumD (xs : List Dt) : List Dt := (List.range xs.length).map fun i : Nat => PyData.tuple [.int (i : Int), xs.getD i .none]
theorem pairsD_get {xs ys : List Dt} {i : Nat} {x y : Dt} (hx : xs[i]? = some x) (hy : ys[i]? = some y) : (pairsD xs ys)[i]? = some (.tuple [x, y]) := by
  unfold pairsD
  rw [List.getElem?_map, show (xs.zip ys)[i]? = some (x, y) from List.getElem?_zip_eq_some.mpr ⟨hx, hy⟩]; rfl
section
variable {X : Cx} {B : Bs} {δ : Slots} {τ : Mem} {e e2 : Expr} {pos p tpos : Pos} {elts : List Expr} {kk : Nat} {P : List Dt → Mem → Prop}
theorem rp_pair {K : Fg} {U : List Addr} {H : Hp} {T : Addr} {x y : V} {dx dy : Dt} (ex : ∀ c ∈ U, H c ≠ none) (h : H T = none) (rx : Rp K (hide U H) x dx) (ry : Rp K (hide U H) y dy) :
    Rp K (hide U (upd H T (.tup [x, y]))) (.ref T) (.tuple [dx, dy]) := rp_newT ex h (.cons rx (.cons ry .nil))
theorem xi_zipT (hm : X.mg "zip" = none) (h : XA X B δ τ [e, e2] fun ws τ1 => ∃ xs ys, ws = [.d (.tuple xs), .d (.tuple ys)] ∧ P (pairsD xs ys) τ1) (hg : Gl X "zip" := by rfl) (hs : starEach [e, e2] X.env = (false, eval e X.env) :: starEach [e2] X.env := by rfl) (hpl : (backTo pos (starEach [e2] X.env)).any (·.1) = false := by rfl) :
    XI X B δ τ (.Tuple elts kk tpos) (.Call (.Name "zip" p) [e, e2] [] pos) P :=
  .of (RZ.pi_zipA hg hm h.pa hs hpl) fun σ H R k q => ⟨k, fun vs ws τ1 H1 k1 s1 r1 pp => by
    obtain ⟨xs, ys, rfl, pp⟩ := pp
    cases r1 with
    | cons ra rr =>
      cases rr with
      | cons rb rr =>
        cases rr
        obtain ⟨a, us, rfl, a1, a2⟩ := Rp.tup_inv ra
        obtain ⟨b, vs, rfl, b1, b2⟩ := Rp.tup_inv rb
        refine ⟨a, b, us, vs, rfl, .inr ⟨sqt_same hide_le a1, sqt_same hide_le b1, q _ (pairsD xs ys) τ1 H1 k1 s1 (fun U' h1 h2 => ?_) pp⟩⟩
        have eq := sub_hide h1 h2
        rw [← eq] at a1 a2 b1 b2
        have la := a2.length
        have lb := b2.length
        have lz : (pairsD xs ys).length = min us.length vs.length := by unfold pairsD; rw [List.length_map, List.length_zip, la, lb]
        refine ⟨fun i H hi s => ?_, fun H s => ?_, fun i H x H' hi s ex y => ?_⟩
        · have u1 : i < us.length := by omega
          have v1 : i < vs.length := by omega
          exact ⟨us, vs, us[i], vs[i], sqt_same (s.trans hide_le) a1, sqt_same (s.trans hide_le) b1, List.getElem?_eq_getElem u1, List.getElem?_eq_getElem v1⟩
        · exact ⟨us, vs, sqt_same (s.trans hide_le) a1, sqt_same (s.trans hide_le) b1, by omega⟩
        · obtain ⟨T, x1, x2, rfl, hT, rfl, g1, g2⟩ := y
          obtain ⟨d1, p1, p2⟩ := a2.getV (g1 us (sqt_same (s.trans hide_le) a1))
          obtain ⟨d2, p3, p4⟩ := b2.getV (g2 vs (sqt_same (s.trans hide_le) b1))
          exact ⟨same_new hT, _, pairsD_get p1 p3, rp_pair ex hT (p2.mono s) (p4.mono s)⟩⟩
theorem xi_zipL (hm : X.mg "zip" = none) (h : XA X B δ τ [e, e2] fun ws τ1 => ∃ xs ys, ws = [.d (.list xs), .d (.list ys)] ∧ P (pairsD xs ys) τ1) (hg : Gl X "zip" := by rfl) (hs : starEach [e, e2] X.env = (false, eval e X.env) :: starEach [e2] X.env := by rfl) (hpl : (backTo pos (starEach [e2] X.env)).any (·.1) = false := by rfl) :
    XI X B δ τ (.Tuple elts kk tpos) (.Call (.Name "zip" p) [e, e2] [] pos) P :=
  .of (RZ.pi_zipA hg hm h.pa hs hpl) fun σ H R k q => ⟨k, fun vs ws τ1 H1 k1 s1 r1 pp => by
    obtain ⟨xs, ys, rfl, pp⟩ := pp
    cases r1 with
    | cons ra rr =>
      cases rr with
      | cons rb rr =>
        cases rr
        obtain ⟨a, us, rfl, a1, a2⟩ := Rp.lst_inv ra
        obtain ⟨b, vs, rfl, b1, b2⟩ := Rp.lst_inv rb
        refine ⟨a, b, us, vs, rfl, .inl ⟨SqL.of (hide_le _ _ a1), SqL.of (hide_le _ _ b1), q _ (pairsD xs ys) τ1 H1 k1 s1 (fun U' h1 h2 => ?_) pp⟩⟩
        have eq := sub_hide h1 h2
        rw [← eq] at a1 a2 b1 b2
        have la := a2.length
        have lb := b2.length
        have lz : (pairsD xs ys).length = min us.length vs.length := by unfold pairsD; rw [List.length_map, List.length_zip, la, lb]
        refine ⟨fun i H hi s => ?_, fun H s => ?_, fun i H x H' hi s ex y => ?_⟩
        · have u1 : i < us.length := by omega
          have v1 : i < vs.length := by omega
          exact ⟨us, vs, us[i], vs[i], SqL.of (hide_le _ _ (s _ _ a1)), SqL.of (hide_le _ _ (s _ _ b1)), List.getElem?_eq_getElem u1, List.getElem?_eq_getElem v1⟩
        · exact ⟨us, vs, SqL.of (hide_le _ _ (s _ _ a1)), SqL.of (hide_le _ _ (s _ _ b1)), by omega⟩
        · obtain ⟨T, x1, x2, rfl, hT, rfl, g1, g2⟩ := y
          obtain ⟨d1, p1, p2⟩ := a2.getV (g1 us (SqL.of (hide_le _ _ (s _ _ a1))))
          obtain ⟨d2, p3, p4⟩ := b2.getV (g2 vs (SqL.of (hide_le _ _ (s _ _ b1))))
          exact ⟨same_new hT, _, pairsD_get p1 p3, rp_pair ex hT (p2.mono s) (p4.mono s)⟩⟩
theorem xi_enumT (hm : X.mg "enumerate" = none) (h : XA X B δ τ [e] fun ws τ1 => ∃ xs, ws = [.d (.tuple xs)] ∧ P (enumD xs) τ1) (hg : Gl X "enumerate" := by rfl)
    (hs : starEach [e] X.env = [(false, eval e X.env)] := by rfl) :
    XI X B δ τ (.Tuple elts kk tpos) (.Call (.Name "enumerate" p) [e] [] pos) P :=
  .of (pi_enumT hg hm h.pa hs) fun σ H R k q => ⟨k, fun vs ws τ1 H1 k1 s1 r1 pp => by
    obtain ⟨xs, rfl, pp⟩ := pp
    cases r1 with
    | cons ra rr =>
      cases rr
      obtain ⟨a, us, rfl, a1, a2⟩ := Rp.tup_inv ra
      refine ⟨a, us, rfl, sqt_same hide_le a1, q _ (enumD xs) τ1 H1 k1 s1 (fun U' h1 h2 => ?_) pp⟩
      have eq := sub_hide h1 h2
      rw [← eq] at a1 a2
      have la := a2.length
      have lz : (enumD xs).length = us.length := by unfold enumD; rw [List.length_map, List.length_range, la]
      refine ⟨fun i H hi s => ?_, fun H s => ?_, fun i H x H' hi s ex y => ?_⟩
      · have u1 : i < us.length := by omega
        exact ⟨us, us[i], sqt_same (s.trans hide_le) a1, List.getElem?_eq_getElem u1⟩
      · exact ⟨us, sqt_same (s.trans hide_le) a1, lz.symm⟩
      · obtain ⟨T, x1, rfl, hT, rfl, g1⟩ := y
        obtain ⟨d1, p1, p2⟩ := a2.getV (g1 us (sqt_same (s.trans hide_le) a1))
        refine ⟨same_new hT, .tuple [.int (i : Int), d1], ?_, rp_pair ex hT (.int _) (p2.mono s)⟩
        have hi' : i < xs.length := by omega
        unfold enumD
        rw [List.getElem?_map, List.getElem?_range hi']
        show some (PyData.tuple [.int (i : Int), xs.getD i .none]) = _
        rw [List.getD_eq_getElem?_getD, p1]; rfl⟩
end
end K10

set_option maxRecDepth 100000
set_option maxHeartbeats 2100000
namespace K10
open L2 PyProof.Rows PySem.Spec PySem

/-! ### isinstance -/
def tyN : Dt → String
  | .none => "NoneType"
  | .bool _ => "bool"
  | .int _ => "int"
  | .str _ => "str"
  | .list _ => "list"
  | .tuple _ => "tuple"
  | .dict _ => "dict"
theorem Rp.ty {K : Fg} {U : List Addr} {H : Hp} {v : V} {d : Dt} (h : Rp K (hide U H) v d) : TyX K H v (.type (tyN d)) := by
  cases h with
  | non => exact .base .non
  | bl b => exact .base (.bl b)
  | int i => exact .base (.int i)
  | str x => exact .base (.str x)
  | lst e r => exact .base (.lst (hide_le _ _ e))
  | tup e r =>
    rcases sqt_same hide_le e with (e | ⟨o, e⟩) | ⟨o, its, n, e, c, _⟩
    · exact .base (.tup e)
    · exact .fTuple e
    · exact .kTuple e c
section
variable {X : Cx} {B : Bs} {δ : Slots} {τ : Mem} {P : W → Mem → Prop} {PB : Bool → Mem → Prop} {e a b c : Expr} {es : List Expr} {pos p q1 q2 q3 : Pos} {kk : Nat}
def isiB (a : String) (ts : List String) : Bool := ts.any fun t => (kitB a t).getD false
theorem xe_isi1 {T : String} {x : Str} (hm : X.mg "isinstance" = none) (hv : bootBuiltins x = some (.type T)) (hm2 : X.mg x = none)
    (h : XE X B δ τ e fun w τ1 => ∃ d r, w = .d d ∧ kitB (tyN d) T = some r ∧ P (.d (.bool r)) τ1) (hg : Gl X "isinstance" := by rfl) (hg2 : Gl X x := by rfl) (hn : x ≠ "__name__" := by decide) (hd : (x == ("__debug__" : Str)) = false := by decide)
    (he : starEach [e, .Name x q1] X.env = (false, eval e X.env) :: starEach [.Name x q1] X.env := by rfl) (hpl : (backTo pos (starEach [.Name x q1] X.env)).any (·.1) = false := by rfl) :
    XE X B δ τ (.Call (.Name "isinstance" p) [e, .Name x q1] [] pos) P :=
  .of (pe_callB call_isi hg hm (by decide +kernel) (pa_cons h.pe (pa_cons (pe_bltn (v := .ty T) hg2 hm2 hv rfl hn hd) pa_nil) he) (by decide) (by decide) he hpl) fun σ H Q k q =>
    ⟨k, fun v w τ1 H1 k1 s1 r1 pp => by
      obtain ⟨d, r, rfl, hk, pp⟩ := pp
      exact ⟨v, .ty T, _, _, r, rfl, .ty T, Rp.ty r1, kit_ty hk, q _ (.d (.bool r)) τ1 H1 k1 s1 (.bl _) pp⟩⟩
theorem xe_isi2 {T S : String} {x y : Str} (hm : X.mg "isinstance" = none) (hv : bootBuiltins x = some (.type T)) (hm2 : X.mg x = none) (hv' : bootBuiltins y = some (.type S)) (hm3 : X.mg y = none)
    (h : XE X B δ τ e fun w τ1 => ∃ d r s, w = .d d ∧ kitB (tyN d) T = some r ∧ kitB (tyN d) S = some s ∧ P (.d (.bool (r || s))) τ1) (hg : Gl X "isinstance" := by rfl) (hg2 : Gl X x := by rfl) (hn : x ≠ "__name__" := by decide) (hd : (x == ("__debug__" : Str)) = false := by decide)
    (hg3 : Gl X y := by rfl) (hn3 : y ≠ "__name__" := by decide) (hd3 : (y == ("__debug__" : Str)) = false := by decide)
    (he : starEach [e, .Tuple [.Name x q1, .Name y q2] kk q3] X.env = (false, eval e X.env) :: starEach [.Tuple [.Name x q1, .Name y q2] kk q3] X.env := by rfl) (hpl : (backTo pos (starEach [.Tuple [.Name x q1, .Name y q2] kk q3] X.env)).any (·.1) = false := by rfl) :
    XE X B δ τ (.Call (.Name "isinstance" p) [e, .Tuple [.Name x q1, .Name y q2] kk q3] [] pos) P :=
  .of (pe_callB call_isiT hg hm (by decide +kernel) (pa_cons h.pe (pa_cons (pe_tup (pa_cons (pe_bltn (v := .ty T) hg2 hm2 hv rfl hn hd) (pa_cons (pe_bltn (v := .ty S) hg3 hm3 hv' rfl hn3 hd3) pa_nil))) pa_nil) he) (by decide) (by decide) he hpl) fun σ H Q k q =>
    ⟨k, fun v w τ1 H1 k1 s1 r1 pp => by
      obtain ⟨d, r, s, rfl, hk, hk2, pp⟩ := pp
      refine ⟨by show 2 ≤ sizeLine; decide, fun t ht => ?_⟩
      have sm : Same H1 (upd H1 t (.tup [.ty T, .ty S])) := same_new ht
      refine ⟨v, t, [.ty T, .ty S], _, [.type T, .type S], (r || s), rfl, upd_same, .cons (.ty T) (.cons (.ty S) .nil), Rp.ty (Rp.mono (hide_same sm) r1), ?_, q _ (.d (.bool (r || s))) τ1 _ (k1.pure sm) (s1.trans (hide_same sm)) (.bl _) pp⟩
      cases r with
      | true => exact kitAny_cons (kit_ty hk) (fun z => nomatch z) (fun _ => rfl)
      | false =>
        refine kitAny_cons (kit_ty hk) (fun _ => ?_) (fun z => nomatch z)
        cases s with
        | true => exact kitAny_cons (kit_ty hk2) (fun z => nomatch z) (fun _ => rfl)
        | false => exact kitAny_cons (kit_ty hk2) (fun _ => kitAny_nil) (fun z => nomatch z)⟩

/-! ### a list that changes: items read, put -/
theorem xe_ixM {x : Str} {i : Nat} {l : Addr} {j : Int} {kc : Nat} (hl : δ[i]? = some (some (.m l))) (h : ∃ ys d, memAt τ l = some ys ∧ atI ys j = some d ∧ P (.d d) τ) (hN : X.N[i]? = some x := by rfl) (hv : Vis X.env.scope x := by first | exact Or.inl rfl | exact Or.inr (Or.inl rfl) | exact Or.inr (Or.inr rfl)) (hd : (x == ("__debug__" : Str)) = false := by decide) (hcd : (x == ("__classdict__" : Str)) = false := by decide) :
    XE X B δ τ (.Subscript (.Name x p) (.Constant (.int j) kc q1) pos) P :=
  .of (pe_ix ix_list (pe_var hN hv hd hcd) pe_int (fun _ _ => rfl)) fun σ H Q k q => by
    obtain ⟨v, h1, h2⟩ := k.sl i _ hl
    have h2' : v = .ref l := h2
    subst h2'
    obtain ⟨ys, d, hm, ha, pp⟩ := h
    obtain ⟨_, _, xs, q1, q2⟩ := k.mu _ (memAt_mem hm)
    obtain ⟨z, z1, z2⟩ := atI_of q2 ha
    exact ⟨_, h1, l, xs, j, z, rfl, rfl, SqL.of q1, z1, q z (.d d) τ H k (Same.refl _) z2 pp⟩
theorem xs_setM {x : Str} {i : Nat} {l : Addr} {j : Nat} {kc : Nat} {D : DE} (hl : δ[i]? = some (some (.m l)))
    (h : XE X B δ τ e fun w τ1 => ∃ d ys, w = .d d ∧ memAt τ1 l = some ys ∧ j < ys.length ∧ j < 1000 ∧ D.nx B δ (memPut τ1 l (ys.set j d))) (hN : X.N[i]? = some x := by rfl) (hv : Vis X.env.scope x := by first | exact Or.inl rfl | exact Or.inr (Or.inl rfl) | exact Or.inr (Or.inr rfl)) (hd : (x == ("__debug__" : Str)) = false := by decide) (hcd : (x == ("__classdict__" : Str)) = false := by decide)
    (hs : swapsWithSole [.Subscript (.Name x p) (.Constant (.int j) kc q1) q2] e pos.line X.env = pure false := by rfl) (hw : swappedStores [.Subscript (.Name x p) (.Constant (.int j) kc q1) q2] e X.env = pure none := by rfl)
    (h1 : (assignEach [.Subscript (.Name x p) (.Constant (.int j) kc q1) q2] X.env).map (·.2) = [assign (.Subscript (.Name x p) (.Constant (.int j) kc q1) q2) X.env] := by rfl) :
    XS X B δ τ (.Assign [.Subscript (.Name x p) (.Constant (.int j) kc q1) q2] e pos) D :=
  .of (ps_asg h.pe (pg_sub (pe_var hN hv hd hcd) pe_int set_list) hs hw h1) fun E σ H r => ⟨r.ok, fun v w τ1 H1 o s rv pp => by
    obtain ⟨d, ys, rfl, hm, hj, hj2, pp⟩ := pp
    obtain ⟨u, u1, u2⟩ := o.sl i _ hl
    have u2' : u = .ref l := u2
    subst u2'
    obtain ⟨_, _, xs, q1, q2⟩ := o.mu _ (memAt_mem hm)
    have lx := q2.length
    refine ⟨_, u1, l, xs, (j : Int), j, rfl, rfl, q1, ?_, ?_⟩
    · unfold ixN
      rw [lx]
      simp
      omega
    · obtain ⟨o2, s2⟩ := o.put (H' := upd H1 l (.lst (xs.set j v))) hm (q2.set rv j) upd_same (fun b u ne e => by rw [upd_ne ne]; exact e)
      exact r.nx B δ _ _ _ (.refl _) o2 (s.trans s2) pp⟩
end
/-! ### while -/
section
variable {X : Cx} {B : Bs} {δ : Slots} {τ : Mem} {D : DE} {c : Expr} {pos : Pos} {body : List Stmt}
def sqT2 (X : Cx) (b : Expr) : TT := fun σ H Q => ∃ B δ τ1 R, XT X B δ τ1 b R ∧ rdT X.K B δ τ1 R σ H Q
theorem sqT2.ok : PT X c (sqT2 X c) := ⟨fun pins s σ H Q I h => by
  obtain ⟨B, δ, τ1, R, hx, r⟩ := h
  exact hx.pt.run pins s σ H Q I r⟩
theorem xs_while (hp : PassesOwn (model X.prog X.w) X.A X.env X.xe) (I : Nat → Slots → Mem → Prop) (m0 : Nat) (h0 : I m0 δ τ)
    (ht : ∀ m δ1 τ1, I m δ1 τ1 → XT X B δ1 τ1 c fun b τ2 => if b = true then XSs X B δ1 τ2 body { D with nx := fun B' δ3 τ3 => B' = B ∧ ∃ m', m' < m ∧ I m' δ3 τ3, ct := fun B' δ3 τ3 => B' = B ∧ ∃ m', m' < m ∧ I m' δ3 τ3, bk := D.nx } else D.nx B δ1 τ2) :
    XS X B δ τ (.While c body [] pos) D :=
  .of (ps_while hp sqT2.ok sqS.ok) fun E σ H r => by
    refine ⟨fun m σ2 H2 => ∃ δ2 τ2, I m δ2 τ2 ∧ Ok X.K B δ2 τ2 σ2 H2 ∧ Same (hide B.U H) (hide B.U H2), ⟨m0, δ, τ, h0, r.ok, Same.refl _⟩, ?_⟩
    rintro m σ2 H2 ⟨δ2, τ2, iv, o2, s2⟩
    refine ⟨B, δ2, τ2, _, ht m δ2 τ2 iv, o2, fun b τ3 H3 o3 s3 pb => ?_⟩
    cases b with
    | true =>
      refine ⟨fun σ4 H4 => ∃ m', m' < m ∧ ∃ δ4 τ4, I m' δ4 τ4 ∧ Ok X.K B δ4 τ4 σ4 H4 ∧ Same (hide B.U H) (hide B.U H4), fun σ4 H4 z => ?_, B, δ2, τ3, _, pb, ?_⟩
      · obtain ⟨m', l, z⟩ := z
        exact ⟨m', l, z⟩
      · exact ⟨o3, fun B' δ4 τ4 σ4 H4 l o4 s5 q => by
            obtain ⟨rfl, m', l', q⟩ := q
            exact ⟨m', l', δ4, τ4, q, o4, (s2.trans s3).trans s5⟩, r.rt, fun B' δ4 τ4 σ4 H4 l o4 s5 q => r.nx B' δ4 τ4 σ4 H4 l o4 ((s2.trans s3).trans s5) q, fun B' δ4 τ4 σ4 H4 l o4 s5 q => by
            obtain ⟨rfl, m', l', q⟩ := q
            exact ⟨m', l', δ4, τ4, q, o4, (s2.trans s3).trans s5⟩⟩
    | false => exact r.nx B δ2 τ3 σ2 H3 (.refl _) o3 (s2.trans s3) pb
/-- for x in xs, xs a list that changes but not in this loop -/
theorem xs_forM {tg : Expr} {x : Str} {i : Nat} {l : Addr} {p : Pos} {ys : List Dt} {is : List Nat} {γ : GD} (hp : PassesOwn (model X.prog X.w) X.A X.env X.xe) (hc : X.calm = true) (hg : XG X tg is γ)
    (hl : δ[i]? = some (some (.m l))) (hm : memAt τ l = some ys) (I : Nat → Slots → Mem → Prop) (i0 : I 0 δ τ) (im : ∀ j δ1 τ1, I j δ1 τ1 → memAt τ1 l = some ys)
    (it : ∀ j d δ1 τ2, ys[j]? = some d → I j δ1 τ2 → γ d δ1 fun δ2 => XSs X B δ2 τ2 body { D with nx := fun B' δ3 τ3 => B' = B ∧ I (j + 1) δ3 τ3, ct := fun B' δ3 τ3 => B' = B ∧ I (j + 1) δ3 τ3, bk := D.nx })
    (ie : ∀ δ1 τ2, I ys.length δ1 τ2 → D.nx B δ1 τ2) (hN : X.N[i]? = some x := by rfl) (hv : Vis X.env.scope x := by first | exact Or.inl rfl | exact Or.inr (Or.inl rfl) | exact Or.inr (Or.inr rfl)) (hd : (x == ("__debug__" : Str)) = false := by decide) (hcd : (x == ("__classdict__" : Str)) = false := by decide)
    (hs : ∀ v, foldedSetIterable (.Name x p) X.env v = pure v := by intro _; rfl) : XS X B δ τ (.For tg (.Name x p) body [] pos) D :=
  .of (ps_for hp hc (pi_list (pe_var hN hv hd hcd)) (hg.pg B) sqS.ok hs) fun E σ H r => by
    obtain ⟨u, u1, u2⟩ := r.ok.sl i _ hl
    have u2' : u = .ref l := u2
    subst u2'
    have at_ : ∀ {δ2 τ2 σ2 H2}, Ok X.K B δ2 τ2 σ2 H2 → memAt τ2 l = some ys → ∃ xs, H2 l = some (.lst xs) ∧ RpAll X.K (hide B.U H2) xs ys := fun {δ2 τ2 σ2 H2} o e => by
      obtain ⟨_, _, xs, q1, q2⟩ := o.mu _ (memAt_mem e)
      exact ⟨xs, q1, q2⟩
    obtain ⟨xs0, a1, a2⟩ := at_ r.ok hm
    refine ⟨_, u1, l, rfl, ⟨xs0, SqL.of a1⟩, fun j m σ2 H2 => m = ys.length - j ∧ j ≤ ys.length ∧ ∃ δ2 τ2, I j δ2 τ2 ∧ Ok X.K B δ2 τ2 σ2 H2 ∧ Same (hide B.U H) (hide B.U H2), ⟨_, rfl, Nat.zero_le _, δ, τ, i0, r.ok, Same.refl _⟩, ?_⟩
    rintro j m σ2 H2 ⟨rfl, hle, δ2, τ2, iv, o2, s2⟩
    obtain ⟨xs, b1, b2⟩ := at_ o2 (im _ _ _ iv)
    have lb := b2.length
    by_cases hlt : j < ys.length
    · have hlx : j < xs.length := by omega
      refine .inr ⟨⟨xs, xs[j], SqL.of b1, List.getElem?_eq_getElem hlx⟩, fun σ3 H3 => ∃ δ3 τ3, I (j + 1) δ3 τ3 ∧ Ok X.K B δ3 τ3 σ3 H3 ∧ Same (hide B.U H) (hide B.U H3), fun σ3 H3 q => ⟨ys.length - (j + 1), by omega, rfl, hlt, q⟩, fun v H3 y => ?_⟩
      obtain ⟨rfl, y⟩ := y
      obtain ⟨d, c1, c2⟩ := b2.getV (y xs (SqL.of b1))
      refine ⟨d, δ2, τ2, _, o2, c2, it j d δ2 τ2 c1 iv, fun δ3 σ3 o3 _ _ hx => ⟨B, δ3, τ2, _, hx, ?_⟩⟩
      exact ⟨o3, fun B' δ4 τ4 σ4 H4 l o4 s5 q => by
          obtain ⟨rfl, q⟩ := q
          exact ⟨δ4, τ4, q, o4, s2.trans s5⟩, r.rt, fun B' δ4 τ4 σ4 H4 l o4 s5 q => r.nx B' δ4 τ4 σ4 H4 l o4 (s2.trans s5) q, fun B' δ4 τ4 σ4 H4 l o4 s5 q => by
          obtain ⟨rfl, q⟩ := q
          exact ⟨δ4, τ4, q, o4, s2.trans s5⟩⟩
    · have e0 : j = ys.length := by omega
      subst e0
      exact .inl ⟨⟨xs, SqL.of b1, by omega⟩, r.nx B δ2 τ2 σ2 H2 (.refl _) o2 s2 (ie δ2 τ2 iv)⟩
end
end K10

set_option maxRecDepth 100000
set_option maxHeartbeats 2100000
namespace K10
open L2 PyProof.Rows PySem.Spec PySem

section
variable {X : Cx} {B : Bs} {δ : Slots} {τ : Mem} {P : W → Mem → Prop} {elt tg iter : Expr} {ifs : List Expr} {scope : Scope} {own : List (Str × Nat)} {pos : Pos} {is : List Nat} {γ : GD}
theorem blk_loc {x : Str} {s : Shared} {H : Hp} {C : Addr} {cl : List (Str × Addr)} {fp : List Addr} (h : scope.names.lookup x = some .local) : (X.blk s H scope (compEnvC scope cl C X.env) fp).env.scope.names.lookup x = some .local :=
  lookup_relS_keep (fun z => nomatch z) h
/-- a comprehension whose elements are told one by one and change nothing -/
theorem xe_lcP (hc : X.calm = true) (hN : X.N.Nodup) (ok : BlkOk X.N X.env.scope scope own) (hT : ∀ i ∈ is, i ∈ own.map (·.2)) (hg : ∀ X', Blk X scope X' → XG X' tg is γ)
    (hi : XI X B δ τ tg iter fun ds τ1 => ∃ ys : List Dt, ys.length = ds.length ∧ ys.length ≤ 10000 ∧
      (∀ (i : Nat) (d y : Dt), ds[i]? = some d → ys[i]? = some y → γ d (wipeD δ (own.map (·.2))) fun δ2 => ∀ X' B' τ', Blk X scope X' → XE X' B' δ2 τ' elt fun w τ2 => τ2 = τ' ∧ w = .d y) ∧ P (.d (.list ys)) τ1) (hs : ∀ x, foldedSetIterable iter X.env x = pure x := by intro _; rfl)
    (gm : ∀ d δ R R', γ d δ R → (∀ δ2, R δ2 → R' δ2) → γ d δ R') :
    XE X B δ τ (.ListComp elt [⟨tg, iter, [], 0⟩] scope pos) P := by
  refine xe_lc (is := is) (γ := γ) hc hN ok hT hg (.of hi.pi fun σ H R k q => ⟨k, fun J ds τ' H1 k1 s1 wk pp => q J ds τ' H1 k1 s1 wk ?_⟩) hs
  obtain ⟨ys, hl, hz, ht, pp⟩ := pp
  refine ⟨fun i acc τ2 => τ2 = τ' ∧ acc = ys.take i, ⟨rfl, rfl⟩, fun i d acc τ2 D hD hd hj => ?_, fun acc τ2 hj => ?_⟩
  · obtain ⟨rfl, rfl⟩ := hj
    have hi' : i < ys.length := by rw [hl]; exact (List.getElem?_eq_some_iff.mp hd).1
    have hy : ys[i]? = some ys[i] := List.getElem?_eq_getElem hi'
    refine gm _ _ _ _ (ht i d ys[i] hd hy) fun δ2 h2 => turn_nil fun X' hX' => (h2 X' _ _ hX').mono fun w τ3 z => ?_
    obtain ⟨rfl, rfl⟩ := z
    refine ⟨ys[i], rfl, τ2, rfl, by rw [List.length_take]; omega, rfl, ?_⟩
    rw [List.take_add_one, hy]; rfl
  · obtain ⟨rfl, rfl⟩ := hj
    have e : ys.take ds.length = ys := List.take_of_length_le (by omega)
    rw [e]; exact pp
theorem xe_lc1 {j : Nat} {x : Str} {p : Pos} (hc : X.calm = true) (hN : X.N.Nodup) (ok : BlkOk X.N X.env.scope scope own) (hj : j ∈ own.map (·.2)) (hi0 : X.N[j]? = some x) (hx : scope.names.lookup x = some .local)
    (hi : XI X B δ τ (.Name x p) iter fun ds τ1 => ∃ ys : List Dt, ys.length = ds.length ∧ ys.length ≤ 10000 ∧
      (∀ (i : Nat) (d y : Dt), ds[i]? = some d → ys[i]? = some y → ∀ X' B' τ', Blk X scope X' → XE X' B' ((wipeD δ (own.map (·.2))).set j (some (.d d))) τ' elt fun w τ2 => τ2 = τ' ∧ w = .d y) ∧ P (.d (.list ys)) τ1) (hs : ∀ x, foldedSetIterable iter X.env x = pure x := by intro _; rfl) :
    XE X B δ τ (.ListComp elt [⟨.Name x p, iter, [], 0⟩] scope pos) P :=
  xe_lcP (is := [j]) (γ := fun d δ R => R (δ.set j (some (.d d)))) hc hN ok (fun i m => (show i = j by simpa using m) ▸ hj)
    (fun X' hX' => by
      obtain ⟨s, H, C, cl, fp, rfl⟩ := hX'
      have hx' := blk_loc (X := X) (s := s) (H := H) (C := C) (cl := cl) (fp := fp) hx
      exact xg_name (X := X.blk s H scope (compEnvC scope cl C X.env) fp) hN hi0 (.inl hx') (.inr hx')) hi hs (fun d δ R R' h k => k _ h)
theorem xe_lc2 {j1 j2 : Nat} {x y : Str} {p q tp : Pos} {kk : Nat} (hc : X.calm = true) (hN : X.N.Nodup) (ok : BlkOk X.N X.env.scope scope own) (hj : j1 ∈ own.map (·.2)) (hj2 : j2 ∈ own.map (·.2)) (hi1 : X.N[j1]? = some x) (hx : scope.names.lookup x = some .local)
    (hi2 : X.N[j2]? = some y) (hy : scope.names.lookup y = some .local)
    (hi : XI X B δ τ (.Tuple [.Name x p, .Name y q] kk tp) iter fun ds τ1 => ∃ ys : List Dt, ys.length = ds.length ∧ ys.length ≤ 10000 ∧
      (∀ (i : Nat) (d z : Dt), ds[i]? = some d → ys[i]? = some z → ∃ d1 d2 : Dt, d = PyData.tuple [d1, d2] ∧ ∀ X' B' τ', Blk X scope X' → XE X' B' (((wipeD δ (own.map (·.2))).set j1 (some (.d d1))).set j2 (some (.d d2))) τ' elt fun w τ2 => τ2 = τ' ∧ w = .d z) ∧ P (.d (.list ys)) τ1) (hs : ∀ x, foldedSetIterable iter X.env x = pure x := by intro _; rfl) :
    XE X B δ τ (.ListComp elt [⟨.Tuple [.Name x p, .Name y q] kk tp, iter, [], 0⟩] scope pos) P :=
  xe_lcP (is := [j1] ++ ([j2] ++ [])) hc hN ok (fun i m => by
      have e : i = j1 ∨ i = j2 := by simpa using m
      rcases e with e | e
      · rw [e]; exact hj
      · rw [e]; exact hj2)
    (fun X' hX' => by
      obtain ⟨s, H, C, cl, fp, rfl⟩ := hX'
      have hx' := blk_loc (X := X) (s := s) (H := H) (C := C) (cl := cl) (fp := fp) hx
      have hy' := blk_loc (X := X) (s := s) (H := H) (C := C) (cl := cl) (fp := fp) hy
      exact xg_tup (X := X.blk s H scope (compEnvC scope cl C X.env) fp) (n := 2) hc (xgs_cons (xg_name hN hi1 (.inl hx') (.inr hx')) (xgs_cons (xg_name hN hi2 (.inl hy') (.inr hy')) xgs_nil)))
    (.of hi.pi fun σ H R k q => ⟨k, fun J ds τ' H1 k1 s1 wk pp => q J ds τ' H1 k1 s1 wk (by
      obtain ⟨ys, h1, h2, h3, h4⟩ := pp
      refine ⟨ys, h1, h2, fun i d z hd hz => ?_, h4⟩
      obtain ⟨d1, d2, rfl, h5⟩ := h3 i d z hd hz
      exact ⟨[d1, d2], rfl, rfl, d1, [d2], rfl, d2, [], rfl, rfl, h5⟩)⟩) hs
    (fun d δ R R' h k => by
      obtain ⟨ds, h1, h2, a, b, h3, c, e, h4, h5, h6⟩ := h
      exact ⟨ds, h1, h2, a, b, h3, c, e, h4, h5, k _ h6⟩)
theorem xe_lc3 {j1 j2 j3 : Nat} {x y z : Str} {p q r tp : Pos} {kk : Nat} (hc : X.calm = true) (hN : X.N.Nodup) (ok : BlkOk X.N X.env.scope scope own) (hj : j1 ∈ own.map (·.2)) (hj2 : j2 ∈ own.map (·.2)) (hj3 : j3 ∈ own.map (·.2)) (hi1 : X.N[j1]? = some x) (hx : scope.names.lookup x = some .local)
    (hi2 : X.N[j2]? = some y) (hy : scope.names.lookup y = some .local) (hi3 : X.N[j3]? = some z) (hz : scope.names.lookup z = some .local)
    (hi : XI X B δ τ (.Tuple [.Name x p, .Name y q, .Name z r] kk tp) iter fun ds τ1 => ∃ ys : List Dt, ys.length = ds.length ∧ ys.length ≤ 10000 ∧
      (∀ (i : Nat) (d z : Dt), ds[i]? = some d → ys[i]? = some z → ∃ d1 d2 d3 : Dt, d = PyData.tuple [d1, d2, d3] ∧ ∀ X' B' τ', Blk X scope X' → XE X' B' ((((wipeD δ (own.map (·.2))).set j1 (some (.d d1))).set j2 (some (.d d2))).set j3 (some (.d d3))) τ' elt fun w τ2 => τ2 = τ' ∧ w = .d z) ∧ P (.d (.list ys)) τ1) (hs : ∀ x, foldedSetIterable iter X.env x = pure x := by intro _; rfl) :
    XE X B δ τ (.ListComp elt [⟨.Tuple [.Name x p, .Name y q, .Name z r] kk tp, iter, [], 0⟩] scope pos) P :=
  xe_lcP (is := [j1] ++ ([j2] ++ ([j3] ++ []))) hc hN ok (fun i m => by
      have e : i = j1 ∨ i = j2 ∨ i = j3 := by simpa using m
      rcases e with e | e | e
      · rw [e]; exact hj
      · rw [e]; exact hj2
      · rw [e]; exact hj3)
    (fun X' hX' => by
      obtain ⟨s, H, C, cl, fp, rfl⟩ := hX'
      have hx' := blk_loc (X := X) (s := s) (H := H) (C := C) (cl := cl) (fp := fp) hx
      have hy' := blk_loc (X := X) (s := s) (H := H) (C := C) (cl := cl) (fp := fp) hy
      have hz' := blk_loc (X := X) (s := s) (H := H) (C := C) (cl := cl) (fp := fp) hz
      exact xg_tup (X := X.blk s H scope (compEnvC scope cl C X.env) fp) (n := 3) hc (xgs_cons (xg_name hN hi1 (.inl hx') (.inr hx')) (xgs_cons (xg_name hN hi2 (.inl hy') (.inr hy')) (xgs_cons (xg_name hN hi3 (.inl hz') (.inr hz')) xgs_nil))))
    (.of hi.pi fun σ H R k q => ⟨k, fun J ds τ' H1 k1 s1 wk pp => q J ds τ' H1 k1 s1 wk (by
      obtain ⟨ys, h1, h2, h3, h4⟩ := pp
      refine ⟨ys, h1, h2, fun i d z hd hz => ?_, h4⟩
      obtain ⟨d1, d2, d3, rfl, h5⟩ := h3 i d z hd hz
      exact ⟨[d1, d2, d3], rfl, rfl, d1, [d2, d3], rfl, d2, [d3], rfl, d3, [], rfl, rfl, h5⟩)⟩) hs
    (fun d δ R R' h k => by
      obtain ⟨ds, h1, h2, a, b, h3, c, e, h4, c', e', h5, h6, h7⟩ := h
      exact ⟨ds, h1, h2, a, b, h3, c, e, h4, c', e', h5, h6, k _ h7⟩)
end
end K10

/-! fractions: Rat and its pairs; sizes -/
namespace K10
theorem divInt_parts (a : Int) {b : Int} (hb : 0 < b) : (Rat.divInt a b).num = a / ((Nat.gcd a.natAbs b.natAbs : Nat) : Int) ∧ ((Rat.divInt a b).den : Int) = b / ((Nat.gcd a.natAbs b.natAbs : Nat) : Int) := by
  obtain ⟨n, rfl⟩ : ∃ n : Nat, b = (n : Int) := ⟨b.toNat, by omega⟩
  have hn : n ≠ 0 := by omega
  have e : Rat.divInt a (n : Int) = mkRat a n := rfl
  rw [e, ← Rat.normalize_eq_mkRat hn, Rat.normalize_eq]
  exact ⟨rfl, by simp [Int.natAbs_natCast]⟩
theorem gcd_pos_of (a : Int) {b : Int} (hb : 0 < b) : 0 < ((Nat.gcd a.natAbs b.natAbs : Nat) : Int) := by
  have : 0 < Nat.gcd a.natAbs b.natAbs := Nat.gcd_pos_of_pos_right _ (by omega)
  omega
theorem den_pos' (q : Rat) : (0 : Int) < (q.den : Int) := by have := q.den_pos; omega
theorem rat_add (p q : Rat) : p + q = Rat.divInt (p.num * (q.den : Int) + q.num * (p.den : Int)) ((p.den : Int) * (q.den : Int)) := by
  have h := Rat.divInt_add_divInt p.num q.num (d₁ := (p.den : Int)) (d₂ := (q.den : Int)) (by have := den_pos' p; omega) (by have := den_pos' q; omega)
  rw [Rat.num_divInt_den, Rat.num_divInt_den] at h
  exact h
theorem rat_mul (p q : Rat) : p * q = Rat.divInt (p.num * q.num) ((p.den : Int) * (q.den : Int)) := by
  have h := Rat.divInt_mul_divInt p.num q.num (d₁ := (p.den : Int)) (d₂ := (q.den : Int))
  rw [Rat.num_divInt_den, Rat.num_divInt_den] at h
  exact h
theorem rat_sub (p q : Rat) : p - q = Rat.divInt (p.num * (q.den : Int) - q.num * (p.den : Int)) ((p.den : Int) * (q.den : Int)) := by
  have h := rat_add p (-q)
  rw [show p - q = p + -q by grind, h]
  have e1 : (-q).num = -q.num := Rat.neg_num q
  have e2 : (-q).den = q.den := rfl
  rw [e1, e2, Int.neg_mul, Int.sub_eq_add_neg]
theorem rat_div (p q : Rat) (hq : 0 < q.num) : p / q = Rat.divInt (p.num * (q.den : Int)) ((p.den : Int) * q.num) := by
  rw [Rat.div_def, Rat.inv_def]
  have h := Rat.divInt_mul_divInt p.num (q.den : Int) (d₁ := (p.den : Int)) (d₂ := q.num)
  rw [Rat.num_divInt_den] at h
  exact h
theorem add_ints {p q : Rat} (hp : p.den = 1) (hq : q.den = 1) : (p + q).num = p.num + q.num ∧ (p + q).den = 1 := by
  have h := divInt_parts (p.num * (q.den : Int) + q.num * (p.den : Int)) (b := (p.den : Int) * (q.den : Int)) (by rw [hp, hq]; decide)
  rw [← rat_add, hp, hq] at h
  obtain ⟨h1, h2⟩ := h
  simp at h1 h2
  exact ⟨h1, by omega⟩
theorem mul_ints {p q : Rat} (hp : p.den = 1) (hq : q.den = 1) : (p * q).num = p.num * q.num ∧ (p * q).den = 1 := by
  have h := divInt_parts (p.num * q.num) (b := (p.den : Int) * (q.den : Int)) (by rw [hp, hq]; decide)
  rw [← rat_mul, hp, hq] at h
  obtain ⟨h1, h2⟩ := h
  simp at h1 h2
  exact ⟨h1, by omega⟩
theorem lt_num (p q : Rat) : decide (p.num * (q.den : Int) < q.num * (p.den : Int)) = decide (p < q) := by
  by_cases h : p < q
  · rw [decide_eq_true h, decide_eq_true ((Rat.lt_iff p q).mp h)]
  · rw [decide_eq_false h, decide_eq_false (fun z => h ((Rat.lt_iff p q).mpr z))]

/-! sizes -/
structure Sz (n : Nat) (q : Rat) : Prop where
  nu : q.num.natAbs < 2 ^ n
  de : q.den < 2 ^ n
theorem Sz.mono {m n : Nat} {q : Rat} (h : Sz m q) (k : m ≤ n) : Sz n q := ⟨Nat.lt_of_lt_of_le h.nu (Nat.pow_le_pow_right (by decide) k), Nat.lt_of_lt_of_le h.de (Nat.pow_le_pow_right (by decide) k)⟩
theorem natAbs_ediv_le (a : Int) {g : Int} (h : 0 < g) : (a / g).natAbs ≤ a.natAbs := by
  obtain ⟨n, rfl⟩ : ∃ n : Nat, g = (n : Int) := ⟨g.toNat, by omega⟩
  rcases Int.le_total 0 a with h0 | h0
  · obtain ⟨m, rfl⟩ : ∃ m : Nat, a = (m : Int) := ⟨a.toNat, by omega⟩
    rw [← Int.natCast_ediv]
    simp only [Int.natAbs_natCast]
    exact Nat.div_le_self _ _
  · have h1 : a ≤ a / (n : Int) := by
      refine (Int.le_ediv_iff_mul_le h).mpr ?_
      have : a * (n : Int) ≤ a * 1 := Int.mul_le_mul_of_nonpos_left h0 (by omega)
      omega
    have h2 : a / (n : Int) ≤ 0 := by
      have := Int.ediv_le_ediv h h0
      simpa using this
    omega
theorem Sz.divInt {n : Nat} {a b : Int} (hb : 0 < b) (h1 : a.natAbs < 2 ^ n) (h2 : b.natAbs < 2 ^ n) : Sz n (Rat.divInt a b) := by
  obtain ⟨e1, e2⟩ := divInt_parts a hb
  have g := gcd_pos_of a hb
  constructor
  · rw [e1]; exact Nat.lt_of_le_of_lt (natAbs_ediv_le a g) h1
  · have : (Rat.divInt a b).den = (b / ((Nat.gcd a.natAbs b.natAbs : Nat) : Int)).natAbs := by rw [← e2]; simp
    rw [this]; exact Nat.lt_of_le_of_lt (natAbs_ediv_le b g) h2
theorem mul_lt {m n a b : Nat} (h1 : a < 2 ^ m) (h2 : b < 2 ^ n) : a * b < 2 ^ (m + n) := by
  rw [Nat.pow_add]
  exact Nat.mul_lt_mul'' h1 h2
theorem mulI_lt {m n : Nat} {a b : Int} (h1 : a.natAbs < 2 ^ m) (h2 : b.natAbs < 2 ^ n) : (a * b).natAbs < 2 ^ (m + n) := by
  rw [Int.natAbs_mul]; exact mul_lt h1 h2
theorem Sz.deI {n : Nat} {q : Rat} (h : Sz n q) : ((q.den : Int)).natAbs < 2 ^ n := by simpa using h.de
theorem addI_lt {m : Nat} {a b : Int} (h1 : a.natAbs < 2 ^ m) (h2 : b.natAbs < 2 ^ m) : (a + b).natAbs < 2 ^ (m + 1) := by
  rw [Nat.pow_succ]; omega
theorem Sz.top {m n : Nat} {p q : Rat} (h : Sz m p) (k : Sz n q) : (p.num * (q.den : Int) + q.num * (p.den : Int)).natAbs < 2 ^ (m + n + 1) :=
  addI_lt (mulI_lt h.nu k.deI) (by have := mulI_lt k.nu h.deI; rwa [Nat.add_comm] at this)
theorem Sz.topL {m n : Nat} {p q : Rat} (h : Sz m p) (k : Sz n q) : (p.num * (q.den : Int) - q.num * (p.den : Int)).natAbs < 2 ^ (m + n + 1) := by
  have h1 := mulI_lt h.nu k.deI
  have h2 := mulI_lt k.nu h.deI
  rw [Nat.add_comm n m] at h2
  rw [Nat.pow_succ]; omega
theorem Sz.bot {m n : Nat} {p q : Rat} (h : Sz m p) (k : Sz n q) : ((p.den : Int) * (q.den : Int)).natAbs < 2 ^ (m + n) := mulI_lt h.deI k.deI
theorem Sz.add {m n : Nat} {p q : Rat} (h : Sz m p) (k : Sz n q) : Sz (m + n + 1) (p + q) := by
  rw [rat_add]
  exact .divInt (Int.mul_pos (den_pos' p) (den_pos' q)) (h.top k) (Nat.lt_of_lt_of_le (h.bot k) (Nat.pow_le_pow_right (by decide) (by omega)))
theorem Sz.sub {m n : Nat} {p q : Rat} (h : Sz m p) (k : Sz n q) : Sz (m + n + 1) (p - q) := by
  rw [rat_sub]
  exact .divInt (Int.mul_pos (den_pos' p) (den_pos' q)) (h.topL k) (Nat.lt_of_lt_of_le (h.bot k) (Nat.pow_le_pow_right (by decide) (by omega)))
theorem Sz.mul {m n : Nat} {p q : Rat} (h : Sz m p) (k : Sz n q) : Sz (m + n) (p * q) := by
  rw [rat_mul]
  exact .divInt (Int.mul_pos (den_pos' p) (den_pos' q)) (mulI_lt h.nu k.nu) (h.bot k)
theorem Sz.neg {m : Nat} {p : Rat} (h : Sz m p) : Sz m (-p) := ⟨by rw [Rat.neg_num]; simpa using h.nu, h.de⟩
theorem Sz.div {m n : Nat} {p q : Rat} (h : Sz m p) (k : Sz n q) (hq : 0 < q.num) : Sz (m + n) (p / q) := by
  rw [rat_div p q hq]
  exact .divInt (Int.mul_pos (den_pos' p) hq) (mulI_lt h.nu k.deI) (mulI_lt h.deI k.nu)
theorem num_pos {q : Rat} (h : 0 < q) : 0 < q.num := by
  have := (Rat.lt_iff 0 q).mp h
  simpa using this
end K10

set_option maxRecDepth 100000
set_option maxHeartbeats 4100000
namespace K10
open L2 PyProof.Rows PySem.Spec PySem
def topS (i : Nat) : Stmt := PySem.Challenge.pw_lawsunseen_k10_whole_marks_and_what_fits.main.body.getD i (.Pass ⟨0, 0, 0, 0⟩)
abbrev s_tupled : Stmt := topS 6
abbrev n_tupled : List Str := ["thing", "part"]
abbrev p_tupled : List Str := ["thing"]
theorem sc_tupled : FnScope n_tupled p_tupled (defScope s_tupled) := ⟨rfl, rfl, rfl, by decide +kernel, rfl, by decide +kernel, by decide +kernel⟩
abbrev s_set_of : Stmt := topS 7
abbrev n_set_of : List Str := ["things"]
abbrev p_set_of : List Str := ["things"]
theorem sc_set_of : FnScope n_set_of p_set_of (defScope s_set_of) := ⟨rfl, rfl, rfl, by decide +kernel, rfl, by decide +kernel, by decide +kernel⟩
abbrev s_part_of : Stmt := topS 8
abbrev n_part_of : List Str := ["top", "bottom", "common"]
abbrev p_part_of : List Str := ["top", "bottom"]
theorem sc_part_of : FnScope n_part_of p_part_of (defScope s_part_of) := ⟨rfl, rfl, rfl, by decide +kernel, rfl, by decide +kernel, by decide +kernel⟩
abbrev s_part_plus : Stmt := topS 9
abbrev n_part_plus : List Str := ["one", "other"]
abbrev p_part_plus : List Str := ["one", "other"]
theorem sc_part_plus : FnScope n_part_plus p_part_plus (defScope s_part_plus) := ⟨rfl, rfl, rfl, by decide +kernel, rfl, by decide +kernel, by decide +kernel⟩
abbrev s_part_minus : Stmt := topS 10
abbrev n_part_minus : List Str := ["one"]
abbrev p_part_minus : List Str := ["one"]
theorem sc_part_minus : FnScope n_part_minus p_part_minus (defScope s_part_minus) := ⟨rfl, rfl, rfl, by decide +kernel, rfl, by decide +kernel, by decide +kernel⟩
abbrev s_part_times : Stmt := topS 11
abbrev n_part_times : List Str := ["one", "other"]
abbrev p_part_times : List Str := ["one", "other"]
theorem sc_part_times : FnScope n_part_times p_part_times (defScope s_part_times) := ⟨rfl, rfl, rfl, by decide +kernel, rfl, by decide +kernel, by decide +kernel⟩
abbrev s_part_over : Stmt := topS 12
abbrev n_part_over : List Str := ["one", "other"]
abbrev p_part_over : List Str := ["one", "other"]
theorem sc_part_over : FnScope n_part_over p_part_over (defScope s_part_over) := ⟨rfl, rfl, rfl, by decide +kernel, rfl, by decide +kernel, by decide +kernel⟩
abbrev s_part_below : Stmt := topS 13
abbrev n_part_below : List Str := ["one", "other"]
abbrev p_part_below : List Str := ["one", "other"]
theorem sc_part_below : FnScope n_part_below p_part_below (defScope s_part_below) := ⟨rfl, rfl, rfl, by decide +kernel, rfl, by decide +kernel, by decide +kernel⟩
abbrev s_part_sum : Stmt := topS 14
abbrev n_part_sum : List Str := ["parts", "found", "part"]
abbrev p_part_sum : List Str := ["parts"]
theorem sc_part_sum : FnScope n_part_sum p_part_sum (defScope s_part_sum) := ⟨rfl, rfl, rfl, by decide +kernel, rfl, by decide +kernel, by decide +kernel⟩
abbrev s_cells_dot : Stmt := topS 15
abbrev n_cells_dot : List Str := ["row", "other", "near", "far"]
abbrev p_cells_dot : List Str := ["row", "other"]
theorem sc_cells_dot : FnScope n_cells_dot p_cells_dot (defScope s_cells_dot) := ⟨rfl, rfl, rfl, by decide +kernel, rfl, by decide +kernel, by decide +kernel⟩
abbrev s_cells_plus : Stmt := topS 16
abbrev n_cells_plus : List Str := ["row", "other", "near", "far"]
abbrev p_cells_plus : List Str := ["row", "other"]
theorem sc_cells_plus : FnScope n_cells_plus p_cells_plus (defScope s_cells_plus) := ⟨rfl, rfl, rfl, by decide +kernel, rfl, by decide +kernel, by decide +kernel⟩
abbrev s_cells_times : Stmt := topS 17
abbrev n_cells_times : List Str := ["row", "much", "part"]
abbrev p_cells_times : List Str := ["row", "much"]
theorem sc_cells_times : FnScope n_cells_times p_cells_times (defScope s_cells_times) := ⟨rfl, rfl, rfl, by decide +kernel, rfl, by decide +kernel, by decide +kernel⟩
abbrev s_cells_made : Stmt := topS 18
abbrev n_cells_made : List Str := ["rows", "row", "own"]
abbrev p_cells_made : List Str := ["rows", "row"]
theorem sc_cells_made : FnScope n_cells_made p_cells_made (defScope s_cells_made) := ⟨rfl, rfl, rfl, by decide +kernel, rfl, by decide +kernel, by decide +kernel⟩
abbrev s_greatest_part : Stmt := topS 20
abbrev n_greatest_part : List Str := ["parts", "found", "part"]
abbrev p_greatest_part : List Str := ["parts"]
theorem sc_greatest_part : FnScope n_greatest_part p_greatest_part (defScope s_greatest_part) := ⟨rfl, rfl, rfl, by decide +kernel, rfl, by decide +kernel, by decide +kernel⟩
abbrev s_cost : Stmt := topS 21
abbrev n_cost : List Str := ["growth", "row"]
abbrev p_cost : List Str := ["growth", "row"]
theorem sc_cost : FnScope n_cost p_cost (defScope s_cost) := ⟨rfl, rfl, rfl, by decide +kernel, rfl, by decide +kernel, by decide +kernel⟩
abbrev s_mark_apart : Stmt := topS 23
abbrev n_mark_apart : List Str := ["row", "other"]
abbrev p_mark_apart : List Str := ["row", "other"]
theorem sc_mark_apart : FnScope n_mark_apart p_mark_apart (defScope s_mark_apart) := ⟨rfl, rfl, rfl, by decide +kernel, rfl, by decide +kernel, by decide +kernel⟩
abbrev s_corner_turned : Stmt := topS 24
abbrev n_corner_turned : List Str := ["corner", "first", "part"]
abbrev p_corner_turned : List Str := ["corner"]
theorem sc_corner_turned : FnScope n_corner_turned p_corner_turned (defScope s_corner_turned) := ⟨rfl, rfl, rfl, by decide +kernel, rfl, by decide +kernel, by decide +kernel⟩
abbrev s_turned_about : Stmt := topS 25
abbrev n_turned_about : List Str := ["growth", "own", "corner"]
abbrev p_turned_about : List Str := ["growth"]
theorem sc_turned_about : FnScope n_turned_about p_turned_about (defScope s_turned_about) := ⟨rfl, rfl, rfl, by decide +kernel, rfl, by decide +kernel, by decide +kernel⟩
abbrev s_turned_marks : Stmt := topS 26
abbrev n_turned_marks : List Str := ["marks", "amount", "beside", "shown"]
abbrev p_turned_marks : List Str := ["marks"]
theorem sc_turned_marks : FnScope n_turned_marks p_turned_marks (defScope s_turned_marks) := ⟨rfl, rfl, rfl, by decide +kernel, rfl, by decide +kernel, by decide +kernel⟩
abbrev s_mark_row : Stmt := topS 27
abbrev n_mark_row : List Str := ["mark"]
abbrev p_mark_row : List Str := ["mark"]
theorem sc_mark_row : FnScope n_mark_row p_mark_row (defScope s_mark_row) := ⟨rfl, rfl, rfl, by decide +kernel, rfl, by decide +kernel, by decide +kernel⟩
abbrev s_first_apart : Stmt := topS 28
abbrev n_first_apart : List Str := ["gauge", "marks", "own", "some", "number", "near", "other", "far", "most"]
abbrev p_first_apart : List Str := ["gauge", "marks"]
theorem sc_first_apart : FnScope n_first_apart p_first_apart (defScope s_first_apart) := ⟨rfl, rfl, rfl, by decide +kernel, rfl, by decide +kernel, by decide +kernel⟩
abbrev s_marks_fit : Stmt := topS 29
abbrev n_marks_fit : List Str := ["gauge", "marks"]
abbrev p_marks_fit : List Str := ["gauge", "marks"]
theorem sc_marks_fit : FnScope n_marks_fit p_marks_fit (defScope s_marks_fit) := ⟨rfl, rfl, rfl, by decide +kernel, rfl, by decide +kernel, by decide +kernel⟩
abbrev s_sight_row : Stmt := topS 30
abbrev n_sight_row : List Str := ["sight"]
abbrev p_sight_row : List Str := ["sight"]
theorem sc_sight_row : FnScope n_sight_row p_sight_row (defScope s_sight_row) := ⟨rfl, rfl, rfl, by decide +kernel, rfl, by decide +kernel, by decide +kernel⟩
abbrev s_shown_with_marks : Stmt := topS 31
abbrev n_shown_with_marks : List Str := ["gauge", "marks", "row", "least", "most", "mark", "low", "high"]
abbrev p_shown_with_marks : List Str := ["gauge", "marks", "row"]
theorem sc_shown_with_marks : FnScope n_shown_with_marks p_shown_with_marks (defScope s_shown_with_marks) := ⟨rfl, rfl, rfl, by decide +kernel, rfl, by decide +kernel, by decide +kernel⟩
abbrev s_shown_between : Stmt := topS 32
abbrev n_shown_between : List Str := ["gauge", "marks", "amount", "beside"]
abbrev p_shown_between : List Str := ["gauge", "marks", "amount", "beside"]
theorem sc_shown_between : FnScope n_shown_between p_shown_between (defScope s_shown_between) := ⟨rfl, rfl, rfl, by decide +kernel, rfl, by decide +kernel, by decide +kernel⟩
abbrev s_amounts_between : Stmt := topS 33
abbrev n_amounts_between : List Str := ["gauge", "marks", "sight"]
abbrev p_amounts_between : List Str := ["gauge", "marks", "sight"]
theorem sc_amounts_between : FnScope n_amounts_between p_amounts_between (defScope s_amounts_between) := ⟨rfl, rfl, rfl, by decide +kernel, rfl, by decide +kernel, by decide +kernel⟩
abbrev s_L_box : Stmt := topS 35
abbrev n_L_box : List Str := ["_law_script", "_law_k", "_law_cell_so"]
abbrev p_L_box : List Str := ["_law_script", "_law_k"]
theorem sc_L_box : FnScope n_L_box p_L_box (defScope s_L_box) := ⟨rfl, rfl, rfl, by decide +kernel, rfl, by decide +kernel, by decide +kernel⟩
abbrev s_L_take : Stmt := topS 36
abbrev n_L_take : List Str := ["_law_tin", "_law_below_so", "_law_drawn", "_law_once_so", "_law_wide_so", "_law_twice_so"]
abbrev p_L_take : List Str := ["_law_tin", "_law_below_so"]
theorem sc_L_take : FnScope n_L_take p_L_take (defScope s_L_take) := ⟨rfl, rfl, rfl, by decide +kernel, rfl, by decide +kernel, by decide +kernel⟩
abbrev s_L_cells : Stmt := topS 37
abbrev n_L_cells : List Str := ["_law_script", "_law_most_so", "_law_cells_so", "_law_k", "_law_cell_so", "_law_at_so"]
abbrev p_L_cells : List Str := ["_law_script", "_law_most_so"]
theorem sc_L_cells : FnScope n_L_cells p_L_cells (defScope s_L_cells) := ⟨rfl, rfl, rfl, by decide +kernel, rfl, by decide +kernel, by decide +kernel⟩
abbrev s_L_of : Stmt := topS 38
abbrev n_L_of : List Str := ["_law_tin", "_law_goods_so"]
abbrev p_L_of : List Str := ["_law_tin", "_law_goods_so"]
theorem sc_L_of : FnScope n_L_of p_L_of (defScope s_L_of) := ⟨rfl, rfl, rfl, by decide +kernel, rfl, by decide +kernel, by decide +kernel⟩
abbrev s_L_lists : Stmt := topS 39
abbrev n_L_lists : List Str := ["_law_matter", "_law_bit"]
abbrev p_L_lists : List Str := ["_law_matter"]
theorem sc_L_lists : FnScope n_L_lists p_L_lists (defScope s_L_lists) := ⟨rfl, rfl, rfl, by decide +kernel, rfl, by decide +kernel, by decide +kernel⟩
abbrev s_L_same : Stmt := topS 40
abbrev n_L_same : List Str := ["_law_got", "_law_due", "_law_mine", "_law_its"]
abbrev p_L_same : List Str := ["_law_got", "_law_due"]
theorem sc_L_same : FnScope n_L_same p_L_same (defScope s_L_same) := ⟨rfl, rfl, rfl, by decide +kernel, rfl, by decide +kernel, by decide +kernel⟩
abbrev s_L_gcd : Stmt := topS 41
abbrev n_L_gcd : List Str := ["_law_one_so", "_law_two_so"]
abbrev p_L_gcd : List Str := ["_law_one_so", "_law_two_so"]
theorem sc_L_gcd : FnScope n_L_gcd p_L_gcd (defScope s_L_gcd) := ⟨rfl, rfl, rfl, by decide +kernel, rfl, by decide +kernel, by decide +kernel⟩
abbrev s_L_fr : Stmt := topS 42
abbrev n_L_fr : List Str := ["_law_top_so", "_law_base_so", "_law_deep_so"]
abbrev p_L_fr : List Str := ["_law_top_so", "_law_base_so"]
theorem sc_L_fr : FnScope n_L_fr p_L_fr (defScope s_L_fr) := ⟨rfl, rfl, rfl, by decide +kernel, rfl, by decide +kernel, by decide +kernel⟩
abbrev s_L_sum : Stmt := topS 43
abbrev n_L_sum : List Str := ["_law_one_so", "_law_two_so"]
abbrev p_L_sum : List Str := ["_law_one_so", "_law_two_so"]
theorem sc_L_sum : FnScope n_L_sum p_L_sum (defScope s_L_sum) := ⟨rfl, rfl, rfl, by decide +kernel, rfl, by decide +kernel, by decide +kernel⟩
abbrev s_L_less_by : Stmt := topS 44
abbrev n_L_less_by : List Str := ["_law_one_so", "_law_two_so"]
abbrev p_L_less_by : List Str := ["_law_one_so", "_law_two_so"]
theorem sc_L_less_by : FnScope n_L_less_by p_L_less_by (defScope s_L_less_by) := ⟨rfl, rfl, rfl, by decide +kernel, rfl, by decide +kernel, by decide +kernel⟩
abbrev s_L_mul : Stmt := topS 45
abbrev n_L_mul : List Str := ["_law_one_so", "_law_two_so"]
abbrev p_L_mul : List Str := ["_law_one_so", "_law_two_so"]
theorem sc_L_mul : FnScope n_L_mul p_L_mul (defScope s_L_mul) := ⟨rfl, rfl, rfl, by decide +kernel, rfl, by decide +kernel, by decide +kernel⟩
abbrev s_L_over : Stmt := topS 46
abbrev n_L_over : List Str := ["_law_one_so", "_law_two_so"]
abbrev p_L_over : List Str := ["_law_one_so", "_law_two_so"]
theorem sc_L_over : FnScope n_L_over p_L_over (defScope s_L_over) := ⟨rfl, rfl, rfl, by decide +kernel, rfl, by decide +kernel, by decide +kernel⟩
abbrev s_L_under : Stmt := topS 47
abbrev n_L_under : List Str := ["_law_one_so", "_law_two_so"]
abbrev p_L_under : List Str := ["_law_one_so", "_law_two_so"]
theorem sc_L_under : FnScope n_L_under p_L_under (defScope s_L_under) := ⟨rfl, rfl, rfl, by decide +kernel, rfl, by decide +kernel, by decide +kernel⟩
abbrev s_L_is_fr : Stmt := topS 48
abbrev n_L_is_fr : List Str := ["_law_own", "_law_bit"]
abbrev p_L_is_fr : List Str := ["_law_own"]
theorem sc_L_is_fr : FnScope n_L_is_fr p_L_is_fr (defScope s_L_is_fr) := ⟨rfl, rfl, rfl, by decide +kernel, rfl, by decide +kernel, by decide +kernel⟩
abbrev s_L_is_row : Stmt := topS 49
abbrev n_L_is_row : List Str := ["_law_own", "_law_size_so", "_law_bit"]
abbrev p_L_is_row : List Str := ["_law_own", "_law_size_so"]
theorem sc_L_is_row : FnScope n_L_is_row p_L_is_row (defScope s_L_is_row) := ⟨rfl, rfl, rfl, by decide +kernel, rfl, by decide +kernel, by decide +kernel⟩
abbrev s_L_dot : Stmt := topS 50
abbrev n_L_dot : List Str := ["_law_one_so", "_law_two_so", "_law_found", "_law_near_so", "_law_far_so"]
abbrev p_L_dot : List Str := ["_law_one_so", "_law_two_so"]
theorem sc_L_dot : FnScope n_L_dot p_L_dot (defScope s_L_dot) := ⟨rfl, rfl, rfl, by decide +kernel, rfl, by decide +kernel, by decide +kernel⟩
abbrev s_L_small : Stmt := topS 51
abbrev n_L_small : List Str := ["_law_tin"]
abbrev p_L_small : List Str := ["_law_tin"]
theorem sc_L_small : FnScope n_L_small p_L_small (defScope s_L_small) := ⟨rfl, rfl, rfl, by decide +kernel, rfl, by decide +kernel, by decide +kernel⟩
abbrev s_L_row : Stmt := topS 52
abbrev n_L_row : List Str := ["_law_tin", "_law_size_so", "_law_k"]
abbrev p_L_row : List Str := ["_law_tin", "_law_size_so"]
theorem sc_L_row : FnScope n_L_row p_L_row (defScope s_L_row) := ⟨rfl, rfl, rfl, by decide +kernel, rfl, by decide +kernel, by decide +kernel⟩
abbrev s_L_are_long : Stmt := topS 53
abbrev n_L_are_long : List Str := ["_law_own", "_law_sizes_so", "_law_bit", "_law_size_so"]
abbrev p_L_are_long : List Str := ["_law_own", "_law_sizes_so"]
theorem sc_L_are_long : FnScope n_L_are_long p_L_are_long (defScope s_L_are_long) := ⟨rfl, rfl, rfl, by decide +kernel, rfl, by decide +kernel, by decide +kernel⟩
abbrev s_L_dear : Stmt := topS 54
abbrev n_L_dear : List Str := ["_law_growth_so", "_law_row_so", "_law_found", "_law_own", "_law_shown_so"]
abbrev p_L_dear : List Str := ["_law_growth_so", "_law_row_so"]
theorem sc_L_dear : FnScope n_L_dear p_L_dear (defScope s_L_dear) := ⟨rfl, rfl, rfl, by decide +kernel, rfl, by decide +kernel, by decide +kernel⟩
abbrev s_L_apart : Stmt := topS 55
abbrev n_L_apart : List Str := ["_law_far_so", "_law_near_so", "_law_mine", "_law_its"]
abbrev p_L_apart : List Str := ["_law_far_so", "_law_near_so"]
theorem sc_L_apart : FnScope n_L_apart p_L_apart (defScope s_L_apart) := ⟨rfl, rfl, rfl, by decide +kernel, rfl, by decide +kernel, by decide +kernel⟩
abbrev s_L_mark_row : Stmt := topS 56
abbrev n_L_mark_row : List Str := ["_law_mark_so"]
abbrev p_L_mark_row : List Str := ["_law_mark_so"]
theorem sc_L_mark_row : FnScope n_L_mark_row p_L_mark_row (defScope s_L_mark_row) := ⟨rfl, rfl, rfl, by decide +kernel, rfl, by decide +kernel, by decide +kernel⟩
abbrev s_L_rises : Stmt := topS 57
abbrev n_L_rises : List Str := ["_law_growth_so", "_law_near_so", "_law_far_so", "_law_most_so"]
abbrev p_L_rises : List Str := ["_law_growth_so", "_law_near_so", "_law_far_so"]
theorem sc_L_rises : FnScope n_L_rises p_L_rises (defScope s_L_rises) := ⟨rfl, rfl, rfl, by decide +kernel, rfl, by decide +kernel, by decide +kernel⟩
abbrev s_L_marks_fit : Stmt := topS 58
abbrev n_L_marks_fit : List Str := ["_law_growth_so", "_law_marks_so", "_law_near_so", "_law_far_so"]
abbrev p_L_marks_fit : List Str := ["_law_growth_so", "_law_marks_so"]
theorem sc_L_marks_fit : FnScope n_L_marks_fit p_L_marks_fit (defScope s_L_marks_fit) := ⟨rfl, rfl, rfl, by decide +kernel, rfl, by decide +kernel, by decide +kernel⟩
abbrev s_L_own_turned : Stmt := topS 59
abbrev n_L_own_turned : List Str := ["_law_gauge_so", "_law_found", "_law_corner_so", "_law_first_so", "_law_bit"]
abbrev p_L_own_turned : List Str := ["_law_gauge_so"]
theorem sc_L_own_turned : FnScope n_L_own_turned p_L_own_turned (defScope s_L_own_turned) := ⟨rfl, rfl, rfl, by decide +kernel, rfl, by decide +kernel, by decide +kernel⟩
abbrev s_L_swapped : Stmt := topS 60
abbrev n_L_swapped : List Str := ["_law_marks_so", "_law_own"]
abbrev p_L_swapped : List Str := ["_law_marks_so"]
theorem sc_L_swapped : FnScope n_L_swapped p_L_swapped (defScope s_L_swapped) := ⟨rfl, rfl, rfl, by decide +kernel, rfl, by decide +kernel, by decide +kernel⟩
abbrev s_L_fitting_marks : Stmt := topS 61
abbrev n_L_fitting_marks : List Str := ["_law_tin", "_law_gauge_so", "_law_k_so", "_law_many_so", "_law_found", "_law_lap", "_law_row_so", "_law_low_so", "_law_high_so", "_law_own", "_law_up_so", "_law_down_so", "_law_part_so", "_law_shown_so"]
abbrev p_L_fitting_marks : List Str := ["_law_tin", "_law_gauge_so", "_law_k_so", "_law_many_so"]
theorem sc_L_fitting_marks : FnScope n_L_fitting_marks p_L_fitting_marks (defScope s_L_fitting_marks) := ⟨rfl, rfl, rfl, by decide +kernel, rfl, by decide +kernel, by decide +kernel⟩
abbrev s_L_any_gauge : Stmt := topS 62
abbrev n_L_any_gauge : List Str := ["_law_tin", "_law_k_so", "_law_corners_so", "_law_first_so", "_law_alike_so", "_law_lap", "_law_lead_so"]
abbrev p_L_any_gauge : List Str := ["_law_tin", "_law_k_so"]
theorem sc_L_any_gauge : FnScope n_L_any_gauge p_L_any_gauge (defScope s_L_any_gauge) := ⟨rfl, rfl, rfl, by decide +kernel, rfl, by decide +kernel, by decide +kernel⟩
abbrev s_L_heard : Stmt := topS 63
abbrev n_L_heard : List Str := ["_law_door", "_law_gauge_so", "_law_marks_so", "_law_sight_so", "_law_amount_so", "error"]
abbrev p_L_heard : List Str := ["_law_door", "_law_gauge_so", "_law_marks_so", "_law_sight_so", "_law_amount_so"]
theorem sc_L_heard : FnScope n_L_heard p_L_heard (defScope s_L_heard) := ⟨rfl, rfl, rfl, by decide +kernel, rfl, by decide +kernel, by decide +kernel⟩
abbrev s_L_by_hand_right : Stmt := topS 64
abbrev n_L_by_hand_right : List Str := ["_law_o", "_law_i", "_law_two", "_law_three", "_law_half", "_law_lean", "_law_near", "_law_got", "_law_due", "_law_door"]
abbrev p_L_by_hand_right : List Str := []
theorem sc_L_by_hand_right : FnScope n_L_by_hand_right p_L_by_hand_right (defScope s_L_by_hand_right) := ⟨rfl, rfl, rfl, by decide +kernel, rfl, by decide +kernel, by decide +kernel⟩
abbrev s_L_own_between : Stmt := topS 65
abbrev n_L_own_between : List Str := ["_law_gauge_so", "_law_marks_so", "_law_row_so", "_law_low_so", "_law_high_so", "_law_own", "_law_up_so", "_law_down_so"]
abbrev p_L_own_between : List Str := ["_law_gauge_so", "_law_marks_so", "_law_row_so"]
theorem sc_L_own_between : FnScope n_L_own_between p_L_own_between (defScope s_L_own_between) := ⟨rfl, rfl, rfl, by decide +kernel, rfl, by decide +kernel, by decide +kernel⟩
abbrev s_L_ends_right : Stmt := topS 66
abbrev n_L_ends_right : List Str := ["_law_gauge_so", "_law_marks_so", "_law_told_so", "_law_beside_so", "_law_row_so", "_law_low_so", "_law_high_so", "_law_middle_so", "_law_own"]
abbrev p_L_ends_right : List Str := ["_law_gauge_so", "_law_marks_so", "_law_told_so", "_law_beside_so", "_law_row_so"]
theorem sc_L_ends_right : FnScope n_L_ends_right p_L_ends_right (defScope s_L_ends_right) := ⟨rfl, rfl, rfl, by decide +kernel, rfl, by decide +kernel, by decide +kernel⟩
abbrev s_L_right : Stmt := topS 67
abbrev n_L_right : List Str := ["_law_tin", "_law_k_so", "_law_gauge_so", "_law_marks_so", "_law_own", "_law_amount_so", "_law_beside_so", "_law_shown_so", "_law_sight_so", "_law_back_so", "_law_told_so", "_law_near_so", "_law_door", "_law_due", "_law_more_so", "_law_other_so", "_law_wide_so", "_law_less_so"]
abbrev p_L_right : List Str := ["_law_tin"]
theorem sc_L_right : FnScope n_L_right p_L_right (defScope s_L_right) := ⟨rfl, rfl, rfl, by decide +kernel, rfl, by decide +kernel, by decide +kernel⟩
abbrev s_L_law : Stmt := topS 68
abbrev n_L_law : List Str := ["_law_script", "_law_cells_so", "_law_k"]
abbrev p_L_law : List Str := ["_law_script"]
theorem sc_L_law : FnScope n_L_law p_L_law (defScope s_L_law) := ⟨rfl, rfl, rfl, by decide +kernel, rfl, by decide +kernel, by decide +kernel⟩
end K10

set_option maxRecDepth 100000
set_option maxHeartbeats 4100000
namespace K10
open L2 PyProof.Rows PySem.Spec PySem
/-! data of fractions, rows, tables, marks -/
def fr (q : Rat) : Dt := .tuple [.int q.num, .int (q.den : Int)]
def row (qs : List Rat) : Dt := .tuple (qs.map fr)
def tab (g : List (List Rat)) : Dt := .tuple (g.map row)
structure Mk where
  am : Rat
  be : List Rat
  sh : Rat
def Mk.d (m : Mk) : Dt := .tuple [fr m.am, row m.be, fr m.sh]
def mks (ms : List Mk) : Dt := .tuple (ms.map Mk.d)
def SzAll (n : Nat) (qs : List Rat) : Prop := ∀ q ∈ qs, Sz n q
theorem SzAll.at {n : Nat} {qs : List Rat} (h : SzAll n qs) {i : Nat} {q : Rat} (e : qs[i]? = some q) : Sz n q := h q (List.mem_of_getElem? e)
theorem SzAll.mono {m n : Nat} {qs : List Rat} (h : SzAll m qs) (k : m ≤ n) : SzAll n qs := fun q hq => (h q hq).mono k
def qsum (qs : List Rat) : Rat := qs.foldl (· + ·) 0
theorem qsum_snoc (qs : List Rat) (q : Rat) : qsum (qs ++ [q]) = qsum qs + q := by unfold qsum; rw [List.foldl_append]; rfl
theorem take_snoc {α : Type} {l : List α} {i : Nat} {x : α} (h : l[i]? = some x) : l.take (i + 1) = l.take i ++ [x] := by rw [List.take_add_one, h]; rfl
theorem sz_zero {n : Nat} (h : 0 < n) : Sz n 0 := ⟨Nat.pow_pos (by decide), Nat.lt_of_lt_of_le (by decide : 1 < 2 ^ 1) (Nat.pow_le_pow_right (by decide) h)⟩
theorem qsum_sz {n : Nat} : ∀ {qs : List Rat}, SzAll n qs → Sz (1 + qs.length * (n + 1)) (qsum qs) := by
  intro qs
  induction h : qs.length generalizing qs with
  | zero => intro _; rw [List.eq_nil_of_length_eq_zero h]; exact sz_zero (by omega)
  | succ m ih =>
    intro hs
    have hne : qs ≠ [] := fun z => by rw [z] at h; cases h
    have e := (List.dropLast_concat_getLast hne).symm
    have hl : qs.dropLast.length = m := by rw [List.length_dropLast]; omega
    have h1 := ih hl (fun q hq => hs q (List.dropLast_subset qs hq))
    have h2 := hs _ (List.getLast_mem hne)
    rw [e, qsum_snoc]
    refine (h1.add h2).mono ?_
    have : (m + 1) * (n + 1) = m * (n + 1) + (n + 1) := Nat.succ_mul m (n + 1)
    omega
def dot (xs ys : List Rat) : Rat := qsum ((xs.zip ys).map fun p => p.1 * p.2)
theorem dot_sz {m n : Nat} {xs ys : List Rat} (hx : SzAll m xs) (hy : SzAll n ys) : Sz (1 + xs.length * (m + n + 1)) (dot xs ys) := by
  have h : SzAll (m + n) ((xs.zip ys).map fun p => p.1 * p.2) := fun q hq => by
    rcases List.mem_map.mp hq with ⟨p, hp, rfl⟩
    have h1 : p.1 ∈ xs := (List.of_mem_zip (show (p.1, p.2) ∈ xs.zip ys from hp)).1
    have h2 : p.2 ∈ ys := (List.of_mem_zip (show (p.1, p.2) ∈ xs.zip ys from hp)).2
    exact (hx _ h1).mul (hy _ h2)
  refine (qsum_sz h).mono ?_
  rw [List.length_map, List.length_zip]
  have : min xs.length ys.length * (m + n + 1) ≤ xs.length * (m + n + 1) := Nat.mul_le_mul_right _ (Nat.min_le_left _ _)
  omega
theorem map_get {α β : Type} {f : α → β} {l : List α} {i : Nat} {d : β} (h : (l.map f)[i]? = some d) : ∃ x, l[i]? = some x ∧ d = f x := by
  rw [List.getElem?_map] at h
  cases q : l[i]? with
  | none => rw [q] at h; cases h
  | some x => rw [q] at h; exact ⟨x, rfl, (Option.some.inj h).symm⟩
theorem pairs_row (xs ys : List Rat) : pairsD (xs.map fr) (ys.map fr) = (xs.zip ys).map fun p => PyData.tuple [fr p.1, fr p.2] := by
  unfold pairsD
  rw [List.zip_map, List.map_map]; rfl
end K10

set_option maxRecDepth 100000
set_option maxHeartbeats 4100000
namespace K10
open L2 PyProof.Rows PySem.Spec PySem

local macro_rules | `(tactic| walk_at "xv") => `(tactic| first
  | refine xe_var (i := 0) rfl ?_ | refine xe_var (i := 1) rfl ?_ | refine xe_var (i := 2) rfl ?_ | refine xe_var (i := 3) rfl ?_
  | refine xe_var (i := 4) rfl ?_ | refine xe_var (i := 5) rfl ?_ | refine xe_var (i := 6) rfl ?_ | refine xe_var (i := 7) rfl ?_
  | refine xe_var (i := 8) rfl ?_ | refine xe_var (i := 9) rfl ?_ | refine xe_var (i := 10) rfl ?_ | refine xe_var (i := 11) rfl ?_
  | refine xe_var (i := 12) rfl ?_ | refine xe_var (i := 13) rfl ?_ | refine xe_var (i := 14) rfl ?_ | refine xe_var (i := 15) rfl ?_)
local macro_rules | `(tactic| walk_at "xset") => `(tactic| first
  | refine xs_set (i := 0) (by assumption) rfl (by first | exact .inl rfl | exact .inr rfl) ?_ | refine xs_set (i := 1) (by assumption) rfl (by first | exact .inl rfl | exact .inr rfl) ?_
  | refine xs_set (i := 2) (by assumption) rfl (by first | exact .inl rfl | exact .inr rfl) ?_ | refine xs_set (i := 3) (by assumption) rfl (by first | exact .inl rfl | exact .inr rfl) ?_
  | refine xs_set (i := 4) (by assumption) rfl (by first | exact .inl rfl | exact .inr rfl) ?_ | refine xs_set (i := 5) (by assumption) rfl (by first | exact .inl rfl | exact .inr rfl) ?_
  | refine xs_set (i := 6) (by assumption) rfl (by first | exact .inl rfl | exact .inr rfl) ?_ | refine xs_set (i := 7) (by assumption) rfl (by first | exact .inl rfl | exact .inr rfl) ?_
  | refine xs_set (i := 8) (by assumption) rfl (by first | exact .inl rfl | exact .inr rfl) ?_ | refine xs_set (i := 9) (by assumption) rfl (by first | exact .inl rfl | exact .inr rfl) ?_
  | refine xs_set (i := 10) (by assumption) rfl (by first | exact .inl rfl | exact .inr rfl) ?_ | refine xs_set (i := 11) (by assumption) rfl (by first | exact .inl rfl | exact .inr rfl) ?_)
local macro_rules | `(tactic| walk_at "xname") => `(tactic| first
  | refine xg_name (i := 0) (by assumption) rfl (by first | exact .inl rfl | exact .inr rfl) | refine xg_name (i := 1) (by assumption) rfl (by first | exact .inl rfl | exact .inr rfl)
  | refine xg_name (i := 2) (by assumption) rfl (by first | exact .inl rfl | exact .inr rfl) | refine xg_name (i := 3) (by assumption) rfl (by first | exact .inl rfl | exact .inr rfl)
  | refine xg_name (i := 4) (by assumption) rfl (by first | exact .inl rfl | exact .inr rfl) | refine xg_name (i := 5) (by assumption) rfl (by first | exact .inl rfl | exact .inr rfl)
  | refine xg_name (i := 6) (by assumption) rfl (by first | exact .inl rfl | exact .inr rfl) | refine xg_name (i := 7) (by assumption) rfl (by first | exact .inl rfl | exact .inr rfl)
  | refine xg_name (i := 8) (by assumption) rfl (by first | exact .inl rfl | exact .inr rfl) | refine xg_name (i := 9) (by assumption) rfl (by first | exact .inl rfl | exact .inr rfl)
  | refine xg_name (i := 10) (by assumption) rfl (by first | exact .inl rfl | exact .inr rfl) | refine xg_name (i := 11) (by assumption) rfl (by first | exact .inl rfl | exact .inr rfl))
local macro_rules | `(tactic| walk_at "xcall") => `(tactic|
  (refine xe_call (by assumption) (Room.mono (by assumption) (by decide)) ?_))
local macro_rules | `(tactic| walk_at "x1") => `(tactic| first
  | refine xa_nil ?_ | refine xa_cons ?_ | refine xe_int ?_ | refine xe_bl ?_ | refine xe_non ?_ | refine xe_str ?_
  | walk_at "xv"
  | refine xe_tup ?_ | refine xe_lst ?_
  | refine xe_add ?_ | refine xe_sub ?_
  | refine xe_ixT ?_
  | refine xe_neg ?_
  | refine xss_nil ?_ | refine xss_cons ?_ | refine xs_ret ?_ | walk_at "xset" | refine xs_if ?_
  | refine r2_int0 ?_ | refine r2_bool0 ?_ | refine r2_eqI ?_ | refine r2_neI ?_ | refine r1_neg ?_ | refine r2_ix0 ?_ | refine r2_ix1 ?_ | refine r2_ix2 ?_
  | refine xt_lt ?_ | refine xt_le ?_ | refine xt_gt ?_ | refine xt_ge ?_
  | refine xe_lt ?_ | refine xe_le ?_ | refine xe_gt ?_ | refine xe_ge ?_
  | refine xt_not ?_
  | walk_at "xcall")
local macro_rules | `(tactic| walk_at "xp") => `(tactic| repeat (walk_at "x1"))

abbrev R_part_of : RR := fun ds P => ∃ (n : Nat) (a b : Int), ds = [.int a, .int b] ∧ n ≤ 8999 ∧ 0 < n ∧ 0 < b ∧ a.natAbs < 2 ^ n ∧ b.natAbs < 2 ^ n ∧ P (fr (Rat.divInt a b))
section
variable {P : Program} {w : World} {K : Fg} {mg : Str → Option Value} {base : Heap} {f : Addr} {fd : FuncData}
theorem ok_part_of (F : Fun K "part_of" "part_of" s_part_of f fd) (gg : mg "gcd" = some (.builtin "math.gcd")) : FnOk P w K mg base CX0 1 f fd p_part_of (spP K R_part_of) := by
  refine fnP F sc_part_of (fun ds P h => ?_) (fun X B ds Pr hX hr h => ?_)
  · obtain ⟨n, a, b, rfl, _⟩ := h; rfl
  · obtain ⟨cdv, A, outer, s, H, E, rfl⟩ := hX
    have nd := sc_part_of.nd
    obtain ⟨n, a, b, rfl, n1, n2, hb, ha, hbb, hP⟩ := h
    obtain ⟨e1, e2⟩ := divInt_parts a hb
    have hg := gcd_pos_of a hb
    have gle : ((Nat.gcd a.natAbs b.natAbs : Nat) : Int).natAbs < 2 ^ n := by
      have : Nat.gcd a.natAbs b.natAbs ≤ b.natAbs := Nat.gcd_le_right _ (by omega)
      rw [Int.natAbs_natCast]; omega
    walk_at "xp"
    refine xe_callF cr_gcd gg ?_
    walk_at "xp"
    refine rn_gcd ?_
    walk_at "xp"
    refine ⟨_, rfl, ?_⟩
    rw [show decide (b < 0) = false from decide_eq_false (by omega)]
    refine iteF ?_
    walk_at "xp"
    refine xe_divW ?_
    walk_at "xp"
    refine r2_int (wide_div hg gle n2 (by omega)) ?_
    walk_at "xp"
    refine xe_divW ?_
    walk_at "xp"
    refine r2_int (wide_div hg gle n2 (by omega)) ?_
    walk_at "xp"
    refine ⟨[.int _, .int _], rfl, Nat.le_of_ble_eq_true rfl, _, rfl, ?_⟩
    rw [← e1, ← e2]
    exact hP
/-- a fraction of two -/
abbrev R_plus : RR := fun ds P => ∃ (m n : Nat) (p q : Rat), ds = [fr p, fr q] ∧ 0 < m ∧ 0 < n ∧ m + n ≤ 8000 ∧ Sz m p ∧ Sz n q ∧ P (fr (p + q))
abbrev R_times : RR := fun ds P => ∃ (m n : Nat) (p q : Rat), ds = [fr p, fr q] ∧ 0 < m ∧ 0 < n ∧ m + n ≤ 8000 ∧ Sz m p ∧ Sz n q ∧ P (fr (p * q))
abbrev R_less : RR := fun ds P => ∃ (m n : Nat) (p q : Rat), ds = [fr p, fr q] ∧ 0 < m ∧ 0 < n ∧ m + n ≤ 8000 ∧ Sz m p ∧ Sz n q ∧ P (fr (p - q))
abbrev R_over : RR := fun ds P => ∃ (m n : Nat) (p q : Rat), ds = [fr p, fr q] ∧ 0 < m ∧ 0 < n ∧ m + n ≤ 8000 ∧ Sz m p ∧ Sz n q ∧ 0 < q ∧ P (fr (p / q))
abbrev R_minus : RR := fun ds P => ∃ (p : Rat), ds = [fr p] ∧ P (fr (-p))
abbrev R_below : RR := fun ds P => ∃ (m n : Nat) (p q : Rat), ds = [fr p, fr q] ∧ 0 < m ∧ 0 < n ∧ m + n ≤ 8000 ∧ Sz m p ∧ Sz n q ∧ P (.bool (decide (p < q)))
theorem ok_part_minus (F : Fun K "part_minus" "part_minus" s_part_minus f fd) : FnOk P w K mg base CX0 1 f fd p_part_minus (spP K R_minus) := by
  refine fnP F sc_part_minus (fun ds P h => ?_) (fun X B ds Pr hX hr h => ?_)
  · obtain ⟨p, rfl, _⟩ := h; rfl
  · obtain ⟨cdv, A, outer, s, H, E, rfl⟩ := hX
    have nd := sc_part_minus.nd
    obtain ⟨p, rfl, hP⟩ := h
    walk_at "xp"
    refine ⟨[.int _, .int _], rfl, Nat.le_of_ble_eq_true rfl, _, rfl, hP⟩
theorem ok_part_below (F : Fun K "part_below" "part_below" s_part_below f fd) : FnOk P w K mg base CX0 1 f fd p_part_below (spP K R_below) := by
  refine fnP F sc_part_below (fun ds P h => ?_) (fun X B ds Pr hX hr h => ?_)
  · obtain ⟨m, n, p, q, rfl, _⟩ := h; rfl
  · obtain ⟨cdv, A, outer, s, H, E, rfl⟩ := hX
    have nd := sc_part_below.nd
    obtain ⟨m, n, p, q, rfl, m1, n1, mn, hp, hq, hP⟩ := h
    walk_at "xp"
    refine xe_mulW ?_
    walk_at "xp"
    refine r2_int (wide_mul hp.nu hq.deI m1 n1 (by omega)) ?_
    refine xe_mulW ?_
    walk_at "xp"
    refine r2_int (wide_mul hq.nu hp.deI n1 m1 (by omega)) ?_
    walk_at "xp"
    refine ⟨_, rfl, ?_⟩
    rw [lt_num]
    exact hP
theorem ok_part_over (F : Fun K "part_over" "part_over" s_part_over f fd) (hO : Has P w K mg base CX0 1 "part_of" p_part_of (spP K R_part_of)) : FnOk P w K mg base CX0 2 f fd p_part_over (spP K R_over) := by
  refine fnP F sc_part_over (fun ds P h => ?_) (fun X B ds Pr hX hr h => ?_)
  · obtain ⟨m, n, p, q, rfl, _⟩ := h; rfl
  · obtain ⟨cdv, A, outer, s, H, E, rfl⟩ := hX
    have nd := sc_part_over.nd
    obtain ⟨m, n, p, q, rfl, m1, n1, mn, hp, hq, q0, hP⟩ := h
    walk_at "xp"
    refine xe_mulW ?_
    walk_at "xp"
    refine r2_int (wide_mul hp.nu hq.deI m1 n1 (by omega)) ?_
    walk_at "xp"
    refine xe_mulW ?_
    walk_at "xp"
    refine r2_int (wide_mul hp.deI hq.nu m1 n1 (by omega)) ?_
    walk_at "xp"
    refine ⟨[.int _, .int _], rfl, m + n, _, _, rfl, by omega, by omega, Int.mul_pos (den_pos' p) (num_pos q0), mulI_lt hp.nu hq.deI, mulI_lt hp.deI hq.nu, _, rfl, ?_⟩
    rw [← rat_div p q (num_pos q0)]
    exact hP
theorem ok_part_plus (F : Fun K "part_plus" "part_plus" s_part_plus f fd) (hO : Has P w K mg base CX0 1 "part_of" p_part_of (spP K R_part_of)) : FnOk P w K mg base CX0 2 f fd p_part_plus (spP K R_plus) := by
  refine fnP F sc_part_plus (fun ds P h => ?_) (fun X B ds Pr hX hr h => ?_)
  · obtain ⟨m, n, p, q, rfl, _⟩ := h; rfl
  · obtain ⟨cdv, A, outer, s, H, E, rfl⟩ := hX
    have nd := sc_part_plus.nd
    obtain ⟨m, n, p, q, rfl, m1, n1, mn, hp, hq, hP⟩ := h
    have gen : XSs (cx0 P w K mg base n_part_plus "part_plus" s_part_plus f cdv A outer s H E) B (slots0 n_part_plus ([fr p, fr q].map W.d)) [] ((defBody s_part_plus).drop 1) { nx := fun _ _ _ => Pr .none, rt := fun v _ => ∃ d, v = .d d ∧ Pr d } := by
      walk_at "xp"
      refine xe_mulW ?_
      walk_at "xp"
      refine r2_int (wide_mul hp.nu hq.deI m1 n1 (by omega)) ?_
      refine xe_mulW ?_
      walk_at "xp"
      refine r2_int (wide_mul hq.nu hp.deI n1 m1 (by omega)) ?_
      walk_at "xp"
      refine xe_mulW ?_
      walk_at "xp"
      refine r2_int (wide_mul hp.deI hq.deI m1 n1 (by omega)) ?_
      walk_at "xp"
      refine ⟨[.int _, .int _], rfl, m + n + 1, _, _, rfl, by omega, by omega, Int.mul_pos (den_pos' p) (den_pos' q), hp.top hq, Nat.lt_of_lt_of_le (hp.bot hq) (Nat.pow_le_pow_right (by decide) (by omega)), _, rfl, ?_⟩
      rw [← rat_add p q]
      exact hP
    walk_at "xp"
    refine xt_w (xw_and (xt_eqI ?_))
    walk_at "xp"
    refine ⟨_, rfl, ite2 (fun e1 => ?_) (fun _ => ?_)⟩
    · refine xw_and1 (xt_eqI ?_)
      walk_at "xp"
      refine ⟨_, rfl, ite2 (fun e2 => ?_) (fun _ => ?_)⟩
      · have d1 : p.den = 1 := by have := of_decide_eq_true e1; omega
        have d2 : q.den = 1 := by have := of_decide_eq_true e2; omega
        obtain ⟨a1, a2⟩ := add_ints d1 d2
        walk_at "xp"
        refine ⟨[.int _, .int _], rfl, Nat.le_of_ble_eq_true rfl, _, rfl, ?_⟩
        have e : fr (p + q) = .tuple [.int (p.num + q.num), .int 1] := by unfold fr; rw [a1, a2]; rfl
        rw [e] at hP
        exact hP
      · refine xss_nil gen
    · refine (iteF ?_)
      refine xss_nil gen
theorem ok_part_times (F : Fun K "part_times" "part_times" s_part_times f fd) (hO : Has P w K mg base CX0 1 "part_of" p_part_of (spP K R_part_of)) : FnOk P w K mg base CX0 2 f fd p_part_times (spP K R_times) := by
  refine fnP F sc_part_times (fun ds P h => ?_) (fun X B ds Pr hX hr h => ?_)
  · obtain ⟨m, n, p, q, rfl, _⟩ := h; rfl
  · obtain ⟨cdv, A, outer, s, H, E, rfl⟩ := hX
    have nd := sc_part_times.nd
    obtain ⟨m, n, p, q, rfl, m1, n1, mn, hp, hq, hP⟩ := h
    have gen : XSs (cx0 P w K mg base n_part_times "part_times" s_part_times f cdv A outer s H E) B (slots0 n_part_times ([fr p, fr q].map W.d)) [] ((defBody s_part_times).drop 1) { nx := fun _ _ _ => Pr .none, rt := fun v _ => ∃ d, v = .d d ∧ Pr d } := by
      walk_at "xp"
      refine xe_mulW ?_
      walk_at "xp"
      refine r2_int (wide_mul hp.nu hq.nu m1 n1 (by omega)) ?_
      walk_at "xp"
      refine xe_mulW ?_
      walk_at "xp"
      refine r2_int (wide_mul hp.deI hq.deI m1 n1 (by omega)) ?_
      walk_at "xp"
      refine ⟨[.int _, .int _], rfl, m + n, _, _, rfl, by omega, by omega, Int.mul_pos (den_pos' p) (den_pos' q), mulI_lt hp.nu hq.nu, hp.bot hq, _, rfl, ?_⟩
      rw [← rat_mul p q]
      exact hP
    walk_at "xp"
    refine xt_w (xw_and (xt_eqI ?_))
    walk_at "xp"
    refine ⟨_, rfl, ite2 (fun e1 => ?_) (fun _ => ?_)⟩
    · refine xw_and1 (xt_eqI ?_)
      walk_at "xp"
      refine ⟨_, rfl, ite2 (fun e2 => ?_) (fun _ => ?_)⟩
      · have d1 : p.den = 1 := by have := of_decide_eq_true e1; omega
        have d2 : q.den = 1 := by have := of_decide_eq_true e2; omega
        obtain ⟨a1, a2⟩ := mul_ints d1 d2
        walk_at "xp"
        refine xe_mulW ?_
        walk_at "xp"
        refine r2_int (wide_mul hp.nu hq.nu m1 n1 (by omega)) ?_
        walk_at "xp"
        refine ⟨[.int _, .int _], rfl, Nat.le_of_ble_eq_true rfl, _, rfl, ?_⟩
        have e : fr (p * q) = .tuple [.int (p.num * q.num), .int 1] := by unfold fr; rw [a1, a2]; rfl
        rw [e] at hP
        exact hP
      · refine xss_nil gen
    · refine (iteF ?_)
      refine xss_nil gen
end
end K10

set_option maxRecDepth 100000
set_option maxHeartbeats 4100000
namespace K10
open L2 PyProof.Rows PySem.Spec PySem
local macro_rules | `(tactic| walk_at "xv") => `(tactic| first
  | refine xe_var (i := 0) rfl ?_ | refine xe_var (i := 1) rfl ?_ | refine xe_var (i := 2) rfl ?_ | refine xe_var (i := 3) rfl ?_
  | refine xe_var (i := 4) rfl ?_ | refine xe_var (i := 5) rfl ?_ | refine xe_var (i := 6) rfl ?_ | refine xe_var (i := 7) rfl ?_
  | refine xe_var (i := 8) rfl ?_ | refine xe_var (i := 9) rfl ?_ | refine xe_var (i := 10) rfl ?_ | refine xe_var (i := 11) rfl ?_
  | refine xe_var (i := 12) rfl ?_ | refine xe_var (i := 13) rfl ?_ | refine xe_var (i := 14) rfl ?_ | refine xe_var (i := 15) rfl ?_)
local macro_rules | `(tactic| walk_at "xset") => `(tactic| first
  | refine xs_set (i := 0) (by assumption) rfl (by first | exact .inl rfl | exact .inr rfl) ?_ | refine xs_set (i := 1) (by assumption) rfl (by first | exact .inl rfl | exact .inr rfl) ?_
  | refine xs_set (i := 2) (by assumption) rfl (by first | exact .inl rfl | exact .inr rfl) ?_ | refine xs_set (i := 3) (by assumption) rfl (by first | exact .inl rfl | exact .inr rfl) ?_
  | refine xs_set (i := 4) (by assumption) rfl (by first | exact .inl rfl | exact .inr rfl) ?_ | refine xs_set (i := 5) (by assumption) rfl (by first | exact .inl rfl | exact .inr rfl) ?_
  | refine xs_set (i := 6) (by assumption) rfl (by first | exact .inl rfl | exact .inr rfl) ?_ | refine xs_set (i := 7) (by assumption) rfl (by first | exact .inl rfl | exact .inr rfl) ?_
  | refine xs_set (i := 8) (by assumption) rfl (by first | exact .inl rfl | exact .inr rfl) ?_ | refine xs_set (i := 9) (by assumption) rfl (by first | exact .inl rfl | exact .inr rfl) ?_
  | refine xs_set (i := 10) (by assumption) rfl (by first | exact .inl rfl | exact .inr rfl) ?_ | refine xs_set (i := 11) (by assumption) rfl (by first | exact .inl rfl | exact .inr rfl) ?_)
local macro_rules | `(tactic| walk_at "xname") => `(tactic| first
  | refine xg_name (i := 0) (by assumption) rfl (by first | exact .inl rfl | exact .inr rfl) | refine xg_name (i := 1) (by assumption) rfl (by first | exact .inl rfl | exact .inr rfl)
  | refine xg_name (i := 2) (by assumption) rfl (by first | exact .inl rfl | exact .inr rfl) | refine xg_name (i := 3) (by assumption) rfl (by first | exact .inl rfl | exact .inr rfl)
  | refine xg_name (i := 4) (by assumption) rfl (by first | exact .inl rfl | exact .inr rfl) | refine xg_name (i := 5) (by assumption) rfl (by first | exact .inl rfl | exact .inr rfl)
  | refine xg_name (i := 6) (by assumption) rfl (by first | exact .inl rfl | exact .inr rfl) | refine xg_name (i := 7) (by assumption) rfl (by first | exact .inl rfl | exact .inr rfl)
  | refine xg_name (i := 8) (by assumption) rfl (by first | exact .inl rfl | exact .inr rfl) | refine xg_name (i := 9) (by assumption) rfl (by first | exact .inl rfl | exact .inr rfl)
  | refine xg_name (i := 10) (by assumption) rfl (by first | exact .inl rfl | exact .inr rfl) | refine xg_name (i := 11) (by assumption) rfl (by first | exact .inl rfl | exact .inr rfl))
local macro_rules | `(tactic| walk_at "xcall") => `(tactic|
  (refine xe_call (by assumption) (Room.mono (by assumption) (by decide)) ?_))
local macro_rules | `(tactic| walk_at "x1") => `(tactic| first
  | refine xa_nil ?_ | refine xa_cons ?_ | refine xe_int ?_ | refine xe_bl ?_ | refine xe_non ?_ | refine xe_str ?_
  | walk_at "xv"
  | refine xe_tup ?_ | refine xe_lst ?_
  | refine xe_add ?_ | refine xe_sub ?_
  | refine xe_ixT ?_
  | refine xe_neg ?_
  | refine xss_nil ?_ | refine xss_cons ?_ | refine xs_ret ?_ | walk_at "xset" | refine xs_if ?_
  | refine r2_int0 ?_ | refine r2_bool0 ?_ | refine r2_eqI ?_ | refine r2_neI ?_ | refine r1_neg ?_ | refine r2_ix0 ?_ | refine r2_ix1 ?_ | refine r2_ix2 ?_
  | refine xt_lt ?_ | refine xt_le ?_ | refine xt_gt ?_ | refine xt_ge ?_
  | refine xe_lt ?_ | refine xe_le ?_ | refine xe_gt ?_ | refine xe_ge ?_
  | refine xt_not ?_
  | walk_at "xcall")
local macro_rules | `(tactic| walk_at "xp") => `(tactic| repeat (walk_at "x1"))
section
variable {P : Program} {w : World} {K : Fg} {mg : Str → Option Value} {base : Heap} {f : Addr} {fd : FuncData}
abbrev R_part_sum : RR := fun ds P => ∃ (n : Nat) (qs : List Rat), ds = [.list (qs.map fr)] ∧ 0 < n ∧ SzAll n qs ∧ (qs.length + 1) * (n + 1) ≤ 7000 ∧ P (fr (qsum qs))
theorem ok_part_sum (F : Fun K "part_sum" "part_sum" s_part_sum f fd) (hO : Has P w K mg base CX0 2 "part_plus" p_part_plus (spP K R_plus)) (gN : Glo mg K "NONE" (fr 0)) : FnOk P w K mg base CX0 3 f fd p_part_sum (spP K R_part_sum) := by
  refine fnP F sc_part_sum (fun ds P h => ?_) (fun X B ds Pr hX hr h => ?_)
  · obtain ⟨n, qs, rfl, _⟩ := h; rfl
  · obtain ⟨cdv, A, outer, s, H, E, rfl⟩ := hX
    have nd := sc_part_sum.nd
    obtain ⟨n, qs, rfl, n0, hs, hz, hP⟩ := h
    have hz' : qs.length * (n + 1) + (n + 1) ≤ 7000 := by rw [← Nat.succ_mul]; exact hz
    walk_at "xp"
    refine xe_glo gN ?_
    walk_at "xp"
    refine xs_for (is := [2]) PassesOwn.never rfl (xg_name (i := 2) nd rfl (.inl rfl)) (xi_lst ?_)
    walk_at "xp"
    refine ⟨_, rfl, fun i δ τ => τ = [] ∧ ∃ z, δ = [some (.d (.list (qs.map fr))), some (.d (fr (qsum (qs.take i)))), z], ⟨rfl, _, rfl⟩, fun i d δ τ hd hI => ?_, fun δ τ hI => ?_⟩
    · obtain ⟨rfl, z, rfl⟩ := hI
      obtain ⟨q, hq, rfl⟩ := map_get hd
      have hi : i < qs.length := (List.getElem?_eq_some_iff.mp hq).1
      have sq : Sz (1 + i * (n + 1)) (qsum (qs.take i)) := (qsum_sz (fun q hq => hs q (List.mem_of_mem_take hq))).mono (by
        rw [List.length_take]
        have : min i qs.length * (n + 1) ≤ i * (n + 1) := Nat.mul_le_mul_right _ (Nat.min_le_left _ _)
        omega)
      have bi : i * (n + 1) ≤ qs.length * (n + 1) := Nat.mul_le_mul_right _ (by omega)
      show XSs _ _ _ _ _ _
      walk_at "xp"
      refine ⟨[_, _], rfl, _, n, _, _, rfl, by omega, n0, by omega, sq, hs.at hq, ?_⟩
      walk_at "xp"
      refine ⟨rfl, rfl, some (.d (fr q)), ?_⟩
      rw [take_snoc hq, qsum_snoc]; rfl
    · obtain ⟨rfl, z, rfl⟩ := hI
      (rw [List.length_map, List.take_length])
      walk_at "xp"
      exact ⟨_, rfl, hP⟩
abbrev R_dot : RR := fun ds P => ∃ (m n : Nat) (xs ys : List Rat), ds = [row xs, row ys] ∧ 0 < m ∧ 0 < n ∧ SzAll m xs ∧ SzAll n ys ∧ (xs.length + 1) * (m + n + 1) ≤ 7000 ∧ P (fr (dot xs ys))
theorem ok_cells_dot (F : Fun K "cells_dot" "cells_dot" s_cells_dot f fd) (hS : Has P w K mg base CX0 3 "part_sum" p_part_sum (spP K R_part_sum)) (hT : Has P w K mg base CX0 2 "part_times" p_part_times (spP K R_times)) (mz : mg "zip" = none) : FnOk P w K mg base CX0 4 f fd p_cells_dot (spP K R_dot) := by
  refine fnP F sc_cells_dot (fun ds P h => ?_) (fun X B ds Pr hX hr h => ?_)
  · obtain ⟨m, n, xs, ys, rfl, _⟩ := h; rfl
  · obtain ⟨cdv, A, outer, s, H, E, rfl⟩ := hX
    have nd := sc_cells_dot.nd
    obtain ⟨m, n, xs, ys, rfl, m0, n0, hx, hy, hz, hP⟩ := h
    have hz' : xs.length * (m + n + 1) + (m + n + 1) ≤ 7000 := by rw [← Nat.succ_mul]; exact hz
    have hl : xs.length ≤ 7000 := by
      have : xs.length * 1 ≤ xs.length * (m + n + 1) := Nat.mul_le_mul_left _ (by omega)
      omega
    walk_at "xp"
    refine xe_lc2 (j1 := 2) (j2 := 3) (own := [("near", 2), ("far", 3)]) rfl nd (blkOk_by (N := n_cells_dot) (sc := defScope s_cells_dot) (by decide +kernel)) (by decide) (by decide) rfl rfl rfl rfl (xi_zipT mz ?_)
    walk_at "xp"
    refine ⟨_, _, rfl, ((xs.zip ys).map fun p => p.1 * p.2).map fr, ?_, ?_, fun i d z hd hz2 => ?_, ?_⟩
    · rw [pairs_row]; simp
    · simp; omega
    · rw [pairs_row] at hd
      obtain ⟨p, hp, rfl⟩ := map_get hd
      obtain ⟨q, hq, rfl⟩ := map_get hz2
      obtain ⟨p', hp', rfl⟩ := map_get hq
      rw [hp] at hp'
      cases hp'
      have pm := List.mem_of_getElem? hp
      refine ⟨_, _, rfl, fun X' B' τ' hX' => ?_⟩
      obtain ⟨s', H', C', cl', fp', rfl⟩ := hX'
      walk_at "xp"
      refine ⟨[_, _], rfl, m, n, _, _, rfl, m0, n0, by omega, hx _ (List.of_mem_zip (show (p.1, p.2) ∈ xs.zip ys from pm)).1, hy _ (List.of_mem_zip (show (p.1, p.2) ∈ xs.zip ys from pm)).2, rfl, rfl⟩
    · walk_at "xp"
      refine ⟨[_], rfl, m + n, _, rfl, by omega, fun q hq => ?_, ?_, _, rfl, hP⟩
      · obtain ⟨p, hp, rfl⟩ := List.mem_map.mp hq
        exact (hx _ (List.of_mem_zip (show (p.1, p.2) ∈ xs.zip ys from hp)).1).mul (hy _ (List.of_mem_zip (show (p.1, p.2) ∈ xs.zip ys from hp)).2)
      · rw [List.length_map, List.length_zip]
        refine Nat.le_trans (Nat.mul_le_mul_right _ ?_) hz
        omega
end

end K10

set_option maxRecDepth 100000
set_option maxHeartbeats 4100000
namespace K10
open L2 PyProof.Rows PySem.Spec PySem
local macro_rules | `(tactic| walk_at "xv") => `(tactic| first
  | refine xe_var (i := 0) rfl ?_ | refine xe_var (i := 1) rfl ?_ | refine xe_var (i := 2) rfl ?_ | refine xe_var (i := 3) rfl ?_
  | refine xe_var (i := 4) rfl ?_ | refine xe_var (i := 5) rfl ?_ | refine xe_var (i := 6) rfl ?_ | refine xe_var (i := 7) rfl ?_
  | refine xe_var (i := 8) rfl ?_ | refine xe_var (i := 9) rfl ?_ | refine xe_var (i := 10) rfl ?_ | refine xe_var (i := 11) rfl ?_
  | refine xe_var (i := 12) rfl ?_ | refine xe_var (i := 13) rfl ?_ | refine xe_var (i := 14) rfl ?_ | refine xe_var (i := 15) rfl ?_)
local macro_rules | `(tactic| walk_at "xset") => `(tactic| first
  | refine xs_set (i := 0) (by assumption) rfl (by first | exact .inl rfl | exact .inr rfl) ?_ | refine xs_set (i := 1) (by assumption) rfl (by first | exact .inl rfl | exact .inr rfl) ?_
  | refine xs_set (i := 2) (by assumption) rfl (by first | exact .inl rfl | exact .inr rfl) ?_ | refine xs_set (i := 3) (by assumption) rfl (by first | exact .inl rfl | exact .inr rfl) ?_
  | refine xs_set (i := 4) (by assumption) rfl (by first | exact .inl rfl | exact .inr rfl) ?_ | refine xs_set (i := 5) (by assumption) rfl (by first | exact .inl rfl | exact .inr rfl) ?_
  | refine xs_set (i := 6) (by assumption) rfl (by first | exact .inl rfl | exact .inr rfl) ?_ | refine xs_set (i := 7) (by assumption) rfl (by first | exact .inl rfl | exact .inr rfl) ?_
  | refine xs_set (i := 8) (by assumption) rfl (by first | exact .inl rfl | exact .inr rfl) ?_ | refine xs_set (i := 9) (by assumption) rfl (by first | exact .inl rfl | exact .inr rfl) ?_
  | refine xs_set (i := 10) (by assumption) rfl (by first | exact .inl rfl | exact .inr rfl) ?_ | refine xs_set (i := 11) (by assumption) rfl (by first | exact .inl rfl | exact .inr rfl) ?_)
local macro_rules | `(tactic| walk_at "xname") => `(tactic| first
  | refine xg_name (i := 0) (by assumption) rfl (by first | exact .inl rfl | exact .inr rfl) | refine xg_name (i := 1) (by assumption) rfl (by first | exact .inl rfl | exact .inr rfl)
  | refine xg_name (i := 2) (by assumption) rfl (by first | exact .inl rfl | exact .inr rfl) | refine xg_name (i := 3) (by assumption) rfl (by first | exact .inl rfl | exact .inr rfl)
  | refine xg_name (i := 4) (by assumption) rfl (by first | exact .inl rfl | exact .inr rfl) | refine xg_name (i := 5) (by assumption) rfl (by first | exact .inl rfl | exact .inr rfl)
  | refine xg_name (i := 6) (by assumption) rfl (by first | exact .inl rfl | exact .inr rfl) | refine xg_name (i := 7) (by assumption) rfl (by first | exact .inl rfl | exact .inr rfl)
  | refine xg_name (i := 8) (by assumption) rfl (by first | exact .inl rfl | exact .inr rfl) | refine xg_name (i := 9) (by assumption) rfl (by first | exact .inl rfl | exact .inr rfl)
  | refine xg_name (i := 10) (by assumption) rfl (by first | exact .inl rfl | exact .inr rfl) | refine xg_name (i := 11) (by assumption) rfl (by first | exact .inl rfl | exact .inr rfl))
local macro_rules | `(tactic| walk_at "xcall") => `(tactic|
  (refine xe_call (by assumption) (Room.mono (by assumption) (by decide)) ?_))
local macro_rules | `(tactic| walk_at "x1") => `(tactic| first
  | refine xa_nil ?_ | refine xa_cons ?_ | refine xe_int ?_ | refine xe_bl ?_ | refine xe_non ?_ | refine xe_str ?_
  | walk_at "xv"
  | refine xe_tup ?_ | refine xe_lst ?_
  | refine xe_add ?_ | refine xe_sub ?_
  | refine xe_ixT ?_
  | refine xe_neg ?_
  | refine xss_nil ?_ | refine xss_cons ?_ | refine xs_ret ?_ | walk_at "xset" | refine xs_if ?_
  | refine r2_int0 ?_ | refine r2_bool0 ?_ | refine r2_eqI ?_ | refine r2_neI ?_ | refine r1_neg ?_ | refine r2_ix0 ?_ | refine r2_ix1 ?_ | refine r2_ix2 ?_
  | refine xt_lt ?_ | refine xt_le ?_ | refine xt_gt ?_ | refine xt_ge ?_
  | refine xe_lt ?_ | refine xe_le ?_ | refine xe_gt ?_ | refine xe_ge ?_
  | refine xt_not ?_
  | walk_at "xcall")
local macro_rules | `(tactic| walk_at "xp") => `(tactic| repeat (walk_at "x1"))
section
variable {P : Program} {w : World} {K : Fg} {mg : Str → Option Value} {base : Heap} {f : Addr} {fd : FuncData}
abbrev R_cplus : RR := fun ds P => ∃ (m n : Nat) (xs ys : List Rat), ds = [row xs, row ys] ∧ 0 < m ∧ 0 < n ∧ m + n ≤ 8000 ∧ SzAll m xs ∧ SzAll n ys ∧ xs.length ≤ 1000 ∧ P (row ((xs.zip ys).map fun p => p.1 + p.2))
theorem ok_cells_plus (F : Fun K "cells_plus" "cells_plus" s_cells_plus f fd) (hT : Has P w K mg base CX0 2 "part_plus" p_part_plus (spP K R_plus)) (mz : mg "zip" = none) (mt : mg "tuple" = none) : FnOk P w K mg base CX0 3 f fd p_cells_plus (spP K R_cplus) := by
  refine fnP F sc_cells_plus (fun ds P h => ?_) (fun X B ds Pr hX hr h => ?_)
  · obtain ⟨m, n, xs, ys, rfl, _⟩ := h; rfl
  · obtain ⟨cdv, A, outer, s, H, E, rfl⟩ := hX
    have nd := sc_cells_plus.nd
    obtain ⟨m, n, xs, ys, rfl, m0, n0, mn, hx, hy, hl, hP⟩ := h
    walk_at "xp"
    refine xe_callTy call_tuple_of mt (by decide +kernel) ?_
    walk_at "xp"
    refine xe_lc2 (j1 := 2) (j2 := 3) (own := [("near", 2), ("far", 3)]) rfl nd (blkOk_by (N := n_cells_plus) (sc := defScope s_cells_plus) (by decide +kernel)) (by decide) (by decide) rfl rfl rfl rfl (xi_zipT mz ?_)
    walk_at "xp"
    refine ⟨_, _, rfl, ((xs.zip ys).map fun p => p.1 + p.2).map fr, ?_, ?_, fun i d z hd hz2 => ?_, ?_⟩
    · rw [pairs_row]; simp
    · simp; omega
    · rw [pairs_row] at hd
      obtain ⟨p, hp, rfl⟩ := map_get hd
      obtain ⟨q, hq, rfl⟩ := map_get hz2
      obtain ⟨p', hp', rfl⟩ := map_get hq
      rw [hp] at hp'
      cases hp'
      have pm := List.mem_of_getElem? hp
      refine ⟨_, _, rfl, fun X' B' τ' hX' => ?_⟩
      obtain ⟨s', H', C', cl', fp', rfl⟩ := hX'
      walk_at "xp"
      refine ⟨[_, _], rfl, m, n, _, _, rfl, m0, n0, by omega, hx _ (List.of_mem_zip (show (p.1, p.2) ∈ xs.zip ys from pm)).1, hy _ (List.of_mem_zip (show (p.1, p.2) ∈ xs.zip ys from pm)).2, rfl, rfl⟩
    · walk_at "xp"
      refine rn_tuple_of ?_
      exact ⟨_, rfl, hP⟩
abbrev R_ctimes : RR := fun ds P => ∃ (m n : Nat) (xs : List Rat) (q : Rat), ds = [row xs, fr q] ∧ 0 < m ∧ 0 < n ∧ m + n ≤ 8000 ∧ SzAll m xs ∧ Sz n q ∧ xs.length ≤ 1000 ∧ P (row (xs.map fun p => p * q))
theorem ok_cells_times (F : Fun K "cells_times" "cells_times" s_cells_times f fd) (hT : Has P w K mg base CX0 2 "part_times" p_part_times (spP K R_times)) (mt : mg "tuple" = none) : FnOk P w K mg base CX0 3 f fd p_cells_times (spP K R_ctimes) := by
  refine fnP F sc_cells_times (fun ds P h => ?_) (fun X B ds Pr hX hr h => ?_)
  · obtain ⟨m, n, xs, q, rfl, _⟩ := h; rfl
  · obtain ⟨cdv, A, outer, s, H, E, rfl⟩ := hX
    have nd := sc_cells_times.nd
    obtain ⟨m, n, xs, q, rfl, m0, n0, mn, hx, hq, hl, hP⟩ := h
    walk_at "xp"
    refine xe_callTy call_tuple_of mt (by decide +kernel) ?_
    walk_at "xp"
    refine xe_lc1 (j := 2) (own := [("part", 2)]) rfl nd (blkOk_by (N := n_cells_times) (sc := defScope s_cells_times) (by decide +kernel)) (by decide) rfl rfl (xi_tup ?_)
    walk_at "xp"
    refine ⟨_, rfl, (xs.map fun p => p * q).map fr, ?_, ?_, fun i d z hd hz2 X' B' τ' hX' => ?_, ?_⟩
    · simp
    · simp; omega
    · obtain ⟨p, hp, rfl⟩ := map_get hd
      obtain ⟨r, hr2, rfl⟩ := map_get hz2
      obtain ⟨p', hp', rfl⟩ := map_get hr2
      rw [hp] at hp'
      cases hp'
      obtain ⟨s', H', C', cl', fp', rfl⟩ := hX'
      walk_at "xp"
      refine ⟨[_, _], rfl, m, n, _, _, rfl, m0, n0, by omega, hx.at hp, hq, rfl, rfl⟩
    · walk_at "xp"
      refine rn_tuple_of ?_
      exact ⟨_, rfl, hP⟩
/-- a table of rows of such sizes -/
structure SzT (n l : Nat) (g : List (List Rat)) : Prop where
  sz : ∀ c ∈ g, SzAll n c
  ln : ∀ c ∈ g, c.length ≤ l
abbrev R_made : RR := fun ds P => ∃ (m n l : Nat) (g : List (List Rat)) (r : List Rat), ds = [tab g, row r] ∧ 0 < m ∧ 0 < n ∧ SzT m l g ∧ SzAll n r ∧ (l + 1) * (m + n + 1) ≤ 7000 ∧ g.length ≤ 1000 ∧ P (row (g.map fun c => dot c r))
theorem ok_cells_made (F : Fun K "cells_made" "cells_made" s_cells_made f fd) (hT : Has P w K mg base CX0 4 "cells_dot" p_cells_dot (spP K R_dot)) (mt : mg "tuple" = none) : FnOk P w K mg base CX0 5 f fd p_cells_made (spP K R_made) := by
  refine fnP F sc_cells_made (fun ds P h => ?_) (fun X B ds Pr hX hr h => ?_)
  · obtain ⟨m, n, l, g, r, rfl, _⟩ := h; rfl
  · obtain ⟨cdv, A, outer, s, H, E, rfl⟩ := hX
    have nd := sc_cells_made.nd
    obtain ⟨m, n, l, g, r, rfl, m0, n0, hg, hr', hz, hl, hP⟩ := h
    walk_at "xp"
    refine xe_callTy call_tuple_of mt (by decide +kernel) ?_
    walk_at "xp"
    refine xe_lc1 (j := 2) (own := [("own", 2)]) rfl nd (blkOk_by (N := n_cells_made) (sc := defScope s_cells_made) (by decide +kernel)) (by decide) rfl rfl (xi_tup ?_)
    walk_at "xp"
    refine ⟨_, rfl, (g.map fun c => dot c r).map fr, ?_, ?_, fun i d z hd hz2 X' B' τ' hX' => ?_, ?_⟩
    · simp
    · simp; omega
    · obtain ⟨p, hp, rfl⟩ := map_get hd
      obtain ⟨q, hr2, rfl⟩ := map_get hz2
      obtain ⟨p', hp', rfl⟩ := map_get hr2
      rw [hp] at hp'
      cases hp'
      obtain ⟨s', H', C', cl', fp', rfl⟩ := hX'
      have pm := List.mem_of_getElem? hp
      walk_at "xp"
      refine ⟨[_, _], rfl, m, n, _, _, rfl, m0, n0, hg.sz _ pm, hr', Nat.le_trans (Nat.mul_le_mul_right _ (Nat.succ_le_succ (hg.ln _ pm))) hz, rfl, rfl⟩
    · walk_at "xp"
      refine rn_tuple_of ?_
      exact ⟨_, rfl, hP⟩
/-! the greatest of some -/
def gst (f : Rat) (qs : List Rat) : Rat := qs.foldl (fun f p => if f < p then p else f) f
theorem gst_snoc (f : Rat) (qs : List Rat) (q : Rat) : gst f (qs ++ [q]) = if gst f qs < q then q else gst f qs := by unfold gst; rw [List.foldl_append]; rfl
theorem gst_mem (f : Rat) : ∀ qs : List Rat, gst f qs = f ∨ gst f qs ∈ qs := by
  intro qs
  induction qs generalizing f with
  | nil => exact .inl rfl
  | cons q qs ih =>
    have h : gst f (q :: qs) = gst (if f < q then q else f) qs := rfl
    rw [h]
    rcases ih (if f < q then q else f) with e | e
    · rw [e]
      by_cases c : f < q
      · rw [if_pos c]; exact .inr List.mem_cons_self
      · rw [if_neg c]; exact .inl rfl
    · exact .inr (List.mem_cons_of_mem _ e)
def top : List Rat → Rat
  | [] => 0
  | q :: qs => gst q (q :: qs)
theorem top_mem {qs : List Rat} (h : qs ≠ []) : top qs ∈ qs := by
  cases qs with
  | nil => exact absurd rfl h
  | cons q qs =>
    rcases gst_mem q (q :: qs) with e | e
    · show gst q (q :: qs) ∈ _
      rw [e]; exact List.mem_cons_self
    · exact e
abbrev R_greatest : RR := fun ds P => ∃ (n : Nat) (qs : List Rat), ds = [row qs] ∧ 0 < n ∧ n + n ≤ 8000 ∧ SzAll n qs ∧ qs ≠ [] ∧ P (fr (top qs))
theorem ok_greatest_part (F : Fun K "greatest_part" "greatest_part" s_greatest_part f fd) (hT : Has P w K mg base CX0 1 "part_below" p_part_below (spP K R_below)) : FnOk P w K mg base CX0 2 f fd p_greatest_part (spP K R_greatest) := by
  refine fnP F sc_greatest_part (fun ds P h => ?_) (fun X B ds Pr hX hr h => ?_)
  · obtain ⟨n, qs, rfl, _⟩ := h; rfl
  · obtain ⟨cdv, A, outer, s, H, E, rfl⟩ := hX
    have nd := sc_greatest_part.nd
    obtain ⟨n, qs, rfl, n0, nn, hs, hne, hP⟩ := h
    obtain ⟨q0, qr, rfl⟩ : ∃ q0 qr, qs = q0 :: qr := by
      cases qs with
      | nil => exact absurd rfl hne
      | cons a b => exact ⟨a, b, rfl⟩
    walk_at "xp"
    refine xs_for (is := [2]) PassesOwn.never rfl (xg_name (i := 2) nd rfl (.inl rfl)) (xi_tup ?_)
    walk_at "xp"
    refine ⟨_, rfl, fun i δ τ => τ = [] ∧ ∃ z, δ = [some (.d (row (q0 :: qr))), some (.d (fr (gst q0 ((q0 :: qr).take i)))), z], ⟨rfl, _, rfl⟩, fun i d δ τ hd hI => ?_, fun δ τ hI => ?_⟩
    · obtain ⟨rfl, z, rfl⟩ := hI
      obtain ⟨q, hq, rfl⟩ := map_get hd
      have sq : Sz n (gst q0 ((q0 :: qr).take i)) := by
        rcases gst_mem q0 ((q0 :: qr).take i) with e | e
        · rw [e]; exact hs _ List.mem_cons_self
        · exact hs _ (List.mem_of_mem_take e)
      show XSs _ _ _ _ _ _
      walk_at "xp"
      refine xt_val ?_
      walk_at "xp"
      refine ⟨[_, _], rfl, n, n, _, _, rfl, n0, n0, nn, sq, hs.at hq, _, rfl, ite2 (fun e => ?_) (fun e => ?_)⟩
      · walk_at "xp"
        refine ⟨rfl, rfl, some (.d (fr q)), ?_⟩
        rw [take_snoc hq, gst_snoc, if_pos (of_decide_eq_true e)]; rfl
      · walk_at "xp"
        refine ⟨rfl, rfl, some (.d (fr q)), ?_⟩
        rw [take_snoc hq, gst_snoc, if_neg (fun z => e (decide_eq_true z))]; rfl
    · obtain ⟨rfl, z, rfl⟩ := hI
      (rw [List.length_map, List.take_length])
      walk_at "xp"
      exact ⟨_, rfl, hP⟩
end

end K10

set_option maxRecDepth 100000
set_option maxHeartbeats 4100000
namespace K10
open L2 PyProof.Rows PySem.Spec PySem
local macro_rules | `(tactic| walk_at "xv") => `(tactic| first
  | refine xe_var (i := 0) rfl ?_ | refine xe_var (i := 1) rfl ?_ | refine xe_var (i := 2) rfl ?_ | refine xe_var (i := 3) rfl ?_
  | refine xe_var (i := 4) rfl ?_ | refine xe_var (i := 5) rfl ?_ | refine xe_var (i := 6) rfl ?_ | refine xe_var (i := 7) rfl ?_
  | refine xe_var (i := 8) rfl ?_ | refine xe_var (i := 9) rfl ?_ | refine xe_var (i := 10) rfl ?_ | refine xe_var (i := 11) rfl ?_
  | refine xe_var (i := 12) rfl ?_ | refine xe_var (i := 13) rfl ?_ | refine xe_var (i := 14) rfl ?_ | refine xe_var (i := 15) rfl ?_)
local macro_rules | `(tactic| walk_at "xset") => `(tactic| first
  | refine xs_set (i := 0) (by assumption) rfl (by first | exact .inl rfl | exact .inr rfl) ?_ | refine xs_set (i := 1) (by assumption) rfl (by first | exact .inl rfl | exact .inr rfl) ?_
  | refine xs_set (i := 2) (by assumption) rfl (by first | exact .inl rfl | exact .inr rfl) ?_ | refine xs_set (i := 3) (by assumption) rfl (by first | exact .inl rfl | exact .inr rfl) ?_
  | refine xs_set (i := 4) (by assumption) rfl (by first | exact .inl rfl | exact .inr rfl) ?_ | refine xs_set (i := 5) (by assumption) rfl (by first | exact .inl rfl | exact .inr rfl) ?_
  | refine xs_set (i := 6) (by assumption) rfl (by first | exact .inl rfl | exact .inr rfl) ?_ | refine xs_set (i := 7) (by assumption) rfl (by first | exact .inl rfl | exact .inr rfl) ?_
  | refine xs_set (i := 8) (by assumption) rfl (by first | exact .inl rfl | exact .inr rfl) ?_ | refine xs_set (i := 9) (by assumption) rfl (by first | exact .inl rfl | exact .inr rfl) ?_
  | refine xs_set (i := 10) (by assumption) rfl (by first | exact .inl rfl | exact .inr rfl) ?_ | refine xs_set (i := 11) (by assumption) rfl (by first | exact .inl rfl | exact .inr rfl) ?_)
local macro_rules | `(tactic| walk_at "xname") => `(tactic| first
  | refine xg_name (i := 0) (by assumption) rfl (by first | exact .inl rfl | exact .inr rfl) | refine xg_name (i := 1) (by assumption) rfl (by first | exact .inl rfl | exact .inr rfl)
  | refine xg_name (i := 2) (by assumption) rfl (by first | exact .inl rfl | exact .inr rfl) | refine xg_name (i := 3) (by assumption) rfl (by first | exact .inl rfl | exact .inr rfl)
  | refine xg_name (i := 4) (by assumption) rfl (by first | exact .inl rfl | exact .inr rfl) | refine xg_name (i := 5) (by assumption) rfl (by first | exact .inl rfl | exact .inr rfl)
  | refine xg_name (i := 6) (by assumption) rfl (by first | exact .inl rfl | exact .inr rfl) | refine xg_name (i := 7) (by assumption) rfl (by first | exact .inl rfl | exact .inr rfl)
  | refine xg_name (i := 8) (by assumption) rfl (by first | exact .inl rfl | exact .inr rfl) | refine xg_name (i := 9) (by assumption) rfl (by first | exact .inl rfl | exact .inr rfl)
  | refine xg_name (i := 10) (by assumption) rfl (by first | exact .inl rfl | exact .inr rfl) | refine xg_name (i := 11) (by assumption) rfl (by first | exact .inl rfl | exact .inr rfl))
local macro_rules | `(tactic| walk_at "xcall") => `(tactic|
  (refine xe_call (by assumption) (Room.mono (by assumption) (by decide)) ?_))
local macro_rules | `(tactic| walk_at "x1") => `(tactic| first
  | refine xa_nil ?_ | refine xa_cons ?_ | refine xe_int ?_ | refine xe_bl ?_ | refine xe_non ?_ | refine xe_str ?_
  | walk_at "xv"
  | refine xe_tup ?_ | refine xe_lst ?_
  | refine xe_add ?_ | refine xe_sub ?_
  | refine xe_ixT ?_
  | refine xe_neg ?_
  | refine xss_nil ?_ | refine xss_cons ?_ | refine xs_ret ?_ | walk_at "xset" | refine xs_if ?_
  | refine r2_int0 ?_ | refine r2_bool0 ?_ | refine r2_eqI ?_ | refine r2_neI ?_ | refine r1_neg ?_ | refine r2_ix0 ?_ | refine r2_ix1 ?_ | refine r2_ix2 ?_
  | refine xt_lt ?_ | refine xt_le ?_ | refine xt_gt ?_ | refine xt_ge ?_
  | refine xe_lt ?_ | refine xe_le ?_ | refine xe_gt ?_ | refine xe_ge ?_
  | refine xt_not ?_
  | walk_at "xcall")
local macro_rules | `(tactic| walk_at "xp") => `(tactic| repeat (walk_at "x1"))
theorem kb_ii : kitB "int" "int" = some true := by decide +kernel
theorem kb_ib : kitB "int" "bool" = some false := by decide +kernel
theorem kb_is : kitB "int" "str" = some false := by decide +kernel
theorem kb_il : kitB "int" "list" = some false := by decide +kernel
theorem kb_it : kitB "int" "tuple" = some false := by decide +kernel
theorem kb_bi : kitB "bool" "int" = some true := by decide +kernel
theorem kb_bb : kitB "bool" "bool" = some true := by decide +kernel
theorem kb_bs : kitB "bool" "str" = some false := by decide +kernel
theorem kb_bl : kitB "bool" "list" = some false := by decide +kernel
theorem kb_bt : kitB "bool" "tuple" = some false := by decide +kernel
theorem kb_ni : kitB "NoneType" "int" = some false := by decide +kernel
theorem kb_nb : kitB "NoneType" "bool" = some false := by decide +kernel
theorem kb_ns : kitB "NoneType" "str" = some false := by decide +kernel
theorem kb_nl : kitB "NoneType" "list" = some false := by decide +kernel
theorem kb_nt : kitB "NoneType" "tuple" = some false := by decide +kernel
theorem kb_si : kitB "str" "int" = some false := by decide +kernel
theorem kb_sb : kitB "str" "bool" = some false := by decide +kernel
theorem kb_ss : kitB "str" "str" = some true := by decide +kernel
theorem kb_sl : kitB "str" "list" = some false := by decide +kernel
theorem kb_st : kitB "str" "tuple" = some false := by decide +kernel
theorem kb_li : kitB "list" "int" = some false := by decide +kernel
theorem kb_lb : kitB "list" "bool" = some false := by decide +kernel
theorem kb_ls : kitB "list" "str" = some false := by decide +kernel
theorem kb_ll : kitB "list" "list" = some true := by decide +kernel
theorem kb_lt : kitB "list" "tuple" = some false := by decide +kernel
theorem kb_ti : kitB "tuple" "int" = some false := by decide +kernel
theorem kb_tb : kitB "tuple" "bool" = some false := by decide +kernel
theorem kb_ts : kitB "tuple" "str" = some false := by decide +kernel
theorem kb_tl : kitB "tuple" "list" = some false := by decide +kernel
theorem kb_tt : kitB "tuple" "tuple" = some true := by decide +kernel
/-! tupled -/
inductive Tup : Nat → Dt → Dt → Prop
  | int (n : Nat) (i : Int) : Tup n (.int i) (.int i)
  | tup {n : Nat} {xs ys : List Dt} : ys.length = xs.length → ys.length ≤ 10000 → (∀ (i : Nat) (x y : Dt), xs[i]? = some x → ys[i]? = some y → Tup n x y) → Tup (n + 1) (.tuple xs) (.tuple ys)
  | lst {n : Nat} {xs ys : List Dt} : ys.length = xs.length → ys.length ≤ 10000 → (∀ (i : Nat) (x y : Dt), xs[i]? = some x → ys[i]? = some y → Tup n x y) → Tup (n + 1) (.list xs) (.tuple ys)
abbrev R_tupled (n : Nat) : RR := fun ds P => ∃ x y, ds = [x] ∧ Tup n x y ∧ P y
section
variable {P : Program} {w : World} {K : Fg} {mg : Str → Option Value} {base : Heap} {f : Addr} {fd : FuncData}
theorem ok_tupled (F : Fun K "tupled" "tupled" s_tupled f fd) (gF : mg "tupled" = some (.ref f)) (bF : Binds K fd p_tupled []) (mi : mg "isinstance" = none) (ml : mg "list" = none) (mt : mg "tuple" = none) : ∀ n : Nat, FnOk P w K mg base CX0 (n + 1) f fd p_tupled (spP K (R_tupled n)) := by
  intro n
  induction n with
  | zero =>
    refine fnP F sc_tupled (fun ds P h => ?_) (fun X B ds Pr hX hr h => ?_)
    · obtain ⟨x, y, rfl, _⟩ := h; rfl
    · obtain ⟨cdv, A, outer, s, H, E, rfl⟩ := hX
      have nd := sc_tupled.nd
      obtain ⟨x, y, rfl, ht, hP⟩ := h
      cases ht with
      | int _ i =>
        walk_at "xp"
        refine xe_ifx (xt_val (xe_isi2 (T := "list") (S := "tuple") mi (by decide +kernel) ml (by decide +kernel) mt ?_))
        walk_at "xp"
        refine ⟨_, false, false, rfl, kb_il, kb_it, _, rfl, iteF ?_⟩
        walk_at "xp"
        exact ⟨_, rfl, hP⟩
  | succ n ih =>
    have hT : Has P w K mg base CX0 (n + 1) "tupled" p_tupled (spP K (R_tupled n)) := ⟨f, fd, gF, F.kp, bF, ih⟩
    refine fnP F sc_tupled (fun ds P h => ?_) (fun X B ds Pr hX hr h => ?_)
    · obtain ⟨x, y, rfl, _⟩ := h; rfl
    · obtain ⟨cdv, A, outer, s, H, E, rfl⟩ := hX
      have nd := sc_tupled.nd
      obtain ⟨x, y, rfl, ht, hP⟩ := h
      cases ht with
      | int _ i =>
        walk_at "xp"
        refine xe_ifx (xt_val (xe_isi2 (T := "list") (S := "tuple") mi (by decide +kernel) ml (by decide +kernel) mt ?_))
        walk_at "xp"
        refine ⟨_, false, false, rfl, kb_il, kb_it, _, rfl, iteF ?_⟩
        walk_at "xp"
        exact ⟨_, rfl, hP⟩
      | @tup _ xs ys hl hz hd =>
        walk_at "xp"
        refine xe_ifx (xt_val (xe_isi2 (T := "list") (S := "tuple") mi (by decide +kernel) ml (by decide +kernel) mt ?_))
        walk_at "xp"
        refine ⟨_, false, true, rfl, kb_tl, kb_tt, _, rfl, iteT ?_⟩
        refine xe_callTy call_tuple_of mt (by decide +kernel) ?_
        walk_at "xp"
        refine xe_lc1 (j := 1) (own := [("part", 1)]) rfl nd (blkOk_by (N := n_tupled) (sc := defScope s_tupled) (by decide +kernel)) (by decide) rfl rfl (xi_tup ?_)
        walk_at "xp"
        refine ⟨_, rfl, ys, hl, hz, fun i d z h1 h2 X' B' τ' hX' => ?_, ?_⟩
        · obtain ⟨s', H', C', cl', fp', rfl⟩ := hX'
          refine xe_call hT (hr.mono (Nat.le_refl _)) ?_
          walk_at "xp"
          exact ⟨[_], rfl, _, _, rfl, hd i d z h1 h2, rfl, rfl⟩
        · walk_at "xp"
          refine rn_tuple_of ?_
          exact ⟨_, rfl, hP⟩
      | @lst _ xs ys hl hz hd =>
        walk_at "xp"
        refine xe_ifx (xt_val (xe_isi2 (T := "list") (S := "tuple") mi (by decide +kernel) ml (by decide +kernel) mt ?_))
        walk_at "xp"
        refine ⟨_, true, false, rfl, kb_ll, kb_lt, _, rfl, iteT ?_⟩
        refine xe_callTy call_tuple_of mt (by decide +kernel) ?_
        walk_at "xp"
        refine xe_lc1 (j := 1) (own := [("part", 1)]) rfl nd (blkOk_by (N := n_tupled) (sc := defScope s_tupled) (by decide +kernel)) (by decide) rfl rfl (xi_lst ?_)
        walk_at "xp"
        refine ⟨_, rfl, ys, hl, hz, fun i d z h1 h2 X' B' τ' hX' => ?_, ?_⟩
        · obtain ⟨s', H', C', cl', fp', rfl⟩ := hX'
          refine xe_call hT (hr.mono (Nat.le_refl _)) ?_
          walk_at "xp"
          exact ⟨[_], rfl, _, _, rfl, hd i d z h1 h2, rfl, rfl⟩
        · walk_at "xp"
          refine rn_tuple_of ?_
          exact ⟨_, rfl, hP⟩
end
theorem Tup.map {α : Type} {n : Nat} {f g : α → Dt} {l : List α} (hl : l.length ≤ 10000) (h : ∀ x ∈ l, Tup n (f x) (g x)) : Tup (n + 1) (.tuple (l.map f)) (.tuple (l.map g)) :=
  .tup (by simp) (by simpa using hl) fun i x y h1 h2 => by
    obtain ⟨a, e1, rfl⟩ := map_get h1
    obtain ⟨b, e2, rfl⟩ := map_get h2
    rw [e1] at e2
    cases e2
    exact h a (List.mem_of_getElem? e1)
theorem Tup.mapL {α : Type} {n : Nat} {f g : α → Dt} {l : List α} (hl : l.length ≤ 10000) (h : ∀ x ∈ l, Tup n (f x) (g x)) : Tup (n + 1) (.list (l.map f)) (.tuple (l.map g)) :=
  .lst (by simp) (by simpa using hl) fun i x y h1 h2 => by
    obtain ⟨a, e1, rfl⟩ := map_get h1
    obtain ⟨b, e2, rfl⟩ := map_get h2
    rw [e1] at e2
    cases e2
    exact h a (List.mem_of_getElem? e1)
theorem tup_fr (n : Nat) (q : Rat) : Tup (n + 1) (fr q) (fr q) := .tup rfl (by show 2 ≤ 10000; decide) fun i x y h1 h2 => by
  rw [h1] at h2
  cases h2
  match i, h1 with
  | 0, h1 => cases h1; exact .int _ _
  | 1, h1 => cases h1; exact .int _ _
theorem tup_row (n : Nat) {qs : List Rat} (h : qs.length ≤ 10000) : Tup (n + 2) (row qs) (row qs) := Tup.map h fun q _ => tup_fr n q
theorem tup_tab (n : Nat) {g : List (List Rat)} (h : g.length ≤ 10000) (hr : ∀ c ∈ g, c.length ≤ 10000) : Tup (n + 3) (tab g) (tab g) := Tup.map h fun c hc => tup_row n (hr c hc)
section
variable {P : Program} {w : World} {K : Fg} {mg : Str → Option Value} {base : Heap} {f : Addr} {fd : FuncData}
/-- what a table costs of a row -/
def dear (g : List (List Rat)) (r : List Rat) : Rat := top (g.map fun c => dot c r)
theorem dear_sz {m n l : Nat} {g : List (List Rat)} {r : List Rat} (hg : SzT m l g) (hr : SzAll n r) (h : g ≠ []) : Sz (1 + l * (m + n + 1)) (dear g r) := by
  have hm := top_mem (qs := g.map fun c => dot c r) (by simpa using h)
  obtain ⟨c, hc, e⟩ := List.mem_map.mp hm
  show Sz _ (top (g.map fun c => dot c r))
  rw [← e]
  refine (dot_sz (hg.sz c hc) hr).mono ?_
  have := Nat.mul_le_mul_right (m + n + 1) (hg.ln c hc)
  omega
abbrev R_cost : RR := fun ds P => ∃ (m n l : Nat) (g : List (List Rat)) (r : List Rat), ds = [tab g, row r] ∧ 0 < m ∧ 0 < n ∧ SzT m l g ∧ SzAll n r ∧ (l + 1) * (m + n + 1) ≤ 3500 ∧ g.length ≤ 1000 ∧ g ≠ [] ∧ l ≤ 1000 ∧ r.length ≤ 1000 ∧ P (fr (dear g r))
theorem ok_cost (F : Fun K "cost" "cost" s_cost f fd) (hG : Has P w K mg base CX0 2 "greatest_part" p_greatest_part (spP K R_greatest)) (hM : Has P w K mg base CX0 5 "cells_made" p_cells_made (spP K R_made)) (hT : Has P w K mg base CX0 6 "tupled" p_tupled (spP K (R_tupled 5))) : FnOk P w K mg base CX0 7 f fd p_cost (spP K R_cost) := by
  refine fnP F sc_cost (fun ds P h => ?_) (fun X B ds Pr hX hr h => ?_)
  · obtain ⟨m, n, l, g, r, rfl, _⟩ := h; rfl
  · obtain ⟨cdv, A, outer, s, H, E, rfl⟩ := hX
    have nd := sc_cost.nd
    obtain ⟨m, n, l, g, r, rfl, m0, n0, hg, hr', hz, hl, hne, hl2, hl3, hP⟩ := h
    walk_at "xp"
    refine ⟨[_], rfl, _, _, rfl, tup_tab 2 (by omega) (fun c hc => by have := hg.ln c hc; omega), ?_⟩
    walk_at "xp"
    refine ⟨[_], rfl, _, _, rfl, tup_row 3 (by omega), ?_⟩
    walk_at "xp"
    refine ⟨[_, _], rfl, m, n, l, g, r, rfl, m0, n0, hg, hr', by omega, hl, ?_⟩
    walk_at "xp"
    have hz' : l * (m + n + 1) + (m + n + 1) ≤ 3500 := by rw [← Nat.succ_mul]; exact hz
    refine ⟨[_], rfl, 1 + l * (m + n + 1), _, rfl, by omega, by omega, fun q hq => ?_, by simpa using hne, _, rfl, hP⟩
    obtain ⟨c, hc, rfl⟩ := List.mem_map.mp hq
    refine (dot_sz (hg.sz c hc) hr').mono ?_
    have := Nat.mul_le_mul_right (m + n + 1) (hg.ln c hc)
    omega
/-- one row less another -/
def apart (x y : List Rat) : List Rat := (x.zip y).map fun p => p.1 - p.2
theorem apart_sz {m n : Nat} {x y : List Rat} (hx : SzAll m x) (hy : SzAll n y) : SzAll (m + n + 1) (apart x y) := fun q hq => by
  rcases List.mem_map.mp hq with ⟨p, hp, rfl⟩
  have h := List.of_mem_zip (show (p.1, p.2) ∈ x.zip y from hp)
  exact (hx _ h.1).sub (hy _ h.2)
theorem apart_len {x y : List Rat} : (apart x y).length ≤ x.length := by unfold apart; rw [List.length_map, List.length_zip]; omega
abbrev R_apart : RR := fun ds P => ∃ (m n : Nat) (xs ys : List Rat), ds = [row xs, row ys] ∧ 0 < m ∧ 0 < n ∧ m + n ≤ 7000 ∧ SzAll m xs ∧ SzAll n ys ∧ xs.length ≤ 1000 ∧ ys.length ≤ 1000 ∧ P (row (apart xs ys))
theorem sz_m1 {n : Nat} (h : 0 < n) : Sz n (-1 : Rat) := ⟨by have : 2 ^ 1 ≤ 2 ^ n := Nat.pow_le_pow_right (by decide) h; show 1 < 2 ^ n; omega, by have : 2 ^ 1 ≤ 2 ^ n := Nat.pow_le_pow_right (by decide) h; show 1 < 2 ^ n; omega⟩
theorem ok_mark_apart (F : Fun K "mark_apart" "mark_apart" s_mark_apart f fd) (hP1 : Has P w K mg base CX0 3 "cells_plus" p_cells_plus (spP K R_cplus)) (hT1 : Has P w K mg base CX0 3 "cells_times" p_cells_times (spP K R_ctimes)) : FnOk P w K mg base CX0 4 f fd p_mark_apart (spP K R_apart) := by
  refine fnP F sc_mark_apart (fun ds P h => ?_) (fun X B ds Pr hX hr h => ?_)
  · obtain ⟨m, n, xs, ys, rfl, _⟩ := h; rfl
  · obtain ⟨cdv, A, outer, s, H, E, rfl⟩ := hX
    have nd := sc_mark_apart.nd
    obtain ⟨m, n, xs, ys, rfl, m0, n0, mn, hx, hy, hl, hl2, hP⟩ := h
    walk_at "xp"
    refine ⟨[.int _, .int _], rfl, by simp, ?_⟩
    walk_at "xp"
    refine ⟨[_, _], rfl, n, 1, ys, -1, rfl, n0, by omega, by omega, hy, sz_m1 (by omega), hl2, ?_⟩
    walk_at "xp"
    refine ⟨[_, _], rfl, m, n + 1, xs, _, rfl, m0, by omega, by omega, hx, fun q hq => ?_, hl, _, rfl, ?_⟩
    · obtain ⟨p, hp, rfl⟩ := List.mem_map.mp hq
      exact (hy p hp).mul (sz_m1 (by omega))
    · have e : ((xs.zip (ys.map fun p => p * -1)).map fun p => p.1 + p.2) = apart xs ys := by
        unfold apart
        rw [List.zip_map_right, List.map_map]
        refine List.map_congr_left (fun p _ => ?_)
        show p.1 + p.2 * -1 = p.1 - p.2
        grind
      rw [e]
      exact hP
end

end K10

set_option maxRecDepth 100000
set_option maxHeartbeats 2100000
namespace K10
open L2 PyProof.Rows PySem.Spec PySem
section
variable {X : Cx} {C : Addr} {bmB : List Value} {Bn newId initId : String}
/-- X(), an own class over a built-in exception, without arguments -/
theorem pmk_bare {x : Str} {p pos : Pos} (F : ExcBaseFacts Bn newId initId bmB) (q : PySem.W.excIn X.K C bmB newId = true) (gC : X.mg x = some (.ref C)) (kC : PySem.W.keepIn X.K (.ref C) = true) (r : Raises X (.ref C)) (hg : Gl X x)
    (hdb : (x == ("__debug__" : Str)) = false := by decide) : PMk X (.Call (.Name x p) [] [] pos) (fun _ H Q => Q (.ref C) none H) := by
  intro pins s σ H Q I h; refine wpAny_Call_Name_kw (ld_glob I hg gC ?_ hdb)
  refine PySem.W.callWith_K0 I.kIn kC ?_
  show wpAny _ _ (call (.ref C) []) _ _ _
  obtain ⟨bm, N, nm, qn, bs, hdct, sn, sub, ab, col, dd, k0, k1, k2, k3, k5, mN, hC, hN, hni, T⟩ := exc_obj I.kIn q
  refine wpAny_call_exc_subT F T hC hN hni (fun h' e hm => ?_) (Nat.zero_le _)
  exact mk_of I hm r h (I.hok.gone hm.new)
end
/-- what is known of an own exception class -/
structure ExcK (K : Fg) (mg : Str → Option Value) (x : Str) (C : Addr) : Prop where
  g : mg x = some (.ref C)
  q : PySem.W.excIn K C [.type "ValueError", .type "Exception", .type "BaseException", .type "object"] "ValueError.__new__" = true
  k : PySem.W.keepIn K (.ref C) = true
  b : PySem.W.subIn K (.ref C) (.type "BaseException") = some true
  t : PySem.W.typeIn K (.ref C) = some (.type "type")
section
variable {X : Cx} {B : Bs} {δ : Slots} {τ : Mem} {D : DE} {P : W → Mem → Prop} {e : Expr} {es : List Expr} {pos p : Pos} {x : Str} {C : Addr} {E0 : XK}
theorem xs_raise (k : ExcK X.K X.mg x C) (hc : X.calm = true) (tk : Takes X (fun cls d _ H => E0 cls d H)) (hE : ∀ σ H, Ok X.K B δ τ σ H → E0 (.ref C) none H) (hg : Gl X x := by rfl) (hdb : (x == ("__debug__" : Str)) = false := by decide) :
    XS X B δ τ (.Raise (some (.Call (.Name x p) [] [] pos)) none pos) D :=
  .of (ps_raise hc tk (pmk_bare PySem.F.excBase_ValueError k.q k.g k.k (raises_own k.b k.t) hg hdb)) fun E σ H r => hE σ H r.ok
theorem xs_raise' {pos2 : Pos} (k : ExcK X.K X.mg x C) (hc : X.calm = true) (tk : Takes X (fun cls d _ H => E0 cls d H)) (hE : ∀ σ H, Ok X.K B δ τ σ H → E0 (.ref C) none H) (hg : Gl X x := by rfl) (hdb : (x == ("__debug__" : Str)) = false := by decide) :
    XS X B δ τ (.Raise (some (.Call (.Name x p) [] [] pos)) none pos2) D :=
  .of (ps_raise hc tk (pmk_bare PySem.F.excBase_ValueError k.q k.g k.k (raises_own k.b k.t) hg hdb)) fun E σ H r => hE σ H r.ok
/-- a call that may raise -/
theorem xe_callX {R : RX} {k : Nat} {ps : List Str} {Pe : Prop} (F : HasX X (L2.CX X.prog X.w) k x ps (spX X.K C R)) (hr : Room k X.A) (tk : Takes X (fun cls d _ H => E0 cls d H)) (hE : Pe → ∀ τ1 σ H, Ok X.K B δ τ1 σ H → E0 (.ref C) none H)
    (h : XA X B δ τ (e :: es) fun ws τ1 => ∃ ds, ws = ds.map W.d ∧ R ds (fun d => P (.d d) τ1) Pe) (hg : Gl X x := by rfl) (hdb : (x == ("__debug__" : Str)) = false := by decide)
    (he : starEach (e :: es) X.env = (false, eval e X.env) :: starEach es X.env := by rfl) (hpl : (backTo pos (starEach es X.env)).any (·.1) = false := by rfl) : XE X B δ τ (.Call (.Name x p) (e :: es) [] pos) P := by
  obtain ⟨f, fd, h1, h2, h3, h4⟩ := F.ex
  exact .of (pe_call h4 hr hg h1 h2 h3 .nil (passes_call tk fun _ _ _ _ z => z) h.pa hdb he hpl) fun σ H Q k q => ⟨k, fun vs ws τ1 H1 k1 s1 r1 pp => by
    obtain ⟨ds, rfl, r⟩ := pp
    rw [List.append_nil]
    exact ⟨B.U, ds, _, Pe, k1.ex, r1.data, r, fun v d H' s rv pd => q v (.d d) τ1 H' (k1.pure s) (s1.trans (hide_same s)) rv pd, fun H' s z => hE z τ1 σ H' (k1.pure s)⟩⟩
end
section
variable {P : Program} {w : World} {K : Fg} {mg : Str → Option Value} {base : Heap}
abbrev cxX (P : Program) (w : World) (K : Fg) (mg : Str → Option Value) (base : Heap) (N : List Str) (qual : Str) (st : Stmt) (f : Addr) (cdv : Value) (A : Around) (outer : List Env) (s : Shared) (H : Hp) (E : XK) : Cx :=
  cxOf (L2.CX P w) P w K mg base N qual (defScope st) f cdv A outer s H E
theorem fnX {x : Str} {st : Stmt} {f : Addr} {fd : FuncData} {N ps : List Str} {k : Nat} {C : Addr} {R : RX} (F : Fun K x x st f fd) (S : FnScope N ps (defScope st)) (len : ∀ ds P Pe, R ds P Pe → ds.length = ps.length)
    (hbody : ∀ (X : Cx) (B : Bs) (ds : List Dt) (Pr : Dt → Prop) (Pe : Prop) (E : XK), (∃ cdv A outer s H, X = cxX P w K mg base N x st f cdv A outer s H E) → Room k X.A → R ds Pr Pe → Takes X (fun cls d _ H => E cls d H) → (Pe → ∀ B' δ τ σ H, B.le B' → Ok K B' δ τ σ H → E (.ref C) none H) →
      PassesOwn (model X.prog X.w) X.A X.env X.xe →
      XSs X B (slots0 N (ds.map W.d)) [] (defBody st) { nx := fun _ _ _ => Pr .none, rt := fun v _ => ∃ d, v = .d d ∧ Pr d }) : FnOk P w K mg base (L2.CX P w) (k + 1) f fd ps (spX K C R) := by
  refine F.okX S (fun vs H Q E h => ?_) (fun cdv A outer s H vs Q E hr h => ?_)
  · obtain ⟨U, ds, Pr, Pe, _, r, hR, _⟩ := h
    rw [r.length]; exact len _ _ _ hR
  · obtain ⟨U, ds, Pr, Pe, ex, r, hR, q, qe⟩ := h
    have sm : ∀ {B' δ' τ' σ' H'}, Bs.le ⟨H, [], U⟩ B' → Ok K B' δ' τ' σ' H' → Same H H' := fun {B' δ' τ' σ' H'} l o b u e =>
      o.fr b u (by rw [l.t]; simp) (by rw [l.h0]; exact e)
    refine ⟨_, (hbody (cxX P w K mg base N x st f cdv A outer s H E) ⟨H, [], U⟩ ds Pr Pe E ⟨cdv, A, outer, s, H, rfl⟩ hr hR (takes_of rfl rfl rfl rfl) (fun z B' δ τ σ H' l o => qe H' (sm l o) z) (passes_of rfl)).ps, ?_⟩
    have un : ∀ {B' : Bs} {H' : Hp}, Bs.le ⟨H, [], U⟩ B' → Same (hide B'.U H') (hide U H') := fun {B' H'} l b u e => by
      by_cases c : b ∈ B'.U
      · rw [hide_in c] at e; cases e
      · rw [hide_out c] at e
        rw [hide_out (fun m => c (l.u b m))]; exact e
    refine ⟨⟨fun _ _ _ e => e, (fun _ m => nomatch m), ex, (fun _ m => nomatch m), List.nodup_nil, start_slots (RwAll.of r), start_len (by rw [List.length_map]; exact r.length)⟩, fun B' δ' τ' σ' H' l o _ pd => ?_, fun v w' B' δ' τ' σ' H' l o rv pd => ?_, fun _ _ _ _ _ _ _ _ z => z.elim, fun _ _ _ _ _ _ _ _ z => z.elim⟩
    · exact q .non .none H' (sm l o) .non pd
    · obtain ⟨d, rfl, pd⟩ := pd
      exact q v d H' (sm l o) (Rp.mono (un l) rv) pd
end
end K10

set_option maxRecDepth 100000
set_option maxHeartbeats 4100000
namespace K10
open L2 PyProof.Rows PySem.Spec PySem
local macro_rules | `(tactic| walk_at "xv") => `(tactic| first
  | refine xe_var (i := 0) rfl ?_ | refine xe_var (i := 1) rfl ?_ | refine xe_var (i := 2) rfl ?_ | refine xe_var (i := 3) rfl ?_
  | refine xe_var (i := 4) rfl ?_ | refine xe_var (i := 5) rfl ?_ | refine xe_var (i := 6) rfl ?_ | refine xe_var (i := 7) rfl ?_
  | refine xe_var (i := 8) rfl ?_ | refine xe_var (i := 9) rfl ?_ | refine xe_var (i := 10) rfl ?_ | refine xe_var (i := 11) rfl ?_
  | refine xe_var (i := 12) rfl ?_ | refine xe_var (i := 13) rfl ?_ | refine xe_var (i := 14) rfl ?_ | refine xe_var (i := 15) rfl ?_)
local macro_rules | `(tactic| walk_at "xset") => `(tactic| first
  | refine xs_set (i := 0) (by assumption) rfl (by first | exact .inl rfl | exact .inr rfl) ?_ | refine xs_set (i := 1) (by assumption) rfl (by first | exact .inl rfl | exact .inr rfl) ?_
  | refine xs_set (i := 2) (by assumption) rfl (by first | exact .inl rfl | exact .inr rfl) ?_ | refine xs_set (i := 3) (by assumption) rfl (by first | exact .inl rfl | exact .inr rfl) ?_
  | refine xs_set (i := 4) (by assumption) rfl (by first | exact .inl rfl | exact .inr rfl) ?_ | refine xs_set (i := 5) (by assumption) rfl (by first | exact .inl rfl | exact .inr rfl) ?_
  | refine xs_set (i := 6) (by assumption) rfl (by first | exact .inl rfl | exact .inr rfl) ?_ | refine xs_set (i := 7) (by assumption) rfl (by first | exact .inl rfl | exact .inr rfl) ?_
  | refine xs_set (i := 8) (by assumption) rfl (by first | exact .inl rfl | exact .inr rfl) ?_ | refine xs_set (i := 9) (by assumption) rfl (by first | exact .inl rfl | exact .inr rfl) ?_
  | refine xs_set (i := 10) (by assumption) rfl (by first | exact .inl rfl | exact .inr rfl) ?_ | refine xs_set (i := 11) (by assumption) rfl (by first | exact .inl rfl | exact .inr rfl) ?_)
local macro_rules | `(tactic| walk_at "xname") => `(tactic| first
  | refine xg_name (i := 0) (by assumption) rfl (by first | exact .inl rfl | exact .inr rfl) | refine xg_name (i := 1) (by assumption) rfl (by first | exact .inl rfl | exact .inr rfl)
  | refine xg_name (i := 2) (by assumption) rfl (by first | exact .inl rfl | exact .inr rfl) | refine xg_name (i := 3) (by assumption) rfl (by first | exact .inl rfl | exact .inr rfl)
  | refine xg_name (i := 4) (by assumption) rfl (by first | exact .inl rfl | exact .inr rfl) | refine xg_name (i := 5) (by assumption) rfl (by first | exact .inl rfl | exact .inr rfl)
  | refine xg_name (i := 6) (by assumption) rfl (by first | exact .inl rfl | exact .inr rfl) | refine xg_name (i := 7) (by assumption) rfl (by first | exact .inl rfl | exact .inr rfl)
  | refine xg_name (i := 8) (by assumption) rfl (by first | exact .inl rfl | exact .inr rfl) | refine xg_name (i := 9) (by assumption) rfl (by first | exact .inl rfl | exact .inr rfl)
  | refine xg_name (i := 10) (by assumption) rfl (by first | exact .inl rfl | exact .inr rfl) | refine xg_name (i := 11) (by assumption) rfl (by first | exact .inl rfl | exact .inr rfl))
local macro_rules | `(tactic| walk_at "xcall") => `(tactic|
  (refine xe_call (by assumption) (Room.mono (by assumption) (by decide)) ?_))
local macro_rules | `(tactic| walk_at "x1") => `(tactic| first
  | refine xa_nil ?_ | refine xa_cons ?_ | refine xe_int ?_ | refine xe_bl ?_ | refine xe_non ?_ | refine xe_str ?_
  | walk_at "xv"
  | refine xe_tup ?_ | refine xe_lst ?_
  | refine xe_add ?_ | refine xe_sub ?_
  | refine xe_ixT ?_
  | refine xe_neg ?_
  | refine xss_nil ?_ | refine xss_cons ?_ | refine xs_ret ?_ | walk_at "xset" | refine xs_if ?_
  | refine r2_int0 ?_ | refine r2_bool0 ?_ | refine r2_eqI ?_ | refine r2_neI ?_ | refine r1_neg ?_ | refine r2_ix0 ?_ | refine r2_ix1 ?_ | refine r2_ix2 ?_
  | refine xt_lt ?_ | refine xt_le ?_ | refine xt_gt ?_ | refine xt_ge ?_
  | refine xe_lt ?_ | refine xe_le ?_ | refine xe_gt ?_ | refine xe_ge ?_
  | refine xt_not ?_
  | walk_at "xcall")
local macro_rules | `(tactic| walk_at "xp") => `(tactic| repeat (walk_at "x1"))
def Mk.row (m : Mk) : List Rat := m.am :: m.be
def Mk.swap (m : Mk) : Mk := ⟨m.sh, m.be, m.am⟩
structure SzM (nr nt l : Nat) (ms : List Mk) : Prop where
  am : ∀ m ∈ ms, Sz nr m.am
  be : ∀ m ∈ ms, SzAll nr m.be
  sh : ∀ m ∈ ms, Sz nt m.sh
  ln : ∀ m ∈ ms, m.be.length + 1 ≤ l
  few : ms.length ≤ 1000
theorem SzM.row {nr nt l : Nat} {ms : List Mk} (h : SzM nr nt l ms) {m : Mk} (hm : m ∈ ms) : SzAll nr m.row := fun q hq => by
  rcases List.mem_cons.mp hq with (e | e)
  · rw [e]; exact h.am m hm
  · exact h.be m hm q e
theorem tup_mk (n : Nat) {m : Mk} (h : m.be.length ≤ 10000) : Tup (n + 3) m.d m.d := .tup rfl (by show 3 ≤ 10000; decide) fun i x y h1 h2 => by
  rw [h1] at h2
  cases h2
  match i, h1 with
  | 0, h1 => cases h1; exact tup_fr _ _
  | 1, h1 => cases h1; exact tup_row _ h
  | 2, h1 => cases h1; exact tup_fr _ _
theorem tup_mks (n : Nat) {ms : List Mk} (h : ms.length ≤ 10000) (hb : ∀ m ∈ ms, m.be.length ≤ 10000) : Tup (n + 4) (mks ms) (mks ms) := Tup.map h fun m hm => tup_mk n (hb m hm)
/-- each two fit -/
def Fit (g : List (List Rat)) (ms : List Mk) : Prop := ∀ near ∈ ms, ∀ far ∈ ms, ¬ (near.sh + dear g (apart far.row near.row) < far.sh)
section
variable {P : Program} {w : World} {K : Fg} {mg : Str → Option Value} {base : Heap} {f : Addr} {fd : FuncData}
abbrev R_mark_row : RR := fun ds P => ∃ m : Mk, ds = [m.d] ∧ m.be.length ≤ 1000 ∧ P (row m.row)
theorem ok_mark_row (F : Fun K "mark_row" "mark_row" s_mark_row f fd) : FnOk P w K mg base CX0 1 f fd p_mark_row (spP K R_mark_row) := by
  refine fnP F sc_mark_row (fun ds P h => ?_) (fun X B ds Pr hX hr h => ?_)
  · obtain ⟨m, rfl, _⟩ := h; rfl
  · obtain ⟨cdv, A, outer, s, H, E, rfl⟩ := hX
    have nd := sc_mark_row.nd
    obtain ⟨m, rfl, hl, hP⟩ := h
    refine xss_cons (xs_ret (xe_catT ?_))
    walk_at "xp"
    refine ⟨[_], rfl, Nat.le_of_ble_eq_true rfl, ?_⟩
    walk_at "xp"
    refine r2_catT (xs := [fr m.am]) (ys := m.be.map fr) (by simp; omega) ?_
    exact ⟨_, rfl, hP⟩
def sgt (be : List Rat) (sh : Rat) : Dt := .tuple [row be, fr sh]
abbrev R_sight_row : RR := fun ds P => ∃ (be : List Rat) (sh : Rat), ds = [sgt be sh] ∧ be.length ≤ 1000 ∧ P (row (sh :: be))
theorem ok_sight_row (F : Fun K "sight_row" "sight_row" s_sight_row f fd) : FnOk P w K mg base CX0 1 f fd p_sight_row (spP K R_sight_row) := by
  refine fnP F sc_sight_row (fun ds P h => ?_) (fun X B ds Pr hX hr h => ?_)
  · obtain ⟨m, q, rfl, _⟩ := h; rfl
  · obtain ⟨cdv, A, outer, s, H, E, rfl⟩ := hX
    have nd := sc_sight_row.nd
    obtain ⟨be, sh, rfl, hl, hP⟩ := h
    refine xss_cons (xs_ret (xe_catT ?_))
    walk_at "xp"
    refine ⟨[_], rfl, Nat.le_of_ble_eq_true rfl, ?_⟩
    walk_at "xp"
    refine r2_catT (xs := [fr sh]) (ys := be.map fr) (by simp; omega) ?_
    exact ⟨_, rfl, hP⟩
abbrev R_turned_marks : RR := fun ds P => ∃ (x : Dt) (ms : List Mk), ds = [x] ∧ Tup 5 x (mks ms) ∧ ms.length ≤ 1000 ∧ P (mks (ms.map Mk.swap))
theorem ok_turned_marks (F : Fun K "turned_marks" "turned_marks" s_turned_marks f fd) (hT : Has P w K mg base CX0 6 "tupled" p_tupled (spP K (R_tupled 5))) (mt : mg "tuple" = none) : FnOk P w K mg base CX0 7 f fd p_turned_marks (spP K R_turned_marks) := by
  refine fnP F sc_turned_marks (fun ds P h => ?_) (fun X B ds Pr hX hr h => ?_)
  · obtain ⟨x, ms, rfl, _⟩ := h; rfl
  · obtain ⟨cdv, A, outer, s, H, E, rfl⟩ := hX
    have nd := sc_turned_marks.nd
    obtain ⟨x, ms, rfl, ht, hl, hP⟩ := h
    walk_at "xp"
    refine xe_callTy call_tuple_of mt (by decide +kernel) ?_
    walk_at "xp"
    refine xe_lc3 (j1 := 1) (j2 := 2) (j3 := 3) (own := [("amount", 1), ("beside", 2), ("shown", 3)]) rfl nd (blkOk_by (N := n_turned_marks) (sc := defScope s_turned_marks) (by decide +kernel)) (by decide) (by decide) (by decide) rfl rfl rfl rfl rfl rfl (xi_tup ?_)
    walk_at "xp"
    refine ⟨[_], rfl, _, _, rfl, ht, _, rfl, (ms.map Mk.swap).map Mk.d, by simp, by simp; omega, fun i d z hd hz => ?_, ?_⟩
    · obtain ⟨m, hm, rfl⟩ := map_get hd
      obtain ⟨m2, hm2, rfl⟩ := map_get hz
      obtain ⟨m3, hm3, rfl⟩ := map_get hm2
      rw [hm] at hm3
      cases hm3
      refine ⟨_, _, _, rfl, fun X' B' τ' hX' => ?_⟩
      obtain ⟨s', H', C', cl', fp', rfl⟩ := hX'
      walk_at "xp"
      exact ⟨[_, _, _], rfl, Nat.le_of_ble_eq_true rfl, rfl, rfl⟩
    · walk_at "xp"
      refine rn_tuple_of ?_
      exact ⟨_, rfl, hP⟩
/-! marks fit -/
abbrev R_first_apart : RR := fun ds P => ∃ (x y : Dt) (m nr nt l : Nat) (g : List (List Rat)) (ms : List Mk), ds = [x, y] ∧ Tup 5 x (tab g) ∧ Tup 5 y (mks ms) ∧ 0 < m ∧ 0 < nr ∧ 0 < nt ∧ nt ≤ 1000 ∧ SzT m l g ∧ SzM nr nt l ms ∧ (l + 1) * (m + 2 * nr + 2) ≤ 1500 ∧ l ≤ 500 ∧
  g.length ≤ 1000 ∧ g ≠ [] ∧ (Fit g ms → P .none) ∧ (¬ Fit g ms → ∀ i j : Int, P (.tuple [.int i, .int j]))
theorem enumD_get {ds : List Dt} {i : Nat} {d : Dt} (h : (enumD ds)[i]? = some d) : ∃ x, ds[i]? = some x ∧ d = .tuple [.int (i : Int), x] := by
  unfold enumD at h
  obtain ⟨j, hj, rfl⟩ := map_get h
  have hi : i < ds.length := by
    have := (List.getElem?_eq_some_iff.mp hj).1
    simpa using this
  rw [List.getElem?_range hi] at hj
  cases hj
  exact ⟨ds[i], List.getElem?_eq_getElem hi, by rw [List.getD_eq_getElem?_getD, List.getElem?_eq_getElem hi]; rfl⟩
theorem enumD_len (ds : List Dt) : (enumD ds).length = ds.length := by unfold enumD; simp
theorem mem_take_i {α : Type} {l : List α} {i : Nat} {x y : α} (h : l[i]? = some y) (hx : x ∈ l.take (i + 1)) : x ∈ l.take i ∨ x = y := by
  rw [take_snoc h] at hx
  rcases List.mem_append.mp hx with e | e
  · exact .inl e
  · exact .inr (by simpa using e)
theorem ok_first_apart (F : Fun K "first_apart" "first_apart" s_first_apart f fd) (hT : Has P w K mg base CX0 6 "tupled" p_tupled (spP K (R_tupled 5))) (hC : Has P w K mg base CX0 7 "cost" p_cost (spP K R_cost)) (hA : Has P w K mg base CX0 4 "mark_apart" p_mark_apart (spP K R_apart))
    (hM : Has P w K mg base CX0 1 "mark_row" p_mark_row (spP K R_mark_row)) (hPl : Has P w K mg base CX0 2 "part_plus" p_part_plus (spP K R_plus)) (hB : Has P w K mg base CX0 1 "part_below" p_part_below (spP K R_below)) (me : mg "enumerate" = none) : FnOk P w K mg base CX0 8 f fd p_first_apart (spP K R_first_apart) := by
  refine fnP F sc_first_apart (fun ds P h => ?_) (fun X B ds Pr hX hr h => ?_)
  · obtain ⟨x, y, m, nr, nt, l, g, ms, rfl, _⟩ := h; rfl
  · obtain ⟨cdv, A, outer, s, H, E, rfl⟩ := hX
    have nd := sc_first_apart.nd
    obtain ⟨x, y, m, nr, nt, l, g, ms, rfl, hx, hy, m0, nr0, nt0, hnt, hg, hms, hz, hl, hgl, hne, p1, p2⟩ := h
    have hz' : l * (m + 2 * nr + 2) + (m + 2 * nr + 2) ≤ 1500 := by rw [← Nat.succ_mul]; exact hz
    refine xss_cons ?_
    refine xs_par (i := 2) (j := 3) rfl nd rfl rfl (by decide) rfl rfl rfl ?_
    walk_at "xp"
    refine ⟨[_], rfl, _, _, rfl, hx, ?_⟩
    walk_at "xp"
    refine ⟨[_], rfl, _, _, rfl, hy, ?_⟩
    walk_at "xp"
    refine ⟨_, _, rfl, ?_⟩
    walk_at "xp"
    refine xs_for (is := [4] ++ ([5] ++ [])) PassesOwn.never rfl (xg_tup (n := 2) rfl (xgs_cons (xg_name (i := 4) nd rfl (.inl rfl)) (xgs_cons (xg_name (i := 5) nd rfl (.inl rfl)) xgs_nil))) (xi_enumT me ?_)
    walk_at "xp"
    refine ⟨_, rfl, fun i δ τ => τ = [] ∧ (∀ near ∈ ms.take i, ∀ far ∈ ms, ¬ (near.sh + dear g (apart far.row near.row) < far.sh)) ∧ ∃ a b c d e, δ = [some (.d x), some (.d y), some (.d (tab g)), some (.d (mks ms)), a, b, c, d, e], ⟨rfl, by simp, _, _, _, _, _, rfl⟩, fun i d δ τ hd hI => ?_, fun δ τ hI => ?_⟩
    · obtain ⟨rfl, hf, a, b, c, d2, e, rfl⟩ := hI
      obtain ⟨z, hz1, rfl⟩ := enumD_get hd
      obtain ⟨near, hn, rfl⟩ := map_get hz1
      have mn := List.mem_of_getElem? hn
      refine ⟨_, rfl, rfl, _, _, rfl, _, _, rfl, rfl, ?_⟩
      refine xss_cons ?_
      refine xs_for (is := [6] ++ ([7] ++ [])) PassesOwn.never rfl (xg_tup (n := 2) rfl (xgs_cons (xg_name (i := 6) nd rfl (.inl rfl)) (xgs_cons (xg_name (i := 7) nd rfl (.inl rfl)) xgs_nil))) (xi_enumT me ?_)
      walk_at "xp"
      refine ⟨_, rfl, fun j δ τ => τ = [] ∧ (∀ far ∈ ms.take j, ¬ (near.sh + dear g (apart far.row near.row) < far.sh)) ∧ ∃ c d e, δ = [some (.d x), some (.d y), some (.d (tab g)), some (.d (mks ms)), some (.d (.int (i : Int))), some (.d near.d), c, d, e], ⟨rfl, by simp, _, _, _, rfl⟩, fun j d3 δ τ hd3 hI => ?_, fun δ τ hI => ?_⟩
      · obtain ⟨rfl, hf2, c, d4, e2, rfl⟩ := hI
        obtain ⟨z2, hz2, rfl⟩ := enumD_get hd3
        obtain ⟨far, hfar, rfl⟩ := map_get hz2
        have mf := List.mem_of_getElem? hfar
        have ln1 := hms.ln near mn
        have ln2 := hms.ln far mf
        refine ⟨_, rfl, rfl, _, _, rfl, _, _, rfl, rfl, ?_⟩
        walk_at "xp"
        refine ⟨[_], rfl, far, rfl, by omega, ?_⟩
        walk_at "xp"
        refine ⟨[_], rfl, near, rfl, by omega, ?_⟩
        walk_at "xp"
        refine ⟨[_, _], rfl, nr, nr, _, _, rfl, nr0, nr0, by omega, hms.row mf, hms.row mn, by show far.be.length + 1 ≤ 1000; omega, by show near.be.length + 1 ≤ 1000; omega, ?_⟩
        walk_at "xp"
        have sa := apart_sz (hms.row mf) (hms.row mn)
        have la : (apart far.row near.row).length ≤ l := Nat.le_trans apart_len ln2
        refine ⟨[_, _], rfl, m, nr + nr + 1, l, g, _, rfl, m0, by omega, hg, sa, ?_, hgl, hne, by omega, by omega, ?_⟩
        · have e0 : m + (nr + nr + 1) + 1 = m + 2 * nr + 2 := by omega
          rw [e0]; omega
        walk_at "xp"
        have sd := dear_sz hg sa hne
        have e0 : l * (m + (nr + nr + 1) + 1) = l * (m + 2 * nr + 2) := by congr 1; omega
        rw [e0] at sd
        refine ⟨[_, _], rfl, nt, _, _, _, rfl, nt0, by omega, by omega, hms.sh near mn, sd, ?_⟩
        walk_at "xp"
        refine xt_val ?_
        walk_at "xp"
        refine ⟨[_, _], rfl, _, nt, _, _, rfl, by omega, nt0, by omega, (hms.sh near mn).add sd, hms.sh far mf, _, rfl, ite2 (fun e => ?_) (fun e => ?_)⟩
        · have nf : ¬ Fit g ms := fun z => z near mn far mf (of_decide_eq_true e)
          walk_at "xp"
          exact ⟨[_, _], rfl, Nat.le_of_ble_eq_true rfl, _, rfl, p2 nf _ _⟩
        · walk_at "xp"
          refine ⟨rfl, rfl, fun far' hf' => ?_, _, _, _, rfl⟩
          rcases mem_take_i hfar hf' with e' | e'
          · exact hf2 far' e'
          · subst e'
            exact fun z => e (decide_eq_true z)
      · obtain ⟨rfl, hf2, c, d4, e2, rfl⟩ := hI
        rw [enumD_len, List.length_map, List.take_length] at hf2
        walk_at "xp"
        refine ⟨rfl, rfl, fun near' hn' => ?_, _, _, _, _, _, rfl⟩
        rcases mem_take_i hn hn' with e' | e'
        · exact hf near' e'
        · subst e'
          exact hf2
    · obtain ⟨rfl, hf, a, b, c, d2, e, rfl⟩ := hI
      rw [enumD_len, List.length_map, List.take_length] at hf
      walk_at "xp"
      exact ⟨_, rfl, p1 hf⟩
abbrev R_marks_fit : RR := fun ds P => ∃ (x y : Dt) (m nr nt l : Nat) (g : List (List Rat)) (ms : List Mk), ds = [x, y] ∧ Tup 5 x (tab g) ∧ Tup 5 y (mks ms) ∧ 0 < m ∧ 0 < nr ∧ 0 < nt ∧ nt ≤ 1000 ∧ SzT m l g ∧ SzM nr nt l ms ∧ (l + 1) * (m + 2 * nr + 2) ≤ 1500 ∧ l ≤ 500 ∧
  g.length ≤ 1000 ∧ g ≠ [] ∧ (Fit g ms → P (.bool true)) ∧ (¬ Fit g ms → P (.bool false))
theorem ok_marks_fit (F : Fun K "marks_fit" "marks_fit" s_marks_fit f fd) (hA : Has P w K mg base CX0 8 "first_apart" p_first_apart (spP K R_first_apart)) : FnOk P w K mg base CX0 9 f fd p_marks_fit (spP K R_marks_fit) := by
  refine fnP F sc_marks_fit (fun ds P h => ?_) (fun X B ds Pr hX hr h => ?_)
  · obtain ⟨x, y, m, nr, nt, l, g, ms, rfl, _⟩ := h; rfl
  · obtain ⟨cdv, A, outer, s, H, E, rfl⟩ := hX
    have nd := sc_marks_fit.nd
    obtain ⟨x, y, m, nr, nt, l, g, ms, rfl, hx, hy, m0, nr0, nt0, hnt, hg, hms, hz, hl, hgl, hne, p1, p2⟩ := h
    refine xss_cons (xs_ret (xe_isN ?_))
    walk_at "xp"
    refine ⟨[_, _], rfl, x, y, m, nr, nt, l, g, ms, rfl, hx, hy, m0, nr0, nt0, hnt, hg, hms, hz, hl, hgl, hne, fun z => ?_, fun z i j => ?_⟩
    · walk_at "xp"
      refine r2_isN ?_
      exact ⟨_, rfl, p1 z⟩
    · walk_at "xp"
      refine r2_isN ?_
      exact ⟨_, rfl, p2 z⟩
end

end K10

set_option maxRecDepth 100000
set_option maxHeartbeats 4100000
namespace K10
open L2 PyProof.Rows PySem.Spec PySem
local macro_rules | `(tactic| walk_at "xv") => `(tactic| first
  | refine xe_var (i := 0) rfl ?_ | refine xe_var (i := 1) rfl ?_ | refine xe_var (i := 2) rfl ?_ | refine xe_var (i := 3) rfl ?_
  | refine xe_var (i := 4) rfl ?_ | refine xe_var (i := 5) rfl ?_ | refine xe_var (i := 6) rfl ?_ | refine xe_var (i := 7) rfl ?_
  | refine xe_var (i := 8) rfl ?_ | refine xe_var (i := 9) rfl ?_ | refine xe_var (i := 10) rfl ?_ | refine xe_var (i := 11) rfl ?_
  | refine xe_var (i := 12) rfl ?_ | refine xe_var (i := 13) rfl ?_ | refine xe_var (i := 14) rfl ?_ | refine xe_var (i := 15) rfl ?_)
local macro_rules | `(tactic| walk_at "xset") => `(tactic| first
  | refine xs_set (i := 0) (by assumption) rfl (by first | exact .inl rfl | exact .inr rfl) ?_ | refine xs_set (i := 1) (by assumption) rfl (by first | exact .inl rfl | exact .inr rfl) ?_
  | refine xs_set (i := 2) (by assumption) rfl (by first | exact .inl rfl | exact .inr rfl) ?_ | refine xs_set (i := 3) (by assumption) rfl (by first | exact .inl rfl | exact .inr rfl) ?_
  | refine xs_set (i := 4) (by assumption) rfl (by first | exact .inl rfl | exact .inr rfl) ?_ | refine xs_set (i := 5) (by assumption) rfl (by first | exact .inl rfl | exact .inr rfl) ?_
  | refine xs_set (i := 6) (by assumption) rfl (by first | exact .inl rfl | exact .inr rfl) ?_ | refine xs_set (i := 7) (by assumption) rfl (by first | exact .inl rfl | exact .inr rfl) ?_
  | refine xs_set (i := 8) (by assumption) rfl (by first | exact .inl rfl | exact .inr rfl) ?_ | refine xs_set (i := 9) (by assumption) rfl (by first | exact .inl rfl | exact .inr rfl) ?_
  | refine xs_set (i := 10) (by assumption) rfl (by first | exact .inl rfl | exact .inr rfl) ?_ | refine xs_set (i := 11) (by assumption) rfl (by first | exact .inl rfl | exact .inr rfl) ?_)
local macro_rules | `(tactic| walk_at "xname") => `(tactic| first
  | refine xg_name (i := 0) (by assumption) rfl (by first | exact .inl rfl | exact .inr rfl) | refine xg_name (i := 1) (by assumption) rfl (by first | exact .inl rfl | exact .inr rfl)
  | refine xg_name (i := 2) (by assumption) rfl (by first | exact .inl rfl | exact .inr rfl) | refine xg_name (i := 3) (by assumption) rfl (by first | exact .inl rfl | exact .inr rfl)
  | refine xg_name (i := 4) (by assumption) rfl (by first | exact .inl rfl | exact .inr rfl) | refine xg_name (i := 5) (by assumption) rfl (by first | exact .inl rfl | exact .inr rfl)
  | refine xg_name (i := 6) (by assumption) rfl (by first | exact .inl rfl | exact .inr rfl) | refine xg_name (i := 7) (by assumption) rfl (by first | exact .inl rfl | exact .inr rfl)
  | refine xg_name (i := 8) (by assumption) rfl (by first | exact .inl rfl | exact .inr rfl) | refine xg_name (i := 9) (by assumption) rfl (by first | exact .inl rfl | exact .inr rfl)
  | refine xg_name (i := 10) (by assumption) rfl (by first | exact .inl rfl | exact .inr rfl) | refine xg_name (i := 11) (by assumption) rfl (by first | exact .inl rfl | exact .inr rfl))
local macro_rules | `(tactic| walk_at "xcall") => `(tactic|
  (refine xe_call (by assumption) (Room.mono (by assumption) (by decide)) ?_))
local macro_rules | `(tactic| walk_at "x1") => `(tactic| first
  | refine xa_nil ?_ | refine xa_cons ?_ | refine xe_int ?_ | refine xe_bl ?_ | refine xe_non ?_ | refine xe_str ?_
  | walk_at "xv"
  | refine xe_tup ?_ | refine xe_lst ?_
  | refine xe_sub ?_
  | refine xe_ixT ?_
  | refine xe_neg ?_
  | refine xss_nil ?_ | refine xss_cons ?_ | refine xs_ret ?_ | walk_at "xset" | refine xs_if ?_
  | refine r2_int0 ?_ | refine r2_bool0 ?_ | refine r2_eqI ?_ | refine r2_neI ?_ | refine r1_neg ?_ | refine r2_ix0 ?_ | refine r2_ix1 ?_ | refine r2_ix2 ?_
  | refine xt_lt ?_ | refine xt_le ?_ | refine xt_gt ?_ | refine xt_ge ?_
  | refine xe_lt ?_ | refine xe_le ?_ | refine xe_gt ?_ | refine xe_ge ?_
  | refine xt_not ?_
  | walk_at "xcall")
local macro_rules | `(tactic| walk_at "xp") => `(tactic| repeat (walk_at "x1"))
/-! corners turned about -/
def turn : List Rat → List Rat
  | [] => []
  | a :: r => 1 / a :: r.map fun p => -(p / a)
def turns (g : List (List Rat)) : List (List Rat) := g.map turn
theorem sz_one {n : Nat} (h : 0 < n) : Sz n (1 : Rat) := ⟨by have : 2 ^ 1 ≤ 2 ^ n := Nat.pow_le_pow_right (by decide) h; show 1 < 2 ^ n; omega, by have : 2 ^ 1 ≤ 2 ^ n := Nat.pow_le_pow_right (by decide) h; show 1 < 2 ^ n; omega⟩
section
variable {P : Program} {w : World} {K : Fg} {mg : Str → Option Value} {base : Heap} {f : Addr} {fd : FuncData}
abbrev R_corner : RR := fun ds P => ∃ (n : Nat) (a : Rat) (r : List Rat), ds = [row (a :: r)] ∧ 0 < n ∧ n ≤ 3000 ∧ SzAll n (a :: r) ∧ 0 < a ∧ r.length ≤ 1000 ∧ P (row (turn (a :: r)))
theorem ok_corner_turned (F : Fun K "corner_turned" "corner_turned" s_corner_turned f fd) (hO : Has P w K mg base CX0 2 "part_over" p_part_over (spP K R_over)) (hN : Has P w K mg base CX0 1 "part_minus" p_part_minus (spP K R_minus)) (gF : Glo mg K "FULL" (fr 1)) (mt : mg "tuple" = none) : FnOk P w K mg base CX0 3 f fd p_corner_turned (spP K R_corner) := by
  refine fnP F sc_corner_turned (fun ds P h => ?_) (fun X B ds Pr hX hr h => ?_)
  · obtain ⟨n, a, r, rfl, _⟩ := h; rfl
  · obtain ⟨cdv, A, outer, s, H, E, rfl⟩ := hX
    have nd := sc_corner_turned.nd
    obtain ⟨n, a, r, rfl, n0, hn, hs, ha, hl, hP⟩ := h
    have sa := hs a List.mem_cons_self
    walk_at "xp"
    refine xe_catT ?_
    walk_at "xp"
    refine xe_glo gF ?_
    walk_at "xp"
    refine ⟨[_, _], rfl, 1, n, 1, a, rfl, by omega, n0, by omega, sz_one (by omega), sa, ha, ?_⟩
    walk_at "xp"
    refine ⟨[_], rfl, Nat.le_of_ble_eq_true rfl, ?_⟩
    refine xe_callTy call_tuple_of mt (by decide +kernel) ?_
    walk_at "xp"
    refine xe_lc1 (j := 2) (own := [("part", 2)]) rfl nd (blkOk_by (N := n_corner_turned) (sc := defScope s_corner_turned) (by decide +kernel)) (by decide) rfl rfl (xi_tup ?_)
    refine xe_cutT (n := 1) xo_int ?_
    walk_at "xp"
    refine ⟨_, rfl, _, rfl, (r.map fun p => -(p / a)).map fr, ?_, ?_, fun i d z hd hz X' B' τ' hX' => ?_, ?_⟩
    · simp
    · simp; omega
    · have hd' : (r.map fr)[i]? = some d := hd
      obtain ⟨p, hp, rfl⟩ := map_get hd'
      obtain ⟨q, hq, rfl⟩ := map_get hz
      obtain ⟨p', hp', rfl⟩ := map_get hq
      rw [hp] at hp'
      cases hp'
      obtain ⟨s', H', C', cl', fp', rfl⟩ := hX'
      walk_at "xp"
      refine ⟨[_, _], rfl, n, n, p, a, rfl, n0, n0, by omega, hs p (List.mem_cons_of_mem _ (List.mem_of_getElem? hp)), sa, ha, ?_⟩
      walk_at "xp"
      exact ⟨[_], rfl, _, rfl, rfl, rfl⟩
    · walk_at "xp"
      refine rn_tuple_of ?_
      refine r2_catT (by simp; omega) ?_
      exact ⟨_, rfl, hP⟩
/-- corners whose first is above 0, all of one length -/
structure Gau (n k : Nat) (g : List (List Rat)) : Prop where
  sz : ∀ c ∈ g, SzAll n c
  hd : ∀ c ∈ g, ∃ a r, c = a :: r ∧ 0 < a ∧ r.length = k
  ne : g ≠ []
  few : g.length ≤ 4
theorem Gau.szt {n k : Nat} {g : List (List Rat)} (h : Gau n k g) : SzT n (k + 1) g := ⟨h.sz, fun c hc => by
  obtain ⟨a, r, rfl, _, hr⟩ := h.hd c hc
  rw [List.length_cons]; omega⟩
abbrev R_set_of (k : Nat) : RR := fun ds P => ∃ g : List (List Rat), ds = [.list (g.map row)] ∧ g ≠ [] ∧ g.length ≤ 4 ∧ (∀ c ∈ g, c.length = k + 1) ∧ k ≤ 2 ∧ ∀ g', (∀ c, c ∈ g' ↔ c ∈ g) → g'.length ≤ g.length → P (tab g')
abbrev R_turned_about : RR := fun ds P => ∃ (x : Dt) (n k : Nat) (g : List (List Rat)), ds = [x] ∧ Tup 5 x (tab g) ∧ 0 < n ∧ n ≤ 3000 ∧ Gau n k g ∧ k ≤ 2 ∧ ∀ g', (∀ c, c ∈ g' ↔ c ∈ turns g) → g'.length ≤ g.length → P (tab g')
theorem fr_le0 {a : Rat} (h : 0 < a) : decide (a.num ≤ 0) = false := decide_eq_false (by have := num_pos h; omega)
theorem all_false : ∀ {bs : List Bool}, (∀ b ∈ bs, b = false) → bs.any id = false
  | [], _ => rfl
  | b :: bs, h => by
    rw [List.any_cons, h b List.mem_cons_self, all_false (fun c hc => h c (List.mem_cons_of_mem _ hc))]; rfl
theorem ok_turned_about (F : Fun K "turned_about" "turned_about" s_turned_about f fd) (hT : Has P w K mg base CX0 6 "tupled" p_tupled (spP K (R_tupled 5))) (hC : Has P w K mg base CX0 3 "corner_turned" p_corner_turned (spP K R_corner)) (hS : ∀ k, Has P w K mg base CX0 3 "set_of" p_set_of (spP K (R_set_of k))) (ma : mg "any" = none) :
    FnOk P w K mg base CX0 7 f fd p_turned_about (spP K R_turned_about) := by
  refine fnP F sc_turned_about (fun ds P h => ?_) (fun X B ds Pr hX hr h => ?_)
  · obtain ⟨x, n, k, g, rfl, _⟩ := h; rfl
  · obtain ⟨cdv, A, outer, s, H, E, rfl⟩ := hX
    have nd := sc_turned_about.nd
    obtain ⟨x, n, k, g, rfl, hx, n0, hn, hg, hk, hP⟩ := h
    have hS' := hS k
    walk_at "xp"
    refine ⟨[_], rfl, _, _, rfl, hx, ?_⟩
    walk_at "xp"
    refine xt_val (xe_callB (cr_any rfl) ma (by decide +kernel) ?_)
    walk_at "xp"
    refine xe_lc1 (j := 2) (own := [("corner", 2)]) rfl nd (blkOk_by (N := n_turned_about) (sc := defScope s_turned_about) (by decide +kernel)) (by decide) rfl rfl (xi_tup ?_)
    walk_at "xp"
    refine ⟨_, rfl, (g.map fun _ => false).map PyData.bool, by simp, by simp; have := hg.few; omega, fun i d z hd hz X' B' τ' hX' => ?_, ?_⟩
    · obtain ⟨c, hc, rfl⟩ := map_get hd
      obtain ⟨q, hq, rfl⟩ := map_get hz
      obtain ⟨c', hc', rfl⟩ := map_get hq
      obtain ⟨a, r, rfl, ha, _⟩ := hg.hd c (List.mem_of_getElem? hc)
      obtain ⟨s', H', C', cl', fp', rfl⟩ := hX'
      walk_at "xp"
      rw [fr_le0 ha]
      exact ⟨rfl, rfl⟩
    walk_at "xp"
    refine rn_any ?_
    refine ⟨_, rfl, ?_⟩
    rw [all_false (fun b hb => by obtain ⟨_, _, e⟩ := List.mem_map.mp hb; exact e.symm)]
    refine iteF ?_
    walk_at "xp"
    refine xe_lc1 (j := 2) (own := [("corner", 2)]) rfl nd (blkOk_by (N := n_turned_about) (sc := defScope s_turned_about) (by decide +kernel)) (by decide) rfl rfl (xi_tup ?_)
    walk_at "xp"
    refine ⟨_, rfl, (turns g).map row, by unfold turns; simp, by unfold turns; simp; have := hg.few; omega, fun i d z hd hz X' B' τ' hX' => ?_, ?_⟩
    · obtain ⟨c, hc, rfl⟩ := map_get hd
      obtain ⟨q, hq, rfl⟩ := map_get hz
      obtain ⟨c', hc', rfl⟩ := map_get hq
      rw [hc] at hc'
      cases hc'
      have mc := List.mem_of_getElem? hc
      obtain ⟨a, r, rfl, ha, hl⟩ := hg.hd c mc
      obtain ⟨s', H', C', cl', fp', rfl⟩ := hX'
      walk_at "xp"
      exact ⟨[_], rfl, n, a, r, rfl, n0, hn, hg.sz _ mc, ha, by omega, rfl, rfl⟩
    · walk_at "xp"
      refine ⟨[_], rfl, turns g, rfl, ?_, ?_, ?_, hk, fun g' h1 h2 => ?_⟩
      · unfold turns; simpa using hg.ne
      · unfold turns; rw [List.length_map]; exact hg.few
      · intro c hc
        obtain ⟨c', hc', rfl⟩ := List.mem_map.mp hc
        obtain ⟨a, r, rfl, _, hl⟩ := hg.hd c' hc'
        show (r.map _).length + 1 = k + 1
        rw [List.length_map, hl]
      · unfold turns at h2
        rw [List.length_map] at h2
        exact ⟨_, rfl, hP g' h1 h2⟩
/-! what can be shown of a row -/
def loM (g : List (List Rat)) (r : List Rat) (m : Mk) : Rat := m.sh + -dear g (apart m.row r)
def hiM (g : List (List Rat)) (r : List Rat) (m : Mk) : Rat := m.sh + dear g (apart r m.row)
def mxO (o : Option Rat) (v : Rat) : Option Rat := match o with
  | none => some v
  | some u => some (if u < v then v else u)
def mnO (o : Option Rat) (v : Rat) : Option Rat := match o with
  | none => some v
  | some u => some (if v < u then v else u)
def lows (g : List (List Rat)) (r : List Rat) (ms : List Mk) : Option Rat := ms.foldl (fun o m => mxO o (loM g r m)) none
def highs (g : List (List Rat)) (r : List Rat) (ms : List Mk) : Option Rat := ms.foldl (fun o m => mnO o (hiM g r m)) none
def od : Option Rat → Dt
  | none => .none
  | some q => fr q
def btw (g : List (List Rat)) (r : List Rat) (ms : List Mk) : Dt := .tuple [od (lows g r ms), od (highs g r ms)]
theorem mxO_sz {n : Nat} {o : Option Rat} {v : Rat} (h : ∀ q, o = some q → Sz n q) (hv : Sz n v) : ∀ q, mxO o v = some q → Sz n q := fun q e => by
  cases o with
  | none => cases e; exact hv
  | some u =>
    have e' := Option.some.inj e
    rw [← e']
    split
    · exact hv
    · exact h u rfl
theorem mnO_sz {n : Nat} {o : Option Rat} {v : Rat} (h : ∀ q, o = some q → Sz n q) (hv : Sz n v) : ∀ q, mnO o v = some q → Sz n q := fun q e => by
  cases o with
  | none => cases e; exact hv
  | some u =>
    have e' := Option.some.inj e
    rw [← e']
    split
    · exact hv
    · exact h u rfl
abbrev R_shown : RX := fun ds P Pe => ∃ (m nr nt l : Nat) (g : List (List Rat)) (ms : List Mk) (r : List Rat), ds = [tab g, mks ms, row r] ∧ 0 < m ∧ 0 < nr ∧ 0 < nt ∧ nt ≤ 1000 ∧ SzT m l g ∧ SzM nr nt l ms ∧ SzAll nr r ∧ r.length ≤ l ∧ (l + 1) * (m + 2 * nr + 2) ≤ 1500 ∧ l ≤ 500 ∧
  g.length ≤ 1000 ∧ g ≠ [] ∧ (Fit g ms → P (btw g r ms)) ∧ (¬ Fit g ms → Pe)
theorem ok_shown_with_marks {C : Addr} (kU : ExcK K mg "Unfit" C) (F : Fun K "shown_with_marks" "shown_with_marks" s_shown_with_marks f fd) (hC : Has P w K mg base CX0 7 "cost" p_cost (spP K R_cost)) (hA : Has P w K mg base CX0 4 "mark_apart" p_mark_apart (spP K R_apart))
    (hM : Has P w K mg base CX0 1 "mark_row" p_mark_row (spP K R_mark_row)) (hPl : Has P w K mg base CX0 2 "part_plus" p_part_plus (spP K R_plus)) (hB : Has P w K mg base CX0 1 "part_below" p_part_below (spP K R_below)) (hN : Has P w K mg base CX0 1 "part_minus" p_part_minus (spP K R_minus))
    (hF : Has P w K mg base CX0 9 "marks_fit" p_marks_fit (spP K R_marks_fit)) : FnOk P w K mg base (L2.CX P w) 10 f fd p_shown_with_marks (spX K C R_shown) := by
  refine fnX F sc_shown_with_marks (fun ds P Pe h => ?_) (fun X B ds Pr Pe E hX hr h tk hE hpo => ?_)
  · obtain ⟨m, nr, nt, l, g, ms, r, rfl, _⟩ := h; rfl
  · obtain ⟨cdv, A, outer, s, H, rfl⟩ := hX
    have nd := sc_shown_with_marks.nd
    obtain ⟨m, nr, nt, l, g, ms, r, rfl, m0, nr0, nt0, hnt, hg, hms, hrr, hrl, hz, hl, hgl, hne, p1, p2⟩ := h
    have hz' : l * (m + 2 * nr + 2) + (m + 2 * nr + 2) ≤ 1500 := by rw [← Nat.succ_mul]; exact hz
    have e0 : l * (m + (nr + nr + 1) + 1) = l * (m + 2 * nr + 2) := by congr 1; omega
    have e1 : m + (nr + nr + 1) + 1 = m + 2 * nr + 2 := by omega
    walk_at "xp"
    refine xt_val ?_
    walk_at "xp"
    refine ⟨[_, _], rfl, _, _, m, nr, nt, l, g, ms, rfl, tup_tab 2 (by omega) (fun c hc => by have := hg.ln c hc; omega), tup_mks 1 (by have := hms.few; omega) (fun q hq => by have := hms.ln q hq; omega), m0, nr0, nt0, hnt, hg, hms, hz, hl, hgl, hne, fun ft => ?_, fun nf => ?_⟩
    · refine ⟨_, rfl, iteF ?_⟩
      walk_at "xp"
      refine xs_asg (is := [3] ++ ([4] ++ [])) (xg_tup (n := 2) rfl (xgs_cons (xg_name (i := 3) nd rfl (.inl rfl)) (xgs_cons (xg_name (i := 4) nd rfl (.inl rfl)) xgs_nil))) ?_
      walk_at "xp"
      refine ⟨[_, _], rfl, Nat.le_of_ble_eq_true rfl, _, rfl, _, rfl, rfl, _, _, rfl, _, _, rfl, rfl, ?_⟩
      walk_at "xp"
      refine xs_for (is := [5]) hpo rfl (xg_name (i := 5) nd rfl (.inl rfl)) (xi_tup ?_)
      walk_at "xp"
      refine ⟨_, rfl, fun i δ τ => τ = [] ∧ (∀ q, lows g r (ms.take i) = some q → Sz (nt + (1 + l * (m + 2 * nr + 2)) + 1) q) ∧ (∀ q, highs g r (ms.take i) = some q → Sz (nt + (1 + l * (m + 2 * nr + 2)) + 1) q) ∧
        ∃ a b c, δ = [some (.d (tab g)), some (.d (mks ms)), some (.d (row r)), some (.d (od (lows g r (ms.take i)))), some (.d (od (highs g r (ms.take i)))), a, b, c], ⟨rfl, (fun q e => by cases e), (fun q e => by cases e), _, _, _, rfl⟩, fun i d δ τ hd hI => ?_, fun δ τ hI => ?_⟩
      · obtain ⟨rfl, sl, sh, a, b, c, rfl⟩ := hI
        obtain ⟨mk, hmk, rfl⟩ := map_get hd
        have mm := List.mem_of_getElem? hmk
        have ln := hms.ln mk mm
        show XSs _ _ _ _ _ _
        walk_at "xp"
        refine ⟨[_], rfl, mk, rfl, by omega, ?_⟩
        walk_at "xp"
        refine ⟨[_, _], rfl, nr, nr, _, _, rfl, nr0, nr0, by omega, hms.row mm, hrr, by show mk.be.length + 1 ≤ 1000; omega, by omega, ?_⟩
        walk_at "xp"
        have sa := apart_sz (hms.row mm) hrr
        have la : (apart mk.row r).length ≤ l := Nat.le_trans apart_len ln
        refine ⟨[_, _], rfl, m, nr + nr + 1, l, g, _, rfl, m0, by omega, hg, sa, by rw [e1]; omega, hgl, hne, by omega, by omega, ?_⟩
        walk_at "xp"
        have sd := dear_sz hg sa hne
        rw [e0] at sd
        refine ⟨[_], rfl, _, rfl, ?_⟩
        walk_at "xp"
        refine ⟨[_, _], rfl, nt, _, _, _, rfl, nt0, by omega, by omega, hms.sh mk mm, sd.neg, ?_⟩
        have slo : Sz (nt + (1 + l * (m + 2 * nr + 2)) + 1) (loM g r mk) := (hms.sh mk mm).add sd.neg
        walk_at "xp"
        refine ⟨[_], rfl, mk, rfl, by omega, ?_⟩
        walk_at "xp"
        refine ⟨[_, _], rfl, nr, nr, _, _, rfl, nr0, nr0, by omega, hrr, hms.row mm, by omega, by show mk.be.length + 1 ≤ 1000; omega, ?_⟩
        walk_at "xp"
        have sa2 := apart_sz hrr (hms.row mm)
        have la2 : (apart r mk.row).length ≤ l := Nat.le_trans apart_len hrl
        refine ⟨[_, _], rfl, m, nr + nr + 1, l, g, _, rfl, m0, by omega, hg, sa2, by rw [e1]; omega, hgl, hne, by omega, by omega, ?_⟩
        walk_at "xp"
        have sd2 := dear_sz hg sa2 hne
        rw [e0] at sd2
        refine ⟨[_, _], rfl, nt, _, _, _, rfl, nt0, by omega, by omega, hms.sh mk mm, sd2, ?_⟩
        have shi : Sz (nt + (1 + l * (m + 2 * nr + 2)) + 1) (hiM g r mk) := (hms.sh mk mm).add sd2
        have el : lows g r (ms.take (i + 1)) = mxO (lows g r (ms.take i)) (loM g r mk) := by rw [take_snoc hmk]; unfold lows; rw [List.foldl_append]; rfl
        have eh : highs g r (ms.take (i + 1)) = mnO (highs g r (ms.take i)) (hiM g r mk) := by rw [take_snoc hmk]; unfold highs; rw [List.foldl_append]; rfl
        walk_at "xp"
        refine XE.mono (P := fun w' τ' => τ' = [] ∧ w' = .d (od (lows g r (ms.take (i + 1))))) ?_ ?_
        · refine xe_ifx (xt_w (xw_or (xt_isN ?_)))
          walk_at "xp"
          refine r2_isN ?_
          refine ⟨_, rfl, ?_⟩
          cases ol : lows g r (ms.take i) with
          | none =>
            refine iteT (iteT ?_)
            walk_at "xp"
            rw [el, ol]; exact ⟨rfl, rfl⟩
          | some u =>
            refine iteF ?_
            refine xw_or1 (xt_val ?_)
            walk_at "xp"
            refine ⟨[_, _], rfl, _, _, u, _, rfl, by omega, by omega, by omega, sl u ol, slo, _, rfl, ite2 (fun e => ?_) (fun e => ?_)⟩
            · have ee : lows g r (ms.take (i + 1)) = some (loM g r mk) := by rw [el, ol]; show some (if _ then _ else _) = _; rw [if_pos (show u < loM g r mk from of_decide_eq_true e)]
              walk_at "xp"
              rw [ee]; exact ⟨rfl, rfl⟩
            · have ee : lows g r (ms.take (i + 1)) = some u := by rw [el, ol]; show some (if _ then _ else _) = _; rw [if_neg (show ¬ u < loM g r mk from fun z => e (decide_eq_true z))]
              walk_at "xp"
              rw [ee]; exact ⟨rfl, rfl⟩
        rintro _ _ ⟨rfl, rfl⟩
        walk_at "xp"
        refine XE.mono (P := fun w' τ' => τ' = [] ∧ w' = .d (od (highs g r (ms.take (i + 1))))) ?_ ?_
        · refine xe_ifx (xt_w (xw_or (xt_isN ?_)))
          walk_at "xp"
          refine r2_isN ?_
          refine ⟨_, rfl, ?_⟩
          cases oh : highs g r (ms.take i) with
          | none =>
            refine iteT (iteT ?_)
            walk_at "xp"
            rw [eh, oh]; exact ⟨rfl, rfl⟩
          | some u =>
            refine iteF ?_
            refine xw_or1 (xt_val ?_)
            walk_at "xp"
            refine ⟨[_, _], rfl, _, _, _, u, rfl, by omega, by omega, by omega, shi, sh u oh, _, rfl, ite2 (fun e => ?_) (fun e => ?_)⟩
            · have ee : highs g r (ms.take (i + 1)) = some (hiM g r mk) := by rw [eh, oh]; show some (if _ then _ else _) = _; rw [if_pos (show hiM g r mk < u from of_decide_eq_true e)]
              walk_at "xp"
              rw [ee]; exact ⟨rfl, rfl⟩
            · have ee : highs g r (ms.take (i + 1)) = some u := by rw [eh, oh]; show some (if _ then _ else _) = _; rw [if_neg (show ¬ hiM g r mk < u from fun z => e (decide_eq_true z))]
              walk_at "xp"
              rw [ee]; exact ⟨rfl, rfl⟩
        rintro _ _ ⟨rfl, rfl⟩
        walk_at "xp"
        exact ⟨rfl, rfl, (by rw [el]; exact mxO_sz sl slo), (by rw [eh]; exact mnO_sz sh shi), _, _, _, rfl⟩
      · obtain ⟨rfl, sl, sh, a, b, c, rfl⟩ := hI
        (rw [List.length_map, List.take_length])
        walk_at "xp"
        exact ⟨[_, _], rfl, Nat.le_of_ble_eq_true rfl, _, rfl, p1 ft⟩
    · refine ⟨_, rfl, iteT ?_⟩
      refine xss_cons (xs_raise' kU rfl tk (fun σ H' o => hE (p2 nf) B _ _ σ H' (.refl _) o))
end

end K10

set_option maxRecDepth 100000
set_option maxHeartbeats 4100000
namespace K10
open L2 PyProof.Rows PySem.Spec PySem
local macro_rules | `(tactic| walk_at "xv") => `(tactic| first
  | refine xe_var (i := 0) rfl ?_ | refine xe_var (i := 1) rfl ?_ | refine xe_var (i := 2) rfl ?_ | refine xe_var (i := 3) rfl ?_
  | refine xe_var (i := 4) rfl ?_ | refine xe_var (i := 5) rfl ?_ | refine xe_var (i := 6) rfl ?_ | refine xe_var (i := 7) rfl ?_
  | refine xe_var (i := 8) rfl ?_ | refine xe_var (i := 9) rfl ?_ | refine xe_var (i := 10) rfl ?_ | refine xe_var (i := 11) rfl ?_
  | refine xe_var (i := 12) rfl ?_ | refine xe_var (i := 13) rfl ?_ | refine xe_var (i := 14) rfl ?_ | refine xe_var (i := 15) rfl ?_)
local macro_rules | `(tactic| walk_at "xset") => `(tactic| first
  | refine xs_set (i := 0) (by assumption) rfl (by first | exact .inl rfl | exact .inr rfl) ?_ | refine xs_set (i := 1) (by assumption) rfl (by first | exact .inl rfl | exact .inr rfl) ?_
  | refine xs_set (i := 2) (by assumption) rfl (by first | exact .inl rfl | exact .inr rfl) ?_ | refine xs_set (i := 3) (by assumption) rfl (by first | exact .inl rfl | exact .inr rfl) ?_
  | refine xs_set (i := 4) (by assumption) rfl (by first | exact .inl rfl | exact .inr rfl) ?_ | refine xs_set (i := 5) (by assumption) rfl (by first | exact .inl rfl | exact .inr rfl) ?_
  | refine xs_set (i := 6) (by assumption) rfl (by first | exact .inl rfl | exact .inr rfl) ?_ | refine xs_set (i := 7) (by assumption) rfl (by first | exact .inl rfl | exact .inr rfl) ?_
  | refine xs_set (i := 8) (by assumption) rfl (by first | exact .inl rfl | exact .inr rfl) ?_ | refine xs_set (i := 9) (by assumption) rfl (by first | exact .inl rfl | exact .inr rfl) ?_
  | refine xs_set (i := 10) (by assumption) rfl (by first | exact .inl rfl | exact .inr rfl) ?_ | refine xs_set (i := 11) (by assumption) rfl (by first | exact .inl rfl | exact .inr rfl) ?_)
local macro_rules | `(tactic| walk_at "xname") => `(tactic| first
  | refine xg_name (i := 0) (by assumption) rfl (by first | exact .inl rfl | exact .inr rfl) | refine xg_name (i := 1) (by assumption) rfl (by first | exact .inl rfl | exact .inr rfl)
  | refine xg_name (i := 2) (by assumption) rfl (by first | exact .inl rfl | exact .inr rfl) | refine xg_name (i := 3) (by assumption) rfl (by first | exact .inl rfl | exact .inr rfl)
  | refine xg_name (i := 4) (by assumption) rfl (by first | exact .inl rfl | exact .inr rfl) | refine xg_name (i := 5) (by assumption) rfl (by first | exact .inl rfl | exact .inr rfl)
  | refine xg_name (i := 6) (by assumption) rfl (by first | exact .inl rfl | exact .inr rfl) | refine xg_name (i := 7) (by assumption) rfl (by first | exact .inl rfl | exact .inr rfl)
  | refine xg_name (i := 8) (by assumption) rfl (by first | exact .inl rfl | exact .inr rfl) | refine xg_name (i := 9) (by assumption) rfl (by first | exact .inl rfl | exact .inr rfl)
  | refine xg_name (i := 10) (by assumption) rfl (by first | exact .inl rfl | exact .inr rfl) | refine xg_name (i := 11) (by assumption) rfl (by first | exact .inl rfl | exact .inr rfl))
local macro_rules | `(tactic| walk_at "xcall") => `(tactic|
  (refine xe_call (by assumption) (Room.mono (by assumption) (by decide)) ?_))
local macro_rules | `(tactic| walk_at "x1") => `(tactic| first
  | refine xa_nil ?_ | refine xa_cons ?_ | refine xe_int ?_ | refine xe_bl ?_ | refine xe_non ?_ | refine xe_str ?_
  | walk_at "xv"
  | refine xe_tup ?_ | refine xe_lst ?_
  | refine xe_sub ?_
  | refine xe_ixT ?_
  | refine xe_neg ?_
  | refine xss_nil ?_ | refine xss_cons ?_ | refine xs_ret ?_ | walk_at "xset" | refine xs_if ?_
  | refine r2_int0 ?_ | refine r2_bool0 ?_ | refine r2_eqI ?_ | refine r2_neI ?_ | refine r1_neg ?_ | refine r2_ix0 ?_ | refine r2_ix1 ?_ | refine r2_ix2 ?_
  | refine xt_lt ?_ | refine xt_le ?_ | refine xt_gt ?_ | refine xt_ge ?_
  | refine xe_lt ?_ | refine xe_le ?_ | refine xe_gt ?_ | refine xe_ge ?_
  | refine xt_not ?_
  | walk_at "xcall")
local macro_rules | `(tactic| walk_at "xp") => `(tactic| repeat (walk_at "x1"))
theorem gst_ge (f : Rat) : ∀ qs : List Rat, f ≤ gst f qs ∧ ∀ q ∈ qs, q ≤ gst f qs := by
  intro qs
  induction qs generalizing f with
  | nil => exact ⟨Rat.le_refl, fun q h => nomatch h⟩
  | cons x qs ih =>
    have e : gst f (x :: qs) = gst (if f < x then x else f) qs := rfl
    rw [e]
    obtain ⟨h1, h2⟩ := ih (if f < x then x else f)
    have h3 : f ≤ (if f < x then x else f) ∧ x ≤ (if f < x then x else f) := by
      by_cases c : f < x
      · rw [if_pos c]; exact ⟨Rat.le_of_lt c, Rat.le_refl⟩
      · rw [if_neg c]; exact ⟨Rat.le_refl, Rat.not_lt.mp c⟩
    refine ⟨Rat.le_trans h3.1 h1, fun q hq => ?_⟩
    rcases List.mem_cons.mp hq with z | z
    · rw [z]; exact Rat.le_trans h3.2 h1
    · exact h2 q z
theorem top_ge {qs : List Rat} {q : Rat} (h : q ∈ qs) : q ≤ top qs := by
  cases qs with
  | nil => cases h
  | cons x qs => exact (gst_ge x (x :: qs)).2 q h
theorem dear_ge {g : List (List Rat)} {r : List Rat} {c : List Rat} (h : c ∈ g) : dot c r ≤ dear g r := top_ge (List.mem_map.mpr ⟨c, h, rfl⟩)
theorem dear_mem {g : List (List Rat)} {r : List Rat} (h : g ≠ []) : ∃ c ∈ g, dear g r = dot c r := by
  obtain ⟨c, hc, e⟩ := List.mem_map.mp (top_mem (qs := g.map fun c => dot c r) (by simpa using h))
  exact ⟨c, hc, e.symm⟩
theorem dear_same {g g' : List (List Rat)} (h : ∀ c, c ∈ g' ↔ c ∈ g) (r : List Rat) : dear g' r = dear g r := by
  by_cases e : g = []
  · have e' : g' = [] := List.eq_nil_iff_forall_not_mem.mpr fun c hc => by
      have := (h c).mp hc
      rw [e] at this; cases this
    rw [e, e']
  · have e' : g' ≠ [] := fun z => by
      obtain ⟨c, hc⟩ := List.exists_mem_of_ne_nil g e
      have := (h c).mpr hc
      rw [z] at this; cases this
    obtain ⟨c, hc, q⟩ := dear_mem (r := r) e
    obtain ⟨c', hc', q'⟩ := dear_mem (r := r) e'
    refine Rat.le_antisymm ?_ ?_
    · rw [q']; exact dear_ge ((h c').mp hc')
    · rw [q]; exact dear_ge ((h c).mpr hc)
theorem fit_same {g g' : List (List Rat)} (h : ∀ c, c ∈ g' ↔ c ∈ g) (ms : List Mk) : Fit g' ms ↔ Fit g ms := by
  unfold Fit
  simp only [dear_same h]
theorem btw_same {g g' : List (List Rat)} (h : ∀ c, c ∈ g' ↔ c ∈ g) (r : List Rat) (ms : List Mk) : btw g' r ms = btw g r ms := by
  unfold btw lows highs loM hiM
  simp only [dear_same h]
theorem turns_ne {g : List (List Rat)} (h : g ≠ []) : turns g ≠ [] := by unfold turns; simpa using h
theorem turns_szt {n k : Nat} {g : List (List Rat)} (h : Gau n k g) (n0 : 0 < n) : SzT (n + n) (k + 1) (turns g) := by
  refine ⟨fun c hc => ?_, fun c hc => ?_⟩
  · obtain ⟨c', hc', rfl⟩ := List.mem_map.mp hc
    obtain ⟨a, r, rfl, ha, hl⟩ := h.hd c' hc'
    have sa := h.sz _ hc' a List.mem_cons_self
    intro q hq
    rcases List.mem_cons.mp hq with (e | e)
    · rw [e]; exact ((sz_one (n := 1) (by decide)).div sa (num_pos ha)).mono (by omega)
    · obtain ⟨p, hp, rfl⟩ := List.mem_map.mp e
      exact ((h.sz _ hc' p (List.mem_cons_of_mem _ hp)).div sa (num_pos ha)).neg
  · obtain ⟨c', hc', rfl⟩ := List.mem_map.mp hc
    obtain ⟨a, r, rfl, ha, hl⟩ := h.hd c' hc'
    show (r.map _).length + 1 ≤ k + 1
    rw [List.length_map]; omega
theorem szt_same {m l : Nat} {g g' : List (List Rat)} (h : ∀ c, c ∈ g' ↔ c ∈ g) (s : SzT m l g) : SzT m l g' := ⟨fun c hc => s.sz c ((h c).mp hc), fun c hc => s.ln c ((h c).mp hc)⟩
theorem ne_same {g g' : List (List Rat)} (h : ∀ c, c ∈ g' ↔ c ∈ g) (s : g ≠ []) : g' ≠ [] := fun z => by
  obtain ⟨c, hc⟩ := List.exists_mem_of_ne_nil g s
  have := (h c).mpr hc
  rw [z] at this; cases this
theorem swap_szM {nr nt l : Nat} {ms : List Mk} (h : SzM nr nt l ms) : SzM (nr + nt) nr l (ms.map Mk.swap) where
  am := fun m hm => by obtain ⟨m', h', rfl⟩ := List.mem_map.mp hm; exact (h.sh m' h').mono (by omega)
  be := fun m hm => by obtain ⟨m', h', rfl⟩ := List.mem_map.mp hm; exact (h.be m' h').mono (by omega)
  sh := fun m hm => by obtain ⟨m', h', rfl⟩ := List.mem_map.mp hm; exact h.am m' h'
  ln := fun m hm => by obtain ⟨m', h', rfl⟩ := List.mem_map.mp hm; exact h.ln m' h'
  few := by rw [List.length_map]; exact h.few
section
variable {P : Program} {w : World} {K : Fg} {mg : Str → Option Value} {base : Heap} {f : Addr} {fd : FuncData}
abbrev R_shown_between : RX := fun ds P Pe => ∃ (x y z v : Dt) (m nr nt l : Nat) (g : List (List Rat)) (ms : List Mk) (a : Rat) (be : List Rat), ds = [x, y, z, v] ∧ Tup 5 x (tab g) ∧ Tup 5 y (mks ms) ∧ Tup 5 z (fr a) ∧ Tup 5 v (row be) ∧ 0 < m ∧ 0 < nr ∧ 0 < nt ∧ nt ≤ 1000 ∧ SzT m l g ∧ SzM nr nt l ms ∧ SzAll nr (a :: be) ∧ be.length + 1 ≤ l ∧ (l + 1) * (m + 2 * nr + 2) ≤ 1500 ∧ l ≤ 500 ∧
  g.length ≤ 1000 ∧ g ≠ [] ∧ (Fit g ms → P (btw g (a :: be) ms)) ∧ (¬ Fit g ms → Pe)
theorem ok_shown_between {C : Addr} (F : Fun K "shown_between" "shown_between" s_shown_between f fd) (hT : Has P w K mg base CX0 6 "tupled" p_tupled (spP K (R_tupled 5))) (hS : Has P w K mg base (L2.CX P w) 10 "shown_with_marks" p_shown_with_marks (spX K C R_shown)) : FnOk P w K mg base (L2.CX P w) 11 f fd p_shown_between (spX K C R_shown_between) := by
  refine fnX F sc_shown_between (fun ds P Pe h => ?_) (fun X B ds Pr Pe E hX hr h tk hE hpo => ?_)
  · obtain ⟨x, y, z, v, m, nr, nt, l, g, ms, a, be, rfl, _⟩ := h; rfl
  · obtain ⟨cdv, A, outer, s, H, rfl⟩ := hX
    have nd := sc_shown_between.nd
    obtain ⟨x, y, z, v, m, nr, nt, l, g, ms, a, be, rfl, hx, hy, hzz, hv, m0, nr0, nt0, hnt, hg, hms, hrr, hrl, hz, hl, hgl, hne, p1, p2⟩ := h
    refine xss_cons (xs_ret (xe_callX hS (hr.mono (by decide)) tk (Pe := Pe) (fun z τ1 σ H' o => hE z B _ _ σ H' (.refl _) o) ?_))
    walk_at "xp"
    refine ⟨[_], rfl, _, _, rfl, hx, ?_⟩
    walk_at "xp"
    refine ⟨[_], rfl, _, _, rfl, hy, ?_⟩
    refine xa_cons (xe_catT ?_)
    walk_at "xp"
    refine ⟨[_], rfl, _, _, rfl, hzz, ?_⟩
    walk_at "xp"
    refine ⟨[_], rfl, Nat.le_of_ble_eq_true rfl, ?_⟩
    walk_at "xp"
    refine ⟨[_], rfl, _, _, rfl, hv, ?_⟩
    refine r2_catT (xs := [fr a]) (ys := be.map fr) (by simp; omega) ?_
    walk_at "xp"
    exact ⟨[_, _, _], rfl, m, nr, nt, l, g, ms, a :: be, rfl, m0, nr0, nt0, hnt, hg, hms, hrr, hrl, hz, hl, hgl, hne, fun ft => ⟨_, rfl, p1 ft⟩, p2⟩
abbrev R_amounts : RX := fun ds P Pe => ∃ (x y z : Dt) (n k nr nt : Nat) (g : List (List Rat)) (ms : List Mk) (sh : Rat) (be : List Rat), ds = [x, y, z] ∧ Tup 5 x (tab g) ∧ Tup 5 y (mks ms) ∧ Tup 5 z (sgt be sh) ∧ 0 < n ∧ n ≤ 3000 ∧ 0 < nr ∧ 0 < nt ∧ nt ≤ 1000 ∧ Gau n k g ∧ k ≤ 2 ∧ SzM nr nt (k + 1) (ms.map Mk.swap) ∧ SzAll nr (sh :: be) ∧ be.length ≤ k ∧
  (k + 2) * (n + n + 2 * nr + 2) ≤ 1500 ∧ (Fit (turns g) (ms.map Mk.swap) → P (btw (turns g) (sh :: be) (ms.map Mk.swap))) ∧ (¬ Fit (turns g) (ms.map Mk.swap) → Pe)
theorem ok_amounts_between {C : Addr} (F : Fun K "amounts_between" "amounts_between" s_amounts_between f fd) (hT : Has P w K mg base CX0 6 "tupled" p_tupled (spP K (R_tupled 5))) (hS : Has P w K mg base (L2.CX P w) 10 "shown_with_marks" p_shown_with_marks (spX K C R_shown))
    (hA : Has P w K mg base CX0 7 "turned_about" p_turned_about (spP K R_turned_about)) (hM : Has P w K mg base CX0 7 "turned_marks" p_turned_marks (spP K R_turned_marks)) (hR : Has P w K mg base CX0 1 "sight_row" p_sight_row (spP K R_sight_row)) : FnOk P w K mg base (L2.CX P w) 11 f fd p_amounts_between (spX K C R_amounts) := by
  refine fnX F sc_amounts_between (fun ds P Pe h => ?_) (fun X B ds Pr Pe E hX hr h tk hE hpo => ?_)
  · obtain ⟨x, y, z, n, k, nr, nt, g, ms, sh, be, rfl, _⟩ := h; rfl
  · obtain ⟨cdv, A, outer, s, H, rfl⟩ := hX
    have nd := sc_amounts_between.nd
    obtain ⟨x, y, z, n, k, nr, nt, g, ms, sh, be, rfl, hx, hy, hzz, n0, hn, nr0, nt0, hnt, hg, hk, hms, hrr, hrl, hz, p1, p2⟩ := h
    have few := hms.few
    rw [List.length_map] at few
    refine xss_cons (xs_ret (xe_callX hS (hr.mono (by decide)) tk (Pe := Pe) (fun z τ1 σ H' o => hE z B _ _ σ H' (.refl _) o) ?_))
    walk_at "xp"
    refine ⟨[_], rfl, x, n, k, g, rfl, hx, n0, hn, hg, hk, fun g' same hlen => ?_⟩
    walk_at "xp"
    refine ⟨[_], rfl, y, ms, rfl, hy, few, ?_⟩
    walk_at "xp"
    refine ⟨[_], rfl, _, _, rfl, hzz, ?_⟩
    walk_at "xp"
    refine ⟨[_], rfl, be, sh, rfl, by omega, ?_⟩
    walk_at "xp"
    have ts := turns_szt hg n0
    have fw := hg.few
    refine ⟨[_, _, _], rfl, n + n, nr, nt, k + 1, g', ms.map Mk.swap, sh :: be, rfl, by omega, nr0, nt0, hnt, szt_same same ts, hms, hrr, by rw [List.length_cons]; omega, hz, by omega, by omega, ne_same same (turns_ne hg.ne), fun ft => ?_, fun nf => ?_⟩
    · rw [btw_same same]
      exact ⟨_, rfl, p1 ((fit_same same _).mp ft)⟩
    · exact p2 (fun z => nf ((fit_same same _).mpr z))
end

end K10

set_option maxRecDepth 100000
set_option maxHeartbeats 4100000
namespace K10
open L2 PyProof.Rows PySem.Spec PySem
local macro_rules | `(tactic| walk_at "xv") => `(tactic| first
  | refine xe_var (i := 0) rfl ?_ | refine xe_var (i := 1) rfl ?_ | refine xe_var (i := 2) rfl ?_ | refine xe_var (i := 3) rfl ?_
  | refine xe_var (i := 4) rfl ?_ | refine xe_var (i := 5) rfl ?_ | refine xe_var (i := 6) rfl ?_ | refine xe_var (i := 7) rfl ?_
  | refine xe_var (i := 8) rfl ?_ | refine xe_var (i := 9) rfl ?_ | refine xe_var (i := 10) rfl ?_ | refine xe_var (i := 11) rfl ?_
  | refine xe_var (i := 12) rfl ?_ | refine xe_var (i := 13) rfl ?_ | refine xe_var (i := 14) rfl ?_ | refine xe_var (i := 15) rfl ?_)
local macro_rules | `(tactic| walk_at "xset") => `(tactic| first
  | refine xs_set (i := 0) (by assumption) rfl (by first | exact .inl rfl | exact .inr rfl) ?_ | refine xs_set (i := 1) (by assumption) rfl (by first | exact .inl rfl | exact .inr rfl) ?_
  | refine xs_set (i := 2) (by assumption) rfl (by first | exact .inl rfl | exact .inr rfl) ?_ | refine xs_set (i := 3) (by assumption) rfl (by first | exact .inl rfl | exact .inr rfl) ?_
  | refine xs_set (i := 4) (by assumption) rfl (by first | exact .inl rfl | exact .inr rfl) ?_ | refine xs_set (i := 5) (by assumption) rfl (by first | exact .inl rfl | exact .inr rfl) ?_
  | refine xs_set (i := 6) (by assumption) rfl (by first | exact .inl rfl | exact .inr rfl) ?_ | refine xs_set (i := 7) (by assumption) rfl (by first | exact .inl rfl | exact .inr rfl) ?_
  | refine xs_set (i := 8) (by assumption) rfl (by first | exact .inl rfl | exact .inr rfl) ?_ | refine xs_set (i := 9) (by assumption) rfl (by first | exact .inl rfl | exact .inr rfl) ?_
  | refine xs_set (i := 10) (by assumption) rfl (by first | exact .inl rfl | exact .inr rfl) ?_ | refine xs_set (i := 11) (by assumption) rfl (by first | exact .inl rfl | exact .inr rfl) ?_)
local macro_rules | `(tactic| walk_at "xname") => `(tactic| first
  | refine xg_name (i := 0) (by assumption) rfl (by first | exact .inl rfl | exact .inr rfl) | refine xg_name (i := 1) (by assumption) rfl (by first | exact .inl rfl | exact .inr rfl)
  | refine xg_name (i := 2) (by assumption) rfl (by first | exact .inl rfl | exact .inr rfl) | refine xg_name (i := 3) (by assumption) rfl (by first | exact .inl rfl | exact .inr rfl)
  | refine xg_name (i := 4) (by assumption) rfl (by first | exact .inl rfl | exact .inr rfl) | refine xg_name (i := 5) (by assumption) rfl (by first | exact .inl rfl | exact .inr rfl)
  | refine xg_name (i := 6) (by assumption) rfl (by first | exact .inl rfl | exact .inr rfl) | refine xg_name (i := 7) (by assumption) rfl (by first | exact .inl rfl | exact .inr rfl)
  | refine xg_name (i := 8) (by assumption) rfl (by first | exact .inl rfl | exact .inr rfl) | refine xg_name (i := 9) (by assumption) rfl (by first | exact .inl rfl | exact .inr rfl)
  | refine xg_name (i := 10) (by assumption) rfl (by first | exact .inl rfl | exact .inr rfl) | refine xg_name (i := 11) (by assumption) rfl (by first | exact .inl rfl | exact .inr rfl))
local macro_rules | `(tactic| walk_at "xcall") => `(tactic|
  (refine xe_call (by assumption) (Room.mono (by assumption) (by decide)) ?_))
local macro_rules | `(tactic| walk_at "x1") => `(tactic| first
  | refine xa_nil ?_ | refine xa_cons ?_ | refine xe_int ?_ | refine xe_bl ?_ | refine xe_non ?_ | refine xe_str ?_
  | walk_at "xv"
  | refine xe_tup ?_ | refine xe_lst ?_
  | refine xe_sub ?_
  | refine xe_ixT ?_
  | refine xe_neg ?_
  | refine xss_nil ?_ | refine xss_cons ?_ | refine xs_ret ?_ | walk_at "xset" | refine xs_if ?_
  | refine r2_int0 ?_ | refine r2_bool0 ?_ | refine r2_eqI ?_ | refine r2_neI ?_ | refine r1_neg ?_ | refine r2_ix0 ?_ | refine r2_ix1 ?_ | refine r2_ix2 ?_
  | refine xt_lt ?_ | refine xt_le ?_ | refine xt_gt ?_ | refine xt_ge ?_
  | refine xe_lt ?_ | refine xe_le ?_ | refine xe_gt ?_ | refine xe_ge ?_
  | refine xt_not ?_
  | walk_at "xcall")
local macro_rules | `(tactic| walk_at "xp") => `(tactic| repeat (walk_at "x1"))
theorem gcd_step (x y : Int) : Nat.gcd y.natAbs (x % y).natAbs = Nat.gcd x.natAbs y.natAbs := by
  have h3 : x = y * (x / y) + x % y := (Int.mul_ediv_add_emod x y).symm
  apply Nat.dvd_antisymm
  · refine Nat.dvd_gcd ?_ (Nat.gcd_dvd_left _ _)
    have h1 : ((Nat.gcd y.natAbs (x % y).natAbs : Nat) : Int) ∣ y := Int.ofNat_dvd_left.mpr (Nat.gcd_dvd_left _ _)
    have h2 : ((Nat.gcd y.natAbs (x % y).natAbs : Nat) : Int) ∣ x % y := Int.ofNat_dvd_left.mpr (Nat.gcd_dvd_right _ _)
    have h4 : ((Nat.gcd y.natAbs (x % y).natAbs : Nat) : Int) ∣ x := by
      have := Int.dvd_add (Int.dvd_mul_of_dvd_left (c := x / y) h1) h2
      rwa [← h3] at this
    exact Int.ofNat_dvd_left.mp h4
  · refine Nat.dvd_gcd (Nat.gcd_dvd_right _ _) ?_
    have h1 : ((Nat.gcd x.natAbs y.natAbs : Nat) : Int) ∣ y := Int.ofNat_dvd_left.mpr (Nat.gcd_dvd_right _ _)
    have h2 : ((Nat.gcd x.natAbs y.natAbs : Nat) : Int) ∣ x := Int.ofNat_dvd_left.mpr (Nat.gcd_dvd_left _ _)
    have e : x % y = x - y * (x / y) := by omega
    have h4 : ((Nat.gcd x.natAbs y.natAbs : Nat) : Int) ∣ x % y := by
      rw [e]; exact Int.dvd_sub h2 (Int.dvd_mul_of_dvd_left h1)
    exact Int.ofNat_dvd_left.mp h4
section
variable {P : Program} {w : World} {K : Fg} {mg : Str → Option Value} {base : Heap} {f : Addr} {fd : FuncData}
abbrev R_lgcd : RR := fun ds P => ∃ (a b : Int), ds = [.int a, .int b] ∧ 0 ≤ b ∧ P (.int ((Nat.gcd a.natAbs b.natAbs : Nat) : Int))
theorem ok_L_gcd (F : Fun K "_law_gcd" "_law_gcd" s_L_gcd f fd) (mi : mg "int" = none) (ma : mg "abs" = none) : FnOk P w K mg base CX0 1 f fd p_L_gcd (spP K R_lgcd) := by
  refine fnP F sc_L_gcd (fun ds P h => ?_) (fun X B ds Pr hX hr h => ?_)
  · obtain ⟨a, b, rfl, _⟩ := h; rfl
  · obtain ⟨cdv, A, outer, s, H, E, rfl⟩ := hX
    have nd := sc_L_gcd.nd
    obtain ⟨a, b, rfl, hb, hP⟩ := h
    refine xss_cons (xs_while PassesOwn.never (fun m δ τ => τ = [] ∧ ∃ x y : Int, δ = [some (.d (.int x)), some (.d (.int y))] ∧ 0 ≤ y ∧ Nat.gcd x.natAbs y.natAbs = Nat.gcd a.natAbs b.natAbs ∧ m = y.toNat) b.toNat ⟨rfl, a, b, rfl, hb, rfl, rfl⟩ (fun m δ τ hI => ?_))
    obtain ⟨rfl, x, y, rfl, hy, hg, rfl⟩ := hI
    refine xt_neI ?_
    walk_at "xp"
    refine ⟨_, rfl, ?_⟩
    by_cases c : y = 0
    · rw [show (!decide (y = 0)) = false by simp [c]]
      refine iteF ?_
      refine xss_cons (xs_ret (xe_callB call_abs ma (by decide +kernel) ?_))
      walk_at "xp"
      refine rn_abs ?_
      have e : (if x < 0 then -x else x) = ((Nat.gcd a.natAbs b.natAbs : Nat) : Int) := by
        rw [← hg, c]
        show _ = ((Nat.gcd x.natAbs 0 : Nat) : Int)
        rw [Nat.gcd_zero_right]
        split <;> omega
      rw [e]
      exact ⟨_, rfl, hP⟩
    · rw [show (!decide (y = 0)) = true by simp [c]]
      refine iteT ?_
      refine xss_cons (xs_par (i := 0) (j := 1) rfl nd rfl rfl (by decide) rfl rfl rfl ?_)
      walk_at "xp"
      refine xe_mod (xe_callTy call_int1 mi (by decide +kernel) ?_)
      walk_at "xp"
      refine rn_intI ?_
      walk_at "xp"
      refine r2_int (show (0 : Int) < y by omega) ?_
      walk_at "xp"
      have h1 : 0 ≤ x % y := Int.emod_nonneg x (by omega)
      have h2 : x % y < y := Int.emod_lt_of_pos x (by omega)
      exact ⟨_, _, rfl, xss_nil ⟨rfl, (x % y).toNat, by omega, rfl, y, x % y, rfl, h1, (gcd_step x y).trans hg, rfl⟩⟩
theorem ok_L_fr (F : Fun K "_law_fr" "_law_fr" s_L_fr f fd) (hG : Has P w K mg base CX0 1 "_law_gcd" p_L_gcd (spP K R_lgcd)) : FnOk P w K mg base CX0 2 f fd p_L_fr (spP K R_part_of) := by
  refine fnP F sc_L_fr (fun ds P h => ?_) (fun X B ds Pr hX hr h => ?_)
  · obtain ⟨n, a, b, rfl, _⟩ := h; rfl
  · obtain ⟨cdv, A, outer, s, H, E, rfl⟩ := hX
    have nd := sc_L_fr.nd
    obtain ⟨n, a, b, rfl, n1, n2, hb, ha, hbb, hP⟩ := h
    obtain ⟨e1, e2⟩ := divInt_parts a hb
    have hg := gcd_pos_of a hb
    have gle : ((Nat.gcd a.natAbs b.natAbs : Nat) : Int).natAbs < 2 ^ n := by
      have : Nat.gcd a.natAbs b.natAbs ≤ b.natAbs := Nat.gcd_le_right _ (by omega)
      rw [Int.natAbs_natCast]; omega
    walk_at "xp"
    refine ⟨[_, _], rfl, a, b, rfl, by omega, ?_⟩
    walk_at "xp"
    refine xe_divW ?_
    walk_at "xp"
    refine r2_int (wide_div hg gle n2 (by omega)) ?_
    walk_at "xp"
    refine xe_divW ?_
    walk_at "xp"
    refine r2_int (wide_div hg gle n2 (by omega)) ?_
    walk_at "xp"
    refine ⟨[.int _, .int _], rfl, Nat.le_of_ble_eq_true rfl, _, rfl, ?_⟩
    rw [← e1, ← e2]
    exact hP
theorem ok_L_sum (F : Fun K "_law_sum" "_law_sum" s_L_sum f fd) (hO : Has P w K mg base CX0 2 "_law_fr" p_L_fr (spP K R_part_of)) : FnOk P w K mg base CX0 3 f fd p_L_sum (spP K R_plus) := by
  refine fnP F sc_L_sum (fun ds P h => ?_) (fun X B ds Pr hX hr h => ?_)
  · obtain ⟨m, n, p, q, rfl, _⟩ := h; rfl
  · obtain ⟨cdv, A, outer, s, H, E, rfl⟩ := hX
    have nd := sc_L_sum.nd
    obtain ⟨m, n, p, q, rfl, m1, n1, mn, hp, hq, hP⟩ := h
    walk_at "xp"
    refine xe_add (xe_mulW ?_)
    walk_at "xp"
    refine r2_int (wide_mul hp.nu hq.deI m1 n1 (by omega)) ?_
    refine xe_mulW ?_
    walk_at "xp"
    refine r2_int (wide_mul hq.nu hp.deI n1 m1 (by omega)) ?_
    walk_at "xp"
    refine xe_mulW ?_
    walk_at "xp"
    refine r2_int (wide_mul hp.deI hq.deI m1 n1 (by omega)) ?_
    walk_at "xp"
    refine ⟨[.int _, .int _], rfl, m + n + 1, _, _, rfl, by omega, by omega, Int.mul_pos (den_pos' p) (den_pos' q), hp.top hq, Nat.lt_of_lt_of_le (hp.bot hq) (Nat.pow_le_pow_right (by decide) (by omega)), _, rfl, ?_⟩
    rw [← rat_add p q]
    exact hP
theorem ok_L_less_by (F : Fun K "_law_less_by" "_law_less_by" s_L_less_by f fd) (hO : Has P w K mg base CX0 2 "_law_fr" p_L_fr (spP K R_part_of)) : FnOk P w K mg base CX0 3 f fd p_L_less_by (spP K R_less) := by
  refine fnP F sc_L_less_by (fun ds P h => ?_) (fun X B ds Pr hX hr h => ?_)
  · obtain ⟨m, n, p, q, rfl, _⟩ := h; rfl
  · obtain ⟨cdv, A, outer, s, H, E, rfl⟩ := hX
    have nd := sc_L_less_by.nd
    obtain ⟨m, n, p, q, rfl, m1, n1, mn, hp, hq, hP⟩ := h
    walk_at "xp"
    refine xe_mulW ?_
    walk_at "xp"
    refine r2_int (wide_mul hp.nu hq.deI m1 n1 (by omega)) ?_
    refine xe_mulW ?_
    walk_at "xp"
    refine r2_int (wide_mul hq.nu hp.deI n1 m1 (by omega)) ?_
    walk_at "xp"
    refine xe_mulW ?_
    walk_at "xp"
    refine r2_int (wide_mul hp.deI hq.deI m1 n1 (by omega)) ?_
    walk_at "xp"
    refine ⟨[.int _, .int _], rfl, m + n + 1, _, _, rfl, by omega, by omega, Int.mul_pos (den_pos' p) (den_pos' q), hp.topL hq, Nat.lt_of_lt_of_le (hp.bot hq) (Nat.pow_le_pow_right (by decide) (by omega)), _, rfl, ?_⟩
    rw [← rat_sub p q]
    exact hP
theorem ok_L_mul (F : Fun K "_law_mul" "_law_mul" s_L_mul f fd) (hO : Has P w K mg base CX0 2 "_law_fr" p_L_fr (spP K R_part_of)) : FnOk P w K mg base CX0 3 f fd p_L_mul (spP K R_times) := by
  refine fnP F sc_L_mul (fun ds P h => ?_) (fun X B ds Pr hX hr h => ?_)
  · obtain ⟨m, n, p, q, rfl, _⟩ := h; rfl
  · obtain ⟨cdv, A, outer, s, H, E, rfl⟩ := hX
    have nd := sc_L_mul.nd
    obtain ⟨m, n, p, q, rfl, m1, n1, mn, hp, hq, hP⟩ := h
    walk_at "xp"
    refine xe_mulW ?_
    walk_at "xp"
    refine r2_int (wide_mul hp.nu hq.nu m1 n1 (by omega)) ?_
    walk_at "xp"
    refine xe_mulW ?_
    walk_at "xp"
    refine r2_int (wide_mul hp.deI hq.deI m1 n1 (by omega)) ?_
    walk_at "xp"
    refine ⟨[.int _, .int _], rfl, m + n, _, _, rfl, by omega, by omega, Int.mul_pos (den_pos' p) (den_pos' q), mulI_lt hp.nu hq.nu, hp.bot hq, _, rfl, ?_⟩
    rw [← rat_mul p q]
    exact hP
theorem ok_L_over (F : Fun K "_law_over" "_law_over" s_L_over f fd) (hO : Has P w K mg base CX0 2 "_law_fr" p_L_fr (spP K R_part_of)) : FnOk P w K mg base CX0 3 f fd p_L_over (spP K R_over) := by
  refine fnP F sc_L_over (fun ds P h => ?_) (fun X B ds Pr hX hr h => ?_)
  · obtain ⟨m, n, p, q, rfl, _⟩ := h; rfl
  · obtain ⟨cdv, A, outer, s, H, E, rfl⟩ := hX
    have nd := sc_L_over.nd
    obtain ⟨m, n, p, q, rfl, m1, n1, mn, hp, hq, q0, hP⟩ := h
    walk_at "xp"
    refine xe_mulW ?_
    walk_at "xp"
    refine r2_int (wide_mul hp.nu hq.deI m1 n1 (by omega)) ?_
    walk_at "xp"
    refine xe_mulW ?_
    walk_at "xp"
    refine r2_int (wide_mul hp.deI hq.nu m1 n1 (by omega)) ?_
    walk_at "xp"
    refine ⟨[.int _, .int _], rfl, m + n, _, _, rfl, by omega, by omega, Int.mul_pos (den_pos' p) (num_pos q0), mulI_lt hp.nu hq.deI, mulI_lt hp.deI hq.nu, _, rfl, ?_⟩
    rw [← rat_div p q (num_pos q0)]
    exact hP
theorem ok_L_under (F : Fun K "_law_under" "_law_under" s_L_under f fd) : FnOk P w K mg base CX0 1 f fd p_L_under (spP K R_below) := by
  refine fnP F sc_L_under (fun ds P h => ?_) (fun X B ds Pr hX hr h => ?_)
  · obtain ⟨m, n, p, q, rfl, _⟩ := h; rfl
  · obtain ⟨cdv, A, outer, s, H, E, rfl⟩ := hX
    have nd := sc_L_under.nd
    obtain ⟨m, n, p, q, rfl, m1, n1, mn, hp, hq, hP⟩ := h
    walk_at "xp"
    refine xe_mulW ?_
    walk_at "xp"
    refine r2_int (wide_mul hp.nu hq.deI m1 n1 (by omega)) ?_
    refine xe_mulW ?_
    walk_at "xp"
    refine r2_int (wide_mul hq.nu hp.deI n1 m1 (by omega)) ?_
    walk_at "xp"
    refine ⟨_, rfl, ?_⟩
    rw [lt_num]
    exact hP
end

end K10

set_option maxRecDepth 100000
set_option maxHeartbeats 4100000
namespace K10
open L2 PyProof.Rows PySem.Spec PySem
local macro_rules | `(tactic| walk_at "xv") => `(tactic| first
  | refine xe_var (i := 0) rfl ?_ | refine xe_var (i := 1) rfl ?_ | refine xe_var (i := 2) rfl ?_ | refine xe_var (i := 3) rfl ?_
  | refine xe_var (i := 4) rfl ?_ | refine xe_var (i := 5) rfl ?_ | refine xe_var (i := 6) rfl ?_ | refine xe_var (i := 7) rfl ?_
  | refine xe_var (i := 8) rfl ?_ | refine xe_var (i := 9) rfl ?_ | refine xe_var (i := 10) rfl ?_ | refine xe_var (i := 11) rfl ?_
  | refine xe_var (i := 12) rfl ?_ | refine xe_var (i := 13) rfl ?_ | refine xe_var (i := 14) rfl ?_ | refine xe_var (i := 15) rfl ?_)
local macro_rules | `(tactic| walk_at "xset") => `(tactic| first
  | refine xs_set (i := 0) (by assumption) rfl (by first | exact .inl rfl | exact .inr rfl) ?_ | refine xs_set (i := 1) (by assumption) rfl (by first | exact .inl rfl | exact .inr rfl) ?_
  | refine xs_set (i := 2) (by assumption) rfl (by first | exact .inl rfl | exact .inr rfl) ?_ | refine xs_set (i := 3) (by assumption) rfl (by first | exact .inl rfl | exact .inr rfl) ?_
  | refine xs_set (i := 4) (by assumption) rfl (by first | exact .inl rfl | exact .inr rfl) ?_ | refine xs_set (i := 5) (by assumption) rfl (by first | exact .inl rfl | exact .inr rfl) ?_
  | refine xs_set (i := 6) (by assumption) rfl (by first | exact .inl rfl | exact .inr rfl) ?_ | refine xs_set (i := 7) (by assumption) rfl (by first | exact .inl rfl | exact .inr rfl) ?_
  | refine xs_set (i := 8) (by assumption) rfl (by first | exact .inl rfl | exact .inr rfl) ?_ | refine xs_set (i := 9) (by assumption) rfl (by first | exact .inl rfl | exact .inr rfl) ?_
  | refine xs_set (i := 10) (by assumption) rfl (by first | exact .inl rfl | exact .inr rfl) ?_ | refine xs_set (i := 11) (by assumption) rfl (by first | exact .inl rfl | exact .inr rfl) ?_)
local macro_rules | `(tactic| walk_at "xname") => `(tactic| first
  | refine xg_name (i := 0) (by assumption) rfl (by first | exact .inl rfl | exact .inr rfl) | refine xg_name (i := 1) (by assumption) rfl (by first | exact .inl rfl | exact .inr rfl)
  | refine xg_name (i := 2) (by assumption) rfl (by first | exact .inl rfl | exact .inr rfl) | refine xg_name (i := 3) (by assumption) rfl (by first | exact .inl rfl | exact .inr rfl)
  | refine xg_name (i := 4) (by assumption) rfl (by first | exact .inl rfl | exact .inr rfl) | refine xg_name (i := 5) (by assumption) rfl (by first | exact .inl rfl | exact .inr rfl)
  | refine xg_name (i := 6) (by assumption) rfl (by first | exact .inl rfl | exact .inr rfl) | refine xg_name (i := 7) (by assumption) rfl (by first | exact .inl rfl | exact .inr rfl)
  | refine xg_name (i := 8) (by assumption) rfl (by first | exact .inl rfl | exact .inr rfl) | refine xg_name (i := 9) (by assumption) rfl (by first | exact .inl rfl | exact .inr rfl)
  | refine xg_name (i := 10) (by assumption) rfl (by first | exact .inl rfl | exact .inr rfl) | refine xg_name (i := 11) (by assumption) rfl (by first | exact .inl rfl | exact .inr rfl))
local macro_rules | `(tactic| walk_at "xcall") => `(tactic|
  (refine xe_call (by assumption) (Room.mono (by assumption) (by decide)) ?_))
local macro_rules | `(tactic| walk_at "x1") => `(tactic| first
  | refine xa_nil ?_ | refine xa_cons ?_ | refine xe_int ?_ | refine xe_bl ?_ | refine xe_non ?_ | refine xe_str ?_
  | walk_at "xv"
  | refine xe_tup ?_ | refine xe_lst ?_
  | refine xe_sub ?_
  | refine xe_ixT ?_
  | refine xe_neg ?_
  | refine xss_nil ?_ | refine xss_cons ?_ | refine xs_ret ?_ | walk_at "xset" | refine xs_if ?_
  | refine r2_int0 ?_ | refine r2_bool0 ?_ | refine r2_eqI ?_ | refine r2_neI ?_ | refine r1_neg ?_ | refine r2_ix0 ?_ | refine r2_ix1 ?_ | refine r2_ix2 ?_
  | refine xt_lt ?_ | refine xt_le ?_ | refine xt_gt ?_ | refine xt_ge ?_
  | refine xe_lt ?_ | refine xe_le ?_ | refine xe_gt ?_ | refine xe_ge ?_
  | refine xt_not ?_
  | walk_at "xcall")
local macro_rules | `(tactic| walk_at "xp") => `(tactic| repeat (walk_at "x1"))
theorem frn_ne {q : Rat} : (!decide (q.num = 0)) = !decide (q = 0) := by
  by_cases c : q = 0
  · rw [c]; rfl
  · have h : q.num ≠ 0 := fun z => c (Rat.num_eq_zero.mp z)
    simp [c, h]
section
variable {P : Program} {w : World} {K : Fg} {mg : Str → Option Value} {base : Heap} {f : Addr} {fd : FuncData}
theorem ok_L_dot (F : Fun K "_law_dot" "_law_dot" s_L_dot f fd) (hS : Has P w K mg base CX0 3 "_law_sum" p_L_sum (spP K R_plus)) (hT : Has P w K mg base CX0 3 "_law_mul" p_L_mul (spP K R_times)) (mz : mg "zip" = none) : FnOk P w K mg base CX0 4 f fd p_L_dot (spP K R_dot) := by
  refine fnP F sc_L_dot (fun ds P h => ?_) (fun X B ds Pr hX hr h => ?_)
  · obtain ⟨m, n, xs, ys, rfl, _⟩ := h; rfl
  · obtain ⟨cdv, A, outer, s, H, E, rfl⟩ := hX
    have nd := sc_L_dot.nd
    obtain ⟨m, n, xs, ys, rfl, m0, n0, hx, hy, hz, hP⟩ := h
    have hz' : xs.length * (m + n + 1) + (m + n + 1) ≤ 7000 := by rw [← Nat.succ_mul]; exact hz
    walk_at "xp"
    refine ⟨[.int _, .int _], rfl, Nat.le_of_ble_eq_true rfl, ?_⟩
    walk_at "xp"
    refine xs_for (is := [3] ++ ([4] ++ [])) PassesOwn.never rfl (xg_tup (n := 2) rfl (xgs_cons (xg_name (i := 3) nd rfl (.inl rfl)) (xgs_cons (xg_name (i := 4) nd rfl (.inl rfl)) xgs_nil))) (xi_zipT mz ?_)
    walk_at "xp"
    have lz : (xs.zip ys).length ≤ xs.length := by rw [List.length_zip]; omega
    have hq : SzAll (m + n) ((xs.zip ys).map fun p => p.1 * p.2) := fun q hq => by
      rcases List.mem_map.mp hq with ⟨p, hp, rfl⟩
      exact (hx _ (List.of_mem_zip (show (p.1, p.2) ∈ xs.zip ys from hp)).1).mul (hy _ (List.of_mem_zip (show (p.1, p.2) ∈ xs.zip ys from hp)).2)
    refine ⟨_, _, rfl, fun i δ τ => τ = [] ∧ ∃ a b, δ = [some (.d (row xs)), some (.d (row ys)), some (.d (fr (qsum (((xs.zip ys).map fun p => p.1 * p.2).take i)))), a, b], ⟨rfl, _, _, rfl⟩, fun i d δ τ hd hI => ?_, fun δ τ hI => ?_⟩
    · obtain ⟨rfl, a, b, rfl⟩ := hI
      rw [pairs_row] at hd
      obtain ⟨p, hp, rfl⟩ := map_get hd
      have pm := List.mem_of_getElem? hp
      have hi : i < (xs.zip ys).length := (List.getElem?_eq_some_iff.mp hp).1
      have hp2 : ((xs.zip ys).map fun p => p.1 * p.2)[i]? = some (p.1 * p.2) := by rw [List.getElem?_map, hp]; rfl
      have s1 := hx _ (List.of_mem_zip (show (p.1, p.2) ∈ xs.zip ys from pm)).1
      have s2 := hy _ (List.of_mem_zip (show (p.1, p.2) ∈ xs.zip ys from pm)).2
      refine ⟨_, rfl, rfl, _, _, rfl, _, _, rfl, rfl, ?_⟩
      have nxt := take_snoc hp2
      have skip : p.1 * p.2 = 0 → qsum (((xs.zip ys).map fun p => p.1 * p.2).take (i + 1)) = qsum (((xs.zip ys).map fun p => p.1 * p.2).take i) := fun z => by
        rw [nxt, qsum_snoc, z]; grind
      refine xss_cons (xs_if (xt_w (xw_and (xt_neI ?_))))
      walk_at "xp"
      refine ⟨_, rfl, ite2 (fun e => ?_) (fun e => ?_)⟩
      · refine xw_and1 (xt_neI ?_)
        walk_at "xp"
        refine ⟨_, rfl, ite2 (fun e2 => ?_) (fun e2 => ?_)⟩
        · walk_at "xp"
          refine ⟨[_, _], rfl, m, n, _, _, rfl, m0, n0, by omega, s1, s2, ?_⟩
          walk_at "xp"
          have sq : Sz (1 + i * (m + n + 1)) (qsum (((xs.zip ys).map fun p => p.1 * p.2).take i)) := (qsum_sz (fun q h => hq q (List.mem_of_mem_take h))).mono (by
            rw [List.length_take]
            have : min i ((xs.zip ys).map fun p => p.1 * p.2).length * (m + n + 1) ≤ i * (m + n + 1) := Nat.mul_le_mul_right _ (Nat.min_le_left _ _)
            omega)
          have bi : i * (m + n + 1) ≤ xs.length * (m + n + 1) := Nat.mul_le_mul_right _ (by omega)
          refine ⟨[_, _], rfl, _, m + n, _, _, rfl, by omega, by omega, by omega, sq, s1.mul s2, ?_⟩
          walk_at "xp"
          refine ⟨rfl, rfl, some (.d (fr p.1)), some (.d (fr p.2)), ?_⟩
          rw [nxt, qsum_snoc]; rfl
        · walk_at "xp"
          refine ⟨rfl, rfl, some (.d (fr p.1)), some (.d (fr p.2)), ?_⟩
          rw [frn_ne] at e2
          rw [skip (by have : p.2 = 0 := by simpa using e2
                       rw [this]; grind)]; rfl
      · refine iteF ?_
        walk_at "xp"
        refine ⟨rfl, rfl, some (.d (fr p.1)), some (.d (fr p.2)), ?_⟩
        rw [frn_ne] at e
        rw [skip (by have : p.1 = 0 := by simpa using e
                     rw [this]; grind)]; rfl
    · obtain ⟨rfl, a, b, rfl⟩ := hI
      rw [pairs_row, List.length_map, List.take_of_length_le (by rw [List.length_map]; exact Nat.le_refl _)]
      walk_at "xp"
      exact ⟨_, rfl, hP⟩
theorem foldl_mx : ∀ (qs : List Rat) (f : Rat), qs.foldl mxO (some f) = some (gst f qs)
  | [], _ => rfl
  | q :: qs, f => by
    show qs.foldl mxO (some (if f < q then q else f)) = _
    rw [foldl_mx qs]; rfl
theorem foldl_top {qs : List Rat} (h : qs ≠ []) : qs.foldl mxO none = some (top qs) := by
  cases qs with
  | nil => exact absurd rfl h
  | cons q qs =>
    show qs.foldl mxO (some q) = some (gst q (q :: qs))
    rw [foldl_mx]
    show _ = some (gst (if q < q then q else q) qs)
    rw [if_neg Rat.lt_irrefl]
theorem foldl_mx_sz {n : Nat} {qs : List Rat} (h : SzAll n qs) : ∀ q, qs.foldl mxO none = some q → Sz n q := fun q e => by
  by_cases c : qs = []
  · rw [c] at e; cases e
  · rw [foldl_top c] at e
    cases e
    exact h _ (top_mem c)
theorem ok_L_dear (F : Fun K "_law_dear" "_law_dear" s_L_dear f fd) (hD : Has P w K mg base CX0 4 "_law_dot" p_L_dot (spP K R_dot)) (hU : Has P w K mg base CX0 1 "_law_under" p_L_under (spP K R_below)) : FnOk P w K mg base CX0 5 f fd p_L_dear (spP K R_cost) := by
  refine fnP F sc_L_dear (fun ds P h => ?_) (fun X B ds Pr hX hr h => ?_)
  · obtain ⟨m, n, l, g, r, rfl, _⟩ := h; rfl
  · obtain ⟨cdv, A, outer, s, H, E, rfl⟩ := hX
    have nd := sc_L_dear.nd
    obtain ⟨m, n, l, g, r, rfl, m0, n0, hg, hr', hz, hl, hne, hl2, hl3, hP⟩ := h
    have hz' : l * (m + n + 1) + (m + n + 1) ≤ 3500 := by rw [← Nat.succ_mul]; exact hz
    have sqs : SzAll (1 + l * (m + n + 1)) (g.map fun c => dot c r) := fun q hq => by
      obtain ⟨c, hc, rfl⟩ := List.mem_map.mp hq
      refine (dot_sz (hg.sz c hc) hr').mono ?_
      have := Nat.mul_le_mul_right (m + n + 1) (hg.ln c hc)
      omega
    walk_at "xp"
    refine xs_for (is := [3]) PassesOwn.never rfl (xg_name (i := 3) nd rfl (.inl rfl)) (xi_tup ?_)
    walk_at "xp"
    refine ⟨_, rfl, fun i δ τ => τ = [] ∧ ∃ a b, δ = [some (.d (tab g)), some (.d (row r)), some (.d (od (((g.map fun c => dot c r).take i).foldl mxO none))), a, b], ⟨rfl, _, _, rfl⟩, fun i d δ τ hd hI => ?_, fun δ τ hI => ?_⟩
    · obtain ⟨rfl, a, b, rfl⟩ := hI
      obtain ⟨c, hc, rfl⟩ := map_get hd
      have mc := List.mem_of_getElem? hc
      have hc2 : (g.map fun c => dot c r)[i]? = some (dot c r) := by rw [List.getElem?_map, hc]; rfl
      have nxt : ((g.map fun c => dot c r).take (i + 1)).foldl mxO none = mxO (((g.map fun c => dot c r).take i).foldl mxO none) (dot c r) := by rw [take_snoc hc2, List.foldl_append]; rfl
      show XSs _ _ _ _ _ _
      walk_at "xp"
      refine ⟨[_, _], rfl, m, n, _, _, rfl, m0, n0, hg.sz c mc, hr', Nat.le_trans (Nat.mul_le_mul_right _ (Nat.succ_le_succ (hg.ln c mc))) (Nat.le_trans hz (by decide)), ?_⟩
      walk_at "xp"
      refine xt_w (xw_or (xt_isN ?_))
      walk_at "xp"
      refine r2_isN ?_
      refine ⟨_, rfl, ?_⟩
      cases o : ((g.map fun c => dot c r).take i).foldl mxO none with
      | none =>
        refine iteT (iteT ?_)
        walk_at "xp"
        refine ⟨rfl, rfl, some (.d (row c)), some (.d (fr (dot c r))), ?_⟩
        rw [nxt, o]; rfl
      | some u =>
        refine iteF (xw_or1 (xt_val ?_))
        walk_at "xp"
        refine ⟨[_, _], rfl, _, _, u, _, rfl, by omega, by omega, by omega, foldl_mx_sz (fun q h => sqs q (List.mem_of_mem_take h)) u o, sqs _ (List.mem_map.mpr ⟨c, mc, rfl⟩), _, rfl, ite2 (fun e => ?_) (fun e => ?_)⟩
        · walk_at "xp"
          refine ⟨rfl, rfl, some (.d (row c)), some (.d (fr (dot c r))), ?_⟩
          have ee : ((g.map fun c => dot c r).take (i + 1)).foldl mxO none = some (dot c r) := by rw [nxt, o]; show some (if _ then _ else _) = _; rw [if_pos (of_decide_eq_true e)]
          rw [ee]; rfl
        · walk_at "xp"
          refine ⟨rfl, rfl, some (.d (row c)), some (.d (fr (dot c r))), ?_⟩
          have ee : ((g.map fun c => dot c r).take (i + 1)).foldl mxO none = some u := by rw [nxt, o]; show some (if _ then _ else _) = _; rw [if_neg (fun z => e (decide_eq_true z))]
          rw [ee]; rfl
    · obtain ⟨rfl, a, b, rfl⟩ := hI
      rw [List.length_map, List.take_of_length_le (by rw [List.length_map]; exact Nat.le_refl _), foldl_top (by simpa using hne)]
      walk_at "xp"
      exact ⟨_, rfl, hP⟩
theorem ok_L_apart (F : Fun K "_law_apart" "_law_apart" s_L_apart f fd) (hT : Has P w K mg base CX0 3 "_law_less_by" p_L_less_by (spP K R_less)) (mz : mg "zip" = none) (mt : mg "tuple" = none) : FnOk P w K mg base CX0 4 f fd p_L_apart (spP K R_apart) := by
  refine fnP F sc_L_apart (fun ds P h => ?_) (fun X B ds Pr hX hr h => ?_)
  · obtain ⟨m, n, xs, ys, rfl, _⟩ := h; rfl
  · obtain ⟨cdv, A, outer, s, H, E, rfl⟩ := hX
    have nd := sc_L_apart.nd
    obtain ⟨m, n, xs, ys, rfl, m0, n0, mn, hx, hy, hl, hl2, hP⟩ := h
    walk_at "xp"
    refine xe_callTy call_tuple_of mt (by decide +kernel) ?_
    walk_at "xp"
    refine xe_lc2 (j1 := 2) (j2 := 3) (own := [("_law_mine", 2), ("_law_its", 3)]) rfl nd (blkOk_by (N := n_L_apart) (sc := defScope s_L_apart) (by decide +kernel)) (by decide) (by decide) rfl rfl rfl rfl (xi_zipT mz ?_)
    walk_at "xp"
    refine ⟨_, _, rfl, (apart xs ys).map fr, ?_, ?_, fun i d z hd hz2 => ?_, ?_⟩
    · rw [pairs_row]; unfold apart; simp
    · unfold apart; simp; omega
    · rw [pairs_row] at hd
      obtain ⟨p, hp, rfl⟩ := map_get hd
      obtain ⟨q, hq, rfl⟩ := map_get hz2
      obtain ⟨p', hp', rfl⟩ := map_get hq
      rw [hp] at hp'
      cases hp'
      have pm := List.mem_of_getElem? hp
      refine ⟨_, _, rfl, fun X' B' τ' hX' => ?_⟩
      obtain ⟨s', H', C', cl', fp', rfl⟩ := hX'
      walk_at "xp"
      refine ⟨[_, _], rfl, m, n, _, _, rfl, m0, n0, by omega, hx _ (List.of_mem_zip (show (p.1, p.2) ∈ xs.zip ys from pm)).1, hy _ (List.of_mem_zip (show (p.1, p.2) ∈ xs.zip ys from pm)).2, rfl, rfl⟩
    · walk_at "xp"
      refine rn_tuple_of ?_
      exact ⟨_, rfl, hP⟩
theorem ok_L_mark_row (F : Fun K "_law_mark_row" "_law_mark_row" s_L_mark_row f fd) (mt : mg "tuple" = none) : FnOk P w K mg base CX0 1 f fd p_L_mark_row (spP K R_mark_row) := by
  refine fnP F sc_L_mark_row (fun ds P h => ?_) (fun X B ds Pr hX hr h => ?_)
  · obtain ⟨m, rfl, _⟩ := h; rfl
  · obtain ⟨cdv, A, outer, s, H, E, rfl⟩ := hX
    have nd := sc_L_mark_row.nd
    obtain ⟨m, rfl, hl, hP⟩ := h
    refine xss_cons (xs_ret (xe_catT ?_))
    walk_at "xp"
    refine ⟨[_], rfl, Nat.le_of_ble_eq_true rfl, ?_⟩
    refine xe_callTy call_tuple_of mt (by decide +kernel) ?_
    walk_at "xp"
    refine rn_tuple_ofT ?_
    refine r2_catT (xs := [fr m.am]) (ys := m.be.map fr) (by simp; omega) ?_
    exact ⟨_, rfl, hP⟩
theorem ok_L_swapped (F : Fun K "_law_swapped" "_law_swapped" s_L_swapped f fd) (mt : mg "tuple" = none) : FnOk P w K mg base CX0 1 f fd p_L_swapped (spP K fun ds P => ∃ ms : List Mk, ds = [mks ms] ∧ ms.length ≤ 1000 ∧ P (mks (ms.map Mk.swap))) := by
  refine fnP F sc_L_swapped (fun ds P h => ?_) (fun X B ds Pr hX hr h => ?_)
  · obtain ⟨ms, rfl, _⟩ := h; rfl
  · obtain ⟨cdv, A, outer, s, H, E, rfl⟩ := hX
    have nd := sc_L_swapped.nd
    obtain ⟨ms, rfl, hl, hP⟩ := h
    walk_at "xp"
    refine xe_callTy call_tuple_of mt (by decide +kernel) ?_
    walk_at "xp"
    refine xe_lc1 (j := 1) (own := [("_law_own", 1)]) rfl nd (blkOk_by (N := n_L_swapped) (sc := defScope s_L_swapped) (by decide +kernel)) (by decide) rfl rfl (xi_tup ?_)
    walk_at "xp"
    refine ⟨_, rfl, (ms.map Mk.swap).map Mk.d, by simp, by simp; omega, fun i d z hd hz X' B' τ' hX' => ?_, ?_⟩
    · obtain ⟨m, hm, rfl⟩ := map_get hd
      obtain ⟨m2, hm2, rfl⟩ := map_get hz
      obtain ⟨m3, hm3, rfl⟩ := map_get hm2
      rw [hm] at hm3
      cases hm3
      obtain ⟨s', H', C', cl', fp', rfl⟩ := hX'
      walk_at "xp"
      exact ⟨[_, _, _], rfl, Nat.le_of_ble_eq_true rfl, rfl, rfl⟩
    · walk_at "xp"
      refine rn_tuple_of ?_
      exact ⟨_, rfl, hP⟩
end

end K10

set_option maxRecDepth 100000
set_option maxHeartbeats 4100000
namespace K10
open L2 PyProof.Rows PySem.Spec PySem
local macro_rules | `(tactic| walk_at "xv") => `(tactic| first
  | refine xe_var (i := 0) rfl ?_ | refine xe_var (i := 1) rfl ?_ | refine xe_var (i := 2) rfl ?_ | refine xe_var (i := 3) rfl ?_
  | refine xe_var (i := 4) rfl ?_ | refine xe_var (i := 5) rfl ?_ | refine xe_var (i := 6) rfl ?_ | refine xe_var (i := 7) rfl ?_
  | refine xe_var (i := 8) rfl ?_ | refine xe_var (i := 9) rfl ?_ | refine xe_var (i := 10) rfl ?_ | refine xe_var (i := 11) rfl ?_
  | refine xe_var (i := 12) rfl ?_ | refine xe_var (i := 13) rfl ?_ | refine xe_var (i := 14) rfl ?_ | refine xe_var (i := 15) rfl ?_)
local macro_rules | `(tactic| walk_at "xset") => `(tactic| first
  | refine xs_set (i := 0) (by assumption) rfl (by first | exact .inl rfl | exact .inr rfl) ?_ | refine xs_set (i := 1) (by assumption) rfl (by first | exact .inl rfl | exact .inr rfl) ?_
  | refine xs_set (i := 2) (by assumption) rfl (by first | exact .inl rfl | exact .inr rfl) ?_ | refine xs_set (i := 3) (by assumption) rfl (by first | exact .inl rfl | exact .inr rfl) ?_
  | refine xs_set (i := 4) (by assumption) rfl (by first | exact .inl rfl | exact .inr rfl) ?_ | refine xs_set (i := 5) (by assumption) rfl (by first | exact .inl rfl | exact .inr rfl) ?_
  | refine xs_set (i := 6) (by assumption) rfl (by first | exact .inl rfl | exact .inr rfl) ?_ | refine xs_set (i := 7) (by assumption) rfl (by first | exact .inl rfl | exact .inr rfl) ?_
  | refine xs_set (i := 8) (by assumption) rfl (by first | exact .inl rfl | exact .inr rfl) ?_ | refine xs_set (i := 9) (by assumption) rfl (by first | exact .inl rfl | exact .inr rfl) ?_
  | refine xs_set (i := 10) (by assumption) rfl (by first | exact .inl rfl | exact .inr rfl) ?_ | refine xs_set (i := 11) (by assumption) rfl (by first | exact .inl rfl | exact .inr rfl) ?_)
local macro_rules | `(tactic| walk_at "xname") => `(tactic| first
  | refine xg_name (i := 0) (by assumption) rfl (by first | exact .inl rfl | exact .inr rfl) | refine xg_name (i := 1) (by assumption) rfl (by first | exact .inl rfl | exact .inr rfl)
  | refine xg_name (i := 2) (by assumption) rfl (by first | exact .inl rfl | exact .inr rfl) | refine xg_name (i := 3) (by assumption) rfl (by first | exact .inl rfl | exact .inr rfl)
  | refine xg_name (i := 4) (by assumption) rfl (by first | exact .inl rfl | exact .inr rfl) | refine xg_name (i := 5) (by assumption) rfl (by first | exact .inl rfl | exact .inr rfl)
  | refine xg_name (i := 6) (by assumption) rfl (by first | exact .inl rfl | exact .inr rfl) | refine xg_name (i := 7) (by assumption) rfl (by first | exact .inl rfl | exact .inr rfl)
  | refine xg_name (i := 8) (by assumption) rfl (by first | exact .inl rfl | exact .inr rfl) | refine xg_name (i := 9) (by assumption) rfl (by first | exact .inl rfl | exact .inr rfl)
  | refine xg_name (i := 10) (by assumption) rfl (by first | exact .inl rfl | exact .inr rfl) | refine xg_name (i := 11) (by assumption) rfl (by first | exact .inl rfl | exact .inr rfl))
local macro_rules | `(tactic| walk_at "xcall") => `(tactic|
  (refine xe_call (by assumption) (Room.mono (by assumption) (by decide)) ?_))
local macro_rules | `(tactic| walk_at "x1") => `(tactic| first
  | refine xa_nil ?_ | refine xa_cons ?_ | refine xe_int ?_ | refine xe_bl ?_ | refine xe_non ?_ | refine xe_str ?_
  | walk_at "xv"
  | refine xe_tup ?_ | refine xe_lst ?_
  | refine xe_sub ?_
  | refine xe_ixT ?_
  | refine xe_neg ?_
  | refine xss_nil ?_ | refine xss_cons ?_ | refine xs_ret ?_ | walk_at "xset" | refine xs_if ?_
  | refine r2_int0 ?_ | refine r2_bool0 ?_ | refine r2_eqI ?_ | refine r2_neI ?_ | refine r1_neg ?_ | refine r2_ix0 ?_ | refine r2_ix1 ?_ | refine r2_ix2 ?_
  | refine xt_lt ?_ | refine xt_le ?_ | refine xt_gt ?_ | refine xt_ge ?_
  | refine xe_lt ?_ | refine xe_le ?_ | refine xe_gt ?_ | refine xe_ge ?_
  | refine xt_not ?_
  | walk_at "xcall")
local macro_rules | `(tactic| walk_at "xp") => `(tactic| repeat (walk_at "x1"))
section
variable {P : Program} {w : World} {K : Fg} {mg : Str → Option Value} {base : Heap} {f : Addr} {fd : FuncData}
def rise (g : List (List Rat)) (near far : Mk) : Rat := dear g (apart far.row near.row) - (far.sh - near.sh)
theorem rise_neg {g : List (List Rat)} {near far : Mk} : rise g near far < 0 ↔ near.sh + dear g (apart far.row near.row) < far.sh := by
  unfold rise
  constructor <;> intro h <;> grind
/-- the common bounds of a gauge and marks -/
structure Bnd (m nr nt l : Nat) (g : List (List Rat)) : Prop where
  m0 : 0 < m
  nr0 : 0 < nr
  nt0 : 0 < nt
  nt : nt ≤ 1000
  hg : SzT m l g
  hz : (l + 1) * (m + 2 * nr + 2) ≤ 1500
  hl : l ≤ 500
  few : g.length ≤ 1000
  ne : g ≠ []
theorem Bnd.hz' {m nr nt l : Nat} {g : List (List Rat)} (b : Bnd m nr nt l g) : l * (m + 2 * nr + 2) + (m + 2 * nr + 2) ≤ 1500 := by rw [← Nat.succ_mul]; exact b.hz
theorem Bnd.eq1 {m nr l : Nat} : l * (m + (nr + nr + 1) + 1) = l * (m + 2 * nr + 2) := by congr 1; omega
/-- what calls of the costs ask -/
theorem Bnd.cost {m nr nt l : Nat} {g : List (List Rat)} (b : Bnd m nr nt l g) : (l + 1) * (m + (nr + nr + 1) + 1) ≤ 3500 := by
  have e1 : m + (nr + nr + 1) + 1 = m + 2 * nr + 2 := by omega
  rw [e1]; have := b.hz; omega
abbrev R_rises : RR := fun ds P => ∃ (m nr nt l : Nat) (g : List (List Rat)) (ms : List Mk) (near far : Mk), ds = [tab g, near.d, far.d] ∧ Bnd m nr nt l g ∧ SzM nr nt l ms ∧ near ∈ ms ∧ far ∈ ms ∧ P (fr (rise g near far))
theorem ok_L_rises (F : Fun K "_law_rises" "_law_rises" s_L_rises f fd) (hD : Has P w K mg base CX0 5 "_law_dear" p_L_dear (spP K R_cost)) (hA : Has P w K mg base CX0 4 "_law_apart" p_L_apart (spP K R_apart)) (hM : Has P w K mg base CX0 1 "_law_mark_row" p_L_mark_row (spP K R_mark_row)) (hL : Has P w K mg base CX0 3 "_law_less_by" p_L_less_by (spP K R_less)) : FnOk P w K mg base CX0 6 f fd p_L_rises (spP K R_rises) := by
  refine fnP F sc_L_rises (fun ds P h => ?_) (fun X B ds Pr hX hr h => ?_)
  · obtain ⟨m, nr, nt, l, g, ms, near, far, rfl, _⟩ := h; rfl
  · obtain ⟨cdv, A, outer, s, H, E, rfl⟩ := hX
    have nd := sc_L_rises.nd
    obtain ⟨m, nr, nt, l, g, ms, near, far, rfl, hb, hms, mn, mf, hP⟩ := h
    obtain ⟨m0, nr0, nt0, hnt, hg, hz, hl, hgl, hne⟩ := id hb
    have hz' := hb.hz'
    have ln1 := hms.ln near mn
    have ln2 := hms.ln far mf
    walk_at "xp"
    refine ⟨[_], rfl, far, rfl, by omega, ?_⟩
    walk_at "xp"
    refine ⟨[_], rfl, near, rfl, by omega, ?_⟩
    walk_at "xp"
    refine ⟨[_, _], rfl, nr, nr, _, _, rfl, nr0, nr0, by omega, hms.row mf, hms.row mn, by show far.be.length + 1 ≤ 1000; omega, by show near.be.length + 1 ≤ 1000; omega, ?_⟩
    walk_at "xp"
    have sa := apart_sz (hms.row mf) (hms.row mn)
    have la : (apart far.row near.row).length ≤ l := Nat.le_trans apart_len ln2
    refine ⟨[_, _], rfl, m, nr + nr + 1, l, g, _, rfl, m0, by omega, hg, sa, hb.cost, hgl, hne, by omega, by omega, ?_⟩
    walk_at "xp"
    have sd := dear_sz hg sa hne
    rw [Bnd.eq1] at sd
    refine ⟨[_, _], rfl, nt, nt, _, _, rfl, nt0, nt0, by omega, hms.sh far mf, hms.sh near mn, ?_⟩
    walk_at "xp"
    exact ⟨[_, _], rfl, _, nt + nt + 1, _, _, rfl, by omega, by omega, by omega, sd, (hms.sh far mf).sub (hms.sh near mn), _, rfl, hP⟩
theorem lay_ones : ∀ n : Nat, PyData.canLayAll0 (List.replicate n (PyData.int 1)) = true ∧ PyData.depthAll (List.replicate n (PyData.int 1)) ≤ 0
  | 0 => ⟨rfl, Nat.le_refl _⟩
  | n + 1 => by
    obtain ⟨h1, h2⟩ := lay_ones n
    rw [List.replicate_succ]
    refine ⟨?_, ?_⟩
    · show (PyData.canLay0 (.int 1) && PyData.canLayAll0 (List.replicate n (PyData.int 1))) = true
      rw [h1]; rfl
    · show max (PyData.depth (.int 1)) (PyData.depthAll (List.replicate n (PyData.int 1))) ≤ 0
      exact Nat.max_le.mpr ⟨Nat.le_refl _, h2⟩
theorem shaped_ones (n : Nat) : SeqAt.shaped (.list (List.replicate n (PyData.int 1))) = true := by
  obtain ⟨h1, h2⟩ := lay_ones n
  unfold SeqAt.shaped
  rw [Bool.and_eq_true]
  exact ⟨h1, decide_eq_true (show PyData.depthAll _ + 1 ≤ 64 by omega)⟩
theorem eqv_ones (n : Nat) : PyData.eqv (.list (List.replicate n (PyData.int 1))) (.list []) = decide (n = 0) := by
  cases n with
  | zero => rfl
  | succ n => rw [List.replicate_succ]; rfl
theorem ok_L_marks_fit (F : Fun K "_law_marks_fit" "_law_marks_fit" s_L_marks_fit f fd) (hR : Has P w K mg base CX0 6 "_law_rises" p_L_rises (spP K R_rises)) : FnOk P w K mg base CX0 7 f fd p_L_marks_fit (spP K fun ds P => ∃ (m nr nt l : Nat) (g : List (List Rat)) (ms : List Mk), ds = [tab g, mks ms] ∧ Bnd m nr nt l g ∧ SzM nr nt l ms ∧ (Fit g ms → P (.bool true)) ∧ (¬ Fit g ms → P (.bool false))) := by
  refine fnP F sc_L_marks_fit (fun ds P h => ?_) (fun X B ds Pr hX hr h => ?_)
  · obtain ⟨m, nr, nt, l, g, ms, rfl, _⟩ := h; rfl
  · obtain ⟨cdv, A, outer, s, H, E, rfl⟩ := hX
    have nd := sc_L_marks_fit.nd
    obtain ⟨m, nr, nt, l, g, ms, rfl, hb, hms, p1, p2⟩ := h
    have fw := hms.few
    refine xss_cons (xs_for (is := [2]) PassesOwn.never rfl (xg_name (i := 2) nd rfl (.inr rfl)) (xi_tup ?_))
    walk_at "xp"
    refine ⟨_, rfl, fun i δ τ => τ = [] ∧ (∀ near ∈ ms.take i, ∀ far ∈ ms, ¬ (near.sh + dear g (apart far.row near.row) < far.sh)) ∧ ∃ a b, δ = [some (.d (tab g)), some (.d (mks ms)), a, b], ⟨rfl, by simp, _, _, rfl⟩, fun i d δ τ hd hI => ?_, fun δ τ hI => ?_⟩
    · obtain ⟨rfl, hf, a, b, rfl⟩ := hI
      obtain ⟨near, hn, rfl⟩ := map_get hd
      have mn := List.mem_of_getElem? hn
      show XSs _ _ _ _ _ _
      refine xss_cons (xs_if (xt_cmp (op_neD hr.units) ?_))
      refine xe_lc (is := [3]) (γ := fun d δ R => R (δ.set 3 (some (.d d)))) (own := [("_law_far_so", 3)]) rfl nd (blkOk_by (N := n_L_marks_fit) (sc := defScope s_L_marks_fit) (by decide +kernel)) (by decide) (fun X' hX' => ?_) (xi_tup ?_)
      · obtain ⟨s', H', C', cl', fp', rfl⟩ := hX'
        exact xg_name (X := Cx.blk _ _ _ _ _ _) nd rfl (.inl rfl) (.inr rfl)
      walk_at "xp"
      refine ⟨_, rfl, fun j acc τ => τ = [] ∧ ∃ n, acc = List.replicate n (.int 1) ∧ n ≤ j ∧ (n = 0 ↔ ∀ far ∈ ms.take j, ¬ (near.sh + dear g (apart far.row near.row) < far.sh)), ⟨rfl, 0, rfl, Nat.le_refl _, by simp⟩, fun j d acc τ2 D hD hd2 hJ => ?_, fun acc τ2 hJ => ?_⟩
      · obtain ⟨rfl, n, rfl, hnj, hiff⟩ := hJ
        obtain ⟨far, hfar, rfl⟩ := map_get hd2
        have mf := List.mem_of_getElem? hfar
        have hj : j < ms.length := (List.getElem?_eq_some_iff.mp hfar).1
        refine ⟨fun b τ => τ = [(D, List.replicate n (.int 1))] ∧ b = decide (near.sh + dear g (apart far.row near.row) < far.sh), fun X' hX' => ?_, fun b τ hT => ?_⟩
        · obtain ⟨s', H', C', cl', fp', rfl⟩ := hX'
          refine xts_one (xt_lt ?_)
          walk_at "xp"
          refine ⟨[_, _, _], rfl, m, nr, nt, l, g, ms, near, far, rfl, hb, hms, mn, mf, ?_⟩
          walk_at "xp"
          refine ⟨_, rfl, rfl, ?_⟩
          by_cases c : near.sh + dear g (apart far.row near.row) < far.sh
          · rw [decide_eq_true c]
            have := rise_neg.mpr c
            have h2 := (Rat.lt_iff _ _).mp this
            exact decide_eq_true (by simpa using h2)
          · rw [decide_eq_false c]
            refine decide_eq_false fun z => c (rise_neg.mp ((Rat.lt_iff _ _).mpr (by simpa using z)))
        · obtain ⟨rfl, rfl⟩ := hT
          refine ite2 (fun e => ?_) (fun e => ?_)
          · intro X' hX'
            obtain ⟨s', H', C', cl', fp', rfl⟩ := hX'
            walk_at "xp"
            refine ⟨_, rfl, [], rfl, by rw [List.length_replicate]; omega, rfl, n + 1, by rw [List.replicate_succ'], by omega, ?_⟩
            constructor
            · intro z; omega
            · intro z
              exact absurd (of_decide_eq_true e) (z far (by rw [take_snoc hfar]; simp))
          · refine ⟨[], rfl, rfl, n, rfl, by omega, ?_⟩
            rw [hiff]
            constructor
            · intro z far' hf'
              rcases mem_take_i hfar hf' with q | q
              · exact z far' q
              · rw [q]; exact fun y => e (decide_eq_true y)
            · intro z far' hf'
              exact z far' (by rw [take_snoc hfar]; exact List.mem_append_left _ hf')
      · obtain ⟨rfl, n, rfl, hnj, hiff⟩ := hJ
        rw [List.length_map, List.take_length] at hiff
        walk_at "xp"
        refine ⟨[], rfl, Nat.zero_le _, ?_⟩
        refine r2_neD (shaped_ones n) rfl ?_
        refine ⟨_, rfl, ?_⟩
        rw [eqv_ones]
        by_cases c : n = 0
        · rw [show (!decide (n = 0)) = false by simp [c]]
          refine iteF ?_
          walk_at "xp"
          refine ⟨rfl, rfl, fun near' hn' => ?_, some (.d near.d), b, rfl⟩
          rcases mem_take_i hn hn' with q | q
          · exact hf near' q
          · rw [q]; exact hiff.mp c
        · rw [show (!decide (n = 0)) = true by simp [c]]
          refine iteT ?_
          walk_at "xp"
          exact ⟨_, rfl, p2 fun z => c (hiff.mpr fun far hfar => z near mn far hfar)⟩
    · obtain ⟨rfl, hf, a, b, rfl⟩ := hI
      rw [List.length_map, List.take_length] at hf
      walk_at "xp"
      exact ⟨_, rfl, p1 hf⟩
end

end K10

set_option maxRecDepth 100000
set_option maxHeartbeats 2100000
namespace K10
open PySem PySem.Spec PyProof.Rows L2 PySem.W
section
variable {β : Type}
/-- sorted(xs), xs a list of alike data: some arrangement of it -/
def rSortD (K : Fg) (enc : β → Dt) : List V → Hp → VK → Prop := fun vs H Q => ∃ (a : Addr) (bs : List (V × β)), vs = [.ref a] ∧ SqL K H a (bs.map (·.1)) ∧ (∀ p ∈ bs, Dp K H p.1 (enc p.2)) ∧ AllAlike (bs.map fun p => enc p.2) ∧ Sortable (bs.map fun p => enc p.2) ∧ (∀ p ∈ bs, (enc p.2).depth ≤ 50) ∧
  ∀ (bs' : List (V × β)) (p : Addr), bs'.Perm bs → H p = none → Q (.ref p) (upd H p (.lst (bs'.map (·.1))))
theorem each_of_vals {its : List Value} : ∀ {bs : List (V × β)}, Vals (bs.map (·.1)) its → EachIs (fun (v : Value) (b : V × β) => RelV b.1 v) its bs := by
  intro bs h
  induction bs generalizing its with
  | nil => cases h; exact .nil
  | cons b bs ih => cases h with | cons h1 h2 => exact .cons h1 (ih h2)
theorem vals_of_each : ∀ {its : List Value} {bs : List (V × β)}, EachIs (fun (v : Value) (b : V × β) => RelV b.1 v) its bs → Vals (bs.map (·.1)) its
  | _, _, .nil => .nil
  | _, _, .cons h t => .cons h (vals_of_each t)
theorem each_reads {X : Cx} {pins : List (Addr × Obj)} {σ : L2.St} {H : Hp} {s : Shared} {enc : β → Dt} (I : Inv X pins σ H s) : ∀ {its : List Value} {bs : List (V × β)}, EachIs (fun (v : Value) (b : V × β) => RelV b.1 v) its bs → (∀ p ∈ bs, Dp X.K H p.1 (enc p.2)) →
    EachIs (fun (v : Value) (b : V × β) => ∃ as, Reads s.heap v (enc b.2) as) its bs
  | _, _, .nil, _ => .nil
  | _, _, .cons (b := b) h t, hd => .cons (Dp.reads I (enc b.2) b.1 _ (hd b List.mem_cons_self) h) (each_reads I t fun p hp => hd p (List.mem_cons_of_mem _ hp))
variable {X : Cx}
theorem cr_sortD (enc : β → Dt) (hu : X.A.units + 64 < cLine) : CallR X (.builtin "sorted") (rSortD X.K enc) := by
  intro pins s σ H vs us Q I r h; obtain ⟨a, bs, rfl, hs, hd, hal, hk, hdep, q⟩ := h
  rcases I.list hs with ⟨its, rv, hl, hz⟩
  rw [Vals.ref1 r]
  have e1 := each_of_vals rv
  have hlen : bs.length ≤ sizeLine := by rw [List.length_map] at hz; exact hz
  refine sorted_data (R := fun (v : Value) (b : V × β) => RelV b.1 v) (enc := fun b : V × β => enc b.2) hl.isList e1 (each_reads I e1 hd) hal hk hlen (fun b hb => by have := hdep b hb; omega) fun out h1 h2 => ?_
  obtain ⟨ep, he'⟩ := PyProof.Rows.sortedAll_at s.heap its (List.toArray out)
  have hp := List.mergeSort_perm bs (dataLe false fun b : V × β => enc b.2)
  refine ⟨.ref _, upd H (s.heap.objs.size + 1) (.lst ((bs.mergeSort (dataLe false fun b : V × β => enc b.2)).map (·.1))), I.laid (t' := s.toks) (fun _ _ => PyProof.Rows.sortedAll_old) (Nat.le_succ _) ⟨?_, out, ep, vals_of_each h2, by simpa using he'⟩, rfl, q _ _ hp (I.hok.fresh (Nat.le_succ _))⟩
  (rw [List.length_map, hp.length_eq])
  exact hlen
end
/-! rows sort -/
theorem alike_fr (p q : Rat) : alike (fr p) (fr q) = true := rfl
theorem alike_rows : ∀ (xs ys : List Rat), alikeAll (xs.map fr) (ys.map fr) = true
  | [], _ => by simp [alikeAll]
  | _ :: _, [] => (by simp [alikeAll])
  | x :: xs, y :: ys => by
    show alikeAll (fr x :: xs.map fr) (fr y :: ys.map fr) = true
    rw [alikeAll, alike_rows xs ys, alike_fr]; rfl
theorem depth_frs : ∀ xs : List Rat, PyData.depthAll (xs.map fr) ≤ 1
  | [] => Nat.zero_le _
  | x :: xs => by
    show max (PyData.depth (fr x)) (PyData.depthAll (xs.map fr)) ≤ 1
    exact Nat.max_le.mpr ⟨Nat.le_refl _, depth_frs xs⟩
theorem depth_row (xs : List Rat) : (row xs).depth ≤ 2 := by
  show PyData.depthAll (xs.map fr) + 1 ≤ 2
  have := depth_frs xs; omega
theorem rp_zip {K : Fg} {H : Hp} : ∀ {xs : List V} {g : List (List Rat)}, RpAll K H xs (g.map row) → ∃ bs : List (V × List Rat), bs.map (·.1) = xs ∧ bs.map (·.2) = g ∧ ∀ p ∈ bs, Rp K H p.1 (row p.2)
  | _, [], .nil => ⟨[], rfl, rfl, fun _ h => nomatch h⟩
  | _, c :: g, .cons h r => by
    obtain ⟨bs, h1, h2, h3⟩ := rp_zip r
    refine ⟨(_, c) :: bs, by rw [List.map_cons, h1], by rw [List.map_cons, h2], fun p hp => ?_⟩
    rcases List.mem_cons.mp hp with (e | e)
    · rw [e]; exact h
    · exact h3 p e
theorem rp_unzip {K : Fg} {H : Hp} : ∀ {bs : List (V × List Rat)}, (∀ p ∈ bs, Rp K H p.1 (row p.2)) → RpAll K H (bs.map (·.1)) ((bs.map (·.2)).map row)
  | [], _ => .nil
  | b :: bs, h => .cons (h b List.mem_cons_self) (rp_unzip fun p hp => h p (List.mem_cons_of_mem _ hp))
section
variable {K : Fg} {U : List Addr} {P : W → Prop}
theorem rows_sortable {bs : List (V × List Rat)} (h : ∀ p ∈ bs, p.2 ≠ []) : AllAlike (bs.map fun p => row p.2) ∧ Sortable (bs.map fun p => row p.2) := by
  refine ⟨AllAlike.of fun b b' => alike_rows b.2 b'.2, .inl fun d hd => ?_⟩
  obtain ⟨p, hp, rfl⟩ := List.mem_map.mp hd
  cases e : p.2 with
  | nil => exact absurd e (h p hp)
  | cons x r => exact ⟨fr x, r.map fr, rfl⟩
theorem rn_sorted {g : List (List Rat)} (hne : ∀ c ∈ g, c ≠ []) (h : ∀ g' : List (List Rat), g'.Perm g → P (.d (.list (g'.map row)))) : RND K U (rSortD K row) [.d (.list (g.map row))] P :=
  rn_one fun v H ex rv Q q => by
    obtain ⟨a, xs, rfl, q1, q2⟩ := Rp.lst_inv rv
    obtain ⟨bs, rfl, rfl, hb⟩ := rp_zip q2
    have hn : ∀ p ∈ bs, p.2 ≠ [] := fun p hp => hne _ (List.mem_map.mpr ⟨p, hp, rfl⟩)
    obtain ⟨h1, h2⟩ := rows_sortable hn
    refine ⟨a, bs, rfl, SqL.of (hide_le _ _ q1), fun p hp => (Rp.mono hide_le (hb p hp)).dp, h1, h2, fun p _ => Nat.le_trans (depth_row _) (by decide), fun bs' p hp hnew => ?_⟩
    exact q _ (.d (.list ((bs'.map (·.2)).map row))) _ (same_new hnew) (rp_newL ex hnew (rp_unzip fun p hp' => hb p (hp.mem_iff.mp hp'))) (h _ (hp.map _))
end
section
variable {X : Cx} {B : Bs} {δ : Slots} {τ : Mem} {P : W → Mem → Prop} {pos p q1 : Pos}
/-- sorted(xs), xs a list that changes -/
theorem xe_sortedM {x : Str} {i : Nat} {l : Addr} {g : List (List Rat)} (hm : X.mg "sorted" = none) (hu : X.A.units + 64 < cLine) (hl : δ[i]? = some (some (.m l))) (hg : memAt τ l = some (g.map row)) (hne : ∀ c ∈ g, c ≠ []) (h : ∀ g' : List (List Rat), g'.Perm g → P (.d (.list (g'.map row))) τ)
    (hN : X.N[i]? = some x := by rfl) (hv : Vis X.env.scope x := by first | exact Or.inl rfl | exact Or.inr (Or.inl rfl) | exact Or.inr (Or.inr rfl)) (hgl : Gl X "sorted" := by rfl) (hd : (x == ("__debug__" : Str)) = false := by decide) (hcd : (x == ("__classdict__" : Str)) = false := by decide)
    (he : starEach [.Name x q1] X.env = (false, eval (.Name x q1) X.env) :: starEach [] X.env := by rfl) (hpl : (backTo pos (starEach [] X.env)).any (·.1) = false := by rfl) : XE X B δ τ (.Call (.Name "sorted" p) [.Name x q1] [] pos) P :=
  .of (pe_callB (cr_sortD row hu) hgl hm (by decide +kernel) (pa_cons (pe_var hN hv hd hcd) pa_nil he) (by decide) (by decide) he hpl) fun σ H Q k q => by
    obtain ⟨v, h1, h2⟩ := k.sl i _ hl
    have h2' : v = .ref l := h2
    subst h2'
    obtain ⟨_, _, xs, q1, q2⟩ := k.mu _ (memAt_mem hg)
    obtain ⟨bs, rfl, rfl, hb⟩ := rp_zip q2
    have hn : ∀ p ∈ bs, p.2 ≠ [] := fun p hp => hne _ (List.mem_map.mpr ⟨p, hp, rfl⟩)
    obtain ⟨h3, h4⟩ := rows_sortable hn
    refine ⟨_, h1, l, bs, rfl, SqL.of q1, fun p hp => (Rp.mono hide_le (hb p hp)).dp, h3, h4, fun p _ => Nat.le_trans (depth_row _) (by decide), fun bs' p hp hnew => ?_⟩
    exact q _ (.d (.list ((bs'.map (·.2)).map row))) τ _ (k.pure (same_new hnew)) (hide_same (same_new hnew)) (rp_newL k.ex hnew (rp_unzip fun p hp' => hb p (hp.mem_iff.mp hp'))) (h _ (hp.map _))
end
end K10

set_option maxRecDepth 100000
set_option maxHeartbeats 4100000
namespace K10
open L2 PyProof.Rows PySem.Spec PySem
local macro_rules | `(tactic| walk_at "xv") => `(tactic| first
  | refine xe_var (i := 0) rfl ?_ | refine xe_var (i := 1) rfl ?_ | refine xe_var (i := 2) rfl ?_ | refine xe_var (i := 3) rfl ?_
  | refine xe_var (i := 4) rfl ?_ | refine xe_var (i := 5) rfl ?_ | refine xe_var (i := 6) rfl ?_ | refine xe_var (i := 7) rfl ?_
  | refine xe_var (i := 8) rfl ?_ | refine xe_var (i := 9) rfl ?_ | refine xe_var (i := 10) rfl ?_ | refine xe_var (i := 11) rfl ?_
  | refine xe_var (i := 12) rfl ?_ | refine xe_var (i := 13) rfl ?_ | refine xe_var (i := 14) rfl ?_ | refine xe_var (i := 15) rfl ?_)
local macro_rules | `(tactic| walk_at "xset") => `(tactic| first
  | refine xs_set (i := 0) (by assumption) rfl (by first | exact .inl rfl | exact .inr rfl) ?_ | refine xs_set (i := 1) (by assumption) rfl (by first | exact .inl rfl | exact .inr rfl) ?_
  | refine xs_set (i := 2) (by assumption) rfl (by first | exact .inl rfl | exact .inr rfl) ?_ | refine xs_set (i := 3) (by assumption) rfl (by first | exact .inl rfl | exact .inr rfl) ?_
  | refine xs_set (i := 4) (by assumption) rfl (by first | exact .inl rfl | exact .inr rfl) ?_ | refine xs_set (i := 5) (by assumption) rfl (by first | exact .inl rfl | exact .inr rfl) ?_
  | refine xs_set (i := 6) (by assumption) rfl (by first | exact .inl rfl | exact .inr rfl) ?_ | refine xs_set (i := 7) (by assumption) rfl (by first | exact .inl rfl | exact .inr rfl) ?_
  | refine xs_set (i := 8) (by assumption) rfl (by first | exact .inl rfl | exact .inr rfl) ?_ | refine xs_set (i := 9) (by assumption) rfl (by first | exact .inl rfl | exact .inr rfl) ?_
  | refine xs_set (i := 10) (by assumption) rfl (by first | exact .inl rfl | exact .inr rfl) ?_ | refine xs_set (i := 11) (by assumption) rfl (by first | exact .inl rfl | exact .inr rfl) ?_)
local macro_rules | `(tactic| walk_at "xname") => `(tactic| first
  | refine xg_name (i := 0) (by assumption) rfl (by first | exact .inl rfl | exact .inr rfl) | refine xg_name (i := 1) (by assumption) rfl (by first | exact .inl rfl | exact .inr rfl)
  | refine xg_name (i := 2) (by assumption) rfl (by first | exact .inl rfl | exact .inr rfl) | refine xg_name (i := 3) (by assumption) rfl (by first | exact .inl rfl | exact .inr rfl)
  | refine xg_name (i := 4) (by assumption) rfl (by first | exact .inl rfl | exact .inr rfl) | refine xg_name (i := 5) (by assumption) rfl (by first | exact .inl rfl | exact .inr rfl)
  | refine xg_name (i := 6) (by assumption) rfl (by first | exact .inl rfl | exact .inr rfl) | refine xg_name (i := 7) (by assumption) rfl (by first | exact .inl rfl | exact .inr rfl)
  | refine xg_name (i := 8) (by assumption) rfl (by first | exact .inl rfl | exact .inr rfl) | refine xg_name (i := 9) (by assumption) rfl (by first | exact .inl rfl | exact .inr rfl)
  | refine xg_name (i := 10) (by assumption) rfl (by first | exact .inl rfl | exact .inr rfl) | refine xg_name (i := 11) (by assumption) rfl (by first | exact .inl rfl | exact .inr rfl))
local macro_rules | `(tactic| walk_at "xcall") => `(tactic|
  (refine xe_call (by assumption) (Room.mono (by assumption) (by decide)) ?_))
local macro_rules | `(tactic| walk_at "x1") => `(tactic| first
  | refine xa_nil ?_ | refine xa_cons ?_ | refine xe_int ?_ | refine xe_bl ?_ | refine xe_non ?_ | refine xe_str ?_
  | walk_at "xv"
  | refine xe_tup ?_ | refine xe_lst ?_
  | refine xe_sub ?_
  | refine xe_ixT ?_
  | refine xe_neg ?_
  | refine xss_nil ?_ | refine xss_cons ?_ | refine xs_ret ?_ | walk_at "xset" | refine xs_if ?_
  | refine r2_int0 ?_ | refine r2_bool0 ?_ | refine r2_eqI ?_ | refine r2_neI ?_ | refine r1_neg ?_ | refine r2_ix0 ?_ | refine r2_ix1 ?_ | refine r2_ix2 ?_
  | refine xt_lt ?_ | refine xt_le ?_ | refine xt_gt ?_ | refine xt_ge ?_
  | refine xe_lt ?_ | refine xe_le ?_ | refine xe_gt ?_ | refine xe_ge ?_
  | refine xt_not ?_
  | walk_at "xcall")
local macro_rules | `(tactic| walk_at "xp") => `(tactic| repeat (walk_at "x1"))
theorem turn_eq (a : Rat) (r : List Rat) : 1 / a :: r.map (fun p => p / a * -1) = turn (a :: r) := by
  show _ = 1 / a :: r.map fun p => -(p / a)
  congr 1
  refine List.map_congr_left (fun p _ => ?_)
  grind
section
variable {P : Program} {w : World} {K : Fg} {mg : Str → Option Value} {base : Heap} {f : Addr} {fd : FuncData}
theorem ok_L_own_turned (F : Fun K "_law_own_turned" "_law_own_turned" s_L_own_turned f fd) (hO : Has P w K mg base CX0 3 "_law_over" p_L_over (spP K R_over)) (hM : Has P w K mg base CX0 3 "_law_mul" p_L_mul (spP K R_times)) (mt : mg "tuple" = none) (ms : mg "sorted" = none) :
    FnOk P w K mg base CX0 4 f fd p_L_own_turned (spP K fun ds P => ∃ (n k : Nat) (g : List (List Rat)), ds = [tab g] ∧ 0 < n ∧ n ≤ 3000 ∧ k ≤ 1000 ∧ Gau n k g ∧ ∀ g' : List (List Rat), g'.Perm (turns g) → P (tab g')) := by
  refine fnP F sc_L_own_turned (fun ds P h => ?_) (fun X B ds Pr hX hr h => ?_)
  · obtain ⟨n, k, g, rfl, _⟩ := h; rfl
  · obtain ⟨cdv, A, outer, s, H, E, rfl⟩ := hX
    have nd := sc_L_own_turned.nd
    obtain ⟨n, k, g, rfl, n0, hn, hk, hg, hP⟩ := h
    have fw := hg.few
    refine xss_cons (xs_newl (i := 1) nd rfl (.inl rfl) (fun l hl => ?_))
    refine xss_cons (xs_for (is := [2]) PassesOwn.never rfl (xg_name (i := 2) nd rfl (.inl rfl)) (xi_tup ?_))
    walk_at "xp"
    refine ⟨_, rfl, fun i δ τ => τ = [(l, (turns (g.take i)).map row)] ∧ ∃ a b c, δ = [some (.d (tab g)), some (.m l), a, b, c], ⟨rfl, _, _, _, rfl⟩, fun i d δ τ hd hI => ?_, fun δ τ hI => ?_⟩
    · obtain ⟨rfl, a0, b0, c0, rfl⟩ := hI
      obtain ⟨c, hc, rfl⟩ := map_get hd
      have mc := List.mem_of_getElem? hc
      have hi : i < g.length := (List.getElem?_eq_some_iff.mp hc).1
      obtain ⟨a, r, rfl, ha, hl'⟩ := hg.hd c mc
      have sa := hg.sz _ mc a List.mem_cons_self
      show XSs _ _ _ _ _ _
      walk_at "xp"
      refine xs_append (i := 1) (l := l) rfl ?_ (hm0 := by rw [memAt_head]; exact fun z => nomatch z)
      refine xe_catT ?_
      walk_at "xp"
      refine ⟨[.int _, .int _], rfl, Nat.le_of_ble_eq_true rfl, ?_⟩
      walk_at "xp"
      refine ⟨[_, _], rfl, 1, n, 1, a, rfl, by omega, n0, by omega, sz_one (by omega), sa, ha, ?_⟩
      walk_at "xp"
      refine ⟨[_], rfl, Nat.le_of_ble_eq_true rfl, ?_⟩
      refine xe_callTy call_tuple_of mt (by decide +kernel) ?_
      walk_at "xp"
      refine xe_lc1 (j := 4) (own := [("_law_bit", 4)]) rfl nd (blkOk_by (N := n_L_own_turned) (sc := defScope s_L_own_turned) (by decide +kernel)) (by decide) rfl rfl (xi_tup ?_)
      refine xe_cutT (n := 1) xo_int ?_
      walk_at "xp"
      refine ⟨_, rfl, _, rfl, (r.map fun p => p / a * -1).map fr, ?_, ?_, fun i d z hd hz X' B' τ' hX' => ?_, ?_⟩
      · simp
      · simp; omega
      · have hd' : (r.map fr)[i]? = some d := hd
        obtain ⟨p, hp, rfl⟩ := map_get hd'
        obtain ⟨q, hq, rfl⟩ := map_get hz
        obtain ⟨p', hp', rfl⟩ := map_get hq
        rw [hp] at hp'
        cases hp'
        have sp := hg.sz _ mc p (List.mem_cons_of_mem _ (List.mem_of_getElem? hp))
        obtain ⟨s', H', C', cl', fp', rfl⟩ := hX'
        walk_at "xp"
        refine ⟨[_, _], rfl, n, n, p, a, rfl, n0, n0, by omega, sp, sa, ha, ?_⟩
        walk_at "xp"
        refine ⟨[.int _, .int _], rfl, Nat.le_of_ble_eq_true rfl, ?_⟩
        walk_at "xp"
        exact ⟨[_, _], rfl, n + n, 1, _, -1, rfl, by omega, by omega, by omega, sp.div sa (num_pos ha), sz_m1 (by omega), rfl, rfl⟩
      · walk_at "xp"
        refine rn_tuple_of ?_
        refine r2_catT (xs := [fr (1 / a)]) (ys := (r.map fun p => p / a * -1).map fr) (by simp; omega) ?_
        have e1 : ([fr (1 / a)] ++ (r.map fun p => p / a * -1).map fr) = (turn (a :: r)).map fr := by rw [← turn_eq]; rfl
        refine ⟨row (turn (a :: r)), _, by rw [e1]; rfl, memAt_head, ?_, ?_⟩
        · unfold turns; simp; omega
        · refine xss_nil ⟨rfl, ?_, _, _, _, rfl⟩
          rw [memPut_head (by simp), take_snoc hc]
          unfold turns
          simp
    · obtain ⟨rfl, a0, b0, c0, rfl⟩ := hI
      (rw [List.length_map, List.take_length])
      refine xss_cons (xs_ret (xe_callTy call_tuple_of mt (by decide +kernel) (xa_cons (xe_sortedM (i := 1) (l := l) (g := turns g) ms hr.units rfl memAt_head (fun c hc => ?_) fun g' hp => ?_))))
      · obtain ⟨c', hc', rfl⟩ := List.mem_map.mp hc
        obtain ⟨a, r, rfl, _, _⟩ := hg.hd c' hc'
        exact fun z => nomatch z
      · walk_at "xp"
        refine rn_tuple_of ?_
        exact ⟨_, rfl, hP g' hp⟩
theorem ok_L_own_between (F : Fun K "_law_own_between" "_law_own_between" s_L_own_between f fd) (hD : Has P w K mg base CX0 5 "_law_dear" p_L_dear (spP K R_cost)) (hA : Has P w K mg base CX0 4 "_law_apart" p_L_apart (spP K R_apart)) (hM : Has P w K mg base CX0 1 "_law_mark_row" p_L_mark_row (spP K R_mark_row)) (hL : Has P w K mg base CX0 3 "_law_less_by" p_L_less_by (spP K R_less))
    (hS : Has P w K mg base CX0 3 "_law_sum" p_L_sum (spP K R_plus)) (hU : Has P w K mg base CX0 1 "_law_under" p_L_under (spP K R_below)) :
    FnOk P w K mg base CX0 6 f fd p_L_own_between (spP K fun ds P => ∃ (m nr nt l : Nat) (g : List (List Rat)) (ms : List Mk) (r : List Rat), ds = [tab g, mks ms, row r] ∧ Bnd m nr nt l g ∧ SzM nr nt l ms ∧ SzAll nr r ∧ r.length ≤ l ∧ P (btw g r ms)) := by
  refine fnP F sc_L_own_between (fun ds P h => ?_) (fun X B ds Pr hX hr h => ?_)
  · obtain ⟨m, nr, nt, l, g, ms, r, rfl, _⟩ := h; rfl
  · obtain ⟨cdv, A, outer, s, H, E, rfl⟩ := hX
    have nd := sc_L_own_between.nd
    obtain ⟨m, nr, nt, l, g, ms, r, rfl, hb, hms, hrr, hrl, hP⟩ := h
    obtain ⟨m0, nr0, nt0, hnt, hg, hz, hl, hgl, hne⟩ := id hb
    have hz' := hb.hz'
    have e0 : l * (m + (nr + nr + 1) + 1) = l * (m + 2 * nr + 2) := by congr 1; omega
    refine xss_cons (xs_asg (is := [3] ++ ([4] ++ [])) (xg_tup (n := 2) rfl (xgs_cons (xg_name (i := 3) nd rfl (.inl rfl)) (xgs_cons (xg_name (i := 4) nd rfl (.inl rfl)) xgs_nil))) ?_)
    walk_at "xp"
    refine ⟨[_, _], rfl, Nat.le_of_ble_eq_true rfl, _, rfl, _, rfl, rfl, _, _, rfl, _, _, rfl, rfl, ?_⟩
    refine xss_cons (xs_for (is := [5]) PassesOwn.never rfl (xg_name (i := 5) nd rfl (.inl rfl)) (xi_tup ?_))
    walk_at "xp"
    refine ⟨_, rfl, fun i δ τ => τ = [] ∧ (∀ q, lows g r (ms.take i) = some q → Sz (nt + (1 + l * (m + 2 * nr + 2)) + 1) q) ∧ (∀ q, highs g r (ms.take i) = some q → Sz (nt + (1 + l * (m + 2 * nr + 2)) + 1) q) ∧
      ∃ a b c, δ = [some (.d (tab g)), some (.d (mks ms)), some (.d (row r)), some (.d (od (lows g r (ms.take i)))), some (.d (od (highs g r (ms.take i)))), a, b, c], ⟨rfl, (fun q e => by cases e), (fun q e => by cases e), _, _, _, rfl⟩, fun i d δ τ hd hI => ?_, fun δ τ hI => ?_⟩
    · obtain ⟨rfl, sl, sh, a, b, c, rfl⟩ := hI
      obtain ⟨mk, hmk, rfl⟩ := map_get hd
      have mm := List.mem_of_getElem? hmk
      have ln := hms.ln mk mm
      show XSs _ _ _ _ _ _
      walk_at "xp"
      refine ⟨[_], rfl, mk, rfl, by omega, ?_⟩
      walk_at "xp"
      refine ⟨[_, _], rfl, nr, nr, _, _, rfl, nr0, nr0, by omega, hrr, hms.row mm, by omega, by show mk.be.length + 1 ≤ 1000; omega, ?_⟩
      walk_at "xp"
      have sa2 := apart_sz hrr (hms.row mm)
      have la2 : (apart r mk.row).length ≤ l := Nat.le_trans apart_len hrl
      refine ⟨[_, _], rfl, m, nr + nr + 1, l, g, _, rfl, m0, by omega, hg, sa2, hb.cost, hgl, hne, by omega, by omega, ?_⟩
      walk_at "xp"
      have sd2 := dear_sz hg sa2 hne
      rw [e0] at sd2
      refine ⟨[_, _], rfl, nt, _, _, _, rfl, nt0, by omega, by omega, hms.sh mk mm, sd2, ?_⟩
      have shi : Sz (nt + (1 + l * (m + 2 * nr + 2)) + 1) (hiM g r mk) := (hms.sh mk mm).add sd2
      walk_at "xp"
      refine ⟨[_], rfl, mk, rfl, by omega, ?_⟩
      walk_at "xp"
      refine ⟨[_, _], rfl, nr, nr, _, _, rfl, nr0, nr0, by omega, hms.row mm, hrr, by show mk.be.length + 1 ≤ 1000; omega, by omega, ?_⟩
      walk_at "xp"
      have sa := apart_sz (hms.row mm) hrr
      have la : (apart mk.row r).length ≤ l := Nat.le_trans apart_len ln
      refine ⟨[_, _], rfl, m, nr + nr + 1, l, g, _, rfl, m0, by omega, hg, sa, hb.cost, hgl, hne, by omega, by omega, ?_⟩
      walk_at "xp"
      have sd := dear_sz hg sa hne
      rw [e0] at sd
      refine ⟨[_, _], rfl, nt, _, _, _, rfl, nt0, by omega, by omega, hms.sh mk mm, sd, ?_⟩
      have elo : mk.sh - dear g (apart mk.row r) = loM g r mk := by unfold loM; grind
      have slo : Sz (nt + (1 + l * (m + 2 * nr + 2)) + 1) (loM g r mk) := (hms.sh mk mm).add sd.neg
      rw [elo]
      have el : lows g r (ms.take (i + 1)) = mxO (lows g r (ms.take i)) (loM g r mk) := by rw [take_snoc hmk]; unfold lows; rw [List.foldl_append]; rfl
      have eh : highs g r (ms.take (i + 1)) = mnO (highs g r (ms.take i)) (hiM g r mk) := by rw [take_snoc hmk]; unfold highs; rw [List.foldl_append]; rfl
      walk_at "xp"
      refine XE.mono (P := fun w' τ' => τ' = [] ∧ w' = .d (od (highs g r (ms.take (i + 1))))) ?_ ?_
      · refine xe_ifx (xt_w (xw_or (xt_isN ?_)))
        walk_at "xp"
        refine r2_isN ?_
        refine ⟨_, rfl, ?_⟩
        cases oh : highs g r (ms.take i) with
        | none =>
          refine iteT (iteT ?_)
          walk_at "xp"
          rw [eh, oh]; exact ⟨rfl, rfl⟩
        | some u =>
          refine iteF ?_
          refine xw_or1 (xt_val ?_)
          walk_at "xp"
          refine ⟨[_, _], rfl, _, _, _, u, rfl, by omega, by omega, by omega, shi, sh u oh, _, rfl, ite2 (fun e => ?_) (fun e => ?_)⟩
          · have ee : highs g r (ms.take (i + 1)) = some (hiM g r mk) := by rw [eh, oh]; show some (if _ then _ else _) = _; rw [if_pos (show hiM g r mk < u from of_decide_eq_true e)]
            walk_at "xp"
            rw [ee]; exact ⟨rfl, rfl⟩
          · have ee : highs g r (ms.take (i + 1)) = some u := by rw [eh, oh]; show some (if _ then _ else _) = _; rw [if_neg (show ¬ hiM g r mk < u from fun z => e (decide_eq_true z))]
            walk_at "xp"
            rw [ee]; exact ⟨rfl, rfl⟩
      rintro _ _ ⟨rfl, rfl⟩
      walk_at "xp"
      refine XE.mono (P := fun w' τ' => τ' = [] ∧ w' = .d (od (lows g r (ms.take (i + 1))))) ?_ ?_
      · refine xe_ifx (xt_w (xw_or (xt_isN ?_)))
        walk_at "xp"
        refine r2_isN ?_
        refine ⟨_, rfl, ?_⟩
        cases ol : lows g r (ms.take i) with
        | none =>
          refine iteT (iteT ?_)
          walk_at "xp"
          rw [el, ol]; exact ⟨rfl, rfl⟩
        | some u =>
          refine iteF ?_
          refine xw_or1 (xt_val ?_)
          walk_at "xp"
          refine ⟨[_, _], rfl, _, _, u, _, rfl, by omega, by omega, by omega, sl u ol, slo, _, rfl, ite2 (fun e => ?_) (fun e => ?_)⟩
          · have ee : lows g r (ms.take (i + 1)) = some (loM g r mk) := by rw [el, ol]; show some (if _ then _ else _) = _; rw [if_pos (show u < loM g r mk from of_decide_eq_true e)]
            walk_at "xp"
            rw [ee]; exact ⟨rfl, rfl⟩
          · have ee : lows g r (ms.take (i + 1)) = some u := by rw [el, ol]; show some (if _ then _ else _) = _; rw [if_neg (show ¬ u < loM g r mk from fun z => e (decide_eq_true z))]
            walk_at "xp"
            rw [ee]; exact ⟨rfl, rfl⟩
      rintro _ _ ⟨rfl, rfl⟩
      walk_at "xp"
      exact ⟨rfl, rfl, (by rw [el]; exact mxO_sz sl slo), (by rw [eh]; exact mnO_sz sh shi), _, _, _, rfl⟩
    · obtain ⟨rfl, sl, sh, a, b, c, rfl⟩ := hI
      (rw [List.length_map, List.take_length])
      walk_at "xp"
      exact ⟨[_, _], rfl, Nat.le_of_ble_eq_true rfl, _, rfl, hP⟩
end

end K10

set_option maxRecDepth 100000
set_option maxHeartbeats 4100000
namespace K10
open L2 PyProof.Rows PySem.Spec PySem
local macro_rules | `(tactic| walk_at "xv") => `(tactic| first
  | refine xe_var (i := 0) rfl ?_ | refine xe_var (i := 1) rfl ?_ | refine xe_var (i := 2) rfl ?_ | refine xe_var (i := 3) rfl ?_
  | refine xe_var (i := 4) rfl ?_ | refine xe_var (i := 5) rfl ?_ | refine xe_var (i := 6) rfl ?_ | refine xe_var (i := 7) rfl ?_
  | refine xe_var (i := 8) rfl ?_ | refine xe_var (i := 9) rfl ?_ | refine xe_var (i := 10) rfl ?_ | refine xe_var (i := 11) rfl ?_
  | refine xe_var (i := 12) rfl ?_ | refine xe_var (i := 13) rfl ?_ | refine xe_var (i := 14) rfl ?_ | refine xe_var (i := 15) rfl ?_)
local macro_rules | `(tactic| walk_at "xset") => `(tactic| first
  | refine xs_set (i := 0) (by assumption) rfl (by first | exact .inl rfl | exact .inr rfl) ?_ | refine xs_set (i := 1) (by assumption) rfl (by first | exact .inl rfl | exact .inr rfl) ?_
  | refine xs_set (i := 2) (by assumption) rfl (by first | exact .inl rfl | exact .inr rfl) ?_ | refine xs_set (i := 3) (by assumption) rfl (by first | exact .inl rfl | exact .inr rfl) ?_
  | refine xs_set (i := 4) (by assumption) rfl (by first | exact .inl rfl | exact .inr rfl) ?_ | refine xs_set (i := 5) (by assumption) rfl (by first | exact .inl rfl | exact .inr rfl) ?_
  | refine xs_set (i := 6) (by assumption) rfl (by first | exact .inl rfl | exact .inr rfl) ?_ | refine xs_set (i := 7) (by assumption) rfl (by first | exact .inl rfl | exact .inr rfl) ?_
  | refine xs_set (i := 8) (by assumption) rfl (by first | exact .inl rfl | exact .inr rfl) ?_ | refine xs_set (i := 9) (by assumption) rfl (by first | exact .inl rfl | exact .inr rfl) ?_
  | refine xs_set (i := 10) (by assumption) rfl (by first | exact .inl rfl | exact .inr rfl) ?_ | refine xs_set (i := 11) (by assumption) rfl (by first | exact .inl rfl | exact .inr rfl) ?_)
local macro_rules | `(tactic| walk_at "xname") => `(tactic| first
  | refine xg_name (i := 0) (by assumption) rfl (by first | exact .inl rfl | exact .inr rfl) | refine xg_name (i := 1) (by assumption) rfl (by first | exact .inl rfl | exact .inr rfl)
  | refine xg_name (i := 2) (by assumption) rfl (by first | exact .inl rfl | exact .inr rfl) | refine xg_name (i := 3) (by assumption) rfl (by first | exact .inl rfl | exact .inr rfl)
  | refine xg_name (i := 4) (by assumption) rfl (by first | exact .inl rfl | exact .inr rfl) | refine xg_name (i := 5) (by assumption) rfl (by first | exact .inl rfl | exact .inr rfl)
  | refine xg_name (i := 6) (by assumption) rfl (by first | exact .inl rfl | exact .inr rfl) | refine xg_name (i := 7) (by assumption) rfl (by first | exact .inl rfl | exact .inr rfl)
  | refine xg_name (i := 8) (by assumption) rfl (by first | exact .inl rfl | exact .inr rfl) | refine xg_name (i := 9) (by assumption) rfl (by first | exact .inl rfl | exact .inr rfl)
  | refine xg_name (i := 10) (by assumption) rfl (by first | exact .inl rfl | exact .inr rfl) | refine xg_name (i := 11) (by assumption) rfl (by first | exact .inl rfl | exact .inr rfl))
local macro_rules | `(tactic| walk_at "xcall") => `(tactic|
  (refine xe_call (by assumption) (Room.mono (by assumption) (by decide)) ?_))
local macro_rules | `(tactic| walk_at "x1") => `(tactic| first
  | refine xa_nil ?_ | refine xa_cons ?_ | refine xe_int ?_ | refine xe_bl ?_ | refine xe_non ?_ | refine xe_str ?_
  | walk_at "xv"
  | refine xe_tup ?_ | refine xe_lst ?_
  | refine xe_sub ?_
  | refine xe_ixT ?_
  | refine xe_neg ?_
  | refine xss_nil ?_ | refine xss_cons ?_ | refine xs_ret ?_ | walk_at "xset" | refine xs_if ?_
  | refine r2_int0 ?_ | refine r2_bool0 ?_ | refine r2_eqI ?_ | refine r2_neI ?_ | refine r1_neg ?_ | refine r2_ix0 ?_ | refine r2_ix1 ?_ | refine r2_ix2 ?_
  | refine xt_lt ?_ | refine xt_le ?_ | refine xt_gt ?_ | refine xt_ge ?_
  | refine xe_lt ?_ | refine xe_le ?_ | refine xe_gt ?_ | refine xe_ge ?_
  | refine xt_not ?_
  | walk_at "xcall")
local macro_rules | `(tactic| walk_at "xp") => `(tactic| repeat (walk_at "x1"))
/-! the source of draws -/
def tin (a b c : Int) : List Dt := [.int a, .int b, .int c]
/-- the source behind some draws -/
def Tin (b c : Int) (n : Nat) (ys : List Dt) : Prop := ∃ a' c', ys = tin a' b c' ∧ c ≤ c' ∧ c' ≤ c + (n : Int)
theorem Tin.mono {b c : Int} {m n : Nat} {ys : List Dt} (h : Tin b c m ys) (k : m ≤ n) : Tin b c n ys := by
  obtain ⟨a', c', e, h1, h2⟩ := h
  exact ⟨a', c', e, h1, by omega⟩
abbrev R_take : RT := fun ys ds P => ∃ (a b c n : Int), ys = tin a b c ∧ ds = [.int n] ∧ 0 < n ∧ n < 1048576 ∧ 0 ≤ c ∧ c < 1099511627776 ∧ ∀ (v : Nat) ys', (v : Int) < n → Tin b c 1 ys' → P (.int (v : Int)) ys'
section
variable {P : Program} {w : World} {K : Fg} {mg : Str → Option Value} {base : Heap} {f : Addr} {fd : FuncData}
theorem ok_L_take (F : Fun K "_law_take" "_law_take" s_L_take f fd) (mi : mg "int" = none) : FnOk P w K mg base CX0 1 f fd p_L_take (spT K R_take) := by
  refine fnT F sc_L_take (fun ys ds P h => ?_) (fun X B l ys ds Pr hX hr lU h => ?_)
  · obtain ⟨a, b, c, n, _, rfl, _⟩ := h; rfl
  · obtain ⟨cdv, A, outer, s, H, E, rfl⟩ := hX
    have nd := sc_L_take.nd
    obtain ⟨a, b, c, n, rfl, rfl, n0, nl, c0, cl, hP⟩ := h
    have nn : n.natAbs < 2 ^ 20 := by omega
    refine xss_cons (xs_if (xt_gt (xe_ixM (i := 0) (l := l) rfl ⟨_, _, memAt_head, atI_nat (j := 0) rfl, ?_⟩)))
    walk_at "xp"
    refine ⟨_, rfl, ite2 (fun e => ?_) (fun e => ?_)⟩
    · walk_at "xp"
      refine xe_mod (xe_callTy call_int1 mi (by decide +kernel) (xa_cons (xe_ixM (i := 0) (l := l) rfl ⟨_, _, memAt_head, atI_nat (j := 0) rfl, ?_⟩)))
      walk_at "xp"
      refine rn_intI ?_
      walk_at "xp"
      refine r2_int n0 ?_
      walk_at "xp"
      refine xs_setM (i := 0) (l := l) (j := 0) rfl (xe_divW (xe_ixM (i := 0) (l := l) rfl ⟨_, _, memAt_head, atI_nat (j := 0) rfl, ?_⟩))
      walk_at "xp"
      refine r2_int (wide_div n0 nn (by decide) (by decide)) ?_
      refine ⟨_, _, rfl, memAt_head, (by show 0 < 3; decide), by decide, ?_⟩
      walk_at "xp"
      have h1 : 0 ≤ a % n := Int.emod_nonneg a (by omega)
      have h2 : a % n < n := Int.emod_lt_of_pos a n0
      refine ⟨_, tin (a / n) b c, rfl, ?_, ?_⟩
      · rw [memPut_head (by simp)]; exact memAt_head
      · have := hP (a % n).toNat (tin (a / n) b c) (by omega) ⟨_, _, rfl, Int.le_refl _, by omega⟩
        rw [Int.toNat_of_nonneg h1] at this
        exact this
    · refine xss_nil ?_
      refine xss_cons (xs_setM (i := 0) (l := l) (j := 2) rfl (xe_add (xe_ixM (i := 0) (l := l) rfl ⟨_, _, memAt_head, atI_nat (j := 2) rfl, ?_⟩)))
      walk_at "xp"
      refine ⟨_, _, rfl, memAt_head, (by show 2 < 3; decide), by decide, ?_⟩
      rw [memPut_head (by simp)]
      show XSs _ _ _ [(l, tin a b (c + 1))] _ _
      refine xss_cons ?_
      walk_at "xset"
      refine xe_mod (xe_callTy call_int1 mi (by decide +kernel) (xa_cons (xe_mul (xe_add (xe_ixM (i := 0) (l := l) rfl ⟨_, _, memAt_head, atI_nat (j := 1) rfl, ?_⟩)))))
      refine xe_mul ?_
      refine xe_int ?_
      refine xe_ixM (i := 0) (l := l) rfl ⟨_, _, memAt_head, atI_nat (j := 2) rfl, ?_⟩
      refine r2_int (.inl ⟨by decide, by decide⟩) ?_
      refine r2_int0 ?_
      refine xe_add ?_
      refine xe_int ?_
      refine xe_ixM (i := 0) (l := l) rfl ⟨_, _, memAt_head, atI_nat (j := 2) rfl, ?_⟩
      refine r2_int0 ?_
      refine r2_int (.inr ⟨by omega, by omega⟩) ?_
      walk_at "xp"
      refine rn_intI ?_
      walk_at "xp"
      refine r2_int (by decide) ?_
      refine xss_cons ?_
      walk_at "xset"
      generalize hon : (b + 48271 * (c + 1)) * (39373 + (c + 1)) % 2147483647 = once
      refine xe_add (xe_mod (xe_callTy call_int1 mi (by decide +kernel) ?_))
      walk_at "xp"
      refine rn_intI ?_
      walk_at "xp"
      refine r2_int (by decide) ?_
      walk_at "xp"
      have hw1 : 0 ≤ once % 40009 := Int.emod_nonneg _ (by decide)
      have hw2 : once % 40009 < 40009 := Int.emod_lt_of_pos _ (by decide)
      refine xe_mod (xe_callTy call_int1 mi (by decide +kernel) (xa_cons (xe_mul (xe_add (xe_add ?_)))))
      walk_at "xv"
      refine xe_ixM (i := 0) (l := l) rfl ⟨_, _, memAt_head, atI_nat (j := 2) rfl, ?_⟩
      refine r2_int0 ?_
      refine xe_divW (xe_ixM (i := 0) (l := l) rfl ⟨_, _, memAt_head, atI_nat (j := 1) rfl, ?_⟩)
      walk_at "xp"
      refine r2_int (wide_div (b := 20) (by decide) (by decide) (by decide) (by decide)) ?_
      refine r2_int0 ?_
      walk_at "xp"
      refine r2_int (.inr ⟨by omega, by omega⟩) ?_
      walk_at "xp"
      refine rn_intI ?_
      walk_at "xp"
      refine r2_int (by decide) ?_
      refine xss_cons ?_
      generalize htw : (once + (c + 1) + b / 1000003) * (once % 40009 + 7) % 2147483629 = twice
      refine xs_ret (xe_mod (xe_callTy call_int1 mi (by decide +kernel) (xa_cons (xe_divW (xe_mod (xe_callTy call_int1 mi (by decide +kernel) (xa_cons (xe_add (xe_mul ?_)))))))))
      walk_at "xp"
      refine r2_int (.inr ⟨by decide, by decide⟩) ?_
      walk_at "xp"
      refine rn_intI ?_
      walk_at "xp"
      refine r2_int (by decide) ?_
      walk_at "xp"
      refine r2_int (wide_div (b := 7) (by decide) (by decide) (by decide) (by decide)) ?_
      walk_at "xp"
      refine rn_intI ?_
      walk_at "xp"
      refine r2_int n0 ?_
      generalize hz : (twice * 48271 + once) % 2147483587 / 64 = z
      have h1 : 0 ≤ z % n := Int.emod_nonneg z (by omega)
      have h2 : z % n < n := Int.emod_lt_of_pos z n0
      refine ⟨_, tin a b (c + 1), rfl, memAt_head, ?_⟩
      have := hP (z % n).toNat (tin a b (c + 1)) (by omega) ⟨_, _, rfl, by omega, by omega⟩
      rw [Int.toNat_of_nonneg h1] at this
      exact this
abbrev R_of : RT := fun ys ds P => ∃ (a b c : Int) (gs : List Dt), ys = tin a b c ∧ ds = [.list gs] ∧ 0 < gs.length ∧ gs.length < 1048576 ∧ 0 ≤ c ∧ c < 1099511627776 ∧ ∀ x ys', x ∈ gs → Tin b c 1 ys' → P x ys'
theorem ok_L_of (F : Fun K "_law_of" "_law_of" s_L_of f fd) (hT : Has P w K mg base CX0 1 "_law_take" p_L_take (spT K R_take)) (ml : mg "len" = none) : FnOk P w K mg base CX0 2 f fd p_L_of (spT K R_of) := by
  refine fnT F sc_L_of (fun ys ds P h => ?_) (fun X B l ys ds Pr hX hr lU h => ?_)
  · obtain ⟨a, b, c, gs, _, rfl, _⟩ := h; rfl
  · obtain ⟨cdv, A, outer, s, H, E, rfl⟩ := hX
    have nd := sc_L_of.nd
    obtain ⟨a, b, c, gs, rfl, rfl, n0, nl, c0, cl, hP⟩ := h
    refine xss_cons (xs_ret (xe_ixL ?_))
    walk_at "xv"
    refine xe_callT hT (hr.mono (by decide)) ?_
    walk_at "xp"
    refine xe_callB call_len_seq ml PySem.boot_len ?_
    walk_at "xp"
    refine rn_lenL ?_
    walk_at "xp"
    refine ⟨l, [_], tin a b c, rfl, memAt_head, a, b, c, _, rfl, rfl, by omega, by omega, c0, cl, fun v ys' hv ht => ?_⟩
    have hv' : v < gs.length := by omega
    refine r2_ixL (d := gs[v]) (atI_nat (j := v) (List.getElem?_eq_getElem hv')) ?_
    exact ⟨_, ys', rfl, (by rw [memPut_head (by simp)]; exact memAt_head), hP _ _ (List.getElem_mem hv') ht⟩
/-- the small numbers -/
def q12 : Rat := ⟨1, 2, by decide, by decide⟩
def smalls : List Rat := [0, 1, -1, 2, q12, 3, -2]
abbrev R_small : RT := fun ys ds P => ∃ (a b c : Int), ys = tin a b c ∧ ds = [] ∧ 0 ≤ c ∧ c < 1099511627776 ∧ ∀ q ys', q ∈ smalls → Tin b c 1 ys' → P (fr q) ys'
local macro_rules | `(tactic| walk_at "xt2") => `(tactic| (refine ⟨[.int _, .int _], rfl, Nat.le_of_ble_eq_true rfl, ?_⟩; walk_at "xp"))
theorem ok_L_small (F : Fun K "_law_small" "_law_small" s_L_small f fd) (hO : Has P w K mg base CX0 2 "_law_of" p_L_of (spT K R_of)) : FnOk P w K mg base CX0 3 f fd p_L_small (spT K R_small) := by
  refine fnT F sc_L_small (fun ys ds P h => ?_) (fun X B l ys ds Pr hX hr lU h => ?_)
  · obtain ⟨a, b, c, _, rfl, _⟩ := h; rfl
  · obtain ⟨cdv, A, outer, s, H, E, rfl⟩ := hX
    have nd := sc_L_small.nd
    obtain ⟨a, b, c, rfl, rfl, c0, cl, hP⟩ := h
    refine xss_cons (xs_ret (xe_callT hO (hr.mono (by decide)) ?_))
    walk_at "xp"
    walk_at "xt2"
    walk_at "xt2"
    walk_at "xt2"
    walk_at "xt2"
    walk_at "xt2"
    walk_at "xt2"
    walk_at "xt2"
    refine ⟨smalls.map fr, rfl, Nat.le_of_ble_eq_true rfl, ?_⟩
    walk_at "xp"
    refine ⟨l, [_], tin a b c, rfl, memAt_head, a, b, c, _, rfl, rfl, Nat.lt_of_sub_eq_succ rfl, Nat.le_of_ble_eq_true rfl, c0, cl, fun x ys' hx ht => ?_⟩
    obtain ⟨q, hq, rfl⟩ := List.mem_map.mp hx
    exact ⟨_, ys', rfl, (by rw [memPut_head (by simp)]; exact memAt_head), hP q ys' hq ht⟩
abbrev R_row : RT := fun ys ds P => ∃ (a b c : Int) (k : Nat), ys = tin a b c ∧ ds = [.int (k : Int)] ∧ k ≤ 100 ∧ 0 ≤ c ∧ c < 549755813888 ∧ ∀ qs ys', qs.length = k → (∀ q ∈ qs, q ∈ smalls) → Tin b c k ys' → P (row qs) ys'
theorem ok_L_row (F : Fun K "_law_row" "_law_row" s_L_row f fd) (hS : Has P w K mg base CX0 3 "_law_small" p_L_small (spT K R_small)) (mt : mg "tuple" = none) (mr : mg "range" = none) : FnOk P w K mg base CX0 4 f fd p_L_row (spT K R_row) := by
  refine fnT F sc_L_row (fun ys ds P h => ?_) (fun X B l ys ds Pr hX hr lU h => ?_)
  · obtain ⟨a, b, c, k, _, rfl, _⟩ := h; rfl
  · obtain ⟨cdv, A, outer, s, H, E, rfl⟩ := hX
    have nd := sc_L_row.nd
    obtain ⟨a, b, c, k, rfl, rfl, hk, c0, cl, hP⟩ := h
    refine xss_cons (xs_ret (xe_callTy call_tuple_of mt (by decide +kernel) (xa_cons ?_)))
    refine xe_lc (is := [2]) (γ := fun d δ R => R (δ.set 2 (some (.d d)))) (own := [("_law_k", 2)]) rfl nd (blkOk_by (N := n_L_row) (sc := defScope s_L_row) (by decide +kernel)) (by decide) (fun X' hX' => ?_) (xi_range1 rfl mr ?_)
    · obtain ⟨s', H', C', cl', fp', rfl⟩ := hX'
      exact xg_name (X := Cx.blk _ _ _ _ _ _) nd rfl (.inl rfl) (.inr rfl)
    walk_at "xp"
    refine ⟨k, rfl, by omega, fun i acc τ => ∃ qs ys', acc = qs.map fr ∧ qs.length = i ∧ (∀ q ∈ qs, q ∈ smalls) ∧ τ = [(l, ys')] ∧ Tin b c i ys', ⟨[], _, rfl, rfl, (fun q h => nomatch h), rfl, a, c, rfl, Int.le_refl _, by omega⟩, fun i d acc τ2 D hD hd hJ => ?_, fun acc τ2 hJ => ?_⟩
    · obtain ⟨qs, ys', rfl, hl, hq, rfl, a', c', rfl, h1, h2⟩ := hJ
      have hi : i < k := by
        have := (List.getElem?_eq_some_iff.mp hd).1
        simpa using this
      have nl : D ≠ l := fun z => hD (z ▸ lU)
      refine turn_nil fun X' hX' => ?_
      obtain ⟨s', H', C', cl', fp', rfl⟩ := hX'
      refine xe_callT hS (hr.mono (by decide)) ?_
      walk_at "xp"
      refine ⟨l, [], tin a' b c', rfl, by rw [memAt_tail nl]; exact memAt_head, a', b, c', rfl, rfl, by omega, by omega, fun q ys2 hq2 ht => ?_⟩
      have em : memPut [(D, qs.map fr), (l, tin a' b c')] l ys2 = [(D, qs.map fr), (l, ys2)] := by rw [memPut_tail nl, memPut_head (by simp)]
      refine ⟨_, rfl, _, em, by rw [List.length_map]; omega, qs ++ [q], ys2, by rw [List.map_append]; rfl, by rw [List.length_append, hl]; rfl, fun q' h' => ?_, rfl, ?_⟩
      · rcases List.mem_append.mp h' with z | z
        · exact hq q' z
        · have : q' = q := by simpa using z
          rw [this]; exact hq2
      · obtain ⟨a2, c2, rfl, h3, h4⟩ := ht
        exact ⟨a2, c2, rfl, by omega, by omega⟩
    · obtain ⟨qs, ys', rfl, hl, hq, rfl, ht⟩ := hJ
      rw [List.length_map, List.length_range] at hl ht
      walk_at "xp"
      refine rn_tuple_of ?_
      exact ⟨_, ys', rfl, memAt_head, hP qs ys' hl hq ht⟩
end

end K10

set_option maxHeartbeats 2100000
namespace K10
/-! sizes by a common base and a bound -/
structure Dm (N M : Nat) (q : Rat) : Prop where
  iz : ∃ a : Int, q * (N : Rat) = (a : Rat)
  lo : -(M : Rat) ≤ q
  hi : q ≤ (M : Rat)
theorem cast_nn (n : Nat) : (0 : Rat) ≤ (n : Rat) := by exact_mod_cast Nat.zero_le n
theorem cast_mulN (m n : Nat) : ((m * n : Nat) : Rat) = (m : Rat) * (n : Rat) := Rat.natCast_mul m n
theorem cast_addN (m n : Nat) : ((m + n : Nat) : Rat) = (m : Rat) + (n : Rat) := Rat.natCast_add m n
theorem cast_leN {m n : Nat} (h : m ≤ n) : (m : Rat) ≤ (n : Rat) := by exact_mod_cast h
theorem Dm.mono {N M M' : Nat} {q : Rat} (h : Dm N M q) (k : M ≤ M') : Dm N M' q := ⟨h.iz, by have := cast_leN k; have := h.lo; grind, by have := cast_leN k; have := h.hi; grind⟩
theorem Dm.base {N M : Nat} {q : Rat} (h : Dm N M q) (k : Nat) : Dm (N * k) M q := ⟨by
  obtain ⟨a, e⟩ := h.iz
  refine ⟨a * (k : Int), ?_⟩
  rw [cast_mulN, Rat.intCast_mul, ← e]
  have : ((k : Int) : Rat) = (k : Rat) := rfl
  rw [this]; grind, h.lo, h.hi⟩
theorem Dm.add {N M M' : Nat} {p q : Rat} (h : Dm N M p) (k : Dm N M' q) : Dm N (M + M') (p + q) := by
  obtain ⟨a, e⟩ := h.iz
  obtain ⟨b, f⟩ := k.iz
  refine ⟨⟨a + b, by rw [Rat.intCast_add, ← e, ← f]; grind⟩, ?_, ?_⟩
  · rw [cast_addN]; have := h.lo; have := k.lo; grind
  · rw [cast_addN]; have := h.hi; have := k.hi; grind
theorem Dm.neg {N M : Nat} {p : Rat} (h : Dm N M p) : Dm N M (-p) := by
  obtain ⟨a, e⟩ := h.iz
  refine ⟨⟨-a, by rw [Rat.intCast_neg, ← e]; grind⟩, ?_, ?_⟩
  · have := h.hi; grind
  · have := h.lo; grind
theorem Dm.sub {N M M' : Nat} {p q : Rat} (h : Dm N M p) (k : Dm N M' q) : Dm N (M + M') (p - q) := by
  have := h.add k.neg
  rwa [show p + -q = p - q by grind] at this
theorem mul_bd {p q m n : Rat} (h1 : -m ≤ p) (h2 : p ≤ m) (h3 : -n ≤ q) (h4 : q ≤ n) (hm : 0 ≤ m) (hn : 0 ≤ n) : p * q ≤ m * n := by
  have a1 := Rat.mul_nonneg (show 0 ≤ m - p by grind) (show 0 ≤ n + q by grind)
  have a2 := Rat.mul_nonneg (show 0 ≤ m + p by grind) (show 0 ≤ n - q by grind)
  grind
theorem Dm.mul {N N' M M' : Nat} {p q : Rat} (h : Dm N M p) (k : Dm N' M' q) : Dm (N * N') (M * M') (p * q) := by
  obtain ⟨a, e⟩ := h.iz
  obtain ⟨b, f⟩ := k.iz
  refine ⟨⟨a * b, by rw [Rat.intCast_mul, ← e, ← f, cast_mulN]; grind⟩, ?_, ?_⟩
  · rw [cast_mulN]
    have := mul_bd (p := -p) (q := q) (m := M) (n := M') (by have := h.hi; grind) (by have := h.lo; grind) k.lo k.hi (cast_nn M) (cast_nn M')
    grind
  · rw [cast_mulN]
    exact mul_bd h.lo h.hi k.lo k.hi (cast_nn M) (cast_nn M')
theorem Dm.sz {N M n : Nat} {q : Rat} (h : Dm N M q) (hN : 0 < N) (h1 : M * N < 2 ^ n) (h2 : N < 2 ^ n) : Sz n q := by
  obtain ⟨a, e⟩ := h.iz
  have pN : (0 : Rat) < (N : Rat) := by exact_mod_cast hN
  have eq : q = Rat.divInt a (N : Int) := by
    rw [Rat.divInt_eq_div, ← e]
    have : ((N : Int) : Rat) = (N : Rat) := rfl
    rw [this]
    have hne : (N : Rat) ≠ 0 := fun z => by rw [z] at pN; exact Rat.lt_irrefl pN
    grind
  have u1 : (a : Rat) ≤ ((M * N : Nat) : Rat) := by
    rw [← e, cast_mulN]; exact Rat.mul_le_mul_of_nonneg_right h.hi (Rat.le_of_lt pN)
  have u2 : -((M * N : Nat) : Rat) ≤ (a : Rat) := by
    rw [← e, cast_mulN]
    have := Rat.mul_le_mul_of_nonneg_right h.lo (Rat.le_of_lt pN)
    grind
  have v1 : a ≤ ((M * N : Nat) : Int) := by exact_mod_cast u1
  have v2 : -((M * N : Nat) : Int) ≤ a := by
    have : ((-((M * N : Nat) : Int) : Int) : Rat) ≤ (a : Rat) := by rw [Rat.intCast_neg]; exact u2
    exact_mod_cast this
  rw [eq]
  refine Sz.divInt (by omega) ?_ (by simpa using h2)
  omega
theorem Dm.zero (N M : Nat) : Dm N M 0 := ⟨⟨0, by rw [Rat.zero_mul]; rfl⟩, by have := cast_nn M; grind, by have := cast_nn M; grind⟩
theorem qsum_dm {N M : Nat} : ∀ (n : Nat) (qs : List Rat), qs.length = n → (∀ q ∈ qs, Dm N M q) → Dm N (n * M) (qsum qs) := by
  intro n
  induction n with
  | zero =>
    intro qs h _
    rw [List.eq_nil_of_length_eq_zero h]; exact Dm.zero _ _
  | succ m ih =>
    intro qs h hs
    have hne : qs ≠ [] := fun z => by rw [z] at h; cases h
    have e := (List.dropLast_concat_getLast hne).symm
    have hl : qs.dropLast.length = m := by rw [List.length_dropLast]; omega
    have h1 := ih qs.dropLast hl (fun q hq => hs q (List.dropLast_subset qs hq))
    have h2 := hs _ (List.getLast_mem hne)
    rw [e, qsum_snoc]
    have := h1.add h2
    rwa [show m * M + M = (m + 1) * M by rw [Nat.succ_mul]] at this
def DmAll (N M : Nat) (qs : List Rat) : Prop := ∀ q ∈ qs, Dm N M q
theorem dot_dm {N N' M M' l : Nat} {xs ys : List Rat} (hx : DmAll N M xs) (hy : DmAll N' M' ys) (hl : xs.length ≤ l) : Dm (N * N') (l * (M * M')) (dot xs ys) := by
  have h := qsum_dm (N := N * N') (M := M * M') _ ((xs.zip ys).map fun p => p.1 * p.2) rfl (fun q hq => by
    rcases List.mem_map.mp hq with ⟨p, hp, rfl⟩
    have h1 := List.of_mem_zip (show (p.1, p.2) ∈ xs.zip ys from hp)
    exact (hx _ h1.1).mul (hy _ h1.2))
  refine h.mono (Nat.mul_le_mul_right _ ?_)
  rw [List.length_map, List.length_zip]; omega
theorem dear_dm {N N' M M' l : Nat} {g : List (List Rat)} {r : List Rat} (hg : ∀ c ∈ g, DmAll N M c) (hl : ∀ c ∈ g, c.length ≤ l) (hr : DmAll N' M' r) (hne : g ≠ []) : Dm (N * N') (l * (M * M')) (dear g r) := by
  obtain ⟨c, hc, e⟩ := dear_mem (r := r) hne
  rw [e]
  exact dot_dm (hg c hc) hr (hl c hc)
theorem apart_dm {N M M' : Nat} {x y : List Rat} (hx : DmAll N M x) (hy : DmAll N M' y) : DmAll N (M + M') (apart x y) := fun q hq => by
  rcases List.mem_map.mp hq with ⟨p, hp, rfl⟩
  have h := List.of_mem_zip (show (p.1, p.2) ∈ x.zip y from hp)
  exact (hx _ h.1).sub (hy _ h.2)
theorem dm_lit {N M : Nat} {q : Rat} (a : Int) (h : q * (N : Rat) = (a : Rat)) (h1 : -(M : Rat) ≤ q) (h2 : q ≤ (M : Rat)) : Dm N M q := ⟨⟨a, h⟩, h1, h2⟩
theorem small_dm {q : Rat} (h : q ∈ smalls) : Dm 2 3 q := by
  have e : q = 0 ∨ q = 1 ∨ q = -1 ∨ q = 2 ∨ q = q12 ∨ q = 3 ∨ q = -2 := by simpa [smalls] using h
  rcases e with e | e | e | e | e | e | e <;> subst e
  · exact dm_lit 0 (by decide +kernel) (by decide +kernel) (by decide +kernel)
  · exact dm_lit 2 (by decide +kernel) (by decide +kernel) (by decide +kernel)
  · exact dm_lit (-2) (by decide +kernel) (by decide +kernel) (by decide +kernel)
  · exact dm_lit 4 (by decide +kernel) (by decide +kernel) (by decide +kernel)
  · exact dm_lit 1 (by decide +kernel) (by decide +kernel) (by decide +kernel)
  · exact dm_lit 6 (by decide +kernel) (by decide +kernel) (by decide +kernel)
  · exact dm_lit (-4) (by decide +kernel) (by decide +kernel) (by decide +kernel)
end K10

set_option maxRecDepth 100000
set_option maxHeartbeats 4100000
namespace K10
open L2 PyProof.Rows PySem.Spec PySem
/-! rows as keys: a row is a tuple of pairs of whole numbers -/
abbrev SL := List (Addr × List Rat)
def kq (x : Rat) : NestedKey := .tup [.num x.num, .num (x.den : Int)]
def kr (c : List Rat) : NestedKey := .tup (c.map kq)
theorem kq_inj {x y : Rat} (h : kq x = kq y) : x = y := by
  have h1 : [NestedKey.num x.num, .num (x.den : Int)] = [.num y.num, .num (y.den : Int)] := NestedKey.tup.inj h
  have h2 := NestedKey.num.inj (List.cons.inj h1).1
  have h3 := NestedKey.num.inj (List.cons.inj (List.cons.inj h1).2).1
  exact Rat.ext h2 (by omega)
theorem kqs_inj : ∀ {c d : List Rat}, c.map kq = d.map kq → c = d
  | [], [], _ => rfl
  | [], _ :: _, h => nomatch h
  | _ :: _, [], h => nomatch h
  | _ :: _, _ :: _, h => by
    rw [kq_inj (List.cons.inj h).1, kqs_inj (List.cons.inj h).2]
theorem kr_inj {c d : List Rat} (h : kr c = kr d) : c = d := kqs_inj (NestedKey.tup.inj h)
theorem kr_beq (c d : List Rat) : NestedKey.beq (kr c) (kr d) = decide (c = d) := by
  rw [← NestedKey.decide_eq]
  by_cases e : c = d
  · rw [decide_eq_true e, decide_eq_true (congrArg kr e)]
  · rw [decide_eq_false e, decide_eq_false fun z => e (kr_inj z)]
theorem kqs_deep : ∀ c : List Rat, NestedKey.depthAll (c.map kq) ≤ 1
  | [] => Nat.zero_le _
  | x :: c => by
    have h := kqs_deep c
    show max (NestedKey.depth (kq x)) (NestedKey.depthAll (c.map kq)) ≤ 1
    exact Nat.max_le.mpr ⟨Nat.le_refl _, h⟩
theorem kr_deep (c : List Rat) : (kr c).depth ≤ 2 := Nat.succ_le_succ (kqs_deep c)
abbrev RowAt (h : Heap) (c : List Rat) (b : Addr) : Prop := NestedIs h (kr c) (.ref b)
abbrev hz (w : World) (c : List Rat) : Int := (kr c).hash w
section
variable {h : Heap}
theorem nest_pair {i j : Int} {us : List Value} {as : List Addr} (r : ReadsAll h us [.int i, .int j] as) : NestedAll h [.num i, .num j] us := by
  cases r with
  | cons u1 u2 => cases u2 with
    | cons u3 u4 =>
      cases u1; cases u3; cases u4
      exact .cons (.int _ _) (.cons (.int _ _) .nil)
theorem nest_fr {v : Value} {x : Rat} {as : List Addr} (r : Reads h v (fr x) as) : NestedIs h (kq x) v := by
  cases r with
  | tuple h1 h2 h3 h4 => exact .tup h1 h2 h3 (nest_pair h4)
theorem nest_frs : ∀ (c : List Rat) {us : List Value} {as : List Addr}, ReadsAll h us (c.map fr) as → NestedAll h (c.map kq) us
  | [], _, _, r => (by cases r; exact .nil)
  | x :: c, _, _, r => by
    cases r with
    | cons h1 h2 => exact .cons (nest_fr h1) (nest_frs c h2)
theorem nest_row {b : Addr} {c : List Rat} {as : List Addr} (r : Reads h (.ref b) (row c) as) : RowAt h c b := by
  cases r with
  | tuple h1 h2 h3 h4 => exact .tup h1 h2 h3 (nest_frs c h4)
theorem bare_pair {i j : Int} {us : List Value} {as : List Addr} (r : ReadsAll h us [.int i, .int j] as) : as = [] := by
  cases r with
  | cons u1 u2 => cases u2 with
    | cons u3 u4 =>
      cases u1; cases u3; cases u4
      rfl
theorem bare_fr {v : Value} {x : Rat} {as : List Addr} (r : Reads h v (fr x) as) : as = [] := by
  cases r with
  | tuple _ _ _ h4 => exact bare_pair h4
theorem bare_frs : ∀ (c : List Rat) {us : List Value} {as : List Addr}, ReadsAll h us (c.map fr) as → as = []
  | [], _, _, r => (by cases r; rfl)
  | x :: c, _, _, r => by
    cases r with
    | cons h1 h2 => rw [bare_fr h1, bare_frs c h2]; rfl
theorem bare_row {b : Addr} {c : List Rat} {as : List Addr} (r : Reads h (.ref b) (row c) as) : as = [] := by
  cases r with
  | tuple _ _ _ h4 => exact bare_frs c h4
theorem row_stays {h h' : Heap} {c : List Rat} {b : Addr} (x : RowAt h c b) (k : ∀ e o, h.get? e = some o → h'.get? e = some o) : RowAt h' c b := NestedIs.at (fun e o _ _ he _ => k e o he) _ _ x
/-- a row is none of the set's own object -/
theorem row_beside {h h' : Heap} {c : List Rat} {a b : Addr} {o : Obj} {es : Array (Int × Value)} {ep : Nat} {t : SetTable} (x : RowAt h c b) (ho : h.get? a = some o) (hd : o.data = .set es ep t) (hs : Heap.SameBut a h h') : RowAt h' c b :=
  NestedIs.at (fun e u vs n he hu => (hs.2 e fun z => by
    rw [z, ho] at he
    rw [← Option.some.inj he, hd] at hu
    cases hu).trans he) _ _ x
end
/-! what is asked of a row -/
section
variable {P : Program} {w : World} {s : Shared}
def Own0 (P : Program) (w : World) (n : Nat) (s : Shared) (v : Value) : Prop := ∀ (A : Around) (E : Value → Shared → Prop) (Q : Bool → Shared → Prop), Q false s → wpAny (model P w) A (ofAClassStatement n v) Q E s
def ByV (P : Program) (w : World) (n : Nat) (s : Shared) (v : Value) : Prop := ∀ (A : Around) (E : Value → Shared → Prop) (Q : Bool → Shared → Prop), Q true s → wpAny (model P w) A (hashByValue n v) Q E s
theorem own_int (n : Nat) (i : Int) (t : Tok) : Own0 P w n s (.int i t) := fun A E Q q => by
  have e : ofAClassStatement n (.int i t) = pure false := by cases n <;> rfl
  rw [e]; exact wpAny_pure q
theorem byv_int (n : Nat) (i : Int) (t : Tok) : ByV P w n s (.int i t) := fun A E Q q => by
  have e : hashByValue n (.int i t) = pure true := by cases n <;> rfl
  rw [e]; exact wpAny_pure q
theorem own_tup {n m : Nat} {b : Addr} {o : Obj} {vs : Array Value} (ho : s.heap.get? b = some o) (hc : o.cls = .type "tuple") (hd : o.data = .seq vs m) (hi : ∀ v ∈ vs.toList, Own0 P w n s v) : Own0 P w (n + 1) s (.ref b) := fun A E Q q => by
  have hT : s.TypeIs (.ref b) "tuple" := ⟨o, ho, hc⟩
  unfold ofAClassStatement
  refine wpAny_bind (wpAny_typeOf hT ?_); dsimp only
  simp only [show (("tuple" : String) == "tuple") = true by decide, if_true, Bool.not_true, Bool.false_eq_true, if_false]; try refine wpAny_bind (wpAny_pure ?_)
  try simp only [if_false, Bool.not_true, Bool.false_eq_true]
  change wpAny _ _ (seqItems? (.ref b) >>= _) _ _ s
  refine wpAny_bind (wpAny_seqItems ho hd ?_); dsimp only
  refine wpAny_bind ?_
  change wpAny _ _ (forIn vs _ _) _ _ s
  rw [← Array.forIn_toList]
  refine wpAny_forIn_list _ (fun rest r z => r.1 = none ∧ z = s ∧ ∀ v ∈ rest, Own0 P w n s v) _ ?_ ?_ _ _ ⟨rfl, rfl, hi⟩
  · rintro v rest r z ⟨hr, rfl, hall⟩; refine wpAny_bind (hall v List.mem_cons_self _ _ _ ?_)
    simp only [if_false, Bool.false_eq_true]
    exact wpAny_pure ⟨rfl, rfl, fun u k => hall u (List.mem_cons_of_mem _ k)⟩
  · rintro ⟨r1, r2⟩ z ⟨hr, rfl, _⟩
    cases (show r1 = none from hr)
    exact wpAny_pure q
theorem byv_tup {n m : Nat} {b : Addr} {o : Obj} {vs : Array Value} (ho : s.heap.get? b = some o) (hc : o.cls = .type "tuple") (hd : o.data = .seq vs m) (hi : ∀ v ∈ vs.toList, ByV P w n s v) : ByV P w (n + 1) s (.ref b) := fun A E Q q => by
  have hT : s.TypeIs (.ref b) "tuple" := ⟨o, ho, hc⟩
  unfold hashByValue; refine wpAny_bind (wpAny_specialOf hT F.slot_tuple_hash.lookup ?_)
  change wpAny _ _ (seqItems? (.ref b) >>= _) _ _ s; refine wpAny_bind (wpAny_seqItems ho hd ?_)
  refine wpAny_bind ?_
  change wpAny _ _ (forIn vs _ _) _ _ s
  rw [← Array.forIn_toList]
  refine wpAny_forIn_list _ (fun rest r z => r.1 = none ∧ z = s ∧ ∀ v ∈ rest, ByV P w n s v) _ ?_ ?_ _ _ ⟨rfl, rfl, hi⟩
  · rintro v rest r z ⟨hr, rfl, hall⟩; refine wpAny_bind (hall v List.mem_cons_self _ _ _ ?_)
    simp only [if_false, Bool.not_true, Bool.false_eq_true]
    exact wpAny_pure ⟨rfl, rfl, fun u k => hall u (List.mem_cons_of_mem _ k)⟩
  · rintro ⟨r1, r2⟩ z ⟨hr, rfl, _⟩
    cases (show r1 = none from hr)
    exact wpAny_pure q
theorem num_own {n : Nat} {i : Int} {v : Value} {h : Heap} (x : NestedIs h (.num i) v) : Own0 P w n s v ∧ ByV P w n s v := by
  cases x with
  | int _ t => exact ⟨own_int n i t, byv_int n i t⟩
  | @bool c _ e =>
    refine ⟨fun A E Q q => ?_, fun A E Q q => ?_⟩
    · rw [show ofAClassStatement n (.bool c) = pure false by cases n <;> rfl]; exact wpAny_pure q
    · rw [show hashByValue n (.bool c) = pure true by cases n <;> rfl]; exact wpAny_pure q
theorem nums_own {n : Nat} {i j : Int} {us : List Value} {h : Heap} (x : NestedAll h [.num i, .num j] us) : ∀ v ∈ us, Own0 P w n s v ∧ ByV P w n s v := by
  cases x with
  | cons u1 u2 => cases u2 with
    | cons u3 u4 =>
      cases u4
      intro v hv
      rcases List.mem_cons.mp hv with (e | hv)
      · rw [e]; exact num_own u1
      · rw [List.mem_singleton.mp hv]; exact num_own u3
theorem fr_own {n : Nat} {x : Rat} {v : Value} (h : NestedIs s.heap (kq x) v) : Own0 P w (n + 1) s v ∧ ByV P w (n + 1) s v := by
  cases h with
  | tup h1 h2 h3 h4 => exact ⟨own_tup h1 h2 h3 fun v hv => (nums_own h4 v hv).1, byv_tup h1 h2 h3 fun v hv => (nums_own h4 v hv).2⟩
theorem frs_own {n : Nat} : ∀ (c : List Rat) {us : List Value}, NestedAll s.heap (c.map kq) us → ∀ v ∈ us, Own0 P w (n + 1) s v ∧ ByV P w (n + 1) s v
  | [], _, r, v, hv => by cases r; cases hv
  | x :: c, _, r, v, hv => by
    cases r with
    | cons h1 h2 =>
      rcases List.mem_cons.mp hv with (e | hv)
      · rw [e]; exact fr_own h1
      · exact frs_own c h2 v hv
theorem row_own {n : Nat} {c : List Rat} {b : Addr} (h : RowAt s.heap c b) : Own0 P w (n + 2) s (.ref b) ∧ ByV P w (n + 2) s (.ref b) := by
  cases h with
  | tup h1 h2 h3 h4 => exact ⟨own_tup h1 h2 h3 fun v hv => (frs_own c h4 v hv).1, byv_tup h1 h2 h3 fun v hv => (frs_own c h4 v hv).2⟩
variable {A : Around} {E : Value → Shared → Prop}
/-- a search among rows is not to be seen -/
theorem row_unseen {c : List Rat} {b : Addr} {Q : Bool → Shared → Prop} (hk : RowAt s.heap c b) {ys : List Value} (hy : ∀ y ∈ ys, ∃ d e, y = Value.ref e ∧ RowAt s.heap d e) (q : Q false s) : wpAny (model P w) A (searchCouldBeSeen (.ref b) ys) Q E s := by
  have dp : ∀ d : List Rat, (kr d).depth ≤ 8 := fun d => Nat.le_trans (kr_deep d) (by decide)
  unfold searchCouldBeSeen
  refine wpAny_bind ?_
  refine wpAny_forIn_list _ (fun rest r z => r.1 = none ∧ z = s ∧ ∀ y ∈ rest, ∃ d e, y = Value.ref e ∧ RowAt s.heap d e) _ ?_ ?_ _ _ ⟨rfl, rfl, hy⟩
  · rintro v rest r z ⟨hr, rfl, hall⟩
    obtain ⟨d, e, rfl, he⟩ := hall v List.mem_cons_self
    have more : ∀ y ∈ rest, ∃ d e, y = Value.ref e ∧ RowAt z.heap d e := fun u k => hall u (List.mem_cons_of_mem _ k)
    dsimp only
    by_cases hv : (b == e || (carriedByValue (.ref b) && carriedByValue (.ref e))) = true
    · exact wp_if_pos hv (wpAny_pure ⟨rfl, rfl, more⟩)
    · refine wp_if_neg hv ?_
      refine wpAny_bind (quiet_key _ _ 8 _ hk (dp _) _ _ _ ?_); simp only [if_false, Bool.not_true, Bool.false_eq_true]
      refine wpAny_bind (quiet_key _ _ 8 _ he (dp _) _ _ _ ?_); simp only [if_false, Bool.not_true, Bool.false_eq_true]
      refine wpAny_bind ((row_own (n := 6) hk).1 _ _ _ ?_); simp only [if_false, Bool.false_eq_true]
      refine wpAny_bind ((row_own (n := 6) he).1 _ _ _ ?_); simp only [if_false, Bool.false_eq_true]
      exact wpAny_pure ⟨rfl, rfl, more⟩
  · rintro ⟨r1, r2⟩ z ⟨hr, rfl, _⟩
    cases (show r1 = none from hr)
    exact wpAny_pure q
theorem row_hash {c : List Rat} {b : Addr} {Q : Int → Shared → Prop} (hu : A.units + 2 < cLine) (hk : RowAt s.heap c b) (q : ∀ n, Q (hz w c) { s with toks := s.toks + n }) : wpAny (model P w) A (pyHash (.ref b)) Q E s :=
  pyHash_key _ _ _ _ _ hk (Nat.lt_of_le_of_lt (Nat.add_le_add_left (kr_deep c) _) hu) (q _)
theorem row_eq {c d : List Rat} {b e : Addr} {Q : Bool → Shared → Prop} (hu : A.units + 2 < cLine) (hb : RowAt s.heap c b) (he : RowAt s.heap d e) (q : Q (decide (c = d)) s) : wpAny (model P w) A (eqBool (.ref b) (.ref e)) Q E s := by
  refine eqAt_key _ _ A s _ _ hb he (Nat.lt_of_le_of_lt (Nat.add_le_add_left (Nat.le_trans (Nat.min_le_left _ _) (kr_deep c)) _) hu) _ _ _ _ ?_
  rw [kr_beq]; exact q
end
end K10

set_option maxRecDepth 100000
set_option maxHeartbeats 4100000
namespace K10
open L2 PyProof.Rows PySem.Spec PySem
/-! the set of rows: its table has eight places and never more than four rows -/
def ents (w : World) (L : SL) : List (Int × Value) := L.map fun p => (hz w p.2, Value.ref p.1)
structure SR (P : Program) (w : World) (h : Heap) (a : Addr) (L : SL) (es : Array (Int × Value)) (ep : Nat) (t : SetTable) : Prop where
  ob : ∃ u, h.get? a = some u ∧ u.ExactSet ∧ u.data = .set es ep t
  en : es.toList = ents w L
  tab : TabOk t (L.map fun p => hz w p.2)
  nd : (L.map (·.2)).Nodup
  rws : ∀ p ∈ L, RowAt h p.2 p.1
  pl : t.plain = true
  ld : w.params.followText "set-order" = true ∨ t.led = true
  m7 : t.mask = 7
  few : L.length ≤ 4
section
variable {P : Program} {w : World} {A : Around} {E : Value → Shared → Prop} {s : Shared} {a : Addr} {L : SL} {es : Array (Int × Value)} {ep : Nat} {t : SetTable}
theorem ents_len (L : SL) : (ents w L).length = L.length := List.length_map _
theorem SR.size (R : SR P w s.heap a L es ep t) : es.size = L.length := by rw [← Array.length_toList, R.en, ents_len]
theorem SR.psz (R : SR P w s.heap a L es ep t) : t.place.size = L.length := by rw [R.tab.sz, List.length_map]
theorem SR.fits (R : SR P w s.heap a L es ep t) : t.fits es.size = true := by
  have h1 := R.psz
  have h2 := R.size
  have h3 := R.few
  have h4 := R.m7; unfold SetTable.fits SetTable.fill
  (rw [R.tab.dm, Bool.and_eq_true, beq_iff_eq, decide_eq_true_eq])
  refine ⟨by omega, ?_⟩
  show t.place.size + 0 ≤ t.mask
  omega
theorem SR.get (R : SR P w s.heap a L es ep t) {i : Nat} {p : Addr × List Rat} (h : L[i]? = some p) : es[i]? = some (hz w p.2, Value.ref p.1) := by
  rw [← Array.getElem?_toList, R.en, show ents w L = L.map _ from rfl, List.getElem?_map, h]; rfl
theorem SR.stands (R : SR P w s.heap a L es ep t) : ¬ t.gaveWay = true := by
  unfold SetTable.gaveWay
  rw [R.m7]; decide
/-- a search's state after j steps -/
abbrev stp (t : SetTable) (h : Int) (j : Nat) : SetTable.Probe := nth t.mask (runAt t.mask (SetTable.bits h % (t.mask + 1)) (SetTable.bits h)) j
theorem nth_dm (m : Nat) : ∀ (n : Nat) (p : SetTable.Probe), p.dummy = none → (nth m p n).dummy = none
  | 0, _, h => h
  | n + 1, p, h => nth_dm m n (adv m p) (by
    unfold adv
    split <;> exact h)
theorem stp_on (t : SetTable) (h : Int) (j q : Nat) : nth t.mask (stp t h j) q = stp t h (j + q) := (nth_add t.mask j _ q).symm
theorem row_find (R : SR P w s.heap a L es ep t) {x : Addr} {c : List Rat} (hx : RowAt s.heap c x) (hu : A.units + 2 < cLine) {K : Nat} (hf : K < 10 * SetTable.turns t.mask)
    (hK : way t.mask (hz w c) K ∉ t.place.toList) (hb : ∀ j, j < K → way t.mask (hz w c) j ∈ t.place.toList) {Q : SetFound → Shared → Prop} (qi : c ∈ L.map (·.2) → Q (.there none) s) (qo : c ∉ L.map (·.2) → Q (.free (way t.mask (hz w c) K) false) s) :
    ∀ (f j : Nat) (st : Option SetTable.Probe), st.getD (t.probeStart (hz w c)) = stp t (hz w c) j → j ≤ K → K - j < f →
      (∀ (i : Nat) p, L[i]? = some p → p.2 = c → ∃ m, j ≤ m ∧ m < K ∧ t.place.toList[i]? = some (way t.mask (hz w c) m)) → wpAny (model P w) A (setSearchFrom a (.ref x) (hz w c) true f st) Q E s
  | 0, j, _, _, _, z, _ => absurd z (Nat.not_lt_zero _)
  | f + 1, j, st, e0, hj, hfu, hin => by
    rcases R.ob with ⟨o, ho, hex, hd⟩
    rw [setSearchFrom_succ]
    refine wpAny_bind (wpAny_setState_of ho hd R.fits ?_); dsimp only
    refine wp_if_neg R.stands ?_; try refine wpAny_bind (wpAny_pure ?_)
    have wy : ∀ q, (nth t.mask (stp t (hz w c) j) q).j = way t.mask (hz w c) (j + q) := fun q => congrArg SetTable.Probe.j (stp_on t (hz w c) j q)
    have back : ∀ m, j ≤ m → j + (m - j) = m := fun m h => by omega
    have at_ : ∀ (i : Nat) p, L[i]? = some p → (fun i => (es[i]?.map (·.1)).getD 0) i = hz w p.2 := fun i p hp => by
      change (es[i]?.map (·.1)).getD 0 = _
      rw [R.get hp]; rfl
    rcases go_spec t R.tab.ris R.tab.dm (fun i => (es[i]?.map (·.1)).getD 0) (hz w c) (10 * SetTable.turns t.mask) (K - j) (stp t (hz w c) j) (nth_dm _ _ _ rfl) (by omega)
      (fun q hq => by rw [wy]; exact hb _ (by omega)) (by rw [wy, back K hj]; exact hK) with ⟨q, i, hq, hi, hh, hno, hpr⟩ | ⟨hno, hpr⟩
    · rw [wy] at hi hpr
      rw [stp_on] at hpr
      have hpr2 : t.probe (fun i => (es[i]?.map (·.1)).getD 0) (hz w c) (st.getD (t.probeStart (hz w c))) = some (.candidate (way t.mask (hz w c) (j + q)) i (stp t (hz w c) (j + (q + 1)))) := by rw [e0]; exact hpr
      rw [hpr2]; dsimp only
      have hil : i < L.length := by
        have h1 := (List.getElem?_eq_some_iff.mp hi).1
        have h2 := R.psz
        (rw [Array.length_toList] at h1)
        omega
      obtain ⟨p, hp⟩ : ∃ p, L[i]? = some p := ⟨_, List.getElem?_eq_getElem hil⟩
      have hm := List.mem_of_getElem? hp
      have rest : wpAny (model P w) A (searchRest a (.ref x) (hz w c) true f es t (way t.mask (hz w c) (j + q)) i (stp t (hz w c) (j + (q + 1)))) Q E s := by
        unfold searchRest
        rw [R.get hp]; dsimp only
        refine wpAny_bind (wpAny_holding (row_eq hu (R.rws p hm) hx ?_))
        refine wpAny_bind (wpAny_setState_of ho hd R.fits ?_); dsimp only
        by_cases hkk : p.2 = c
        · exact wp_if_pos (by simp [hkk]) (wpAny_pure (qi (List.mem_map.mpr ⟨p, hm, hkk⟩)))
        · refine wp_if_neg (by simp [hkk]) ?_; try refine wpAny_bind (wpAny_pure ?_)
          rw [sameMem]; dsimp only
          have live : t.slot (way t.mask (hz w c) (j + q)) = .live i := slot_live R.tab.ris hi
          simp only [if_true, live, R.get hp]; refine wpAny_bind (wpAny_isSame_ref_self (wpAny_bind (wpAny_pure ?_)))
          simp only [if_true]; refine wp_if_neg (by simp [hkk]) ?_
          refine row_find R hx hu hf hK hb qi qo f (j + (q + 1)) _ rfl (by omega) (by omega) fun i0 p0 h0 k0 => ?_
          obtain ⟨m, m1, m2, m3⟩ := hin i0 p0 h0 k0
          refine ⟨m, ?_, m2, m3⟩
          have ne1 : ¬ m < j + q := fun z => hno (m - j) i0 (by omega) (by rw [wy, back m m1]; exact m3) ((at_ i0 p0 h0).trans (congrArg (hz w) k0))
          have ne2 : m ≠ j + q := fun z => by
            rw [z] at m3
            have u := slot_live R.tab.ris m3
            rw [live] at u
            injection u with u
            rw [← u, hp] at h0
            exact hkk ((congrArg Prod.snd (Option.some.inj h0)).trans k0)
          omega
      by_cases hl : t.led = true
      · refine wp_if_neg (by simp [hl]) ?_; try refine wpAny_bind (wpAny_pure ?_)
        exact rest
      · refine wp_if_pos (by simp [hl]) (wpAny_bind (row_unseen hx (fun y hy => ?_) ?_))
        · rcases List.mem_map.mp hy with ⟨e, he, ee⟩
          have he1 : e ∈ es.toList := by
            have he0 : e ∈ es ∧ e.1 = hz w c := by simpa using he
            simpa using he0.1
          rw [R.en] at he1
          obtain ⟨p2, hp2, e2⟩ := List.mem_map.mp he1
          exact ⟨p2.2, p2.1, by rw [← ee, ← e2], R.rws p2 hp2⟩
        · refine wp_if_neg (by decide) ?_; try refine wpAny_bind (wpAny_pure ?_)
          exact rest
    · rw [wy, back K hj] at hpr
      have hpr2 : t.probe (fun i => (es[i]?.map (·.1)).getD 0) (hz w c) (st.getD (t.probeStart (hz w c))) = some (.empty (way t.mask (hz w c) K) none) := by rw [e0]; exact hpr
      rw [hpr2]; dsimp only
      refine wpAny_pure (qo fun hm => ?_)
      obtain ⟨p0, h0, k0⟩ := List.mem_map.mp hm
      obtain ⟨i0, l0, e1⟩ := List.getElem_of_mem h0
      have h00 : L[i0]? = some p0 := by rw [List.getElem?_eq_getElem l0, e1]
      obtain ⟨m, m1, m2, m3⟩ := hin i0 p0 h00 k0
      exact hno (m - j) i0 (by omega) (by rw [wy, back m m1]; exact m3) ((at_ i0 p0 h00).trans (congrArg (hz w) k0))
theorem row_search (R : SR P w s.heap a L es ep t) {x : Addr} {c : List Rat} (hx : RowAt s.heap c x) (hu : A.units + 2 < cLine) {Q : SetFound → Shared → Prop} (qi : c ∈ L.map (·.2) → Q (.there none) s)
    (qo : ∀ K, c ∉ L.map (·.2) → way t.mask (hz w c) K ∉ t.place.toList → (∀ j, j < K → way t.mask (hz w c) j ∈ t.place.toList) → Q (.free (way t.mask (hz w c) K) false) s) : wpAny (model P w) A (setSearch a (.ref x) (hz w c) true) Q E s := by
  have h3 := R.few
  have h4 := R.m7
  obtain ⟨K, hf, hK, hb⟩ := R.tab.first (by rw [List.length_map]; omega) (hz w c)
  have hbig : K < 100000 := by
    unfold SetTable.turns at hf
    omega
  unfold setSearch
  refine row_find R hx hu hf hK hb qi (fun hn => qo K hn hK hb) 100000 0 none rfl (Nat.zero_le _) (by omega) fun i p hp hk => ?_
  have hi : (L.map fun p => hz w p.2)[i]? = some (hz w c) := by rw [List.getElem?_map, hp, ← hk]; rfl
  have hil : t.place.toList.length > i := by
    rw [Array.length_toList, R.psz]
    exact (List.getElem?_eq_some_iff.mp hp).1
  have hj := List.getElem?_eq_getElem hil; obtain ⟨m, hm, e⟩ := R.tab.before hK hi hj
  exact ⟨m, Nat.zero_le _, hm, by rw [hj, e]⟩
/-- one more row -/
theorem row_add (R : SR P w s.heap a L es ep t) {x : Addr} {c : List Rat} (hx : RowAt s.heap c x) (hu : A.units + 2 < cLine) (hfew : L.length + 1 ≤ 4) {Q : Bool → Shared → Prop}
    (q : ∀ b h' L' es' ep' t', Heap.SameBut a s.heap h' → SR P w h' a L' es' ep' t' → (c ∈ L.map (·.2) → L' = L) → (c ∉ L.map (·.2) → L'.Perm ((x, c) :: L)) → Q b { s with heap := h' }) : wpAny (model P w) A (setAddHashed a (.ref x) (hz w c)) Q E s := by
  rcases R.ob with ⟨o, ho, hex, hd⟩
  unfold setAddHashed
  refine wpAny_holding ?_
  (rw [show (100000 : Nat) = 99999 + 1 from rfl, setAddHashedIn_succ])
  refine wpAny_bind (wpAny_setState_of ho hd R.fits ?_); dsimp only; refine wp_if_neg (by simp [byScan, Value.scannable]) ?_; try refine wpAny_bind (wpAny_pure ?_)
  refine wpAny_bind (row_search R hx hu (fun hm => ?_) fun K hm hK hb => ?_)
  · exact wpAny_pure (q false s.heap L es ep t (Heap.SameBut.refl a s.heap) R (fun _ => rfl) fun z => absurd hm z)
  dsimp only
  refine wpAny_bind (wpAny_setState_of ho hd R.fits ?_); dsimp only
  obtain ⟨q1, q2, q3, q4, q5, q6, _, _, q9⟩ := R.tab.put hK hb
  have hp1 : (t.put (way t.mask (hz w c) K)).1.plain = true := q6.trans R.pl
  generalize hpt : t.put (way t.mask (hz w c) K) = pt at q1 q3 q4 q5 q6 q9 hp1 ⊢
  obtain ⟨t1, p⟩ := pt
  dsimp only at q1 q3 q4 q5 q6 q9 hp1 ⊢
  subst q1
  first
    | (refine wpAny_bind ?_; refine wp_if_pos hp1 ?_; refine (row_own (n := 6) hx).2 _ _ _ ?_)
    | refine wp_if_pos hp1 (wpAny_bind ((row_own (n := 6) hx).2 _ _ _ ?_))
  simp only [if_true]
  generalize SetTable.below t.place (way t.mask (hz w c) K) = p at q2 q3 ⊢
  have pm := put_perm L p (x, c)
  have hlen : (L.take p ++ (x, c) :: L.drop p).length = L.length + 1 := pm.length_eq
  have hin : (SetTable.insertAt es p (hz w c, Value.ref x)).toList = ents w (L.take p ++ (x, c) :: L.drop p) := by
    rw [SetTable.toList_insertAt, R.en]
    unfold ents
    (rw [List.map_append, List.map_cons, List.map_take, List.map_drop])
  have hhs : (L.take p ++ (x, c) :: L.drop p).map (fun p => hz w p.2) = (L.map fun p => hz w p.2).take p ++ hz w c :: (L.map fun p => hz w p.2).drop p := by
    (rw [List.map_append, List.map_cons, List.map_take, List.map_drop])
  rw [← hhs] at q3
  have nd1 : ((L.take p ++ (x, c) :: L.drop p).map (·.2)).Nodup := (pm.map (·.2)).nodup_iff.mpr (List.nodup_cons.mpr ⟨hm, R.nd⟩)
  generalize L.take p ++ (x, c) :: L.drop p = L1 at pm hlen q3 nd1 hin
  have hes : (SetTable.insertAt es p (hz w c, Value.ref x)).size = L.length + 1 := by rw [← Array.length_toList, hin, ents_len, hlen]
  generalize SetTable.insertAt es p (hz w c, Value.ref x) = es1 at hin hes ⊢
  refine wpAny_bind (wpAny_storeSet_of ho hd ?_ (by rw [hes, sizeLine_eq]; omega)); have sb : Heap.SameBut a s.heap (s.heap.update a (Obj.putSet es1 t1)) := Heap.SameBut.update ..; have ho1 := store_at (es' := es1) (t' := t1) ho hd; generalize s.heap.update a (Obj.putSet es1 t1) = h1 at sb ho1 ⊢
  have rw1 : ∀ p ∈ L1, RowAt h1 p.2 p.1 := fun p hp => by
    rcases List.mem_cons.mp (pm.mem_iff.mp hp) with (e | hp)
    · rw [e]; exact row_beside hx ho hd sb
    · exact row_beside (R.rws p hp) ho hd sb
  have m1 : t1.mask = 7 := q4.trans R.m7
  have notfull : ¬ t1.tooFull = true := fun z => by
    unfold SetTable.tooFull at z
    rw [decide_eq_true_eq, q9, List.length_map, m1] at z
    omega
  first
    | refine wp_if_neg (by simp [notfull]) ?_
    | (refine wpAny_bind ?_; refine wp_if_neg (by simp [notfull]) ?_; refine wpAny_pure ?_)
  exact wpAny_pure (q true h1 L1 es1 (ep + 1) t1 sb ⟨⟨_, ho1, ⟨hex.1, hex.2.1, hex.2.2⟩, rfl⟩, hin, q3, nd1, rw1, hp1, by rw [q5]; exact R.ld, m1, by omega⟩ (fun z => absurd z hm) fun _ => pm)
end
end K10

set_option maxRecDepth 100000
set_option maxHeartbeats 4100000
namespace K10
open L2 PyProof.Rows PySem.Spec PySem
/-- what the set holds of the first i rows -/
structure Has0 (ks : SL) (i : Nat) (L : SL) : Prop where
  sub : ∀ p ∈ L, p ∈ ks.take i
  all : ∀ q ∈ ks.take i, q.2 ∈ L.map (·.2)
  len : L.length ≤ i
theorem Has0.next {ks L L' : SL} {i : Nat} {x : Addr × List Rat} (g : Has0 ks i L) (h : ks[i]? = some x) (c1 : x.2 ∈ L.map (·.2) → L' = L) (c2 : x.2 ∉ L.map (·.2) → L'.Perm (x :: L)) : Has0 ks (i + 1) L' := by
  have e := take_next h
  by_cases c : x.2 ∈ L.map (·.2)
  · rw [c1 c]
    refine ⟨fun p hp => e ▸ List.mem_append_left _ (g.sub p hp), fun p hp => ?_, Nat.le_succ_of_le g.len⟩
    rw [e] at hp
    rcases List.mem_append.mp hp with (z | z)
    · exact g.all p z
    · rw [List.mem_singleton.mp z]; exact c
  · have pm := c2 c
    refine ⟨fun p hp => ?_, fun p hp => ?_, by rw [pm.length_eq]; exact Nat.succ_le_succ g.len⟩
    · rw [e]
      rcases List.mem_cons.mp (pm.mem_iff.mp hp) with z | z
      · exact List.mem_append_right _ (List.mem_singleton.mpr z)
      · refine List.mem_append_left _ (g.sub p z)
    · rw [(pm.map (·.2)).mem_iff]
      rw [e] at hp
      rcases List.mem_append.mp hp with (z | z)
      · refine List.mem_cons_of_mem _ (g.all p z)
      · (rw [List.mem_singleton.mp z]; exact List.mem_cons_self)
theorem perm_unmap {α β : Type} [DecidableEq α] {f : α → β} : ∀ {vs : List β} {l : List α}, vs.Perm (l.map f) → ∃ l' : List α, l'.Perm l ∧ vs = l'.map f
  | [], l, h => by
    have e := h.symm.eq_nil
    exact ⟨[], by rw [List.map_eq_nil_iff.mp e], rfl⟩
  | v :: vs, l, h => by
    obtain ⟨x, hx, e⟩ := List.mem_map.mp (h.mem_iff.mp List.mem_cons_self)
    have p := List.perm_cons_erase hx
    have p2 := h.trans (p.map f)
    rw [List.map_cons, e] at p2
    obtain ⟨l', h1, h2⟩ := perm_unmap (List.Perm.cons_inv p2)
    exact ⟨x :: l', (h1.cons x).trans p.symm, by rw [h2, List.map_cons, e]⟩
section
variable {P : Program} {A : Around} {w : World} {E : Value → Shared → Prop} {s : Shared}
abbrev set0 (w : World) : SetTable := .fresh 0 0 (!w.params.followText "set-order")
abbrev newS (w : World) : Obj := { cls := .type "set", dict := none, data := .set #[] 0 (set0 w) }
theorem sr_new {h : Heap} {a : Addr} (ho : h.get? a = some (newS w)) : SR P w h a [] #[] 0 (set0 w) where
  ob := ⟨newS w, ho, ⟨rfl, rfl, rfl⟩, rfl⟩
  en := rfl
  tab := ⟨.nil, rfl, rfl, .inl rfl, fun _ z => (by cases z), fun _ _ _ z => (by simp at z)⟩
  nd := List.nodup_nil
  rws := fun p hp => nomatch hp
  pl := rfl
  ld := by
    change _ ∨ (!w.params.followText "set-order") = true; cases w.params.followText "set-order"
    · exact .inr rfl
    · exact .inl rfl
  m7 := rfl
  few := Nat.zero_le _
theorem SR.stays {h h' : Heap} {a : Addr} {L : SL} {es : Array (Int × Value)} {ep : Nat} {t : SetTable} (R : SR P w h a L es ep t) (k : ∀ o, h.get? a = some o → h'.get? a = some o) (kr : ∀ p ∈ L, RowAt h' p.2 p.1) : SR P w h' a L es ep t := by
  obtain ⟨o, ho, r⟩ := R.ob
  exact ⟨⟨o, k o ho, r⟩, R.en, R.tab, R.nd, kr, R.pl, R.ld, R.m7, R.few⟩
/-- set.update's way along the list -/
theorem rows_in {I : Addr} {fp wr : List Addr} {G : Array GenState → Array GenState → Prop} {n : Nat} {Pv : Nat → Value → Prop} {St : Nat → Shared → Prop} {R : Result → Shared → Prop} (W : WalksS P w A.in1 I fp wr G n Pv St) (S : Addr) (ns : S ∉ fp) (ks : SL)
    (hn : n = ks.length) (hf : ks.length ≤ 4) (hv : ∀ i v, Pv i v → ∃ p, ks[i]? = some p ∧ v = .ref p.1) (h0 : Heap) (hk : ∀ p ∈ ks, RowAt h0 p.2 p.1) (hS : h0.get? S = none) (hw : ∀ b ∈ wr, h0.get? b = none) (hu : A.in1.units + 2 < cLine) :
    ∀ (k i : Nat) (s : Shared), n - i = k → i ≤ n → St i s → (∀ b o, h0.get? b = some o → s.heap.get? b = some o) → (∃ L es ep t, SR P w s.heap S L es ep t ∧ Has0 ks i L) →
      (∀ s' L es ep t, Moved (S :: wr) G s s' → SR P w s'.heap S L es ep t → Has0 ks n L → (∀ b o, h0.get? b = some o → s'.heap.get? b = some o) → R (.ok (.ret .none)) s') → codeAny (model P w) A (.builtin "set.update.loop" ⟨[.ref S, .ref I], []⟩) R s := by
  have hSw : S ∉ wr := fun z => ns (W.sub _ z)
  have up : ∀ b ∈ wr, b ∈ S :: wr := fun b z => List.mem_cons_of_mem _ z
  have old : ∀ {s s' : Shared}, Moved wr G s s' → (∀ b o, h0.get? b = some o → s.heap.get? b = some o) → ∀ b o, h0.get? b = some o → s'.heap.get? b = some o := fun m kp b o e =>
    m.heap b o (fun z => by rw [hw b z] at e; cases e) (kp b o e)
  intro k
  induction k with
  | zero =>
    intro i s k0 hi hst kp ⟨L, es, ep, t, sr, g⟩ fin
    obtain rfl : i = n := by omega
    refine codeAny_builtin F.entry_set_update_loop ?_; rw [Around.under_plainId F.plain_set_update_loop _]
    change wpAny _ A.in1 (pyNext (.ref I) >>= _) _ _ s
    refine wpAny_bind (W.done s _ _ hst fun s' m => ?_)
    have kp' := old m kp
    change wpAny _ A.in1 (ret Value.none) _ _ s'
    exact wpAny_pure (fin s' L es ep t (m.mono up) (sr.stays (fun o e => m.heap S o hSw e) fun p hp => row_stays (hk p (List.mem_of_mem_take (g.sub p hp))) kp') g kp')
  | succ k ih =>
    intro i s k0 hi hst kp ⟨L, es, ep, t, sr, g⟩ fin
    have hlt : i < n := by omega
    refine codeAny_builtin F.entry_set_update_loop ?_; rw [Around.under_plainId F.plain_set_update_loop _]
    change wpAny _ A.in1 (pyNext (.ref I) >>= _) _ _ s
    refine wpAny_bind (W.item i s _ _ hlt hst fun v s' hp hst' m => ?_)
    obtain ⟨p, e, rfl⟩ := hv i v hp
    have kp' := old m kp
    have sr' : SR P w s'.heap S L es ep t := sr.stays (fun o z => m.heap S o hSw z) fun q hq => row_stays (hk q (List.mem_of_mem_take (g.sub q hq))) kp'
    have hx : RowAt s'.heap p.2 p.1 := row_stays (hk p (List.mem_of_getElem? e)) kp'
    change wpAny _ A.in1 (holding [Value.ref p.1] (setAdd S (.ref p.1)) >>= _) _ _ s'; refine wpAny_bind (wpAny_holding ?_)
    unfold setAdd
    refine wpAny_holding (wpAny_bind (row_hash hu hx fun nt => ?_))
    refine row_add (s := { s' with toks := s'.toks + nt }) sr' hx hu (by have := g.len; omega) fun b h' L' es' ep' t' sb sr2 c1 c2 => ?_
    have kp2 : ∀ b o, h0.get? b = some o → h'.get? b = some o := fun b o z => (sb.2 b (fun y => by rw [y, hS] at z; cases z)).trans (kp' b o z)
    refine wpAny_pure ⟨plainId_quiet F.plain_set_update_loop _, ih (i + 1) _ (by omega) hlt (W.frame _ s' _ _ hst' (Nat.le_add_right _ _) fun b hb o z => ?_) kp2 ⟨L', es', ep', t', sr2, g.next e c1 c2⟩ fun s'' L2 es2 ep2 t2 m2 sr3 g3 kp3 => ?_⟩
    · exact (sb.2 b fun y : b = S => ns (y ▸ hb)).trans z
    · refine fin s'' L2 es2 ep2 t2 (Moved.trans W.gtrans ((m.mono up).then_heap (Nat.le_add_right _ _) fun b o hb z => ?_) m2) sr3 g3 kp3
      exact (sb.2 b fun y : b = S => hb (y ▸ List.mem_cons_self)).trans z
end
end K10

set_option maxRecDepth 100000
set_option maxHeartbeats 4100000
namespace K10
open PySem PySem.Spec PyProof.Rows L2 PySem.W
section
variable {P : Program} {A : Around} {w : World} {E : Value → Shared → Prop} {s : Shared}
theorem has0_zero (ks : SL) : Has0 ks 0 [] := ⟨fun p hp => (by cases hp), fun p hp => (by cases hp), Nat.le_refl _⟩
/-- set(xs) of rows -/
theorem call_setR {l : Addr} {items : Array Value} (ks : SL) {Q : Value → Shared → Prop} (hh : A.handled = none) (hl : s.heap.IsList l items) (hit : items.toList = ks.map fun p => Value.ref p.1) (hk : ∀ p ∈ ks, RowAt s.heap p.2 p.1) (hf : ks.length ≤ 4) (hu : A.units + 8 < cLine)
    (q : ∀ (h' : Heap) (tk : Nat) L es ep t, SR P w h' s.heap.objs.size L es ep t → Has0 ks ks.length L → (∀ b o, s.heap.get? b = some o → h'.get? b = some o) → Q (.ref s.heap.objs.size) { s with heap := h', toks := tk }) : wpAny (model P w) A (call (.type "set") [.ref l]) Q E s := by
  have isz : items.size = ks.length := by rw [← Array.length_toList, hit, List.length_map]
  rcases F.called_set.mro with ⟨c, tl, hmro⟩
  have f1 := F.called_set.made
  have f2 := F.called_set.sub; refine wpAny_call (codeAny_of_tree ?_)
  change wpAny _ _ (callAny (.type "set") _) _ _ _; refine wpAny_pure ⟨Code.quiet_builtin _ (by decide +kernel), codeAny_builtin F.entry_type_call ?_⟩
  (rw [Around.under_plain (weight_type_call_type "set" [.ref l] []) rfl])
  have f3 := F.called_set.notType
  have f4 := F.called_set.canCreate
  have f5 := F.typeCall_set_1 (.ref l)
  repeat any_goals first | assumption | wp_step

  refine codeAny_mono (code_set_led1 (.ref l) (E := E) (Q₁ := fun z s₁ => z = .ref s.heap.objs.size ∧ s₁ = { s with heap := s.heap.push (newS w) }) ⟨rfl, rfl⟩) fun r s₁ hr => ?_
  cases r with
  | error e => exact hr
  | ok fl =>
    cases fl with
    | ret obj =>
      obtain ⟨rfl, rfl⟩ := hr
      have hS : (s.heap.push (newS w)).get? s.heap.objs.size = some (newS w) := Heap.get?_push_size _ rfl
      have hT : Shared.TypeIs { s with heap := s.heap.push (newS w) } (.ref s.heap.objs.size) "set" := ⟨_, hS, rfl⟩
      have f6 := F.called_set.init.lookup
      have f7 := F.called_set.init.bind (.ref s.heap.objs.size)
      repeat any_goals first | assumption | wp_step

      refine codeAny_mono (codeAny_call_builtin (R := wants (fun r s₂ => r = .none ∧ ∃ h' tk L es ep t, s₂ = { s with heap := h', toks := tk } ∧ SR P w h' s.heap.objs.size L es ep t ∧ Has0 ks ks.length L ∧ (∀ b o, s.heap.get? b = some o → h'.get? b = some o)) E)
        F.called_set.init.plain F.entry_set_init (check_set_init_1 hT ?_)) fun r₂ s₂ hr₂ => ?_
      · rcases hl with ⟨ol, hol, hcl, nl, hdl⟩
        obtain ⟨oc, od, oda, osl⟩ := ol
        simp only at hcl hdl
        subst hcl; subst hdl
        have hol' : (s.heap.push (newS w)).get? l = some { cls := .type "list", dict := od, data := .seq items nl, slots := osl } := Heap.get?_push_of_some _ hol
        have f8 := F.sub_list_set
        have f9 := F.sub_list_frozenset
        have f10 : (Value.type "list" == Value.type "dict") = false := by decide
        have hl1 : (s.heap.push (newS w)).IsList l items := ⟨_, hol', rfl, nl, rfl⟩; unfold Builtin.«set.__init__» noKeywords Builtin.Frozenset.updateFrom
        generalize hPI : pyIter = PI
        wp_walk
        subst hPI

        refine wpAny_pyIter_list hl1 ?_; refine wpAny_bind (wpAny_runValue ?_)
        have lS : l < s.heap.objs.size := Heap.lt_size hol; have hh3 : A.in1.in1.in1.handled = none := by simp [hh]
        have psz : (s.heap.push (newS w)).objs.size = s.heap.objs.size + 1 := Heap.size_push ..
        have neI : l ≠ (s.heap.push (newS w)).objs.size := by rw [psz]; exact Nat.ne_of_lt (Nat.lt_succ_of_lt lS)
        have nSf : s.heap.objs.size ∉ [(s.heap.push (newS w)).objs.size, l] := by
          rw [psz]; simp only [List.mem_cons, List.not_mem_nil, or_false, not_or]
          exact ⟨Nat.ne_of_lt (Nat.lt_succ_self _), Nat.ne_of_gt lS⟩
        have vals : ∀ (i : Nat) (v : Value), items[i]? = some v → ∃ p, ks[i]? = some p ∧ v = .ref p.1 := fun i v hv => by
          rw [← Array.getElem?_toList, hit, List.getElem?_map] at hv
          obtain ⟨p, h1, h2⟩ := Option.map_eq_some_iff.mp hv
          exact ⟨p, h1, h2.symm⟩
        have free : ∀ b, s.heap.objs.size ≤ b → s.heap.get? b = none := fun b hb => by
          cases z : s.heap.get? b with
          | none => rfl
          | some o => exact absurd (Heap.lt_size z) (Nat.not_lt.mpr hb)
        refine rows_in ((Walks.list hh3 _ l neI items).toS) s.heap.objs.size nSf ks isz hf vals s.heap hk (free _ (Nat.le_refl _)) (fun b hb => free b (by rw [List.mem_singleton.mp hb, psz]; exact Nat.le_succ _)) (by simp only [Around.in1_units]; omega) (items.size - 0) 0 _ (by omega) (Nat.zero_le _)
          ⟨⟨_, Heap.get?_push_size _ rfl, rfl, rfl⟩, (hl1.push _)⟩ (fun b o e => Heap.get?_push_of_some _ (Heap.get?_push_of_some _ e)) ⟨[], #[], 0, _, sr_new (Heap.get?_push_of_some _ hS), has0_zero ks⟩ ?_
        intro s' L es ep t hm sr g kp
        rcases s' with ⟨h', g2, d', tk', os'⟩; have eg : g2 = s.gens := hm.gens; have ed : d' = s.drawn := hm.drawn
        have eo : os' = s.os := hm.os
        subst eg; subst ed; subst eo
        show wpAny _ _ _ _ _ _
        refine wpAny_pure ?_
        change wpAny _ _ (ret Value.none) _ _ _
        rw [isz] at g
        exact wpAny_pure ⟨rfl, h', tk', L, es, ep, t, rfl, sr, g, kp⟩
      · cases r₂ with
        | error e => exact hr₂
        | ok fl₂ =>
          cases fl₂ with
          | ret r =>
            obtain ⟨rfl, h', tk, L, es, ep, t, rfl, sr, g, kp⟩ := hr₂
            repeat any_goals first | assumption | wp_step
            exact q _ _ _ _ _ _ sr g kp
          | _ => exact hr₂.elim
    | _ => exact hr.elim
theorem each_refs : ∀ L : SL, EachIs (fun (v : Value) (p : Addr × List Rat) => v = .ref p.1) (L.map fun p => Value.ref p.1) L
  | [] => .nil
  | p :: L => .cons rfl (each_refs L)
theorem refs_each : ∀ {vs : List Value} {L : SL}, EachIs (fun (v : Value) (p : Addr × List Rat) => v = .ref p.1) vs L → vs = L.map fun p => Value.ref p.1
  | _, _, .nil => rfl
  | _, _, .cons h t => by rw [h, refs_each t]; rfl
theorem each_rd {h : Heap} : ∀ {L : SL} {b : Addr}, (∀ p ∈ L, ∃ as, Reads h (.ref p.1) (row p.2) as) → EachIs (fun (v : Value) (p : Addr × List Rat) => ∃ as, Reads h v (row p.2) as ∧ b ∉ as) (L.map fun p => Value.ref p.1) L
  | [], _, _ => .nil
  | p :: L, b, k => by
    refine .cons ?_ (each_rd fun q hq => k q (List.mem_cons_of_mem _ hq))
    obtain ⟨as, r⟩ := k p List.mem_cons_self
    exact ⟨as, r, by rw [bare_row r]; exact List.not_mem_nil⟩
/-- sorted(the set) -/
theorem call_sortedR {a : Addr} {L : SL} {es : Array (Int × Value)} {ep : Nat} {t : SetTable} {Q : Value → Shared → Prop} (R : SR P w s.heap a L es ep t) (hh : A.handled = none) (hu : A.units + 8 < cLine) (hr : ∀ p ∈ L, ∃ as, Reads s.heap (.ref p.1) (row p.2) as) (hne : ∀ p ∈ L, p.2 ≠ [])
    (q : ∀ s' p (out : Array Value) (c : Nat) (L' : SL), (∀ b o, s.heap.get? b = some o → s'.heap.get? b = some o) → s'.gens = s.gens → s'.os = s.os → s.heap.objs.size ≤ p → s'.heap.get? p = some (seqObj "list" out c) → out.toList = L'.map (fun q => Value.ref q.1) → L'.Perm L → Q (.ref p) s') : wpAny (model P w) A (call (.builtin "sorted") [.ref a]) Q E s := by
  rcases R.ob with ⟨o, ho, hex, hd⟩
  have f0 := R.size
  have f1 := R.few; refine Calls.call_function_entry kind_sorted plain_sorted entry_sorted (args_sorted1 _) ?_
  unfold Builtin.«sorted»; refine wpAny_bind (m := checkCount "sorted" 1 1 _) (wpAny_pure ?_)
  refine wpAny_bind (collect_set (A := A.in1) hh ⟨o, ho, hex.1, hd⟩ R.fits (by unfold scanBound; omega) R.tab.ris R.ld fun s1 vs k1 hz g1 o1 pm => ?_)
  have e1 : es.toList.map (·.2) = L.map fun p => Value.ref p.1 := by rw [R.en, ents, List.map_map]; rfl
  rw [e1] at pm
  obtain ⟨L1, pL, rfl⟩ := perm_unmap pm
  have hl1 : L1.length ≤ 4 := by rw [pL.length_eq]; exact f1
  refine wpAny_bind (wpAny_newList ?_ (by rw [sizeLine_eq, List.length_map]; omega))
  have hoL : (s1.heap.push (seqObj "list" (L1.map fun p => Value.ref p.1).toArray 0)).get? s1.heap.objs.size = some (seqObj "list" (L1.map fun p => Value.ref p.1).toArray 0) := Heap.get?_push_size _ rfl
  have srt : AllAlike (L1.map fun p => row p.2) ∧ Sortable (L1.map fun p => row p.2) := by
    refine ⟨AllAlike.of fun b b' => alike_rows b.2 b'.2, .inl fun d hd => ?_⟩
    obtain ⟨p, hp, rfl⟩ := List.mem_map.mp hd
    cases e : p.2 with
    | nil => exact absurd e (hne p (pL.mem_iff.mp hp))
    | cons x r => exact ⟨fr x, r.map fr, rfl⟩
  refine wpAny_bind (wpAny_holding (list_sort_data (s := { s1 with heap := s1.heap.push (seqObj "list" (L1.map fun p => Value.ref p.1).toArray 0) }) (enc := fun p : Addr × List Rat => row p.2) hoL (each_refs L1) (each_rd fun p hp => ?_) srt.1 srt.2 (by rw [sizeLine_eq]; omega) (fun p hp => ?_) fun out h1 h2 => ?_))
  · obtain ⟨as, r⟩ := hr p (pL.mem_iff.mp hp)
    exact ⟨as, PyProof.Rows.Reads.keeps (fun b u e => Heap.get?_push_of_some _ (k1 b u e)) r⟩
  · have := depth_row p.2
    simp only [Around.in1_units]
    omega
  · obtain ⟨c, hc⟩ := sortedHeap_at (vs := L1.map fun p => Value.ref p.1) (out := out.toArray) hoL
    refine wpAny_pure ⟨_, rfl, q _ s1.heap.objs.size out.toArray c (L1.mergeSort (dataLe false fun p : Addr × List Rat => row p.2)) (fun b u e => ?_) g1 o1 hz hc (by simpa using refs_each h2) ((List.mergeSort_perm _ _).trans pL)⟩
    have e2 := k1 b u e
    have hlt := Heap.lt_size e2
    show (sortedHeap (s1.heap.push (seqObj "list" (L1.map fun p => Value.ref p.1).toArray 0)) s1.heap.objs.size (L1.map fun p => Value.ref p.1) out.toArray).get? b = some u
    (rw [sortedHeap_old (Nat.ne_of_lt hlt) (by rw [size_push']; exact Nat.lt_succ_of_lt hlt)])
    exact Heap.get?_push_of_some _ e2
end
/-! the rules -/
structure S0 (P : Program) (w : World) (h : Heap) (a : Addr) (L : SL) : Prop where
  ex : ∃ (es : Array (Int × Value)) (ep : Nat) (t : SetTable), (∃ o, h.get? a = some o ∧ o.ExactSet ∧ o.data = .set es ep t) ∧ es.toList = ents w L ∧ TabOk t (L.map fun p => hz w p.2) ∧ (L.map (·.2)).Nodup ∧ t.plain = true ∧ (w.params.followText "set-order" = true ∨ t.led = true) ∧ t.mask = 7 ∧ L.length ≤ 4
def SOr (P : Program) (w : World) (a : Addr) (L : SL) : HO := .ext fun h => S0 P w h a L
theorem S0.kept {P : Program} {w : World} {h h' : Heap} {a : Addr} {L : SL} (R : S0 P w h a L) (k : ∀ o, h.get? a = some o → h'.get? a = some o) : S0 P w h' a L := by
  obtain ⟨es, ep, t, ⟨o, ho, r⟩, z⟩ := R.ex
  exact ⟨es, ep, t, ⟨o, k o ho, r⟩, z⟩
theorem sor_new {P : Program} {w : World} {H : Hp} {h : Heap} {a : Addr} {L : SL} (R : S0 P w h a L) : ObjOk P w H h a (SOr P w a L) := by
  have ⟨_, _, _, ⟨o, ho, _⟩, _⟩ := R.ex
  exact ⟨R, ⟨o, ho⟩, fun h1 h2 p k => S0.kept p k⟩
theorem refs_vals : ∀ {ks : SL} {us : List Value}, Vals (ks.map fun p => V.ref p.1) us → us = ks.map fun p => Value.ref p.1
  | [], _, .nil => rfl
  | p :: ks, _, .cons r t => by cases r; rw [refs_vals t]; rfl
theorem vals_refs : ∀ ks : SL, Vals (ks.map fun p => V.ref p.1) (ks.map fun p => Value.ref p.1)
  | [] => .nil
  | p :: ks => .cons rfl (vals_refs ks)
section
variable {X : Cx}
theorem inv_rd {pins : List (Addr × Obj)} {σ : L2.St} {H : Hp} {s : Shared} {b : Addr} {c : List Rat} (I : Inv X pins σ H s) (h : Rp X.K H (.ref b) (row c)) : ∃ as, Reads s.heap (.ref b) (row c) as := Dp.reads I _ _ _ h.dp rfl
/-- set(xs), xs a list of rows -/
def rSetR (K : Fg) (SO : Addr → SL → HO) : List V → Hp → VK → Prop := fun xs H Q => ∃ (l : Addr) (ks : SL), xs = [V.ref l] ∧ SqL K H l (ks.map fun p => V.ref p.1) ∧ (∀ p ∈ ks, Rp K H (.ref p.1) (row p.2)) ∧ (∀ p ∈ ks, p.2 ≠ [] ∧ p.2.length ≤ 3) ∧ ks.length ≤ 4 ∧
  ∀ a L, H a = none → (∀ p ∈ L, p ∈ ks) → (∀ p ∈ ks, p.2 ∈ L.map (·.2)) → L.length ≤ ks.length → Q (.ref a) (upd H a (SO a L))
/-- sorted(set) -/
def rSortSet (K : Fg) (SO : Addr → SL → HO) : List V → Hp → VK → Prop := fun vs H Q => ∃ (a : Addr) (L : SL), vs = [V.ref a] ∧ H a = some (SO a L) ∧ (∀ p ∈ L, Rp K H (.ref p.1) (row p.2)) ∧ (∀ p ∈ L, p.2 ≠ [] ∧ p.2.length ≤ 3) ∧ L.length ≤ 4 ∧
  ∀ (L' : SL) (p : Addr), L'.Perm L → H p = none → Q (.ref p) (upd H p (.lst (L'.map fun q => V.ref q.1)))
theorem cr_setR (hc : X.calm = true) (hu : X.A.units + 64 < cLine) : CallR X (.type "set") (rSetR X.K (SOr X.prog X.w)) := by
  intro pins s σ H xs us Q I r h; obtain ⟨l, ks, rfl, hl, hk, _, hf, q⟩ := h
  rw [Vals.ref1 r]
  rcases I.list hl with ⟨its, rv, pl, hz⟩; have hn : H s.heap.objs.size = none := I.hok.fresh (Nat.le_refl _)
  refine call_setR (P := X.prog) (w := X.w) ks (I.ok.hd hc) pl.isList (by simpa using refs_vals rv) (fun p hp => ?_) hf (by omega) fun h' tk L es ep t R g k => ?_
  · obtain ⟨as, z⟩ := inv_rd I (hk p hp)
    exact nest_row z
  · exact ⟨.ref s.heap.objs.size, upd H s.heap.objs.size (SOr X.prog X.w s.heap.objs.size L), I.laid (t' := tk) k (Nat.le_refl _) (sor_new ⟨es, ep, t, R.ob, R.en, R.tab, R.nd, R.pl, R.ld, R.m7, R.few⟩), rfl, q _ L hn (fun p hp => List.mem_of_mem_take (g.sub p hp)) (fun p hp => g.all p (by rw [List.take_length]; exact hp)) g.len⟩
theorem cr_sortedR (hc : X.calm = true) (hu : X.A.units + 64 < cLine) : CallR X (.builtin "sorted") (rSortSet X.K (SOr X.prog X.w)) := by
  intro pins s σ H vs us Q I r h; obtain ⟨a, L, rfl, ha, hk, hne, hf, q⟩ := h
  have R0 : S0 X.prog X.w s.heap a L := (I.hok a _ ha).1
  obtain ⟨es, ep, t, u1, u2, u3, u4, u5, u6, u7, u8⟩ := R0.ex
  have rd := fun p hp => inv_rd I (hk p hp)
  have R : SR X.prog X.w s.heap a L es ep t := ⟨u1, u2, u3, u4, fun p hp => by
    obtain ⟨as, z⟩ := rd p hp
    exact nest_row z, u5, u6, u7, u8⟩
  rw [Vals.ref1 r]
  refine call_sortedR R (I.ok.hd hc) (by omega) rd (fun p hp => (hne p hp).1) fun s' p out c L' k g o hp hg hout pm => ?_
  have hlen : (L'.map fun q => V.ref q.1).length ≤ sizeLine := by rw [List.length_map, sizeLine_eq, pm.length_eq]; omega
  have hn : H p = none := I.hok.fresh hp; have J : Inv X pins σ (upd H p (.lst (L'.map fun q => V.ref q.1))) { s with heap := s'.heap, gens := s'.gens, drawn := s'.drawn, toks := s'.toks } :=
    I.call (ch := []) (Un.laid k hp hn) (I.hok.laid k hp ⟨hlen, out.toList, c, by rw [hout]; exact vals_refs L', hg⟩) (by rw [g]; exact I.bare) (fun _ z => nomatch z)
  have e : s' = { s with heap := s'.heap, gens := s'.gens, drawn := s'.drawn, toks := s'.toks } := by cases s'; cases s; cases o; rfl
  rw [e]
  exact ⟨.ref p, _, J, rfl, q L' p pm hn⟩
theorem set_rules (X : Cx) (hc : X.calm = true) (hu : X.A.units + 64 < cLine) : ∃ SO : Addr → SL → HO, CallR X (.type "set") (rSetR X.K SO) ∧ CallR X (.builtin "sorted") (rSortSet X.K SO) :=
  ⟨SOr X.prog X.w, cr_setR hc hu, cr_sortedR hc hu⟩
end
end K10

set_option maxRecDepth 100000
set_option maxHeartbeats 2100000
namespace K10
open L2 PyProof.Rows PySem.Spec PySem
theorem rp_refs {K : Fg} {H : Hp} : ∀ {xs : List V} {g : List (List Rat)}, RpAll K H xs (g.map row) → ∃ ks : SL, ks.map (fun p => V.ref p.1) = xs ∧ ks.map (·.2) = g ∧ ∀ p ∈ ks, Rp K H (.ref p.1) (row p.2)
  | _, [], .nil => ⟨[], rfl, rfl, fun _ h => nomatch h⟩
  | _, c :: g, .cons h r => by
    obtain ⟨ks, h1, h2, h3⟩ := rp_refs r
    obtain ⟨a, vs, e, _, _⟩ := Rp.tup_inv h
    subst e
    refine ⟨(a, c) :: ks, by rw [List.map_cons, h1], by rw [List.map_cons, h2], fun p hp => ?_⟩
    rcases List.mem_cons.mp hp with (e | e)
    · rw [e]; exact h
    · exact h3 p e
theorem rp_unrefs {K : Fg} {H : Hp} : ∀ {ks : SL}, (∀ p ∈ ks, Rp K H (.ref p.1) (row p.2)) → RpAll K H (ks.map fun p => V.ref p.1) ((ks.map (·.2)).map row)
  | [], _ => .nil
  | k :: ks, h => .cons (h k List.mem_cons_self) (rp_unrefs fun p hp => h p (List.mem_cons_of_mem _ hp))
section
variable {X : Cx} {B : Bs} {δ : Slots} {τ : Mem} {P : W → Mem → Prop} {e : Expr} {pos p q1 q2 q3 : Pos}
/-- what both steps give, from the list's rows -/
theorem sorted_set_val {K : Fg} {SO : Addr → SL → HO} {H1 : Hp} {Q : VK} {l : Addr} {xs : List V} {g : List (List Rat)} {U : List Addr} (hl : SqL K H1 l xs) (hr : RpAll K (hide U H1) xs (g.map row)) (hU : ∀ a ∈ U, H1 a ≠ none) (hc : ∀ c ∈ g, c ≠ [] ∧ c.length ≤ 3) (hf : g.length ≤ 4)
    (q : ∀ (q : Addr) (g' : List (List Rat)) (H' : Hp), Same H1 H' → (∀ c, c ∈ g' ↔ c ∈ g) → g'.length ≤ g.length → Rp K (hide U H') (.ref q) (.list (g'.map row)) → Q (.ref q) H') :
    rSetR K SO [.ref l] H1 (fun x H2 => rSortSet K SO [x] H2 Q) := by
  obtain ⟨ks, rfl, rfl, hk⟩ := rp_refs hr
  refine ⟨l, ks, rfl, hl, fun p hp => Rp.mono hide_le (hk p hp), fun p hp => hc _ (List.mem_map.mpr ⟨p, hp, rfl⟩), by rw [List.length_map] at hf; exact hf, fun a L ha h1 h2 h3 => ?_⟩
  have sm : Same H1 (upd H1 a (SO a L)) := same_new ha
  refine ⟨a, L, rfl, upd_same, fun p hp => Rp.mono (hide_le.trans sm) (hk p (h1 p hp)), fun p hp => hc _ (List.mem_map.mpr ⟨p, h1 p hp, rfl⟩), by rw [List.length_map] at hf; omega, fun L' b hp hb => ?_⟩
  have sm2 : Same (upd H1 a (SO a L)) (upd (upd H1 a (SO a L)) b (.lst (L'.map fun q => V.ref q.1))) := same_new hb
  have ex2 : ∀ c ∈ U, upd H1 a (SO a L) c ≠ none := fun c hcU z => by
    cases w0 : H1 c with
    | none => exact hU c hcU w0
    | some o => rw [sm c o w0] at z; cases z
  refine q b (L'.map (·.2)) _ (sm.trans sm2) (fun c => ?_) ?_ (rp_newL ex2 hb (rp_unrefs fun p hp' => Rp.mono (hide_same sm) (hk p (h1 p (hp.mem_iff.mp hp')))))
  · constructor
    · intro z
      obtain ⟨p, hp', rfl⟩ := List.mem_map.mp z
      exact List.mem_map.mpr ⟨p, h1 p (hp.mem_iff.mp hp'), rfl⟩
    · intro z
      obtain ⟨p, hp', rfl⟩ := List.mem_map.mp z
      obtain ⟨p2, h4, h5⟩ := List.mem_map.mp (h2 p hp')
      exact List.mem_map.mpr ⟨p2, hp.mem_iff.mpr h4, h5⟩
  · rw [List.length_map, List.length_map, hp.length_eq]; exact h3
theorem xe_sortedSet (hc : X.calm = true) (hu : X.A.units + 64 < cLine) (hm : X.mg "sorted" = none) (hm2 : X.mg "set" = none)
    (h : XE X B δ τ e fun w τ1 => ∃ g : List (List Rat), w = .d (.list (g.map row)) ∧ (∀ c ∈ g, c ≠ [] ∧ c.length ≤ 3) ∧ g.length ≤ 4 ∧ ∀ g' : List (List Rat), (∀ c, c ∈ g' ↔ c ∈ g) → g'.length ≤ g.length → P (.d (.list (g'.map row))) τ1)
    (hgl : Gl X "sorted" := by rfl) (hgl2 : Gl X "set" := by rfl)
    (he : starEach [.Call (.Name "set" q1) [e] [] q2] X.env = (false, eval (.Call (.Name "set" q1) [e] [] q2) X.env) :: starEach [] X.env := by rfl) (hpl : (backTo pos (starEach [] X.env)).any (·.1) = false := by rfl)
    (he2 : starEach [e] X.env = (false, eval e X.env) :: starEach [] X.env := by rfl) (hpl2 : (backTo q2 (starEach [] X.env)).any (·.1) = false := by rfl) : XE X B δ τ (.Call (.Name "sorted" p) [.Call (.Name "set" q1) [e] [] q2] [] pos) P := by
  obtain ⟨SO, r1, r2⟩ := set_rules X hc hu
  exact .of (pe_callB r2 hgl hm (by decide +kernel) (pa_cons (pe_callTy r1 hgl2 hm2 (by decide +kernel) (pa_cons h.pe pa_nil he2) (by decide) (by decide) he2 hpl2) pa_nil he) (by decide) (by decide) he hpl) fun σ H Q k q => ⟨k, fun v w τ1 H1 k1 s1 r1 pp => by
    obtain ⟨g, rfl, h1, h2, pp⟩ := pp
    obtain ⟨l, xs, rfl, q1, q2⟩ := Rp.lst_inv r1
    exact sorted_set_val (SqL.of (hide_le _ _ q1)) q2 k1.ex h1 h2 fun b g' H' sm c1 c2 rp => q _ (.d (.list (g'.map row))) τ1 H' (k1.pure sm) (s1.trans (hide_same sm)) rp (pp g' c1 c2)⟩
theorem xe_sortedSetM {x : Str} {i : Nat} {l : Addr} {g : List (List Rat)} (hc : X.calm = true) (hu : X.A.units + 64 < cLine) (hm : X.mg "sorted" = none) (hm2 : X.mg "set" = none) (hl : δ[i]? = some (some (.m l))) (hg : memAt τ l = some (g.map row)) (h1 : ∀ c ∈ g, c ≠ [] ∧ c.length ≤ 3) (h2 : g.length ≤ 4)
    (h : ∀ g' : List (List Rat), (∀ c, c ∈ g' ↔ c ∈ g) → g'.length ≤ g.length → P (.d (.list (g'.map row))) τ)
    (hN : X.N[i]? = some x := by rfl) (hv : Vis X.env.scope x := by first | exact Or.inl rfl | exact Or.inr (Or.inl rfl) | exact Or.inr (Or.inr rfl)) (hd : (x == ("__debug__" : Str)) = false := by decide) (hcd : (x == ("__classdict__" : Str)) = false := by decide)
    (hgl : Gl X "sorted" := by rfl) (hgl2 : Gl X "set" := by rfl)
    (he : starEach [.Call (.Name "set" q1) [.Name x q3] [] q2] X.env = (false, eval (.Call (.Name "set" q1) [.Name x q3] [] q2) X.env) :: starEach [] X.env := by rfl) (hpl : (backTo pos (starEach [] X.env)).any (·.1) = false := by rfl)
    (he2 : starEach [.Name x q3] X.env = (false, eval (.Name x q3) X.env) :: starEach [] X.env := by rfl) (hpl2 : (backTo q2 (starEach [] X.env)).any (·.1) = false := by rfl) : XE X B δ τ (.Call (.Name "sorted" p) [.Call (.Name "set" q1) [.Name x q3] [] q2] [] pos) P := by
  obtain ⟨SO, r1, r2⟩ := set_rules X hc hu
  exact .of (pe_callB r2 hgl hm (by decide +kernel) (pa_cons (pe_callTy r1 hgl2 hm2 (by decide +kernel) (pa_cons (pe_var hN hv hd hcd) pa_nil he2) (by decide) (by decide) he2 hpl2) pa_nil he) (by decide) (by decide) he hpl) fun σ H Q k q => by
    obtain ⟨v, u1, u2⟩ := k.sl i _ hl
    have u2' : v = .ref l := u2
    subst u2'
    obtain ⟨_, _, xs, q1, q2⟩ := k.mu _ (memAt_mem hg)
    exact ⟨_, u1, sorted_set_val (SqL.of q1) q2 k.ex h1 h2 fun b g' H' sm c1 c2 rp => q _ (.d (.list (g'.map row))) τ H' (k.pure sm) (hide_same sm) rp (h g' c1 c2)⟩
end
end K10

set_option maxRecDepth 100000
set_option maxHeartbeats 4100000
namespace K10
open L2 PyProof.Rows PySem.Spec PySem
local macro_rules | `(tactic| walk_at "xv") => `(tactic| first
  | refine xe_var (i := 0) rfl ?_ | refine xe_var (i := 1) rfl ?_ | refine xe_var (i := 2) rfl ?_ | refine xe_var (i := 3) rfl ?_
  | refine xe_var (i := 4) rfl ?_ | refine xe_var (i := 5) rfl ?_ | refine xe_var (i := 6) rfl ?_ | refine xe_var (i := 7) rfl ?_
  | refine xe_var (i := 8) rfl ?_ | refine xe_var (i := 9) rfl ?_ | refine xe_var (i := 10) rfl ?_ | refine xe_var (i := 11) rfl ?_
  | refine xe_var (i := 12) rfl ?_ | refine xe_var (i := 13) rfl ?_ | refine xe_var (i := 14) rfl ?_ | refine xe_var (i := 15) rfl ?_)
local macro_rules | `(tactic| walk_at "xset") => `(tactic| first
  | refine xs_set (i := 0) (by assumption) rfl (by first | exact .inl rfl | exact .inr rfl) ?_ | refine xs_set (i := 1) (by assumption) rfl (by first | exact .inl rfl | exact .inr rfl) ?_
  | refine xs_set (i := 2) (by assumption) rfl (by first | exact .inl rfl | exact .inr rfl) ?_ | refine xs_set (i := 3) (by assumption) rfl (by first | exact .inl rfl | exact .inr rfl) ?_
  | refine xs_set (i := 4) (by assumption) rfl (by first | exact .inl rfl | exact .inr rfl) ?_ | refine xs_set (i := 5) (by assumption) rfl (by first | exact .inl rfl | exact .inr rfl) ?_
  | refine xs_set (i := 6) (by assumption) rfl (by first | exact .inl rfl | exact .inr rfl) ?_ | refine xs_set (i := 7) (by assumption) rfl (by first | exact .inl rfl | exact .inr rfl) ?_
  | refine xs_set (i := 8) (by assumption) rfl (by first | exact .inl rfl | exact .inr rfl) ?_ | refine xs_set (i := 9) (by assumption) rfl (by first | exact .inl rfl | exact .inr rfl) ?_
  | refine xs_set (i := 10) (by assumption) rfl (by first | exact .inl rfl | exact .inr rfl) ?_ | refine xs_set (i := 11) (by assumption) rfl (by first | exact .inl rfl | exact .inr rfl) ?_)
local macro_rules | `(tactic| walk_at "xname") => `(tactic| first
  | refine xg_name (i := 0) (by assumption) rfl (by first | exact .inl rfl | exact .inr rfl) | refine xg_name (i := 1) (by assumption) rfl (by first | exact .inl rfl | exact .inr rfl)
  | refine xg_name (i := 2) (by assumption) rfl (by first | exact .inl rfl | exact .inr rfl) | refine xg_name (i := 3) (by assumption) rfl (by first | exact .inl rfl | exact .inr rfl)
  | refine xg_name (i := 4) (by assumption) rfl (by first | exact .inl rfl | exact .inr rfl) | refine xg_name (i := 5) (by assumption) rfl (by first | exact .inl rfl | exact .inr rfl)
  | refine xg_name (i := 6) (by assumption) rfl (by first | exact .inl rfl | exact .inr rfl) | refine xg_name (i := 7) (by assumption) rfl (by first | exact .inl rfl | exact .inr rfl)
  | refine xg_name (i := 8) (by assumption) rfl (by first | exact .inl rfl | exact .inr rfl) | refine xg_name (i := 9) (by assumption) rfl (by first | exact .inl rfl | exact .inr rfl)
  | refine xg_name (i := 10) (by assumption) rfl (by first | exact .inl rfl | exact .inr rfl) | refine xg_name (i := 11) (by assumption) rfl (by first | exact .inl rfl | exact .inr rfl))
local macro_rules | `(tactic| walk_at "xcall") => `(tactic|
  (refine xe_call (by assumption) (Room.mono (by assumption) (by decide)) ?_))
local macro_rules | `(tactic| walk_at "x1") => `(tactic| first
  | refine xa_nil ?_ | refine xa_cons ?_ | refine xe_int ?_ | refine xe_bl ?_ | refine xe_non ?_ | refine xe_str ?_
  | walk_at "xv"
  | refine xe_tup ?_ | refine xe_lst ?_
  | refine xe_sub ?_
  | refine xe_ixT ?_
  | refine xe_neg ?_
  | refine xss_nil ?_ | refine xss_cons ?_ | refine xs_ret ?_ | walk_at "xset" | refine xs_if ?_
  | refine r2_int0 ?_ | refine r2_bool0 ?_ | refine r2_eqI ?_ | refine r2_neI ?_ | refine r1_neg ?_ | refine r2_ix0 ?_ | refine r2_ix1 ?_ | refine r2_ix2 ?_
  | refine xt_lt ?_ | refine xt_le ?_ | refine xt_gt ?_ | refine xt_ge ?_
  | refine xe_lt ?_ | refine xe_le ?_ | refine xe_gt ?_ | refine xe_ge ?_
  | refine xt_not ?_
  | walk_at "xcall")
local macro_rules | `(tactic| walk_at "xp") => `(tactic| repeat (walk_at "x1"))
section
variable {X : Cx} {B : Bs} {δ : Slots} {τ : Mem} {D : DE} {b : Expr} {pos : Pos}
def sqE2 (X : Cx) (b : Expr) : TE := fun σ H Q => ∃ B δ τ1 R, XE X B δ τ1 b R ∧ rdE X.K B δ τ1 R σ H Q
theorem sqE2.ok : PE X b (sqE2 X b) := ⟨fun pins s σ H Q I h => by
  obtain ⟨B, δ, τ1, R, hx, r⟩ := h
  exact hx.pe.run pins s σ H Q I r⟩
/-- x, y = [], b: the list is to change -/
theorem xs_parL {i j : Nat} {x y : Str} {px py pt pl : Pos} {kt k2 pt2} (hc : X.calm = true) (hN : X.N.Nodup) (hi : X.N[i]? = some x) (hj : X.N[j]? = some y) (hij : i ≠ j)
    (hx : X.env.scope.names.lookup x = some .local) (hy : X.env.scope.names.lookup y = some .local)
    (hw : swappedStores [.Tuple [.Name x px, .Name y py] kt pt] (.Tuple [.List [] pl, b] k2 pt2) X.env = pure (some [x, y]))
    (h : ∀ p, p ∉ B.U → XE X { B with U := p :: B.U } δ ((p, []) :: τ) b fun v τ' => D.nx { B with U := p :: B.U } ((δ.set i (some (.m p))).set j (some v)) τ')
    (hs : swapsWithSole [.Tuple [.Name x px, .Name y py] kt pt] (.Tuple [.List [] pl, b] k2 pt2) pos.line X.env = pure false := by rfl)
    (he : starEach [.List [] pl, b] X.env = (false, eval (.List [] pl) X.env) :: starEach [b] X.env := by rfl) (he2 : starEach [b] X.env = (false, eval b X.env) :: starEach [] X.env := by rfl) :
    XS X B δ τ (.Assign [.Tuple [.Name x px, .Name y py] kt pt] (.Tuple [.List [] pl, b] k2 pt2) pos) D :=
  .of (ps_par hc hN hi hj hij hx hy (pa_cons (pe_lst pa_nil) (pa_cons sqE2.ok pa_nil he2) he) hw hs) fun E σ H r => ⟨Nat.zero_le _, fun p hp => by
    have o1 := r.ok.fresh (xs := []) (ys := []) hp .nil
    refine ⟨{ B with U := p :: B.U }, δ, _, _, h p (r.ok.new hp), o1, fun v w τ' H' o s rv q => ⟨_, _, rfl, ?_⟩⟩
    exact r.nx { B with U := p :: B.U } _ τ' _ H' ⟨rfl, rfl, fun a m => List.mem_cons_of_mem p m⟩ ((o.sets (v := .ref p) (w := .m p) rfl i).sets rv j) ((fresh_same hp).trans s) q⟩
end
section
variable {P : Program} {w : World} {K : Fg} {mg : Str → Option Value} {base : Heap} {f : Addr} {fd : FuncData}
theorem ok_set_of (F : Fun K "set_of" "set_of" s_set_of f fd) (mt : mg "tuple" = none) (ms : mg "sorted" = none) (mset : mg "set" = none) (k : Nat) : FnOk P w K mg base CX0 1 f fd p_set_of (spP K (R_set_of k)) := by
  refine fnP F sc_set_of (fun ds P h => ?_) (fun X B ds Pr hX hr h => ?_)
  · obtain ⟨g, rfl, _⟩ := h; rfl
  · obtain ⟨cdv, A, outer, s, H, E, rfl⟩ := hX
    have nd := sc_set_of.nd
    obtain ⟨g, rfl, hne, hf, hl, hk, hP⟩ := h
    refine xss_cons (xs_ret (xe_callTy call_tuple_of mt (by decide +kernel) (xa_cons (xe_sortedSet rfl hr.units ms mset ?_))))
    walk_at "xp"
    refine ⟨g, rfl, fun c hc => ⟨fun z => ?_, by rw [hl c hc]; omega⟩, hf, fun g' h1 h2 => ?_⟩
    · have := hl c hc
      rw [z] at this; cases this
    walk_at "xp"
    refine rn_tuple_of ?_
    exact ⟨_, rfl, hP g' h1 h2⟩
def q23 : Rat := ⟨2, 3, by decide, by decide⟩
def q13 : Rat := ⟨1, 3, by decide, by decide⟩
def leads : List Rat := [1, 2, q12, 3, q23, 1]
theorem lead_dm {q : Rat} (h : q ∈ leads) : Dm 6 3 q ∧ 0 < q := by
  have e : q = 1 ∨ q = 2 ∨ q = q12 ∨ q = 3 ∨ q = q23 ∨ q = 1 := by simpa [leads] using h
  rcases e with e | e | e | e | e | e <;> subst e
  · exact ⟨dm_lit 6 (by decide +kernel) (by decide +kernel) (by decide +kernel), by decide +kernel⟩
  · exact ⟨dm_lit 12 (by decide +kernel) (by decide +kernel) (by decide +kernel), by decide +kernel⟩
  · exact ⟨dm_lit 3 (by decide +kernel) (by decide +kernel) (by decide +kernel), by decide +kernel⟩
  · exact ⟨dm_lit 18 (by decide +kernel) (by decide +kernel) (by decide +kernel), by decide +kernel⟩
  · exact ⟨dm_lit 4 (by decide +kernel) (by decide +kernel) (by decide +kernel), by decide +kernel⟩
  · exact ⟨dm_lit 6 (by decide +kernel) (by decide +kernel) (by decide +kernel), by decide +kernel⟩
/-- a drawn gauge -/
structure Gd (k : Nat) (g : List (List Rat)) : Prop where
  ne : g ≠ []
  few : g.length ≤ 4
  cor : ∀ c ∈ g, ∃ a r, c = a :: r ∧ a ∈ leads ∧ r.length = k ∧ ∀ q ∈ r, q ∈ smalls
theorem Gd.dm {k : Nat} {g : List (List Rat)} (h : Gd k g) : ∀ c ∈ g, DmAll 6 3 c := fun c hc q hq => by
  obtain ⟨a, r, rfl, ha, _, hr⟩ := h.cor c hc
  rcases List.mem_cons.mp hq with (e | e)
  · rw [e]; exact (lead_dm ha).1
  · exact (small_dm (hr q e)).base 3
theorem Gd.gau {k : Nat} {g : List (List Rat)} (h : Gd k g) : Gau 5 k g := ⟨fun c hc q hq => (h.dm c hc q hq).sz (by decide) (by decide) (by decide), fun c hc => by
  obtain ⟨a, r, e, ha, hl, _⟩ := h.cor c hc
  exact ⟨a, r, e, (lead_dm ha).2, hl⟩, h.ne, h.few⟩
abbrev R_any_gauge : RT := fun ys ds P => ∃ (a b c : Int) (k : Nat), ys = tin a b c ∧ ds = [.int (k : Int)] ∧ k ≤ 2 ∧ 0 ≤ c ∧ c < 1000000 ∧ ∀ g ys', Gd k g → Tin b c 20 ys' → P (tab g) ys'
theorem ok_L_any_gauge (F : Fun K "_law_any_gauge" "_law_any_gauge" s_L_any_gauge f fd) (hT : Has P w K mg base CX0 1 "_law_take" p_L_take (spT K R_take)) (hO : Has P w K mg base CX0 2 "_law_of" p_L_of (spT K R_of)) (hR : Has P w K mg base CX0 4 "_law_row" p_L_row (spT K R_row))
    (mt : mg "tuple" = none) (ms : mg "sorted" = none) (mset : mg "set" = none) (mr : mg "range" = none) : FnOk P w K mg base CX0 5 f fd p_L_any_gauge (spT K R_any_gauge) := by
  refine fnT F sc_L_any_gauge (fun ys ds P h => ?_) (fun X B l ys ds Pr hX hr lU h => ?_)
  · obtain ⟨a, b, c, k, _, rfl, _⟩ := h; rfl
  · obtain ⟨cdv, A, outer, s, H, E, rfl⟩ := hX
    have nd := sc_L_any_gauge.nd
    obtain ⟨a, b, c, k, rfl, rfl, hk, c0, cl, hP⟩ := h
    refine xss_cons (xs_parL (i := 2) (j := 3) rfl nd rfl rfl (by decide) rfl rfl rfl (fun p hp => ?_))
    have npl : p ≠ l := fun z => hp (z ▸ lU)
    refine xe_callT hO (hr.mono (by decide)) ?_
    walk_at "xp"
    refine ⟨[.int _, .int _], rfl, Nat.le_of_ble_eq_true rfl, ?_⟩
    walk_at "xp"
    refine ⟨[.int _, .int _], rfl, Nat.le_of_ble_eq_true rfl, ?_⟩
    walk_at "xp"
    refine ⟨[.int _, .int _], rfl, Nat.le_of_ble_eq_true rfl, ?_⟩
    walk_at "xp"
    refine ⟨[.int _, .int _], rfl, Nat.le_of_ble_eq_true rfl, ?_⟩
    walk_at "xp"
    refine ⟨([1, 2, q12, 3] : List Rat).map fr, rfl, Nat.le_of_ble_eq_true rfl, ?_⟩
    walk_at "xp"
    refine ⟨l, [_], tin a b c, rfl, by rw [memAt_tail npl]; exact memAt_head, a, b, c, _, rfl, rfl, Nat.lt_of_sub_eq_succ rfl, Nat.le_of_ble_eq_true rfl, c0, by omega, fun x ys1 hx ht1 => ?_⟩
    obtain ⟨fst, hfst, rfl⟩ := List.mem_map.mp hx
    have hfl : fst ∈ leads := by
      have e : fst = 1 ∨ fst = 2 ∨ fst = q12 ∨ fst = 3 := by simpa using hfst
      rcases e with e | e | e | e <;> subst e <;> decide +kernel
    obtain ⟨a1, c1, rfl, d1, d2⟩ := ht1
    have em : memPut [(p, []), (l, tin a b c)] l (tin a1 b c1) = [(p, []), (l, tin a1 b c1)] := by rw [memPut_tail npl, memPut_head (by simp)]
    rw [em]
    refine xss_cons ?_
    walk_at "xset"
    refine xe_eqI (xe_callT hT (hr.mono (by decide)) ?_)
    walk_at "xp"
    refine ⟨l, [_], tin a1 b c1, rfl, by rw [memAt_tail npl]; exact memAt_head, a1, b, c1, 4, rfl, rfl, by decide, by decide, by omega, by omega, fun v ys2 hv ht2 => ?_⟩
    obtain ⟨a2, c2, rfl, d3, d4⟩ := ht2
    have em : memPut [(p, []), (l, tin a1 b c1)] l (tin a2 b c2) = [(p, []), (l, tin a2 b c2)] := by rw [memPut_tail npl, memPut_head (by simp)]
    rw [em]
    walk_at "xp"
    generalize decide ((v : Int) = 0) = al
    refine xs_for (is := [5]) PassesOwn.never rfl (xg_name (i := 5) nd rfl (.inl rfl)) (xi_range1 rfl mr (xa_cons (xe_add (xe_int (xe_callT hT (hr.mono (by decide)) ?_)))))
    walk_at "xp"
    refine ⟨l, [_], tin a2 b c2, rfl, by rw [memAt_tail npl]; exact memAt_head, a2, b, c2, 4, rfl, rfl, by decide, by decide, by omega, by omega, fun u ys3 hu ht3 => ?_⟩
    obtain ⟨a3, c3, rfl, d5, d6⟩ := ht3
    have em : memPut [(p, []), (l, tin a2 b c2)] l (tin a3 b c3) = [(p, []), (l, tin a3 b c3)] := by rw [memPut_tail npl, memPut_head (by simp)]
    rw [em]
    refine r2_int0 ?_
    walk_at "xp"
    refine ⟨1 + u, rfl, by omega, ?_⟩
    refine ⟨fun i δ τ => ∃ g ys', τ = [(p, g.map row), (l, ys')] ∧ g.length = i ∧ (∀ c ∈ g, ∃ a r, c = a :: r ∧ a ∈ leads ∧ r.length = k ∧ ∀ q ∈ r, q ∈ smalls) ∧ Tin b c3 (i * 3) ys' ∧
      ∃ z1 z2, δ = [some (.m l), some (.d (.int (k : Int))), some (.m p), some (.d (fr fst)), some (.d (.bool al)), z1, z2], ⟨[], _, rfl, rfl, (fun c h => nomatch h), ⟨a3, c3, rfl, Int.le_refl _, by omega⟩, _, _, rfl⟩, fun i d δ τ hd hI => ?_, fun δ τ hI => ?_⟩
    · obtain ⟨g, ys', rfl, hgl, hg, ⟨a4, c4, rfl, d7, d8⟩, z1, z2, rfl⟩ := hI
      have hi : i < 1 + u := by
        have := (List.getElem?_eq_some_iff.mp hd).1
        simpa using this
      show XSs _ _ _ _ _ _
      refine xss_cons ?_
      walk_at "xset"
      refine XE.mono (P := fun w' τ' => ∃ ld a5 c5, ld ∈ leads ∧ w' = .d (fr ld) ∧ τ' = [(p, g.map row), (l, tin a5 b c5)] ∧ c4 ≤ c5 ∧ c5 ≤ c4 + 1) ?_ ?_
      · refine xe_ifx (xt_val ?_)
        walk_at "xp"
        refine ⟨al, rfl, ite2 (fun e => ?_) (fun e => ?_)⟩
        · walk_at "xp"
          exact ⟨fst, a4, c4, hfl, rfl, rfl, Int.le_refl _, by omega⟩
        · refine xe_callT hO (hr.mono (by decide)) ?_
          walk_at "xp"
          refine ⟨[.int _, .int _], rfl, Nat.le_of_ble_eq_true rfl, ?_⟩
          walk_at "xp"
          refine ⟨[.int _, .int _], rfl, Nat.le_of_ble_eq_true rfl, ?_⟩
          walk_at "xp"
          refine ⟨[.int _, .int _], rfl, Nat.le_of_ble_eq_true rfl, ?_⟩
          walk_at "xp"
          refine ⟨[.int _, .int _], rfl, Nat.le_of_ble_eq_true rfl, ?_⟩
          walk_at "xp"
          refine ⟨[.int _, .int _], rfl, Nat.le_of_ble_eq_true rfl, ?_⟩
          walk_at "xp"
          refine ⟨[.int _, .int _], rfl, Nat.le_of_ble_eq_true rfl, ?_⟩
          walk_at "xp"
          refine ⟨leads.map fr, rfl, Nat.le_of_ble_eq_true rfl, ?_⟩
          walk_at "xp"
          refine ⟨l, [_], tin a4 b c4, rfl, by rw [memAt_tail npl]; exact memAt_head, a4, b, c4, _, rfl, rfl, Nat.lt_of_sub_eq_succ rfl, Nat.le_of_ble_eq_true rfl, by omega, by omega, fun x ys5 hx ht5 => ?_⟩
          obtain ⟨ld, hld, rfl⟩ := List.mem_map.mp hx
          obtain ⟨a5, c5, rfl, d9, d10⟩ := ht5
          exact ⟨ld, a5, c5, hld, rfl, by rw [memPut_tail npl, memPut_head (by simp)], d9, by omega⟩
      rintro _ _ ⟨ld, a5, c5, hld, rfl, rfl, d9, d10⟩
      refine xss_cons (xs_append (i := 2) (l := p) rfl ?_ (hm0 := by rw [memAt_head]; exact fun z => nomatch z))
      refine xe_catT ?_
      walk_at "xp"
      refine ⟨[_], rfl, Nat.le_of_ble_eq_true rfl, ?_⟩
      refine xe_callT hR (hr.mono (by decide)) ?_
      walk_at "xp"
      refine ⟨l, [_], tin a5 b c5, rfl, by rw [memAt_tail npl]; exact memAt_head, a5, b, c5, k, rfl, rfl, by omega, by omega, by omega, fun qs ys6 hq1 hq2 ht6 => ?_⟩
      obtain ⟨a6, c6, rfl, d11, d12⟩ := ht6
      have em : memPut [(p, g.map row), (l, tin a5 b c5)] l (tin a6 b c6) = [(p, g.map row), (l, tin a6 b c6)] := by rw [memPut_tail npl, memPut_head (by simp)]
      rw [em]
      refine r2_catT (xs := [fr ld]) (ys := qs.map fr) (by simp; omega) ?_
      refine ⟨row (ld :: qs), _, rfl, memAt_head, by rw [List.length_map]; omega, ?_⟩
      refine xss_nil ⟨rfl, g ++ [ld :: qs], tin a6 b c6, ?_, by rw [List.length_append, hgl]; rfl, fun c' hc' => ?_, ⟨a6, c6, rfl, by omega, by omega⟩, _, _, rfl⟩
      · rw [memPut_head (by simp [npl]), List.map_append]; rfl
      · rcases List.mem_append.mp hc' with z | z
        · exact hg c' z
        · have e : c' = ld :: qs := by simpa using z
          exact ⟨ld, qs, e, hld, hq1, hq2⟩
    · obtain ⟨g, ys', rfl, hgl, hg, ⟨a4, c4, rfl, d7, d8⟩, z1, z2, rfl⟩ := hI
      rw [List.length_map, List.length_range] at hgl d8
      have hf : g.length ≤ 4 := by omega
      refine xss_cons (xs_ret (xe_callTy call_tuple_of mt (by decide +kernel) (xa_cons (xe_sortedSetM (i := 2) (l := p) (g := g) rfl hr.units ms mset rfl memAt_head (fun c' hc' => ?_) hf fun g' h1 h2 => ?_))))
      · obtain ⟨a, r, rfl, _, hl, _⟩ := hg c' hc'
        exact ⟨(fun z => nomatch z), by rw [List.length_cons]; omega⟩
      walk_at "xp"
      refine rn_tuple_of ?_
      refine ⟨_, tin a4 b c4, rfl, by rw [memAt_tail npl]; exact memAt_head, hP g' _ ⟨?_, by omega, fun c' hc' => hg c' ((h1 c').mp hc')⟩ ⟨a4, c4, rfl, by omega, by omega⟩⟩
      exact ne_same h1 (fun z => by rw [z] at hgl; simp at hgl; omega)
end

end K10

set_option maxRecDepth 100000
set_option maxHeartbeats 4100000
set_option pp.maxSteps 1500
namespace K10
open L2 PyProof.Rows PySem.Spec PySem
local macro_rules | `(tactic| walk_at "xv") => `(tactic| first
  | refine xe_var (i := 0) rfl ?_ | refine xe_var (i := 1) rfl ?_ | refine xe_var (i := 2) rfl ?_ | refine xe_var (i := 3) rfl ?_
  | refine xe_var (i := 4) rfl ?_ | refine xe_var (i := 5) rfl ?_ | refine xe_var (i := 6) rfl ?_ | refine xe_var (i := 7) rfl ?_
  | refine xe_var (i := 8) rfl ?_ | refine xe_var (i := 9) rfl ?_ | refine xe_var (i := 10) rfl ?_ | refine xe_var (i := 11) rfl ?_
  | refine xe_var (i := 12) rfl ?_ | refine xe_var (i := 13) rfl ?_ | refine xe_var (i := 14) rfl ?_ | refine xe_var (i := 15) rfl ?_)
local macro_rules | `(tactic| walk_at "xset") => `(tactic| first
  | refine xs_set (i := 0) (by assumption) rfl (by first | exact .inl rfl | exact .inr rfl) ?_ | refine xs_set (i := 1) (by assumption) rfl (by first | exact .inl rfl | exact .inr rfl) ?_
  | refine xs_set (i := 2) (by assumption) rfl (by first | exact .inl rfl | exact .inr rfl) ?_ | refine xs_set (i := 3) (by assumption) rfl (by first | exact .inl rfl | exact .inr rfl) ?_
  | refine xs_set (i := 4) (by assumption) rfl (by first | exact .inl rfl | exact .inr rfl) ?_ | refine xs_set (i := 5) (by assumption) rfl (by first | exact .inl rfl | exact .inr rfl) ?_
  | refine xs_set (i := 6) (by assumption) rfl (by first | exact .inl rfl | exact .inr rfl) ?_ | refine xs_set (i := 7) (by assumption) rfl (by first | exact .inl rfl | exact .inr rfl) ?_
  | refine xs_set (i := 8) (by assumption) rfl (by first | exact .inl rfl | exact .inr rfl) ?_ | refine xs_set (i := 9) (by assumption) rfl (by first | exact .inl rfl | exact .inr rfl) ?_
  | refine xs_set (i := 10) (by assumption) rfl (by first | exact .inl rfl | exact .inr rfl) ?_ | refine xs_set (i := 11) (by assumption) rfl (by first | exact .inl rfl | exact .inr rfl) ?_)
local macro_rules | `(tactic| walk_at "xset'") => `(tactic| first | refine xs_set (i := 12) (by assumption) rfl (by first | exact .inl rfl | exact .inr rfl) ?_ | refine xs_set (i := 13) (by assumption) rfl (by first | exact .inl rfl | exact .inr rfl) ?_)
local macro_rules | `(tactic| walk_at "xname") => `(tactic| first
  | refine xg_name (i := 0) (by assumption) rfl (by first | exact .inl rfl | exact .inr rfl) | refine xg_name (i := 1) (by assumption) rfl (by first | exact .inl rfl | exact .inr rfl)
  | refine xg_name (i := 2) (by assumption) rfl (by first | exact .inl rfl | exact .inr rfl) | refine xg_name (i := 3) (by assumption) rfl (by first | exact .inl rfl | exact .inr rfl)
  | refine xg_name (i := 4) (by assumption) rfl (by first | exact .inl rfl | exact .inr rfl) | refine xg_name (i := 5) (by assumption) rfl (by first | exact .inl rfl | exact .inr rfl)
  | refine xg_name (i := 6) (by assumption) rfl (by first | exact .inl rfl | exact .inr rfl) | refine xg_name (i := 7) (by assumption) rfl (by first | exact .inl rfl | exact .inr rfl)
  | refine xg_name (i := 8) (by assumption) rfl (by first | exact .inl rfl | exact .inr rfl) | refine xg_name (i := 9) (by assumption) rfl (by first | exact .inl rfl | exact .inr rfl)
  | refine xg_name (i := 10) (by assumption) rfl (by first | exact .inl rfl | exact .inr rfl) | refine xg_name (i := 11) (by assumption) rfl (by first | exact .inl rfl | exact .inr rfl))
local macro_rules | `(tactic| walk_at "xcall") => `(tactic|
  (refine xe_call (by assumption) (Room.mono (by assumption) (by decide)) ?_))
local macro_rules | `(tactic| walk_at "x1") => `(tactic| first
  | refine xa_nil ?_ | refine xa_cons ?_ | refine xe_int ?_ | refine xe_bl ?_ | refine xe_non ?_ | refine xe_str ?_
  | walk_at "xv"
  | refine xe_tup ?_ | refine xe_lst ?_
  | refine xe_sub ?_
  | refine xe_ixT ?_
  | refine xe_neg ?_
  | refine xss_nil ?_ | refine xss_cons ?_ | refine xs_ret ?_ | walk_at "xset" | refine xs_if ?_
  | refine r2_int0 ?_ | refine r2_bool0 ?_ | refine r2_eqI ?_ | refine r2_neI ?_ | refine r1_neg ?_ | refine r2_ix0 ?_ | refine r2_ix1 ?_ | refine r2_ix2 ?_
  | refine xt_lt ?_ | refine xt_le ?_ | refine xt_gt ?_ | refine xt_ge ?_
  | refine xe_lt ?_ | refine xe_le ?_ | refine xe_gt ?_ | refine xe_ge ?_
  | refine xt_not ?_
  | walk_at "xcall")
local macro_rules | `(tactic| walk_at "xp") => `(tactic| repeat (walk_at "x1"))
/-- drawn marks: i laps -/
structure GM (k i : Nat) (ms : List Mk) : Prop where
  am : ∀ m ∈ ms, m.am ∈ smalls
  be : ∀ m ∈ ms, ∀ q ∈ m.be, q ∈ smalls
  ln : ∀ m ∈ ms, m.be.length = k
  sh : ∀ m ∈ ms, Dm (72 * 6 ^ i) (162 * 4 ^ i) m.sh
theorem pow4_pos (i : Nat) : 1 ≤ 4 ^ i := Nat.pow_pos (by decide)
theorem pow_le4 {i : Nat} (h : i ≤ 4) : 4 ^ i ≤ 256 ∧ 6 ^ i ≤ 1296 := ⟨Nat.pow_le_pow_right (by decide) h, Nat.pow_le_pow_right (by decide) h⟩
theorem pow_le3 {i : Nat} (h : i ≤ 3) : 4 ^ i ≤ 64 ∧ 6 ^ i ≤ 216 := ⟨Nat.pow_le_pow_right (by decide) h, Nat.pow_le_pow_right (by decide) h⟩
theorem mul_small {a b c d n : Nat} (h1 : a ≤ c) (h2 : b ≤ d) (h3 : c * d < n) : a * b < n := Nat.lt_of_le_of_lt (Nat.mul_le_mul h1 h2) h3
theorem GM.szsh {k i : Nat} {ms : List Mk} (h : GM k i ms) (hi : i ≤ 4) {m : Mk} (hm : m ∈ ms) : Sz 40 m.sh := by
  obtain ⟨h1, h2⟩ := pow_le4 hi
  refine (h.sh m hm).sz (Nat.mul_pos (by decide) (Nat.pow_pos (by decide))) (mul_small (c := 41472) (d := 93312) (by omega) (by omega) (by decide)) (Nat.lt_of_le_of_lt (m := 93312) (by omega) (by decide))
theorem small_sz {q : Rat} (h : q ∈ smalls) : Sz 4 q := (small_dm h).sz (by decide) (by decide) (by decide)
theorem GM.row_dm {k i : Nat} {ms : List Mk} (h : GM k i ms) {m : Mk} (hm : m ∈ ms) : DmAll 2 3 m.row := fun q hq => by
  rcases List.mem_cons.mp hq with (e | e)
  · rw [e]; exact small_dm (h.am m hm)
  · exact small_dm (h.be m hm q e)
theorem GM.row_sz {k i : Nat} {ms : List Mk} (h : GM k i ms) {m : Mk} (hm : m ∈ ms) : SzAll 4 m.row := fun q hq => (h.row_dm hm q hq).sz (by decide) (by decide) (by decide)
theorem base_eq (i : Nat) : 12 * (6 * 6 ^ i) = 72 * 6 ^ i := by omega
theorem base_eq6 (i : Nat) : 72 * 6 ^ (i + 1) = 72 * 6 ^ i * 6 := by rw [Nat.pow_succ]; omega
section
variable {k i : Nat} {g : List (List Rat)} {ms : List Mk} {r : List Rat}
theorem dear_drawn (hg : Gd k g) (hk : k ≤ 2) {x y : List Rat} (hx : DmAll 2 3 x) (hy : DmAll 2 3 y) : Dm 12 54 (dear g (apart x y)) := by
  have := dear_dm (l := 3) hg.dm (fun c hc => by
    obtain ⟨a, r, rfl, _, hl, _⟩ := hg.cor c hc
    rw [List.length_cons]; omega) (apart_dm hx hy) hg.ne
  exact this
theorem loM_dm (hg : Gd k g) (hk : k ≤ 2) (hm : GM k i ms) (hr : DmAll 2 3 r) {m : Mk} (h : m ∈ ms) : Dm (72 * 6 ^ i) (162 * 4 ^ i + 54) (loM g r m) := by
  have d := (dear_drawn hg hk (hm.row_dm h) hr).base (6 * 6 ^ i)
  rw [base_eq] at d
  exact (hm.sh m h).add d.neg
theorem hiM_dm (hg : Gd k g) (hk : k ≤ 2) (hm : GM k i ms) (hr : DmAll 2 3 r) {m : Mk} (h : m ∈ ms) : Dm (72 * 6 ^ i) (162 * 4 ^ i + 54) (hiM g r m) := by
  have d := (dear_drawn hg hk hr (hm.row_dm h)).base (6 * 6 ^ i)
  rw [base_eq] at d
  exact (hm.sh m h).add d
end
theorem mxO_all {Z : Rat → Prop} {o : Option Rat} {v : Rat} (h : ∀ q, o = some q → Z q) (hv : Z v) : ∀ q, mxO o v = some q → Z q := fun q e => by
  cases o with
  | none => cases e; exact hv
  | some u =>
    have e' := Option.some.inj e
    rw [← e']
    split
    · exact hv
    · exact h u rfl
theorem mnO_all {Z : Rat → Prop} {o : Option Rat} {v : Rat} (h : ∀ q, o = some q → Z q) (hv : Z v) : ∀ q, mnO o v = some q → Z q := fun q e => by
  cases o with
  | none => cases e; exact hv
  | some u =>
    have e' := Option.some.inj e
    rw [← e']
    split
    · exact hv
    · exact h u rfl
theorem fold_some (f : Mk → Rat) (op : Option Rat → Rat → Option Rat) (hop : ∀ o v, (op o v).isSome = true) : ∀ (ms : List Mk) (o : Option Rat), (ms ≠ [] ∨ o.isSome = true) → (ms.foldl (fun o m => op o (f m)) o).isSome = true
  | [], o, h => by
    rcases h with h | h
    · exact absurd rfl h
    · exact h
  | m :: ms, o, _ => fold_some f op hop ms _ (.inr (hop _ _))
theorem lows_some {g : List (List Rat)} {r : List Rat} {ms : List Mk} (h : ms ≠ []) : ∃ q, lows g r ms = some q := Option.isSome_iff_exists.mp (fold_some _ mxO (fun o v => by cases o <;> rfl) ms none (.inl h))
theorem highs_some {g : List (List Rat)} {r : List Rat} {ms : List Mk} (h : ms ≠ []) : ∃ q, highs g r ms = some q := Option.isSome_iff_exists.mp (fold_some _ mnO (fun o v => by cases o <;> rfl) ms none (.inl h))
def parts : List Rat := [0, 1, q12, q13]
theorem part_dm {q : Rat} (h : q ∈ parts) : Dm 6 1 q := by
  have e : q = 0 ∨ q = 1 ∨ q = q12 ∨ q = q13 := by simpa [parts] using h
  rcases e with e | e | e | e <;> subst e
  · exact dm_lit 0 (by decide +kernel) (by decide +kernel) (by decide +kernel)
  · exact dm_lit 6 (by decide +kernel) (by decide +kernel) (by decide +kernel)
  · exact dm_lit 3 (by decide +kernel) (by decide +kernel) (by decide +kernel)
  · exact dm_lit 2 (by decide +kernel) (by decide +kernel) (by decide +kernel)
abbrev R_fitting : RT := fun ys ds P => ∃ (a b c : Int) (k many : Nat) (g : List (List Rat)), ys = tin a b c ∧ ds = [tab g, .int (k : Int), .int (many : Int)] ∧ k ≤ 2 ∧ many ≤ 4 ∧ Gd k g ∧ 0 ≤ c ∧ c < 1000000 ∧ ∀ ms ys', ms.length = many → GM k 4 ms → Tin b c 20 ys' → P (mks ms) ys'
theorem GM.succ {k i : Nat} {ms : List Mk} (h : GM k i ms) : GM k (i + 1) ms := ⟨h.am, h.be, h.ln, fun m hm => by
  have := ((h.sh m hm).base 6).mono (M' := 162 * 4 ^ (i + 1)) (by rw [Nat.pow_succ]; omega)
  rwa [← base_eq6] at this⟩
theorem GM.up {k i : Nat} {ms : List Mk} (h : GM k i ms) : ∀ {j : Nat}, i ≤ j → GM k j ms := by
  intro j hj
  induction j with
  | zero => have : i = 0 := by omega
            rw [← this]; exact h
  | succ j ih =>
    by_cases c : i = j + 1
    · rw [← c]; exact h
    · exact (ih (by omega)).succ
section
variable {X : Cx} {B : Bs} {δ : Slots} {τ : Mem} {P : W → Mem → Prop} {pos p q1 : Pos}
/-- tuple(xs), xs a list that changes -/
theorem xe_tupleM {x : Str} {i : Nat} {l : Addr} {ys : List Dt} (hm : X.mg "tuple" = none) (hl : δ[i]? = some (some (.m l))) (hg : memAt τ l = some ys) (h : P (.d (.tuple ys)) τ)
    (hN : X.N[i]? = some x := by rfl) (hv : Vis X.env.scope x := by first | exact Or.inl rfl | exact Or.inr (Or.inl rfl) | exact Or.inr (Or.inr rfl)) (hgl : Gl X "tuple" := by rfl) (hd : (x == ("__debug__" : Str)) = false := by decide) (hcd : (x == ("__classdict__" : Str)) = false := by decide)
    (he : starEach [.Name x q1] X.env = (false, eval (.Name x q1) X.env) :: starEach [] X.env := by rfl) (hpl : (backTo pos (starEach [] X.env)).any (·.1) = false := by rfl) : XE X B δ τ (.Call (.Name "tuple" p) [.Name x q1] [] pos) P :=
  .of (pe_callTy call_tuple_of hgl hm (by decide +kernel) (pa_cons (pe_var hN hv hd hcd) pa_nil he) (by decide) (by decide) he hpl) fun σ H Q k q => by
    obtain ⟨v, h1, h2⟩ := k.sl i _ hl
    have h2' : v = .ref l := h2
    subst h2'
    obtain ⟨_, _, xs, q1, q2⟩ := k.mu _ (memAt_mem hg)
    exact ⟨_, h1, l, xs, rfl, .inl ⟨SqL.of q1, fun b hb => q _ (.d (.tuple ys)) τ _ (k.pure (same_new hb)) (hide_same (same_new hb)) (rp_newT k.ex hb q2) h⟩⟩
end
section
variable {P : Program} {w : World} {K : Fg} {mg : Str → Option Value} {base : Heap} {f : Addr} {fd : FuncData}
theorem ok_L_fitting_marks (F : Fun K "_law_fitting_marks" "_law_fitting_marks" s_L_fitting_marks f fd) (hSm : Has P w K mg base CX0 3 "_law_small" p_L_small (spT K R_small)) (hO : Has P w K mg base CX0 2 "_law_of" p_L_of (spT K R_of)) (hR : Has P w K mg base CX0 4 "_law_row" p_L_row (spT K R_row))
    (hD : Has P w K mg base CX0 5 "_law_dear" p_L_dear (spP K R_cost)) (hA : Has P w K mg base CX0 4 "_law_apart" p_L_apart (spP K R_apart)) (hM : Has P w K mg base CX0 1 "_law_mark_row" p_L_mark_row (spP K R_mark_row)) (hL : Has P w K mg base CX0 3 "_law_less_by" p_L_less_by (spP K R_less))
    (hS : Has P w K mg base CX0 3 "_law_sum" p_L_sum (spP K R_plus)) (hMu : Has P w K mg base CX0 3 "_law_mul" p_L_mul (spP K R_times)) (hU : Has P w K mg base CX0 1 "_law_under" p_L_under (spP K R_below)) (mt : mg "tuple" = none) (mr : mg "range" = none) : FnOk P w K mg base CX0 6 f fd p_L_fitting_marks (spT K R_fitting) := by
  refine fnT F sc_L_fitting_marks (fun ys ds P h => ?_) (fun X B l ys ds Pr hX hr lU h => ?_)
  · obtain ⟨a, b, c, k, many, g, _, rfl, _⟩ := h; rfl
  · obtain ⟨cdv, A, outer, s, H, E, rfl⟩ := hX
    have nd := sc_L_fitting_marks.nd
    obtain ⟨a, b, c, k, many, g, rfl, rfl, hk, hmany, hg, c0, cl, hP⟩ := h
    have hgz := hg.gau.szt
    have hgf := hg.few
    have kz : (k + 1 + 1) * (5 + 9 + 1) ≤ 3500 := Nat.le_trans (Nat.mul_le_mul_right _ (show k + 1 + 1 ≤ 4 by omega)) (by decide)
    refine xss_cons (xs_newl (i := 4) nd rfl (.inl rfl) (fun p hp => ?_))
    have npl : p ≠ l := fun z => hp (z ▸ lU)
    refine xss_cons (xs_for (is := [5]) PassesOwn.never rfl (xg_name (i := 5) nd rfl (.inl rfl)) (xi_range1 rfl mr ?_))
    walk_at "xp"
    refine ⟨many, rfl, by omega, fun i δ τ => ∃ ms ys', τ = [(p, ms.map Mk.d), (l, ys')] ∧ ms.length = i ∧ GM k i ms ∧ Tin b c (i * 4) ys' ∧
      ∃ z1 z2 z3 z4 z5 z6 z7 z8 z9, δ = [some (.m l), some (.d (tab g)), some (.d (.int (k : Int))), some (.d (.int (many : Int))), some (.m p), z1, z2, z3, z4, z5, z6, z7, z8, z9], ⟨[], _, rfl, rfl, ⟨(fun m h => nomatch h), (fun m h => nomatch h), (fun m h => nomatch h), (fun m h => nomatch h)⟩, ⟨a, c, rfl, Int.le_refl _, by omega⟩, _, _, _, _, _, _, _, _, _, rfl⟩, fun i d δ τ hd hI => ?_, fun δ τ hI => ?_⟩
    · obtain ⟨ms, ys', rfl, hml, hgm, ⟨a4, c4, rfl, d7, d8⟩, z1, z2, z3, z4, z5, z6, z7, z8, z9, rfl⟩ := hI
      have hi : i < many := by
        have := (List.getElem?_eq_some_iff.mp hd).1
        simpa using this
      obtain ⟨e4, e6⟩ := pow_le3 (show i ≤ 3 by omega)
      have e41 := pow4_pos i
      show XSs _ _ _ _ _ _
      refine xss_cons ?_
      walk_at "xset"
      refine xe_catT (xe_tup (xa_cons (xe_callT hSm (hr.mono (by decide)) ?_)))
      walk_at "xp"
      refine ⟨l, [], tin a4 b c4, rfl, by rw [memAt_tail npl]; exact memAt_head, a4, b, c4, rfl, rfl, by omega, by omega, fun am ys5 ham ht5 => ?_⟩
      obtain ⟨a5, c5, rfl, d9, d10⟩ := ht5
      have em : memPut [(p, ms.map Mk.d), (l, tin a4 b c4)] l (tin a5 b c5) = [(p, ms.map Mk.d), (l, tin a5 b c5)] := by rw [memPut_tail npl, memPut_head (by simp)]
      rw [em]
      walk_at "xp"
      refine ⟨[_], rfl, Nat.le_of_ble_eq_true rfl, ?_⟩
      refine xe_callT hR (hr.mono (by decide)) ?_
      walk_at "xp"
      refine ⟨l, [_], tin a5 b c5, rfl, by rw [memAt_tail npl]; exact memAt_head, a5, b, c5, k, rfl, rfl, by omega, by omega, by omega, fun be ys6 hbl hbe ht6 => ?_⟩
      obtain ⟨a6, c6, rfl, d11, d12⟩ := ht6
      have em : memPut [(p, ms.map Mk.d), (l, tin a5 b c5)] l (tin a6 b c6) = [(p, ms.map Mk.d), (l, tin a6 b c6)] := by rw [memPut_tail npl, memPut_head (by simp)]
      rw [em]
      refine r2_catT (xs := [fr am]) (ys := be.map fr) (by simp; omega) ?_
      have rdm : DmAll 2 3 (am :: be) := fun q hq => by
        rcases List.mem_cons.mp hq with (e | e)
        · rw [e]; exact small_dm ham
        · exact small_dm (hbe q e)
      have rsz : SzAll 4 (am :: be) := fun q hq => (rdm q hq).sz (by decide) (by decide) (by decide)
      refine xss_cons (xs_asg (is := [7] ++ ([8] ++ [])) (xg_tup (n := 2) rfl (xgs_cons (xg_name (i := 7) nd rfl (.inl rfl)) (xgs_cons (xg_name (i := 8) nd rfl (.inl rfl)) xgs_nil))) ?_)
      walk_at "xp"
      refine ⟨[_, _], rfl, Nat.le_of_ble_eq_true rfl, _, rfl, _, rfl, rfl, _, _, rfl, _, _, rfl, rfl, ?_⟩
      -- the inner loop
      refine xss_cons (xs_forM (i := 4) (l := p) (ys := ms.map Mk.d) (is := [9]) PassesOwn.never rfl (xg_name (i := 9) nd rfl (.inl rfl)) rfl memAt_head
        (fun j δ τ => τ = [(p, ms.map Mk.d), (l, tin a6 b c6)] ∧ (∀ q, lows g (am :: be) (ms.take j) = some q → Dm (72 * 6 ^ i) (162 * 4 ^ i + 54) q) ∧ (∀ q, highs g (am :: be) (ms.take j) = some q → Dm (72 * 6 ^ i) (162 * 4 ^ i + 54) q) ∧
          ∃ y1 y2 y3, δ = [some (.m l), some (.d (tab g)), some (.d (.int (k : Int))), some (.d (.int (many : Int))), some (.m p), some (.d d), some (.d (row (am :: be))), some (.d (od (lows g (am :: be) (ms.take j)))), some (.d (od (highs g (am :: be) (ms.take j)))), y1, y2, y3, z8, z9])
        ⟨rfl, (fun q e => by cases e), (fun q e => by cases e), _, _, _, rfl⟩ (fun j δ τ hJ => by rw [hJ.1]; exact memAt_head) (fun j d2 δ τ hd2 hJ => ?_) (fun δ τ hJ => ?_))
      · obtain ⟨rfl, sl, sh, y1, y2, y3, rfl⟩ := hJ
        obtain ⟨mk, hmk, rfl⟩ := map_get hd2
        have mm := List.mem_of_getElem? hmk
        have ln := hgm.ln mk mm
        have dl := loM_dm hg hk hgm rdm mm
        have dh := hiM_dm hg hk hgm rdm mm
        have sz40 : ∀ {q : Rat}, Dm (72 * 6 ^ i) (162 * 4 ^ i + 54) q → Sz 40 q := fun {q} h =>
          h.sz (Nat.mul_pos (by decide) (Nat.pow_pos (by decide))) (mul_small (c := 10530) (d := 15552) (by omega) (by omega) (by decide)) (Nat.lt_of_le_of_lt (m := 15552) (by omega) (by decide))
        show XSs _ _ _ _ _ _
        walk_at "xp"
        refine ⟨[_], rfl, mk, rfl, by omega, ?_⟩
        walk_at "xp"
        refine ⟨[_, _], rfl, 4, 4, _, _, rfl, by decide, by decide, by decide, rsz, hgm.row_sz mm, by rw [List.length_cons]; omega, by show mk.be.length + 1 ≤ 1000; omega, ?_⟩
        walk_at "xp"
        have sa2 := apart_sz rsz (hgm.row_sz mm)
        have la2 : (apart (am :: be) mk.row).length ≤ 3 := Nat.le_trans apart_len (by rw [List.length_cons]; omega)
        refine ⟨[_, _], rfl, 5, 9, k + 1, g, _, rfl, by decide, by decide, hgz, sa2, kz, by omega, hg.ne, by omega, by omega, ?_⟩
        walk_at "xp"
        have dd2 := (dear_drawn hg hk rdm (hgm.row_dm mm)).sz (n := 40) (by decide) (by decide) (by decide)
        refine ⟨[_, _], rfl, 40, 40, _, _, rfl, by decide, by decide, by decide, hgm.szsh (by omega) mm, dd2, ?_⟩
        have elo : mk.sh - dear g (apart mk.row (am :: be)) = loM g (am :: be) mk := by unfold loM; grind
        walk_at "xp"
        refine ⟨[_], rfl, mk, rfl, by omega, ?_⟩
        walk_at "xp"
        refine ⟨[_, _], rfl, 4, 4, _, _, rfl, by decide, by decide, by decide, hgm.row_sz mm, rsz, by show mk.be.length + 1 ≤ 1000; omega, by rw [List.length_cons]; omega, ?_⟩
        walk_at "xp"
        have sa := apart_sz (hgm.row_sz mm) rsz
        have la : (apart mk.row (am :: be)).length ≤ 3 := Nat.le_trans apart_len (by show mk.be.length + 1 ≤ 3; omega)
        refine ⟨[_, _], rfl, 5, 9, k + 1, g, _, rfl, by decide, by decide, hgz, sa, kz, by omega, hg.ne, by omega, by omega, ?_⟩
        walk_at "xp"
        have dd := (dear_drawn hg hk (hgm.row_dm mm) rdm).sz (n := 40) (by decide) (by decide) (by decide)
        refine ⟨[_, _], rfl, 40, 40, _, _, rfl, by decide, by decide, by decide, hgm.szsh (by omega) mm, dd, ?_⟩
        rw [elo]
        have el : lows g (am :: be) (ms.take (j + 1)) = mxO (lows g (am :: be) (ms.take j)) (loM g (am :: be) mk) := by rw [take_snoc hmk]; unfold lows; rw [List.foldl_append]; rfl
        have eh : highs g (am :: be) (ms.take (j + 1)) = mnO (highs g (am :: be) (ms.take j)) (hiM g (am :: be) mk) := by rw [take_snoc hmk]; unfold highs; rw [List.foldl_append]; rfl
        walk_at "xp"
        refine XE.mono (P := fun w' τ' => τ' = [(p, ms.map Mk.d), (l, tin a6 b c6)] ∧ w' = .d (od (highs g (am :: be) (ms.take (j + 1))))) ?_ ?_
        · refine xe_ifx (xt_w (xw_or (xt_isN ?_)))
          walk_at "xp"
          refine r2_isN ?_
          refine ⟨_, rfl, ?_⟩
          cases oh : highs g (am :: be) (ms.take j) with
          | none =>
            refine iteT (iteT ?_)
            walk_at "xp"
            rw [eh, oh]; exact ⟨rfl, rfl⟩
          | some u =>
            refine iteF ?_
            refine xw_or1 (xt_val ?_)
            walk_at "xp"
            refine ⟨[_, _], rfl, 40, 40, _, u, rfl, by decide, by decide, by decide, sz40 dh, sz40 (sh u oh), _, rfl, ite2 (fun e => ?_) (fun e => ?_)⟩
            · have ee : highs g (am :: be) (ms.take (j + 1)) = some (hiM g (am :: be) mk) := by rw [eh, oh]; show some (if _ then _ else _) = _; rw [if_pos (show hiM g (am :: be) mk < u from of_decide_eq_true e)]
              walk_at "xp"
              rw [ee]; exact ⟨rfl, rfl⟩
            · have ee : highs g (am :: be) (ms.take (j + 1)) = some u := by rw [eh, oh]; show some (if _ then _ else _) = _; rw [if_neg (show ¬ hiM g (am :: be) mk < u from fun z => e (decide_eq_true z))]
              walk_at "xp"
              rw [ee]; exact ⟨rfl, rfl⟩
        rintro _ _ ⟨rfl, rfl⟩
        walk_at "xp"
        refine XE.mono (P := fun w' τ' => τ' = [(p, ms.map Mk.d), (l, tin a6 b c6)] ∧ w' = .d (od (lows g (am :: be) (ms.take (j + 1))))) ?_ ?_
        · refine xe_ifx (xt_w (xw_or (xt_isN ?_)))
          walk_at "xp"
          refine r2_isN ?_
          refine ⟨_, rfl, ?_⟩
          cases ol : lows g (am :: be) (ms.take j) with
          | none =>
            refine iteT (iteT ?_)
            walk_at "xp"
            rw [el, ol]; exact ⟨rfl, rfl⟩
          | some u =>
            refine iteF ?_
            refine xw_or1 (xt_val ?_)
            walk_at "xp"
            refine ⟨[_, _], rfl, 40, 40, u, _, rfl, by decide, by decide, by decide, sz40 (sl u ol), sz40 dl, _, rfl, ite2 (fun e => ?_) (fun e => ?_)⟩
            · have ee : lows g (am :: be) (ms.take (j + 1)) = some (loM g (am :: be) mk) := by rw [el, ol]; show some (if _ then _ else _) = _; rw [if_pos (show u < loM g (am :: be) mk from of_decide_eq_true e)]
              walk_at "xp"
              rw [ee]; exact ⟨rfl, rfl⟩
            · have ee : lows g (am :: be) (ms.take (j + 1)) = some u := by rw [el, ol]; show some (if _ then _ else _) = _; rw [if_neg (show ¬ u < loM g (am :: be) mk from fun z => e (decide_eq_true z))]
              walk_at "xp"
              rw [ee]; exact ⟨rfl, rfl⟩
        rintro _ _ ⟨rfl, rfl⟩
        walk_at "xp"
        exact ⟨rfl, rfl, (by rw [el]; exact mxO_all sl dl), (by rw [eh]; exact mnO_all sh dh), _, _, _, rfl⟩
      · obtain ⟨rfl, sl, sh, y1, y2, y3, rfl⟩ := hJ
        rw [List.length_map, List.take_length] at sl sh ⊢
        -- what both ways lead to
        have tailW : ∀ (lo hi : Rat), Dm (72 * 6 ^ i) (162 * 4 ^ i + 54) lo → Dm (72 * 6 ^ i) (162 * 4 ^ i + 54) hi → ∀ (D : DE), (D.nx = fun B' δ3 τ3 => B' = { B with U := p :: B.U } ∧ ∃ ms ys', τ3 = [(p, ms.map Mk.d), (l, ys')] ∧ ms.length = i + 1 ∧ GM k (i + 1) ms ∧ Tin b c ((i + 1) * 4) ys' ∧
            ∃ z1 z2 z3 z4 z5 z6 z7 z8 z9, δ3 = [some (.m l), some (.d (tab g)), some (.d (.int (k : Int))), some (.d (.int (many : Int))), some (.m p), z1, z2, z3, z4, z5, z6, z7, z8, z9]) →
            ∀ x1 x2 x3, XSs (cx0 P w K mg base n_L_fitting_marks "_law_fitting_marks" s_L_fitting_marks f cdv A outer s H E) { B with U := p :: B.U }
              [some (.m l), some (.d (tab g)), some (.d (.int (k : Int))), some (.d (.int (many : Int))), some (.m p), some (.d d), some (.d (row (am :: be))), some (.d (fr lo)), some (.d (fr hi)), x1, x2, x3, z8, z9] [(p, ms.map Mk.d), (l, tin a6 b c6)]
              ((match (defBody s_L_fitting_marks).getD 1 (.Pass ⟨0, 0, 0, 0⟩) with
                | .For _ _ bd _ _ => bd
                | _ => []).drop 4) D := by
          intro lo hi dlo dhi D hD x1 x2 x3
          have sz40 : ∀ {q : Rat}, Dm (72 * 6 ^ i) (162 * 4 ^ i + 54) q → Sz 40 q := fun {q} h =>
            h.sz (Nat.mul_pos (by decide) (Nat.pow_pos (by decide))) (mul_small (c := 10530) (d := 15552) (by omega) (by omega) (by decide)) (Nat.lt_of_le_of_lt (m := 15552) (by omega) (by decide))
          refine xss_cons ?_
          walk_at "xset'"
          refine xe_callT hO (hr.mono (by decide)) ?_
          walk_at "xp"
          refine ⟨[.int _, .int _], rfl, Nat.le_of_ble_eq_true rfl, ?_⟩
          walk_at "xp"
          refine ⟨[.int _, .int _], rfl, Nat.le_of_ble_eq_true rfl, ?_⟩
          walk_at "xp"
          refine ⟨[.int _, .int _], rfl, Nat.le_of_ble_eq_true rfl, ?_⟩
          walk_at "xp"
          refine ⟨[.int _, .int _], rfl, Nat.le_of_ble_eq_true rfl, ?_⟩
          walk_at "xp"
          refine ⟨parts.map fr, rfl, Nat.le_of_ble_eq_true rfl, ?_⟩
          walk_at "xp"
          refine ⟨l, [_], tin a6 b c6, rfl, by rw [memAt_tail npl]; exact memAt_head, a6, b, c6, _, rfl, rfl, Nat.lt_of_sub_eq_succ rfl, Nat.le_of_ble_eq_true rfl, by omega, by omega, fun x ys7 hx ht7 => ?_⟩
          obtain ⟨pt, hpt, rfl⟩ := List.mem_map.mp hx
          obtain ⟨a7, c7, rfl, d13, d14⟩ := ht7
          have em : memPut [(p, ms.map Mk.d), (l, tin a6 b c6)] l (tin a7 b c7) = [(p, ms.map Mk.d), (l, tin a7 b c7)] := by rw [memPut_tail npl, memPut_head (by simp)]
          rw [em]
          have dpt := part_dm hpt
          have ddiff := dhi.sub dlo
          have dmul := dpt.mul ddiff
          have dlo6 := dlo.base 6
          rw [Nat.mul_comm 6 (72 * 6 ^ i)] at dmul
          have dsh := dlo6.add dmul
          rw [← base_eq6] at dsh
          have dsh' : Dm (72 * 6 ^ (i + 1)) (162 * 4 ^ (i + 1)) (lo + pt * (hi - lo)) := dsh.mono (by rw [Nat.pow_succ]; omega)
          refine xss_cons ?_
          walk_at "xset'"
          walk_at "xp"
          refine ⟨[_, _], rfl, 40, 40, _, _, rfl, by decide, by decide, by decide, sz40 dhi, sz40 dlo, ?_⟩
          walk_at "xp"
          refine ⟨[_, _], rfl, 4, 81, _, _, rfl, by decide, by decide, by decide, dpt.sz (by decide) (by decide) (by decide), (sz40 dhi).sub (sz40 dlo), ?_⟩
          walk_at "xp"
          refine ⟨[_, _], rfl, 40, 85, _, _, rfl, by decide, by decide, by decide, sz40 dlo, (dpt.sz (n := 4) (by decide) (by decide) (by decide)).mul ((sz40 dhi).sub (sz40 dlo)), ?_⟩
          refine xss_cons (xs_append (i := 4) (l := p) rfl ?_ (hm0 := by rw [memAt_head]; exact fun z => nomatch z))
          walk_at "xp"
          refine xe_cutT (n := 1) xo_int ?_
          walk_at "xp"
          refine ⟨_, rfl, ?_⟩
          walk_at "xp"
          refine ⟨[fr am, row be, fr (lo + pt * (hi - lo))], rfl, Nat.le_of_ble_eq_true rfl, ?_⟩
          refine ⟨_, _, rfl, memAt_head, by rw [List.length_map]; omega, ?_⟩
          refine xss_nil ?_
          rw [hD]
          refine ⟨rfl, ms ++ [⟨am, be, lo + pt * (hi - lo)⟩], tin a7 b c7, ?_, by rw [List.length_append, hml]; rfl, ?_, ⟨a7, c7, rfl, by omega, by omega⟩, _, _, _, _, _, _, _, _, _, rfl⟩
          · rw [memPut_head (by simp [npl]), List.map_append]; rfl
          · refine ⟨fun m hm => ?_, fun m hm => ?_, fun m hm => ?_, fun m hm => ?_⟩ <;> rcases List.mem_append.mp hm with z | z
            · exact hgm.am m z
            · have e : m = ⟨am, be, lo + pt * (hi - lo)⟩ := by simpa using z
              rw [e]; exact ham
            · exact hgm.be m z
            · have e : m = ⟨am, be, lo + pt * (hi - lo)⟩ := by simpa using z
              rw [e]; exact hbe
            · exact hgm.ln m z
            · have e : m = ⟨am, be, lo + pt * (hi - lo)⟩ := by simpa using z
              rw [e]; exact hbl
            · have := ((hgm.sh m z).base 6).mono (M' := 162 * 4 ^ (i + 1)) (by rw [Nat.pow_succ]; omega)
              rwa [← base_eq6] at this
            · have e : m = ⟨am, be, lo + pt * (hi - lo)⟩ := by simpa using z
              rw [e]; exact dsh'
        refine xss_cons (xs_if (xt_isN ?_))
        walk_at "xp"
        refine r2_isN ?_
        refine ⟨_, rfl, ?_⟩
        by_cases hne : ms = []
        · subst hne
          refine iteT ?_
          refine xss_cons (xs_asg (is := [7] ++ ([8] ++ [])) (xg_tup (n := 2) rfl (xgs_cons (xg_name (i := 7) nd rfl (.inl rfl)) (xgs_cons (xg_name (i := 8) nd rfl (.inl rfl)) xgs_nil))) ?_)
          walk_at "xp"
          refine ⟨[.int _, .int _], rfl, Nat.le_of_ble_eq_true rfl, ?_⟩
          walk_at "xp"
          refine ⟨[.int _, .int _], rfl, Nat.le_of_ble_eq_true rfl, ?_⟩
          walk_at "xp"
          refine ⟨[fr 0, fr 2], rfl, Nat.le_of_ble_eq_true rfl, _, rfl, _, rfl, rfl, _, _, rfl, _, _, rfl, rfl, ?_⟩
          refine xss_nil ?_
          have d2 : Dm 1 2 (2 : Rat) := dm_lit 2 (by decide +kernel) (by decide +kernel) (by decide +kernel)
          have d2' := (d2.base (72 * 6 ^ i)).mono (M' := 162 * 4 ^ i + 54) (by omega)
          rw [Nat.one_mul] at d2'
          exact tailW 0 2 (Dm.zero _ _) d2' _ rfl _ _ _
        · obtain ⟨lo, elo⟩ := lows_some (g := g) (r := am :: be) hne
          obtain ⟨hi, ehi⟩ := highs_some (g := g) (r := am :: be) hne
          rw [elo, ehi]
          refine iteF ?_
          refine xss_nil ?_
          exact tailW lo hi (sl lo elo) (sh hi ehi) _ rfl _ _ _
    · obtain ⟨ms, ys', rfl, hml, hgm, ⟨a4, c4, rfl, d7, d8⟩, z1, z2, z3, z4, z5, z6, z7, z8, z9, rfl⟩ := hI
      rw [List.length_map, List.length_range] at hml hgm d8
      refine xss_cons (xs_ret (xe_tupleM (i := 4) (l := p) mt rfl memAt_head ?_))
      refine ⟨_, tin a4 b c4, rfl, by rw [memAt_tail npl]; exact memAt_head, hP ms _ hml (hgm.up (show many ≤ 4 by omega)) ⟨a4, c4, rfl, by omega, by omega⟩⟩
end

end K10

set_option maxRecDepth 100000
set_option maxHeartbeats 4100000
set_option pp.maxSteps 1500
namespace K10
open L2 PyProof.Rows PySem.Spec PySem
local macro_rules | `(tactic| walk_at "xv") => `(tactic| first
  | refine xe_var (i := 0) rfl ?_ | refine xe_var (i := 1) rfl ?_ | refine xe_var (i := 2) rfl ?_ | refine xe_var (i := 3) rfl ?_
  | refine xe_var (i := 4) rfl ?_ | refine xe_var (i := 5) rfl ?_ | refine xe_var (i := 6) rfl ?_ | refine xe_var (i := 7) rfl ?_
  | refine xe_var (i := 8) rfl ?_ | refine xe_var (i := 9) rfl ?_ | refine xe_var (i := 10) rfl ?_ | refine xe_var (i := 11) rfl ?_
  | refine xe_var (i := 12) rfl ?_ | refine xe_var (i := 13) rfl ?_ | refine xe_var (i := 14) rfl ?_ | refine xe_var (i := 15) rfl ?_)
local macro_rules | `(tactic| walk_at "xset") => `(tactic| first
  | refine xs_set (i := 0) (by assumption) rfl (by first | exact .inl rfl | exact .inr rfl) ?_ | refine xs_set (i := 1) (by assumption) rfl (by first | exact .inl rfl | exact .inr rfl) ?_
  | refine xs_set (i := 2) (by assumption) rfl (by first | exact .inl rfl | exact .inr rfl) ?_ | refine xs_set (i := 3) (by assumption) rfl (by first | exact .inl rfl | exact .inr rfl) ?_
  | refine xs_set (i := 4) (by assumption) rfl (by first | exact .inl rfl | exact .inr rfl) ?_ | refine xs_set (i := 5) (by assumption) rfl (by first | exact .inl rfl | exact .inr rfl) ?_
  | refine xs_set (i := 6) (by assumption) rfl (by first | exact .inl rfl | exact .inr rfl) ?_ | refine xs_set (i := 7) (by assumption) rfl (by first | exact .inl rfl | exact .inr rfl) ?_
  | refine xs_set (i := 8) (by assumption) rfl (by first | exact .inl rfl | exact .inr rfl) ?_ | refine xs_set (i := 9) (by assumption) rfl (by first | exact .inl rfl | exact .inr rfl) ?_
  | refine xs_set (i := 10) (by assumption) rfl (by first | exact .inl rfl | exact .inr rfl) ?_ | refine xs_set (i := 11) (by assumption) rfl (by first | exact .inl rfl | exact .inr rfl) ?_)
local macro_rules | `(tactic| walk_at "xset'") => `(tactic| first | refine xs_set (i := 12) (by assumption) rfl (by first | exact .inl rfl | exact .inr rfl) ?_ | refine xs_set (i := 13) (by assumption) rfl (by first | exact .inl rfl | exact .inr rfl) ?_)
local macro_rules | `(tactic| walk_at "xname") => `(tactic| first
  | refine xg_name (i := 0) (by assumption) rfl (by first | exact .inl rfl | exact .inr rfl) | refine xg_name (i := 1) (by assumption) rfl (by first | exact .inl rfl | exact .inr rfl)
  | refine xg_name (i := 2) (by assumption) rfl (by first | exact .inl rfl | exact .inr rfl) | refine xg_name (i := 3) (by assumption) rfl (by first | exact .inl rfl | exact .inr rfl)
  | refine xg_name (i := 4) (by assumption) rfl (by first | exact .inl rfl | exact .inr rfl) | refine xg_name (i := 5) (by assumption) rfl (by first | exact .inl rfl | exact .inr rfl)
  | refine xg_name (i := 6) (by assumption) rfl (by first | exact .inl rfl | exact .inr rfl) | refine xg_name (i := 7) (by assumption) rfl (by first | exact .inl rfl | exact .inr rfl)
  | refine xg_name (i := 8) (by assumption) rfl (by first | exact .inl rfl | exact .inr rfl) | refine xg_name (i := 9) (by assumption) rfl (by first | exact .inl rfl | exact .inr rfl)
  | refine xg_name (i := 10) (by assumption) rfl (by first | exact .inl rfl | exact .inr rfl) | refine xg_name (i := 11) (by assumption) rfl (by first | exact .inl rfl | exact .inr rfl))
local macro_rules | `(tactic| walk_at "xcall") => `(tactic|
  (refine xe_call (by assumption) (Room.mono (by assumption) (by decide)) ?_))
local macro_rules | `(tactic| walk_at "x1") => `(tactic| first
  | refine xa_nil ?_ | refine xa_cons ?_ | refine xe_int ?_ | refine xe_bl ?_ | refine xe_non ?_ | refine xe_str ?_
  | walk_at "xv"
  | refine xe_tup ?_ | refine xe_lst ?_
  | refine xe_sub ?_
  | refine xe_ixT ?_
  | refine xe_neg ?_
  | refine xss_nil ?_ | refine xss_cons ?_ | refine xs_ret ?_ | walk_at "xset" | refine xs_if ?_
  | refine r2_int0 ?_ | refine r2_bool0 ?_ | refine r2_eqI ?_ | refine r2_neI ?_ | refine r1_neg ?_ | refine r2_ix0 ?_ | refine r2_ix1 ?_ | refine r2_ix2 ?_
  | refine xt_lt ?_ | refine xt_le ?_ | refine xt_gt ?_ | refine xt_ge ?_
  | refine xe_lt ?_ | refine xe_le ?_ | refine xe_gt ?_ | refine xe_ge ?_
  | refine xt_not ?_
  | walk_at "xcall")
local macro_rules | `(tactic| walk_at "xp") => `(tactic| repeat (walk_at "x1"))
/-! lists in the place of tuples -/
def lisD : Nat → Dt → Dt
  | 0, d => d
  | n + 1, .tuple xs => .list (xs.map (lisD n))
  | _ + 1, d => d
theorem tup_lis : ∀ {n : Nat} {x y : Dt}, Tup n x y → x = y → Tup n (lisD n x) x := by
  intro n x y h
  induction h with
  | int n i =>
    intro _
    cases n <;> exact .int _ _
  | @tup n xs ys hl hz hd ih =>
    intro e
    injection e with e
    subst e
    refine .lst (by simp) hz fun i a b h1 h2 => ?_
    obtain ⟨x, hx, rfl⟩ := map_get h1
    rw [hx] at h2
    cases h2
    exact ih i b b hx hx rfl
  | lst => intro e; cases e
theorem lis_tup : ∀ {n : Nat} {x y : Dt}, Tup n x y → x = y → True := fun _ _ => trivial
abbrev R_lists (n : Nat) : RR := fun ds P => ∃ x, ds = [x] ∧ Tup n x x ∧ P (lisD n x)
section
variable {P : Program} {w : World} {K : Fg} {mg : Str → Option Value} {base : Heap} {f : Addr} {fd : FuncData}
theorem ok_L_lists (F : Fun K "_law_lists" "_law_lists" s_L_lists f fd) (gF : mg "_law_lists" = some (.ref f)) (bF : Binds K fd p_L_lists []) (mi : mg "isinstance" = none) (ml : mg "list" = none) (mt : mg "tuple" = none) : ∀ n : Nat, FnOk P w K mg base CX0 (n + 1) f fd p_L_lists (spP K (R_lists n)) := by
  intro n
  induction n with
  | zero =>
    refine fnP F sc_L_lists (fun ds P h => ?_) (fun X B ds Pr hX hr h => ?_)
    · obtain ⟨x, rfl, _⟩ := h; rfl
    · obtain ⟨cdv, A, outer, s, H, E, rfl⟩ := hX
      have nd := sc_L_lists.nd
      obtain ⟨x, rfl, ht, hP⟩ := h
      cases ht with
      | int _ i =>
        walk_at "xp"
        refine xe_ifx (xt_val (xe_isi2 (T := "list") (S := "tuple") mi (by decide +kernel) ml (by decide +kernel) mt ?_))
        walk_at "xp"
        refine ⟨_, false, false, rfl, kb_il, kb_it, _, rfl, iteF ?_⟩
        walk_at "xp"
        exact ⟨_, rfl, hP⟩
  | succ n ih =>
    have hT : Has P w K mg base CX0 (n + 1) "_law_lists" p_L_lists (spP K (R_lists n)) := ⟨f, fd, gF, F.kp, bF, ih⟩
    refine fnP F sc_L_lists (fun ds P h => ?_) (fun X B ds Pr hX hr h => ?_)
    · obtain ⟨x, rfl, _⟩ := h; rfl
    · obtain ⟨cdv, A, outer, s, H, E, rfl⟩ := hX
      have nd := sc_L_lists.nd
      obtain ⟨x, rfl, ht, hP⟩ := h
      cases ht with
      | int _ i =>
        walk_at "xp"
        refine xe_ifx (xt_val (xe_isi2 (T := "list") (S := "tuple") mi (by decide +kernel) ml (by decide +kernel) mt ?_))
        walk_at "xp"
        refine ⟨_, false, false, rfl, kb_il, kb_it, _, rfl, iteF ?_⟩
        walk_at "xp"
        exact ⟨_, rfl, hP⟩
      | @tup _ xs _ hl hz hd =>
        walk_at "xp"
        refine xe_ifx (xt_val (xe_isi2 (T := "list") (S := "tuple") mi (by decide +kernel) ml (by decide +kernel) mt ?_))
        walk_at "xp"
        refine ⟨_, false, true, rfl, kb_tl, kb_tt, _, rfl, iteT ?_⟩
        refine xe_lc1 (j := 1) (own := [("_law_bit", 1)]) rfl nd (blkOk_by (N := n_L_lists) (sc := defScope s_L_lists) (by decide +kernel)) (by decide) rfl rfl (xi_tup ?_)
        walk_at "xp"
        refine ⟨_, rfl, xs.map (lisD n), by simp, by simpa using hz, fun i d z h1 h2 X' B' τ' hX' => ?_, ?_⟩
        · obtain ⟨s', H', C', cl', fp', rfl⟩ := hX'
          obtain ⟨x, hx, rfl⟩ := map_get h2
          rw [h1] at hx
          cases hx
          refine xe_call hT (hr.mono (Nat.le_refl _)) ?_
          walk_at "xp"
          exact ⟨[_], rfl, d, rfl, hd i d d h1 h1, rfl, rfl⟩
        · exact ⟨_, rfl, hP⟩
end
/-! the same, of the same kinds -/
inductive Okd : Nat → Dt → Prop
  | non (n : Nat) : Okd n .none
  | bool (n : Nat) (b : Bool) : Okd n (.bool b)
  | int (n : Nat) (i : Int) : Okd n (.int i)
  | str (n : Nat) (x : Str) : SeqAt.shaped (.str x) = true → Okd n (.str x)
  | tup {n : Nat} {xs : List Dt} : xs.length ≤ 10000 → (∀ x ∈ xs, Okd n x) → Okd (n + 1) (.tuple xs)
  | lst {n : Nat} {xs : List Dt} : xs.length ≤ 10000 → (∀ x ∈ xs, Okd n x) → Okd (n + 1) (.list xs)
abbrev R_same (n : Nat) : RR := fun ds P => ∃ x, ds = [x, x] ∧ Okd n x ∧ P (.bool true)
section
variable {K : Fg} {U : List Addr} {P : W → Prop}
theorem r2_eqB {i j : Bool} (h : P (.d (.bool (decide (i = j))))) : R2D K U rEq (.d (.bool i)) (.d (.bool j)) P := fun v u H _ rv ru Q q => by
  have e1 := Rp.bl_inv rv
  have e2 := Rp.bl_inv ru
  subst e1 e2
  refine ⟨rfl, ?_⟩
  have e : decide (V.bl i = V.bl j) = decide (i = j) := by rw [dec_bl]; cases i <;> cases j <;> rfl
  rw [e]
  exact q _ (.d (.bool _)) H (Same.refl _) (.bl _) h
theorem r2_neB {i j : Bool} (h : P (.d (.bool (!decide (i = j))))) : R2D K U rNe (.d (.bool i)) (.d (.bool j)) P := fun v u H _ rv ru Q q => by
  have e1 := Rp.bl_inv rv
  have e2 := Rp.bl_inv ru
  subst e1 e2
  refine ⟨rfl, ?_⟩
  have e : decide (V.bl i = V.bl j) = decide (i = j) := by rw [dec_bl]; cases i <;> cases j <;> rfl
  rw [e]
  exact q _ (.d (.bool _)) H (Same.refl _) (.bl _) h
end
theorem pairs_same (xs : List Dt) : pairsD xs xs = xs.map fun x => PyData.tuple [x, x] := by
  unfold pairsD
  induction xs with
  | nil => rfl
  | cons x xs ih => rw [List.zip_cons_cons, List.map_cons, ih]; rfl
theorem all_true (xs : List Dt) : (xs.map fun _ => true).all id = true := by
  induction xs with
  | nil => rfl
  | cons x xs ih => rw [List.map_cons, List.all_cons, ih]; rfl
theorem eqv_flat : ∀ {n : Nat} {x : Dt}, Okd n x → (∀ xs, x ≠ .tuple xs) → (∀ xs, x ≠ .list xs) → PyData.eqv x x = true ∧ SeqAt.shaped x = true
  | _, _, .non _, _, _ => ⟨rfl, rfl⟩
  | _, _, .bool _ b, _, _ => ⟨by cases b <;> rfl, by cases b <;> rfl⟩
  | _, _, .int _ i, _, _ => ⟨by simp [PyData.eqv], rfl⟩
  | _, _, .str _ x h, _, _ => ⟨by simp [PyData.eqv], h⟩
  | _, _, .tup _ _, h, _ => absurd rfl (h _)
  | _, _, .lst _ _, _, h => absurd rfl (h _)
section
variable {P : Program} {w : World} {K : Fg} {mg : Str → Option Value} {base : Heap} {f : Addr} {fd : FuncData}
theorem ok_L_same (F : Fun K "_law_same" "_law_same" s_L_same f fd) (gF : mg "_law_same" = some (.ref f)) (bF : Binds K fd p_L_same []) (mi : mg "isinstance" = none) (ml : mg "list" = none) (mt : mg "tuple" = none) (mb : mg "bool" = none) (mst : mg "str" = none) (mint : mg "int" = none)
    (mlen : mg "len" = none) (mall : mg "all" = none) (mz : mg "zip" = none) : ∀ n : Nat, FnOk P w K mg base CX0 (n + 1) f fd p_L_same (spP K (R_same n)) := by
  have flat : ∀ (n k : Nat) (X : Cx) (B : Bs) (Pr : Dt → Prop) (x : Dt), (∃ cdv A outer s H E, X = cx0 P w K mg base n_L_same "_law_same" s_L_same f cdv A outer s H E) → Room k X.A → Okd n x → (∀ xs, x ≠ .tuple xs) → (∀ xs, x ≠ .list xs) → Pr (.bool true) →
      XSs X B (slots0 n_L_same ([x, x].map W.d)) [] (defBody s_L_same) { nx := fun _ _ _ => Pr .none, rt := fun v _ => ∃ d, v = .d d ∧ Pr d } := by
    intro n k X B Pr x hX hr ho n1 n2 hP
    obtain ⟨cdv, A, outer, s, H, E, rfl⟩ := hX
    have nd := sc_L_same.nd
    obtain ⟨q1, q2⟩ := eqv_flat ho n1 n2
    refine xss_cons (xs_if (xt_val (xe_isi2 (T := "list") (S := "tuple") mi (by decide +kernel) ml (by decide +kernel) mt ?_)))
    walk_at "xp"
    cases ho with
    | non =>
      refine ⟨_, false, false, rfl, kb_nl, kb_nt, _, rfl, iteF (xss_nil ?_)⟩
      refine xss_cons (xs_if (xt_w (xw_or (xt_isN ?_))))
      walk_at "xp"
      refine r2_isN ?_
      refine ⟨_, rfl, iteT (iteT ?_)⟩
      refine xss_cons (xs_ret (xe_andV (xe_cmp (op_eqD hr.units) ?_)))
      walk_at "xp"
      refine r2_eqD q2 q2 ?_
      rw [q1]
      refine ⟨_, rfl, iteT ?_⟩
      refine xe_andV (xe_eqI (xe_isi1 (T := "bool") mi (by decide +kernel) mb ?_))
      walk_at "xp"
      refine ⟨_, false, rfl, kb_nb, ?_⟩
      refine xe_isi1 (T := "bool") mi (by decide +kernel) mb ?_
      walk_at "xp"
      refine ⟨_, false, rfl, kb_nb, ?_⟩
      refine r2_eqB ?_
      refine ⟨_, rfl, iteT ?_⟩
      refine xe_one (xe_eqI (xe_isN ?_))
      walk_at "xp"
      refine r2_isN (xe_isN ?_)
      walk_at "xp"
      refine r2_isN ?_
      refine r2_eqB ?_
      exact ⟨_, rfl, hP⟩
    | bool _ b =>
      refine ⟨_, false, false, rfl, kb_bl, kb_bt, _, rfl, iteF (xss_nil ?_)⟩
      refine xss_cons (xs_if (xt_w (xw_or (xt_isN ?_))))
      walk_at "xp"
      refine r2_isN ?_
      refine ⟨_, rfl, iteF (xw_or1 (xt_val (xe_isi2 (T := "bool") (S := "str") mi (by decide +kernel) mb (by decide +kernel) mst ?_)))⟩
      walk_at "xp"
      refine ⟨_, true, false, rfl, kb_bb, kb_bs, _, rfl, iteT ?_⟩
      refine xss_cons (xs_ret (xe_andV (xe_cmp (op_eqD hr.units) ?_)))
      walk_at "xp"
      refine r2_eqD q2 q2 ?_
      rw [q1]
      refine ⟨_, rfl, iteT ?_⟩
      refine xe_andV (xe_eqI (xe_isi1 (T := "bool") mi (by decide +kernel) mb ?_))
      walk_at "xp"
      refine ⟨_, true, rfl, kb_bb, ?_⟩
      refine xe_isi1 (T := "bool") mi (by decide +kernel) mb ?_
      walk_at "xp"
      refine ⟨_, true, rfl, kb_bb, ?_⟩
      refine r2_eqB ?_
      refine ⟨_, rfl, iteT ?_⟩
      refine xe_one (xe_eqI (xe_isN ?_))
      walk_at "xp"
      refine r2_isN (xe_isN ?_)
      walk_at "xp"
      refine r2_isN ?_
      refine r2_eqB ?_
      exact ⟨_, rfl, hP⟩
    | str _ z hz =>
      refine ⟨_, false, false, rfl, kb_sl, kb_st, _, rfl, iteF (xss_nil ?_)⟩
      refine xss_cons (xs_if (xt_w (xw_or (xt_isN ?_))))
      walk_at "xp"
      refine r2_isN ?_
      refine ⟨_, rfl, iteF (xw_or1 (xt_val (xe_isi2 (T := "bool") (S := "str") mi (by decide +kernel) mb (by decide +kernel) mst ?_)))⟩
      walk_at "xp"
      refine ⟨_, false, true, rfl, kb_sb, kb_ss, _, rfl, iteT ?_⟩
      refine xss_cons (xs_ret (xe_andV (xe_cmp (op_eqD hr.units) ?_)))
      walk_at "xp"
      refine r2_eqD q2 q2 ?_
      rw [q1]
      refine ⟨_, rfl, iteT ?_⟩
      refine xe_andV (xe_eqI (xe_isi1 (T := "bool") mi (by decide +kernel) mb ?_))
      walk_at "xp"
      refine ⟨_, false, rfl, kb_sb, ?_⟩
      refine xe_isi1 (T := "bool") mi (by decide +kernel) mb ?_
      walk_at "xp"
      refine ⟨_, false, rfl, kb_sb, ?_⟩
      refine r2_eqB ?_
      refine ⟨_, rfl, iteT ?_⟩
      refine xe_one (xe_eqI (xe_isN ?_))
      walk_at "xp"
      refine r2_isN (xe_isN ?_)
      walk_at "xp"
      refine r2_isN ?_
      refine r2_eqB ?_
      exact ⟨_, rfl, hP⟩
    | int _ i =>
      refine ⟨_, false, false, rfl, kb_il, kb_it, _, rfl, iteF (xss_nil ?_)⟩
      refine xss_cons (xs_if (xt_w (xw_or (xt_isN ?_))))
      walk_at "xp"
      refine r2_isN ?_
      refine ⟨_, rfl, iteF (xw_or1 (xt_val (xe_isi2 (T := "bool") (S := "str") mi (by decide +kernel) mb (by decide +kernel) mst ?_)))⟩
      walk_at "xp"
      refine ⟨_, false, false, rfl, kb_ib, kb_is, _, rfl, iteF (xss_nil ?_)⟩
      refine xss_cons (xs_ret (xe_andV (xe_isi1 (T := "int") mi (by decide +kernel) mint ?_)))
      walk_at "xp"
      refine ⟨_, true, rfl, kb_ii, ?_⟩
      refine ⟨_, rfl, iteT (xe_andV (xe_notV (xe_isi1 (T := "bool") mi (by decide +kernel) mb ?_)))⟩
      walk_at "xp"
      refine ⟨_, false, rfl, kb_ib, ?_⟩
      refine ⟨_, rfl, _, rfl, iteT (xe_one (xe_cmp (op_eqD hr.units) ?_))⟩
      walk_at "xp"
      refine r2_eqD q2 q2 ?_
      rw [q1]
      exact ⟨_, rfl, hP⟩
    | tup _ _ => exact absurd rfl (n1 _)
    | lst _ _ => exact absurd rfl (n2 _)
  intro n
  induction n with
  | zero =>
    refine fnP F sc_L_same (fun ds P h => ?_) (fun X B ds Pr hX hr h => ?_)
    · obtain ⟨x, rfl, _⟩ := h; rfl
    · obtain ⟨x, rfl, ho, hP⟩ := h
      exact flat 0 0 X B Pr x hX hr ho (fun xs e => by subst e; cases ho) (fun xs e => by subst e; cases ho) hP
  | succ n ih =>
    have hT : Has P w K mg base CX0 (n + 1) "_law_same" p_L_same (spP K (R_same n)) := ⟨f, fd, gF, F.kp, bF, ih⟩
    refine fnP F sc_L_same (fun ds P h => ?_) (fun X B ds Pr hX hr h => ?_)
    · obtain ⟨x, rfl, _⟩ := h; rfl
    · obtain ⟨x, rfl, ho, hP⟩ := h
      by_cases ct : ∃ xs, x = .tuple xs
      · obtain ⟨xs, rfl⟩ := ct
        obtain ⟨cdv, A, outer, s, H, E, rfl⟩ := hX
        have nd := sc_L_same.nd
        cases ho with
        | tup hz ha =>
        refine xss_cons (xs_if (xt_val (xe_isi2 (T := "list") (S := "tuple") mi (by decide +kernel) ml (by decide +kernel) mt ?_)))
        walk_at "xp"
        refine ⟨_, false, true, rfl, kb_tl, kb_tt, _, rfl, iteT ?_⟩
        refine xss_cons (xs_if (xt_w (xw_or (xt_neI (xe_isi1 (T := "list") mi (by decide +kernel) ml ?_)))))
        walk_at "xp"
        refine ⟨_, false, rfl, kb_tl, ?_⟩
        refine xe_isi1 (T := "list") mi (by decide +kernel) ml ?_
        walk_at "xp"
        refine ⟨_, false, rfl, kb_tl, ?_⟩
        refine r2_neB ?_
        refine ⟨_, rfl, iteF (xw_or1 (xt_neI (xe_isi1 (T := "tuple") mi (by decide +kernel) mt ?_)))⟩
        walk_at "xp"
        refine ⟨_, true, rfl, kb_tt, ?_⟩
        refine xe_isi1 (T := "tuple") mi (by decide +kernel) mt ?_
        walk_at "xp"
        refine ⟨_, true, rfl, kb_tt, ?_⟩
        refine r2_neB ?_
        refine ⟨_, rfl, iteF (xss_nil ?_)⟩
        refine xss_cons (xs_ret (xe_andV (xe_eqI (xe_callB call_len_seq mlen PySem.boot_len ?_))))
        walk_at "xp"
        refine rn_lenT ?_
        refine xe_callB call_len_seq mlen PySem.boot_len ?_
        walk_at "xp"
        refine rn_lenT ?_
        refine r2_eqI ?_
        refine ⟨_, rfl, ?_⟩
        rw [show decide ((xs.length : Int) = (xs.length : Int)) = true by simp]
        refine iteT (xe_one (xe_callB (cr_all rfl) mall (by decide +kernel) (xa_cons ?_)))
        refine xe_lc2 (j1 := 2) (j2 := 3) (own := [("_law_mine", 2), ("_law_its", 3)]) rfl nd (blkOk_by (N := n_L_same) (sc := defScope s_L_same) (by decide +kernel)) (by decide) (by decide) rfl rfl rfl rfl (xi_zipT mz ?_)
        walk_at "xp"
        refine ⟨_, _, rfl, (xs.map fun _ => true).map PyData.bool, ?_, ?_, fun i d z hd hz2 => ?_, ?_⟩
        · rw [pairs_same]; simp
        · simpa using hz
        · rw [pairs_same] at hd
          obtain ⟨y, hy, rfl⟩ := map_get hd
          obtain ⟨q, hq, rfl⟩ := map_get hz2
          obtain ⟨y', hy', rfl⟩ := map_get hq
          refine ⟨_, _, rfl, fun X' B' τ' hX' => ?_⟩
          obtain ⟨s', H', C', cl', fp', rfl⟩ := hX'
          refine xe_call hT (hr.mono (Nat.le_refl _)) ?_
          walk_at "xp"
          exact ⟨[_, _], rfl, y, rfl, ha y (List.mem_of_getElem? hy), rfl, rfl⟩
        · walk_at "xp"
          refine rn_all ?_
          rw [all_true]
          exact ⟨_, rfl, hP⟩
      · by_cases cl : ∃ xs, x = .list xs
        · obtain ⟨xs, rfl⟩ := cl
          obtain ⟨cdv, A, outer, s, H, E, rfl⟩ := hX
          have nd := sc_L_same.nd
          cases ho with
          | lst hz ha =>
          refine xss_cons (xs_if (xt_val (xe_isi2 (T := "list") (S := "tuple") mi (by decide +kernel) ml (by decide +kernel) mt ?_)))
          walk_at "xp"
          refine ⟨_, true, false, rfl, kb_ll, kb_lt, _, rfl, iteT ?_⟩
          refine xss_cons (xs_if (xt_w (xw_or (xt_neI (xe_isi1 (T := "list") mi (by decide +kernel) ml ?_)))))
          walk_at "xp"
          refine ⟨_, true, rfl, kb_ll, ?_⟩
          refine xe_isi1 (T := "list") mi (by decide +kernel) ml ?_
          walk_at "xp"
          refine ⟨_, true, rfl, kb_ll, ?_⟩
          refine r2_neB ?_
          refine ⟨_, rfl, iteF (xw_or1 (xt_neI (xe_isi1 (T := "tuple") mi (by decide +kernel) mt ?_)))⟩
          walk_at "xp"
          refine ⟨_, false, rfl, kb_lt, ?_⟩
          refine xe_isi1 (T := "tuple") mi (by decide +kernel) mt ?_
          walk_at "xp"
          refine ⟨_, false, rfl, kb_lt, ?_⟩
          refine r2_neB ?_
          refine ⟨_, rfl, iteF (xss_nil ?_)⟩
          refine xss_cons (xs_ret (xe_andV (xe_eqI (xe_callB call_len_seq mlen PySem.boot_len ?_))))
          walk_at "xp"
          refine rn_lenL ?_
          refine xe_callB call_len_seq mlen PySem.boot_len ?_
          walk_at "xp"
          refine rn_lenL ?_
          refine r2_eqI ?_
          refine ⟨_, rfl, ?_⟩
          rw [show decide ((xs.length : Int) = (xs.length : Int)) = true by simp]
          refine iteT (xe_one (xe_callB (cr_all rfl) mall (by decide +kernel) (xa_cons ?_)))
          refine xe_lc2 (j1 := 2) (j2 := 3) (own := [("_law_mine", 2), ("_law_its", 3)]) rfl nd (blkOk_by (N := n_L_same) (sc := defScope s_L_same) (by decide +kernel)) (by decide) (by decide) rfl rfl rfl rfl (xi_zipL mz ?_)
          walk_at "xp"
          refine ⟨_, _, rfl, (xs.map fun _ => true).map PyData.bool, ?_, ?_, fun i d z hd hz2 => ?_, ?_⟩
          · rw [pairs_same]; simp
          · simpa using hz
          · rw [pairs_same] at hd
            obtain ⟨y, hy, rfl⟩ := map_get hd
            obtain ⟨q, hq, rfl⟩ := map_get hz2
            obtain ⟨y', hy', rfl⟩ := map_get hq
            refine ⟨_, _, rfl, fun X' B' τ' hX' => ?_⟩
            obtain ⟨s', H', C', cl', fp', rfl⟩ := hX'
            refine xe_call hT (hr.mono (Nat.le_refl _)) ?_
            walk_at "xp"
            exact ⟨[_, _], rfl, y, rfl, ha y (List.mem_of_getElem? hy), rfl, rfl⟩
          · walk_at "xp"
            refine rn_all ?_
            rw [all_true]
            exact ⟨_, rfl, hP⟩
        · exact flat (n + 1) (n + 1) X B Pr x hX hr ho (fun xs e => ct ⟨xs, e⟩) (fun xs e => cl ⟨xs, e⟩) hP
/-! shapes -/
theorem ok_L_is_fr (F : Fun K "_law_is_fr" "_law_is_fr" s_L_is_fr f fd) (hG : Has P w K mg base CX0 1 "_law_gcd" p_L_gcd (spP K R_lgcd)) (mi : mg "isinstance" = none) (mt : mg "tuple" = none) (mint : mg "int" = none) (mb : mg "bool" = none) (mlen : mg "len" = none) (mall : mg "all" = none) :
    FnOk P w K mg base CX0 2 f fd p_L_is_fr (spP K fun ds P => ∃ q : Rat, ds = [fr q] ∧ P (.bool true)) := by
  refine fnP F sc_L_is_fr (fun ds P h => ?_) (fun X B ds Pr hX hr h => ?_)
  · obtain ⟨q, rfl, _⟩ := h; rfl
  · obtain ⟨cdv, A, outer, s, H, E, rfl⟩ := hX
    have nd := sc_L_is_fr.nd
    obtain ⟨q, rfl, hP⟩ := h
    refine xss_cons (xs_if (xt_w (xw_or (xt_not (xt_val (xe_isi1 (T := "tuple") mi (by decide +kernel) mt ?_))))))
    walk_at "xp"
    refine ⟨_, true, rfl, kb_tt, ?_⟩
    refine ⟨_, rfl, iteF (xw_or (xt_neI (xe_callB call_len_seq mlen PySem.boot_len ?_)))⟩
    walk_at "xp"
    refine rn_lenT ?_
    walk_at "xp"
    refine ⟨_, rfl, ?_⟩
    refine iteF (xw_or1 (xt_not (xt_val (xe_callB (cr_all rfl) mall (by decide +kernel) (xa_cons ?_)))))
    refine xe_lc1 (j := 1) (own := [("_law_bit", 1)]) rfl nd (blkOk_by (N := n_L_is_fr) (sc := defScope s_L_is_fr) (by decide +kernel)) (by decide) rfl rfl (xi_tup ?_)
    walk_at "xp"
    refine ⟨_, rfl, [true, true].map PyData.bool, rfl, Nat.le_of_ble_eq_true rfl, fun i d z hd hz X' B' τ' hX' => ?_, ?_⟩
    · obtain ⟨s', H', C', cl', fp', rfl⟩ := hX'
      have key : ∃ n : Int, d = .int n ∧ z = .bool true := by
        match i, hd, hz with
        | 0, hd, hz => cases hd; cases hz; exact ⟨_, rfl, rfl⟩
        | 1, hd, hz => cases hd; cases hz; exact ⟨_, rfl, rfl⟩
      obtain ⟨n, rfl, rfl⟩ := key
      refine xe_andV (xe_isi1 (T := "int") mi (by decide +kernel) mint ?_)
      walk_at "xp"
      refine ⟨_, true, rfl, kb_ii, ?_⟩
      refine ⟨_, rfl, iteT (xe_one (xe_notV (xe_isi1 (T := "bool") mi (by decide +kernel) mb ?_)))⟩
      walk_at "xp"
      refine ⟨_, false, rfl, kb_ib, ?_⟩
      exact ⟨_, rfl, rfl, rfl⟩
    walk_at "xp"
    refine rn_all ?_
    refine ⟨_, rfl, iteF (xss_nil ?_)⟩
    refine xss_cons (xs_ret (xe_andV (xe_ge ?_)))
    walk_at "xp"
    refine ⟨_, rfl, ?_⟩
    rw [show decide ((1 : Int) ≤ (q.den : Int)) = true from decide_eq_true (by have := den_pos' q; omega)]
    refine iteT (xe_one (xe_eqI ?_))
    walk_at "xp"
    refine ⟨[.int _, .int _], rfl, q.num, (q.den : Int), rfl, by have := den_pos' q; omega, ?_⟩
    walk_at "xp"
    have e : Nat.gcd q.num.natAbs ((q.den : Int)).natAbs = 1 := q.reduced
    rw [e]
    exact ⟨_, rfl, hP⟩
theorem ok_L_is_row (F : Fun K "_law_is_row" "_law_is_row" s_L_is_row f fd) (hG : Has P w K mg base CX0 2 "_law_is_fr" p_L_is_fr (spP K fun ds P => ∃ q : Rat, ds = [fr q] ∧ P (.bool true))) (mi : mg "isinstance" = none) (mt : mg "tuple" = none) (mlen : mg "len" = none) (mall : mg "all" = none) :
    FnOk P w K mg base CX0 3 f fd p_L_is_row (spP K fun ds P => ∃ qs : List Rat, ds = [row qs, .int (qs.length : Int)] ∧ qs.length ≤ 1000 ∧ P (.bool true)) := by
  refine fnP F sc_L_is_row (fun ds P h => ?_) (fun X B ds Pr hX hr h => ?_)
  · obtain ⟨q, rfl, _⟩ := h; rfl
  · obtain ⟨cdv, A, outer, s, H, E, rfl⟩ := hX
    have nd := sc_L_is_row.nd
    obtain ⟨qs, rfl, hl, hP⟩ := h
    refine xss_cons (xs_ret (xe_andV (xe_isi1 (T := "tuple") mi (by decide +kernel) mt ?_)))
    walk_at "xp"
    refine ⟨_, true, rfl, kb_tt, ?_⟩
    refine ⟨_, rfl, iteT (xe_andV (xe_eqI (xe_callB call_len_seq mlen PySem.boot_len ?_)))⟩
    walk_at "xp"
    refine rn_lenT ?_
    walk_at "xp"
    refine ⟨_, rfl, ?_⟩
    rw [show decide (((qs.map fr).length : Int) = (qs.length : Int)) = true by simp]
    refine iteT (xe_one (xe_callB (cr_all rfl) mall (by decide +kernel) (xa_cons ?_)))
    refine xe_lc1 (j := 2) (own := [("_law_bit", 2)]) rfl nd (blkOk_by (N := n_L_is_row) (sc := defScope s_L_is_row) (by decide +kernel)) (by decide) rfl rfl (xi_tup ?_)
    walk_at "xp"
    refine ⟨_, rfl, (qs.map fun _ => true).map PyData.bool, by simp, by simp; omega, fun i d z hd hz X' B' τ' hX' => ?_, ?_⟩
    · obtain ⟨s', H', C', cl', fp', rfl⟩ := hX'
      obtain ⟨q, hq, rfl⟩ := map_get hd
      obtain ⟨b, hb, rfl⟩ := map_get hz
      obtain ⟨q', _, rfl⟩ := map_get hb
      walk_at "xp"
      exact ⟨[_], rfl, q, rfl, rfl, rfl⟩
    walk_at "xp"
    refine rn_all ?_
    rw [show (qs.map fun _ => true).all id = true by simp]
    exact ⟨_, rfl, hP⟩
theorem ok_L_are_long (F : Fun K "_law_are_long" "_law_are_long" s_L_are_long f fd) (hG : Has P w K mg base CX0 3 "_law_is_row" p_L_is_row (spP K fun ds P => ∃ qs : List Rat, ds = [row qs, .int (qs.length : Int)] ∧ qs.length ≤ 1000 ∧ P (.bool true))) (mi : mg "isinstance" = none) (mt : mg "tuple" = none) (mlen : mg "len" = none) (mall : mg "all" = none) (mz : mg "zip" = none) :
    FnOk P w K mg base CX0 4 f fd p_L_are_long (spP K fun ds P => ∃ a b c d : Rat, ds = [.tuple [row [a, b], row [c, d]], .tuple [.int 2, .int 2]] ∧ P (.bool true)) := by
  refine fnP F sc_L_are_long (fun ds P h => ?_) (fun X B ds Pr hX hr h => ?_)
  · obtain ⟨a, b, c, d, rfl, _⟩ := h; rfl
  · obtain ⟨cdv, A, outer, s, H, E, rfl⟩ := hX
    have nd := sc_L_are_long.nd
    obtain ⟨a, b, c, d, rfl, hP⟩ := h
    refine xss_cons (xs_if (xt_w (xw_or (xt_not (xt_val (xe_isi1 (T := "tuple") mi (by decide +kernel) mt ?_))))))
    walk_at "xp"
    refine ⟨_, true, rfl, kb_tt, ?_⟩
    refine ⟨_, rfl, iteF (xw_or1 (xt_neI (xe_callB call_len_seq mlen PySem.boot_len ?_)))⟩
    walk_at "xp"
    refine rn_lenT ?_
    refine xe_callB call_len_seq mlen PySem.boot_len ?_
    walk_at "xp"
    refine rn_lenT ?_
    refine r2_neI ?_
    refine ⟨_, rfl, iteF (xss_nil ?_)⟩
    refine xss_cons (xs_ret (xe_callB (cr_all rfl) mall (by decide +kernel) (xa_cons ?_)))
    refine xe_lc2 (j1 := 2) (j2 := 3) (own := [("_law_bit", 2), ("_law_size_so", 3)]) rfl nd (blkOk_by (N := n_L_are_long) (sc := defScope s_L_are_long) (by decide +kernel)) (by decide) (by decide) rfl rfl rfl rfl (xi_zipT mz ?_)
    walk_at "xp"
    refine ⟨_, _, rfl, [true, true].map PyData.bool, rfl, Nat.le_of_ble_eq_true rfl, fun i e z hd hz => ?_, ?_⟩
    · have key : ∃ p q : Rat, e = .tuple [row [p, q], .int 2] ∧ z = .bool true := by
        match i, hd, hz with
        | 0, hd, hz => cases hd; cases hz; exact ⟨_, _, rfl, rfl⟩
        | 1, hd, hz => cases hd; cases hz; exact ⟨_, _, rfl, rfl⟩
      obtain ⟨p, q, rfl, rfl⟩ := key
      refine ⟨_, _, rfl, fun X' B' τ' hX' => ?_⟩
      obtain ⟨s', H', C', cl', fp', rfl⟩ := hX'
      walk_at "xp"
      exact ⟨[_, _], rfl, [p, q], rfl, Nat.le_of_ble_eq_true rfl, rfl, rfl⟩
    walk_at "xp"
    refine rn_all ?_
    exact ⟨_, rfl, hP⟩
end

end K10

set_option maxHeartbeats 2100000
namespace K10
/-! the mathematics of fitting marks -/
theorem fold_add (a : Rat) : ∀ qs : List Rat, qs.foldl (· + ·) a = a + qs.foldl (· + ·) 0 := by
  intro qs
  induction qs generalizing a with
  | nil => show a = a + 0; grind
  | cons x qs ih =>
    show qs.foldl (· + ·) (a + x) = a + qs.foldl (· + ·) (0 + x)
    rw [ih (a + x), ih (0 + x)]; grind
theorem qsum_cons (x : Rat) (qs : List Rat) : qsum (x :: qs) = x + qsum qs := by
  show qs.foldl (· + ·) (0 + x) = x + qs.foldl (· + ·) 0
  rw [fold_add]; grind
theorem dot_nil (ys : List Rat) : dot [] ys = 0 := by cases ys <;> rfl
theorem dot_nil2 (xs : List Rat) : dot xs [] = 0 := by cases xs <;> rfl
theorem dot_cons (x y : Rat) (xs ys : List Rat) : dot (x :: xs) (y :: ys) = x * y + dot xs ys := by
  show qsum (x * y :: _) = _
  rw [qsum_cons]; rfl
theorem apart_cons (x y : Rat) (xs ys : List Rat) : apart (x :: xs) (y :: ys) = (x - y) :: apart xs ys := rfl
theorem dot_tri : ∀ (c x y z : List Rat), x.length = y.length → y.length = z.length → dot c (apart x z) = dot c (apart x y) + dot c (apart y z)
  | c, [], [], [], _, _ => by
    show dot c [] = dot c [] + dot c []
    rw [dot_nil2]; grind
  | [], _ :: _, _ :: _, _ :: _, _, _ => by rw [dot_nil, dot_nil, dot_nil]; grind
  | a :: c, p :: x, q :: y, r :: z, h1, h2 => by
    rw [apart_cons, apart_cons, apart_cons, dot_cons, dot_cons, dot_cons, dot_tri c x y z (by simpa using h1) (by simpa using h2)]; grind
  | _, [], _ :: _, _, h, _ => by simp at h
  | _, _ :: _, [], _, h, _ => by simp at h
  | _, _, [], _ :: _, _, h => by simp at h
  | _, _, _ :: _, [], _, h => by simp at h
theorem dot_self (c x : List Rat) : dot c (apart x x) = 0 := by
  have := dot_tri c x x x rfl rfl
  grind
theorem dot_rev (c x y : List Rat) (h : x.length = y.length) : dot c (apart y x) = -dot c (apart x y) := by
  have h1 := dot_tri c x y x h h.symm
  have h2 := dot_self c x
  grind
theorem dear_tri {g : List (List Rat)} {x y z : List Rat} (hne : g ≠ []) (h1 : x.length = y.length) (h2 : y.length = z.length) : dear g (apart x z) ≤ dear g (apart x y) + dear g (apart y z) := by
  obtain ⟨c, hc, e⟩ := dear_mem (r := apart x z) hne
  rw [e, dot_tri c x y z h1 h2]
  have := dear_ge (r := apart x y) hc
  have := dear_ge (r := apart y z) hc
  grind
theorem dear_self {g : List (List Rat)} {x : List Rat} (hne : g ≠ []) : dear g (apart x x) = 0 := by
  obtain ⟨c, hc, e⟩ := dear_mem (r := apart x x) hne
  rw [e, dot_self]
theorem nlt_dear {g : List (List Rat)} {r : List Rat} {u v : Rat} (hne : g ≠ []) : ¬ (u + dear g r < v) ↔ ∃ c ∈ g, v ≤ u + dot c r := by
  constructor
  · intro h
    obtain ⟨c, hc, e⟩ := dear_mem (r := r) hne
    exact ⟨c, hc, by rw [← e]; exact Rat.not_lt.mp h⟩
  · rintro ⟨c, hc, h⟩ z
    have := dear_ge (r := r) hc
    grind
theorem dot_scale (a : Rat) : ∀ (r y : List Rat), dot (r.map fun p => -(p / a)) y = -(dot r y / a)
  | [], y => by rw [List.map_nil, dot_nil]; grind
  | p :: r, [] => by rw [dot_nil2, dot_nil2]; grind
  | p :: r, q :: y => by
    rw [List.map_cons, dot_cons, dot_cons, dot_scale a r y, Rat.div_def, Rat.div_def, Rat.div_def]; grind
theorem turn_le {a D x y : Rat} (ha : 0 < a) : x ≤ a * y + D ↔ -y ≤ 1 / a * (-x) + D / a := by
  have e : (1 / a * (-x) + D / a) * a = D - x := by
    rw [Rat.div_def, Rat.div_def]
    have : a⁻¹ * a = 1 := Rat.inv_mul_cancel a (by intro z; rw [z] at ha; exact Rat.lt_irrefl ha)
    grind
  constructor
  · intro h
    have h1 : -y * a ≤ (1 / a * (-x) + D / a) * a := by rw [e]; grind
    exact Rat.le_of_mul_le_mul_right h1 ha
  · intro h
    have h1 := Rat.mul_le_mul_of_nonneg_right h (Rat.le_of_lt ha)
    rw [e] at h1; grind
theorem fit_turn {k : Nat} {g : List (List Rat)} {ms : List Mk} (hne : g ≠ []) (hg : ∀ c ∈ g, ∃ a r, c = a :: r ∧ 0 < a ∧ r.length = k) (hl : ∀ m ∈ ms, m.be.length = k) : Fit (turns g) (ms.map Mk.swap) ↔ Fit g ms := by
  have key : ∀ near ∈ ms, ∀ far ∈ ms, (¬ (near.sh + dear g (apart far.row near.row) < far.sh) ↔ ¬ (far.swap.sh + dear (turns g) (apart near.swap.row far.swap.row) < near.swap.sh)) := by
    intro near hn far hf
    rw [nlt_dear hne, nlt_dear (turns_ne hne)]
    have each : ∀ c ∈ g, (far.sh ≤ near.sh + dot c (apart far.row near.row) ↔ near.am ≤ far.am + dot (turn c) (apart near.swap.row far.swap.row)) := by
      intro c hc
      obtain ⟨a, r, rfl, ha, _⟩ := hg c hc
      have e1 : dot (a :: r) (apart far.row near.row) = a * (far.am - near.am) + dot r (apart far.be near.be) := by
        show dot (a :: r) ((far.am - near.am) :: apart far.be near.be) = _
        rw [dot_cons]
      have e2 : dot (turn (a :: r)) (apart near.swap.row far.swap.row) = 1 / a * (-(far.sh - near.sh)) + dot r (apart far.be near.be) / a := by
        show dot ((1 / a) :: r.map fun p => -(p / a)) ((near.sh - far.sh) :: apart near.be far.be) = _
        rw [dot_cons, dot_scale, dot_rev r far.be near.be (by rw [hl _ hn, hl _ hf]), Rat.div_def (-_), Rat.div_def (dot _ _)]
        grind
      rw [e1, e2]
      have := turn_le (D := dot r (apart far.be near.be)) (x := far.sh - near.sh) (y := far.am - near.am) ha
      constructor
      · intro h
        have := this.mp (by grind)
        grind
      · intro h
        have := this.mpr (by grind)
        grind
    constructor
    · rintro ⟨c, hc, h⟩
      exact ⟨turn c, List.mem_map.mpr ⟨c, hc, rfl⟩, (each c hc).mp h⟩
    · rintro ⟨c', hc', h⟩
      obtain ⟨c, hc, rfl⟩ := List.mem_map.mp hc'
      exact ⟨c, hc, (each c hc).mpr h⟩
  constructor
  · intro h near hn far hf
    exact (key near hn far hf).mpr (h _ (List.mem_map.mpr ⟨far, hf, rfl⟩) _ (List.mem_map.mpr ⟨near, hn, rfl⟩))
  · intro h near hn far hf
    obtain ⟨n', hn', rfl⟩ := List.mem_map.mp hn
    obtain ⟨f', hf', rfl⟩ := List.mem_map.mp hf
    exact (key f' hf' n' hn').mp (h f' hf' n' hn')
/-! ends -/
theorem fold_mx (f : Mk → Rat) : ∀ (ms : List Mk) (o : Option Rat) (lo : Rat), ms.foldl (fun o m => mxO o (f m)) o = some lo → (∀ m ∈ ms, f m ≤ lo) ∧ (∀ u, o = some u → u ≤ lo) ∧ ((∃ m ∈ ms, lo = f m) ∨ o = some lo)
  | [], o, lo, h => ⟨(fun m hm => nomatch hm), fun u hu => by have h' : o = some lo := h; rw [hu] at h'; cases h'; exact Rat.le_refl, .inr h⟩
  | m :: ms, o, lo, h => by
    obtain ⟨h1, h2, h3⟩ := fold_mx f ms (mxO o (f m)) lo h
    cases o with
    | none =>
      refine ⟨fun m' hm => ?_, (fun u hu => nomatch hu), ?_⟩
      · rcases List.mem_cons.mp hm with e | e
        · rw [e]; exact h2 _ rfl
        · exact h1 m' e
      · rcases h3 with ⟨m', hm, e⟩ | e
        · exact .inl ⟨m', List.mem_cons_of_mem _ hm, e⟩
        · exact .inl ⟨m, List.mem_cons_self, (Option.some.inj e).symm⟩
    | some v =>
      have hv := h2 _ rfl
      have h4 : f m ≤ lo ∧ v ≤ lo := by
        by_cases c : v < f m
        · rw [if_pos c] at hv; exact ⟨hv, Rat.le_trans (Rat.le_of_lt c) hv⟩
        · rw [if_neg c] at hv; exact ⟨Rat.le_trans (Rat.not_lt.mp c) hv, hv⟩
      refine ⟨fun m' hm => ?_, fun u hu => by cases hu; exact h4.2, ?_⟩
      · rcases List.mem_cons.mp hm with e | e
        · rw [e]; exact h4.1
        · exact h1 m' e
      · rcases h3 with ⟨m', hm, e⟩ | e
        · exact .inl ⟨m', List.mem_cons_of_mem _ hm, e⟩
        · have e' := Option.some.inj e
          by_cases c : v < f m
          · rw [if_pos c] at e'; exact .inl ⟨m, List.mem_cons_self, e'.symm⟩
          · rw [if_neg c] at e'; exact .inr (by rw [e'])
theorem fold_mn (f : Mk → Rat) : ∀ (ms : List Mk) (o : Option Rat) (lo : Rat), ms.foldl (fun o m => mnO o (f m)) o = some lo → (∀ m ∈ ms, lo ≤ f m) ∧ (∀ u, o = some u → lo ≤ u) ∧ ((∃ m ∈ ms, lo = f m) ∨ o = some lo)
  | [], o, lo, h => ⟨(fun m hm => nomatch hm), fun u hu => by have h' : o = some lo := h; rw [hu] at h'; cases h'; exact Rat.le_refl, .inr h⟩
  | m :: ms, o, lo, h => by
    obtain ⟨h1, h2, h3⟩ := fold_mn f ms (mnO o (f m)) lo h
    cases o with
    | none =>
      refine ⟨fun m' hm => ?_, (fun u hu => nomatch hu), ?_⟩
      · rcases List.mem_cons.mp hm with e | e
        · rw [e]; exact h2 _ rfl
        · exact h1 m' e
      · rcases h3 with ⟨m', hm, e⟩ | e
        · exact .inl ⟨m', List.mem_cons_of_mem _ hm, e⟩
        · exact .inl ⟨m, List.mem_cons_self, (Option.some.inj e).symm⟩
    | some v =>
      have hv := h2 _ rfl
      have h4 : lo ≤ f m ∧ lo ≤ v := by
        by_cases c : f m < v
        · rw [if_pos c] at hv; exact ⟨hv, Rat.le_trans hv (Rat.le_of_lt c)⟩
        · rw [if_neg c] at hv; exact ⟨Rat.le_trans hv (Rat.not_lt.mp c), hv⟩
      refine ⟨fun m' hm => ?_, fun u hu => by cases hu; exact h4.2, ?_⟩
      · rcases List.mem_cons.mp hm with e | e
        · rw [e]; exact h4.1
        · exact h1 m' e
      · rcases h3 with ⟨m', hm, e⟩ | e
        · exact .inl ⟨m', List.mem_cons_of_mem _ hm, e⟩
        · have e' := Option.some.inj e
          by_cases c : f m < v
          · rw [if_pos c] at e'; exact .inl ⟨m, List.mem_cons_self, e'.symm⟩
          · rw [if_neg c] at e'; exact .inr (by rw [e'])
theorem lows_spec {g : List (List Rat)} {r : List Rat} {ms : List Mk} {lo : Rat} (h : lows g r ms = some lo) : (∀ m ∈ ms, loM g r m ≤ lo) ∧ ∃ m ∈ ms, lo = loM g r m := by
  obtain ⟨h1, _, h3⟩ := fold_mx (loM g r) ms none lo h
  refine ⟨h1, ?_⟩
  rcases h3 with h | h
  · exact h
  · cases h
theorem highs_spec {g : List (List Rat)} {r : List Rat} {ms : List Mk} {hi : Rat} (h : highs g r ms = some hi) : (∀ m ∈ ms, hi ≤ hiM g r m) ∧ ∃ m ∈ ms, hi = hiM g r m := by
  obtain ⟨h1, _, h3⟩ := fold_mn (hiM g r) ms none hi h
  refine ⟨h1, ?_⟩
  rcases h3 with h | h
  · exact h
  · cases h
theorem lo_le_hi {g : List (List Rat)} {r : List Rat} {ms : List Mk} (hne : g ≠ []) (ft : Fit g ms) (hl : ∀ m ∈ ms, m.row.length = r.length) {m m' : Mk} (h : m ∈ ms) (h' : m' ∈ ms) : loM g r m ≤ hiM g r m' := by
  have h1 := Rat.not_lt.mp (ft m' h' m h)
  have h2 := dear_tri (x := m.row) (y := r) (z := m'.row) hne (hl m h) (hl m' h').symm
  unfold loM hiM
  grind
theorem fit_snoc {g : List (List Rat)} {ms : List Mk} {a s : Rat} {be : List Rat} (hne : g ≠ []) (ft : Fit g ms) : Fit g (ms ++ [⟨a, be, s⟩]) ↔ ∀ m ∈ ms, loM g (a :: be) m ≤ s ∧ s ≤ hiM g (a :: be) m := by
  constructor
  · intro h m hm
    have h1 := Rat.not_lt.mp (h m (List.mem_append_left _ hm) ⟨a, be, s⟩ (List.mem_append_right _ List.mem_cons_self))
    have h2 := Rat.not_lt.mp (h ⟨a, be, s⟩ (List.mem_append_right _ List.mem_cons_self) m (List.mem_append_left _ hm))
    have e : (⟨a, be, s⟩ : Mk).row = a :: be := rfl
    rw [e] at h1 h2
    have h1' : s ≤ m.sh + dear g (apart (a :: be) m.row) := h1
    have h2' : m.sh ≤ s + dear g (apart m.row (a :: be)) := h2
    unfold loM hiM
    exact ⟨by grind, h1'⟩
  · intro h near hn far hf
    refine Rat.not_lt.mpr ?_
    rcases List.mem_append.mp hn with hn | hn <;> rcases List.mem_append.mp hf with hf | hf
    · exact Rat.not_lt.mp (ft near hn far hf)
    · cases List.mem_singleton.mp hf
      exact (h near hn).2
    · cases List.mem_singleton.mp hn
      have := (h far hf).1
      unfold loM at this
      show far.sh ≤ s + dear g (apart far.row (a :: be))
      grind
    · cases List.mem_singleton.mp hn
      cases List.mem_singleton.mp hf
      show s ≤ s + dear g (apart (a :: be) (a :: be))
      rw [dear_self hne]; grind
theorem ends {g : List (List Rat)} {ms : List Mk} {a lo hi : Rat} {be : List Rat} (hne : g ≠ []) (ft : Fit g ms) (ln : ∀ m ∈ ms, m.be.length = be.length) (hl : lows g (a :: be) ms = some lo) (hh : highs g (a :: be) ms = some hi) :
    lo ≤ hi ∧ ∀ s, Fit g (ms ++ [⟨a, be, s⟩]) ↔ lo ≤ s ∧ s ≤ hi := by
  obtain ⟨l1, m1, hm1, e1⟩ := lows_spec hl
  obtain ⟨l2, m2, hm2, e2⟩ := highs_spec hh
  refine ⟨?_, fun s => ?_⟩
  · rw [e1, e2]
    exact lo_le_hi hne ft (fun m hm => by show m.be.length + 1 = be.length + 1; rw [ln m hm]) hm1 hm2
  · rw [fit_snoc hne ft]
    constructor
    · intro h
      rw [e1, e2]
      exact ⟨(h m1 hm1).1, (h m2 hm2).2⟩
    · rintro ⟨h1, h2⟩ m hm
      exact ⟨Rat.le_trans (l1 m hm) h1, Rat.le_trans h2 (l2 m hm)⟩
theorem lows_snoc (g : List (List Rat)) (r : List Rat) (ms : List Mk) (m : Mk) : lows g r (ms ++ [m]) = mxO (lows g r ms) (loM g r m) := by
  unfold lows; rw [List.foldl_append]; rfl
theorem highs_snoc (g : List (List Rat)) (r : List Rat) (ms : List Mk) (m : Mk) : highs g r (ms ++ [m]) = mnO (highs g r ms) (hiM g r m) := by
  unfold highs; rw [List.foldl_append]; rfl
theorem lows_more {g : List (List Rat)} {r : List Rat} {ms : List Mk} {m : Mk} {lo lo' : Rat} (h : lows g r ms = some lo) (h' : lows g r (ms ++ [m]) = some lo') : lo ≤ lo' := by
  rw [lows_snoc, h] at h'
  have e := Option.some.inj h'
  rw [← e]
  split
  · exact Rat.le_of_lt ‹_›
  · exact Rat.le_refl
theorem highs_more {g : List (List Rat)} {r : List Rat} {ms : List Mk} {m : Mk} {hi hi' : Rat} (h : highs g r ms = some hi) (h' : highs g r (ms ++ [m]) = some hi') : hi' ≤ hi := by
  rw [highs_snoc, h] at h'
  have e := Option.some.inj h'
  rw [← e]
  split
  · exact Rat.le_of_lt ‹_›
  · exact Rat.le_refl
end K10

set_option maxRecDepth 100000
set_option maxHeartbeats 4100000
set_option pp.maxSteps 1500
namespace K10
open L2 PyProof.Rows PySem.Spec PySem
local macro_rules | `(tactic| walk_at "xv") => `(tactic| first
  | refine xe_var (i := 0) rfl ?_ | refine xe_var (i := 1) rfl ?_ | refine xe_var (i := 2) rfl ?_ | refine xe_var (i := 3) rfl ?_
  | refine xe_var (i := 4) rfl ?_ | refine xe_var (i := 5) rfl ?_ | refine xe_var (i := 6) rfl ?_ | refine xe_var (i := 7) rfl ?_
  | refine xe_var (i := 8) rfl ?_ | refine xe_var (i := 9) rfl ?_ | refine xe_var (i := 10) rfl ?_ | refine xe_var (i := 11) rfl ?_
  | refine xe_var (i := 12) rfl ?_ | refine xe_var (i := 13) rfl ?_ | refine xe_var (i := 14) rfl ?_ | refine xe_var (i := 15) rfl ?_)
local macro_rules | `(tactic| walk_at "xset") => `(tactic| first
  | refine xs_set (i := 0) (by assumption) rfl (by first | exact .inl rfl | exact .inr rfl) ?_ | refine xs_set (i := 1) (by assumption) rfl (by first | exact .inl rfl | exact .inr rfl) ?_
  | refine xs_set (i := 2) (by assumption) rfl (by first | exact .inl rfl | exact .inr rfl) ?_ | refine xs_set (i := 3) (by assumption) rfl (by first | exact .inl rfl | exact .inr rfl) ?_
  | refine xs_set (i := 4) (by assumption) rfl (by first | exact .inl rfl | exact .inr rfl) ?_ | refine xs_set (i := 5) (by assumption) rfl (by first | exact .inl rfl | exact .inr rfl) ?_
  | refine xs_set (i := 6) (by assumption) rfl (by first | exact .inl rfl | exact .inr rfl) ?_ | refine xs_set (i := 7) (by assumption) rfl (by first | exact .inl rfl | exact .inr rfl) ?_
  | refine xs_set (i := 8) (by assumption) rfl (by first | exact .inl rfl | exact .inr rfl) ?_ | refine xs_set (i := 9) (by assumption) rfl (by first | exact .inl rfl | exact .inr rfl) ?_
  | refine xs_set (i := 10) (by assumption) rfl (by first | exact .inl rfl | exact .inr rfl) ?_ | refine xs_set (i := 11) (by assumption) rfl (by first | exact .inl rfl | exact .inr rfl) ?_)
local macro_rules | `(tactic| walk_at "xset'") => `(tactic| first | refine xs_set (i := 12) (by assumption) rfl (by first | exact .inl rfl | exact .inr rfl) ?_ | refine xs_set (i := 13) (by assumption) rfl (by first | exact .inl rfl | exact .inr rfl) ?_)
local macro_rules | `(tactic| walk_at "xname") => `(tactic| first
  | refine xg_name (i := 0) (by assumption) rfl (by first | exact .inl rfl | exact .inr rfl) | refine xg_name (i := 1) (by assumption) rfl (by first | exact .inl rfl | exact .inr rfl)
  | refine xg_name (i := 2) (by assumption) rfl (by first | exact .inl rfl | exact .inr rfl) | refine xg_name (i := 3) (by assumption) rfl (by first | exact .inl rfl | exact .inr rfl)
  | refine xg_name (i := 4) (by assumption) rfl (by first | exact .inl rfl | exact .inr rfl) | refine xg_name (i := 5) (by assumption) rfl (by first | exact .inl rfl | exact .inr rfl)
  | refine xg_name (i := 6) (by assumption) rfl (by first | exact .inl rfl | exact .inr rfl) | refine xg_name (i := 7) (by assumption) rfl (by first | exact .inl rfl | exact .inr rfl)
  | refine xg_name (i := 8) (by assumption) rfl (by first | exact .inl rfl | exact .inr rfl) | refine xg_name (i := 9) (by assumption) rfl (by first | exact .inl rfl | exact .inr rfl)
  | refine xg_name (i := 10) (by assumption) rfl (by first | exact .inl rfl | exact .inr rfl) | refine xg_name (i := 11) (by assumption) rfl (by first | exact .inl rfl | exact .inr rfl))
local macro_rules | `(tactic| walk_at "xcall") => `(tactic|
  (refine xe_call (by assumption) (Room.mono (by assumption) (by decide)) ?_))
local macro_rules | `(tactic| walk_at "x1") => `(tactic| first
  | refine xa_nil ?_ | refine xa_cons ?_ | refine xe_int ?_ | refine xe_bl ?_ | refine xe_non ?_ | refine xe_str ?_
  | walk_at "xv"
  | refine xe_tup ?_ | refine xe_lst ?_
  | refine xe_sub ?_
  | refine xe_ixT ?_
  | refine xe_neg ?_
  | refine xss_nil ?_ | refine xss_cons ?_ | refine xs_ret ?_ | walk_at "xset" | refine xs_if ?_
  | refine r2_int0 ?_ | refine r2_bool0 ?_ | refine r2_eqI ?_ | refine r2_neI ?_ | refine r1_neg ?_ | refine r2_ix0 ?_ | refine r2_ix1 ?_ | refine r2_ix2 ?_
  | refine xt_lt ?_ | refine xt_le ?_ | refine xt_gt ?_ | refine xt_ge ?_
  | refine xe_lt ?_ | refine xe_le ?_ | refine xe_gt ?_ | refine xe_ge ?_
  | refine xt_not ?_
  | walk_at "xcall")
local macro_rules | `(tactic| walk_at "xp") => `(tactic| repeat (walk_at "x1"))
/-! an exception that is caught -/
/-- what is known of an own exception class that an except clause names -/
structure ExcH (K : Fg) (mg : Str → Option Value) (x : Str) (C : Addr) : Prop where
  k : ExcK K mg x C
  te : PySem.W.exmOne K (.ref C) (.ref C) = some true
  ec : ExcC K C
  kv : PySem.W.kitOne K (.ref C) (.type "ValueError") = some true
theorem takes_mono {X : Cx} {W1 W2 : WX} (tk : Takes X W1) (h : ∀ cls d σ H, W2 cls d σ H → W1 cls d σ H) : Takes X W2 := fun u s' x => tk u s' (by
  obtain ⟨a, B, sI, pins, σ, H, cls, d, e, I, nb, up, sky, na, os, ag, w⟩ := x
  exact ⟨a, B, sI, pins, σ, H, cls, d, e, I, nb, up, sky, na, os, ag, h _ _ _ _ w⟩)
abbrev unfitD : Dt := .list [.str "unfit", .bool true]
def okAt (K : Fg) (B : Bs) (H : Hp) : Prop := ∃ B' δ τ σ, B.le B' ∧ Ok K B' δ τ σ H
/-- return ['..', isinstance(error, ValueError)] in a suite -/
def tSuit (X : Cx) (C : Addr) (i : Nat) (y : Str) (a : Addr) (cls : Value) (d : Option Addr) : TS := fun D σ H => cls = .ref C ∧ d = none ∧ (σ.length = X.N.length → tRet (tLst (tCons (tC (.str y)) (tCons (tCB (rIsE X.K C a) (tCons (tVar i) (tCons (tC (.ty "ValueError")) tNil))) tNil))) D σ H)
section
variable {X : Cx} {B : Bs} {δ : Slots} {τ : Mem} {D : DE} {C : Addr} {x n y : Str} {i : Nat} {np pos pos' p1 p2 p3 p4 p5 p6 p7 : Pos} {j : Nat} {body : List Stmt} {Pe : Prop}
theorem xs_tryU (kU : ExcH X.K X.mg x C) (hs : X.stack = X.env :: X.outer) (hf : X.env.frame = some X.env.locals) (hN : X.N.Nodup) (hi : X.N[i]? = some n) (hln : X.env.kindOf n = some .local) (hg : Gl X x) (hx : (x == ("__debug__" : Str)) = false)
    (tk : Takes X fun _ _ _ _ => False)
    (hsu : ∀ (a : Addr) (oe : Obj) (pn : List (Addr × Obj)), Zc (.ref C) none oe → (∃ vs, oe.data = .fields vs) → PSs (X.suite a ((a, oe) :: pn)) [Stmt.Return (some (.List [.Constant (.str y) j p1, .Call (.Name "isinstance" p2) [.Name n p3, .Name "ValueError" p4] [] p5] p6)) pos] (tRet (tLst (tCons (tC (.str y)) (tCons (tCB (rIsE X.K C a) (tCons (tVar i) (tCons (tC (.ty "ValueError")) tNil))) tNil)))))
    (hb : ∀ (E0 : XK) (pn : List (Addr × Obj)) (xe : Value → Shared → Prop), Takes (X.tr pn xe) (fun cls d _ H => E0 cls d H) → (Pe → ∀ τ' σ H, Ok X.K B δ τ' σ H → E0 (.ref C) none H) → XSs (X.tr pn xe) B δ τ body D)
    (hp : Pe → ∀ τ', D.rt (.d (.list [.str y, .bool true])) τ') :
    XS X B δ τ (.Try body [.ExceptHandler (some (.Name x np)) (some n) [Stmt.Return (some (.List [.Constant (.str y) j p1, .Call (.Name "isinstance" p2) [.Name n p3, .Name "ValueError" p4] [] p5] p6)) pos] pos'] [] [] p7) D := by
  have hn : i < X.N.length := (List.getElem?_eq_some_iff.mp hi).1
  refine .of (ps_try_as (x := x) (n := n) (c := .ref C) (i := i) (Wout := fun _ _ _ _ => False) (tb := fun W D' σ H => RdS X.K B δ τ D D' σ H ∧ (∀ σ' H', Pe → okAt X.K B H' → W (.ref C) none σ' H')) (ts := tSuit X C i y) hs hf hN hi hln ⟨hg, hx, .inl kU.k.g⟩ tk ?_ ?_) ?_
  · intro W pn xe tkW _
    refine ⟨fun pins s σ H D' I h => ?_⟩
    obtain ⟨r, hW⟩ := h
    refine (hb (fun cls d H => cls = .ref C ∧ d = none ∧ Pe ∧ okAt X.K B H) pn xe (takes_mono tkW fun cls d σ H h => ?_) (fun pe τ' σ H o => ⟨rfl, rfl, pe, B, δ, τ', σ, .refl _, o⟩)).ps.run pins s σ H D' I r
    obtain ⟨rfl, rfl, pe, o⟩ := h
    exact hW _ _ pe o
  · intro a oe cls d pn hz hfl
    refine ⟨fun pins s σ H D' I h => ?_⟩
    obtain ⟨rfl, rfl, h⟩ := h
    exact (hsu a oe pn hz hfl).run pins s σ H D' I (h I.len)
  · intro E σ H r
    refine ⟨r, fun σ' H' pe o => ⟨true, kU.te, fun _ a na => ⟨rfl, rfl, fun hl => ?_⟩, fun z => nomatch z⟩⟩
    have e : (σ'.set i (some (.ref a)))[i]? = some (some (.ref a)) := List.getElem?_set_self (by rw [List.length_set] at hl; omega)
    refine ⟨_, e, .ty "ValueError", .type "ValueError", true, rfl, fun u h => h, kU.kv, by show 2 ≤ sizeLine; decide, fun p hp' => ?_⟩
    obtain ⟨B', δ', τ', σ2, l, ok⟩ := o
    have s2 : Same H' (upd H' p (.lst [.str y, .bl true])) := same_new hp'
    refine r.rt _ (.d (.list [.str y, .bool true])) B' δ' τ' σ2 _ l (ok.pure s2) (.lst (xs := [.str y, .bl true]) ?_ (.cons (.str _) (.cons (.bl _) .nil))) (hp pe τ')
    rw [hide_out (ok.new hp')]; exact upd_same
end
section
variable {P : Program} {w : World} {K : Fg} {mg : Str → Option Value} {base : Heap} {f : Addr} {fd : FuncData}
abbrev R_heard : RR := fun ds P => ∃ (door : Int) (x y z v : Dt), ds = [.int door, x, y, z, v] ∧ ((door = 0 ∧ R_amounts [x, y, z] P (P unfitD)) ∨ (door = 1 ∧ ∃ b rest, (z = .list (b :: rest) ∨ z = .tuple (b :: rest)) ∧ R_shown_between [x, y, v, b] P (P unfitD)))
theorem ok_L_heard {C : Addr} (kU : ExcH K mg "Unfit" C) (F : Fun K "_law_heard" "_law_heard" s_L_heard f fd) (hA : Has P w K mg base (L2.CX P w) 11 "amounts_between" p_amounts_between (spX K C R_amounts)) (hS : Has P w K mg base (L2.CX P w) 11 "shown_between" p_shown_between (spX K C R_shown_between))
    (mi : mg "isinstance" = none) (mv : mg "ValueError" = none) : FnOk P w K mg base CX0 12 f fd p_L_heard (spP K R_heard) := by
  refine fnP F sc_L_heard (fun ds P h => ?_) (fun X B ds Pr hX hr h => ?_)
  · obtain ⟨door, x, y, z, v, rfl, _⟩ := h; rfl
  · obtain ⟨cdv, A, outer, s, H, E, rfl⟩ := hX
    have nd := sc_L_heard.nd
    obtain ⟨door, x, y, z, v, rfl, h⟩ := h
    refine xss_cons ?_
    refine xs_tryU (i := 5) (Pe := Pr unfitD) kU rfl rfl nd rfl rfl (by rfl) (by decide) takes0 ?_ ?_ (fun pe τ' => ⟨_, rfl, pe⟩)
    · intro a oe pn hz hfl
      exact pss_one (ps_ret (pe_lst (pa_cons pe_str (pa_cons (pe_callB (call_isE kU.ec hz hfl) rfl mi (by decide +kernel) (pa_cons (pe_var (i := 5) rfl (.inl rfl)) (pa_cons (pe_bltn (v := .ty "ValueError") rfl mv (by decide +kernel) rfl) pa_nil))) pa_nil))))
    · intro E0 pn xe tk hE
      refine xss_cons (xs_if (xt_eqI ?_))
      walk_at "xp"
      rcases h with ⟨rfl, h⟩ | ⟨rfl, b, rest, hz, h⟩
      · refine ⟨_, rfl, iteT ?_⟩
        refine xss_cons (xs_ret (xe_callX hA (hr.mono (by decide)) tk (Pe := Pr unfitD) hE ?_))
        walk_at "xp"
        obtain ⟨x1, y1, z1, n, k, nr, nt, g, ms, sh, be, h0, h1, h2, h3, h4, h5, h6, h7, h8, h9, h10, h11, h12, h13, h14, q1, q2⟩ := h
        exact ⟨[_, _, _], rfl, x1, y1, z1, n, k, nr, nt, g, ms, sh, be, h0, h1, h2, h3, h4, h5, h6, h7, h8, h9, h10, h11, h12, h13, h14, fun z => ⟨_, rfl, q1 z⟩, q2⟩
      · refine ⟨_, rfl, iteF ?_⟩
        walk_at "xp"
        refine xe_callX hS (hr.mono (by decide)) tk (Pe := Pr unfitD) hE ?_
        obtain ⟨x1, y1, z1, v1, m, nr, nt, l, g, ms, a, be, h0, h1, h2, h3, h4, h5, h6, h7, h8, h9, h10, h11, h12, h13, h14, h15, h16, q1, q2⟩ := h
        refine xa_cons ?_
        walk_at "xv"
        refine xa_cons ?_
        walk_at "xv"
        refine xa_cons ?_
        walk_at "xv"
        have fin : ∃ ds, [W.d x, W.d y, W.d v, W.d b] = ds.map W.d ∧ R_shown_between ds (fun d => ∃ d', W.d d = .d d' ∧ Pr d') (Pr unfitD) :=
          ⟨[_, _, _, _], rfl, x1, y1, z1, v1, m, nr, nt, l, g, ms, a, be, h0, h1, h2, h3, h4, h5, h6, h7, h8, h9, h10, h11, h12, h13, h14, h15, h16, fun z => ⟨_, rfl, q1 z⟩, q2⟩
        refine xa_cons ?_
        rcases hz with rfl | rfl
        · refine xe_ixL ?_
          walk_at "xv"
          walk_at "xp"
          refine r2_ixL (d := b) (atI_nat (j := 0) rfl) ?_
          exact xa_nil fin
        · walk_at "xp"
          exact fin
end

end K10

set_option maxRecDepth 100000
set_option maxHeartbeats 4100000
set_option pp.maxSteps 1500
namespace K10
open L2 PyProof.Rows PySem.Spec PySem
local macro_rules | `(tactic| walk_at "xv") => `(tactic| first
  | refine xe_var (i := 0) rfl ?_ | refine xe_var (i := 1) rfl ?_ | refine xe_var (i := 2) rfl ?_ | refine xe_var (i := 3) rfl ?_
  | refine xe_var (i := 4) rfl ?_ | refine xe_var (i := 5) rfl ?_ | refine xe_var (i := 6) rfl ?_ | refine xe_var (i := 7) rfl ?_
  | refine xe_var (i := 8) rfl ?_ | refine xe_var (i := 9) rfl ?_ | refine xe_var (i := 10) rfl ?_ | refine xe_var (i := 11) rfl ?_
  | refine xe_var (i := 12) rfl ?_ | refine xe_var (i := 13) rfl ?_ | refine xe_var (i := 14) rfl ?_ | refine xe_var (i := 15) rfl ?_)
local macro_rules | `(tactic| walk_at "xset") => `(tactic| first
  | refine xs_set (i := 0) (by assumption) rfl (by first | exact .inl rfl | exact .inr rfl) ?_ | refine xs_set (i := 1) (by assumption) rfl (by first | exact .inl rfl | exact .inr rfl) ?_
  | refine xs_set (i := 2) (by assumption) rfl (by first | exact .inl rfl | exact .inr rfl) ?_ | refine xs_set (i := 3) (by assumption) rfl (by first | exact .inl rfl | exact .inr rfl) ?_
  | refine xs_set (i := 4) (by assumption) rfl (by first | exact .inl rfl | exact .inr rfl) ?_ | refine xs_set (i := 5) (by assumption) rfl (by first | exact .inl rfl | exact .inr rfl) ?_
  | refine xs_set (i := 6) (by assumption) rfl (by first | exact .inl rfl | exact .inr rfl) ?_ | refine xs_set (i := 7) (by assumption) rfl (by first | exact .inl rfl | exact .inr rfl) ?_
  | refine xs_set (i := 8) (by assumption) rfl (by first | exact .inl rfl | exact .inr rfl) ?_ | refine xs_set (i := 9) (by assumption) rfl (by first | exact .inl rfl | exact .inr rfl) ?_
  | refine xs_set (i := 10) (by assumption) rfl (by first | exact .inl rfl | exact .inr rfl) ?_ | refine xs_set (i := 11) (by assumption) rfl (by first | exact .inl rfl | exact .inr rfl) ?_)
local macro_rules | `(tactic| walk_at "xset'") => `(tactic| first | refine xs_set (i := 12) (by assumption) rfl (by first | exact .inl rfl | exact .inr rfl) ?_ | refine xs_set (i := 13) (by assumption) rfl (by first | exact .inl rfl | exact .inr rfl) ?_)
local macro_rules | `(tactic| walk_at "xname") => `(tactic| first
  | refine xg_name (i := 0) (by assumption) rfl (by first | exact .inl rfl | exact .inr rfl) | refine xg_name (i := 1) (by assumption) rfl (by first | exact .inl rfl | exact .inr rfl)
  | refine xg_name (i := 2) (by assumption) rfl (by first | exact .inl rfl | exact .inr rfl) | refine xg_name (i := 3) (by assumption) rfl (by first | exact .inl rfl | exact .inr rfl)
  | refine xg_name (i := 4) (by assumption) rfl (by first | exact .inl rfl | exact .inr rfl) | refine xg_name (i := 5) (by assumption) rfl (by first | exact .inl rfl | exact .inr rfl)
  | refine xg_name (i := 6) (by assumption) rfl (by first | exact .inl rfl | exact .inr rfl) | refine xg_name (i := 7) (by assumption) rfl (by first | exact .inl rfl | exact .inr rfl)
  | refine xg_name (i := 8) (by assumption) rfl (by first | exact .inl rfl | exact .inr rfl) | refine xg_name (i := 9) (by assumption) rfl (by first | exact .inl rfl | exact .inr rfl)
  | refine xg_name (i := 10) (by assumption) rfl (by first | exact .inl rfl | exact .inr rfl) | refine xg_name (i := 11) (by assumption) rfl (by first | exact .inl rfl | exact .inr rfl))
local macro_rules | `(tactic| walk_at "xcall") => `(tactic|
  (refine xe_call (by assumption) (Room.mono (by assumption) (by decide)) ?_))
local macro_rules | `(tactic| walk_at "x1") => `(tactic| first
  | refine xa_nil ?_ | refine xa_cons ?_ | refine xe_int ?_ | refine xe_bl ?_ | refine xe_non ?_ | refine xe_str ?_
  | walk_at "xv"
  | refine xe_tup ?_ | refine xe_lst ?_
  | refine xe_sub ?_
  | refine xe_ixT ?_
  | refine xe_neg ?_
  | refine xss_nil ?_ | refine xss_cons ?_ | refine xs_ret ?_ | walk_at "xset" | refine xs_if ?_
  | refine r2_int0 ?_ | refine r2_bool0 ?_ | refine r2_eqI ?_ | refine r2_neI ?_ | refine r1_neg ?_ | refine r2_ix0 ?_ | refine r2_ix1 ?_ | refine r2_ix2 ?_
  | refine xt_lt ?_ | refine xt_le ?_ | refine xt_gt ?_ | refine xt_ge ?_
  | refine xe_lt ?_ | refine xe_le ?_ | refine xe_gt ?_ | refine xe_ge ?_
  | refine xt_not ?_
  | walk_at "xcall")
local macro_rules | `(tactic| walk_at "xp") => `(tactic| repeat (walk_at "x1"))
section
variable {P : Program} {w : World} {K : Fg} {mg : Str → Option Value} {base : Heap} {f : Addr} {fd : FuncData}
def q4 : Rat := ⟨1, 10000, by decide, by decide⟩
theorem q4_sz : Sz 14 q4 := ⟨by decide +kernel, by decide +kernel⟩
theorem q12_sz : Sz 2 q12 := ⟨by decide +kernel, by decide +kernel⟩
theorem q4_pos : (0 : Rat) < q4 := by decide +kernel
theorem mid_bd {lo hi : Rat} (h : lo ≤ hi) : lo ≤ (lo + hi) * q12 ∧ (lo + hi) * q12 ≤ hi := by
  have e : q12 = 1 / 2 := by decide +kernel
  rw [e, Rat.div_def]
  have e2 : (2 : Rat)⁻¹ * 2 = 1 := by decide +kernel
  constructor <;> grind
abbrev R_lmf : RR := fun ds P => ∃ (m nr nt l : Nat) (g : List (List Rat)) (ms : List Mk), ds = [tab g, mks ms] ∧ Bnd m nr nt l g ∧ SzM nr nt l ms ∧ (Fit g ms → P (.bool true)) ∧ (¬ Fit g ms → P (.bool false))
abbrev R_ends : RR := fun ds P => ∃ (m nr nt l s : Nat) (g : List (List Rat)) (ms : List Mk) (a : Rat) (be : List Rat) (lo hi : Rat), ds = [tab g, mks ms, .tuple [fr lo, fr hi], row be, .tuple [fr a]] ∧ Bnd m nr nt l g ∧ SzM nr nt l ms ∧ SzAll nr (a :: be) ∧ be.length + 1 ≤ l ∧ ms.length ≤ 900 ∧
  0 < s ∧ Sz s lo ∧ Sz s hi ∧ s + s + 20 ≤ nt ∧ lo ≤ hi ∧ (∀ t, Fit g (ms ++ [⟨a, be, t⟩]) ↔ lo ≤ t ∧ t ≤ hi) ∧ P (.bool true)
theorem szM_snoc {nr nt l : Nat} {ms : List Mk} (h : SzM nr nt l ms) {m : Mk} (h1 : SzAll nr m.row) (h2 : Sz nt m.sh) (h3 : m.be.length + 1 ≤ l) (h4 : ms.length < 1000) : SzM nr nt l (ms ++ [m]) where
  am := fun x hx => by
    rcases List.mem_append.mp hx with e | e
    · exact h.am x e
    · cases List.mem_singleton.mp e; exact h1 _ List.mem_cons_self
  be := fun x hx => by
    rcases List.mem_append.mp hx with e | e
    · exact h.be x e
    · cases List.mem_singleton.mp e; exact fun q hq => h1 q (List.mem_cons_of_mem _ hq)
  sh := fun x hx => by
    rcases List.mem_append.mp hx with e | e
    · exact h.sh x e
    · cases List.mem_singleton.mp e; exact h2
  ln := fun x hx => by
    rcases List.mem_append.mp hx with e | e
    · exact h.ln x e
    · cases List.mem_singleton.mp e; exact h3
  few := by simp; omega
theorem mks_snoc (ms : List Mk) (m : Mk) : (.tuple (ms.map Mk.d ++ [m.d]) : Dt) = mks (ms ++ [m]) := by unfold mks; simp
theorem ok_L_ends_right (F : Fun K "_law_ends_right" "_law_ends_right" s_L_ends_right f fd) (hU : Has P w K mg base CX0 1 "_law_under" p_L_under (spP K R_below)) (hS : Has P w K mg base CX0 3 "_law_sum" p_L_sum (spP K R_plus)) (hM : Has P w K mg base CX0 3 "_law_mul" p_L_mul (spP K R_times))
    (hL : Has P w K mg base CX0 3 "_law_less_by" p_L_less_by (spP K R_less)) (hF : Has P w K mg base CX0 7 "_law_marks_fit" p_L_marks_fit (spP K R_lmf)) : FnOk P w K mg base CX0 8 f fd p_L_ends_right (spP K R_ends) := by
  refine fnP F sc_L_ends_right (fun ds P h => ?_) (fun X B ds Pr hX hr h => ?_)
  · obtain ⟨m, nr, nt, l, s, g, ms, a, be, lo, hi, rfl, _⟩ := h; rfl
  · obtain ⟨cdv, A, outer, s, H, E, rfl⟩ := hX
    have nd := sc_L_ends_right.nd
    obtain ⟨m, nr, nt, l, s, g, ms, a, be, lo, hi, rfl, hb, hms, hab, hbl, hml, s0, slo, shi, hst, hle, hfit, hP⟩ := h
    have hnt := hb.nt
    have hl := hb.hl
    have snoc : ∀ t, Sz nt t → SzM nr nt l (ms ++ [⟨a, be, t⟩]) := fun t ht => szM_snoc hms hab ht hbl (by omega)
    refine xss_cons (xs_asg (is := [5] ++ ([6] ++ [])) (xg_tup (n := 2) rfl (xgs_cons (xg_name (i := 5) nd rfl (.inl rfl)) (xgs_cons (xg_name (i := 6) nd rfl (.inl rfl)) xgs_nil))) ?_)
    walk_at "xp"
    refine ⟨_, rfl, _, rfl, rfl, _, _, rfl, _, _, rfl, rfl, ?_⟩
    refine xss_cons (xs_if (xt_val ?_))
    walk_at "xp"
    refine ⟨[_, _], rfl, s, s, hi, lo, rfl, s0, s0, by omega, shi, slo, ?_⟩
    rw [decide_eq_false (Rat.not_lt.mpr hle)]
    refine ⟨_, rfl, iteF ?_⟩
    walk_at "xp"
    refine ⟨[_, _], rfl, s, s, lo, hi, rfl, s0, s0, by omega, slo, shi, ?_⟩
    walk_at "xp"
    refine ⟨[_, _], rfl, Nat.le_of_ble_eq_true rfl, ?_⟩
    walk_at "xp"
    have ssum := slo.add shi
    refine ⟨[_, _], rfl, s + s + 1, 2, lo + hi, q12, rfl, by omega, by omega, by omega, ssum, q12_sz, ?_⟩
    have smid := ssum.mul q12_sz
    obtain ⟨mid1, mid2⟩ := mid_bd hle
    have f1 := (hfit lo).mpr ⟨Rat.le_refl, hle⟩
    have f2 := (hfit hi).mpr ⟨hle, Rat.le_refl⟩
    have f3 := (hfit _).mpr ⟨mid1, mid2⟩
    have z3 := smid.mono (show s + s + 1 + 2 ≤ nt by omega)
    generalize (lo + hi) * q12 = mid at *
    have g1 : ¬ Fit g (ms ++ [⟨a, be, lo - q4⟩]) := fun z => by
      have := ((hfit _).mp z).1
      have := q4_pos
      grind
    have g2 : ¬ Fit g (ms ++ [⟨a, be, hi + q4⟩]) := fun z => by
      have := ((hfit _).mp z).2
      have := q4_pos
      grind
    have z1 := slo.mono (show s ≤ nt by omega)
    have z2 := shi.mono (show s ≤ nt by omega)
    have y1 := (slo.sub q4_sz).mono (show s + 14 + 1 ≤ nt by omega)
    have y2 := (shi.add q4_sz).mono (show s + 14 + 1 ≤ nt by omega)
    walk_at "xp"
    refine xs_for (is := [8]) PassesOwn.never rfl (xg_name (i := 8) nd rfl (.inl rfl)) (xi_tup ?_)
    walk_at "xp"
    refine ⟨[_, _, _], rfl, Nat.le_of_ble_eq_true rfl, ?_⟩
    refine ⟨_, rfl, fun i δ τ => τ = [] ∧ ∃ o, δ = [some (.d (tab g)), some (.d (mks ms)), some (.d (.tuple [fr lo, fr hi])), some (.d (row be)), some (.d (.tuple [fr a])), some (.d (fr lo)), some (.d (fr hi)), some (.d (fr mid)), o], ⟨rfl, _, rfl⟩, fun i d δ τ hd hI => ?_, fun δ τ hI => ?_⟩
    · obtain ⟨rfl, o, rfl⟩ := hI
      have key : ∃ t, d = fr t ∧ Sz nt t ∧ Fit g (ms ++ [⟨a, be, t⟩]) := by
        match i, hd with
        | 0, hd => cases hd; exact ⟨_, rfl, z1, f1⟩
        | 1, hd => cases hd; exact ⟨_, rfl, z2, f2⟩
        | 2, hd => cases hd; exact ⟨_, rfl, z3, f3⟩
      obtain ⟨t, rfl, zt, ft⟩ := key
      show XSs _ _ _ _ _ _
      refine xss_cons (xs_if (xt_not (xt_val ?_)))
      walk_at "xcall"
      refine xa_cons ?_
      walk_at "xv"
      refine xa_cons (xe_catT ?_)
      walk_at "xp"
      refine ⟨[_, _, _], rfl, Nat.le_of_ble_eq_true rfl, ?_⟩
      walk_at "xp"
      refine ⟨[_], rfl, Nat.le_of_ble_eq_true rfl, ?_⟩
      refine r2_catT (xs := ms.map Mk.d) (ys := [Mk.d ⟨a, be, t⟩]) (by simp; omega) ?_
      rw [mks_snoc]
      walk_at "xp"
      refine ⟨[_, _], rfl, m, nr, nt, l, g, _, rfl, hb, snoc t zt, fun _ => ?_, fun z => absurd ft z⟩
      refine ⟨_, rfl, iteF ?_⟩
      exact xss_nil (xss_nil ⟨rfl, rfl, _, rfl⟩)
    · obtain ⟨rfl, o, rfl⟩ := hI
      show XSs _ _ _ _ _ _
      refine xss_cons (xs_for (is := [8]) PassesOwn.never rfl (xg_name (i := 8) nd rfl (.inl rfl)) (xi_tup ?_))
      refine xe_tup (xa_cons ?_)
      walk_at "xp"
      refine xe_pow ?_
      walk_at "xp"
      refine r2_int ⟨by decide, by decide, by decide⟩ ?_
      walk_at "xp"
      refine ⟨[_, _], rfl, Nat.le_of_ble_eq_true rfl, ?_⟩
      walk_at "xp"
      refine ⟨[_, _], rfl, s, 14, lo, q4, rfl, s0, by decide, by omega, slo, q4_sz, ?_⟩
      walk_at "xp"
      refine xe_pow ?_
      walk_at "xp"
      refine r2_int ⟨by decide, by decide, by decide⟩ ?_
      walk_at "xp"
      refine ⟨[_, _], rfl, Nat.le_of_ble_eq_true rfl, ?_⟩
      walk_at "xp"
      refine ⟨[_, _], rfl, s, 14, hi, q4, rfl, s0, by decide, by omega, shi, q4_sz, ?_⟩
      walk_at "xp"
      refine ⟨[_, _], rfl, Nat.le_of_ble_eq_true rfl, ?_⟩
      refine ⟨_, rfl, fun i δ τ => τ = [] ∧ ∃ o, δ = [some (.d (tab g)), some (.d (mks ms)), some (.d (.tuple [fr lo, fr hi])), some (.d (row be)), some (.d (.tuple [fr a])), some (.d (fr lo)), some (.d (fr hi)), some (.d (fr mid)), o], ⟨rfl, _, rfl⟩, fun i d δ τ hd hI => ?_, fun δ τ hI => ?_⟩
      · obtain ⟨rfl, o, rfl⟩ := hI
        have key : ∃ t, d = fr t ∧ Sz nt t ∧ ¬ Fit g (ms ++ [⟨a, be, t⟩]) := by
          match i, hd with
          | 0, hd => cases hd; exact ⟨_, rfl, y1, g1⟩
          | 1, hd => cases hd; exact ⟨_, rfl, y2, g2⟩
        obtain ⟨t, rfl, zt, ft⟩ := key
        show XSs _ _ _ _ _ _
        refine xss_cons (xs_if (xt_val ?_))
        walk_at "xcall"
        refine xa_cons ?_
        walk_at "xv"
        refine xa_cons (xe_catT ?_)
        walk_at "xp"
        refine ⟨[_, _, _], rfl, Nat.le_of_ble_eq_true rfl, ?_⟩
        walk_at "xp"
        refine ⟨[_], rfl, Nat.le_of_ble_eq_true rfl, ?_⟩
        refine r2_catT (xs := ms.map Mk.d) (ys := [Mk.d ⟨a, be, t⟩]) (by simp; omega) ?_
        rw [mks_snoc]
        walk_at "xp"
        refine ⟨[_, _], rfl, m, nr, nt, l, g, _, rfl, hb, snoc t zt, fun z => absurd z ft, fun _ => ?_⟩
        refine ⟨_, rfl, iteF ?_⟩
        exact xss_nil (xss_nil ⟨rfl, rfl, _, rfl⟩)
      · obtain ⟨rfl, o, rfl⟩ := hI
        show XSs _ _ _ _ _ _
        walk_at "xp"
        exact ⟨_, rfl, hP⟩
end

end K10

set_option maxRecDepth 100000
set_option maxHeartbeats 2100000
namespace K10
/-! sizes of what is drawn and told -/
structure GX (k : Nat) (ms : List Mk) : Prop where
  am : ∀ m ∈ ms, m.am ∈ smalls
  be : ∀ m ∈ ms, ∀ q ∈ m.be, q ∈ smalls
  ln : ∀ m ∈ ms, m.be.length = k
  sh : ∀ m ∈ ms, Dm 279936 41473 m.sh
  few : ms.length ≤ 5
theorem dm4 {N M : Nat} {q : Rat} (h : Dm (72 * 6 ^ 4) (162 * 4 ^ 4) q) : Dm 93312 41472 q := h
theorem dm_b3 {q : Rat} (h : Dm 93312 41472 q) : Dm 279936 41472 q := h.base 3
theorem GX.of {k : Nat} {ms : List Mk} (h : GM k 4 ms) (l : ms.length ≤ 4) : GX k ms :=
  ⟨h.am, h.be, h.ln, fun m hm => (dm_b3 (h.sh m hm)).mono (by decide), by omega⟩
def qm23 : Rat := ⟨-2, 3, by decide, by decide⟩
def steps3 : List Rat := [1, 0, qm23]
theorem step_dm {q : Rat} (h : q ∈ steps3) : Dm 3 1 q := by
  have e : q = 1 ∨ q = 0 ∨ q = qm23 := by simpa [steps3] using h
  rcases e with e | e | e <;> subst e
  · exact dm_lit 3 (by decide +kernel) (by decide +kernel) (by decide +kernel)
  · exact dm_lit 0 (by decide +kernel) (by decide +kernel) (by decide +kernel)
  · exact dm_lit (-2) (by decide +kernel) (by decide +kernel) (by decide +kernel)
theorem step_sz {q : Rat} (h : q ∈ steps3) : Sz 4 q := (step_dm h).sz (by decide) (by decide) (by decide)
theorem dm_step {q : Rat} (h : Dm 3 1 q) : Dm 279936 1 q := h.base 93312
theorem GX.more {k : Nat} {ms : List Mk} (h : GM k 4 ms) (l : ms.length ≤ 4) {m : Mk} (hm : m ∈ ms) {d : Rat} (hd : d ∈ steps3) : GX k (ms ++ [⟨m.am, m.be, m.sh + d⟩]) where
  am := fun x hx => by
    rcases List.mem_append.mp hx with e | e
    · exact h.am x e
    · cases List.mem_singleton.mp e; exact h.am m hm
  be := fun x hx => by
    rcases List.mem_append.mp hx with e | e
    · exact h.be x e
    · cases List.mem_singleton.mp e; exact h.be m hm
  ln := fun x hx => by
    rcases List.mem_append.mp hx with e | e
    · exact h.ln x e
    · cases List.mem_singleton.mp e; exact h.ln m hm
  sh := fun x hx => by
    rcases List.mem_append.mp hx with e | e
    · exact (dm_b3 (h.sh x e)).mono (by decide)
    · cases List.mem_singleton.mp e; exact (dm_b3 (h.sh m hm)).add (dm_step (step_dm hd))
  few := by simp; omega
theorem sh_sz {q : Rat} (h : Dm 279936 41473 q) : Sz 40 q := h.sz (by decide) (by decide) (by decide)
section
variable {k : Nat} {ms : List Mk} {g : List (List Rat)}
theorem GX.szM (h : GX k ms) : SzM 4 40 (k + 1) ms := ⟨fun m hm => small_sz (h.am m hm), fun m hm q hq => small_sz (h.be m hm q hq), fun m hm => sh_sz (h.sh m hm), fun m hm => by rw [h.ln m hm]; omega, by have := h.few; omega⟩
theorem GX.szW (h : GX k ms) : SzM 40 4 (k + 1) (ms.map Mk.swap) where
  am := fun m hm => by obtain ⟨x, hx, rfl⟩ := List.mem_map.mp hm; exact sh_sz (h.sh x hx)
  be := fun m hm q hq => by obtain ⟨x, hx, rfl⟩ := List.mem_map.mp hm; exact (small_sz (h.be x hx q hq)).mono (by decide)
  sh := fun m hm => by obtain ⟨x, hx, rfl⟩ := List.mem_map.mp hm; exact small_sz (h.am x hx)
  ln := fun m hm => by obtain ⟨x, hx, rfl⟩ := List.mem_map.mp hm; show x.be.length + 1 ≤ k + 1; rw [h.ln x hx]; omega
  few := by rw [List.length_map]; have := h.few; omega
theorem inv_dm {a : Rat} (h : a ∈ leads) : Dm 6 3 a⁻¹ := by
  have e : a = 1 ∨ a = 2 ∨ a = q12 ∨ a = 3 ∨ a = q23 ∨ a = 1 := by simpa [leads] using h
  rcases e with e | e | e | e | e | e <;> subst e
  · exact dm_lit 6 (by decide +kernel) (by decide +kernel) (by decide +kernel)
  · exact dm_lit 3 (by decide +kernel) (by decide +kernel) (by decide +kernel)
  · exact dm_lit 12 (by decide +kernel) (by decide +kernel) (by decide +kernel)
  · exact dm_lit 2 (by decide +kernel) (by decide +kernel) (by decide +kernel)
  · exact dm_lit 9 (by decide +kernel) (by decide +kernel) (by decide +kernel)
  · exact dm_lit 6 (by decide +kernel) (by decide +kernel) (by decide +kernel)
theorem turns_dm (hg : Gd k g) : ∀ c ∈ turns g, DmAll 12 9 c := by
  intro c hc q hq
  obtain ⟨c', hc', rfl⟩ := List.mem_map.mp hc
  obtain ⟨a, r, rfl, ha, _, hr⟩ := hg.cor c' hc'
  rcases List.mem_cons.mp hq with (e | e)
  · have e2 : (1 : Rat) / a = a⁻¹ := by rw [Rat.div_def]; grind
    rw [e, e2]
    exact ((inv_dm ha).base 2).mono (by decide)
  · obtain ⟨p, hp, rfl⟩ := List.mem_map.mp e
    rw [Rat.div_def]
    exact ((small_dm (hr p hp)).mul (inv_dm ha)).neg
theorem turns_len (hg : Gd k g) : ∀ c ∈ turns g, c.length ≤ k + 1 := by
  intro c hc
  obtain ⟨c', hc', rfl⟩ := List.mem_map.mp hc
  obtain ⟨a, r, rfl, _, hl, _⟩ := hg.cor c' hc'
  show (r.map _).length + 1 ≤ k + 1
  rw [List.length_map]; omega
theorem DmAll.base {N M : Nat} {qs : List Rat} (h : DmAll N M qs) (b : Nat) : DmAll (N * b) M qs := fun q hq => (h q hq).base b
theorem dm_sm {q : Rat} (h : Dm 2 3 q) : Dm 279936 3 q := h.base 139968
theorem told_dm (hg : Gd k g) (hk : k ≤ 2) (hm : GX k ms) {r : List Rat} (hr : ∀ q ∈ r, q ∈ smalls) {q : Rat} (h : lows (turns g) r (ms.map Mk.swap) = some q) : Sz 42 q := by
  obtain ⟨_, m', hm', e⟩ := lows_spec h
  obtain ⟨m, hmm, rfl⟩ := List.mem_map.mp hm'
  have d1 : DmAll 279936 41473 m.swap.row := fun p hp => by
    rcases List.mem_cons.mp hp with (e | e)
    · rw [e]; exact hm.sh m hmm
    · exact (dm_sm (small_dm (hm.be m hmm p e))).mono (by decide)
  have d2 : DmAll 279936 3 r := fun p hp => dm_sm (small_dm (hr p hp))
  have d3 := dear_dm (l := 3) (turns_dm hg) (fun c hc => by have := turns_len hg c hc; omega) (apart_dm d1 d2) (turns_ne hg.ne)
  have d4 : Dm 3359232 1119852 (dear (turns g) (apart m.swap.row r)) := d3
  have d5 : Dm 3359232 3 m.swap.sh := (small_dm (hm.am m hmm)).base 1679616
  have d6 : Dm 3359232 1119855 q := by
    rw [e]; exact d5.add d4.neg
  exact d6.sz (by decide) (by decide) (by decide)
end
section
variable {m nr nt l : Nat} {g : List (List Rat)} {ms : List Mk} {r : List Rat}
theorem lows_sz (hg : SzT m l g) (hms : SzM nr nt l ms) (hr : SzAll nr r) (hne : g ≠ []) {q : Rat} (h : lows g r ms = some q) : Sz (nt + (1 + l * (m + (nr + nr + 1) + 1)) + 1) q := by
  obtain ⟨_, x, hx, e⟩ := lows_spec h
  rw [e]
  exact (hms.sh x hx).add (dear_sz hg (apart_sz (hms.row hx) hr) hne).neg
theorem highs_sz (hg : SzT m l g) (hms : SzM nr nt l ms) (hr : SzAll nr r) (hne : g ≠ []) {q : Rat} (h : highs g r ms = some q) : Sz (nt + (1 + l * (m + (nr + nr + 1) + 1)) + 1) q := by
  obtain ⟨_, x, hx, e⟩ := highs_spec h
  rw [e]
  exact (hms.sh x hx).add (dear_sz hg (apart_sz hr (hms.row hx)) hne)
theorem SzM.mono {nr' nt' : Nat} (h : SzM nr nt l ms) (h1 : nr ≤ nr') (h2 : nt ≤ nt') : SzM nr' nt' l ms := ⟨fun m hm => (h.am m hm).mono h1, fun m hm => (h.be m hm).mono h1, fun m hm => (h.sh m hm).mono h2, h.ln, h.few⟩
end
/-! what is right of a drawn gauge and marks that fit -/
theorem swap_snoc (ms : List Mk) (a b : Rat) (be : List Rat) : (ms ++ [(⟨a, be, b⟩ : Mk)]).map Mk.swap = ms.map Mk.swap ++ [(⟨b, be, a⟩ : Mk)] := by rw [List.map_append]; rfl
theorem gd_hd {k : Nat} {g : List (List Rat)} (hg : Gd k g) : ∀ c ∈ g, ∃ a r, c = a :: r ∧ 0 < a ∧ r.length = k := hg.gau.hd
theorem okd_fr (n : Nat) (q : Rat) : Okd (n + 1) (fr q) := .tup (by show 2 ≤ 10000; decide) fun x hx => by
  have e : x = .int q.num ∨ x = .int (q.den : Int) := by simpa using hx
  rcases e with e | e <;> rw [e] <;> exact .int _ _
theorem okd_od (n : Nat) (o : Option Rat) : Okd (n + 1) (od o) := by
  cases o with
  | none => exact .non _
  | some q => exact okd_fr n q
theorem okd_btw (n : Nat) (g : List (List Rat)) (r : List Rat) (ms : List Mk) : Okd (n + 2) (btw g r ms) := .tup (by show 2 ≤ 10000; decide) fun x hx => by
  have e : x = od (lows g r ms) ∨ x = od (highs g r ms) := by simpa using hx
  rcases e with e | e <;> rw [e] <;> exact okd_od n _
theorem okd_two {n : Nat} {x y : Dt} (hx : Okd n x) (hy : Okd n y) : Okd (n + 1) (.list [x, y]) := .lst (by show 2 ≤ 10000; decide) fun z hz => by
  have e : z = x ∨ z = y := by simpa using hz
  rcases e with e | e <;> rw [e] <;> assumption
end K10

set_option maxRecDepth 100000
set_option maxHeartbeats 4100000
set_option pp.maxSteps 1500
namespace K10
open L2 PyProof.Rows PySem.Spec PySem
local macro_rules | `(tactic| walk_at "xv") => `(tactic| first
  | refine xe_var (i := 0) rfl ?_ | refine xe_var (i := 1) rfl ?_ | refine xe_var (i := 2) rfl ?_ | refine xe_var (i := 3) rfl ?_
  | refine xe_var (i := 4) rfl ?_ | refine xe_var (i := 5) rfl ?_ | refine xe_var (i := 6) rfl ?_ | refine xe_var (i := 7) rfl ?_
  | refine xe_var (i := 8) rfl ?_ | refine xe_var (i := 9) rfl ?_ | refine xe_var (i := 10) rfl ?_ | refine xe_var (i := 11) rfl ?_
  | refine xe_var (i := 12) rfl ?_ | refine xe_var (i := 13) rfl ?_ | refine xe_var (i := 14) rfl ?_ | refine xe_var (i := 15) rfl ?_ | refine xe_var (i := 16) rfl ?_ | refine xe_var (i := 17) rfl ?_)
local macro_rules | `(tactic| walk_at "xset") => `(tactic| first
  | refine xs_set (i := 0) (by assumption) rfl (by first | exact .inl rfl | exact .inr rfl) ?_ | refine xs_set (i := 1) (by assumption) rfl (by first | exact .inl rfl | exact .inr rfl) ?_
  | refine xs_set (i := 2) (by assumption) rfl (by first | exact .inl rfl | exact .inr rfl) ?_ | refine xs_set (i := 3) (by assumption) rfl (by first | exact .inl rfl | exact .inr rfl) ?_
  | refine xs_set (i := 4) (by assumption) rfl (by first | exact .inl rfl | exact .inr rfl) ?_ | refine xs_set (i := 5) (by assumption) rfl (by first | exact .inl rfl | exact .inr rfl) ?_
  | refine xs_set (i := 6) (by assumption) rfl (by first | exact .inl rfl | exact .inr rfl) ?_ | refine xs_set (i := 7) (by assumption) rfl (by first | exact .inl rfl | exact .inr rfl) ?_
  | refine xs_set (i := 8) (by assumption) rfl (by first | exact .inl rfl | exact .inr rfl) ?_ | refine xs_set (i := 9) (by assumption) rfl (by first | exact .inl rfl | exact .inr rfl) ?_
  | refine xs_set (i := 10) (by assumption) rfl (by first | exact .inl rfl | exact .inr rfl) ?_ | refine xs_set (i := 11) (by assumption) rfl (by first | exact .inl rfl | exact .inr rfl) ?_)
local macro_rules | `(tactic| walk_at "xset'") => `(tactic| first | refine xs_set (i := 12) (by assumption) rfl (by first | exact .inl rfl | exact .inr rfl) ?_ | refine xs_set (i := 13) (by assumption) rfl (by first | exact .inl rfl | exact .inr rfl) ?_ | refine xs_set (i := 14) (by assumption) rfl (by first | exact .inl rfl | exact .inr rfl) ?_ | refine xs_set (i := 15) (by assumption) rfl (by first | exact .inl rfl | exact .inr rfl) ?_ | refine xs_set (i := 16) (by assumption) rfl (by first | exact .inl rfl | exact .inr rfl) ?_ | refine xs_set (i := 17) (by assumption) rfl (by first | exact .inl rfl | exact .inr rfl) ?_)
local macro_rules | `(tactic| walk_at "xname") => `(tactic| first
  | refine xg_name (i := 0) (by assumption) rfl (by first | exact .inl rfl | exact .inr rfl) | refine xg_name (i := 1) (by assumption) rfl (by first | exact .inl rfl | exact .inr rfl)
  | refine xg_name (i := 2) (by assumption) rfl (by first | exact .inl rfl | exact .inr rfl) | refine xg_name (i := 3) (by assumption) rfl (by first | exact .inl rfl | exact .inr rfl)
  | refine xg_name (i := 4) (by assumption) rfl (by first | exact .inl rfl | exact .inr rfl) | refine xg_name (i := 5) (by assumption) rfl (by first | exact .inl rfl | exact .inr rfl)
  | refine xg_name (i := 6) (by assumption) rfl (by first | exact .inl rfl | exact .inr rfl) | refine xg_name (i := 7) (by assumption) rfl (by first | exact .inl rfl | exact .inr rfl)
  | refine xg_name (i := 8) (by assumption) rfl (by first | exact .inl rfl | exact .inr rfl) | refine xg_name (i := 9) (by assumption) rfl (by first | exact .inl rfl | exact .inr rfl)
  | refine xg_name (i := 10) (by assumption) rfl (by first | exact .inl rfl | exact .inr rfl) | refine xg_name (i := 11) (by assumption) rfl (by first | exact .inl rfl | exact .inr rfl))
local macro_rules | `(tactic| walk_at "xcall") => `(tactic|
  (refine xe_call (by assumption) (Room.mono (by assumption) (by decide)) ?_))
local macro_rules | `(tactic| walk_at "x1") => `(tactic| first
  | refine xa_nil ?_ | refine xa_cons ?_ | refine xe_int ?_ | refine xe_bl ?_ | refine xe_non ?_ | refine xe_str ?_
  | walk_at "xv"
  | refine xe_tup ?_ | refine xe_lst ?_
  | refine xe_sub ?_
  | refine xe_ixT ?_
  | refine xe_neg ?_
  | refine xss_nil ?_ | refine xss_cons ?_ | refine xs_ret ?_ | walk_at "xset" | refine xs_if ?_
  | refine r2_int0 ?_ | refine r2_bool0 ?_ | refine r2_eqI ?_ | refine r2_neI ?_ | refine r1_neg ?_ | refine r2_ix0 ?_ | refine r2_ix1 ?_ | refine r2_ix2 ?_
  | refine xt_lt ?_ | refine xt_le ?_ | refine xt_gt ?_ | refine xt_ge ?_
  | refine xe_lt ?_ | refine xe_le ?_ | refine xe_gt ?_ | refine xe_ge ?_
  | refine xt_not ?_
  | walk_at "xcall")
local macro_rules | `(tactic| walk_at "xp") => `(tactic| repeat (walk_at "x1"))
/-! ### law_right -/
/-- data of small depth that can be laid -/
def Shp (n : Nat) (d : Dt) : Prop := PyData.canLay0 d = true ∧ PyData.depth d ≤ n
theorem shp_all {n : Nat} : ∀ {xs : List Dt}, (∀ x ∈ xs, Shp n x) → PyData.canLayAll0 xs = true ∧ PyData.depthAll xs ≤ n
  | [], _ => ⟨rfl, Nat.zero_le _⟩
  | x :: xs, h => by
    obtain ⟨h1, h2⟩ := h x List.mem_cons_self
    obtain ⟨h3, h4⟩ := shp_all (xs := xs) fun y hy => h y (List.mem_cons_of_mem _ hy)
    refine ⟨?_, Nat.max_le.mpr ⟨h2, h4⟩⟩
    show (PyData.canLay0 x && PyData.canLayAll0 xs) = true
    rw [h1, h3]; rfl
theorem shp_tup {n : Nat} {xs : List Dt} (h : ∀ x ∈ xs, Shp n x) : Shp (n + 1) (.tuple xs) := ⟨(shp_all h).1, Nat.succ_le_succ (shp_all h).2⟩
theorem shp_fr (q : Rat) : Shp 1 (fr q) := shp_tup fun x hx => by
  have e : x = .int q.num ∨ x = .int (q.den : Int) := by simpa using hx
  rcases e with e | e <;> rw [e] <;> exact ⟨rfl, Nat.le_refl _⟩
theorem shp_up {m n : Nat} {d : Dt} (h : Shp m d) (k : m ≤ n) : Shp n d := ⟨h.1, Nat.le_trans h.2 k⟩
theorem shp_row (qs : List Rat) : Shp 2 (row qs) := shp_tup fun x hx => by
  obtain ⟨q, _, rfl⟩ := List.mem_map.mp hx
  exact shp_fr q
theorem shp_mk (m : Mk) : Shp 3 m.d := shp_tup fun x hx => by
  have e : x = fr m.am ∨ x = row m.be ∨ x = fr m.sh := by simpa using hx
  rcases e with e | e | e <;> rw [e]
  · exact shp_up (shp_fr _) (by decide)
  · exact shp_row _
  · exact shp_up (shp_fr _) (by decide)
theorem shp_mks (ms : List Mk) : SeqAt.shaped (mks ms) = true := by
  have h : Shp 4 (mks ms) := shp_tup fun x hx => by
    obtain ⟨m, _, rfl⟩ := List.mem_map.mp hx
    exact shp_mk m
  unfold SeqAt.shaped
  rw [Bool.and_eq_true]
  exact ⟨h.1, decide_eq_true (Nat.le_trans h.2 (by decide))⟩
theorem eqv_mks (ms : List Mk) : PyData.eqv (mks ms) (.tuple []) = decide (ms = []) := by cases ms <;> rfl
theorem Tup.up {n : Nat} {x y : Dt} (h : Tup n x y) : Tup (n + 1) x y := by
  induction h with
  | int n i => exact .int _ _
  | tup h1 h2 _ ih => exact .tup h1 h2 ih
  | lst h1 h2 _ ih => exact .lst h1 h2 ih
theorem tup_sgt (n : Nat) {be : List Rat} {sh : Rat} (h : be.length ≤ 10000) : Tup (n + 3) (sgt be sh) (sgt be sh) := .tup rfl (by show 2 ≤ 10000; decide) fun i x y h1 h2 => by
  rw [h1] at h2
  cases h2
  match i, h1 with
  | 0, h1 => cases h1; exact tup_row _ h
  | 1, h1 => cases h1; exact tup_fr _ _
section
variable {K : Fg} {U : List Addr} {P : W → Prop}
/-- xs * 2 -/
theorem r2_rep2 {xs : List Dt} (hl : xs.length ≤ 1000) (h : P (.d (.list (xs ++ (xs ++ []))))) : R2D K U rRep (.d (.list xs)) (.d (.int 2)) P := fun v u H ex rv ru Q q => by
  have e2 := Rp.int_inv ru
  subst e2
  obtain ⟨a, vs, rfl, q1, q2⟩ := Rp.lst_inv rv
  exact ⟨a, 2, vs, rfl, rfl, hide_le _ _ q1, by decide, by decide, by rw [q2.length]; exact Nat.le_trans (Nat.mul_le_mul_right _ hl) (by decide), fun p hp => q _ (.d (.list (xs ++ (xs ++ [])))) _ (same_new hp) (rp_newL ex hp (q2.append (q2.append .nil))) h⟩
end
/-- what lists() makes of data is told the same -/
theorem tup_of {n : Nat} {x : Dt} (h : Tup n x x) : Tup n (lisD n x) x := tup_lis h rfl
abbrev R_right : RT := fun ys ds P => ∃ (a b : Int), ys = tin a b 0 ∧ ds = [] ∧ ∀ ys', P (.bool true) ys'
theorem swap_szM' {nr l : Nat} {ms : List Mk} (h : SzM nr nr l ms) : SzM nr nr l (ms.map Mk.swap) where
  am := fun m hm => by obtain ⟨m', h', rfl⟩ := List.mem_map.mp hm; exact h.sh m' h'
  be := fun m hm => by obtain ⟨m', h', rfl⟩ := List.mem_map.mp hm; exact h.be m' h'
  sh := fun m hm => by obtain ⟨m', h', rfl⟩ := List.mem_map.mp hm; exact h.am m' h'
  ln := fun m hm => by obtain ⟨m', h', rfl⟩ := List.mem_map.mp hm; exact h.ln m' h'
  few := by rw [List.length_map]; exact h.few
section
variable {P : Program} {w : World} {K : Fg} {mg : Str → Option Value} {base : Heap} {f : Addr} {fd : FuncData}
abbrev D_right (l : Addr) (Pr : Dt → List Dt → Prop) : DE := { nx := fun _ _ τ => ∃ ys', memAt τ l = some ys' ∧ Pr .none ys', rt := fun v τ => ∃ d ys', v = .d d ∧ memAt τ l = some ys' ∧ Pr d ys' }
abbrev R_own_turned : RR := fun ds P => ∃ (n k : Nat) (g : List (List Rat)), ds = [tab g] ∧ 0 < n ∧ n ≤ 3000 ∧ k ≤ 1000 ∧ Gau n k g ∧ ∀ g' : List (List Rat), g'.Perm (turns g) → P (tab g')
abbrev R_own_between : RR := fun ds P => ∃ (m nr nt l : Nat) (g : List (List Rat)) (ms : List Mk) (r : List Rat), ds = [tab g, mks ms, row r] ∧ Bnd m nr nt l g ∧ SzM nr nt l ms ∧ SzAll nr r ∧ r.length ≤ l ∧ P (btw g r ms)
abbrev R_swapped : RR := fun ds P => ∃ ms : List Mk, ds = [mks ms] ∧ ms.length ≤ 1000 ∧ P (mks (ms.map Mk.swap))
abbrev R_are_long : RR := fun ds P => ∃ a b c d : Rat, ds = [.tuple [row [a, b], row [c, d]], .tuple [.int 2, .int 2]] ∧ P (.bool true)
/-- what law_right calls -/
structure RightH (P : Program) (w : World) (K : Fg) (mg : Str → Option Value) (base : Heap) (C : Addr) : Prop where
  take : Has P w K mg base CX0 1 "_law_take" p_L_take (spT K R_take)
  of : Has P w K mg base CX0 2 "_law_of" p_L_of (spT K R_of)
  small : Has P w K mg base CX0 3 "_law_small" p_L_small (spT K R_small)
  row : Has P w K mg base CX0 4 "_law_row" p_L_row (spT K R_row)
  gauge : Has P w K mg base CX0 5 "_law_any_gauge" p_L_any_gauge (spT K R_any_gauge)
  fitting : Has P w K mg base CX0 8 "_law_fitting_marks" p_L_fitting_marks (spT K R_fitting)
  sum : Has P w K mg base CX0 3 "_law_sum" p_L_sum (spP K R_plus)
  turned : Has P w K mg base CX0 4 "_law_own_turned" p_L_own_turned (spP K R_own_turned)
  heard : Has P w K mg base CX0 12 "_law_heard" p_L_heard (spP K R_heard)
  lists : Has P w K mg base CX0 6 "_law_lists" p_L_lists (spP K (R_lists 5))
  same : Has P w K mg base CX0 4 "_law_same" p_L_same (spP K (R_same 3))
  fit : Has P w K mg base CX0 7 "_law_marks_fit" p_L_marks_fit (spP K R_lmf)
  pfit : Has P w K mg base CX0 9 "marks_fit" p_marks_fit (spP K R_marks_fit)
  swapped : Has P w K mg base CX0 1 "_law_swapped" p_L_swapped (spP K R_swapped)
  between : Has P w K mg base CX0 6 "_law_own_between" p_L_own_between (spP K R_own_between)
  ends : Has P w K mg base CX0 8 "_law_ends_right" p_L_ends_right (spP K R_ends)
  amounts : Has P w K mg base (L2.CX P w) 11 "amounts_between" p_amounts_between (spX K C R_amounts)
  long : Has P w K mg base CX0 4 "_law_are_long" p_L_are_long (spP K R_are_long)
  under : Has P w K mg base CX0 1 "_law_under" p_L_under (spP K R_below)
theorem right_fit {C : Addr} (h : RightH P w K mg base C) {X : Cx} (hX : ∃ cdv A outer s H E, X = cx0 P w K mg base n_L_right "_law_right" s_L_right f cdv A outer s H E) (hr : Room 13 X.A) {B : Bs} {l : Addr} {k : Nat} {g : List (List Rat)} {ms : List Mk} (hk : k ≤ 2) (hg : Gd k g) (hm : GX k ms)
    {a b c : Int} (c0 : 0 ≤ c) (c1 : c < 200000) (o o12 o13 : Option W) {am sh : Rat} {be : List Rat} {back : List (List Rat)} (ham : am ∈ smalls) (hbe : ∀ q ∈ be, q ∈ smalls) (hbl : be.length = k) (hsh : sh ∈ smalls) (samb : ∀ c, c ∈ back ↔ c ∈ turns g) (lnb : back.length ≤ 4) (ft : Fit g ms) (hne : ms ≠ [])
    {Pr : Dt → List Dt → Prop} (hP : ∀ ys', Pr (.bool true) ys') :
    XSs X B [some (.m l), some (.d (.int (k : Int))), some (.d (tab g)), some (.d (mks ms)), o, some (.d (fr am)), some (.d (row be)), some (.d (fr sh)), some (.d (sgt be sh)), some (.d (tab back)), some (.d (btw (turns g) (sh :: be) (ms.map Mk.swap))), some (.d (btw g (am :: be) ms)), o12, o13, none, none, none, none]
      [(l, tin a b c)] ((defBody s_L_right).drop 12) (D_right l Pr) := by
  obtain ⟨cdv, A, outer, s, H, E, rfl⟩ := hX
  have nd := sc_L_right.nd
  obtain ⟨hTk, hOf, hSm, hRw, hGg, hFt, hSu, hTu, hHe, hLs, hSa, hFi, hPf, hSw, hBt, hEn, hAm, hLo, hUn⟩ := h
  have gau := hg.gau
  have ms1 := hm.szM
  have ms2 := hm.szW
  have fw := hm.few
  have gfw := hg.few
  have iff1 : Fit (turns g) (ms.map Mk.swap) ↔ Fit g ms := fit_turn hg.ne (gd_hd hg) hm.ln
  have zab : SzAll 4 (am :: be) := fun q hq => by
    rcases List.mem_cons.mp hq with (e | e)
    · rw [e]; exact small_sz ham
    · exact small_sz (hbe q e)
  have zsb : SzAll 4 (sh :: be) := fun q hq => by
    rcases List.mem_cons.mp hq with (e | e)
    · rw [e]; exact small_sz hsh
    · exact small_sz (hbe q e)
  have zsb40 : SzAll 40 (sh :: be) := zsb.mono (by decide)
  have szg := gau.szt
  have szt := turns_szt gau (by decide)
  have szb : SzT 10 (k + 1) back := szt_same samb szt
  have net := turns_ne hg.ne
  have neb : back ≠ [] := ne_same samb net
  have tg : Tup 5 (tab g) (tab g) := tup_tab 2 (by omega) (fun c hc => by have := szg.ln c hc; omega)
  have tm : Tup 5 (mks ms) (mks ms) := tup_mks 1 (by omega) (fun m h => by rw [hm.ln m h]; omega)
  have hneW : ms.map Mk.swap ≠ [] := by simpa using hne
  have ftW := iff1.mpr ft
  have lnW : ∀ m ∈ ms.map Mk.swap, m.be.length = be.length := fun m hm' => by
    obtain ⟨x, hx, rfl⟩ := List.mem_map.mp hm'
    rw [hbl]; exact hm.ln x hx
  have ln1 : ∀ m ∈ ms, m.be.length = be.length := fun m hm' => by rw [hbl]; exact hm.ln m hm'
  obtain ⟨lo1, el1⟩ := lows_some (g := g) (r := am :: be) hne
  obtain ⟨hi1, eh1⟩ := highs_some (g := g) (r := am :: be) hne
  obtain ⟨lo2, el2⟩ := lows_some (g := turns g) (r := sh :: be) hneW
  obtain ⟨hi2, eh2⟩ := highs_some (g := turns g) (r := sh :: be) hneW
  obtain ⟨le1, en1⟩ := ends hg.ne ft ln1 el1 eh1
  obtain ⟨le2, en2⟩ := ends net ftW lnW el2 eh2
  have s1 : Sz 87 lo1 := (lows_sz szg ms1 zab hg.ne el1).mono (by omega)
  have s2 : Sz 87 hi1 := (highs_sz szg ms1 zab hg.ne eh1).mono (by omega)
  have s3 : Sz 300 lo2 := (lows_sz szt ms2 zsb40 net el2).mono (by omega)
  have s4 : Sz 300 hi2 := (highs_sz szt ms2 zsb40 net eh2).mono (by omega)
  have s5 : Sz 42 lo2 := told_dm hg hk hm (fun q hq => by
    rcases List.mem_cons.mp hq with (e | e)
    · rw [e]; exact hsh
    · exact hbe q e) el2
  have bt1 : btw g (am :: be) ms = .tuple [fr lo1, fr hi1] := by unfold btw; rw [el1, eh1]; rfl
  have bt2 : btw (turns g) (sh :: be) (ms.map Mk.swap) = .tuple [fr lo2, fr hi2] := by unfold btw; rw [el2, eh2]; rfl
  rw [bt1, bt2]
  have b1 : Bnd 5 4 200 (k + 1) g := ⟨by decide, by decide, by decide, by decide, szg, by omega, by omega, by omega, hg.ne⟩
  have b2 : Bnd 10 40 700 (k + 1) back := ⟨by decide, by decide, by decide, by decide, szb, by omega, by omega, by omega, neb⟩
  refine xss_cons (xs_if (xt_not (xt_val ?_)))
  walk_at "xp"
  refine ⟨[_], rfl, Nat.le_of_ble_eq_true rfl, ?_⟩
  walk_at "xp"
  refine ⟨[_, _, _, _, _], rfl, 5, 4, 200, k + 1, 87, g, ms, am, be, lo1, hi1, rfl, b1, ms1.mono (by decide) (by decide), zab, by omega, by omega, by decide, s1, s2, by decide, le1, en1, ?_⟩
  refine ⟨_, rfl, iteF (xss_nil ?_)⟩
  refine xss_cons (xs_if (xt_not (xt_val ?_)))
  walk_at "xp"
  refine ⟨[_], rfl, ms, rfl, by omega, ?_⟩
  walk_at "xp"
  refine ⟨[_], rfl, Nat.le_of_ble_eq_true rfl, ?_⟩
  walk_at "xp"
  refine ⟨[_, _, _, _, _], rfl, 10, 40, 700, k + 1, 300, back, ms.map Mk.swap, sh, be, lo2, hi2, rfl, b2, ms2.mono (by decide) (by decide), zsb40, by omega, by rw [List.length_map]; omega, by decide, s3, s4, by decide, le2, fun t => (fit_same samb _).trans (en2 t), ?_⟩
  refine ⟨_, rfl, iteF (xss_nil ?_)⟩
  /- more -/
  refine xss_cons ?_
  walk_at "xset'"
  refine xe_catT ?_
  walk_at "xp"
  refine ⟨[_, _, _], rfl, Nat.le_of_ble_eq_true rfl, ?_⟩
  walk_at "xp"
  refine ⟨[_], rfl, Nat.le_of_ble_eq_true rfl, ?_⟩
  refine r2_catT (xs := ms.map Mk.d) (ys := [Mk.d ⟨lo2, be, sh⟩]) (by simp; omega) ?_
  rw [mks_snoc]
  have ftM : Fit (turns g) ((ms ++ [(⟨lo2, be, sh⟩ : Mk)]).map Mk.swap) := by
    rw [swap_snoc]
    exact (en2 lo2).mpr ⟨Rat.le_refl, le2⟩
  have lnM : ∀ m ∈ ms ++ [(⟨lo2, be, sh⟩ : Mk)], m.be.length = k := fun m hm' => by
    rcases List.mem_append.mp hm' with e | e
    · exact hm.ln m e
    · cases List.mem_singleton.mp e; exact hbl
  have ftN : Fit g (ms ++ [(⟨lo2, be, sh⟩ : Mk)]) := (fit_turn hg.ne (gd_hd hg) lnM).mp ftM
  have zM : SzM 42 42 (k + 1) (ms ++ [(⟨lo2, be, sh⟩ : Mk)]) := szM_snoc (ms1.mono (by decide) (by decide)) (fun q hq => by
    rcases List.mem_cons.mp hq with (e | e)
    · rw [e]; exact s5
    · exact (small_sz (hbe q e)).mono (by decide)) ((small_sz hsh).mono (by decide)) (by show be.length + 1 ≤ k + 1; omega) (by omega)
  have zMW : SzM 42 42 (k + 1) ((ms ++ [(⟨lo2, be, sh⟩ : Mk)]).map Mk.swap) := by
    have e := swap_szM' zM
    exact e
  have lM : (ms ++ [(⟨lo2, be, sh⟩ : Mk)]).length ≤ 6 := by simp; omega
  have tM : Tup 5 (mks (ms ++ [(⟨lo2, be, sh⟩ : Mk)])) (mks (ms ++ [(⟨lo2, be, sh⟩ : Mk)])) := tup_mks 1 (by omega) (fun m h => by rw [lnM m h]; omega)
  have neM : (ms ++ [(⟨lo2, be, sh⟩ : Mk)]).map Mk.swap ≠ [] := by simp
  have lnMW : ∀ m ∈ (ms ++ [(⟨lo2, be, sh⟩ : Mk)]).map Mk.swap, m.row.length = k + 1 := fun m hm' => by
    obtain ⟨x, hx, rfl⟩ := List.mem_map.mp hm'
    show x.be.length + 1 = k + 1
    rw [lnM x hx]
  have swM := swap_snoc ms lo2 sh be
  generalize (ms ++ [(⟨lo2, be, sh⟩ : Mk)]) = more at *
  show XSs _ _ _ _ _ _
  refine xss_cons ?_
  walk_at "xset'"
  refine xe_callT hRw (hr.mono (by decide)) ?_
  walk_at "xp"
  refine ⟨l, [_], tin a b c, rfl, memAt_head, a, b, c, k, rfl, rfl, by omega, by omega, by omega, fun oth ys2 hol hos ht2 => ?_⟩
  obtain ⟨a2, c2, rfl, d3, d4⟩ := ht2
  rw [memPut_head (by simp)]
  have zob : SzAll 42 (am :: oth) := fun q hq => by
    rcases List.mem_cons.mp hq with (e | e)
    · rw [e]; exact (small_sz ham).mono (by decide)
    · exact (small_sz (hos q e)).mono (by decide)
  have ms3 := ms2.mono (nr' := 42) (nt' := 42) (by decide) (by decide)
  obtain ⟨wl, ewl⟩ := lows_some (g := turns g) (r := am :: oth) hneW
  obtain ⟨wh, ewh⟩ := highs_some (g := turns g) (r := am :: oth) hneW
  obtain ⟨ll, ell⟩ := lows_some (g := turns g) (r := am :: oth) neM
  obtain ⟨lh, elh⟩ := highs_some (g := turns g) (r := am :: oth) neM
  have bw : btw (turns g) (am :: oth) (ms.map Mk.swap) = .tuple [fr wl, fr wh] := by unfold btw; rw [ewl, ewh]; rfl
  have bl : btw (turns g) (am :: oth) (more.map Mk.swap) = .tuple [fr ll, fr lh] := by unfold btw; rw [ell, elh]; rfl
  have n1 : wl ≤ ll := lows_more ewl (swM ▸ ell)
  have n2 : lh ≤ wh := highs_more ewh (swM ▸ elh)
  have n3 : ll ≤ lh := by
    obtain ⟨_, m1, hm1, e1⟩ := lows_spec ell
    obtain ⟨_, m2, hm2, e2⟩ := highs_spec elh
    rw [e1, e2]
    exact lo_le_hi net ftM (fun m hm' => by rw [lnMW m hm', List.length_cons, hol]) hm1 hm2
  have z1 : Sz 400 wl := (lows_sz szt ms3 zob net ewl).mono (by omega)
  have z2 : Sz 400 wh := (highs_sz szt ms3 zob net ewh).mono (by omega)
  have z3 : Sz 400 ll := (lows_sz szt zMW zob net ell).mono (by omega)
  have z4 : Sz 400 lh := (highs_sz szt zMW zob net elh).mono (by omega)
  have to : Tup 5 (sgt oth am) (sgt oth am) := tup_sgt 2 (by omega)
  show XSs _ _ _ _ _ _
  refine xss_cons (xs_par (i := 16) (j := 17) rfl nd rfl rfl (by decide) rfl rfl rfl ?_)
  refine xa_cons (xe_callX0 hAm (hr.mono (by decide)) ?_)
  walk_at "xp"
  refine ⟨[_, _], rfl, Nat.le_of_ble_eq_true rfl, ?_⟩
  walk_at "xp"
  refine ⟨[_, _, _], rfl, _, _, _, 5, k, 42, 42, g, ms, am, oth, rfl, tg, tm, to, by decide, by decide, by decide, by decide, by decide, gau, hk, ms3, zob, by omega, by omega, fun _ => ?_, fun z => absurd ftW z⟩
  rw [bw]
  refine xa_cons (xe_callX0 hAm (hr.mono (by decide)) ?_)
  walk_at "xp"
  refine ⟨[_, _], rfl, Nat.le_of_ble_eq_true rfl, ?_⟩
  walk_at "xp"
  refine ⟨[_, _, _], rfl, _, _, _, 5, k, 42, 42, g, more, am, oth, rfl, tg, tM, to, by decide, by decide, by decide, by decide, by decide, gau, hk, zMW, zob, by omega, by omega, fun _ => ?_, fun z => absurd ftM z⟩
  rw [bl]
  refine xa_nil ⟨_, _, rfl, ?_⟩
  show XSs _ _ _ _ _ _
  refine xss_cons (xs_if (xt_w (xw_or (xt_not (xt_val ?_)))))
  walk_at "xp"
  refine ⟨[_, _], rfl, Nat.le_of_ble_eq_true rfl, ?_⟩
  walk_at "xp"
  refine ⟨[_, _], rfl, Nat.le_of_ble_eq_true rfl, ?_⟩
  walk_at "xp"
  refine ⟨[_, _], rfl, wl, wh, ll, lh, rfl, ?_⟩
  refine ⟨_, rfl, iteF (xw_or1 (xt_notB ?_))⟩
  walk_at "xp"
  refine ⟨[_, _], rfl, _, _, 5, 42, 42, k + 1, g, more, rfl, tg, tM, by decide, by decide, by decide, by decide, szg, zM, by omega, by omega, by omega, hg.ne, fun _ => ?_, fun z => absurd ftN z⟩
  walk_at "xp"
  refine r2_notB ?_
  refine ⟨_, rfl, iteF (xss_nil ?_)⟩
  refine xss_cons (xs_ret (xe_andV (xe_notV ?_)))
  walk_at "xp"
  refine ⟨[_, _], rfl, 400, 400, ll, wl, rfl, by decide, by decide, by decide, z3, z1, ?_⟩
  rw [decide_eq_false (Rat.not_lt.mpr n1)]
  refine ⟨_, rfl, _, rfl, iteT (xe_andV (xe_notV ?_))⟩
  walk_at "xp"
  refine ⟨[_, _], rfl, 400, 400, wh, lh, rfl, by decide, by decide, by decide, z2, z4, ?_⟩
  rw [decide_eq_false (Rat.not_lt.mpr n2)]
  refine ⟨_, rfl, _, rfl, iteT (xe_one (xe_notV ?_))⟩
  walk_at "xp"
  refine ⟨[_, _], rfl, 400, 400, lh, ll, rfl, by decide, by decide, by decide, z4, z3, ?_⟩
  rw [decide_eq_false (Rat.not_lt.mpr n3)]
  exact ⟨_, rfl, _, _, rfl, memAt_head, hP _⟩
end

end K10

set_option maxRecDepth 100000
set_option maxHeartbeats 4100000
set_option pp.maxSteps 1500
namespace K10
open L2 PyProof.Rows PySem.Spec PySem
local macro_rules | `(tactic| walk_at "xv") => `(tactic| first
  | refine xe_var (i := 0) rfl ?_ | refine xe_var (i := 1) rfl ?_ | refine xe_var (i := 2) rfl ?_ | refine xe_var (i := 3) rfl ?_
  | refine xe_var (i := 4) rfl ?_ | refine xe_var (i := 5) rfl ?_ | refine xe_var (i := 6) rfl ?_ | refine xe_var (i := 7) rfl ?_
  | refine xe_var (i := 8) rfl ?_ | refine xe_var (i := 9) rfl ?_ | refine xe_var (i := 10) rfl ?_ | refine xe_var (i := 11) rfl ?_
  | refine xe_var (i := 12) rfl ?_ | refine xe_var (i := 13) rfl ?_ | refine xe_var (i := 14) rfl ?_ | refine xe_var (i := 15) rfl ?_ | refine xe_var (i := 16) rfl ?_ | refine xe_var (i := 17) rfl ?_)
local macro_rules | `(tactic| walk_at "xset") => `(tactic| first
  | refine xs_set (i := 0) (by assumption) rfl (by first | exact .inl rfl | exact .inr rfl) ?_ | refine xs_set (i := 1) (by assumption) rfl (by first | exact .inl rfl | exact .inr rfl) ?_
  | refine xs_set (i := 2) (by assumption) rfl (by first | exact .inl rfl | exact .inr rfl) ?_ | refine xs_set (i := 3) (by assumption) rfl (by first | exact .inl rfl | exact .inr rfl) ?_
  | refine xs_set (i := 4) (by assumption) rfl (by first | exact .inl rfl | exact .inr rfl) ?_ | refine xs_set (i := 5) (by assumption) rfl (by first | exact .inl rfl | exact .inr rfl) ?_
  | refine xs_set (i := 6) (by assumption) rfl (by first | exact .inl rfl | exact .inr rfl) ?_ | refine xs_set (i := 7) (by assumption) rfl (by first | exact .inl rfl | exact .inr rfl) ?_
  | refine xs_set (i := 8) (by assumption) rfl (by first | exact .inl rfl | exact .inr rfl) ?_ | refine xs_set (i := 9) (by assumption) rfl (by first | exact .inl rfl | exact .inr rfl) ?_
  | refine xs_set (i := 10) (by assumption) rfl (by first | exact .inl rfl | exact .inr rfl) ?_ | refine xs_set (i := 11) (by assumption) rfl (by first | exact .inl rfl | exact .inr rfl) ?_)
local macro_rules | `(tactic| walk_at "xset'") => `(tactic| first | refine xs_set (i := 12) (by assumption) rfl (by first | exact .inl rfl | exact .inr rfl) ?_ | refine xs_set (i := 13) (by assumption) rfl (by first | exact .inl rfl | exact .inr rfl) ?_ | refine xs_set (i := 14) (by assumption) rfl (by first | exact .inl rfl | exact .inr rfl) ?_ | refine xs_set (i := 15) (by assumption) rfl (by first | exact .inl rfl | exact .inr rfl) ?_ | refine xs_set (i := 16) (by assumption) rfl (by first | exact .inl rfl | exact .inr rfl) ?_ | refine xs_set (i := 17) (by assumption) rfl (by first | exact .inl rfl | exact .inr rfl) ?_)
local macro_rules | `(tactic| walk_at "xname") => `(tactic| first
  | refine xg_name (i := 0) (by assumption) rfl (by first | exact .inl rfl | exact .inr rfl) | refine xg_name (i := 1) (by assumption) rfl (by first | exact .inl rfl | exact .inr rfl)
  | refine xg_name (i := 2) (by assumption) rfl (by first | exact .inl rfl | exact .inr rfl) | refine xg_name (i := 3) (by assumption) rfl (by first | exact .inl rfl | exact .inr rfl)
  | refine xg_name (i := 4) (by assumption) rfl (by first | exact .inl rfl | exact .inr rfl) | refine xg_name (i := 5) (by assumption) rfl (by first | exact .inl rfl | exact .inr rfl)
  | refine xg_name (i := 6) (by assumption) rfl (by first | exact .inl rfl | exact .inr rfl) | refine xg_name (i := 7) (by assumption) rfl (by first | exact .inl rfl | exact .inr rfl)
  | refine xg_name (i := 8) (by assumption) rfl (by first | exact .inl rfl | exact .inr rfl) | refine xg_name (i := 9) (by assumption) rfl (by first | exact .inl rfl | exact .inr rfl)
  | refine xg_name (i := 10) (by assumption) rfl (by first | exact .inl rfl | exact .inr rfl) | refine xg_name (i := 11) (by assumption) rfl (by first | exact .inl rfl | exact .inr rfl))
local macro_rules | `(tactic| walk_at "xcall") => `(tactic|
  (refine xe_call (by assumption) (Room.mono (by assumption) (by decide)) ?_))
local macro_rules | `(tactic| walk_at "x1") => `(tactic| first
  | refine xa_nil ?_ | refine xa_cons ?_ | refine xe_int ?_ | refine xe_bl ?_ | refine xe_non ?_ | refine xe_str ?_
  | walk_at "xv"
  | refine xe_tup ?_ | refine xe_lst ?_
  | refine xe_sub ?_
  | refine xe_ixT ?_
  | refine xe_neg ?_
  | refine xss_nil ?_ | refine xss_cons ?_ | refine xs_ret ?_ | walk_at "xset" | refine xs_if ?_
  | refine r2_int0 ?_ | refine r2_bool0 ?_ | refine r2_eqI ?_ | refine r2_neI ?_ | refine r1_neg ?_ | refine r2_ix0 ?_ | refine r2_ix1 ?_ | refine r2_ix2 ?_
  | refine xt_lt ?_ | refine xt_le ?_ | refine xt_gt ?_ | refine xt_ge ?_
  | refine xe_lt ?_ | refine xe_le ?_ | refine xe_gt ?_ | refine xe_ge ?_
  | refine xt_not ?_
  | walk_at "xcall")
local macro_rules | `(tactic| walk_at "xp") => `(tactic| repeat (walk_at "x1"))
section
variable {P : Program} {w : World} {K : Fg} {mg : Str → Option Value} {base : Heap} {f : Addr} {fd : FuncData}
theorem right_end {C : Addr} (h : RightH P w K mg base C) {X : Cx} (hX : ∃ cdv A outer s H E, X = cx0 P w K mg base n_L_right "_law_right" s_L_right f cdv A outer s H E) (hr : Room 13 X.A) {B : Bs} {l : Addr} {k : Nat} {g : List (List Rat)} {ms : List Mk} (hk : k ≤ 2) (hg : Gd k g) (hm : GX k ms)
    {a b c : Int} (c0 : 0 ≤ c) (c1 : c < 100000) (o : Option W) {Pr : Dt → List Dt → Prop} (hP : ∀ ys', Pr (.bool true) ys') :
    XSs X B [some (.m l), some (.d (.int (k : Int))), some (.d (tab g)), some (.d (mks ms)), o, none, none, none, none, none, none, none, none, none, none, none, none, none] [(l, tin a b c)] ((defBody s_L_right).drop 4) (D_right l Pr) := by
  obtain ⟨cdv, A, outer, s, H, E, rfl⟩ := hX
  have nd := sc_L_right.nd
  have h0 := h
  obtain ⟨hTk, hOf, hSm, hRw, hGg, hFt, hSu, hTu, hHe, hLs, hSa, hFi, hPf, hSw, hBt, hEn, hAm, hLo, hUn⟩ := h
  have hPf : Has P w K mg base CX0 9 "marks_fit" p_marks_fit (spP K R_marks_fit) := hPf
  refine xss_cons (xs_asg (is := [5] ++ ([6] ++ ([7] ++ []))) (xg_tup (n := 3) rfl (xgs_cons (xg_name (i := 5) nd rfl (.inr rfl)) (xgs_cons (xg_name (i := 6) nd rfl (.inl rfl)) (xgs_cons (xg_name (i := 7) nd rfl (.inl rfl)) xgs_nil)))) ?_)
  refine xe_tup (xa_cons (xe_callT hSm (hr.mono (by decide)) ?_))
  walk_at "xp"
  refine ⟨l, [], tin a b c, rfl, memAt_head, a, b, c, rfl, rfl, c0, by omega, fun am ys1 ham ht1 => ?_⟩
  obtain ⟨a1, c1', rfl, d1, d2⟩ := ht1
  rw [memPut_head (by simp)]
  refine xa_cons (xe_callT hRw (hr.mono (by decide)) ?_)
  walk_at "xp"
  refine ⟨l, [_], tin a1 b c1', rfl, memAt_head, a1, b, c1', k, rfl, rfl, by omega, by omega, by omega, fun be ys2 hbl hbe ht2 => ?_⟩
  obtain ⟨a2, c2, rfl, d3, d4⟩ := ht2
  rw [memPut_head (by simp)]
  refine xa_cons (xe_callT hSm (hr.mono (by decide)) ?_)
  walk_at "xp"
  refine ⟨l, [], tin a2 b c2, rfl, memAt_head, a2, b, c2, rfl, rfl, by omega, by omega, fun sh ys3 hsh ht3 => ?_⟩
  obtain ⟨a3, c3, rfl, d5, d6⟩ := ht3
  rw [memPut_head (by simp)]
  refine xa_nil ⟨[_, _, _], rfl, Nat.le_of_ble_eq_true rfl, _, rfl, _, rfl, rfl, _, _, rfl, _, _, rfl, _, _, rfl, rfl, ?_⟩
  have c3b : 0 ≤ c3 ∧ c3 < 200000 := by omega
  clear d1 d2 d3 d4 d5 d6
  show XSs _ _ _ _ _ _
  refine xss_cons (xs_asg (is := [8] ++ ([9] ++ [])) (xg_tup (n := 2) rfl (xgs_cons (xg_name (i := 8) nd rfl (.inr rfl)) (xgs_cons (xg_name (i := 9) nd rfl (.inl rfl)) xgs_nil))) ?_)
  have gau := hg.gau
  refine xe_tup (xa_cons (xe_tup ?_))
  walk_at "xp"
  refine ⟨[_, _], rfl, Nat.le_of_ble_eq_true rfl, ?_⟩
  walk_at "xp"
  refine ⟨[_], rfl, 5, k, g, rfl, by decide, by decide, by omega, gau, fun back hbk => ?_⟩
  refine xa_nil ⟨[_, _], rfl, Nat.le_of_ble_eq_true rfl, _, rfl, _, rfl, rfl, _, _, rfl, _, _, rfl, rfl, ?_⟩
  show XSs _ _ _ _ _ _
  have samb : ∀ c, c ∈ back ↔ c ∈ turns g := fun c => hbk.mem_iff
  have ms1 := hm.szM
  have ms2 := hm.szW
  have fw := hm.few
  have gfw := hg.few
  have iff1 : Fit (turns g) (ms.map Mk.swap) ↔ Fit g ms := fit_turn hg.ne (gd_hd hg) hm.ln
  have zab : SzAll 4 (am :: be) := fun q hq => by
    rcases List.mem_cons.mp hq with (e | e)
    · rw [e]; exact small_sz ham
    · exact small_sz (hbe q e)
  have zsb : SzAll 4 (sh :: be) := fun q hq => by
    rcases List.mem_cons.mp hq with (e | e)
    · rw [e]; exact small_sz hsh
    · exact small_sz (hbe q e)
  have szg := gau.szt
  have szb : SzT 10 (k + 1) back := szt_same samb (turns_szt gau (by decide))
  have neb : back ≠ [] := ne_same samb (turns_ne hg.ne)
  have lnb : back.length ≤ 4 := by rw [hbk.length_eq]; unfold turns; simpa using gfw
  have bg : ∀ nt, 0 < nt → nt ≤ 1000 → Bnd 5 4 nt (k + 1) g := fun nt h1 h2 => ⟨by decide, by decide, h1, h2, szg, by omega, by omega, by omega, hg.ne⟩
  have bb : ∀ nt, 0 < nt → nt ≤ 1000 → Bnd 10 40 nt (k + 1) back := fun nt h1 h2 => ⟨by decide, by decide, h1, h2, szb, by omega, by omega, by omega, neb⟩
  have tg : Tup 5 (tab g) (tab g) := tup_tab 2 (by omega) (fun c hc => by have := szg.ln c hc; omega)
  have tm : Tup 5 (mks ms) (mks ms) := tup_mks 1 (by omega) (fun m h => by rw [hm.ln m h]; omega)
  have ts : Tup 5 (sgt be sh) (sgt be sh) := tup_sgt 2 (by omega)
  have tb : Tup 5 (lisD 4 (row be)) (row be) := (tup_of (tup_row 2 (qs := be) (by omega))).up
  have key : ∃ T N : Dt, (Fit g ms → T = btw (turns g) (sh :: be) (ms.map Mk.swap)) ∧ (¬ Fit g ms → T = unfitD) ∧ (Fit g ms → N = btw g (am :: be) ms) ∧ (¬ Fit g ms → N = unfitD) := by
    by_cases c : Fit g ms
    · exact ⟨_, _, fun _ => rfl, fun z => absurd c z, fun _ => rfl, fun z => absurd c z⟩
    · exact ⟨_, _, fun z => absurd z c, fun _ => rfl, fun z => absurd z c, fun _ => rfl⟩
  obtain ⟨T, N, hT1, hT2, hN1, hN2⟩ := key
  refine xss_cons (xs_asg (is := [10] ++ ([11] ++ [])) (xg_lst (n := 2) rfl (xgs_cons (xg_name (i := 10) nd rfl (.inl rfl)) (xgs_cons (xg_name (i := 11) nd rfl (.inl rfl)) xgs_nil))) ?_)
  refine xe_lc1 (j := 12) (own := [("_law_door", 12)]) rfl nd (blkOk_by (N := n_L_right) (sc := defScope s_L_right) (by decide +kernel)) (by decide) rfl rfl (xi_tup ?_)
  walk_at "xp"
  refine ⟨[_, _], rfl, Nat.le_of_ble_eq_true rfl, ?_⟩
  refine ⟨_, rfl, [T, N], rfl, by show 2 ≤ 10000; decide, fun i d z h1 h2 X' B' τ' hX' => ?_, ?_⟩
  · obtain ⟨s', H', C', cl', fp', rfl⟩ := hX'
    have pick : ∃ door : Int, d = .int door ∧ ((door = 0 ∧ z = T) ∨ (door = 1 ∧ z = N)) := by
      match i, h1, h2 with
      | 0, h1, h2 => cases h1; cases h2; exact ⟨_, rfl, .inl ⟨rfl, rfl⟩⟩
      | 1, h1, h2 => cases h1; cases h2; exact ⟨_, rfl, .inr ⟨rfl, rfl⟩⟩
    obtain ⟨door, rfl, hd⟩ := pick
    walk_at "xp"
    refine ⟨[_], rfl, _, rfl, tg, ?_⟩
    walk_at "xp"
    refine ⟨[_], rfl, _, rfl, tm, ?_⟩
    walk_at "xp"
    refine ⟨[_], rfl, _, rfl, ts, ?_⟩
    walk_at "xp"
    refine ⟨[_, _, _, _, _], rfl, door, _, _, _, _, rfl, ?_⟩
    rcases hd with ⟨rfl, rfl⟩ | ⟨rfl, rfl⟩
    · exact .inl ⟨rfl, _, _, _, 5, k, 40, 4, g, ms, sh, be, rfl, tup_of tg, tup_of tm, tup_of ts, by decide, by decide, by decide, by decide, by decide, gau, hk, ms2, zsb.mono (by decide), by omega, by omega, fun z => ⟨rfl, by rw [hT1 (iff1.mp z)]⟩, fun z => ⟨rfl, by rw [hT2 (fun y => z (iff1.mpr y))]⟩⟩
    · exact .inr ⟨rfl, lisD 4 (row be), _, .inl rfl, _, _, _, _, 5, 4, 40, k + 1, g, ms, am, be, rfl, tup_of tg, tup_of tm, tup_fr 4 _, tb, by decide, by decide, by decide, by decide, szg, ms1, zab, by omega, by omega, by omega, by omega, hg.ne, fun z => ⟨rfl, by rw [hN1 z]⟩, fun z => ⟨rfl, by rw [hN2 z]⟩⟩
  refine ⟨_, rfl, _, rfl, rfl, _, _, rfl, _, _, rfl, rfl, ?_⟩
  show XSs _ _ _ _ _ _
  refine xss_cons (xs_if (xt_not (xt_val ?_)))
  walk_at "xp"
  refine ⟨[_, _], rfl, 5, 4, 40, k + 1, g, ms, rfl, bg 40 (by decide) (by decide), ms1, fun ft => ?_, fun nf => ?_⟩
  rotate_left
  · refine ⟨_, rfl, iteT ?_⟩
    obtain rfl := hT2 nf
    obtain rfl := hN2 nf
    refine xss_cons (xs_ret (xe_andV ?_))
    walk_at "xcall"
    walk_at "xp"
    refine ⟨[_, _], rfl, Nat.le_of_ble_eq_true rfl, ?_⟩
    refine xa_cons (xe_rep ?_)
    walk_at "xp"
    refine ⟨[_, _], rfl, Nat.le_of_ble_eq_true rfl, ?_⟩
    walk_at "xp"
    refine ⟨[_], rfl, Nat.le_of_ble_eq_true rfl, ?_⟩
    walk_at "xp"
    refine r2_rep2 (by decide) ?_
    have okU : Okd 2 unfitD := .lst (by decide) fun x hx => by
      have e : x = .str "unfit" ∨ x = .bool true := by simpa using hx
      rcases e with e | e <;> rw [e]
      · exact .str _ _ (by decide +kernel)
      · exact .bool _ _
    refine xa_nil ⟨[_, _], rfl, _, rfl, okd_two okU okU, ?_⟩
    refine ⟨_, rfl, iteT (xe_one (xe_isB ?_))⟩
    walk_at "xp"
    refine ⟨[_, _], rfl, _, _, 5, 4, 40, k + 1, g, ms, rfl, tg, tm, by decide, by decide, by decide, by decide, szg, ms1, by omega, by omega, by omega, hg.ne, fun z => absurd z nf, fun _ => ?_⟩
    walk_at "xp"
    refine r2_isB ?_
    exact ⟨_, _, rfl, memAt_head, hP _⟩
  refine ⟨_, rfl, iteF ?_⟩
  obtain rfl := hT1 ft
  obtain rfl := hN1 ft
  clear hT1 hT2 hN1 hN2
  refine xss_nil (xss_cons ?_)
  walk_at "xset'"
  walk_at "xp"
  refine ⟨[_], rfl, ms, rfl, by omega, ?_⟩
  refine xa_cons (xe_catT ?_)
  walk_at "xp"
  refine ⟨[_], rfl, Nat.le_of_ble_eq_true rfl, ?_⟩
  walk_at "xp"
  refine r2_catT (xs := [fr sh]) (ys := be.map fr) (by simp; omega) ?_
  refine xa_nil ⟨[_, _, _], rfl, 10, 40, 4, k + 1, back, ms.map Mk.swap, sh :: be, rfl, bb 4 (by decide) (by decide), ms2, zsb.mono (by decide), by simp; omega, ?_⟩
  rw [btw_same samb]
  walk_at "xp"
  refine ⟨[_], rfl, Nat.le_of_ble_eq_true rfl, ?_⟩
  show XSs _ _ _ _ _ _
  refine xss_cons ?_
  walk_at "xset'"
  refine xe_catL ?_
  walk_at "xv"
  refine xe_lst (xa_cons ?_)
  walk_at "xcall"
  refine xa_cons ?_
  walk_at "xv"
  refine xa_cons ?_
  walk_at "xv"
  refine xa_cons (xe_catT ?_)
  walk_at "xp"
  refine ⟨[_], rfl, Nat.le_of_ble_eq_true rfl, ?_⟩
  walk_at "xp"
  refine r2_catT (xs := [fr am]) (ys := be.map fr) (by simp; omega) ?_
  refine xa_nil ⟨[_, _, _], rfl, 5, 4, 40, k + 1, g, ms, am :: be, rfl, bg 40 (by decide) (by decide), ms1, zab, by simp; omega, ?_⟩
  walk_at "xp"
  refine ⟨[_], rfl, Nat.le_of_ble_eq_true rfl, ?_⟩
  refine r2_catL (by simp) ?_
  show XSs _ _ _ _ _ _
  refine xss_cons (xs_if (xt_not (xt_val ?_)))
  walk_at "xp"
  refine ⟨[_, _], rfl, Nat.le_of_ble_eq_true rfl, ?_⟩
  walk_at "xp"
  refine ⟨[_, _], rfl, _, rfl, okd_two (okd_btw 0 _ _ _) (okd_btw 0 _ _ _), ?_⟩
  refine ⟨_, rfl, iteF (xss_nil ?_)⟩
  refine xss_cons (xs_if (xt_cmp (op_eqD hr.units) ?_))
  walk_at "xp"
  refine ⟨[], rfl, Nat.zero_le _, ?_⟩
  refine r2_eqD (shp_mks ms) rfl ?_
  refine ⟨_, rfl, ?_⟩
  rw [eqv_mks]
  by_cases hne : ms = []
  · rw [decide_eq_true hne]
    refine iteT ?_
    walk_at "xp"
    exact ⟨_, _, rfl, memAt_head, hP _⟩
  rw [decide_eq_false hne]
  refine iteF (xss_nil ?_)
  exact right_fit h0 ⟨cdv, A, outer, s, H, E, rfl⟩ hr hk hg hm c3b.1 c3b.2 o _ _ ham hbe hbl hsh samb lnb ft hne hP
theorem ok_L_right {C : Addr} (h : RightH P w K mg base C) (F : Fun K "_law_right" "_law_right" s_L_right f fd) : FnOk P w K mg base CX0 14 f fd p_L_right (spT K R_right) := by
  refine fnT F sc_L_right (fun ys ds P h => ?_) (fun X B l ys ds Pr hX hr lU hR => ?_)
  · obtain ⟨a, b, _, rfl, _⟩ := h; rfl
  · have hX0 := hX
    obtain ⟨cdv, A, outer, s, H, E, rfl⟩ := hX
    have nd := sc_L_right.nd
    have h0 := h
    obtain ⟨hTk, hOf, hSm, hRw, hGg, hFt, hSu, hTu, hHe, hLs, hSa, hFi, hPf, hSw, hBt, hEn, hAm, hLo, hUn⟩ := h
    obtain ⟨a, b, rfl, rfl, hP⟩ := hR
    refine xss_cons ?_
    walk_at "xset"
    refine xe_callT hTk (hr.mono (by decide)) ?_
    walk_at "xp"
    refine ⟨l, [_], tin a b 0, rfl, memAt_head, a, b, 0, 3, rfl, rfl, by decide, by decide, by decide, by decide, fun k ys1 hk ht1 => ?_⟩
    obtain ⟨a1, c1, rfl, d1, d2⟩ := ht1
    rw [memPut_head (by simp)]
    have hk2 : k ≤ 2 := by omega
    show XSs _ _ _ _ _ _
    refine xss_cons ?_
    walk_at "xset"
    refine xe_callT hGg (hr.mono (by decide)) ?_
    walk_at "xp"
    refine ⟨l, [_], tin a1 b c1, rfl, memAt_head, a1, b, c1, k, rfl, rfl, hk2, by omega, by omega, fun g ys2 hg ht2 => ?_⟩
    obtain ⟨a2, c2, rfl, d3, d4⟩ := ht2
    rw [memPut_head (by simp)]
    show XSs _ _ _ _ _ _
    refine xss_cons ?_
    walk_at "xset"
    refine xe_callT hFt (hr.mono (by decide)) ?_
    walk_at "xp"
    refine xe_callT hOf (hr.mono (by decide)) ?_
    walk_at "xp"
    refine ⟨[_, _, _, _, _], rfl, Nat.le_of_ble_eq_true rfl, ?_⟩
    walk_at "xp"
    refine ⟨l, [_], tin a2 b c2, rfl, memAt_head, a2, b, c2, _, rfl, rfl, Nat.lt_of_sub_eq_succ rfl, Nat.le_of_ble_eq_true rfl, by omega, by omega, fun x ys3 hx ht3 => ?_⟩
    obtain ⟨a3, c3, rfl, d5, d6⟩ := ht3
    rw [memPut_head (by simp)]
    have hmany : ∃ many : Nat, many ≤ 4 ∧ x = .int (many : Int) := by
      have e : x = .int 1 ∨ x = .int 2 ∨ x = .int 3 ∨ x = .int 4 ∨ x = .int 0 := by simpa using hx
      rcases e with e | e | e | e | e <;> rw [e]
      · exact ⟨1, by decide, rfl⟩
      · exact ⟨2, by decide, rfl⟩
      · exact ⟨3, by decide, rfl⟩
      · exact ⟨4, by decide, rfl⟩
      · exact ⟨0, by decide, rfl⟩
    obtain ⟨many, hm4, rfl⟩ := hmany
    walk_at "xp"
    refine ⟨l, [_, _, _], tin a3 b c3, rfl, memAt_head, a3, b, c3, k, many, g, rfl, rfl, hk2, hm4, hg, by omega, by omega, fun ms ys4 hl hms ht4 => ?_⟩
    obtain ⟨a4, c4, rfl, d7, d8⟩ := ht4
    rw [memPut_head (by simp)]
    have hlen : ms.length ≤ 4 := by omega
    show XSs _ _ _ _ _ _
    refine xss_cons (xs_if (xt_w (xw_and (xt_eqI ?_))))
    refine xe_callT hTk (hr.mono (by decide)) ?_
    walk_at "xp"
    refine ⟨l, [_], tin a4 b c4, rfl, memAt_head, a4, b, c4, 4, rfl, rfl, by decide, by decide, by omega, by omega, fun v ys5 hv ht5 => ?_⟩
    obtain ⟨a5, c5, rfl, d9, d10⟩ := ht5
    rw [memPut_head (by simp)]
    walk_at "xp"
    refine ⟨_, rfl, ?_⟩
    have fin0 := fun (o : Option W) => right_end h0 hX0 hr (B := B) (l := l) hk2 hg (GX.of hms hlen) (a := a5) (b := b) (c := c5) (by omega) (by omega) o hP
    by_cases hv0 : (v : Int) = 0
    · rw [decide_eq_true hv0]
      refine iteT (xw_and1 (xt_cmp (op_neD hr.units) ?_))
      walk_at "xp"
      refine ⟨[], rfl, Nat.zero_le _, ?_⟩
      refine r2_neD (shp_mks ms) rfl ?_
      refine ⟨_, rfl, ?_⟩
      rw [eqv_mks]
      cases ms with
      | nil =>
        rw [decide_eq_true rfl]
        exact iteF (xss_nil (fin0 none))
      | cons m ms =>
        rw [decide_eq_false (by simp)]
        refine iteT ?_
        refine xss_cons ?_
        walk_at "xset"
        refine xe_ixT ?_
        walk_at "xv"
        refine xe_int ?_
        refine r2_ix0 (d := m.d) (ds := ms.map Mk.d) ?_
        show XSs _ _ _ _ _ _
        refine xss_cons ?_
        walk_at "xset"
        refine xe_catT ?_
        walk_at "xp"
        refine xe_callT hOf (hr.mono (by decide)) ?_
        walk_at "xp"
        refine ⟨[_, _], rfl, Nat.le_of_ble_eq_true rfl, ?_⟩
        walk_at "xp"
        refine ⟨[_, _], rfl, Nat.le_of_ble_eq_true rfl, ?_⟩
        walk_at "xp"
        refine ⟨[_, _], rfl, Nat.le_of_ble_eq_true rfl, ?_⟩
        walk_at "xp"
        refine ⟨steps3.map fr, rfl, Nat.le_of_ble_eq_true rfl, ?_⟩
        walk_at "xp"
        refine ⟨l, [_], tin a5 b c5, rfl, memAt_head, a5, b, c5, _, rfl, rfl, Nat.lt_of_sub_eq_succ rfl, Nat.le_of_ble_eq_true rfl, by omega, by omega, fun x ys6 hx ht6 => ?_⟩
        obtain ⟨d, hd, rfl⟩ := List.mem_map.mp hx
        obtain ⟨a6, c6, rfl, d11, d12⟩ := ht6
        rw [memPut_head (by simp)]
        have gm := hms.sh m List.mem_cons_self
        walk_at "xp"
        refine ⟨[_, _], rfl, 40, 4, m.sh, d, rfl, by decide, by decide, by decide, sh_sz ((dm_b3 gm).mono (by decide)), step_sz hd, ?_⟩
        walk_at "xp"
        refine ⟨[_, _, _], rfl, Nat.le_of_ble_eq_true rfl, ?_⟩
        walk_at "xp"
        refine ⟨[_], rfl, Nat.le_of_ble_eq_true rfl, ?_⟩
        refine r2_catT (xs := (m :: ms).map Mk.d) (ys := [Mk.d ⟨m.am, m.be, m.sh + d⟩]) (by simp; rw [List.length_cons] at hlen; omega) ?_
        rw [mks_snoc]
        refine xss_nil ?_
        exact right_end h0 hX0 hr hk2 hg (GX.more hms hlen List.mem_cons_self hd) (by omega) (by omega) _ hP
    · rw [decide_eq_false hv0]
      exact iteF (iteF (xss_nil (fin0 none)))
end

end K10

set_option maxRecDepth 100000
set_option maxHeartbeats 4100000
set_option pp.maxSteps 1500
namespace K10
open L2 PyProof.Rows PySem.Spec PySem
local macro_rules | `(tactic| walk_at "xv") => `(tactic| first
  | refine xe_var (i := 0) rfl ?_ | refine xe_var (i := 1) rfl ?_ | refine xe_var (i := 2) rfl ?_ | refine xe_var (i := 3) rfl ?_
  | refine xe_var (i := 4) rfl ?_ | refine xe_var (i := 5) rfl ?_ | refine xe_var (i := 6) rfl ?_ | refine xe_var (i := 7) rfl ?_
  | refine xe_var (i := 8) rfl ?_ | refine xe_var (i := 9) rfl ?_ | refine xe_var (i := 10) rfl ?_ | refine xe_var (i := 11) rfl ?_
  | refine xe_var (i := 12) rfl ?_ | refine xe_var (i := 13) rfl ?_ | refine xe_var (i := 14) rfl ?_ | refine xe_var (i := 15) rfl ?_ | refine xe_var (i := 16) rfl ?_ | refine xe_var (i := 17) rfl ?_)
local macro_rules | `(tactic| walk_at "xset") => `(tactic| first
  | refine xs_set (i := 0) (by assumption) rfl (by first | exact .inl rfl | exact .inr rfl) ?_ | refine xs_set (i := 1) (by assumption) rfl (by first | exact .inl rfl | exact .inr rfl) ?_
  | refine xs_set (i := 2) (by assumption) rfl (by first | exact .inl rfl | exact .inr rfl) ?_ | refine xs_set (i := 3) (by assumption) rfl (by first | exact .inl rfl | exact .inr rfl) ?_
  | refine xs_set (i := 4) (by assumption) rfl (by first | exact .inl rfl | exact .inr rfl) ?_ | refine xs_set (i := 5) (by assumption) rfl (by first | exact .inl rfl | exact .inr rfl) ?_
  | refine xs_set (i := 6) (by assumption) rfl (by first | exact .inl rfl | exact .inr rfl) ?_ | refine xs_set (i := 7) (by assumption) rfl (by first | exact .inl rfl | exact .inr rfl) ?_
  | refine xs_set (i := 8) (by assumption) rfl (by first | exact .inl rfl | exact .inr rfl) ?_ | refine xs_set (i := 9) (by assumption) rfl (by first | exact .inl rfl | exact .inr rfl) ?_
  | refine xs_set (i := 10) (by assumption) rfl (by first | exact .inl rfl | exact .inr rfl) ?_ | refine xs_set (i := 11) (by assumption) rfl (by first | exact .inl rfl | exact .inr rfl) ?_)
local macro_rules | `(tactic| walk_at "xset'") => `(tactic| first | refine xs_set (i := 12) (by assumption) rfl (by first | exact .inl rfl | exact .inr rfl) ?_ | refine xs_set (i := 13) (by assumption) rfl (by first | exact .inl rfl | exact .inr rfl) ?_ | refine xs_set (i := 14) (by assumption) rfl (by first | exact .inl rfl | exact .inr rfl) ?_ | refine xs_set (i := 15) (by assumption) rfl (by first | exact .inl rfl | exact .inr rfl) ?_ | refine xs_set (i := 16) (by assumption) rfl (by first | exact .inl rfl | exact .inr rfl) ?_ | refine xs_set (i := 17) (by assumption) rfl (by first | exact .inl rfl | exact .inr rfl) ?_)
local macro_rules | `(tactic| walk_at "xname") => `(tactic| first
  | refine xg_name (i := 0) (by assumption) rfl (by first | exact .inl rfl | exact .inr rfl) | refine xg_name (i := 1) (by assumption) rfl (by first | exact .inl rfl | exact .inr rfl)
  | refine xg_name (i := 2) (by assumption) rfl (by first | exact .inl rfl | exact .inr rfl) | refine xg_name (i := 3) (by assumption) rfl (by first | exact .inl rfl | exact .inr rfl)
  | refine xg_name (i := 4) (by assumption) rfl (by first | exact .inl rfl | exact .inr rfl) | refine xg_name (i := 5) (by assumption) rfl (by first | exact .inl rfl | exact .inr rfl)
  | refine xg_name (i := 6) (by assumption) rfl (by first | exact .inl rfl | exact .inr rfl) | refine xg_name (i := 7) (by assumption) rfl (by first | exact .inl rfl | exact .inr rfl)
  | refine xg_name (i := 8) (by assumption) rfl (by first | exact .inl rfl | exact .inr rfl) | refine xg_name (i := 9) (by assumption) rfl (by first | exact .inl rfl | exact .inr rfl)
  | refine xg_name (i := 10) (by assumption) rfl (by first | exact .inl rfl | exact .inr rfl) | refine xg_name (i := 11) (by assumption) rfl (by first | exact .inl rfl | exact .inr rfl))
local macro_rules | `(tactic| walk_at "xcall") => `(tactic|
  (refine xe_call (by assumption) (Room.mono (by assumption) (by decide)) ?_))
local macro_rules | `(tactic| walk_at "x1") => `(tactic| first
  | refine xa_nil ?_ | refine xa_cons ?_ | refine xe_int ?_ | refine xe_bl ?_ | refine xe_non ?_ | refine xe_str ?_
  | walk_at "xv"
  | refine xe_tup ?_ | refine xe_lst ?_
  | refine xe_sub ?_
  | refine xe_ixT ?_
  | refine xe_neg ?_
  | refine xss_nil ?_ | refine xss_cons ?_ | refine xs_ret ?_ | walk_at "xset" | refine xs_if ?_
  | refine r2_int0 ?_ | refine r2_bool0 ?_ | refine r2_eqI ?_ | refine r2_neI ?_ | refine r1_neg ?_ | refine r2_ix0 ?_ | refine r2_ix1 ?_ | refine r2_ix2 ?_
  | refine xt_lt ?_ | refine xt_le ?_ | refine xt_gt ?_ | refine xt_ge ?_
  | refine xe_lt ?_ | refine xe_le ?_ | refine xe_gt ?_ | refine xe_ge ?_
  | refine xt_not ?_
  | walk_at "xcall")
local macro_rules | `(tactic| walk_at "xp") => `(tactic| repeat (walk_at "x1"))
/-! ### lists that a def makes and hands out -/
abbrev RN := List Dt → (List Dt → Prop) → Prop
/-- data in, a new list out -/
def spN (K : Fg) (R : RN) : Sp := fun vs H Q _ => ∃ U ds P, (∀ a ∈ U, H a ≠ none) ∧ RpAll K (hide U H) vs ds ∧ R ds P ∧ ∀ p xs ys H', Same H H' → H p = none → H' p = some (.lst xs) → RpAll K (hide U H') xs ys → P ys → Q (.ref p) H'
theorem rp_ints {K : Fg} {H H' : Hp} : ∀ {ns : List Int} {xs : List V}, RpAll K H xs (ns.map PyData.int) → RpAll K H' xs (ns.map PyData.int)
  | [], _, h => by cases h; exact .nil
  | n :: ns, _, h => by
    cases h with
    | cons r rr =>
      have e := Rp.int_inv r
      subst e
      exact .cons (.int _) (rp_ints rr)
section
variable {P : Program} {w : World} {K : Fg} {mg : Str → Option Value} {base : Heap}
theorem fnN {x : Str} {st : Stmt} {f : Addr} {fd : FuncData} {N ps : List Str} {k : Nat} {R : RN} (F : Fun K x x st f fd) (S : FnScope N ps (defScope st)) (len : ∀ ds P, R ds P → ds.length = ps.length)
    (hbody : ∀ (X : Cx) (B : Bs) (ds : List Dt) (Pr : List Dt → Prop), (∃ cdv A outer s H E, X = cx0 P w K mg base N x st f cdv A outer s H E) → Room k X.A → R ds Pr →
      XSs X B (slots0 N (ds.map W.d)) [] (defBody st) { nx := fun _ _ _ => False, rt := fun v τ => ∃ p ys, v = .m p ∧ memAt τ p = some ys ∧ Pr ys }) : FnOk P w K mg base CX0 (k + 1) f fd ps (spN K R) := by
  refine F.ok S (fun vs H Q E h => ?_) (fun cdv A outer s H vs Q E hr h => ?_)
  · obtain ⟨U, ds, Pr, _, r, hR, _⟩ := h
    rw [r.length]; exact len _ _ hR
  · obtain ⟨U, ds, Pr, ex, r, hR, q⟩ := h
    refine ⟨_, (hbody (cx0 P w K mg base N x st f cdv A outer s H E) ⟨H, [], U⟩ ds Pr ⟨cdv, A, outer, s, H, E, rfl⟩ hr hR).ps, ?_⟩
    have sm : ∀ {B' δ' τ' σ' H'}, Bs.le ⟨H, [], U⟩ B' → Ok K B' δ' τ' σ' H' → Same H H' := fun {B' δ' τ' σ' H'} l o b u e =>
      o.fr b u (by rw [l.t]; simp) (by rw [l.h0]; exact e)
    have un : ∀ {B' : Bs} {H' : Hp}, Bs.le ⟨H, [], U⟩ B' → Same (hide B'.U H') (hide U H') := fun {B' H'} l b u e => by
      by_cases c : b ∈ B'.U
      · rw [hide_in c] at e; cases e
      · rw [hide_out c] at e
        rw [hide_out (fun m => c (l.u b m))]; exact e
    refine ⟨⟨fun _ _ _ e => e, (fun _ m => nomatch m), ex, (fun _ m => nomatch m), List.nodup_nil, start_slots (RwAll.of r), start_len (by rw [List.length_map]; exact r.length)⟩, fun _ _ _ _ _ _ _ _ z => z.elim, fun v w' B' δ' τ' σ' H' l o rv pd => ?_, fun _ _ _ _ _ _ _ _ z => z.elim, fun _ _ _ _ _ _ _ _ z => z.elim⟩
    obtain ⟨p, ys, rfl, hm, pd⟩ := pd
    have ev : v = .ref p := rv
    subst ev
    obtain ⟨_, h2, xs, h3, h4⟩ := o.mu _ (memAt_mem hm)
    have h5 : H p = none := by
      rcases h2 with z | z
      · rw [l.t] at z; cases z
      · rw [l.h0] at z; exact z
    exact q p xs ys H' (sm l o) h5 h3 (h4.mono (un l)) pd
end
section
variable {X : Cx} {B : Bs} {δ : Slots} {τ : Mem} {P : W → Mem → Prop} {D : DE} {e a b c : Expr} {es elts : List Expr} {pos p2 pi p tpos p0 p1 : Pos} {k k2 : Nat} {x x2 : Str} {ps ps2 : List Str} {kk : Nat}
/-- f(..), f hands out a new list: as data -/
theorem xe_callN {R : RN} (F : HasX X CX0 k x ps (spN X.K R)) (hr : Room k X.A) (h : XA X B δ τ (e :: es) fun ws τ1 => ∃ ds, ws = ds.map W.d ∧ R ds fun ys => P (.d (.list ys)) τ1) (hg : Gl X x := by rfl) (hdb : (x == ("__debug__" : Str)) = false := by decide)
    (he : starEach (e :: es) X.env = (false, eval e X.env) :: starEach es X.env := by rfl) (hpl : (backTo pos (starEach es X.env)).any (·.1) = false := by rfl) : XE X B δ τ (.Call (.Name x p) (e :: es) [] pos) P := by
  obtain ⟨f, fd, h1, h2, h3, h4⟩ := F.ex
  exact .of (pe_call h4 hr hg h1 h2 h3 .nil pass0 h.pa hdb he hpl) fun σ H Q k q => ⟨k, fun vs ws τ1 H1 k1 s1 r1 pp => by
    obtain ⟨ds, rfl, r⟩ := pp
    rw [List.append_nil]
    refine ⟨B.U, ds, _, k1.ex, r1.data, r, fun p xs ys H' s hp hl rl pd => ?_⟩
    refine q (.ref p) (.d (.list ys)) τ1 H' (k1.pure s) (s1.trans (hide_same s)) (.lst (xs := xs) ?_ rl) pd
    rw [hide_out (k1.new hp)]; exact hl⟩
/-- f(g(..)), g hands out a new list of ints and f changes it -/
theorem xe_callTN {R : RT} {R' : RN} (F : HasX X CX0 k x ps (spT X.K R)) (hr : Room k X.A) (G : HasX X CX0 k2 x2 ps2 (spN X.K R')) (hr2 : Room k2 X.A)
    (h : XA X B δ τ (e :: es) fun ws τ1 => ∃ ds, ws = ds.map W.d ∧ R' ds fun ys => (∃ ns : List Int, ys = ns.map PyData.int) ∧ R ys [] fun d _ => P (.d d) τ1) (hg : Gl X x := by rfl) (hg2 : Gl X x2 := by rfl) (hdb : (x == ("__debug__" : Str)) = false := by decide) (hdb2 : (x2 == ("__debug__" : Str)) = false := by decide)
    (he : starEach (e :: es) X.env = (false, eval e X.env) :: starEach es X.env := by rfl) (hpl : (backTo pi (starEach es X.env)).any (·.1) = false := by rfl)
    (he1 : starEach [.Call (.Name x2 p2) (e :: es) [] pi] X.env = (false, eval (.Call (.Name x2 p2) (e :: es) [] pi) X.env) :: starEach [] X.env := by rfl) (hpl1 : (backTo pos (starEach [] X.env)).any (·.1) = false := by rfl) :
    XE X B δ τ (.Call (.Name x p) [.Call (.Name x2 p2) (e :: es) [] pi] [] pos) P := by
  obtain ⟨f, fd, h1, h2, h3, h4⟩ := F.ex
  obtain ⟨f', fd', g1, g2, g3, g4⟩ := G.ex
  exact .of (pe_call h4 hr hg h1 h2 h3 .nil pass0 (pa_cons (pe_call g4 hr2 hg2 g1 g2 g3 .nil pass0 h.pa hdb2 he hpl) pa_nil he1) hdb he1 hpl1) fun σ H Q k q => ⟨k, fun vs ws τ1 H1 k1 s1 r1 pp => by
    obtain ⟨ds, rfl, r⟩ := pp
    rw [List.append_nil]
    refine ⟨B.U, ds, _, k1.ex, r1.data, r, fun p xs ys H2 s hp hl rl pd => ?_⟩
    obtain ⟨⟨ns, rfl⟩, pd⟩ := pd
    show spT X.K R ([V.ref p] ++ []) H2 Q E0
    refine ⟨p :: B.U, p, [], xs, _, [], _, fun b hb => ?_, rfl, List.mem_cons_self, hl, rp_ints rl, .nil, pd, fun v d xs' ys' H3 o1 o2 o3 o4 pd => ?_⟩
    · rcases List.mem_cons.mp hb with z | z
      · rw [z, hl]; exact fun y => nomatch y
      · intro y
        cases u : H1 b with
        | none => exact k1.ex b z u
        | some o => rw [s b o u] at y; cases y
    · have s3 : Same H1 H3 := fun b o u => o1 b o (fun z => by rw [z, hp] at u; cases u) (s b o u)
      refine q v (.d d) τ1 H3 (k1.pure s3) (s1.trans (hide_same s3)) ?_ pd
      refine Rp.mono (fun b o u => ?_) o4
      by_cases c : b ∈ p :: B.U
      · rw [hide_in c] at u; cases u
      · rw [hide_out c] at u
        rw [hide_out (fun m => c (List.mem_cons_of_mem _ m))]; exact u⟩
/-- f() -/
theorem xe_call0 {R : RR} (F : HasX X CX0 k x ps (spP X.K R)) (hr : Room k X.A) (h : R [] fun d => P (.d d) τ) (hg : Gl X x := by rfl) (hdb : (x == ("__debug__" : Str)) = false := by decide) : XE X B δ τ (.Call (.Name x p) [] [] pos) P := by
  obtain ⟨f, fd, h1, h2, h3, h4⟩ := F.ex
  exact .of (pe_call0 h4 hr hg h1 h2 h3 .nil pass0 hdb) fun σ H Q k q => by
    show spP X.K R ([] ++ []) H Q E0
    exact ⟨B.U, [], _, k.ex, .nil, h, fun v d H' s rv pd => q v (.d d) τ H' (k.pure s) (hide_same s) rv pd⟩
/-- return [..]: a list that is to be handed out -/
theorem xs_retL (h : XA X B δ τ es fun ws τ1 => ∃ ds, ws = ds.map W.d ∧ ds.length ≤ 100000 ∧ ∀ p, D.rt (.m p) ((p, ds) :: τ1)) : XS X B δ τ (.Return (some (.List es p0)) pos) D :=
  .of (ps_ret (pe_lst h.pa)) fun E σ H r => ⟨r.ok, fun vs ws τ1 H1 k1 s1 r1 p => by
    obtain ⟨ds, rfl, hl, p⟩ := p
    have rr := r1.data
    refine ⟨by rw [rr.length]; exact Nat.le_trans hl (by decide), fun q hq => ?_⟩
    exact r.rt (.ref q) (.m q) { B with U := q :: B.U } δ _ σ _ ⟨rfl, rfl, fun a m => List.mem_cons_of_mem q m⟩ (k1.fresh hq rr) rfl (p q)⟩
end
section
variable {P : Program} {w : World} {K : Fg} {mg : Str → Option Value} {base : Heap} {f : Addr} {fd : FuncData}
theorem bool_sm : ∀ b : Bool, -(2 ^ 64) < (if b = true then (1 : Int) else 0) ∧ (if b = true then (1 : Int) else 0) < 2 ^ 64 := by decide
abbrev R_box : RN := fun ds P => ∃ (ns : List Int) (k : Nat), ds = [.list (ns.map PyData.int), .int (k : Int)] ∧ ns.length ≤ 100 ∧ k ≤ 100 ∧ ∀ a b : Int, P (tin a b 0)
theorem ok_L_box (F : Fun K "_law_box" "_law_box" s_L_box f fd) (ml : mg "len" = none) (ma : mg "abs" = none) (mi : mg "int" = none) : FnOk P w K mg base CX0 1 f fd p_L_box (spN K R_box) := by
  refine fnN F sc_L_box (fun ds P h => ?_) (fun X B ds Pr hX hr h => ?_)
  · obtain ⟨ns, k, rfl, _⟩ := h; rfl
  · obtain ⟨cdv, A, outer, s, H, E, rfl⟩ := hX
    have nd := sc_L_box.nd
    obtain ⟨ns, k, rfl, hn, hk, hP⟩ := h
    have fin : ∀ v : Int, XSs (cx0 P w K mg base n_L_box "_law_box" s_L_box f cdv A outer s H E) B [some (.d (.list (ns.map PyData.int))), some (.d (.int (k : Int))), some (.d (.int v))] [] ((defBody s_L_box).drop 1)
        { nx := fun _ _ _ => False, rt := fun v τ => ∃ p ys, v = .m p ∧ memAt τ p = some ys ∧ Pr ys } := by
      intro v
      refine xss_cons (xs_retL (xa_cons (xe_mul ?_)))
      refine xe_callB call_abs ma (by decide +kernel) ?_
      walk_at "xp"
      refine rn_abs ?_
      refine xe_callTy call_int1 mi (by decide +kernel) (xa_cons (xe_ge ?_))
      refine xe_callB call_abs ma (by decide +kernel) ?_
      walk_at "xp"
      refine rn_abs ?_
      refine xe_pow ?_
      walk_at "xp"
      refine r2_int ⟨by decide, by decide, by decide⟩ ?_
      walk_at "xp"
      refine rn_intB ?_
      refine r2_int (.inr (bool_sm _)) ?_
      refine xa_cons (xe_add (xe_add (xe_mod ?_)))
      refine xe_callTy call_int1 mi (by decide +kernel) ?_
      walk_at "xp"
      refine rn_intI ?_
      walk_at "xp"
      refine r2_int (by decide) ?_
      refine xe_mul ?_
      walk_at "xp"
      refine r2_int (.inl ⟨by decide, by decide⟩) ?_
      walk_at "xp"
      exact ⟨[_, _, _], rfl, by show 3 ≤ 100000; decide, fun p => ⟨p, _, rfl, memAt_head, hP _ _⟩⟩
    refine xss_cons ?_
    walk_at "xset"
    refine xe_ifx (xt_lt ?_)
    walk_at "xp"
    refine xe_callB call_len_seq ml PySem.boot_len ?_
    walk_at "xp"
    refine rn_lenL ?_
    walk_at "xp"
    refine ⟨_, rfl, ?_⟩
    by_cases c : k < ns.length
    · rw [decide_eq_true (by rw [List.length_map]; omega)]
      refine iteT (xe_ixL ?_)
      walk_at "xv"
      walk_at "xv"
      refine r2_ixL (d := .int ns[k]) (atI_nat (j := k) (by rw [List.getElem?_map, List.getElem?_eq_getElem c]; rfl)) ?_
      exact fin _
    · rw [decide_eq_false (by rw [List.length_map]; omega)]
      refine iteF ?_
      refine xe_int ?_
      exact fin _
end

end K10

set_option maxRecDepth 100000
set_option maxHeartbeats 4100000
set_option pp.maxSteps 1500
namespace K10
open L2 PyProof.Rows PySem.Spec PySem
local macro_rules | `(tactic| walk_at "xv") => `(tactic| first
  | refine xe_var (i := 0) rfl ?_ | refine xe_var (i := 1) rfl ?_ | refine xe_var (i := 2) rfl ?_ | refine xe_var (i := 3) rfl ?_
  | refine xe_var (i := 4) rfl ?_ | refine xe_var (i := 5) rfl ?_ | refine xe_var (i := 6) rfl ?_ | refine xe_var (i := 7) rfl ?_
  | refine xe_var (i := 8) rfl ?_ | refine xe_var (i := 9) rfl ?_ | refine xe_var (i := 10) rfl ?_ | refine xe_var (i := 11) rfl ?_
  | refine xe_var (i := 12) rfl ?_ | refine xe_var (i := 13) rfl ?_ | refine xe_var (i := 14) rfl ?_ | refine xe_var (i := 15) rfl ?_ | refine xe_var (i := 16) rfl ?_ | refine xe_var (i := 17) rfl ?_)
local macro_rules | `(tactic| walk_at "xset") => `(tactic| first
  | refine xs_set (i := 0) (by assumption) rfl (by first | exact .inl rfl | exact .inr rfl) ?_ | refine xs_set (i := 1) (by assumption) rfl (by first | exact .inl rfl | exact .inr rfl) ?_
  | refine xs_set (i := 2) (by assumption) rfl (by first | exact .inl rfl | exact .inr rfl) ?_ | refine xs_set (i := 3) (by assumption) rfl (by first | exact .inl rfl | exact .inr rfl) ?_
  | refine xs_set (i := 4) (by assumption) rfl (by first | exact .inl rfl | exact .inr rfl) ?_ | refine xs_set (i := 5) (by assumption) rfl (by first | exact .inl rfl | exact .inr rfl) ?_
  | refine xs_set (i := 6) (by assumption) rfl (by first | exact .inl rfl | exact .inr rfl) ?_ | refine xs_set (i := 7) (by assumption) rfl (by first | exact .inl rfl | exact .inr rfl) ?_
  | refine xs_set (i := 8) (by assumption) rfl (by first | exact .inl rfl | exact .inr rfl) ?_ | refine xs_set (i := 9) (by assumption) rfl (by first | exact .inl rfl | exact .inr rfl) ?_
  | refine xs_set (i := 10) (by assumption) rfl (by first | exact .inl rfl | exact .inr rfl) ?_ | refine xs_set (i := 11) (by assumption) rfl (by first | exact .inl rfl | exact .inr rfl) ?_)
local macro_rules | `(tactic| walk_at "xset'") => `(tactic| first | refine xs_set (i := 12) (by assumption) rfl (by first | exact .inl rfl | exact .inr rfl) ?_ | refine xs_set (i := 13) (by assumption) rfl (by first | exact .inl rfl | exact .inr rfl) ?_ | refine xs_set (i := 14) (by assumption) rfl (by first | exact .inl rfl | exact .inr rfl) ?_ | refine xs_set (i := 15) (by assumption) rfl (by first | exact .inl rfl | exact .inr rfl) ?_ | refine xs_set (i := 16) (by assumption) rfl (by first | exact .inl rfl | exact .inr rfl) ?_ | refine xs_set (i := 17) (by assumption) rfl (by first | exact .inl rfl | exact .inr rfl) ?_)
local macro_rules | `(tactic| walk_at "xname") => `(tactic| first
  | refine xg_name (i := 0) (by assumption) rfl (by first | exact .inl rfl | exact .inr rfl) | refine xg_name (i := 1) (by assumption) rfl (by first | exact .inl rfl | exact .inr rfl)
  | refine xg_name (i := 2) (by assumption) rfl (by first | exact .inl rfl | exact .inr rfl) | refine xg_name (i := 3) (by assumption) rfl (by first | exact .inl rfl | exact .inr rfl)
  | refine xg_name (i := 4) (by assumption) rfl (by first | exact .inl rfl | exact .inr rfl) | refine xg_name (i := 5) (by assumption) rfl (by first | exact .inl rfl | exact .inr rfl)
  | refine xg_name (i := 6) (by assumption) rfl (by first | exact .inl rfl | exact .inr rfl) | refine xg_name (i := 7) (by assumption) rfl (by first | exact .inl rfl | exact .inr rfl)
  | refine xg_name (i := 8) (by assumption) rfl (by first | exact .inl rfl | exact .inr rfl) | refine xg_name (i := 9) (by assumption) rfl (by first | exact .inl rfl | exact .inr rfl)
  | refine xg_name (i := 10) (by assumption) rfl (by first | exact .inl rfl | exact .inr rfl) | refine xg_name (i := 11) (by assumption) rfl (by first | exact .inl rfl | exact .inr rfl))
local macro_rules | `(tactic| walk_at "xcall") => `(tactic|
  (refine xe_call (by assumption) (Room.mono (by assumption) (by decide)) ?_))
local macro_rules | `(tactic| walk_at "x1") => `(tactic| first
  | refine xa_nil ?_ | refine xa_cons ?_ | refine xe_int ?_ | refine xe_bl ?_ | refine xe_non ?_ | refine xe_str ?_
  | walk_at "xv"
  | refine xe_tup ?_ | refine xe_lst ?_
  | refine xe_sub ?_
  | refine xe_ixT ?_
  | refine xe_neg ?_
  | refine xss_nil ?_ | refine xss_cons ?_ | refine xs_ret ?_ | walk_at "xset" | refine xs_if ?_
  | refine r2_int0 ?_ | refine r2_bool0 ?_ | refine r2_eqI ?_ | refine r2_neI ?_ | refine r1_neg ?_ | refine r2_ix0 ?_ | refine r2_ix1 ?_ | refine r2_ix2 ?_
  | refine xt_lt ?_ | refine xt_le ?_ | refine xt_gt ?_ | refine xt_ge ?_
  | refine xe_lt ?_ | refine xe_le ?_ | refine xe_gt ?_ | refine xe_ge ?_
  | refine xt_not ?_
  | walk_at "xcall")
local macro_rules | `(tactic| walk_at "xp") => `(tactic| repeat (walk_at "x1"))
/-! ### the cells of a script -/
theorem cut_mid (xs : List V) (m n : Nat) : cutV xs (some (m : Int)) (some (n : Int)) = (xs.drop m).take (n - m) := by
  unfold cutV
  rw [HT.sIx_nat xs.length 0 m, HT.sIx_nat xs.length xs.length n]
  by_cases h : m ≤ xs.length
  · rw [Nat.min_eq_left h]
    by_cases h2 : n ≤ xs.length
    · rw [Nat.min_eq_left h2]
    · rw [Nat.min_eq_right (show xs.length ≤ n by omega), List.take_of_length_le (by rw [List.length_drop]; omega), List.take_of_length_le (by rw [List.length_drop]; omega)]
  · rw [Nat.min_eq_right (show xs.length ≤ m by omega), List.drop_eq_nil_of_le (Nat.le_refl _), List.drop_eq_nil_of_le (show xs.length ≤ m by omega), List.take_nil, List.take_nil]
theorem cut_to (xs : List V) (n : Nat) : cutV xs none (some (n : Int)) = xs.take n := by
  have h := cut_mid xs 0 n
  rw [List.drop_zero, Nat.sub_zero] at h
  rw [← h]
  unfold cutV
  rw [HT.sIx_none, HT.sIx_nat xs.length 0 0]
  simp
section
variable {X : Cx} {B : Bs} {δ : Slots} {τ : Mem} {P : W → Mem → Prop} {D : DE} {e a b c : Expr} {es elts : List Expr} {pos p2 pi p tpos p0 p1 q1 q2 q3 pl po pc pos' : Pos} {kk j1 : Nat} {x y : Str} {i j : Nat} {l : Addr}
theorem xi_enumL {PI' : List Dt → Mem → Prop} (hm : X.mg "enumerate" = none) (h : XA X B δ τ [e] fun ws τ1 => ∃ xs, ws = [.d (.list xs)] ∧ PI' (enumD xs) τ1) (hg : Gl X "enumerate" := by rfl)
    (hs : starEach [e] X.env = [(false, eval e X.env)] := by rfl) :
    XI X B δ τ (.Tuple elts kk tpos) (.Call (.Name "enumerate" p) [e] [] pos) PI' :=
  .of (pi_enum hg hm h.pa hs) fun σ H R k q => ⟨k, fun vs ws τ1 H1 k1 s1 r1 pp => by
    obtain ⟨xs, rfl, pp⟩ := pp
    cases r1 with
    | cons ra rr =>
      cases rr
      obtain ⟨a, us, rfl, a1, a2⟩ := Rp.lst_inv ra
      refine ⟨a, us, rfl, SqL.of (hide_le _ _ a1), q _ (enumD xs) τ1 H1 k1 s1 (fun U' h1 h2 => ?_) pp⟩
      have eq := sub_hide h1 h2
      rw [← eq] at a1 a2
      have la := a2.length
      have lz : (enumD xs).length = us.length := by unfold enumD; rw [List.length_map, List.length_range, la]
      refine ⟨fun i H hi s => ?_, fun H s => ?_, fun i H x H' hi s ex y => ?_⟩
      · have u1 : i < us.length := by omega
        exact ⟨us, us[i], SqL.of (hide_le _ _ (s _ _ a1)), List.getElem?_eq_getElem u1⟩
      · exact ⟨us, SqL.of (hide_le _ _ (s _ _ a1)), by omega⟩
      · obtain ⟨T, x1, rfl, hT, rfl, g1⟩ := y
        obtain ⟨d1, p1, p2⟩ := a2.getV (g1 us (SqL.of (hide_le _ _ (s _ _ a1))))
        refine ⟨same_new hT, .tuple [.int (i : Int), d1], ?_, rp_pair ex hT (.int _) (p2.mono s)⟩
        have hi' : i < xs.length := by omega
        unfold enumD
        rw [List.getElem?_map, List.getElem?_range hi']
        show some (PyData.tuple [.int (i : Int), xs.getD i .none]) = _
        rw [List.getD_eq_getElem?_getD, p1]; rfl⟩
theorem rpa_ints {K : Fg} {H : Hp} : ∀ ns : List Int, RpAll K H (ns.map V.int) (ns.map PyData.int)
  | [] => .nil
  | n :: ns => .cons (.int n) (rpa_ints ns)
theorem sql_keep {K : Fg} {H0 H : Hp} {a : Addr} {xs : List V} (h : SqL K H0 a xs) (k : ∀ o, H0 a = some o → H a = some o) : SqL K H a xs := by
  rcases h with ((h | ⟨o, h⟩) | h)
  · exact .inl (.inl (k _ h))
  · exact .inl (.inr ⟨o, k _ h⟩)
  · exact .inr h
/-- script[:y] -/
theorem xe_cutTo {n i0 : Nat} {ns : List Int} (hl0 : δ[i0]? = some (some (.m l))) (hq : SqL X.K B.H0 l (ns.map V.int)) (ht : B.T = []) (hl : δ[i]? = some (some (.d (.int (n : Int))))) (h : P (.d (.list ((ns.take n).map PyData.int))) τ)
    (hN0 : X.N[i0]? = some x := by rfl) (hv0 : Vis X.env.scope x := by first | exact Or.inl rfl | exact Or.inr (Or.inl rfl) | exact Or.inr (Or.inr rfl)) (hN : X.N[i]? = some y := by rfl) (hv : Vis X.env.scope y := by first | exact Or.inl rfl | exact Or.inr (Or.inl rfl) | exact Or.inr (Or.inr rfl))
    (hd0 : (x == ("__debug__" : Str)) = false := by decide) (hcd0 : (x == ("__classdict__" : Str)) = false := by decide) (hd : (y == ("__debug__" : Str)) = false := by decide) (hcd : (y == ("__classdict__" : Str)) = false := by decide) : XE X B δ τ (.Subscript (.Name x p) (.Slice none (some (.Name y q1)) none p2) pos) P :=
  .of (pe_slice sl_list (pe_var hN0 hv0 hd0 hcd0) po_none (po_some (pe_var hN hv hd hcd))) fun σ H Q k q => by
    obtain ⟨v, v1, v2⟩ := k.sl i0 _ hl0
    have v2' : v = .ref l := v2
    subst v2'
    obtain ⟨z, z1, z2⟩ := k.sl i _ hl
    have e2 : z = .int (n : Int) := Rp.int_inv z2
    subst e2
    have sq := sql_keep hq (fun o e => k.fr l o (by rw [ht]; simp) e)
    refine ⟨_, v1, .int (n : Int), z1, (n : Int), rfl, l, _, rfl, sq, fun t ht' => ?_⟩
    rw [cut_to, ← List.map_take]
    exact q _ (.d (.list _)) τ _ (k.pure (same_new ht')) (hide_same (same_new ht')) (rp_newL k.ex ht' (rpa_ints _)) h
/-- script[y:n] -/
theorem xe_cutMid {m n i0 : Nat} {ns : List Int} (hl0 : δ[i0]? = some (some (.m l))) (hq : SqL X.K B.H0 l (ns.map V.int)) (ht : B.T = []) (hl : δ[i]? = some (some (.d (.int (m : Int))))) (h : P (.d (.list (((ns.drop m).take (n - m)).map PyData.int))) τ)
    (hN0 : X.N[i0]? = some x := by rfl) (hv0 : Vis X.env.scope x := by first | exact Or.inl rfl | exact Or.inr (Or.inl rfl) | exact Or.inr (Or.inr rfl)) (hN : X.N[i]? = some y := by rfl) (hv : Vis X.env.scope y := by first | exact Or.inl rfl | exact Or.inr (Or.inl rfl) | exact Or.inr (Or.inr rfl))
    (hd0 : (x == ("__debug__" : Str)) = false := by decide) (hcd0 : (x == ("__classdict__" : Str)) = false := by decide) (hd : (y == ("__debug__" : Str)) = false := by decide) (hcd : (y == ("__classdict__" : Str)) = false := by decide) : XE X B δ τ (.Subscript (.Name x p) (.Slice (some (.Name y q1)) (some (.Constant (.int (n : Int)) j1 q2)) none p2) pos) P :=
  .of (pe_slice sl_list (pe_var hN0 hv0 hd0 hcd0) (po_some (pe_var hN hv hd hcd)) (po_some pe_int)) fun σ H Q k q => by
    obtain ⟨v, v1, v2⟩ := k.sl i0 _ hl0
    have v2' : v = .ref l := v2
    subst v2'
    obtain ⟨z, z1, z2⟩ := k.sl i _ hl
    have e2 : z = .int (m : Int) := Rp.int_inv z2
    subst e2
    have sq := sql_keep hq (fun o e => k.fr l o (by rw [ht]; simp) e)
    refine ⟨_, v1, .int (m : Int), z1, (m : Int), rfl, (n : Int), rfl, l, _, rfl, sq, fun t ht' => ?_⟩
    rw [cut_mid, ← List.map_drop, ← List.map_take]
    exact q _ (.d (.list _)) τ _ (k.pure (same_new ht')) (hide_same (same_new ht')) (rp_newL k.ex ht' (rpa_ints _)) h
/-- xs[y], xs a list that changes -/
theorem xe_ixMv {n : Int} (hl : δ[i]? = some (some (.m l))) (hj : δ[j]? = some (some (.d (.int n)))) (h : ∃ ys d, memAt τ l = some ys ∧ atI ys n = some d ∧ P (.d d) τ) (hN : X.N[i]? = some x := by rfl) (hv : Vis X.env.scope x := by first | exact Or.inl rfl | exact Or.inr (Or.inl rfl) | exact Or.inr (Or.inr rfl))
    (hN2 : X.N[j]? = some y := by rfl) (hv2 : Vis X.env.scope y := by first | exact Or.inl rfl | exact Or.inr (Or.inl rfl) | exact Or.inr (Or.inr rfl)) (hd : (x == ("__debug__" : Str)) = false := by decide) (hcd : (x == ("__classdict__" : Str)) = false := by decide) (hd2 : (y == ("__debug__" : Str)) = false := by decide) (hcd2 : (y == ("__classdict__" : Str)) = false := by decide) :
    XE X B δ τ (.Subscript (.Name x p) (.Name y q1) pos) P :=
  .of (pe_ix ix_list (pe_var hN hv hd hcd) (pe_var hN2 hv2 hd2 hcd2) (fun _ _ => rfl)) fun σ H Q k q => by
    obtain ⟨v, h1, h2⟩ := k.sl i _ hl
    have h2' : v = .ref l := h2
    subst h2'
    obtain ⟨u, g1, g2⟩ := k.sl j _ hj
    have g2' : u = .int n := Rp.int_inv g2
    subst g2'
    obtain ⟨ys, d, hm, ha, pp⟩ := h
    obtain ⟨_, _, xs, q1, q2⟩ := k.mu _ (memAt_mem hm)
    obtain ⟨z, z1, z2⟩ := atI_of q2 ha
    exact ⟨_, h1, _, g1, l, xs, n, z, rfl, rfl, SqL.of q1, z1, q z (.d d) τ H k (Same.refl _) z2 pp⟩
/-- xs[y] = e, xs a list that changes -/
theorem xs_setMv {n : Nat} (hl : δ[i]? = some (some (.m l))) (hj : δ[j]? = some (some (.d (.int (n : Int)))))
    (h : XE X B δ τ e fun w τ1 => ∃ d ys, w = .d d ∧ memAt τ1 l = some ys ∧ n < ys.length ∧ D.nx B δ (memPut τ1 l (ys.set n d))) (hN : X.N[i]? = some x := by rfl) (hv : Vis X.env.scope x := by first | exact Or.inl rfl | exact Or.inr (Or.inl rfl) | exact Or.inr (Or.inr rfl))
    (hN2 : X.N[j]? = some y := by rfl) (hv2 : Vis X.env.scope y := by first | exact Or.inl rfl | exact Or.inr (Or.inl rfl) | exact Or.inr (Or.inr rfl)) (hd : (x == ("__debug__" : Str)) = false := by decide) (hcd : (x == ("__classdict__" : Str)) = false := by decide) (hd2 : (y == ("__debug__" : Str)) = false := by decide) (hcd2 : (y == ("__classdict__" : Str)) = false := by decide)
    (hs : swapsWithSole [.Subscript (.Name x p) (.Name y q1) q2] e pos.line X.env = pure false := by rfl) (hw : swappedStores [.Subscript (.Name x p) (.Name y q1) q2] e X.env = pure none := by rfl)
    (h1 : (assignEach [.Subscript (.Name x p) (.Name y q1) q2] X.env).map (·.2) = [assign (.Subscript (.Name x p) (.Name y q1) q2) X.env] := by rfl) :
    XS X B δ τ (.Assign [.Subscript (.Name x p) (.Name y q1) q2] e pos) D :=
  .of (ps_asg h.pe (pg_sub (pe_var hN hv hd hcd) (pe_var hN2 hv2 hd2 hcd2) set_list) hs hw h1) fun E σ H r => ⟨r.ok, fun v w τ1 H1 o s rv pp => by
    obtain ⟨d, ys, rfl, hm, hn, pp⟩ := pp
    obtain ⟨u, u1, u2⟩ := o.sl i _ hl
    have u2' : u = .ref l := u2
    subst u2'
    obtain ⟨z, g1, g2⟩ := o.sl j _ hj
    have g2' : z = .int (n : Int) := Rp.int_inv g2
    subst g2'
    obtain ⟨_, _, xs, q1, q2⟩ := o.mu _ (memAt_mem hm)
    have lx := q2.length
    refine ⟨_, u1, _, g1, l, xs, (n : Int), n, rfl, rfl, q1, ?_, ?_⟩
    · unfold ixN
      rw [lx]
      simp
      omega
    · obtain ⟨o2, s2⟩ := o.put (H' := upd H1 l (.lst (xs.set n v))) hm (q2.set rv n) upd_same (fun b u ne e => by rw [upd_ne ne]; exact e)
      exact r.nx B δ _ _ _ (.refl _) o2 (s.trans s2) pp⟩
/-- x = list(e) or [0]: a list that is to change -/
theorem xs_listOr (hm : X.mg "list" = none) (hN : X.N.Nodup) (hi : X.N[i]? = some x) (hx : Loc X.env.scope x)
    (h : XA X B δ τ [e] fun ws τ1 => ∃ ds, ws = [.d (.list ds)] ∧ ∀ p, p ∉ B.U → D.nx { B with U := p :: B.U } (δ.set i (some (.m p))) ((p, if ds = [] then [.int 0] else ds) :: τ1)) (hg : Gl X "list" := by rfl)
    (he : starEach [e] X.env = (false, eval e X.env) :: starEach [] X.env := by rfl) (hpl : (backTo pc (starEach [] X.env)).any (·.1) = false := by rfl)
    (hs : swapsWith (.BoolOp .Or [.Call (.Name "list" p) [e] [] pc, .List [.Constant (.int 0) j1 q1] pl] po) (some (.Name x pos')) pos.line X.env = pure false := by rfl)
    (hf : X.fn x = true ∨ X.env.scope.names.lookup x = some .local := by first | exact .inl rfl | exact .inr rfl | assumption) :
    XS X B δ τ (.Assign [.Name x pos'] (.BoolOp .Or [.Call (.Name "list" p) [e] [] pc, .List [.Constant (.int 0) j1 q1] pl] po) pos) D :=
  .of (ps_set hN hi hx (pe_orT (pe_callTy call_list_of hg hm (by decide +kernel) h.pa (by decide) (by decide) he hpl) (pe_one (pe_lst (pa_cons pe_int pa_nil)))) hs hf) fun E σ H r => ⟨r.ok, fun vs ws τ1 H1 k1 s1 r1 pp => by
    obtain ⟨ds, rfl, pp⟩ := pp
    cases r1 with
    | cons ra rr =>
      cases rr
      obtain ⟨t, xs, rfl, u1, u2⟩ := Rp.lst_inv ra
      refine ⟨t, xs, rfl, .inl (SqL.of (hide_le _ _ u1)), fun l hl => ?_⟩
      cases u2 with
      | nil =>
        refine ⟨false, .inl ⟨[], SqL.of upd_same, rfl⟩, ?_⟩
        rw [if_neg (by decide)]
        refine ⟨by decide, fun p hp => ?_⟩
        have k2 := k1.pure (same_new (o := .lst []) hl)
        have s2 := s1.trans (hide_same (U := B.U) (same_new (o := .lst []) hl))
        refine r.nx { B with U := p :: B.U } _ _ _ _ ⟨rfl, rfl, fun a m => List.mem_cons_of_mem p m⟩ ((k2.fresh (xs := [.int 0]) (ys := [.int 0]) hp (.cons (.int _) .nil)).sets (v := .ref p) (w := .m p) rfl _) (s2.trans (fresh_same hp)) ?_
        have := pp p (k2.new hp)
        rwa [if_pos rfl] at this
      | @cons v vs d ds' r1 r2 =>
        refine ⟨true, .inl ⟨v :: vs, SqL.of upd_same, rfl⟩, ?_⟩
        rw [if_pos rfl]
        refine r.nx { B with U := l :: B.U } _ _ _ _ ⟨rfl, rfl, fun a m => List.mem_cons_of_mem l m⟩ ((k1.fresh (xs := v :: vs) (ys := d :: ds') hl (.cons r1 r2)).sets (v := .ref l) (w := .m l) rfl _) (s1.trans (fresh_same hl)) ?_
        have := pp l (k1.new hl)
        rwa [if_neg (by simp)] at this⟩
/-- return x, x a list that is to be handed out -/
theorem xs_retM (hl : δ[i]? = some (some (.m l))) (h : D.rt (.m l) τ) (hN : X.N[i]? = some x := by rfl) (hv : Vis X.env.scope x := by first | exact Or.inl rfl | exact Or.inr (Or.inl rfl) | exact Or.inr (Or.inr rfl))
    (hd : (x == ("__debug__" : Str)) = false := by decide) (hcd : (x == ("__classdict__" : Str)) = false := by decide) : XS X B δ τ (.Return (some (.Name x p)) pos) D :=
  .of (ps_ret (pe_var hN hv hd hcd)) fun E σ H r => by
    obtain ⟨v, h1, h2⟩ := r.ok.sl i _ hl
    have h2' : v = .ref l := h2
    subst h2'
    exact ⟨_, h1, r.rt (.ref l) (.m l) B δ τ σ H (.refl _) r.ok rfl h⟩
end
section
variable {P : Program} {w : World} {K : Fg} {mg : Str → Option Value} {base : Heap} {f : Addr} {fd : FuncData}
/-- the cells of a script, a new list -/
def spC (K : Fg) : Sp := fun vs H Q _ => ∃ (U : List Addr) (a : Addr) (ns : List Int), (∀ b ∈ U, H b ≠ none) ∧ vs = [.ref a, .int 4] ∧ SqL K H a (ns.map V.int) ∧ ∀ (p : Addr) (xs : List V) (ms : List Int) (H' : Hp), ms.length ≤ 4 → Same H H' → H p = none → H' p = some (.lst xs) → RpAll K (hide U H') xs (ms.map PyData.int) → Q (.ref p) H'
theorem ok_L_cells (F : Fun K "_law_cells" "_law_cells" s_L_cells f fd) (ml : mg "list" = none) (me : mg "enumerate" = none) (mi : mg "int" = none) : FnOk P w K mg base CX0 1 f fd p_L_cells (spC K) := by
  refine F.ok sc_L_cells (fun vs H Q E h => ?_) (fun cdv A outer s H vs Q E hr h => ?_)
  · obtain ⟨U, a, ns, _, rfl, _⟩ := h; rfl
  · obtain ⟨U, l0, ns, ex, rfl, hsq, q⟩ := h
    have body : XSs (cx0 P w K mg base n_L_cells "_law_cells" s_L_cells f cdv A outer s H E) ⟨H, [], U⟩ (slots0 n_L_cells [.m l0, .d (.int 4)]) [] (defBody s_L_cells)
        { nx := fun _ _ _ => False, rt := fun v τ => ∃ (p : Addr) (ms : List Int), v = .m p ∧ memAt τ p = some (ms.map PyData.int) ∧ ms.length ≤ 4 } := by
      have nd := sc_L_cells.nd
      refine xss_cons (xs_listOr (i := 2) ml nd rfl (.inl rfl) ?_)
      refine xa_cons (xe_cutTo (i0 := 0) (i := 1) (n := 4) (ns := ns) rfl hsq rfl rfl ?_)
      refine xa_nil ⟨_, rfl, fun p hp => ?_⟩
      have h0 : ∃ ms : List Int, (if (ns.take 4).map PyData.int = [] then [PyData.int 0] else (ns.take 4).map PyData.int) = ms.map PyData.int ∧ ms.length ≤ 4 ∧ (ns.drop 4 = [] ∨ ms.length = 4) := by
        by_cases c : ns.take 4 = []
        · refine ⟨[0], by rw [if_pos (by rw [c]; rfl)]; rfl, by decide, .inl ?_⟩
          have : ns = [] := by simpa using c
          rw [this]; rfl
        · refine ⟨ns.take 4, by rw [if_neg (by simpa using c)], by rw [List.length_take]; omega, ?_⟩
          by_cases l : 4 ≤ ns.length
          · exact .inr (by rw [List.length_take]; omega)
          · exact .inl (List.drop_eq_nil_of_le (by omega))
      obtain ⟨ms, e0, hm, hd⟩ := h0
      rw [e0]
      show XSs _ _ _ _ _ _
      refine xss_cons (xs_for (is := [3] ++ ([4] ++ [])) PassesOwn.never rfl (xg_tup (n := 2) rfl (xgs_cons (xg_name (i := 3) nd rfl (.inl rfl)) (xgs_cons (xg_name (i := 4) nd rfl (.inl rfl)) xgs_nil))) (xi_enumL me ?_))
      refine xa_cons (xe_cutMid (i0 := 0) (i := 1) (m := 4) (n := 63) (ns := ns) rfl hsq rfl rfl ?_)
      refine xa_nil ⟨_, rfl, fun i δ τ => ∃ (ks : List Int) (a b c : Option W), ks.length = ms.length ∧ τ = [(p, ks.map PyData.int)] ∧ δ = [some (.m l0), some (.d (.int 4)), some (.m p), a, b, c], ⟨ms, _, _, _, rfl, rfl, rfl⟩, fun i d δ τ hd2 hI => ?_, fun δ τ hI => ?_⟩
      · obtain ⟨ks, a, b, c, hl, rfl, rfl⟩ := hI
        obtain ⟨x, hx, rfl⟩ := enumD_get hd2
        obtain ⟨v, hv, rfl⟩ := map_get hx
        have hx2 : v ∈ ns.drop 4 := List.take_subset _ _ (List.mem_of_getElem? hv)
        have h4 : ms.length = 4 := by
          rcases hd with z | z
          · rw [z] at hx2; cases hx2
          · exact z
        have hi : i < 60 := by
          have := (List.getElem?_eq_some_iff.mp hv).1
          rw [List.length_take] at this
          omega
        refine ⟨_, rfl, rfl, _, _, rfl, _, _, rfl, rfl, ?_⟩
        show XSs _ _ _ _ _ _
        refine xss_cons ?_
        walk_at "xset"
        refine xe_mod ?_
        refine xe_callTy call_int1 mi (by decide +kernel) ?_
        walk_at "xp"
        refine rn_intI ?_
        walk_at "xv"
        refine r2_int (by decide) ?_
        have e4 : ((i : Int) % 4) = ((i % 4 : Nat) : Int) := by omega
        rw [e4]
        have h5 : i % 4 < 4 := Nat.mod_lt _ (by decide)
        generalize i % 4 = at4 at *
        show XSs _ _ _ _ _ _
        have g1 : at4 < (ks.map PyData.int).length := by rw [List.length_map]; omega
        refine xss_cons (xs_setMv (i := 2) (j := 5) (n := at4) rfl rfl ?_)
        refine xe_add (xe_ixMv (i := 2) (j := 5) (n := (at4 : Int)) rfl rfl ⟨_, .int (ks[at4]'(by omega)), memAt_head, atI_nat (by rw [List.getElem?_map, List.getElem?_eq_getElem (by omega)]; rfl), ?_⟩)
        refine xe_mul ?_
        walk_at "xv"
        refine xe_add ?_
        walk_at "xp"
        refine r2_int (.inr ⟨by omega, by omega⟩) ?_
        walk_at "xp"
        refine ⟨_, _, rfl, memAt_head, g1, ?_⟩
        rw [memPut_head (by simp)]
        refine xss_nil ⟨rfl, ks.set at4 (ks[at4]'(by rw [List.length_map] at g1; exact g1) + v * ((i : Int) + 2)), _, _, _, by rw [List.length_set]; exact hl, ?_, rfl⟩
        rw [List.map_set]
      · obtain ⟨ks, a, b, c, hl, rfl, rfl⟩ := hI
        refine xss_cons (xs_retM (i := 2) rfl ?_)
        exact ⟨p, ks, rfl, memAt_head, by omega⟩
    refine ⟨_, body.ps, ?_⟩
    have sm : ∀ {B' δ' τ' σ' H'}, Bs.le ⟨H, [], U⟩ B' → Ok K B' δ' τ' σ' H' → Same H H' := fun {B' δ' τ' σ' H'} l o b u e =>
      o.fr b u (by rw [l.t]; simp) (by rw [l.h0]; exact e)
    have un : ∀ {B' : Bs} {H' : Hp}, Bs.le ⟨H, [], U⟩ B' → Same (hide B'.U H') (hide U H') := fun {B' H'} l b u e => by
      by_cases c : b ∈ B'.U
      · rw [hide_in c] at e; cases e
      · rw [hide_out c] at e
        rw [hide_out (fun m => c (l.u b m))]; exact e
    have st : RwAll K (hide U H) [.ref l0, .int 4] [.m l0, .d (.int 4)] := .cons (show Rw K (hide U H) (.ref l0) (.m l0) from rfl) (.cons (show Rw K (hide U H) (.int 4) (.d (.int 4)) from .int 4) .nil)
    refine ⟨⟨fun _ _ _ e => e, (fun _ m => nomatch m), ex, (fun _ m => nomatch m), List.nodup_nil, start_slots st, start_len (by rfl)⟩, fun _ _ _ _ _ _ _ _ z => z.elim, fun v w' B' δ' τ' σ' H' l o rv pd => ?_, fun _ _ _ _ _ _ _ _ z => z.elim, fun _ _ _ _ _ _ _ _ z => z.elim⟩
    obtain ⟨p, ms, rfl, hm, hl⟩ := pd
    have ev : v = .ref p := rv
    subst ev
    obtain ⟨_, h2, xs, h3, h4⟩ := o.mu _ (memAt_mem hm)
    have h5 : H p = none := by
      rcases h2 with z | z
      · rw [l.t] at z; cases z
      · rw [l.h0] at z; exact z
    exact q p xs ms H' hl (sm l o) h5 h3 (h4.mono (un l))
end

end K10

set_option maxRecDepth 100000
set_option maxHeartbeats 4100000
set_option pp.maxSteps 1500
namespace K10
open L2 PyProof.Rows PySem.Spec PySem
local macro_rules | `(tactic| walk_at "xv") => `(tactic| first
  | refine xe_var (i := 0) rfl ?_ | refine xe_var (i := 1) rfl ?_ | refine xe_var (i := 2) rfl ?_ | refine xe_var (i := 3) rfl ?_
  | refine xe_var (i := 4) rfl ?_ | refine xe_var (i := 5) rfl ?_ | refine xe_var (i := 6) rfl ?_ | refine xe_var (i := 7) rfl ?_
  | refine xe_var (i := 8) rfl ?_ | refine xe_var (i := 9) rfl ?_ | refine xe_var (i := 10) rfl ?_ | refine xe_var (i := 11) rfl ?_
  | refine xe_var (i := 12) rfl ?_ | refine xe_var (i := 13) rfl ?_ | refine xe_var (i := 14) rfl ?_ | refine xe_var (i := 15) rfl ?_ | refine xe_var (i := 16) rfl ?_ | refine xe_var (i := 17) rfl ?_)
local macro_rules | `(tactic| walk_at "xset") => `(tactic| first
  | refine xs_set (i := 0) (by assumption) rfl (by first | exact .inl rfl | exact .inr rfl) ?_ | refine xs_set (i := 1) (by assumption) rfl (by first | exact .inl rfl | exact .inr rfl) ?_
  | refine xs_set (i := 2) (by assumption) rfl (by first | exact .inl rfl | exact .inr rfl) ?_ | refine xs_set (i := 3) (by assumption) rfl (by first | exact .inl rfl | exact .inr rfl) ?_
  | refine xs_set (i := 4) (by assumption) rfl (by first | exact .inl rfl | exact .inr rfl) ?_ | refine xs_set (i := 5) (by assumption) rfl (by first | exact .inl rfl | exact .inr rfl) ?_
  | refine xs_set (i := 6) (by assumption) rfl (by first | exact .inl rfl | exact .inr rfl) ?_ | refine xs_set (i := 7) (by assumption) rfl (by first | exact .inl rfl | exact .inr rfl) ?_
  | refine xs_set (i := 8) (by assumption) rfl (by first | exact .inl rfl | exact .inr rfl) ?_ | refine xs_set (i := 9) (by assumption) rfl (by first | exact .inl rfl | exact .inr rfl) ?_
  | refine xs_set (i := 10) (by assumption) rfl (by first | exact .inl rfl | exact .inr rfl) ?_ | refine xs_set (i := 11) (by assumption) rfl (by first | exact .inl rfl | exact .inr rfl) ?_)
local macro_rules | `(tactic| walk_at "xset'") => `(tactic| first | refine xs_set (i := 12) (by assumption) rfl (by first | exact .inl rfl | exact .inr rfl) ?_ | refine xs_set (i := 13) (by assumption) rfl (by first | exact .inl rfl | exact .inr rfl) ?_ | refine xs_set (i := 14) (by assumption) rfl (by first | exact .inl rfl | exact .inr rfl) ?_ | refine xs_set (i := 15) (by assumption) rfl (by first | exact .inl rfl | exact .inr rfl) ?_ | refine xs_set (i := 16) (by assumption) rfl (by first | exact .inl rfl | exact .inr rfl) ?_ | refine xs_set (i := 17) (by assumption) rfl (by first | exact .inl rfl | exact .inr rfl) ?_)
local macro_rules | `(tactic| walk_at "xname") => `(tactic| first
  | refine xg_name (i := 0) (by assumption) rfl (by first | exact .inl rfl | exact .inr rfl) | refine xg_name (i := 1) (by assumption) rfl (by first | exact .inl rfl | exact .inr rfl)
  | refine xg_name (i := 2) (by assumption) rfl (by first | exact .inl rfl | exact .inr rfl) | refine xg_name (i := 3) (by assumption) rfl (by first | exact .inl rfl | exact .inr rfl)
  | refine xg_name (i := 4) (by assumption) rfl (by first | exact .inl rfl | exact .inr rfl) | refine xg_name (i := 5) (by assumption) rfl (by first | exact .inl rfl | exact .inr rfl)
  | refine xg_name (i := 6) (by assumption) rfl (by first | exact .inl rfl | exact .inr rfl) | refine xg_name (i := 7) (by assumption) rfl (by first | exact .inl rfl | exact .inr rfl)
  | refine xg_name (i := 8) (by assumption) rfl (by first | exact .inl rfl | exact .inr rfl) | refine xg_name (i := 9) (by assumption) rfl (by first | exact .inl rfl | exact .inr rfl)
  | refine xg_name (i := 10) (by assumption) rfl (by first | exact .inl rfl | exact .inr rfl) | refine xg_name (i := 11) (by assumption) rfl (by first | exact .inl rfl | exact .inr rfl))
local macro_rules | `(tactic| walk_at "xcall") => `(tactic|
  (refine xe_call (by assumption) (Room.mono (by assumption) (by decide)) ?_))
local macro_rules | `(tactic| walk_at "x1") => `(tactic| first
  | refine xa_nil ?_ | refine xa_cons ?_ | refine xe_int ?_ | refine xe_bl ?_ | refine xe_non ?_ | refine xe_str ?_
  | walk_at "xv"
  | refine xe_tup ?_ | refine xe_lst ?_
  | refine xe_sub ?_
  | refine xe_ixT ?_
  | refine xe_neg ?_
  | refine xss_nil ?_ | refine xss_cons ?_ | refine xs_ret ?_ | walk_at "xset" | refine xs_if ?_
  | refine r2_int0 ?_ | refine r2_bool0 ?_ | refine r2_eqI ?_ | refine r2_neI ?_ | refine r1_neg ?_ | refine r2_ix0 ?_ | refine r2_ix1 ?_ | refine r2_ix2 ?_
  | refine xt_lt ?_ | refine xt_le ?_ | refine xt_gt ?_ | refine xt_ge ?_
  | refine xe_lt ?_ | refine xe_le ?_ | refine xe_gt ?_ | refine xe_ge ?_
  | refine xt_not ?_
  | walk_at "xcall")
local macro_rules | `(tactic| walk_at "xp") => `(tactic| repeat (walk_at "x1"))
section
variable {X : Cx} {B : Bs} {δ : Slots} {τ : Mem} {P : W → Mem → Prop} {pos p p3 p4 : Pos} {k i j1 : Nat} {x y : Str} {ps : List Str} {l : Addr}
/-- cells(script, 4) -/
theorem xe_callC {ns : List Int} (F : HasX X CX0 k x ps (spC X.K)) (hr : Room k X.A) (hl : δ[i]? = some (some (.m l))) (hq : SqL X.K B.H0 l (ns.map V.int)) (ht : B.T = []) (h : ∀ ms : List Int, ms.length ≤ 4 → P (.d (.list (ms.map PyData.int))) τ)
    (hN : X.N[i]? = some y := by rfl) (hv : Vis X.env.scope y := by first | exact Or.inl rfl | exact Or.inr (Or.inl rfl) | exact Or.inr (Or.inr rfl)) (hd : (y == ("__debug__" : Str)) = false := by decide) (hcd : (y == ("__classdict__" : Str)) = false := by decide)
    (hg : Gl X x := by rfl) (hdb : (x == ("__debug__" : Str)) = false := by decide)
    (he : starEach [.Name y p3, .Constant (.int 4) j1 p4] X.env = (false, eval (.Name y p3) X.env) :: starEach [.Constant (.int 4) j1 p4] X.env := by rfl) (he2 : starEach [.Constant (.int 4) j1 p4] X.env = (false, eval (.Constant (.int 4) j1 p4) X.env) :: starEach [] X.env := by rfl)
    (hpl : (backTo pos (starEach [.Constant (.int 4) j1 p4] X.env)).any (·.1) = false := by rfl) : XE X B δ τ (.Call (.Name x p) [.Name y p3, .Constant (.int 4) j1 p4] [] pos) P := by
  obtain ⟨f, fd, h1, h2, h3, h4⟩ := F.ex
  exact .of (pe_call h4 hr hg h1 h2 h3 .nil pass0 (pa_cons (pe_var hN hv hd hcd) (pa_cons pe_int pa_nil he2) he) hdb he hpl) fun σ H Q k q => by
    obtain ⟨v, v1, v2⟩ := k.sl i _ hl
    have v2' : v = .ref l := v2
    subst v2'
    refine ⟨_, v1, ?_⟩
    show spC X.K ([V.ref l, V.int 4] ++ []) H Q E0
    rw [List.append_nil]
    refine ⟨B.U, l, ns, k.ex, rfl, sql_keep hq (fun o e => k.fr l o (by rw [ht]; simp) e), fun p xs ms H' hm s hp hl rl => ?_⟩
    refine q (.ref p) (.d (.list (ms.map PyData.int))) τ H' (k.pure s) (hide_same s) (.lst (xs := xs) ?_ rl) (h ms hm)
    rw [hide_out (k.new hp)]; exact hl
end
section
variable {P : Program} {w : World} {K : Fg} {mg : Str → Option Value} {base : Heap} {f : Addr} {fd : FuncData}
abbrev R_hand : RR := fun ds P => ds = [] ∧ P (.bool true)
/-- the law's promise -/
def spLaw (K : Fg) : Sp := fun vs H Q _ => ∃ (a : Addr) (ns : List Int), vs = [.ref a] ∧ SqL K H a (ns.map V.int) ∧ ∀ H', Q (.bl true) H'
theorem ok_L_law (F : Fun K "law" "law" s_L_law f fd) (hB : Has P w K mg base CX0 13 "_law_by_hand_right" p_L_by_hand_right (spP K R_hand)) (hC : Has P w K mg base CX0 1 "_law_cells" p_L_cells (spC K)) (hX : Has P w K mg base CX0 1 "_law_box" p_L_box (spN K R_box))
    (hR : Has P w K mg base CX0 14 "_law_right" p_L_right (spT K R_right)) (mall : mg "all" = none) (mr : mg "range" = none) (mlen : mg "len" = none) : FnOk P w K mg base CX0 15 f fd p_L_law (spLaw K) := by
  refine F.ok sc_L_law (fun vs H Q E h => ?_) (fun cdv A outer s H vs Q E hr h => ?_)
  · obtain ⟨a, ns, rfl, _⟩ := h; rfl
  · obtain ⟨l0, ns, rfl, hsq, q⟩ := h
    have body : XSs (cx0 P w K mg base n_L_law "law" s_L_law f cdv A outer s H E) ⟨H, [], []⟩ (slots0 n_L_law [.m l0]) [] (defBody s_L_law) { nx := fun _ _ _ => False, rt := fun v _ => v = .d (.bool true) } := by
      have nd := sc_L_law.nd
      have hr' : Room 14 (cx0 P w K mg base n_L_law "law" s_L_law f cdv A outer s H E).A := hr
      refine xss_cons (xs_if (xt_not (xt_val (xe_call0 hB (hr'.mono (by decide)) ⟨rfl, _, rfl, iteF (xss_nil ?_)⟩))))
      refine xss_cons ?_
      walk_at "xset"
      refine xe_callC (i := 0) (ns := ns) hC (hr'.mono (by decide)) rfl hsq rfl fun ms hm => ?_
      show XSs _ _ _ _ _ _
      refine xss_cons (xs_ret (xe_callB (cr_all rfl) mall (by decide +kernel) (xa_cons ?_)))
      refine xe_lc1 (j := 2) (own := [("_law_k", 2)]) rfl nd (blkOk_by (N := n_L_law) (sc := defScope s_L_law) (by decide +kernel)) (by decide) rfl rfl (xi_range1 rfl mr ?_)
      refine xa_cons (xe_callB call_len_seq mlen PySem.boot_len ?_)
      walk_at "xp"
      refine rn_lenL ?_
      refine xa_nil ⟨ms.length, by rw [List.length_map], by omega, ?_⟩
      refine ⟨(ms.map fun _ => true).map PyData.bool, by simp, by simp; omega, fun i d z h1 h2 X' B' τ' hX' => ?_, ?_⟩
      · obtain ⟨s', H', C', cl', fp', rfl⟩ := hX'
        obtain ⟨b, hb, rfl⟩ := map_get h2
        obtain ⟨_, _, rfl⟩ := map_get hb
        obtain ⟨k, hk, rfl⟩ := map_get h1
        have hk2 : k < ms.length := List.mem_range.mp (List.mem_of_getElem? hk)
        refine xe_callTN hR (hr'.mono (by decide)) hX (hr'.mono (by decide)) ?_
        walk_at "xp"
        exact ⟨[_, _], rfl, ms, k, rfl, by omega, by omega, fun a b => ⟨⟨[a, b, 0], rfl⟩, a, b, rfl, rfl, fun _ => ⟨rfl, rfl⟩⟩⟩
      · walk_at "xp"
        refine rn_all ?_
        rw [show (ms.map fun _ => true).all id = true by simp]
    refine ⟨_, body.ps, ?_⟩
    have st : RwAll K (hide [] H) [.ref l0] [.m l0] := .cons (show Rw K (hide [] H) (.ref l0) (.m l0) from rfl) .nil
    refine ⟨⟨fun _ _ _ e => e, (fun _ m => nomatch m), (fun _ m => nomatch m), (fun _ m => nomatch m), List.nodup_nil, start_slots st, start_len (by rfl)⟩, fun _ _ _ _ _ _ _ _ z => z.elim, fun v w' B' δ' τ' σ' H' l o rv pd => ?_, fun _ _ _ _ _ _ _ _ z => z.elim, fun _ _ _ _ _ _ _ _ z => z.elim⟩
    subst pd
    have ev : v = .bl true := Rp.bl_inv rv
    subst ev
    exact q H'
end

end K10

set_option maxRecDepth 100000
set_option maxHeartbeats 4100000
set_option pp.maxSteps 1500
namespace K10
open L2 PyProof.Rows PySem.Spec PySem
local macro_rules | `(tactic| walk_at "xv") => `(tactic| first
  | refine xe_var (i := 0) rfl ?_ | refine xe_var (i := 1) rfl ?_ | refine xe_var (i := 2) rfl ?_ | refine xe_var (i := 3) rfl ?_
  | refine xe_var (i := 4) rfl ?_ | refine xe_var (i := 5) rfl ?_ | refine xe_var (i := 6) rfl ?_ | refine xe_var (i := 7) rfl ?_
  | refine xe_var (i := 8) rfl ?_ | refine xe_var (i := 9) rfl ?_ | refine xe_var (i := 10) rfl ?_ | refine xe_var (i := 11) rfl ?_
  | refine xe_var (i := 12) rfl ?_ | refine xe_var (i := 13) rfl ?_ | refine xe_var (i := 14) rfl ?_ | refine xe_var (i := 15) rfl ?_ | refine xe_var (i := 16) rfl ?_ | refine xe_var (i := 17) rfl ?_)
local macro_rules | `(tactic| walk_at "xset") => `(tactic| first
  | refine xs_set (i := 0) (by assumption) rfl (by first | exact .inl rfl | exact .inr rfl) ?_ | refine xs_set (i := 1) (by assumption) rfl (by first | exact .inl rfl | exact .inr rfl) ?_
  | refine xs_set (i := 2) (by assumption) rfl (by first | exact .inl rfl | exact .inr rfl) ?_ | refine xs_set (i := 3) (by assumption) rfl (by first | exact .inl rfl | exact .inr rfl) ?_
  | refine xs_set (i := 4) (by assumption) rfl (by first | exact .inl rfl | exact .inr rfl) ?_ | refine xs_set (i := 5) (by assumption) rfl (by first | exact .inl rfl | exact .inr rfl) ?_
  | refine xs_set (i := 6) (by assumption) rfl (by first | exact .inl rfl | exact .inr rfl) ?_ | refine xs_set (i := 7) (by assumption) rfl (by first | exact .inl rfl | exact .inr rfl) ?_
  | refine xs_set (i := 8) (by assumption) rfl (by first | exact .inl rfl | exact .inr rfl) ?_ | refine xs_set (i := 9) (by assumption) rfl (by first | exact .inl rfl | exact .inr rfl) ?_
  | refine xs_set (i := 10) (by assumption) rfl (by first | exact .inl rfl | exact .inr rfl) ?_ | refine xs_set (i := 11) (by assumption) rfl (by first | exact .inl rfl | exact .inr rfl) ?_)
local macro_rules | `(tactic| walk_at "xset'") => `(tactic| first | refine xs_set (i := 12) (by assumption) rfl (by first | exact .inl rfl | exact .inr rfl) ?_ | refine xs_set (i := 13) (by assumption) rfl (by first | exact .inl rfl | exact .inr rfl) ?_ | refine xs_set (i := 14) (by assumption) rfl (by first | exact .inl rfl | exact .inr rfl) ?_ | refine xs_set (i := 15) (by assumption) rfl (by first | exact .inl rfl | exact .inr rfl) ?_ | refine xs_set (i := 16) (by assumption) rfl (by first | exact .inl rfl | exact .inr rfl) ?_ | refine xs_set (i := 17) (by assumption) rfl (by first | exact .inl rfl | exact .inr rfl) ?_)
local macro_rules | `(tactic| walk_at "xname") => `(tactic| first
  | refine xg_name (i := 0) (by assumption) rfl (by first | exact .inl rfl | exact .inr rfl) | refine xg_name (i := 1) (by assumption) rfl (by first | exact .inl rfl | exact .inr rfl)
  | refine xg_name (i := 2) (by assumption) rfl (by first | exact .inl rfl | exact .inr rfl) | refine xg_name (i := 3) (by assumption) rfl (by first | exact .inl rfl | exact .inr rfl)
  | refine xg_name (i := 4) (by assumption) rfl (by first | exact .inl rfl | exact .inr rfl) | refine xg_name (i := 5) (by assumption) rfl (by first | exact .inl rfl | exact .inr rfl)
  | refine xg_name (i := 6) (by assumption) rfl (by first | exact .inl rfl | exact .inr rfl) | refine xg_name (i := 7) (by assumption) rfl (by first | exact .inl rfl | exact .inr rfl)
  | refine xg_name (i := 8) (by assumption) rfl (by first | exact .inl rfl | exact .inr rfl) | refine xg_name (i := 9) (by assumption) rfl (by first | exact .inl rfl | exact .inr rfl)
  | refine xg_name (i := 10) (by assumption) rfl (by first | exact .inl rfl | exact .inr rfl) | refine xg_name (i := 11) (by assumption) rfl (by first | exact .inl rfl | exact .inr rfl))
local macro_rules | `(tactic| walk_at "xcall") => `(tactic|
  (refine xe_call (by assumption) (Room.mono (by assumption) (by decide)) ?_))
local macro_rules | `(tactic| walk_at "x1") => `(tactic| first
  | refine xa_nil ?_ | refine xa_cons ?_ | refine xe_int ?_ | refine xe_bl ?_ | refine xe_non ?_ | refine xe_str ?_
  | walk_at "xv"
  | refine xe_tup ?_ | refine xe_lst ?_
  | refine xe_sub ?_
  | refine xe_ixT ?_
  | refine xe_neg ?_
  | refine xss_nil ?_ | refine xss_cons ?_ | refine xs_ret ?_ | walk_at "xset" | refine xs_if ?_
  | refine r2_int0 ?_ | refine r2_bool0 ?_ | refine r2_eqI ?_ | refine r2_neI ?_ | refine r1_neg ?_ | refine r2_ix0 ?_ | refine r2_ix1 ?_ | refine r2_ix2 ?_
  | refine xt_lt ?_ | refine xt_le ?_ | refine xt_gt ?_ | refine xt_ge ?_
  | refine xe_lt ?_ | refine xe_le ?_ | refine xe_gt ?_ | refine xe_ge ?_
  | refine xt_not ?_
  | walk_at "xcall")
local macro_rules | `(tactic| walk_at "xp") => `(tactic| repeat (walk_at "x1"))
/-! ### by hand -/
def g0 : List (List Rat) := [[1, 2], [2, -1]]
def m0 : Mk := ⟨0, [0], 0⟩
def m1 : Mk := ⟨0, [0], 1⟩
theorem fit0 : Fit g0 [m0] := by unfold Fit; decide +kernel
theorem fit0t : Fit (turns g0) ([m0].map Mk.swap) := by unfold Fit; decide +kernel
theorem fit1 : ¬ Fit g0 [m0, m1] := by unfold Fit; decide +kernel
theorem fit1t : ¬ Fit (turns g0) ([m0, m1].map Mk.swap) := by unfold Fit; decide +kernel
theorem btw_a : btw g0 [1, 1] [m0] = .tuple [fr 1, fr 3] := by
  unfold btw
  rw [show lows g0 [1, 1] [m0] = some 1 by decide +kernel, show highs g0 [1, 1] [m0] = some 3 by decide +kernel]; rfl
theorem btw_b : btw (turns g0) [3, 1] ([m0].map Mk.swap) = .tuple [fr 1, fr 2] := by
  unfold btw
  rw [show lows (turns g0) [3, 1] ([m0].map Mk.swap) = some 1 by decide +kernel, show highs (turns g0) [3, 1] ([m0].map Mk.swap) = some 2 by decide +kernel]; rfl
theorem btw_c : btw (turns g0) [2, 0] ([m0].map Mk.swap) = .tuple [fr 1, fr 2] := by
  unfold btw
  rw [show lows (turns g0) [2, 0] ([m0].map Mk.swap) = some 1 by decide +kernel, show highs (turns g0) [2, 0] ([m0].map Mk.swap) = some 2 by decide +kernel]; rfl
theorem sz_dec {n : Nat} {q : Rat} (h : (decide (q.num.natAbs < 2 ^ n) && decide (q.den < 2 ^ n)) = true) : Sz n q := by
  rw [Bool.and_eq_true] at h
  exact ⟨of_decide_eq_true h.1, of_decide_eq_true h.2⟩
theorem szall_dec {n : Nat} {qs : List Rat} (h : (qs.all fun q => decide (q.num.natAbs < 2 ^ n) && decide (q.den < 2 ^ n)) = true) : SzAll n qs := fun q hq => sz_dec (List.all_eq_true.mp h q hq)
theorem gau0 : Gau 3 1 g0 := ⟨fun c hc => by
  have e : c = [1, 2] ∨ c = [2, -1] := by simpa [g0] using hc
  rcases e with e | e <;> rw [e] <;> exact szall_dec (by decide +kernel), fun c hc => by
  have e : c = [1, 2] ∨ c = [2, -1] := by simpa [g0] using hc
  rcases e with e | e <;> rw [e]
  · exact ⟨1, [2], rfl, by decide +kernel, rfl⟩
  · exact ⟨2, [-1], rfl, by decide +kernel, rfl⟩, by decide, by decide⟩
theorem szm0 : SzM 3 3 2 [m0] := ⟨fun m h => by cases List.mem_singleton.mp h; exact sz_dec (by decide +kernel), fun m h => by cases List.mem_singleton.mp h; exact szall_dec (by decide +kernel), fun m h => by cases List.mem_singleton.mp h; exact sz_dec (by decide +kernel), fun m h => by cases List.mem_singleton.mp h; decide, by decide⟩
theorem szm1 : SzM 3 3 2 [m0, m1] := szM_snoc (m := m1) szm0 (szall_dec (by decide +kernel)) (sz_dec (by decide +kernel)) (by decide) (by decide)
theorem szm1w : SzM 3 3 2 ([m0, m1].map Mk.swap) := swap_szM' szm1
theorem szmN : SzM 3 3 2 [] := ⟨(fun m h => nomatch h), (fun m h => nomatch h), (fun m h => nomatch h), (fun m h => nomatch h), by decide⟩
theorem tg0 : Tup 5 (tab g0) (tab g0) := tup_tab 2 (by decide) (fun c hc => by
  have e : c = [1, 2] ∨ c = [2, -1] := by simpa [g0] using hc
  rcases e with e | e <;> rw [e] <;> decide)
theorem tm0 : Tup 5 (mks [m0]) (mks [m0]) := tup_mks 1 (by decide) (fun m h => by cases List.mem_singleton.mp h; decide)
theorem tm1 : Tup 5 (mks [m0, m1]) (mks [m0, m1]) := tup_mks 1 (by decide) (fun m h => by
  have e : m = m0 ∨ m = m1 := by simpa using h
  rcases e with e | e <;> rw [e] <;> decide)
theorem okd_t2 (p q : Rat) : Okd 2 (.tuple [fr p, fr q]) := .tup (by show 2 ≤ 10000; decide) fun x hx => by
  have e : x = fr p ∨ x = fr q := by simpa using hx
  rcases e with e | e <;> rw [e] <;> exact okd_fr 0 _
theorem okd_unf : Okd 2 unfitD := .lst (by decide) fun x hx => by
  have e : x = .str "unfit" ∨ x = .bool true := by simpa using hx
  rcases e with e | e <;> rw [e]
  · exact .str _ _ (by decide +kernel)
  · exact .bool _ _
theorem okd_nn : Okd 2 (.tuple [.none, .none]) := .tup (by decide) fun x hx => by
  have e : x = .none ∨ x = .none := by simpa using hx
  rcases e with e | e <;> rw [e] <;> exact .non _
theorem okd_got : Okd 3 (.list [.tuple [fr 1, fr 3], .tuple [fr 1, fr 2], .tuple [fr 1, fr 2], unfitD, unfitD, .tuple [.none, .none]]) := .lst (by show 6 ≤ 10000; decide) fun x hx => by
  have e : x = .tuple [fr 1, fr 3] ∨ x = .tuple [fr 1, fr 2] ∨ x = .tuple [fr 1, fr 2] ∨ x = unfitD ∨ x = unfitD ∨ x = .tuple [.none, .none] := by simpa using hx
  rcases e with e | e | e | e | e | e <;> rw [e]
  · exact okd_t2 _ _
  · exact okd_t2 _ _
  · exact okd_t2 _ _
  · exact okd_unf
  · exact okd_unf
  · exact okd_nn
section
variable {P : Program} {w : World} {K : Fg} {mg : Str → Option Value} {base : Heap} {f : Addr} {fd : FuncData}
theorem ok_L_by_hand {C : Addr} (F : Fun K "_law_by_hand_right" "_law_by_hand_right" s_L_by_hand_right f fd) (hS : Has P w K mg base (L2.CX P w) 11 "shown_between" p_shown_between (spX K C R_shown_between)) (hA : Has P w K mg base (L2.CX P w) 11 "amounts_between" p_amounts_between (spX K C R_amounts))
    (hH : Has P w K mg base CX0 12 "_law_heard" p_L_heard (spP K R_heard)) (hSa : Has P w K mg base CX0 4 "_law_same" p_L_same (spP K (R_same 3))) : FnOk P w K mg base CX0 13 f fd p_L_by_hand_right (spP K R_hand) := by
  refine fnP F sc_L_by_hand_right (fun ds P h => ?_) (fun X B ds Pr hX hr h => ?_)
  · obtain ⟨rfl, _⟩ := h; rfl
  · obtain ⟨cdv, A, outer, s, H, E, rfl⟩ := hX
    have nd := sc_L_by_hand_right.nd
    obtain ⟨rfl, hP⟩ := h
    refine xss_cons (xs_asg (is := [0] ++ ([1] ++ ([2] ++ ([3] ++ ([4] ++ []))))) (xg_tup (n := 5) rfl (xgs_cons (xg_name (i := 0) nd rfl (by first | exact .inl rfl | exact .inr rfl)) (xgs_cons (xg_name (i := 1) nd rfl (by first | exact .inl rfl | exact .inr rfl)) (xgs_cons (xg_name (i := 2) nd rfl (.inl rfl)) (xgs_cons (xg_name (i := 3) nd rfl (.inl rfl)) (xgs_cons (xg_name (i := 4) nd rfl (.inl rfl)) xgs_nil)))))) ?_)
    walk_at "xp"
    refine ⟨[.int 0, .int 1], rfl, Nat.le_of_ble_eq_true rfl, ?_⟩
    walk_at "xp"
    refine ⟨[.int 1, .int 1], rfl, Nat.le_of_ble_eq_true rfl, ?_⟩
    walk_at "xp"
    refine ⟨[.int 2, .int 1], rfl, Nat.le_of_ble_eq_true rfl, ?_⟩
    walk_at "xp"
    refine ⟨[.int 3, .int 1], rfl, Nat.le_of_ble_eq_true rfl, ?_⟩
    walk_at "xp"
    refine ⟨[.int 1, .int 2], rfl, Nat.le_of_ble_eq_true rfl, ?_⟩
    walk_at "xp"
    refine ⟨[fr 0, fr 1, fr 2, fr 3, fr q12], rfl, Nat.le_of_ble_eq_true rfl, _, rfl, _, rfl, rfl, _, _, rfl, _, _, rfl, _, _, rfl, _, _, rfl, _, _, rfl, rfl, ?_⟩
    show XSs _ _ [some (.d (fr 0)), some (.d (fr 1)), some (.d (fr 2)), some (.d (fr 3)), some (.d (fr q12)), none, none, none, none, none] _ _ _
    refine xss_cons (xs_asg (is := [5] ++ ([6] ++ [])) (xg_tup (n := 2) rfl (xgs_cons (xg_name (i := 5) nd rfl (by first | exact .inl rfl | exact .inr rfl)) (xgs_cons (xg_name (i := 6) nd rfl (by first | exact .inl rfl | exact .inr rfl)) xgs_nil))) ?_)
    walk_at "xp"
    refine ⟨[fr 1, fr 2], rfl, Nat.le_of_ble_eq_true rfl, ?_⟩
    walk_at "xp"
    refine ⟨[.int (-1), .int 1], rfl, Nat.le_of_ble_eq_true rfl, ?_⟩
    walk_at "xp"
    refine ⟨[fr 2, fr (-1)], rfl, Nat.le_of_ble_eq_true rfl, ?_⟩
    walk_at "xp"
    refine ⟨[row [1, 2], row [2, -1]], rfl, Nat.le_of_ble_eq_true rfl, ?_⟩
    walk_at "xp"
    refine ⟨[fr 0], rfl, Nat.le_of_ble_eq_true rfl, ?_⟩
    walk_at "xp"
    refine ⟨[fr 0, row [0], fr 0], rfl, Nat.le_of_ble_eq_true rfl, ?_⟩
    walk_at "xp"
    refine ⟨[tab g0, m0.d], rfl, Nat.le_of_ble_eq_true rfl, _, rfl, _, rfl, rfl, _, _, rfl, _, _, rfl, rfl, ?_⟩
    show XSs _ _ [some (.d (fr 0)), some (.d (fr 1)), some (.d (fr 2)), some (.d (fr 3)), some (.d (fr q12)), some (.d (tab g0)), some (.d m0.d), none, none, none] _ _ _
    refine xss_cons ?_
    walk_at "xset"
    refine xe_lst (xa_cons (xe_callX0 hS (hr.mono (by decide)) ?_))
    walk_at "xp"
    refine ⟨[m0.d], rfl, Nat.le_of_ble_eq_true rfl, ?_⟩
    walk_at "xp"
    refine ⟨[fr 1], rfl, Nat.le_of_ble_eq_true rfl, ?_⟩
    walk_at "xp"
    refine ⟨[tab g0, mks [m0], fr 1, row [1]], rfl, _, _, _, _, 3, 3, 3, 2, g0, [m0], 1, [1], rfl, tg0, tm0, tup_fr 4 _, tup_row 3 (by decide), by decide, by decide, by decide, by decide, gau0.szt, szm0, szall_dec (by decide +kernel), by decide, by decide, by decide, by decide, by decide, fun _ => ?_, fun z => absurd fit0 z⟩
    rw [btw_a]
    refine xa_cons (xe_callX0 hA (hr.mono (by decide)) ?_)
    walk_at "xp"
    refine ⟨[m0.d], rfl, Nat.le_of_ble_eq_true rfl, ?_⟩
    walk_at "xp"
    refine ⟨[fr 1], rfl, Nat.le_of_ble_eq_true rfl, ?_⟩
    walk_at "xp"
    refine ⟨[row [1], fr 3], rfl, Nat.le_of_ble_eq_true rfl, ?_⟩
    walk_at "xp"
    refine ⟨[tab g0, mks [m0], sgt [1] 3], rfl, _, _, _, 3, 1, 3, 3, g0, [m0], 3, [1], rfl, tg0, tm0, tup_sgt 2 (by decide), by decide, by decide, by decide, by decide, by decide, gau0, by decide, szm0, szall_dec (by decide +kernel), by decide, by decide, fun _ => ?_, fun z => absurd fit0t z⟩
    rw [btw_b]
    refine xa_cons (xe_callX0 hA (hr.mono (by decide)) ?_)
    walk_at "xp"
    refine ⟨[m0.d], rfl, Nat.le_of_ble_eq_true rfl, ?_⟩
    walk_at "xp"
    refine ⟨[fr 0], rfl, Nat.le_of_ble_eq_true rfl, ?_⟩
    walk_at "xp"
    refine ⟨[row [0], fr 2], rfl, Nat.le_of_ble_eq_true rfl, ?_⟩
    walk_at "xp"
    refine ⟨[tab g0, mks [m0], sgt [0] 2], rfl, _, _, _, 3, 1, 3, 3, g0, [m0], 2, [0], rfl, tg0, tm0, tup_sgt 2 (by decide), by decide, by decide, by decide, by decide, by decide, gau0, by decide, szm0, szall_dec (by decide +kernel), by decide, by decide, fun _ => ?_, fun z => absurd fit0t z⟩
    rw [btw_c]
    walk_at "xp"
    refine ⟨[_, _, _], rfl, Nat.le_of_ble_eq_true rfl, ?_⟩
    show XSs _ _ [some (.d (fr 0)), some (.d (fr 1)), some (.d (fr 2)), some (.d (fr 3)), some (.d (fr q12)), some (.d (tab g0)), some (.d m0.d), some (.d (.list [.tuple [fr 1, fr 3], .tuple [fr 1, fr 2], .tuple [fr 1, fr 2]])), none, none] _ _ _
    refine xss_cons ?_
    walk_at "xset"
    walk_at "xp"
    refine ⟨[fr 1, fr 3], rfl, Nat.le_of_ble_eq_true rfl, ?_⟩
    walk_at "xp"
    refine ⟨[fr 1, fr 2], rfl, Nat.le_of_ble_eq_true rfl, ?_⟩
    walk_at "xp"
    refine ⟨[fr 1, fr 2], rfl, Nat.le_of_ble_eq_true rfl, ?_⟩
    walk_at "xp"
    refine ⟨[.tuple [fr 1, fr 3], .tuple [fr 1, fr 2], .tuple [fr 1, fr 2]], rfl, Nat.le_of_ble_eq_true rfl, ?_⟩
    show XSs _ _ [some (.d (fr 0)), some (.d (fr 1)), some (.d (fr 2)), some (.d (fr 3)), some (.d (fr q12)), some (.d (tab g0)), some (.d m0.d), some (.d (.list [.tuple [fr 1, fr 3], .tuple [fr 1, fr 2], .tuple [fr 1, fr 2]])), some (.d (.list [.tuple [fr 1, fr 3], .tuple [fr 1, fr 2], .tuple [fr 1, fr 2]])), none] _ _ _
    refine xss_cons ?_
    walk_at "xset"
    refine xe_catL (xe_catL ?_)
    walk_at "xv"
    refine xe_lc1 (j := 9) (own := [("_law_door", 9)]) rfl nd (blkOk_by (N := n_L_by_hand_right) (sc := defScope s_L_by_hand_right) (by decide +kernel)) (by decide) rfl rfl (xi_tup ?_)
    walk_at "xp"
    refine ⟨[.int 0, .int 1], rfl, Nat.le_of_ble_eq_true rfl, ?_⟩
    refine ⟨_, rfl, [unfitD, unfitD], rfl, by show 2 ≤ 10000; decide, fun i d z h1 h2 X' B' τ' hX' => ?_, ?_⟩
    · obtain ⟨s', H', C', cl', fp', rfl⟩ := hX'
      have pick : ∃ door : Int, d = .int door ∧ z = unfitD ∧ (door = 0 ∨ door = 1) := by
        match i, h1, h2 with
        | 0, h1, h2 => cases h1; cases h2; exact ⟨_, rfl, rfl, .inl rfl⟩
        | 1, h1, h2 => cases h1; cases h2; exact ⟨_, rfl, rfl, .inr rfl⟩
      obtain ⟨door, rfl, rfl, hd⟩ := pick
      walk_at "xp"
      refine ⟨[fr 0], rfl, Nat.le_of_ble_eq_true rfl, ?_⟩
      walk_at "xp"
      refine ⟨[fr 0, row [0], fr 1], rfl, Nat.le_of_ble_eq_true rfl, ?_⟩
      walk_at "xp"
      refine ⟨[m0.d, m1.d], rfl, Nat.le_of_ble_eq_true rfl, ?_⟩
      walk_at "xp"
      refine ⟨[fr 0], rfl, Nat.le_of_ble_eq_true rfl, ?_⟩
      walk_at "xp"
      refine ⟨[row [0], fr 0], rfl, Nat.le_of_ble_eq_true rfl, ?_⟩
      walk_at "xp"
      refine ⟨[.int door, tab g0, mks [m0, m1], sgt [0] 0, fr 0], rfl, door, _, _, _, _, rfl, ?_⟩
      rcases hd with rfl | rfl
      · exact .inl ⟨rfl, _, _, _, 3, 1, 3, 3, g0, [m0, m1], 0, [0], rfl, tg0, tm1, tup_sgt 2 (by decide), by decide, by decide, by decide, by decide, by decide, gau0, by decide, szm1w, szall_dec (by decide +kernel), by decide, by decide, fun z => absurd z fit1t, fun _ => ⟨rfl, rfl⟩⟩
      · exact .inr ⟨rfl, row [0], [fr 0], .inr rfl, _, _, _, _, 3, 3, 3, 2, g0, [m0, m1], 0, [0], rfl, tg0, tm1, tup_fr 4 _, tup_row 3 (by decide), by decide, by decide, by decide, by decide, gau0.szt, szm1, szall_dec (by decide +kernel), by decide, by decide, by decide, by decide, by decide, fun z => absurd z fit1, fun _ => ⟨rfl, rfl⟩⟩
    refine r2_catL (by decide) ?_
    refine xe_lst (xa_cons (xe_callX0 hA (hr.mono (by decide)) ?_))
    walk_at "xp"
    refine ⟨[], rfl, Nat.zero_le _, ?_⟩
    walk_at "xp"
    refine ⟨[fr 0], rfl, Nat.le_of_ble_eq_true rfl, ?_⟩
    walk_at "xp"
    refine ⟨[row [0], fr 0], rfl, Nat.le_of_ble_eq_true rfl, ?_⟩
    walk_at "xp"
    refine ⟨[tab g0, mks [], sgt [0] 0], rfl, _, _, _, 3, 1, 3, 3, g0, [], 0, [0], rfl, tg0, tup_mks 1 (by decide) (fun m h => nomatch h), tup_sgt 2 (by decide), by decide, by decide, by decide, by decide, by decide, gau0, by decide, szmN, szall_dec (by decide +kernel), by decide, by decide, fun _ => ?_, fun z => absurd (fun near h => nomatch h) z⟩
    rw [show btw (turns g0) [0, 0] ([].map Mk.swap) = .tuple [.none, .none] from rfl]
    walk_at "xp"
    refine ⟨[.tuple [.none, .none]], rfl, Nat.le_of_ble_eq_true rfl, ?_⟩
    refine r2_catL (by decide) ?_
    show XSs _ _ [some (.d (fr 0)), some (.d (fr 1)), some (.d (fr 2)), some (.d (fr 3)), some (.d (fr q12)), some (.d (tab g0)), some (.d m0.d), some (.d (.list [.tuple [fr 1, fr 3], .tuple [fr 1, fr 2], .tuple [fr 1, fr 2], unfitD, unfitD, .tuple [.none, .none]])), some (.d (.list [.tuple [fr 1, fr 3], .tuple [fr 1, fr 2], .tuple [fr 1, fr 2]])), _] _ _ _
    refine xss_cons (xs_ret ?_)
    walk_at "xcall"
    refine xa_cons ?_
    walk_at "xv"
    refine xa_cons (xe_catL ?_)
    walk_at "xp"
    refine ⟨[_, _], rfl, Nat.le_of_ble_eq_true rfl, ?_⟩
    walk_at "xp"
    refine ⟨[_, _], rfl, Nat.le_of_ble_eq_true rfl, ?_⟩
    walk_at "xp"
    refine ⟨[.none, .none], rfl, Nat.le_of_ble_eq_true rfl, ?_⟩
    walk_at "xp"
    refine ⟨[unfitD, unfitD, .tuple [.none, .none]], rfl, Nat.le_of_ble_eq_true rfl, ?_⟩
    refine r2_catL (by decide) ?_
    exact xa_nil ⟨[_, _], rfl, _, rfl, okd_got, _, rfl, hP⟩
end

end K10

set_option maxRecDepth 100000
set_option maxHeartbeats 4100000
set_option pp.maxSteps 1500
namespace K10
open L2 PyProof.Rows PySem.Spec PySem
local macro_rules | `(tactic| walk_at "xv") => `(tactic| first
  | refine xe_var (i := 0) rfl ?_ | refine xe_var (i := 1) rfl ?_ | refine xe_var (i := 2) rfl ?_ | refine xe_var (i := 3) rfl ?_
  | refine xe_var (i := 4) rfl ?_ | refine xe_var (i := 5) rfl ?_ | refine xe_var (i := 6) rfl ?_ | refine xe_var (i := 7) rfl ?_
  | refine xe_var (i := 8) rfl ?_ | refine xe_var (i := 9) rfl ?_ | refine xe_var (i := 10) rfl ?_ | refine xe_var (i := 11) rfl ?_
  | refine xe_var (i := 12) rfl ?_ | refine xe_var (i := 13) rfl ?_ | refine xe_var (i := 14) rfl ?_ | refine xe_var (i := 15) rfl ?_ | refine xe_var (i := 16) rfl ?_ | refine xe_var (i := 17) rfl ?_)
local macro_rules | `(tactic| walk_at "xset") => `(tactic| first
  | refine xs_set (i := 0) (by assumption) rfl (by first | exact .inl rfl | exact .inr rfl) ?_ | refine xs_set (i := 1) (by assumption) rfl (by first | exact .inl rfl | exact .inr rfl) ?_
  | refine xs_set (i := 2) (by assumption) rfl (by first | exact .inl rfl | exact .inr rfl) ?_ | refine xs_set (i := 3) (by assumption) rfl (by first | exact .inl rfl | exact .inr rfl) ?_
  | refine xs_set (i := 4) (by assumption) rfl (by first | exact .inl rfl | exact .inr rfl) ?_ | refine xs_set (i := 5) (by assumption) rfl (by first | exact .inl rfl | exact .inr rfl) ?_
  | refine xs_set (i := 6) (by assumption) rfl (by first | exact .inl rfl | exact .inr rfl) ?_ | refine xs_set (i := 7) (by assumption) rfl (by first | exact .inl rfl | exact .inr rfl) ?_
  | refine xs_set (i := 8) (by assumption) rfl (by first | exact .inl rfl | exact .inr rfl) ?_ | refine xs_set (i := 9) (by assumption) rfl (by first | exact .inl rfl | exact .inr rfl) ?_
  | refine xs_set (i := 10) (by assumption) rfl (by first | exact .inl rfl | exact .inr rfl) ?_ | refine xs_set (i := 11) (by assumption) rfl (by first | exact .inl rfl | exact .inr rfl) ?_)
local macro_rules | `(tactic| walk_at "xset'") => `(tactic| first | refine xs_set (i := 12) (by assumption) rfl (by first | exact .inl rfl | exact .inr rfl) ?_ | refine xs_set (i := 13) (by assumption) rfl (by first | exact .inl rfl | exact .inr rfl) ?_ | refine xs_set (i := 14) (by assumption) rfl (by first | exact .inl rfl | exact .inr rfl) ?_ | refine xs_set (i := 15) (by assumption) rfl (by first | exact .inl rfl | exact .inr rfl) ?_ | refine xs_set (i := 16) (by assumption) rfl (by first | exact .inl rfl | exact .inr rfl) ?_ | refine xs_set (i := 17) (by assumption) rfl (by first | exact .inl rfl | exact .inr rfl) ?_)
local macro_rules | `(tactic| walk_at "xname") => `(tactic| first
  | refine xg_name (i := 0) (by assumption) rfl (by first | exact .inl rfl | exact .inr rfl) | refine xg_name (i := 1) (by assumption) rfl (by first | exact .inl rfl | exact .inr rfl)
  | refine xg_name (i := 2) (by assumption) rfl (by first | exact .inl rfl | exact .inr rfl) | refine xg_name (i := 3) (by assumption) rfl (by first | exact .inl rfl | exact .inr rfl)
  | refine xg_name (i := 4) (by assumption) rfl (by first | exact .inl rfl | exact .inr rfl) | refine xg_name (i := 5) (by assumption) rfl (by first | exact .inl rfl | exact .inr rfl)
  | refine xg_name (i := 6) (by assumption) rfl (by first | exact .inl rfl | exact .inr rfl) | refine xg_name (i := 7) (by assumption) rfl (by first | exact .inl rfl | exact .inr rfl)
  | refine xg_name (i := 8) (by assumption) rfl (by first | exact .inl rfl | exact .inr rfl) | refine xg_name (i := 9) (by assumption) rfl (by first | exact .inl rfl | exact .inr rfl)
  | refine xg_name (i := 10) (by assumption) rfl (by first | exact .inl rfl | exact .inr rfl) | refine xg_name (i := 11) (by assumption) rfl (by first | exact .inl rfl | exact .inr rfl))
local macro_rules | `(tactic| walk_at "xcall") => `(tactic|
  (refine xe_call (by assumption) (Room.mono (by assumption) (by decide)) ?_))
local macro_rules | `(tactic| walk_at "x1") => `(tactic| first
  | refine xa_nil ?_ | refine xa_cons ?_ | refine xe_int ?_ | refine xe_bl ?_ | refine xe_non ?_ | refine xe_str ?_
  | walk_at "xv"
  | refine xe_tup ?_ | refine xe_lst ?_
  | refine xe_sub ?_
  | refine xe_ixT ?_
  | refine xe_neg ?_
  | refine xss_nil ?_ | refine xss_cons ?_ | refine xs_ret ?_ | walk_at "xset" | refine xs_if ?_
  | refine r2_int0 ?_ | refine r2_bool0 ?_ | refine r2_eqI ?_ | refine r2_neI ?_ | refine r1_neg ?_ | refine r2_ix0 ?_ | refine r2_ix1 ?_ | refine r2_ix2 ?_
  | refine xt_lt ?_ | refine xt_le ?_ | refine xt_gt ?_ | refine xt_ge ?_
  | refine xe_lt ?_ | refine xe_le ?_ | refine xe_gt ?_ | refine xe_ge ?_
  | refine xt_not ?_
  | walk_at "xcall")
local macro_rules | `(tactic| walk_at "xp") => `(tactic| repeat (walk_at "x1"))
structure DefH (K : Fg) (mg : Str → Option Value) (x : Str) (st : Stmt) (ps : List Str) : Prop where
  ex : ∃ f fd, mg x = some (.ref f) ∧ Fun K x x st f fd ∧ Binds K fd ps []
theorem def_mk {K : Fg} {h : Heap} {mg : Str → Option Value} {f : Addr} (X : K.In h) (G : h.Ns mainGlobals mg) {x : Str} {st : Stmt} {ps : List Str} {oc : Value} {od an : Option Addr} {osl : Array (Option Value)} {kV doc pm cdv ct : Value} (a : PySem.W.nsIn K mainGlobals x = some (some (.ref f)))
    (l : K.lookup f = some ⟨oc, od, .func (PySem.W.fnOf x x (defArgs st) (defBody st) (defScope st) .none kV doc pm an cdv ct), osl⟩) (c : PySem.W.codeIn K cdv x = true) (k : PySem.W.keepIn K (.ref f) = true)
    (b : ∀ {fd : FuncData}, Fun K x x st f fd → Binds K fd ps []) : DefH K mg x st ps :=
  ⟨f, _, PySem.W.mg_of X G a, fun_mk (st := st) l c k, b (fun_mk (st := st) l c k)⟩
section
variable {P : Program} {w : World} {K : Fg} {mg : Str → Option Value} {base : Heap} {CX : CXT} {k k' : Nat} {x : Str} {st : Stmt} {ps : List Str} {sp : Sp}
theorem DefH.has (D : DefH K mg x st ps) (h : ∀ f fd, mg x = some (.ref f) → Fun K x x st f fd → Binds K fd ps [] → FnOk P w K mg base CX k f fd ps sp) : Has P w K mg base CX k x ps sp := by
  obtain ⟨f, fd, a, b, c⟩ := D.ex
  exact ⟨f, fd, a, b.kp, c, h f fd a b c⟩
theorem Has.up (h : Has P w K mg base CX k x ps sp) (l : k ≤ k') : Has P w K mg base CX k' x ps sp := by
  obtain ⟨f, fd, a, b, c, d⟩ := h.ex
  exact ⟨f, fd, a, b, c, d.mono l⟩
end
/-- every def of the text -/
structure AllD (K : Fg) (mg : Str → Option Value) : Prop where
  d_tupled : DefH K mg "tupled" s_tupled p_tupled
  d_set_of : DefH K mg "set_of" s_set_of p_set_of
  d_part_of : DefH K mg "part_of" s_part_of p_part_of
  d_part_plus : DefH K mg "part_plus" s_part_plus p_part_plus
  d_part_minus : DefH K mg "part_minus" s_part_minus p_part_minus
  d_part_times : DefH K mg "part_times" s_part_times p_part_times
  d_part_over : DefH K mg "part_over" s_part_over p_part_over
  d_part_below : DefH K mg "part_below" s_part_below p_part_below
  d_part_sum : DefH K mg "part_sum" s_part_sum p_part_sum
  d_cells_dot : DefH K mg "cells_dot" s_cells_dot p_cells_dot
  d_cells_plus : DefH K mg "cells_plus" s_cells_plus p_cells_plus
  d_cells_times : DefH K mg "cells_times" s_cells_times p_cells_times
  d_cells_made : DefH K mg "cells_made" s_cells_made p_cells_made
  d_greatest_part : DefH K mg "greatest_part" s_greatest_part p_greatest_part
  d_cost : DefH K mg "cost" s_cost p_cost
  d_mark_apart : DefH K mg "mark_apart" s_mark_apart p_mark_apart
  d_corner_turned : DefH K mg "corner_turned" s_corner_turned p_corner_turned
  d_turned_about : DefH K mg "turned_about" s_turned_about p_turned_about
  d_turned_marks : DefH K mg "turned_marks" s_turned_marks p_turned_marks
  d_mark_row : DefH K mg "mark_row" s_mark_row p_mark_row
  d_first_apart : DefH K mg "first_apart" s_first_apart p_first_apart
  d_marks_fit : DefH K mg "marks_fit" s_marks_fit p_marks_fit
  d_sight_row : DefH K mg "sight_row" s_sight_row p_sight_row
  d_shown_with_marks : DefH K mg "shown_with_marks" s_shown_with_marks p_shown_with_marks
  d_shown_between : DefH K mg "shown_between" s_shown_between p_shown_between
  d_amounts_between : DefH K mg "amounts_between" s_amounts_between p_amounts_between
  d_L_box : DefH K mg "_law_box" s_L_box p_L_box
  d_L_take : DefH K mg "_law_take" s_L_take p_L_take
  d_L_cells : DefH K mg "_law_cells" s_L_cells p_L_cells
  d_L_of : DefH K mg "_law_of" s_L_of p_L_of
  d_L_lists : DefH K mg "_law_lists" s_L_lists p_L_lists
  d_L_same : DefH K mg "_law_same" s_L_same p_L_same
  d_L_gcd : DefH K mg "_law_gcd" s_L_gcd p_L_gcd
  d_L_fr : DefH K mg "_law_fr" s_L_fr p_L_fr
  d_L_sum : DefH K mg "_law_sum" s_L_sum p_L_sum
  d_L_less_by : DefH K mg "_law_less_by" s_L_less_by p_L_less_by
  d_L_mul : DefH K mg "_law_mul" s_L_mul p_L_mul
  d_L_over : DefH K mg "_law_over" s_L_over p_L_over
  d_L_under : DefH K mg "_law_under" s_L_under p_L_under
  d_L_is_fr : DefH K mg "_law_is_fr" s_L_is_fr p_L_is_fr
  d_L_is_row : DefH K mg "_law_is_row" s_L_is_row p_L_is_row
  d_L_dot : DefH K mg "_law_dot" s_L_dot p_L_dot
  d_L_small : DefH K mg "_law_small" s_L_small p_L_small
  d_L_row : DefH K mg "_law_row" s_L_row p_L_row
  d_L_are_long : DefH K mg "_law_are_long" s_L_are_long p_L_are_long
  d_L_dear : DefH K mg "_law_dear" s_L_dear p_L_dear
  d_L_apart : DefH K mg "_law_apart" s_L_apart p_L_apart
  d_L_mark_row : DefH K mg "_law_mark_row" s_L_mark_row p_L_mark_row
  d_L_rises : DefH K mg "_law_rises" s_L_rises p_L_rises
  d_L_marks_fit : DefH K mg "_law_marks_fit" s_L_marks_fit p_L_marks_fit
  d_L_own_turned : DefH K mg "_law_own_turned" s_L_own_turned p_L_own_turned
  d_L_swapped : DefH K mg "_law_swapped" s_L_swapped p_L_swapped
  d_L_fitting_marks : DefH K mg "_law_fitting_marks" s_L_fitting_marks p_L_fitting_marks
  d_L_any_gauge : DefH K mg "_law_any_gauge" s_L_any_gauge p_L_any_gauge
  d_L_heard : DefH K mg "_law_heard" s_L_heard p_L_heard
  d_L_by_hand_right : DefH K mg "_law_by_hand_right" s_L_by_hand_right p_L_by_hand_right
  d_L_own_between : DefH K mg "_law_own_between" s_L_own_between p_L_own_between
  d_L_ends_right : DefH K mg "_law_ends_right" s_L_ends_right p_L_ends_right
  d_L_right : DefH K mg "_law_right" s_L_right p_L_right
  n_tuple : mg "tuple" = none
  n_list : mg "list" = none
  n_set : mg "set" = none
  n_sorted : mg "sorted" = none
  n_zip : mg "zip" = none
  n_enumerate : mg "enumerate" = none
  n_isinstance : mg "isinstance" = none
  n_any : mg "any" = none
  n_all : mg "all" = none
  n_len : mg "len" = none
  n_abs : mg "abs" = none
  n_int : mg "int" = none
  n_range : mg "range" = none
  n_bool : mg "bool" = none
  n_str : mg "str" = none
  n_ValueError : mg "ValueError" = none
  gg : mg "gcd" = some (.builtin "math.gcd")
  gN : Glo mg K "NONE" (fr 0)
  gF : Glo mg K "FULL" (fr 1)
theorem all_fn {P : Program} {w : World} {K : Fg} {mg : Str → Option Value} {base : Heap} {C : Addr} (A : AllD K mg) (kU : ExcH K mg "Unfit" C) {f0 : Addr} {fd0 : FuncData} (F0 : Fun K "law" "law" s_L_law f0 fd0) : FnOk P w K mg base CX0 15 f0 fd0 p_L_law (spLaw K) := by
  obtain ⟨d_tupled, d_set_of, d_part_of, d_part_plus, d_part_minus, d_part_times, d_part_over, d_part_below, d_part_sum, d_cells_dot, d_cells_plus, d_cells_times, d_cells_made, d_greatest_part, d_cost, d_mark_apart, d_corner_turned, d_turned_about, d_turned_marks, d_mark_row, d_first_apart, d_marks_fit, d_sight_row, d_shown_with_marks, d_shown_between, d_amounts_between, d_L_box, d_L_take, d_L_cells, d_L_of, d_L_lists, d_L_same, d_L_gcd, d_L_fr, d_L_sum, d_L_less_by, d_L_mul, d_L_over, d_L_under, d_L_is_fr, d_L_is_row, d_L_dot, d_L_small, d_L_row, d_L_are_long, d_L_dear, d_L_apart, d_L_mark_row, d_L_rises, d_L_marks_fit, d_L_own_turned, d_L_swapped, d_L_fitting_marks, d_L_any_gauge, d_L_heard, d_L_by_hand_right, d_L_own_between, d_L_ends_right, d_L_right, n_tuple, n_list, n_set, n_sorted, n_zip, n_enumerate, n_isinstance, n_any, n_all, n_len, n_abs, n_int, n_range, n_bool, n_str, n_ValueError, gg, gN, gF⟩ := A
  have kE := kU.k
  have h_set_of : ∀ k, Has P w K mg base CX0 3 "set_of" p_set_of (spP K (R_set_of k)) := fun k => Has.up (d_set_of.has fun f fd g F b => ok_set_of (P := P) (w := w) (base := base) F (by assumption) (by assumption) (by assumption) k) (by decide)
  have h_part_of : Has P w K mg base CX0 1 "part_of" p_part_of (spP K R_part_of) := d_part_of.has fun f fd g F b => by apply ok_part_of <;> assumption
  have h_part_minus : Has P w K mg base CX0 1 "part_minus" p_part_minus (spP K R_minus) := d_part_minus.has fun f fd g F b => by apply ok_part_minus <;> assumption
  have h_part_below : Has P w K mg base CX0 1 "part_below" p_part_below (spP K R_below) := d_part_below.has fun f fd g F b => by apply ok_part_below <;> assumption
  have h_part_over : Has P w K mg base CX0 2 "part_over" p_part_over (spP K R_over) := d_part_over.has fun f fd g F b => by apply ok_part_over <;> assumption
  have h_part_plus : Has P w K mg base CX0 2 "part_plus" p_part_plus (spP K R_plus) := d_part_plus.has fun f fd g F b => by apply ok_part_plus <;> assumption
  have h_part_times : Has P w K mg base CX0 2 "part_times" p_part_times (spP K R_times) := d_part_times.has fun f fd g F b => by apply ok_part_times <;> assumption
  have h_part_sum : Has P w K mg base CX0 3 "part_sum" p_part_sum (spP K R_part_sum) := d_part_sum.has fun f fd g F b => by apply ok_part_sum <;> assumption
  have h_cells_dot : Has P w K mg base CX0 4 "cells_dot" p_cells_dot (spP K R_dot) := d_cells_dot.has fun f fd g F b => by apply ok_cells_dot <;> assumption
  have h_cells_plus : Has P w K mg base CX0 3 "cells_plus" p_cells_plus (spP K R_cplus) := d_cells_plus.has fun f fd g F b => by apply ok_cells_plus <;> assumption
  have h_cells_times : Has P w K mg base CX0 3 "cells_times" p_cells_times (spP K R_ctimes) := d_cells_times.has fun f fd g F b => by apply ok_cells_times <;> assumption
  have h_cells_made : Has P w K mg base CX0 5 "cells_made" p_cells_made (spP K R_made) := d_cells_made.has fun f fd g F b => by apply ok_cells_made <;> assumption
  have h_greatest_part : Has P w K mg base CX0 2 "greatest_part" p_greatest_part (spP K R_greatest) := d_greatest_part.has fun f fd g F b => by apply ok_greatest_part <;> assumption
  have h_tupled : Has P w K mg base CX0 6 "tupled" p_tupled (spP K (R_tupled 5)) := d_tupled.has fun f fd g F b => ok_tupled F g b (by assumption) (by assumption) (by assumption) 5
  have h_cost : Has P w K mg base CX0 7 "cost" p_cost (spP K R_cost) := d_cost.has fun f fd g F b => by apply ok_cost <;> assumption
  have h_mark_apart : Has P w K mg base CX0 4 "mark_apart" p_mark_apart (spP K R_apart) := d_mark_apart.has fun f fd g F b => by apply ok_mark_apart <;> assumption
  have h_mark_row : Has P w K mg base CX0 1 "mark_row" p_mark_row (spP K R_mark_row) := d_mark_row.has fun f fd g F b => by apply ok_mark_row <;> assumption
  have h_sight_row : Has P w K mg base CX0 1 "sight_row" p_sight_row (spP K R_sight_row) := d_sight_row.has fun f fd g F b => by apply ok_sight_row <;> assumption
  have h_turned_marks : Has P w K mg base CX0 7 "turned_marks" p_turned_marks (spP K R_turned_marks) := d_turned_marks.has fun f fd g F b => by apply ok_turned_marks <;> assumption
  have h_first_apart : Has P w K mg base CX0 8 "first_apart" p_first_apart (spP K R_first_apart) := d_first_apart.has fun f fd g F b => by apply ok_first_apart <;> assumption
  have h_marks_fit : Has P w K mg base CX0 9 "marks_fit" p_marks_fit (spP K R_marks_fit) := d_marks_fit.has fun f fd g F b => by apply ok_marks_fit <;> assumption
  have h_corner_turned : Has P w K mg base CX0 3 "corner_turned" p_corner_turned (spP K R_corner) := d_corner_turned.has fun f fd g F b => by apply ok_corner_turned <;> assumption
  have h_turned_about : Has P w K mg base CX0 7 "turned_about" p_turned_about (spP K R_turned_about) := d_turned_about.has fun f fd g F b => by apply ok_turned_about <;> assumption
  have h_shown_with_marks : Has P w K mg base (L2.CX P w) 10 "shown_with_marks" p_shown_with_marks (spX K C R_shown) := d_shown_with_marks.has fun f fd g F b => by apply ok_shown_with_marks <;> assumption
  have h_shown_between : Has P w K mg base (L2.CX P w) 11 "shown_between" p_shown_between (spX K C R_shown_between) := d_shown_between.has fun f fd g F b => by apply ok_shown_between <;> assumption
  have h_amounts_between : Has P w K mg base (L2.CX P w) 11 "amounts_between" p_amounts_between (spX K C R_amounts) := d_amounts_between.has fun f fd g F b => by apply ok_amounts_between <;> assumption
  have h_L_gcd : Has P w K mg base CX0 1 "_law_gcd" p_L_gcd (spP K R_lgcd) := d_L_gcd.has fun f fd g F b => by apply ok_L_gcd <;> assumption
  have h_L_fr : Has P w K mg base CX0 2 "_law_fr" p_L_fr (spP K R_part_of) := d_L_fr.has fun f fd g F b => by apply ok_L_fr <;> assumption
  have h_L_sum : Has P w K mg base CX0 3 "_law_sum" p_L_sum (spP K R_plus) := d_L_sum.has fun f fd g F b => by apply ok_L_sum <;> assumption
  have h_L_less_by : Has P w K mg base CX0 3 "_law_less_by" p_L_less_by (spP K R_less) := d_L_less_by.has fun f fd g F b => by apply ok_L_less_by <;> assumption
  have h_L_mul : Has P w K mg base CX0 3 "_law_mul" p_L_mul (spP K R_times) := d_L_mul.has fun f fd g F b => by apply ok_L_mul <;> assumption
  have h_L_over : Has P w K mg base CX0 3 "_law_over" p_L_over (spP K R_over) := d_L_over.has fun f fd g F b => by apply ok_L_over <;> assumption
  have h_L_under : Has P w K mg base CX0 1 "_law_under" p_L_under (spP K R_below) := d_L_under.has fun f fd g F b => by apply ok_L_under <;> assumption
  have h_L_dot : Has P w K mg base CX0 4 "_law_dot" p_L_dot (spP K R_dot) := d_L_dot.has fun f fd g F b => by apply ok_L_dot <;> assumption
  have h_L_dear : Has P w K mg base CX0 5 "_law_dear" p_L_dear (spP K R_cost) := d_L_dear.has fun f fd g F b => by apply ok_L_dear <;> assumption
  have h_L_apart : Has P w K mg base CX0 4 "_law_apart" p_L_apart (spP K R_apart) := d_L_apart.has fun f fd g F b => by apply ok_L_apart <;> assumption
  have h_L_mark_row : Has P w K mg base CX0 1 "_law_mark_row" p_L_mark_row (spP K R_mark_row) := d_L_mark_row.has fun f fd g F b => by apply ok_L_mark_row <;> assumption
  have h_L_swapped : Has P w K mg base CX0 1 "_law_swapped" p_L_swapped (spP K fun ds P => ∃ ms : List Mk, ds = [mks ms] ∧ ms.length ≤ 1000 ∧ P (mks (ms.map Mk.swap))) := d_L_swapped.has fun f fd g F b => by apply ok_L_swapped <;> assumption
  have h_L_rises : Has P w K mg base CX0 6 "_law_rises" p_L_rises (spP K R_rises) := d_L_rises.has fun f fd g F b => by apply ok_L_rises <;> assumption
  have h_L_marks_fit : Has P w K mg base CX0 7 "_law_marks_fit" p_L_marks_fit (spP K fun ds P => ∃ (m nr nt l : Nat) (g : List (List Rat)) (ms : List Mk), ds = [tab g, mks ms] ∧ Bnd m nr nt l g ∧ SzM nr nt l ms ∧ (Fit g ms → P (.bool true)) ∧ (¬ Fit g ms → P (.bool false))) := d_L_marks_fit.has fun f fd g F b => by apply ok_L_marks_fit <;> assumption
  have h_L_own_turned : Has P w K mg base CX0 4 "_law_own_turned" p_L_own_turned (spP K fun ds P => ∃ (n k : Nat) (g : List (List Rat)), ds = [tab g] ∧ 0 < n ∧ n ≤ 3000 ∧ k ≤ 1000 ∧ Gau n k g ∧ ∀ g' : List (List Rat), g'.Perm (turns g) → P (tab g')) := d_L_own_turned.has fun f fd g F b => by apply ok_L_own_turned <;> assumption
  have h_L_own_between : Has P w K mg base CX0 6 "_law_own_between" p_L_own_between (spP K fun ds P => ∃ (m nr nt l : Nat) (g : List (List Rat)) (ms : List Mk) (r : List Rat), ds = [tab g, mks ms, row r] ∧ Bnd m nr nt l g ∧ SzM nr nt l ms ∧ SzAll nr r ∧ r.length ≤ l ∧ P (btw g r ms)) := d_L_own_between.has fun f fd g F b => by apply ok_L_own_between <;> assumption
  have h_L_take : Has P w K mg base CX0 1 "_law_take" p_L_take (spT K R_take) := d_L_take.has fun f fd g F b => by apply ok_L_take <;> assumption
  have h_L_of : Has P w K mg base CX0 2 "_law_of" p_L_of (spT K R_of) := d_L_of.has fun f fd g F b => by apply ok_L_of <;> assumption
  have h_L_small : Has P w K mg base CX0 3 "_law_small" p_L_small (spT K R_small) := d_L_small.has fun f fd g F b => by apply ok_L_small <;> assumption
  have h_L_row : Has P w K mg base CX0 4 "_law_row" p_L_row (spT K R_row) := d_L_row.has fun f fd g F b => by apply ok_L_row <;> assumption
  have h_L_any_gauge : Has P w K mg base CX0 5 "_law_any_gauge" p_L_any_gauge (spT K R_any_gauge) := d_L_any_gauge.has fun f fd g F b => by apply ok_L_any_gauge <;> assumption
  have h_L_fitting_marks : Has P w K mg base CX0 6 "_law_fitting_marks" p_L_fitting_marks (spT K R_fitting) := d_L_fitting_marks.has fun f fd g F b => by apply ok_L_fitting_marks <;> assumption
  have h_L_lists : Has P w K mg base CX0 6 "_law_lists" p_L_lists (spP K (R_lists 5)) := d_L_lists.has fun f fd g F b => ok_L_lists F g b (by assumption) (by assumption) (by assumption) 5
  have h_L_same : Has P w K mg base CX0 4 "_law_same" p_L_same (spP K (R_same 3)) := d_L_same.has fun f fd g F b => ok_L_same F g b (by assumption) (by assumption) (by assumption) (by assumption) (by assumption) (by assumption) (by assumption) (by assumption) (by assumption) 3
  have h_L_is_fr : Has P w K mg base CX0 2 "_law_is_fr" p_L_is_fr (spP K fun ds P => ∃ q : Rat, ds = [fr q] ∧ P (.bool true)) := d_L_is_fr.has fun f fd g F b => by apply ok_L_is_fr <;> assumption
  have h_L_is_row : Has P w K mg base CX0 3 "_law_is_row" p_L_is_row (spP K fun ds P => ∃ qs : List Rat, ds = [row qs, .int (qs.length : Int)] ∧ qs.length ≤ 1000 ∧ P (.bool true)) := d_L_is_row.has fun f fd g F b => by apply ok_L_is_row <;> assumption
  have h_L_are_long : Has P w K mg base CX0 4 "_law_are_long" p_L_are_long (spP K fun ds P => ∃ a b c d : Rat, ds = [.tuple [row [a, b], row [c, d]], .tuple [.int 2, .int 2]] ∧ P (.bool true)) := d_L_are_long.has fun f fd g F b => by apply ok_L_are_long <;> assumption
  have h_L_heard : Has P w K mg base CX0 12 "_law_heard" p_L_heard (spP K R_heard) := d_L_heard.has fun f fd g F b => by apply ok_L_heard <;> assumption
  have h_L_ends_right : Has P w K mg base CX0 8 "_law_ends_right" p_L_ends_right (spP K R_ends) := d_L_ends_right.has fun f fd g F b => by apply ok_L_ends_right <;> assumption
  have rh : RightH P w K mg base C := ⟨h_L_take, h_L_of, h_L_small, h_L_row, h_L_any_gauge, h_L_fitting_marks.up (by decide), h_L_sum, h_L_own_turned, h_L_heard, h_L_lists, h_L_same, h_L_marks_fit, h_marks_fit, h_L_swapped, h_L_own_between, h_L_ends_right, h_amounts_between, h_L_are_long, h_L_under⟩
  have h_L_right : Has P w K mg base CX0 14 "_law_right" p_L_right (spT K R_right) := d_L_right.has fun f fd g F b => ok_L_right rh F
  have h_L_box : Has P w K mg base CX0 1 "_law_box" p_L_box (spN K R_box) := d_L_box.has fun f fd g F b => by apply ok_L_box <;> assumption
  have h_L_cells : Has P w K mg base CX0 1 "_law_cells" p_L_cells (spC K) := d_L_cells.has fun f fd g F b => by apply ok_L_cells <;> assumption
  have h_L_by_hand_right : Has P w K mg base CX0 13 "_law_by_hand_right" p_L_by_hand_right (spP K R_hand) := d_L_by_hand_right.has fun f fd g F b => by apply ok_L_by_hand <;> assumption
  apply ok_L_law <;> assumption

end K10

set_option maxRecDepth 100000
namespace K10
open L2 PyProof.Rows PySem.Spec PySem
section
variable {K : Fg} {h : Heap} {mg : Str → Option Value} {R : Prop}
theorem with_def {f : Addr} (X : K.In h) (G : h.Ns mainGlobals mg) (x : Str) (st : Stmt) (ps : List Str) {oc : Value} {od an : Option Addr} {osl : Array (Option Value)} {kV doc pm cdv ct : Value} (a : PySem.W.nsIn K mainGlobals x = some (some (.ref f)))
    (l : K.lookup f = some ⟨oc, od, .func (PySem.W.fnOf x x (defArgs st) (defBody st) (defScope st) .none kV doc pm an cdv ct), osl⟩) (c : PySem.W.codeIn K cdv x = true) (k : PySem.W.keepIn K (.ref f) = true)
    (b : ∀ {fd : FuncData}, Fun K x x st f fd → Binds K fd ps []) (r : DefH K mg x st ps → R) : R := r (def_mk X G a l c k b)
theorem with_none (X : K.In h) (G : h.Ns mainGlobals mg) (x : Str) (a : PySem.W.nsIn K mainGlobals x = some none) (r : mg x = none → R) : R := r (PySem.W.mg_none_of X G a)
theorem with_val (X : K.In h) (G : h.Ns mainGlobals mg) (x : Str) (u : Value) (a : PySem.W.nsIn K mainGlobals x = some (some u)) (r : mg x = some u → R) : R := r (PySem.W.mg_of X G a)
theorem with_glo {t : Addr} (X : K.In h) (G : h.Ns mainGlobals mg) (x : Str) (p q : Int) {od : Option Addr} {n : Nat} {sl : Array (Option Value)} {t1 t2 : Tok} (a : PySem.W.nsIn K mainGlobals x = some (some (.ref t))) (l : K.lookup t = some ⟨.type "tuple", od, .seq #[.int p t1, .int q t2] n, sl⟩) (r : Glo mg K x (.tuple [.int p, .int q]) → R) : R :=
  r ⟨.ref t, .ref t, PySem.W.mg_of X G a, rfl, fun H => .tup (xs := [.int p, .int q]) (.inr ⟨_, _, _, l, rfl, rfl, by show 2 ≤ sizeLine; decide, .cons ⟨t1, rfl⟩ (.cons ⟨t2, rfl⟩ .nil)⟩) (.cons (.int _) (.cons (.int _) .nil))⟩
theorem exm_own {S : Addr} (h1 : PySem.W.subIn K (.ref S) (.type "BaseException") = some true) (h2 : PySem.W.hasDictIn K S = true) (h3 : PySem.W.typeIn K (.ref S) = some (.type "type")) (h4 : PySem.W.subIn K (.ref S) (.ref S) = some true) : PySem.W.exmOne K (.ref S) (.ref S) = some true := PySem.W.exm_ref h1 h2 h3 h4
theorem with_exc {C : Addr} (X : K.In h) (G : h.Ns mainGlobals mg) (aC : PySem.W.nsIn K mainGlobals "Unfit" = some (some (.ref C))) (q : PySem.W.excIn K C [.type "ValueError", .type "Exception", .type "BaseException", .type "object"] "ValueError.__new__" = true) (kC : PySem.W.keepIn K (.ref C) = true) (eC : PySem.W.subIn K (.ref C) (.type "BaseException") = some true) (tC : PySem.W.typeIn K (.ref C) = some (.type "type"))
    (sC : PySem.W.subIn K (.ref C) (.ref C) = some true) (hg : PySem.W.findIn K (.ref C) "__getattribute__" = some (some (.builtin "BaseException.__getattribute__"))) (hk : PySem.W.findIn K (.ref C) "__getattr__" = some none) (hd : PySem.W.hasDictIn K C = true) (ha : PySem.W.findIn K (.ref C) "__class__" = some (some (.builtin "object.__class__")))
    (hn : PySem.W.specialIn K (.builtin "object.__class__") "__get__" = some (some (.builtin "getset_descriptor.__get__"))) (ht : PySem.W.takesIn K (.builtin "object.__class__") = some true) (hm : PySem.W.mroIn K C (.type "object") = some true) (kv : PySem.W.kitOne K (.ref C) (.type "ValueError") = some true) (r : ExcH K mg "Unfit" C → R) : R :=
  r ⟨⟨PySem.W.mg_of X G aC, q, kC, eC, tC⟩, exm_own eC hd tC sC, ⟨hg, hk, eC, hd, ha, hn, ht, hm⟩, kv⟩
theorem law_end {P : Program} {w : World} {C fa f1 : Addr} (X : K.In h) (G : h.Ns mainGlobals mg) (hfa : mg "law" = some (.ref fa)) {oc : Value} {od an : Option Addr} {osl : Array (Option Value)} {kV doc pm cdv ct : Value} (a : PySem.W.nsIn K mainGlobals "law" = some (some (.ref f1)))
    (l : K.lookup f1 = some ⟨oc, od, .func (PySem.W.fnOf "law" "law" (defArgs s_L_law) (defBody s_L_law) (defScope s_L_law) .none kV doc pm an cdv ct), osl⟩) (c : PySem.W.codeIn K cdv "law" = true) (k : PySem.W.keepIn K (.ref f1) = true) (A : AllD K mg) (kU : ExcH K mg "Unfit" C) :
    ∃ fd : FuncData, (∀ (s : Shared) (v : Value), BindsTo s fd ⟨[v], []⟩ [("_law_script", v)]) ∧ ∀ base : Heap, K.In base → base.Ns mainGlobals mg → FnOk P w K mg base CX0 15 fa fd ["_law_script"] (spLaw K) := by
  have e := hfa.symm.trans (PySem.W.mg_of X G a)
  cases e
  exact ⟨PySem.W.fnOf "law" "law" (defArgs s_L_law) (defBody s_L_law) (defScope s_L_law) .none kV doc pm an cdv ct, fun s v => .of_eq rfl, fun base _ _ => all_fn A kU (fun_mk (st := s_L_law) l c k)⟩
end
end K10
open PySem PySem.W PyProof.Rows
set_option maxRecDepth 100000 in
set_option maxHeartbeats 0 in
theorem PySem.Challenge.cw_lawsunseen_k10_whole_marks_and_what_fits_holds : PySem.Challenge.rw_lawsunseen_k10_whole_marks_and_what_fits.Holds := by
  w_on; o_law; k_head; (case hw => w_witness2)
  k_fill
  refine L2.walk_of (l := PySem.Challenge.rw_lawsunseen_k10_whole_marks_and_what_fits) (n := 63) (k := 15) (x := "_law_script") (CX := fun _ => L2.CX0) (sp := fun w => K10.spLaw _) rfl (by decide) rfl ⟨rfl, by decide, by decide⟩ (fun w h Y => PySem.W.kIn_of Y) ?F (fun _ _ a ns hl _ hS => ⟨a, ns, rfl, hS, fun _ => rfl⟩) (fun _ _ _ _ _ h => h)
  case F =>
    intro w mg fa h KX G hmg
    refine' K10.with_def KX G "tupled" K10.s_tupled K10.p_tupled ?a ?l ?c ?k (fun F => F.binds fun _ _ _ _ _ _ us hl => match us, hl with | [_], _ => rfl) (fun d_tupled => ?_)
    (case a => k_is); (case l => k_is); (case c => k_is); (case k => k_is)
    refine' K10.with_def KX G "set_of" K10.s_set_of K10.p_set_of ?a ?l ?c ?k (fun F => F.binds fun _ _ _ _ _ _ us hl => match us, hl with | [_], _ => rfl) (fun d_set_of => ?_)
    (case a => k_is); (case l => k_is); (case c => k_is); (case k => k_is)
    refine' K10.with_def KX G "part_of" K10.s_part_of K10.p_part_of ?a ?l ?c ?k (fun F => F.binds fun _ _ _ _ _ _ us hl => match us, hl with | [_, _], _ => rfl) (fun d_part_of => ?_)
    (case a => k_is); (case l => k_is); (case c => k_is); (case k => k_is)
    refine' K10.with_def KX G "part_plus" K10.s_part_plus K10.p_part_plus ?a ?l ?c ?k (fun F => F.binds fun _ _ _ _ _ _ us hl => match us, hl with | [_, _], _ => rfl) (fun d_part_plus => ?_)
    (case a => k_is); (case l => k_is); (case c => k_is); (case k => k_is)
    refine' K10.with_def KX G "part_minus" K10.s_part_minus K10.p_part_minus ?a ?l ?c ?k (fun F => F.binds fun _ _ _ _ _ _ us hl => match us, hl with | [_], _ => rfl) (fun d_part_minus => ?_)
    (case a => k_is); (case l => k_is); (case c => k_is); (case k => k_is)
    refine' K10.with_def KX G "part_times" K10.s_part_times K10.p_part_times ?a ?l ?c ?k (fun F => F.binds fun _ _ _ _ _ _ us hl => match us, hl with | [_, _], _ => rfl) (fun d_part_times => ?_)
    (case a => k_is); (case l => k_is); (case c => k_is); (case k => k_is)
    refine' K10.with_def KX G "part_over" K10.s_part_over K10.p_part_over ?a ?l ?c ?k (fun F => F.binds fun _ _ _ _ _ _ us hl => match us, hl with | [_, _], _ => rfl) (fun d_part_over => ?_)
    (case a => k_is); (case l => k_is); (case c => k_is); (case k => k_is)
    refine' K10.with_def KX G "part_below" K10.s_part_below K10.p_part_below ?a ?l ?c ?k (fun F => F.binds fun _ _ _ _ _ _ us hl => match us, hl with | [_, _], _ => rfl) (fun d_part_below => ?_)
    (case a => k_is); (case l => k_is); (case c => k_is); (case k => k_is)
    refine' K10.with_def KX G "part_sum" K10.s_part_sum K10.p_part_sum ?a ?l ?c ?k (fun F => F.binds fun _ _ _ _ _ _ us hl => match us, hl with | [_], _ => rfl) (fun d_part_sum => ?_)
    (case a => k_is); (case l => k_is); (case c => k_is); (case k => k_is)
    refine' K10.with_def KX G "cells_dot" K10.s_cells_dot K10.p_cells_dot ?a ?l ?c ?k (fun F => F.binds fun _ _ _ _ _ _ us hl => match us, hl with | [_, _], _ => rfl) (fun d_cells_dot => ?_)
    (case a => k_is); (case l => k_is); (case c => k_is); (case k => k_is)
    refine' K10.with_def KX G "cells_plus" K10.s_cells_plus K10.p_cells_plus ?a ?l ?c ?k (fun F => F.binds fun _ _ _ _ _ _ us hl => match us, hl with | [_, _], _ => rfl) (fun d_cells_plus => ?_)
    (case a => k_is); (case l => k_is); (case c => k_is); (case k => k_is)
    refine' K10.with_def KX G "cells_times" K10.s_cells_times K10.p_cells_times ?a ?l ?c ?k (fun F => F.binds fun _ _ _ _ _ _ us hl => match us, hl with | [_, _], _ => rfl) (fun d_cells_times => ?_)
    (case a => k_is); (case l => k_is); (case c => k_is); (case k => k_is)
    refine' K10.with_def KX G "cells_made" K10.s_cells_made K10.p_cells_made ?a ?l ?c ?k (fun F => F.binds fun _ _ _ _ _ _ us hl => match us, hl with | [_, _], _ => rfl) (fun d_cells_made => ?_)
    (case a => k_is); (case l => k_is); (case c => k_is); (case k => k_is)
    refine' K10.with_def KX G "greatest_part" K10.s_greatest_part K10.p_greatest_part ?a ?l ?c ?k (fun F => F.binds fun _ _ _ _ _ _ us hl => match us, hl with | [_], _ => rfl) (fun d_greatest_part => ?_)
    (case a => k_is); (case l => k_is); (case c => k_is); (case k => k_is)
    refine' K10.with_def KX G "cost" K10.s_cost K10.p_cost ?a ?l ?c ?k (fun F => F.binds fun _ _ _ _ _ _ us hl => match us, hl with | [_, _], _ => rfl) (fun d_cost => ?_)
    (case a => k_is); (case l => k_is); (case c => k_is); (case k => k_is)
    refine' K10.with_def KX G "mark_apart" K10.s_mark_apart K10.p_mark_apart ?a ?l ?c ?k (fun F => F.binds fun _ _ _ _ _ _ us hl => match us, hl with | [_, _], _ => rfl) (fun d_mark_apart => ?_)
    (case a => k_is); (case l => k_is); (case c => k_is); (case k => k_is)
    refine' K10.with_def KX G "corner_turned" K10.s_corner_turned K10.p_corner_turned ?a ?l ?c ?k (fun F => F.binds fun _ _ _ _ _ _ us hl => match us, hl with | [_], _ => rfl) (fun d_corner_turned => ?_)
    (case a => k_is); (case l => k_is); (case c => k_is); (case k => k_is)
    refine' K10.with_def KX G "turned_about" K10.s_turned_about K10.p_turned_about ?a ?l ?c ?k (fun F => F.binds fun _ _ _ _ _ _ us hl => match us, hl with | [_], _ => rfl) (fun d_turned_about => ?_)
    (case a => k_is); (case l => k_is); (case c => k_is); (case k => k_is)
    refine' K10.with_def KX G "turned_marks" K10.s_turned_marks K10.p_turned_marks ?a ?l ?c ?k (fun F => F.binds fun _ _ _ _ _ _ us hl => match us, hl with | [_], _ => rfl) (fun d_turned_marks => ?_)
    (case a => k_is); (case l => k_is); (case c => k_is); (case k => k_is)
    refine' K10.with_def KX G "mark_row" K10.s_mark_row K10.p_mark_row ?a ?l ?c ?k (fun F => F.binds fun _ _ _ _ _ _ us hl => match us, hl with | [_], _ => rfl) (fun d_mark_row => ?_)
    (case a => k_is); (case l => k_is); (case c => k_is); (case k => k_is)
    refine' K10.with_def KX G "first_apart" K10.s_first_apart K10.p_first_apart ?a ?l ?c ?k (fun F => F.binds fun _ _ _ _ _ _ us hl => match us, hl with | [_, _], _ => rfl) (fun d_first_apart => ?_)
    (case a => k_is); (case l => k_is); (case c => k_is); (case k => k_is)
    refine' K10.with_def KX G "marks_fit" K10.s_marks_fit K10.p_marks_fit ?a ?l ?c ?k (fun F => F.binds fun _ _ _ _ _ _ us hl => match us, hl with | [_, _], _ => rfl) (fun d_marks_fit => ?_)
    (case a => k_is); (case l => k_is); (case c => k_is); (case k => k_is)
    refine' K10.with_def KX G "sight_row" K10.s_sight_row K10.p_sight_row ?a ?l ?c ?k (fun F => F.binds fun _ _ _ _ _ _ us hl => match us, hl with | [_], _ => rfl) (fun d_sight_row => ?_)
    (case a => k_is); (case l => k_is); (case c => k_is); (case k => k_is)
    refine' K10.with_def KX G "shown_with_marks" K10.s_shown_with_marks K10.p_shown_with_marks ?a ?l ?c ?k (fun F => F.binds fun _ _ _ _ _ _ us hl => match us, hl with | [_, _, _], _ => rfl) (fun d_shown_with_marks => ?_)
    (case a => k_is); (case l => k_is); (case c => k_is); (case k => k_is)
    refine' K10.with_def KX G "shown_between" K10.s_shown_between K10.p_shown_between ?a ?l ?c ?k (fun F => F.binds fun _ _ _ _ _ _ us hl => match us, hl with | [_, _, _, _], _ => rfl) (fun d_shown_between => ?_)
    (case a => k_is); (case l => k_is); (case c => k_is); (case k => k_is)
    refine' K10.with_def KX G "amounts_between" K10.s_amounts_between K10.p_amounts_between ?a ?l ?c ?k (fun F => F.binds fun _ _ _ _ _ _ us hl => match us, hl with | [_, _, _], _ => rfl) (fun d_amounts_between => ?_)
    (case a => k_is); (case l => k_is); (case c => k_is); (case k => k_is)
    refine' K10.with_def KX G "_law_box" K10.s_L_box K10.p_L_box ?a ?l ?c ?k (fun F => F.binds fun _ _ _ _ _ _ us hl => match us, hl with | [_, _], _ => rfl) (fun d_L_box => ?_)
    (case a => k_is); (case l => k_is); (case c => k_is); (case k => k_is)
    refine' K10.with_def KX G "_law_take" K10.s_L_take K10.p_L_take ?a ?l ?c ?k (fun F => F.binds fun _ _ _ _ _ _ us hl => match us, hl with | [_, _], _ => rfl) (fun d_L_take => ?_)
    (case a => k_is); (case l => k_is); (case c => k_is); (case k => k_is)
    refine' K10.with_def KX G "_law_cells" K10.s_L_cells K10.p_L_cells ?a ?l ?c ?k (fun F => F.binds fun _ _ _ _ _ _ us hl => match us, hl with | [_, _], _ => rfl) (fun d_L_cells => ?_)
    (case a => k_is); (case l => k_is); (case c => k_is); (case k => k_is)
    refine' K10.with_def KX G "_law_of" K10.s_L_of K10.p_L_of ?a ?l ?c ?k (fun F => F.binds fun _ _ _ _ _ _ us hl => match us, hl with | [_, _], _ => rfl) (fun d_L_of => ?_)
    (case a => k_is); (case l => k_is); (case c => k_is); (case k => k_is)
    refine' K10.with_def KX G "_law_lists" K10.s_L_lists K10.p_L_lists ?a ?l ?c ?k (fun F => F.binds fun _ _ _ _ _ _ us hl => match us, hl with | [_], _ => rfl) (fun d_L_lists => ?_)
    (case a => k_is); (case l => k_is); (case c => k_is); (case k => k_is)
    refine' K10.with_def KX G "_law_same" K10.s_L_same K10.p_L_same ?a ?l ?c ?k (fun F => F.binds fun _ _ _ _ _ _ us hl => match us, hl with | [_, _], _ => rfl) (fun d_L_same => ?_)
    (case a => k_is); (case l => k_is); (case c => k_is); (case k => k_is)
    refine' K10.with_def KX G "_law_gcd" K10.s_L_gcd K10.p_L_gcd ?a ?l ?c ?k (fun F => F.binds fun _ _ _ _ _ _ us hl => match us, hl with | [_, _], _ => rfl) (fun d_L_gcd => ?_)
    (case a => k_is); (case l => k_is); (case c => k_is); (case k => k_is)
    refine' K10.with_def KX G "_law_fr" K10.s_L_fr K10.p_L_fr ?a ?l ?c ?k (fun F => F.binds fun _ _ _ _ _ _ us hl => match us, hl with | [_, _], _ => rfl) (fun d_L_fr => ?_)
    (case a => k_is); (case l => k_is); (case c => k_is); (case k => k_is)
    refine' K10.with_def KX G "_law_sum" K10.s_L_sum K10.p_L_sum ?a ?l ?c ?k (fun F => F.binds fun _ _ _ _ _ _ us hl => match us, hl with | [_, _], _ => rfl) (fun d_L_sum => ?_)
    (case a => k_is); (case l => k_is); (case c => k_is); (case k => k_is)
    refine' K10.with_def KX G "_law_less_by" K10.s_L_less_by K10.p_L_less_by ?a ?l ?c ?k (fun F => F.binds fun _ _ _ _ _ _ us hl => match us, hl with | [_, _], _ => rfl) (fun d_L_less_by => ?_)
    (case a => k_is); (case l => k_is); (case c => k_is); (case k => k_is)
    refine' K10.with_def KX G "_law_mul" K10.s_L_mul K10.p_L_mul ?a ?l ?c ?k (fun F => F.binds fun _ _ _ _ _ _ us hl => match us, hl with | [_, _], _ => rfl) (fun d_L_mul => ?_)
    (case a => k_is); (case l => k_is); (case c => k_is); (case k => k_is)
    refine' K10.with_def KX G "_law_over" K10.s_L_over K10.p_L_over ?a ?l ?c ?k (fun F => F.binds fun _ _ _ _ _ _ us hl => match us, hl with | [_, _], _ => rfl) (fun d_L_over => ?_)
    (case a => k_is); (case l => k_is); (case c => k_is); (case k => k_is)
    refine' K10.with_def KX G "_law_under" K10.s_L_under K10.p_L_under ?a ?l ?c ?k (fun F => F.binds fun _ _ _ _ _ _ us hl => match us, hl with | [_, _], _ => rfl) (fun d_L_under => ?_)
    (case a => k_is); (case l => k_is); (case c => k_is); (case k => k_is)
    refine' K10.with_def KX G "_law_is_fr" K10.s_L_is_fr K10.p_L_is_fr ?a ?l ?c ?k (fun F => F.binds fun _ _ _ _ _ _ us hl => match us, hl with | [_], _ => rfl) (fun d_L_is_fr => ?_)
    (case a => k_is); (case l => k_is); (case c => k_is); (case k => k_is)
    refine' K10.with_def KX G "_law_is_row" K10.s_L_is_row K10.p_L_is_row ?a ?l ?c ?k (fun F => F.binds fun _ _ _ _ _ _ us hl => match us, hl with | [_, _], _ => rfl) (fun d_L_is_row => ?_)
    (case a => k_is); (case l => k_is); (case c => k_is); (case k => k_is)
    refine' K10.with_def KX G "_law_dot" K10.s_L_dot K10.p_L_dot ?a ?l ?c ?k (fun F => F.binds fun _ _ _ _ _ _ us hl => match us, hl with | [_, _], _ => rfl) (fun d_L_dot => ?_)
    (case a => k_is); (case l => k_is); (case c => k_is); (case k => k_is)
    refine' K10.with_def KX G "_law_small" K10.s_L_small K10.p_L_small ?a ?l ?c ?k (fun F => F.binds fun _ _ _ _ _ _ us hl => match us, hl with | [_], _ => rfl) (fun d_L_small => ?_)
    (case a => k_is); (case l => k_is); (case c => k_is); (case k => k_is)
    refine' K10.with_def KX G "_law_row" K10.s_L_row K10.p_L_row ?a ?l ?c ?k (fun F => F.binds fun _ _ _ _ _ _ us hl => match us, hl with | [_, _], _ => rfl) (fun d_L_row => ?_)
    (case a => k_is); (case l => k_is); (case c => k_is); (case k => k_is)
    refine' K10.with_def KX G "_law_are_long" K10.s_L_are_long K10.p_L_are_long ?a ?l ?c ?k (fun F => F.binds fun _ _ _ _ _ _ us hl => match us, hl with | [_, _], _ => rfl) (fun d_L_are_long => ?_)
    (case a => k_is); (case l => k_is); (case c => k_is); (case k => k_is)
    refine' K10.with_def KX G "_law_dear" K10.s_L_dear K10.p_L_dear ?a ?l ?c ?k (fun F => F.binds fun _ _ _ _ _ _ us hl => match us, hl with | [_, _], _ => rfl) (fun d_L_dear => ?_)
    (case a => k_is); (case l => k_is); (case c => k_is); (case k => k_is)
    refine' K10.with_def KX G "_law_apart" K10.s_L_apart K10.p_L_apart ?a ?l ?c ?k (fun F => F.binds fun _ _ _ _ _ _ us hl => match us, hl with | [_, _], _ => rfl) (fun d_L_apart => ?_)
    (case a => k_is); (case l => k_is); (case c => k_is); (case k => k_is)
    refine' K10.with_def KX G "_law_mark_row" K10.s_L_mark_row K10.p_L_mark_row ?a ?l ?c ?k (fun F => F.binds fun _ _ _ _ _ _ us hl => match us, hl with | [_], _ => rfl) (fun d_L_mark_row => ?_)
    (case a => k_is); (case l => k_is); (case c => k_is); (case k => k_is)
    refine' K10.with_def KX G "_law_rises" K10.s_L_rises K10.p_L_rises ?a ?l ?c ?k (fun F => F.binds fun _ _ _ _ _ _ us hl => match us, hl with | [_, _, _], _ => rfl) (fun d_L_rises => ?_)
    (case a => k_is); (case l => k_is); (case c => k_is); (case k => k_is)
    refine' K10.with_def KX G "_law_marks_fit" K10.s_L_marks_fit K10.p_L_marks_fit ?a ?l ?c ?k (fun F => F.binds fun _ _ _ _ _ _ us hl => match us, hl with | [_, _], _ => rfl) (fun d_L_marks_fit => ?_)
    (case a => k_is); (case l => k_is); (case c => k_is); (case k => k_is)
    refine' K10.with_def KX G "_law_own_turned" K10.s_L_own_turned K10.p_L_own_turned ?a ?l ?c ?k (fun F => F.binds fun _ _ _ _ _ _ us hl => match us, hl with | [_], _ => rfl) (fun d_L_own_turned => ?_)
    (case a => k_is); (case l => k_is); (case c => k_is); (case k => k_is)
    refine' K10.with_def KX G "_law_swapped" K10.s_L_swapped K10.p_L_swapped ?a ?l ?c ?k (fun F => F.binds fun _ _ _ _ _ _ us hl => match us, hl with | [_], _ => rfl) (fun d_L_swapped => ?_)
    (case a => k_is); (case l => k_is); (case c => k_is); (case k => k_is)
    refine' K10.with_def KX G "_law_fitting_marks" K10.s_L_fitting_marks K10.p_L_fitting_marks ?a ?l ?c ?k (fun F => F.binds fun _ _ _ _ _ _ us hl => match us, hl with | [_, _, _, _], _ => rfl) (fun d_L_fitting_marks => ?_)
    (case a => k_is); (case l => k_is); (case c => k_is); (case k => k_is)
    refine' K10.with_def KX G "_law_any_gauge" K10.s_L_any_gauge K10.p_L_any_gauge ?a ?l ?c ?k (fun F => F.binds fun _ _ _ _ _ _ us hl => match us, hl with | [_, _], _ => rfl) (fun d_L_any_gauge => ?_)
    (case a => k_is); (case l => k_is); (case c => k_is); (case k => k_is)
    refine' K10.with_def KX G "_law_heard" K10.s_L_heard K10.p_L_heard ?a ?l ?c ?k (fun F => F.binds fun _ _ _ _ _ _ us hl => match us, hl with | [_, _, _, _, _], _ => rfl) (fun d_L_heard => ?_)
    (case a => k_is); (case l => k_is); (case c => k_is); (case k => k_is)
    refine' K10.with_def KX G "_law_by_hand_right" K10.s_L_by_hand_right K10.p_L_by_hand_right ?a ?l ?c ?k (fun F => F.binds fun _ _ _ _ _ _ us hl => match us, hl with | [], _ => rfl) (fun d_L_by_hand_right => ?_)
    (case a => k_is); (case l => k_is); (case c => k_is); (case k => k_is)
    refine' K10.with_def KX G "_law_own_between" K10.s_L_own_between K10.p_L_own_between ?a ?l ?c ?k (fun F => F.binds fun _ _ _ _ _ _ us hl => match us, hl with | [_, _, _], _ => rfl) (fun d_L_own_between => ?_)
    (case a => k_is); (case l => k_is); (case c => k_is); (case k => k_is)
    refine' K10.with_def KX G "_law_ends_right" K10.s_L_ends_right K10.p_L_ends_right ?a ?l ?c ?k (fun F => F.binds fun _ _ _ _ _ _ us hl => match us, hl with | [_, _, _, _, _], _ => rfl) (fun d_L_ends_right => ?_)
    (case a => k_is); (case l => k_is); (case c => k_is); (case k => k_is)
    refine' K10.with_def KX G "_law_right" K10.s_L_right K10.p_L_right ?a ?l ?c ?k (fun F => F.binds fun _ _ _ _ _ _ us hl => match us, hl with | [_], _ => rfl) (fun d_L_right => ?_)
    (case a => k_is); (case l => k_is); (case c => k_is); (case k => k_is)
    refine' K10.with_none KX G "tuple" ?a (fun n_tuple => ?_)
    (case a => k_is)
    refine' K10.with_none KX G "list" ?a (fun n_list => ?_)
    (case a => k_is)
    refine' K10.with_none KX G "set" ?a (fun n_set => ?_)
    (case a => k_is)
    refine' K10.with_none KX G "sorted" ?a (fun n_sorted => ?_)
    (case a => k_is)
    refine' K10.with_none KX G "zip" ?a (fun n_zip => ?_)
    (case a => k_is)
    refine' K10.with_none KX G "enumerate" ?a (fun n_enumerate => ?_)
    (case a => k_is)
    refine' K10.with_none KX G "isinstance" ?a (fun n_isinstance => ?_)
    (case a => k_is)
    refine' K10.with_none KX G "any" ?a (fun n_any => ?_)
    (case a => k_is)
    refine' K10.with_none KX G "all" ?a (fun n_all => ?_)
    (case a => k_is)
    refine' K10.with_none KX G "len" ?a (fun n_len => ?_)
    (case a => k_is)
    refine' K10.with_none KX G "abs" ?a (fun n_abs => ?_)
    (case a => k_is)
    refine' K10.with_none KX G "int" ?a (fun n_int => ?_)
    (case a => k_is)
    refine' K10.with_none KX G "range" ?a (fun n_range => ?_)
    (case a => k_is)
    refine' K10.with_none KX G "bool" ?a (fun n_bool => ?_)
    (case a => k_is)
    refine' K10.with_none KX G "str" ?a (fun n_str => ?_)
    (case a => k_is)
    refine' K10.with_none KX G "ValueError" ?a (fun n_ValueError => ?_)
    (case a => k_is)
    refine' K10.with_val KX G "gcd" (.builtin "math.gcd") ?a (fun gg => ?_)
    (case a => k_is)
    refine' K10.with_glo KX G "NONE" 0 1 ?a ?l (fun gN => ?_)
    (case a => k_is); (case l => k_is)
    refine' K10.with_glo KX G "FULL" 1 1 ?a ?l (fun gF => ?_)
    (case a => k_is); (case l => k_is)
    refine' K10.with_exc KX G ?aC ?eX ?kC ?eC ?tC ?sC ?hg ?hk ?hd ?ha ?hn ?ht ?hm ?kv (fun kU => ?_)
    (case aC => first | k_is | k_exc | rfl); (case eX => first | k_is | k_exc | rfl); (case kC => first | k_is | k_exc | rfl); (case eC => first | k_is | k_exc | rfl); (case tC => first | k_is | k_exc | rfl); (case sC => first | k_is | k_exc | rfl); (case hg => first | k_is | k_exc | rfl); (case hk => first | k_is | k_exc | rfl); (case hd => first | k_is | k_exc | rfl); (case ha => first | k_is | k_exc | rfl); (case hn => first | k_is | k_exc | rfl); (case ht => first | k_is | k_exc | rfl); (case hm => first | k_is | k_exc | rfl); (case kv => first | k_is | k_exc | rfl)
    refine' K10.law_end KX G hmg ?a ?l ?c ?k ⟨d_tupled, d_set_of, d_part_of, d_part_plus, d_part_minus, d_part_times, d_part_over, d_part_below, d_part_sum, d_cells_dot, d_cells_plus, d_cells_times, d_cells_made, d_greatest_part, d_cost, d_mark_apart, d_corner_turned, d_turned_about, d_turned_marks, d_mark_row, d_first_apart, d_marks_fit, d_sight_row, d_shown_with_marks, d_shown_between, d_amounts_between, d_L_box, d_L_take, d_L_cells, d_L_of, d_L_lists, d_L_same, d_L_gcd, d_L_fr, d_L_sum, d_L_less_by, d_L_mul, d_L_over, d_L_under, d_L_is_fr, d_L_is_row, d_L_dot, d_L_small, d_L_row, d_L_are_long, d_L_dear, d_L_apart, d_L_mark_row, d_L_rises, d_L_marks_fit, d_L_own_turned, d_L_swapped, d_L_fitting_marks, d_L_any_gauge, d_L_heard, d_L_by_hand_right, d_L_own_between, d_L_ends_right, d_L_right, n_tuple, n_list, n_set, n_sorted, n_zip, n_enumerate, n_isinstance, n_any, n_all, n_len, n_abs, n_int, n_range, n_bool, n_str, n_ValueError, gg, gN, gF⟩ kU
    (case a => k_is); (case l => k_is); (case c => k_is); (case k => k_is)

