import PyProof.Rows.All
import Wide.All
import OpenK.AllK
import Wide.FinOn
import HandS.ForMost
import HandS.Zip
import HandS.Conv
import HandS.Rev
import HandS.IsInst
import HandS.Style
import HandS.Gcd
import HandS.TupAny
import HandS.DictTup
import HandS.ListItems
import HandS.AnyAll
import HandS.EndTab
import HandS.Flow
import HandS.Star
import KE.KDictList
import PyProof.DictWalks
import PyProof.NeKinds
import PySem.Challenge.RW_arraysaligned_k47_whole_places_that_neve
set_option Elab.async false
set_option linter.all false
set_option maxRecDepth 100000
/-! ## Data-level reading of the hand layer: what an expression or statement does to plain data -/
namespace Dv
open PySem PySem.Spec PyProof.Rows L2

abbrev D := PyData

/-! ### heaps -/
def notTbl : HO → Bool
  | .tbl _ => false
  | _ => true
/-- a list or a dict -/
def mutb : HO → Bool
  | .lst _ => true
  | .dK _ => true
  | .dT _ => true
  | _ => false
theorem mutb_nt {o : HO} (h : mutb o = true) : notTbl o = true := by cases o <;> first | rfl | cases h
/-- all but code tables stays, outside W -/
def Fx (W : List Addr) (H H' : Hp) : Prop := ∀ a o, notTbl o = true → a ∉ W → H a = some o → H' a = some o
/-- the heap without the owned lists -/
def msk (O : List Addr) (H : Hp) : Hp := fun a => if a ∈ O then none else H a
/-- all but code tables stays -/
def Kp (H H' : Hp) : Prop := ∀ a o, notTbl o = true → H a = some o → H' a = some o

theorem msk_in {O : List Addr} {H : Hp} {a : Addr} (h : a ∈ O) : msk O H a = none := if_pos h
theorem msk_out {O : List Addr} {H : Hp} {a : Addr} (h : a ∉ O) : msk O H a = H a := if_neg h
theorem msk_some {O : List Addr} {H : Hp} {a : Addr} {o : HO} (h : msk O H a = some o) : a ∉ O ∧ H a = some o := by
  by_cases q : a ∈ O
  · rw [msk_in q] at h; cases h
  · rw [msk_out q] at h; exact ⟨q, h⟩
theorem Fx.refl (W : List Addr) (H : Hp) : Fx W H H := fun _ _ _ _ h => h
theorem Fx.trans {W1 W2 : List Addr} {H H1 H2 : Hp} (a : Fx W1 H H1) (b : Fx W2 H1 H2) : Fx (W1 ++ W2) H H2 := fun x o n w h =>
  b x o n (fun z => w (List.mem_append_right _ z)) (a x o n (fun z => w (List.mem_append_left _ z)) h)
theorem Fx.mono {W W' : List Addr} {H H' : Hp} (a : Fx W H H') (h : ∀ x ∈ W, x ∈ W') : Fx W' H H' := fun x o n w e => a x o n (fun z => w (h x z)) e
theorem Fx.new {W : List Addr} {H : Hp} {p : Addr} {o : HO} (h : H p = none) : Fx W H (upd H p o) := fun a u _ _ e => by
  rw [upd_ne (ne_of_none e h)]; exact e
theorem Fx.write {H : Hp} {p : Addr} {o : HO} : Fx [p] H (upd H p o) := fun a u _ w e => by
  rw [upd_ne (fun z => w (by simp [z]))]; exact e
theorem Fx.kp {W O : List Addr} {H H' : Hp} (a : Fx W H H') (h : ∀ x ∈ W, x ∈ O) : Kp (msk O H) (msk O H') := fun x o n e => by
  obtain ⟨q, e⟩ := msk_some e
  rw [msk_out q]
  exact a x o n (fun z => q (h x z)) e
theorem Fx.kpN {H H' : Hp} (a : Fx [] H H') : Kp H H' := fun x o n e => a x o n (by simp) e
theorem Kp.fx {W : List Addr} {H H' : Hp} (a : Kp H H') : Fx W H H' := fun x o n _ e => a x o n e
theorem Kp.refl (H : Hp) : Kp H H := fun _ _ _ h => h
theorem Kp.trans {H H1 H2 : Hp} (a : Kp H H1) (b : Kp H1 H2) : Kp H H2 := fun x o n h => b x o n (a x o n h)
theorem Kp.ofmsk (O : List Addr) (H : Hp) : Kp (msk O H) H := fun _ _ _ h => (msk_some h).2
theorem Kp.sub {O O' : List Addr} {H : Hp} (h : ∀ a ∈ O', a ∈ O) : Kp (msk O H) (msk O' H) := fun a o _ e => by
  obtain ⟨q, e⟩ := msk_some e
  rw [msk_out (fun z => q (h a z))]; exact e
theorem Kp.rd {H H' : Hp} {a : Addr} {u : HO} (k : Kp H H') (n : notTbl u = true) (h : Rd H a u) : Rd H' a u := by
  rcases h with h | ⟨o, h⟩
  · exact .inl (k _ _ n h)
  · exact .inr ⟨o, k _ _ rfl h⟩
theorem Kp.sqL {K : PySem.W.Frag} {H H' : Hp} {a : Addr} {xs : List V} (k : Kp H H') (h : SqL K H a xs) : SqL K H' a xs := by
  rcases h with h | h
  · exact .inl (k.rd rfl h)
  · exact .inr h
/-- a tuple of the program's own making -/
abbrev Tt (H : Hp) (a : Addr) (xs : List V) : Prop := H a = some (.tup xs)
theorem Kp.tt {H H' : Hp} {a : Addr} {xs : List V} (k : Kp H H') (h : Tt H a xs) : Tt H' a xs := k _ _ rfl h
theorem Kp.sqT {K : PySem.W.Frag} {H H' : Hp} {a : Addr} {xs : List V} (k : Kp H H') (h : Tt H a xs) : SqT K H' a xs := SqT.of (k.tt h)

/-! ### values are data -/
def kD : Key → D
  | .inl i => .int i
  | .inr x => .str x
mutual
inductive Rp (K : PySem.W.Frag) (H : Hp) : V → D → Prop
  | non : Rp K H .non .none
  | bl (b : Bool) : Rp K H (.bl b) (.bool b)
  | int (i : Int) : Rp K H (.int i) (.int i)
  | str (x : Str) : Rp K H (.str x) (.str x)
  | lst {a : Addr} {xs : List V} {ds : List D} : SqL K H a xs → RpA K H xs ds → Rp K H (.ref a) (.list ds)
  | tup {a : Addr} {xs : List V} {ds : List D} : Tt H a xs → RpA K H xs ds → Rp K H (.ref a) (.tuple ds)
  | dk {a : Addr} {kvs : List (Key × V)} {ds : List (D × D)} : H a = some (.dK kvs) → RpK K H kvs ds → Rp K H (.ref a) (.dict ds)
  | dt {a : Addr} {kvs : List (List Key × V)} {ds : List (D × D)} : ds ≠ [] → H a = some (.dT kvs) → RpT K H kvs ds → Rp K H (.ref a) (.dict ds)
inductive RpA (K : PySem.W.Frag) (H : Hp) : List V → List D → Prop
  | nil : RpA K H [] []
  | cons {v : V} {vs : List V} {d : D} {ds : List D} : Rp K H v d → RpA K H vs ds → RpA K H (v :: vs) (d :: ds)
inductive RpK (K : PySem.W.Frag) (H : Hp) : List (Key × V) → List (D × D) → Prop
  | nil : RpK K H [] []
  | cons {k : Key} {v : V} {vs : List (Key × V)} {d : D} {ds : List (D × D)} : Rp K H v d → RpK K H vs ds → RpK K H ((k, v) :: vs) ((kD k, d) :: ds)
inductive RpT (K : PySem.W.Frag) (H : Hp) : List (List Key × V) → List (D × D) → Prop
  | nil : RpT K H [] []
  | cons {k : List Key} {v : V} {vs : List (List Key × V)} {d : D} {ds : List (D × D)} : Rp K H v d → RpT K H vs ds → RpT K H ((k, v) :: vs) ((.tuple (k.map kD), d) :: ds)
end
section
variable {K : PySem.W.Frag} {H H' : Hp}
mutual
theorem Rp.mono (k : Kp H H') : ∀ {v : V} {d : D}, Rp K H v d → Rp K H' v d
  | _, _, .non => .non
  | _, _, .bl b => .bl b
  | _, _, .int i => .int i
  | _, _, .str x => .str x
  | _, _, .lst h r => .lst (k.sqL h) (RpA.mono k r)
  | _, _, .tup h r => .tup (k.tt h) (RpA.mono k r)
  | _, _, .dk h r => .dk (k _ _ rfl h) (RpK.mono k r)
  | _, _, .dt n h r => .dt n (k _ _ rfl h) (RpT.mono k r)
theorem RpA.mono (k : Kp H H') : ∀ {v : List V} {d : List D}, RpA K H v d → RpA K H' v d
  | _, _, .nil => .nil
  | _, _, .cons h r => .cons (Rp.mono k h) (RpA.mono k r)
theorem RpK.mono (k : Kp H H') : ∀ {v : List (Key × V)} {d : List (D × D)}, RpK K H v d → RpK K H' v d
  | _, _, .nil => .nil
  | _, _, .cons h r => .cons (Rp.mono k h) (RpK.mono k r)
theorem RpT.mono (k : Kp H H') : ∀ {v : List (List Key × V)} {d : List (D × D)}, RpT K H v d → RpT K H' v d
  | _, _, .nil => .nil
  | _, _, .cons h r => .cons (Rp.mono k h) (RpT.mono k r)
end
theorem RpA.length : ∀ {vs : List V} {ds : List D}, RpA K H vs ds → vs.length = ds.length
  | _, _, .nil => rfl
  | _, _, .cons _ r => by rw [List.length_cons, List.length_cons, RpA.length r]
theorem RpA.get : ∀ {vs : List V} {ds : List D} {i : Nat} {v : V}, RpA K H vs ds → vs[i]? = some v → ∃ d, ds[i]? = some d ∧ Rp K H v d
  | _, _, _, _, .nil, e => by simp at e
  | _, _, 0, _, .cons h _, e => by simp at e; subst e; exact ⟨_, rfl, h⟩
  | _, _, i + 1, _, .cons _ r, e => by
    obtain ⟨d, h1, h2⟩ := RpA.get (i := i) r (by simpa using e)
    exact ⟨d, by simpa using h1, h2⟩
theorem RpA.getD : ∀ {vs : List V} {ds : List D} {i : Nat} {d : D}, RpA K H vs ds → ds[i]? = some d → ∃ v, vs[i]? = some v ∧ Rp K H v d
  | _, _, _, _, .nil, e => by simp at e
  | _, _, 0, _, .cons h _, e => by simp at e; subst e; exact ⟨_, rfl, h⟩
  | _, _, i + 1, _, .cons _ r, e => by
    obtain ⟨d, h1, h2⟩ := RpA.getD (i := i) r (by simpa using e)
    exact ⟨d, by simpa using h1, h2⟩
theorem RpA.append : ∀ {vs ws : List V} {ds es : List D}, RpA K H vs ds → RpA K H ws es → RpA K H (vs ++ ws) (ds ++ es)
  | _, _, _, _, .nil, r => r
  | _, _, _, _, .cons h r, s => .cons h (RpA.append r s)
theorem RpA.snoc {vs : List V} {ds : List D} {v : V} {d : D} (r : RpA K H vs ds) (h : Rp K H v d) : RpA K H (vs ++ [v]) (ds ++ [d]) := r.append (.cons h .nil)
theorem RpA.take : ∀ (n : Nat) {vs : List V} {ds : List D}, RpA K H vs ds → RpA K H (vs.take n) (ds.take n)
  | 0, _, _, _ => .nil
  | _ + 1, _, _, .nil => .nil
  | n + 1, _, _, .cons h r => .cons h (RpA.take n r)
theorem RpA.drop : ∀ (n : Nat) {vs : List V} {ds : List D}, RpA K H vs ds → RpA K H (vs.drop n) (ds.drop n)
  | 0, _, _, r => r
  | _ + 1, _, _, .nil => .nil
  | n + 1, _, _, .cons _ r => RpA.drop n r
theorem RpA.reverse : ∀ {vs : List V} {ds : List D}, RpA K H vs ds → RpA K H vs.reverse ds.reverse
  | _, _, .nil => .nil
  | _, _, .cons h r => by rw [List.reverse_cons, List.reverse_cons]; exact (RpA.reverse r).snoc h
theorem RpA.ints : ∀ {vs : List V} {ns : List Int}, RpA K H vs (ns.map .int) → vs = ns.map V.int
  | _, [], .nil => rfl
  | _, n :: ns, .cons h r => by
    cases h
    rw [RpA.ints r]; rfl
theorem RpA.of_ints : ∀ (ns : List Int), RpA K H (ns.map V.int) (ns.map .int)
  | [] => .nil
  | n :: ns => .cons (.int n) (RpA.of_ints ns)
theorem RpA.strs : ∀ {vs : List V} {ns : List Str}, RpA K H vs (ns.map .str) → vs = ns.map V.str
  | _, [], .nil => rfl
  | _, n :: ns, .cons h r => by
    cases h
    rw [RpA.strs r]; rfl
theorem RpA.of_strs : ∀ (ns : List Str), RpA K H (ns.map V.str) (ns.map .str)
  | [] => .nil
  | n :: ns => .cons (.str n) (RpA.of_strs ns)
theorem RpA.bools : ∀ {vs : List V} {ns : List Bool}, RpA K H vs (ns.map .bool) → vs = ns.map V.bl
  | _, [], .nil => rfl
  | _, n :: ns, .cons h r => by
    cases h
    rw [RpA.bools r]; rfl

/-! data without dicts -/
mutual
def plain : D → Bool
  | .dict _ => false
  | .list xs | .tuple xs => plainA xs
  | _ => true
def plainA : List D → Bool
  | [] => true
  | x :: xs => plain x && plainA xs
end
mutual
theorem Rp.dp : ∀ {v : V} {d : D}, plain d = true → Rp K H v d → Dp K H v d
  | _, _, _, .non => .non
  | _, _, _, .bl b => .bl b
  | _, _, _, .int i => .int i
  | _, _, _, .str x => .str x
  | _, _, p, .lst h r => .lst h (RpA.dp (by simpa [plain] using p) r)
  | _, _, p, .tup h r => .tup (SqT.of h) (RpA.dp (by simpa [plain] using p) r)
  | _, _, p, .dk _ _ => by simp [plain] at p
  | _, _, p, .dt _ _ _ => by simp [plain] at p
theorem RpA.dp : ∀ {v : List V} {d : List D}, plainA d = true → RpA K H v d → DpAll K H v d
  | _, _, _, .nil => .nil
  | _, _, p, .cons h r => by
    simp [plainA] at p
    exact .cons (Rp.dp p.1 h) (RpA.dp p.2 r)
end
end

/-! ### what the names hold -/
inductive Slot where
  | un
  | dat (d : D)
  | own (a : Addr) (d : D)
abbrev Sl := List Slot
def owns : Sl → List Addr
  | [] => []
  | .own a _ :: r => a :: owns r
  | _ :: r => owns r
/-- what an owned thing holds -/
def Hold (K : PySem.W.Frag) (H Hm : Hp) (a : Addr) : D → Prop
  | .list ds => ∃ xs, H a = some (.lst xs) ∧ RpA K Hm xs ds
  | .dict ds => (∃ kvs, H a = some (.dK kvs) ∧ RpK K Hm kvs ds) ∨ (ds ≠ [] ∧ ∃ kvs, H a = some (.dT kvs) ∧ RpT K Hm kvs ds)
  | _ => False
/-- what is known at a slot: v the value there -/
def At (K : PySem.W.Frag) (H Hm : Hp) : Slot → Option V → Prop
  | .un, _ => True
  | .dat d, v => ∃ x, v = some x ∧ Rp K Hm x d
  | .own a d, v => v = some (.ref a) ∧ Hold K H Hm a d

/-- what stands still through a def's body -/
structure Bs where
  out : List Addr
  lent : List Addr
  H0 : Hp

structure Sim (K : PySem.W.Frag) (T : List Addr) (B : Bs) (ρ : Sl) (σ : L2.St) (H : Hp) : Prop where
  len : ρ.length = σ.length
  at_ : ∀ (i : Nat) (s : Slot), ρ[i]? = some s → At K H (msk (B.out ++ owns ρ) H) s (σ[i]?.join)
  nodup : (owns ρ).Nodup
  disj : ∀ a ∈ owns ρ, a ∉ B.out
  outs : ∀ a ∈ B.out, ∃ o, H a = some o ∧ mutb o = true
  frame : Fx B.lent B.H0 H
  fresh : ∀ a ∈ owns ρ, a ∈ B.lent ∨ B.H0 a = none
  tabs : ∀ P ∈ T, GxR.TabG H P
  dom : ∀ a, B.H0 a ≠ none → H a ≠ none
abbrev Bs.all (B : Bs) (ρ : Sl) : List Addr := B.out ++ owns ρ

theorem mem_owns : ∀ {ρ : Sl} {a : Addr}, a ∈ owns ρ ↔ ∃ (i : Nat) (d : D), ρ[i]? = some (Slot.own a d)
  | [], a => by simp [owns]
  | .own b d :: r, a => by
    constructor
    · intro h
      rcases List.mem_cons.mp h with h | h
      · exact ⟨0, d, by rw [h]; rfl⟩
      · obtain ⟨i, d, e⟩ := mem_owns.mp h
        exact ⟨i + 1, d, e⟩
    · rintro ⟨i, d', e⟩
      cases i with
      | zero => cases (Option.some.inj e); exact List.mem_cons_self
      | succ i => exact List.mem_cons_of_mem _ (mem_owns.mpr ⟨i, d', e⟩)
  | .un :: r, a => by
    show a ∈ owns r ↔ _
    rw [mem_owns]
    constructor
    · rintro ⟨i, d, e⟩; exact ⟨i + 1, d, e⟩
    · rintro ⟨i, d, e⟩
      cases i with
      | zero => cases (Option.some.inj e)
      | succ i => exact ⟨i, d, e⟩
  | .dat _ :: r, a => by
    show a ∈ owns r ↔ _
    rw [mem_owns]
    constructor
    · rintro ⟨i, d, e⟩; exact ⟨i + 1, d, e⟩
    · rintro ⟨i, d, e⟩
      cases i with
      | zero => cases (Option.some.inj e)
      | succ i => exact ⟨i, d, e⟩

theorem Hold.some {K : PySem.W.Frag} {H Hm : Hp} {a : Addr} {d : D} (h : Hold K H Hm a d) : ∃ o, H a = some o ∧ mutb o = true := by
  cases d with
  | list ds => obtain ⟨xs, e, _⟩ := h; exact ⟨_, e, rfl⟩
  | dict ds =>
    rcases h with ⟨kvs, e, _⟩ | ⟨_, kvs, e, _⟩
    · exact ⟨_, e, rfl⟩
    · exact ⟨_, e, rfl⟩
  | _ => exact h.elim
theorem Hold.mono {K : PySem.W.Frag} {H Hm H' Hm' : Hp} {a : Addr} {d : D} (h : Hold K H Hm a d) (k : Kp Hm Hm') (e : ∀ o, notTbl o = true → H a = Option.some o → H' a = Option.some o) : Hold K H' Hm' a d := by
  cases d with
  | list ds => obtain ⟨xs, q, r⟩ := h; exact ⟨xs, e _ rfl q, r.mono k⟩
  | dict ds =>
    rcases h with ⟨kvs, q, r⟩ | ⟨n, kvs, q, r⟩
    · exact .inl ⟨_, e _ rfl q, r.mono k⟩
    · exact .inr ⟨n, _, e _ rfl q, r.mono k⟩
  | _ => exact h.elim
section
variable {K : PySem.W.Frag} {T : List Addr} {B : Bs} {ρ ρ' : Sl} {σ : L2.St} {H H' : Hp}
/-- every masked address holds something -/
theorem Sim.held (S : Sim K T B ρ σ H) : ∀ a ∈ B.all ρ, ∃ o, H a = some o ∧ mutb o = true := fun a h => by
  rcases List.mem_append.mp h with h | h
  · exact S.outs a h
  · obtain ⟨i, d, e⟩ := mem_owns.mp h
    exact (S.at_ i _ e).2.some
theorem Sim.free (S : Sim K T B ρ σ H) {p : Addr} (h : H p = none) : p ∉ B.all ρ := fun z => by
  obtain ⟨o, e, _⟩ := S.held p z
  rw [h] at e; cases e
/-- the heap grew, no owned thing was touched -/
theorem Sim.grow (S : Sim K T B ρ σ H) (k : Kp H H') (t : ∀ P ∈ T, GxR.TabG H' P) (hd : ∀ a, H a ≠ none → H' a ≠ none) : Sim K T B ρ σ H' where
  len := S.len
  at_ := fun i s e => by
    have q := S.at_ i s e
    have km : Kp (msk (B.all ρ) H) (msk (B.all ρ) H') := fun a o n z => by
      obtain ⟨z1, z2⟩ := msk_some z
      rw [msk_out z1]; exact k a o n z2
    cases s with
    | un => trivial
    | dat d => obtain ⟨x, q1, q2⟩ := q; exact ⟨x, q1, q2.mono km⟩
    | own a d => exact ⟨q.1, q.2.mono km fun o n z => k a o n z⟩
  nodup := S.nodup
  disj := S.disj
  outs := fun a h => let ⟨o, e, n⟩ := S.outs a h; ⟨o, k a o (mutb_nt n) e, n⟩
  frame := fun a o n w e => k a o n (S.frame a o n w e)
  fresh := S.fresh
  tabs := t
  dom := fun a z => hd a (S.dom a z)
theorem tab_new {p : Addr} {o : HO} (h : H p = none) {P : Addr} (t : GxR.TabG H P) : GxR.TabG (upd H p o) P := by
  obtain ⟨ps, e, q⟩ := t
  exact ⟨ps, by rw [upd_ne (ne_of_none e h)]; exact e, q⟩
theorem Sim.new (S : Sim K T B ρ σ H) {p : Addr} {o : HO} (h : H p = none) : Sim K T B ρ σ (upd H p o) :=
  S.grow (Fx.new (W := []) h).kpN (fun P hP => tab_new h (S.tabs P hP)) fun a z => by
    by_cases q : a = p
    · rw [q, upd_same]; exact fun z => by cases z
    · rw [upd_ne q]; exact z
/-- a slot gets data -/
theorem owns_set_dat : ∀ {ρ : Sl} {i : Nat} {s : Slot} {a : Addr}, (∀ b d, s ≠ .own b d) → a ∈ owns (ρ.set i s) → a ∈ owns ρ
  | [], i, s, a, _, h => by simp [owns] at h
  | t :: r, 0, s, a, hs, h => by
    have h' : a ∈ owns (s :: r) := h
    have h2 : a ∈ owns r := by
      cases s with
      | own b d => exact absurd rfl (hs b d)
      | un => exact h'
      | dat d => exact h'
    cases t with
    | own b d => exact List.mem_cons_of_mem _ h2
    | un => exact h2
    | dat d => exact h2
  | t :: r, i + 1, s, a, hs, h => by
    have h' : a ∈ owns (t :: r.set i s) := h
    cases t with
    | own b d =>
      rcases List.mem_cons.mp h' with z | z
      · rw [z]; exact List.mem_cons_self
      · exact List.mem_cons_of_mem _ (owns_set_dat hs z)
    | un => exact owns_set_dat (ρ := r) hs h'
    | dat d => exact owns_set_dat (ρ := r) hs h'
theorem nodup_set_dat : ∀ {ρ : Sl} {i : Nat} {s : Slot}, (∀ b d, s ≠ .own b d) → (owns ρ).Nodup → (owns (ρ.set i s)).Nodup
  | [], i, s, _, h => by simp [owns]
  | t :: r, 0, s, hs, h => by
    have h2 : (owns r).Nodup := by
      cases t with
      | own b d => exact (List.nodup_cons.mp h).2
      | un => exact h
      | dat d => exact h
    show (owns (s :: r)).Nodup
    cases s with
    | own b d => exact absurd rfl (hs b d)
    | un => exact h2
    | dat d => exact h2
  | t :: r, i + 1, s, hs, h => by
    show (owns (t :: r.set i s)).Nodup
    cases t with
    | own b d =>
      obtain ⟨h1, h2⟩ := List.nodup_cons.mp h
      exact List.nodup_cons.mpr ⟨fun z => h1 (owns_set_dat hs z), nodup_set_dat hs h2⟩
    | un => exact nodup_set_dat (ρ := r) hs h
    | dat d => exact nodup_set_dat (ρ := r) hs h
theorem join_set_same {i : Nat} {v : V} (h : i < σ.length) : (σ.set i (some v))[i]?.join = some v := by
  rw [List.getElem?_set_self h]; rfl
theorem join_set_ne {i j : Nat} {o : Option V} (h : i ≠ j) : (σ.set i o)[j]?.join = σ[j]?.join := by rw [List.getElem?_set_ne h]
/-- a slot is stored: data, or nothing known -/
theorem Sim.set (S : Sim K T B ρ σ H) {i : Nat} {v : V} {s : Slot} (hs : ∀ b d, s ≠ .own b d) (hl : i < ρ.length) (h : At K H (msk (B.all ρ) H) s (some v)) : Sim K T B (ρ.set i s) (σ.set i (some v)) H := by
  have hsub : ∀ a ∈ B.all (ρ.set i s), a ∈ B.all ρ := fun a z => by
    rcases List.mem_append.mp z with z | z
    · exact List.mem_append_left _ z
    · exact List.mem_append_right _ (owns_set_dat hs z)
  have km : Kp (msk (B.all ρ) H) (msk (B.all (ρ.set i s)) H) := Kp.sub hsub
  have atm : ∀ {t : Slot} {o : Option V}, At K H (msk (B.all ρ) H) t o → At K H (msk (B.all (ρ.set i s)) H) t o := fun {t o} q => by
    cases t with
    | un => trivial
    | dat d => obtain ⟨x, q1, q2⟩ := q; exact ⟨x, q1, q2.mono km⟩
    | own a d => exact ⟨q.1, q.2.mono km fun _ _ z => z⟩
  have hl : i < σ.length := by rw [← S.len]; exact hl
  refine ⟨by rw [List.length_set, List.length_set]; exact S.len, fun j t e => ?_, nodup_set_dat hs S.nodup, fun a z => S.disj a (owns_set_dat hs z), S.outs, S.frame, fun a z => S.fresh a (owns_set_dat hs z), S.tabs, S.dom⟩
  by_cases q : i = j
  · subst q
    rw [join_set_same hl]
    have hi : i < ρ.length := by
      have := (List.getElem?_eq_some_iff.mp e).1
      simpa using this
    rw [List.getElem?_set_self hi] at e
    cases (Option.some.inj e)
    exact atm h
  · rw [join_set_ne q]
    rw [List.getElem?_set_ne q] at e
    exact atm (S.at_ j t e)
end

/-! ### expressions -/
def TD (K : PySem.W.Frag) (T : List Addr) (B : Bs) (ρ : Sl) (W : List Addr) (ρ' : Sl) (d : D) : TE := fun σ H Q =>
  Sim K T B ρ σ H ∧ ∀ v H', Sim K T B ρ' σ H' → Fx W H H' → Rp K (msk (B.all ρ') H') v d → Q v H'
/-- e, with the names as ρ tells, is d, and leaves ρ'; W: the owned things that it may write to -/
structure EX (X : Cx) (T : List Addr) (B : Bs) (ρ : Sl) (e : Expr) (W : List Addr) (ρ' : Sl) (d : D) : Prop where
  run : PE X e (TD X.K T B ρ W ρ' d)
  own : owns ρ' = owns ρ
  sub : ∀ a ∈ W, a ∈ owns ρ
theorem PE.imp {X : Cx} {e : Expr} {t t' : TE} (h : PE X e t) (i : ∀ σ H Q, t' σ H Q → t σ H Q) : PE X e t' := ⟨fun pins s σ H Q I q => h.run pins s σ H Q I (i σ H Q q)⟩
theorem PT.imp {X : Cx} {e : Expr} {t t' : TT} (h : PT X e t) (i : ∀ σ H Q, t' σ H Q → t σ H Q) : PT X e t' := ⟨fun pins s σ H Q I q => h.run pins s σ H Q I (i σ H Q q)⟩
theorem PS.imp {X : Cx} {e : Stmt} {t t' : TS} (h : PS X e t) (i : ∀ D σ H, t' D σ H → t D σ H) : PS X e t' := ⟨fun pins s σ H D I q => h.run pins s σ H D I (i D σ H q)⟩
theorem PSs.imp {X : Cx} {e : List Stmt} {t t' : TS} (h : PSs X e t) (i : ∀ D σ H, t' D σ H → t D σ H) : PSs X e t' := ⟨fun pins s σ H D I q => h.run pins s σ H D I (i D σ H q)⟩
end Dv

set_option maxRecDepth 100000
namespace Dv
open PySem PySem.Spec PyProof.Rows L2
section
variable {X : Cx} {T : List Addr} {B : Bs} {ρ ρ1 ρ2 ρ3 : Sl} {W W1 W2 W3 : List Addr} {e a b c : Expr} {d d1 d2 d3 : D} {pos : Pos}

/-! ### reading now: v is d at the heap as it stands (an owned thing may be read so) -/
def TDr (K : PySem.W.Frag) (T : List Addr) (B : Bs) (ρ : Sl) (W : List Addr) (ρ' : Sl) (d : D) : TE := fun σ H Q =>
  Sim K T B ρ σ H ∧ ∀ v H', Sim K T B ρ' σ H' → Fx W H H' → Rp K H' v d → Q v H'
structure ER (X : Cx) (T : List Addr) (B : Bs) (ρ : Sl) (e : Expr) (W : List Addr) (ρ' : Sl) (d : D) : Prop where
  run : PE X e (TDr X.K T B ρ W ρ' d)
  own : owns ρ' = owns ρ
  sub : ∀ a ∈ W, a ∈ owns ρ
theorem EX.r (h : EX X T B ρ e W ρ1 d) : ER X T B ρ e W ρ1 d := ⟨PE.imp h.run fun σ H Q ⟨S, q⟩ => ⟨S, fun v H' S' f r => q v H' S' f (r.mono (Kp.ofmsk _ _))⟩, h.own, h.sub⟩

theorem all_of (h : owns ρ1 = owns ρ) : B.all ρ1 = B.all ρ := by show B.out ++ owns ρ1 = B.out ++ owns ρ; rw [h]
/-- what was known of a value is carried over the next expression -/
theorem carry {K : PySem.W.Frag} {H1 H2 : Hp} {x : V} (h : EX X T B ρ1 b W2 ρ2 d2) (f : Fx W2 H1 H2) (r : Rp K (msk (B.all ρ1) H1) x d) : Rp K (msk (B.all ρ2) H2) x d := by
  rw [all_of h.own]
  exact r.mono (f.kp fun a z => List.mem_append_right _ (h.sub a z))
theorem carryA {K : PySem.W.Frag} {H1 H2 : Hp} {xs : List V} {ds : List D} (ho : owns ρ2 = owns ρ1) (hs : ∀ a ∈ W2, a ∈ owns ρ1) (f : Fx W2 H1 H2) (r : RpA K (msk (B.all ρ1) H1) xs ds) : RpA K (msk (B.all ρ2) H2) xs ds := by
  rw [all_of ho]
  exact r.mono (f.kp fun a z => List.mem_append_right _ (hs a z))
theorem sub_app (h1 : ∀ a ∈ W1, a ∈ owns ρ) (ho : owns ρ1 = owns ρ) (h2 : ∀ a ∈ W2, a ∈ owns ρ1) : ∀ a ∈ W1 ++ W2, a ∈ owns ρ := fun a z => by
  rcases List.mem_append.mp z with z | z
  · exact h1 a z
  · rw [← ho]; exact h2 a z
theorem sub_nil : ∀ a ∈ ([] : List Addr), a ∈ owns ρ := fun a z => by cases z
/-- a fresh address is masked by nothing -/
theorem msk_new {K : PySem.W.Frag} {σ : L2.St} {H : Hp} {p : Addr} {o : HO} (S : Sim K T B ρ σ H) (h : H p = none) : msk (B.all ρ) (upd H p o) p = some o := by
  rw [msk_out (S.free h), upd_same]
theorem kp_new {H : Hp} {p : Addr} {o : HO} {O : List Addr} (h : H p = none) : Kp (msk O H) (msk O (upd H p o)) := fun a u n e => by
  obtain ⟨q, e⟩ := msk_some e
  rw [msk_out q, upd_ne (ne_of_none e h)]; exact e

/-! ### names and constants -/
theorem slot_of {K : PySem.W.Frag} {σ : L2.St} {H : Hp} {i : Nat} {v : V} (h : (σ[i]?).join = some v) : σ[i]? = some (some v) := by
  cases q : σ[i]? with
  | none => rw [q] at h; cases h
  | some o => rw [q] at h; exact congrArg some h
theorem ex_name {i : Nat} {x : Str} (hs : ρ[i]? = some (.dat d)) (hN : X.N[i]? = some x) (hv : Vis X.env.scope x) (hd : (x == ("__debug__" : Str)) = false := by decide) (hcd : (x == ("__classdict__" : Str)) = false := by decide) :
    EX X T B ρ (.Name x pos) [] ρ d := ⟨PE.imp (pe_var hN hv hd hcd) fun σ H Q ⟨S, q⟩ => by
      obtain ⟨v, q1, q2⟩ := S.at_ i _ hs
      exact ⟨v, slot_of (K := X.K) (H := H) q1, q v H S (Fx.refl _ _) q2⟩, rfl, sub_nil⟩
/-- an owned thing, read -/
theorem er_own {i : Nat} {x : Str} {l : Addr} (hs : ρ[i]? = some (.own l d)) (hN : X.N[i]? = some x) (hv : Vis X.env.scope x) (hd : (x == ("__debug__" : Str)) = false := by decide) (hcd : (x == ("__classdict__" : Str)) = false := by decide) :
    ER X T B ρ (.Name x pos) [] ρ d := ⟨PE.imp (pe_var hN hv hd hcd) fun σ H Q ⟨S, q⟩ => by
      obtain ⟨q1, q2⟩ := S.at_ i _ hs
      refine ⟨.ref l, slot_of (K := X.K) (H := H) q1, q (.ref l) H S (Fx.refl _ _) ?_⟩
      cases d with
      | list ds => obtain ⟨xs, e, r⟩ := q2; exact .lst (SqL.of e) (r.mono (Kp.ofmsk _ _))
      | dict ds =>
        rcases q2 with ⟨kvs, e, r⟩ | ⟨n, kvs, e, r⟩
        · exact .dk e (r.mono (Kp.ofmsk _ _))
        · exact .dt n e (r.mono (Kp.ofmsk _ _))
      | _ => exact q2.elim, rfl, sub_nil⟩
theorem ex_c {v : V} (h : PE X e (tC v)) (r : ∀ H, Rp X.K H v d) : EX X T B ρ e [] ρ d := ⟨PE.imp h fun σ H Q ⟨S, q⟩ => q v H S (Fx.refl _ _) (r _), rfl, sub_nil⟩
theorem ex_int {i : Int} {j} : EX X T B ρ (.Constant (.int i) j pos) [] ρ (.int i) := ex_c pe_int fun _ => .int i
theorem ex_bl {i : Bool} {j} : EX X T B ρ (.Constant (.bool i) j pos) [] ρ (.bool i) := ex_c pe_bl fun _ => .bl i
theorem ex_non {j} : EX X T B ρ (.Constant .none j pos) [] ρ .none := ex_c pe_non fun _ => .non
theorem ex_str {x : Str} {j} : EX X T B ρ (.Constant (.str x) j pos) [] ρ (.str x) := ex_c pe_str fun _ => .str x

/-! ### two operands -/
/-- both are known when the operator comes; stable -/
structure E2 (X : Cx) (T : List Addr) (B : Bs) (ρ : Sl) (a b : Expr) (W : List Addr) (ρ' : Sl) (d1 d2 : D) : Prop where
  run : ∃ ta tb, PE X a ta ∧ PE X b tb ∧ ∀ σ H (R : V → V → Hp → Prop), Sim X.K T B ρ σ H → (∀ x y H', Sim X.K T B ρ' σ H' → Fx W H H' → Rp X.K (msk (B.all ρ') H') x d1 → Rp X.K (msk (B.all ρ') H') y d2 → R x y H') →
    ta σ H fun x H1 => tb σ H1 fun y H2 => R x y H2
  own : owns ρ' = owns ρ
  sub : ∀ a ∈ W, a ∈ owns ρ
/-- .. for now -/
structure R2 (X : Cx) (T : List Addr) (B : Bs) (ρ : Sl) (a b : Expr) (W : List Addr) (ρ' : Sl) (d1 d2 : D) : Prop where
  run : ∃ ta tb, PE X a ta ∧ PE X b tb ∧ ∀ σ H (R : V → V → Hp → Prop), Sim X.K T B ρ σ H → (∀ x y H', Sim X.K T B ρ' σ H' → Fx W H H' → Rp X.K H' x d1 → Rp X.K H' y d2 → R x y H') →
    ta σ H fun x H1 => tb σ H1 fun y H2 => R x y H2
  own : owns ρ' = owns ρ
  sub : ∀ a ∈ W, a ∈ owns ρ
theorem e2 (ha : EX X T B ρ a W1 ρ1 d1) (hb : EX X T B ρ1 b W2 ρ2 d2) : E2 X T B ρ a b (W1 ++ W2) ρ2 d1 d2 :=
  ⟨⟨_, _, ha.run, hb.run, fun σ H R S q => ⟨S, fun x H1 S1 f1 r1 => ⟨S1, fun y H2 S2 f2 r2 => q x y H2 S2 (f1.trans f2) (carry hb f2 r1) r2⟩⟩⟩, hb.own.trans ha.own, sub_app ha.sub ha.own hb.sub⟩
theorem E2.r (h : E2 X T B ρ a b W ρ1 d1 d2) : R2 X T B ρ a b W ρ1 d1 d2 := by
  obtain ⟨ta, tb, ha, hb, q⟩ := h.run
  exact ⟨⟨ta, tb, ha, hb, fun σ H R S k => q σ H R S fun x y H' S' f r1 r2 => k x y H' S' f (r1.mono (Kp.ofmsk _ _)) (r2.mono (Kp.ofmsk _ _))⟩, h.own, h.sub⟩
theorem r2 (ha : EX X T B ρ a W1 ρ1 d1) (hb : EX X T B ρ1 b W2 ρ2 d2) : R2 X T B ρ a b (W1 ++ W2) ρ2 d1 d2 := (e2 ha hb).r
/-- the second writes nothing -/
theorem r2n (ha : ER X T B ρ a W ρ1 d1) (hb : ER X T B ρ1 b [] ρ2 d2) : R2 X T B ρ a b W ρ2 d1 d2 :=
  ⟨⟨_, _, ha.run, hb.run, fun σ H R S q => ⟨S, fun x H1 S1 f1 r1 => ⟨S1, fun y H2 S2 f2 r2 => q x y H2 S2 ((f1.trans f2).mono fun a z => by simpa using z) (r1.mono f2.kpN) r2⟩⟩⟩, hb.own.trans ha.own, ha.sub⟩

/-- an operator whose answer needs no heap -/
theorem ex_op {op : Operator} {r : L2.R2} {v : V} (ho : OpR X (binaryOp op) r) (h : R2 X T B ρ a b W ρ1 d1 d2) (k : ∀ x y H Q, Rp X.K H x d1 → Rp X.K H y d2 → Q v H → r x y H Q) (rd : ∀ H, Rp X.K H v d) : EX X T B ρ (.BinOp a op b pos) W ρ1 d := by
  obtain ⟨ta, tb, ha, hb, q⟩ := h.run
  refine ⟨PE.imp (pe_op ho ha hb) fun σ H Q ⟨S, z⟩ => q σ H _ S fun x y H' S' f r1 r2 => k x y H' Q r1 r2 (z v H' S' f (rd _)), h.own, h.sub⟩
theorem int_of {K : PySem.W.Frag} {H : Hp} {x : V} {i : Int} (r : Rp K H x (.int i)) : x = .int i := by cases r; rfl
theorem str_of {K : PySem.W.Frag} {H : Hp} {x : V} {i : Str} (r : Rp K H x (.str i)) : x = .str i := by cases r; rfl
theorem bl_of {K : PySem.W.Frag} {H : Hp} {x : V} {i : Bool} (r : Rp K H x (.bool i)) : x = .bl i := by cases r; rfl
theorem non_of {K : PySem.W.Frag} {H : Hp} {x : V} (r : Rp K H x .none) : x = .non := by cases r; rfl
variable {i j : Int}
theorem ex_add (ha : EX X T B ρ a W1 ρ1 (.int i)) (hb : EX X T B ρ1 b W2 ρ2 (.int j)) : EX X T B ρ (.BinOp a .Add b pos) (W1 ++ W2) ρ2 (.int (i + j)) :=
  ex_op op_add (r2 ha hb) (fun x y H Q r1 r2 q => ⟨i, j, int_of r1, int_of r2, q⟩) fun _ => .int _
theorem ex_sub (ha : EX X T B ρ a W1 ρ1 (.int i)) (hb : EX X T B ρ1 b W2 ρ2 (.int j)) : EX X T B ρ (.BinOp a .Sub b pos) (W1 ++ W2) ρ2 (.int (i - j)) :=
  ex_op op_sub (r2 ha hb) (fun x y H Q r1 r2 q => ⟨i, j, int_of r1, int_of r2, q⟩) fun _ => .int _
theorem ex_mul (ha : EX X T B ρ a W1 ρ1 (.int i)) (hb : EX X T B ρ1 b W2 ρ2 (.int j)) (hc : CMul i j) : EX X T B ρ (.BinOp a .Mult b pos) (W1 ++ W2) ρ2 (.int (i * j)) :=
  ex_op op_mul (r2 ha hb) (fun x y H Q r1 r2 q => ⟨i, j, int_of r1, int_of r2, hc, q⟩) fun _ => .int _
theorem ex_fdiv (ha : EX X T B ρ a W1 ρ1 (.int i)) (hb : EX X T B ρ1 b W2 ρ2 (.int j)) (hc : CDiv i j) : EX X T B ρ (.BinOp a .FloorDiv b pos) (W1 ++ W2) ρ2 (.int (i / j)) :=
  ex_op op_fdiv (r2 ha hb) (fun x y H Q r1 r2 q => ⟨i, j, int_of r1, int_of r2, hc, q⟩) fun _ => .int _
theorem ex_mod (ha : EX X T B ρ a W1 ρ1 (.int i)) (hb : EX X T B ρ1 b W2 ρ2 (.int j)) (hc : 0 < j) : EX X T B ρ (.BinOp a .Mod b pos) (W1 ++ W2) ρ2 (.int (i % j)) :=
  ex_op op_mod (r2 ha hb) (fun x y H Q r1 r2 q => ⟨i, j, int_of r1, int_of r2, hc, q⟩) fun _ => .int _
theorem ex_pow (ha : EX X T B ρ a W1 ρ1 (.int i)) (hb : EX X T B ρ1 b W2 ρ2 (.int j)) (hc : CPow i j) : EX X T B ρ (.BinOp a .Pow b pos) (W1 ++ W2) ρ2 (.int (i ^ j.toNat)) :=
  ex_op op_pow (r2 ha hb) (fun x y H Q r1 r2 q => ⟨i, j, int_of r1, int_of r2, hc, q⟩) fun _ => .int _
theorem ex_addS {i j : Str} (ha : EX X T B ρ a W1 ρ1 (.str i)) (hb : EX X T B ρ1 b W2 ρ2 (.str j)) (hc : i.length + j.length ≤ sizeLine) : EX X T B ρ (.BinOp a .Add b pos) (W1 ++ W2) ρ2 (.str (i ++ j)) :=
  ex_op op_add_str (r2 ha hb) (fun x y H Q r1 r2 q => ⟨i, j, str_of r1, str_of r2, hc, q⟩) fun _ => .str _
theorem ex_neg (ha : EX X T B ρ a W1 ρ1 (.int i)) : EX X T B ρ (.UnaryOp .USub a pos) W1 ρ1 (.int (-i)) :=
  ⟨PE.imp (pe_un un_neg ha.run) fun σ H Q ⟨S, q⟩ => ⟨S, fun x H1 S1 f1 r1 => ⟨i, int_of r1, q _ H1 S1 f1 (.int _)⟩⟩, ha.own, ha.sub⟩

/-! ### comparisons -/
theorem ex_cmp {op : CmpOp} {r : L2.R2} {v : V} (ho : OpR X (compareOp op) r) (h : R2 X T B ρ a b W ρ1 d1 d2) (hm : behindInMarks op b = false) (k : ∀ x y H Q, Rp X.K H x d1 → Rp X.K H y d2 → Q v H → r x y H Q) (rd : ∀ H, Rp X.K H v d) :
    EX X T B ρ (.Compare a [op] [b] pos) W ρ1 d := by
  obtain ⟨ta, tb, ha, hb, q⟩ := h.run
  refine ⟨PE.imp (pe_cmpR ho ha hb hm) fun σ H Q ⟨S, z⟩ => q σ H _ S fun x y H' S' f r1 r2 => k x y H' Q r1 r2 (z v H' S' f (rd _)), h.own, h.sub⟩
theorem ex_lt (h : R2 X T B ρ a b W ρ1 (.int i) (.int j)) : EX X T B ρ (.Compare a [.Lt] [b] pos) W ρ1 (.bool (decide (i < j))) :=
  ex_cmp op_lt h (nomark _) (fun x y H Q r1 r2 q => ⟨i, j, int_of r1, int_of r2, q⟩) fun _ => .bl _
theorem ex_le (h : R2 X T B ρ a b W ρ1 (.int i) (.int j)) : EX X T B ρ (.Compare a [.LtE] [b] pos) W ρ1 (.bool (decide (i ≤ j))) :=
  ex_cmp op_le h (nomark _) (fun x y H Q r1 r2 q => ⟨i, j, int_of r1, int_of r2, q⟩) fun _ => .bl _
theorem ex_gt (h : R2 X T B ρ a b W ρ1 (.int i) (.int j)) : EX X T B ρ (.Compare a [.Gt] [b] pos) W ρ1 (.bool (decide (j < i))) :=
  ex_cmp op_gt h (nomark _) (fun x y H Q r1 r2 q => ⟨i, j, int_of r1, int_of r2, q⟩) fun _ => .bl _
theorem ex_ge (h : R2 X T B ρ a b W ρ1 (.int i) (.int j)) : EX X T B ρ (.Compare a [.GtE] [b] pos) W ρ1 (.bool (decide (j ≤ i))) :=
  ex_cmp op_ge h (nomark _) (fun x y H Q r1 r2 q => ⟨i, j, int_of r1, int_of r2, q⟩) fun _ => .bl _
/-- equality of data without dicts -/
def fine (d : D) : Bool := plain d && SeqAt.shaped d
theorem fine_of (h : fine d = true) : plain d = true ∧ SeqAt.shaped d = true := Bool.and_eq_true_iff.mp h
theorem ex_eq (hu : X.A.units + 64 < cLine) (h : R2 X T B ρ a b W ρ1 d1 d2) (h1 : fine d1 = true) (h2 : fine d2 = true) : EX X T B ρ (.Compare a [.Eq] [b] pos) W ρ1 (.bool (PyData.eqv d1 d2)) :=
  ex_cmp (op_eqD hu) h (nomark _) (fun x y H Q r1 r2 q => ⟨d1, d2, r1.dp (fine_of h1).1, r2.dp (fine_of h2).1, (fine_of h1).2, (fine_of h2).2, q⟩) fun _ => .bl _
theorem ex_ne (hu : X.A.units + 64 < cLine) (h : R2 X T B ρ a b W ρ1 d1 d2) (h1 : fine d1 = true) (h2 : fine d2 = true) : EX X T B ρ (.Compare a [.NotEq] [b] pos) W ρ1 (.bool (!PyData.eqv d1 d2)) :=
  ex_cmp (op_neD hu) h (nomark _) (fun x y H Q r1 r2 q => ⟨d1, d2, r1.dp (fine_of h1).1, r2.dp (fine_of h2).1, (fine_of h1).2, (fine_of h2).2, q⟩) fun _ => .bl _
/-- .. of ints -/
theorem ex_eqI (h : R2 X T B ρ a b W ρ1 (.int i) (.int j)) : EX X T B ρ (.Compare a [.Eq] [b] pos) W ρ1 (.bool (decide (i = j))) :=
  ex_cmp op_eq h (nomark _) (fun x y H Q r1 r2 q => by rw [int_of r1, int_of r2]; exact ⟨rfl, by simpa using q⟩) fun _ => .bl _
theorem ex_neI (h : R2 X T B ρ a b W ρ1 (.int i) (.int j)) : EX X T B ρ (.Compare a [.NotEq] [b] pos) W ρ1 (.bool (!decide (i = j))) :=
  ex_cmp op_ne h (nomark _) (fun x y H Q r1 r2 q => by rw [int_of r1, int_of r2]; exact ⟨rfl, by simpa using q⟩) fun _ => .bl _
theorem ex_eqS {i j : Str} (h : R2 X T B ρ a b W ρ1 (.str i) (.str j)) : EX X T B ρ (.Compare a [.Eq] [b] pos) W ρ1 (.bool (decide (i = j))) :=
  ex_cmp op_eq h (nomark _) (fun x y H Q r1 r2 q => by rw [str_of r1, str_of r2]; exact ⟨rfl, by simpa using q⟩) fun _ => .bl _
theorem ex_neS {i j : Str} (h : R2 X T B ρ a b W ρ1 (.str i) (.str j)) : EX X T B ρ (.Compare a [.NotEq] [b] pos) W ρ1 (.bool (!decide (i = j))) :=
  ex_cmp op_ne h (nomark _) (fun x y H Q r1 r2 q => by rw [str_of r1, str_of r2]; exact ⟨rfl, by simpa using q⟩) fun _ => .bl _
theorem ex_eqB {i j : Bool} (h : R2 X T B ρ a b W ρ1 (.bool i) (.bool j)) : EX X T B ρ (.Compare a [.Eq] [b] pos) W ρ1 (.bool (decide (i = j))) :=
  ex_cmp op_eq h (nomark _) (fun x y H Q r1 r2 q => by rw [bl_of r1, bl_of r2]; exact ⟨rfl, by simpa using q⟩) fun _ => .bl _
theorem ex_neB {i j : Bool} (h : R2 X T B ρ a b W ρ1 (.bool i) (.bool j)) : EX X T B ρ (.Compare a [.NotEq] [b] pos) W ρ1 (.bool (!decide (i = j))) :=
  ex_cmp op_ne h (nomark _) (fun x y H Q r1 r2 q => by rw [bl_of r1, bl_of r2]; exact ⟨rfl, by simpa using q⟩) fun _ => .bl _
theorem ex_isB {i j : Bool} (h : R2 X T B ρ a b W ρ1 (.bool i) (.bool j)) : EX X T B ρ (.Compare a [.Is] [b] pos) W ρ1 (.bool (decide (i = j))) :=
  ex_cmp op_isBl h (nomark _) (fun x y H Q r1 r2 q => ⟨i, j, bl_of r1, bl_of r2, q⟩) fun _ => .bl _
theorem ex_isNotB {i j : Bool} (h : R2 X T B ρ a b W ρ1 (.bool i) (.bool j)) : EX X T B ρ (.Compare a [.IsNot] [b] pos) W ρ1 (.bool (!decide (i = j))) :=
  ex_cmp op_notBl h (nomark _) (fun x y H Q r1 r2 q => ⟨i, j, bl_of r1, bl_of r2, q⟩) fun _ => .bl _

/-! ### tests -/
def TTd (K : PySem.W.Frag) (T : List Addr) (B : Bs) (ρ : Sl) (W : List Addr) (ρ' : Sl) (k : Bool) : TT := fun σ H Q =>
  Sim K T B ρ σ H ∧ ∀ H', Sim K T B ρ' σ H' → Fx W H H' → Q k H'
structure TX (X : Cx) (T : List Addr) (B : Bs) (ρ : Sl) (e : Expr) (W : List Addr) (ρ' : Sl) (k : Bool) : Prop where
  run : PT X e (TTd X.K T B ρ W ρ' k)
  own : owns ρ' = owns ρ
  sub : ∀ a ∈ W, a ∈ owns ρ
structure WX (X : Cx) (T : List Addr) (B : Bs) (ρ : Sl) (e : Expr) (W : List Addr) (ρ' : Sl) (k : Bool) : Prop where
  run : PW X e (TTd X.K T B ρ W ρ' k)
  own : owns ρ' = owns ρ
  sub : ∀ a ∈ W, a ∈ owns ρ
theorem PW.imp {X : Cx} {e : Expr} {t t' : TT} (h : PW X e t) (i : ∀ σ H Q, t' σ H Q → t σ H Q) : PW X e t' := ⟨fun w pins s σ H Q I q => h.run w pins s σ H Q I (i σ H Q q)⟩
theorem WX.t {k : Bool} (h : WX X T B ρ e W ρ1 k) : TX X T B ρ e W ρ1 k := ⟨h.run.pt, h.own, h.sub⟩
variable {k k1 k2 : Bool}
theorem tx_of (h : EX X T B ρ e W ρ1 (.bool k)) (hp : PT X e (tB (TD X.K T B ρ W ρ1 (.bool k)))) : TX X T B ρ e W ρ1 k :=
  ⟨PT.imp hp fun σ H Q ⟨S, q⟩ => ⟨S, fun v H' S' f r => ⟨k, bl_of r, q H' S' f⟩⟩, h.own, h.sub⟩
/-- a comparison as a test -/
theorem tx_cmp {op : CmpOp} {r : L2.R2} (ho : OpR X (compareOp op) r) (h : R2 X T B ρ a b W ρ1 d1 d2) (hm : behindInMarks op b = false) (kk : ∀ x y H Q, Rp X.K H x d1 → Rp X.K H y d2 → Q (V.bl k) H → r x y H Q) :
    TX X T B ρ (.Compare a [op] [b] pos) W ρ1 k := by
  obtain ⟨ta, tb, ha, hb, q⟩ := h.run
  refine ⟨PT.imp (pt_cmpR ho ha hb hm) fun σ H Q ⟨S, z⟩ => q σ H _ S fun x y H' S' f r1 r2 => kk x y H' _ r1 r2 ⟨k, rfl, z H' S' f⟩, h.own, h.sub⟩
theorem tx_lt (h : R2 X T B ρ a b W ρ1 (.int i) (.int j)) : TX X T B ρ (.Compare a [.Lt] [b] pos) W ρ1 (decide (i < j)) := tx_cmp op_lt h (nomark _) (fun x y H Q r1 r2 q => ⟨i, j, int_of r1, int_of r2, q⟩)
theorem tx_le (h : R2 X T B ρ a b W ρ1 (.int i) (.int j)) : TX X T B ρ (.Compare a [.LtE] [b] pos) W ρ1 (decide (i ≤ j)) := tx_cmp op_le h (nomark _) (fun x y H Q r1 r2 q => ⟨i, j, int_of r1, int_of r2, q⟩)
theorem tx_gt (h : R2 X T B ρ a b W ρ1 (.int i) (.int j)) : TX X T B ρ (.Compare a [.Gt] [b] pos) W ρ1 (decide (j < i)) := tx_cmp op_gt h (nomark _) (fun x y H Q r1 r2 q => ⟨i, j, int_of r1, int_of r2, q⟩)
theorem tx_ge (h : R2 X T B ρ a b W ρ1 (.int i) (.int j)) : TX X T B ρ (.Compare a [.GtE] [b] pos) W ρ1 (decide (j ≤ i)) := tx_cmp op_ge h (nomark _) (fun x y H Q r1 r2 q => ⟨i, j, int_of r1, int_of r2, q⟩)
theorem tx_eq (hu : X.A.units + 64 < cLine) (h : R2 X T B ρ a b W ρ1 d1 d2) (h1 : fine d1 = true) (h2 : fine d2 = true) : TX X T B ρ (.Compare a [.Eq] [b] pos) W ρ1 (PyData.eqv d1 d2) :=
  tx_cmp (op_eqD hu) h (nomark _) (fun x y H Q r1 r2 q => ⟨d1, d2, r1.dp (fine_of h1).1, r2.dp (fine_of h2).1, (fine_of h1).2, (fine_of h2).2, q⟩)
theorem tx_ne (hu : X.A.units + 64 < cLine) (h : R2 X T B ρ a b W ρ1 d1 d2) (h1 : fine d1 = true) (h2 : fine d2 = true) : TX X T B ρ (.Compare a [.NotEq] [b] pos) W ρ1 (!PyData.eqv d1 d2) :=
  tx_cmp (op_neD hu) h (nomark _) (fun x y H Q r1 r2 q => ⟨d1, d2, r1.dp (fine_of h1).1, r2.dp (fine_of h2).1, (fine_of h1).2, (fine_of h2).2, q⟩)
theorem tx_eqI (h : R2 X T B ρ a b W ρ1 (.int i) (.int j)) : TX X T B ρ (.Compare a [.Eq] [b] pos) W ρ1 (decide (i = j)) := tx_cmp op_eq h (nomark _) (fun x y H Q r1 r2 q => by rw [int_of r1, int_of r2]; exact ⟨rfl, by simpa using q⟩)
theorem tx_neI (h : R2 X T B ρ a b W ρ1 (.int i) (.int j)) : TX X T B ρ (.Compare a [.NotEq] [b] pos) W ρ1 (!decide (i = j)) := tx_cmp op_ne h (nomark _) (fun x y H Q r1 r2 q => by rw [int_of r1, int_of r2]; exact ⟨rfl, by simpa using q⟩)
theorem tx_eqS {i j : Str} (h : R2 X T B ρ a b W ρ1 (.str i) (.str j)) : TX X T B ρ (.Compare a [.Eq] [b] pos) W ρ1 (decide (i = j)) := tx_cmp op_eq h (nomark _) (fun x y H Q r1 r2 q => by rw [str_of r1, str_of r2]; exact ⟨rfl, by simpa using q⟩)
theorem tx_neS {i j : Str} (h : R2 X T B ρ a b W ρ1 (.str i) (.str j)) : TX X T B ρ (.Compare a [.NotEq] [b] pos) W ρ1 (!decide (i = j)) := tx_cmp op_ne h (nomark _) (fun x y H Q r1 r2 q => by rw [str_of r1, str_of r2]; exact ⟨rfl, by simpa using q⟩)
theorem tx_eqB {i j : Bool} (h : R2 X T B ρ a b W ρ1 (.bool i) (.bool j)) : TX X T B ρ (.Compare a [.Eq] [b] pos) W ρ1 (decide (i = j)) := tx_cmp op_eq h (nomark _) (fun x y H Q r1 r2 q => by rw [bl_of r1, bl_of r2]; exact ⟨rfl, by simpa using q⟩)
theorem tx_neB {i j : Bool} (h : R2 X T B ρ a b W ρ1 (.bool i) (.bool j)) : TX X T B ρ (.Compare a [.NotEq] [b] pos) W ρ1 (!decide (i = j)) := tx_cmp op_ne h (nomark _) (fun x y H Q r1 r2 q => by rw [bl_of r1, bl_of r2]; exact ⟨rfl, by simpa using q⟩)
/-- the truth of a bool: a name, a call -/
theorem tx_val (h : EX X T B ρ e W ρ1 (.bool k)) (he : ∀ whole, isTrue e X.env whole = (do let v ← whole; standAt e.pos; holding [v] (truthy v))) : TX X T B ρ e W ρ1 k :=
  ⟨PT.imp (pt_truth h.run he) fun σ H Q ⟨S, q⟩ => ⟨S, fun v H' S' f r => ⟨k, by rw [bl_of r]; exact rfl, q H' S' f⟩⟩, h.own, h.sub⟩
theorem tx_not (h : TX X T B ρ a W ρ1 k) : TX X T B ρ (.UnaryOp .Not a pos) W ρ1 (!k) := ⟨PT.imp (pt_not h.run) fun σ H Q ⟨S, q⟩ => ⟨S, fun H' S' f => q H' S' f⟩, h.own, h.sub⟩
theorem wx_and1 (h : TX X T B ρ a W ρ1 k) : WX X T B ρ (.BoolOp .And [a] pos) W ρ1 k := ⟨pw_and1 h.run, h.own, h.sub⟩
theorem wx_or1 (h : TX X T B ρ a W ρ1 k) : WX X T B ρ (.BoolOp .Or [a] pos) W ρ1 k := ⟨pw_or1 h.run, h.own, h.sub⟩
/-- a rule that holds where g does -/
theorem PW.guard {X : Cx} {e : Expr} {t : TT} {g : Prop} (h : g → PW X e t) : PW X e (fun σ H Q => g ∧ t σ H Q) := ⟨fun w pins s σ H Q I q => (h q.1).run w pins s σ H Q I q.2⟩
theorem PT.guard {X : Cx} {e : Expr} {t : TT} {g : Prop} (h : g → PT X e t) : PT X e (fun σ H Q => g ∧ t σ H Q) := ⟨fun pins s σ H Q I q => (h q.1).run pins s σ H Q I q.2⟩
theorem PE.guard {X : Cx} {e : Expr} {t : TE} {g : Prop} (h : g → PE X e t) : PE X e (fun σ H Q => g ∧ t σ H Q) := ⟨fun pins s σ H Q I q => (h q.1).run pins s σ H Q I q.2⟩
theorem PSs.guard {X : Cx} {e : List Stmt} {t : TS} {g : Prop} (h : g → PSs X e t) : PSs X e (fun D σ H => g ∧ t D σ H) := ⟨fun pins s σ H Q I q => (h q.1).run pins s σ H Q I q.2⟩
theorem app_nil (f : ∀ {H H1 H2 : Hp}, Fx W H H1 → Fx [] H1 H2 → Fx W H H2) : True := trivial
theorem Fx.transN {H H1 H2 : Hp} (f : Fx W H H1) (g : Fx [] H1 H2) : Fx W H H2 := (f.trans g).mono fun a z => by simpa using z
theorem wx_and {r : List Expr} (h : TX X T B ρ a W ρ1 k1) (hb : k1 = true → WX X T B ρ1 (.BoolOp .And (b :: r) pos) [] ρ1 k2) : WX X T B ρ (.BoolOp .And (a :: b :: r) pos) W ρ1 (k1 && k2) := by
  refine ⟨PW.imp (pw_and h.run (PW.guard (g := k1 = true) fun z => (hb z).run)) fun σ H Q ⟨S, z⟩ => ⟨S, fun H' S' f => ?_⟩, h.own, h.sub⟩
  show (if k1 = true then _ else Q false H')
  cases k1 with
  | true =>
    rw [if_pos rfl]
    exact ⟨rfl, S', fun H2 S2 f2 => by simpa using z H2 S2 (f.transN f2)⟩
  | false =>
    rw [if_neg Bool.false_ne_true]
    exact z H' S' f
theorem wx_or {r : List Expr} (h : TX X T B ρ a W ρ1 k1) (hb : k1 = false → WX X T B ρ1 (.BoolOp .Or (b :: r) pos) [] ρ1 k2) : WX X T B ρ (.BoolOp .Or (a :: b :: r) pos) W ρ1 (k1 || k2) := by
  refine ⟨PW.imp (pw_or h.run (PW.guard (g := k1 = false) fun z => (hb z).run)) fun σ H Q ⟨S, z⟩ => ⟨S, fun H' S' f => ?_⟩, h.own, h.sub⟩
  show (if k1 = true then Q true H' else _)
  cases k1 with
  | true =>
    rw [if_pos rfl]
    exact z H' S' f
  | false =>
    rw [if_neg Bool.false_ne_true]
    exact ⟨rfl, S', fun H2 S2 f2 => by simpa using z H2 S2 (f.transN f2)⟩
/-- and, or, not as values -/
theorem ex_one {op} (h : EX X T B ρ a W ρ1 d) : EX X T B ρ (.BoolOp op [a] pos) W ρ1 d := ⟨pe_one h.run, h.own, h.sub⟩
theorem ex_and {r : List Expr} (h : EX X T B ρ a W ρ1 (.bool k1)) (hb : k1 = true → EX X T B ρ1 (.BoolOp .And (b :: r) pos) [] ρ1 (.bool k2)) : EX X T B ρ (.BoolOp .And (a :: b :: r) pos) W ρ1 (.bool (k1 && k2)) := by
  refine ⟨PE.imp (pe_and h.run (PE.guard (g := k1 = true) fun z => (hb z).run)) fun σ H Q ⟨S, z⟩ => ⟨S, fun v H' S' f q => ⟨k1, bl_of q, ?_⟩⟩, h.own, h.sub⟩
  cases k1 with
  | true =>
    rw [if_pos rfl]
    exact ⟨rfl, S', fun w H2 S2 f2 r2 => z w H2 S2 (f.transN f2) (by simpa using r2)⟩
  | false =>
    rw [if_neg Bool.false_ne_true]
    exact z _ H' S' f (.bl _)
theorem ex_or {r : List Expr} (h : EX X T B ρ a W ρ1 (.bool k1)) (hb : k1 = false → EX X T B ρ1 (.BoolOp .Or (b :: r) pos) [] ρ1 (.bool k2)) : EX X T B ρ (.BoolOp .Or (a :: b :: r) pos) W ρ1 (.bool (k1 || k2)) := by
  refine ⟨PE.imp (pe_or h.run (PE.guard (g := k1 = false) fun z => (hb z).run)) fun σ H Q ⟨S, z⟩ => ⟨S, fun v H' S' f q => ⟨k1, bl_of q, ?_⟩⟩, h.own, h.sub⟩
  cases k1 with
  | true =>
    rw [if_pos rfl]
    exact z _ H' S' f (.bl _)
  | false =>
    rw [if_neg Bool.false_ne_true]
    exact ⟨rfl, S', fun w H2 S2 f2 r2 => z w H2 S2 (f.transN f2) (by simpa using r2)⟩
theorem ex_not (h : EX X T B ρ a W ρ1 (.bool k)) : EX X T B ρ (.UnaryOp .Not a pos) W ρ1 (.bool (!k)) :=
  ⟨PE.imp (pe_not h.run) fun σ H Q ⟨S, z⟩ => ⟨S, fun v H' S' f q => ⟨k, bl_of q, z _ H' S' f (.bl _)⟩⟩, h.own, h.sub⟩
/-- a if c else b -/
theorem ex_ifE (h : TX X T B ρ c W1 ρ1 k) (ha : k = true → EX X T B ρ1 a W2 ρ2 d) (hb : k = false → EX X T B ρ1 b W2 ρ2 d) (ho : owns ρ2 = owns ρ1) (hs : ∀ a ∈ W2, a ∈ owns ρ1) : EX X T B ρ (.IfExp c a b pos) (W1 ++ W2) ρ2 d := by
  refine ⟨PE.imp (pe_ifExp h.run (PE.guard (g := k = true) fun z => (ha z).run) (PE.guard (g := k = false) fun z => (hb z).run)) fun σ H Q ⟨S, z⟩ => ⟨S, fun H' S' f => ?_⟩, ho.trans h.own, sub_app h.sub h.own hs⟩
  cases k with
  | true =>
    rw [if_pos rfl]
    exact ⟨rfl, S', fun w H2 S2 f2 r2 => z w H2 S2 (f.trans f2) r2⟩
  | false =>
    rw [if_neg Bool.false_ne_true]
    exact ⟨rfl, S', fun w H2 S2 f2 r2 => z w H2 S2 (f.trans f2) r2⟩
/-- the data said otherwise -/
theorem EX.to (h : EX X T B ρ e W ρ1 d) (q : d = d1) : EX X T B ρ e W ρ1 d1 := q ▸ h
theorem TX.to (h : TX X T B ρ e W ρ1 k) (q : k = k1) : TX X T B ρ e W ρ1 k1 := q ▸ h
theorem EX.st (h : EX X T B ρ e W ρ1 d) (q : ρ1 = ρ2) : EX X T B ρ e W ρ2 d := q ▸ h

/-! ### lists, tuples made; arguments -/
structure AX (X : Cx) (T : List Addr) (B : Bs) (ρ : Sl) (es : List Expr) (W : List Addr) (ρ' : Sl) (ds : List D) : Prop where
  run : PA X es (fun σ H Q => Sim X.K T B ρ σ H ∧ ∀ vs H', Sim X.K T B ρ' σ H' → Fx W H H' → RpA X.K (msk (B.all ρ') H') vs ds → Q vs H')
  own : owns ρ' = owns ρ
  sub : ∀ a ∈ W, a ∈ owns ρ
theorem PA.imp {X : Cx} {es : List Expr} {t t' : TA} (h : PA X es t) (i : ∀ σ H Q, t' σ H Q → t σ H Q) : PA X es t' := ⟨fun p pins s σ H Q I q => h.run p pins s σ H Q I (i σ H Q q)⟩
theorem ax_nil : AX X T B ρ [] [] ρ [] := ⟨PA.imp pa_nil fun σ H Q ⟨S, q⟩ => q [] H S (Fx.refl _ _) .nil, rfl, sub_nil⟩
theorem ax_cons {es : List Expr} {ds : List D} (h : EX X T B ρ e W1 ρ1 d) (r : AX X T B ρ1 es W2 ρ2 ds) (hs : starEach (e :: es) X.env = (false, eval e X.env) :: starEach es X.env := by rfl) : AX X T B ρ (e :: es) (W1 ++ W2) ρ2 (d :: ds) :=
  ⟨PA.imp (pa_cons h.run r.run hs) fun σ H Q ⟨S, q⟩ => ⟨S, fun x H1 S1 f1 r1 => ⟨S1, fun vs H2 S2 f2 rs => q _ H2 S2 (f1.trans f2) (.cons (by
    rw [all_of r.own]
    exact r1.mono (f2.kp fun a z => List.mem_append_right _ (r.sub a z))) rs)⟩⟩, r.own.trans h.own, sub_app h.sub h.own r.sub⟩
/-- *e, e a list or a tuple -/
theorem ax_star {es : List Expr} {ds es' : List D} {p : Pos} (h : EX X T B ρ e W1 ρ1 d) (hd : d = .tuple es' ∨ d = .list es') (r : AX X T B ρ1 es W2 ρ2 ds) (hs : starEach (.Starred e p :: es) X.env = (true, eval e X.env) :: starEach es X.env := by rfl) :
    AX X T B ρ (.Starred e p :: es) (W1 ++ W2) ρ2 (es' ++ ds) :=
  ⟨PA.imp (StX.pa_star h.run r.run hs) fun σ H Q ⟨S, q⟩ => ⟨S, fun x H1 S1 f1 r1 => by
    have key : ∃ p xs, x = V.ref p ∧ (SqT X.K H1 p xs ∨ SqL X.K H1 p xs) ∧ RpA X.K (msk (B.all ρ1) H1) xs es' := by
      rcases hd with rfl | rfl
      · cases r1 with
        | tup h1 h2 => exact ⟨_, _, rfl, .inl ((Kp.ofmsk _ _).sqT h1), h2⟩
      · cases r1 with
        | lst h1 h2 => exact ⟨_, _, rfl, .inr ((Kp.ofmsk _ _).sqL h1), h2⟩
    obtain ⟨p, xs, e1, e2, e3⟩ := key
    exact ⟨p, xs, e1, e2, S1, fun vs H2 S2 f2 rs => q _ H2 S2 (f1.trans f2) (RpA.append (carryA r.own r.sub f2 e3) rs)⟩⟩, r.own.trans h.own, sub_app h.sub h.own r.sub⟩
/-- a new tuple -/
theorem ex_tup {es : List Expr} {ds : List D} {x1} (h : AX X T B ρ es W ρ1 ds) (hl : ds.length ≤ sizeLine) : EX X T B ρ (.Tuple es x1 pos) W ρ1 (.tuple ds) :=
  ⟨PE.imp (pe_tup h.run) fun σ H Q ⟨S, q⟩ => ⟨S, fun vs H1 S1 f1 r1 => ⟨by rw [r1.length]; exact hl, fun p np => q _ _ (S1.new np) (f1.transN (Fx.new np)) (.tup (msk_new S1 np) (r1.mono (kp_new np)))⟩⟩, h.own, h.sub⟩
/-- a new list, as data -/
theorem ex_lst {es : List Expr} {ds : List D} (h : AX X T B ρ es W ρ1 ds) (hl : ds.length ≤ sizeLine) : EX X T B ρ (.List es pos) W ρ1 (.list ds) :=
  ⟨PE.imp (pe_lst h.run) fun σ H Q ⟨S, q⟩ => ⟨S, fun vs H1 S1 f1 r1 => ⟨by rw [r1.length]; exact hl, fun p np => q _ _ (S1.new np) (f1.transN (Fx.new np)) (.lst (SqL.of (msk_new S1 np)) (r1.mono (kp_new np)))⟩⟩, h.own, h.sub⟩

/-! ### items -/
/-- the item of data at an index -/
theorem rp_item {K : PySem.W.Frag} {H : Hp} {xs : List V} {ds : List D} {i : Int} (r : RpA K H xs ds) (h : atI ds i = some d) : ∃ v, atI xs i = some v ∧ Rp K H v d := by
  unfold atI at h ⊢
  rw [r.length]
  cases q : ixN ds.length i with
  | none => rw [q] at h; cases h
  | some j =>
    rw [q] at h
    exact r.getD h
theorem ex_ixT {ds : List D} {i : Int} (ha : EX X T B ρ a W1 ρ1 (.tuple ds)) (hb : EX X T B ρ1 b W2 ρ2 (.int i)) (h : atI ds i = some d) (hs : PlainIx b) : EX X T B ρ (.Subscript a b pos) (W1 ++ W2) ρ2 d := by
  refine ⟨PE.imp (pe_ix ix_tup ha.run hb.run hs) fun σ H Q ⟨S, q⟩ => ⟨S, fun x H1 S1 f1 r1 => ⟨S1, fun y H2 S2 f2 r2 => ?_⟩⟩, hb.own.trans ha.own, sub_app ha.sub ha.own hb.sub⟩
  have r1' := carry hb f2 r1
  cases r1' with
  | tup h1 h2 =>
    obtain ⟨v, e1, e2⟩ := rp_item h2 h
    exact ⟨_, _, i, v, rfl, int_of r2, (Kp.ofmsk _ _).sqT h1, e1, q v H2 S2 (f1.trans f2) e2⟩
theorem ex_ixL {ds : List D} {i : Int} (ha : EX X T B ρ a W1 ρ1 (.list ds)) (hb : EX X T B ρ1 b W2 ρ2 (.int i)) (h : atI ds i = some d) (hs : PlainIx b) : EX X T B ρ (.Subscript a b pos) (W1 ++ W2) ρ2 d := by
  refine ⟨PE.imp (pe_ix ix_list ha.run hb.run hs) fun σ H Q ⟨S, q⟩ => ⟨S, fun x H1 S1 f1 r1 => ⟨S1, fun y H2 S2 f2 r2 => ?_⟩⟩, hb.own.trans ha.own, sub_app ha.sub ha.own hb.sub⟩
  have r1' := carry hb f2 r1
  cases r1' with
  | lst h1 h2 =>
    obtain ⟨v, e1, e2⟩ := rp_item h2 h
    exact ⟨_, _, i, v, rfl, int_of r2, (Kp.ofmsk _ _).sqL h1, e1, q v H2 S2 (f1.trans f2) e2⟩
theorem ex_ixS {z : Str} {i : Int} {cc : Nat} (ha : EX X T B ρ a W1 ρ1 (.str z)) (hb : EX X T B ρ1 b W2 ρ2 (.int i)) (hl : z.length ≤ sizeLine) (h : atI z.cps.toList i = some cc) (hs : PlainIx b) : EX X T B ρ (.Subscript a b pos) (W1 ++ W2) ρ2 (.str ⟨#[cc]⟩) := by
  refine ⟨PE.imp (pe_ix ix_str ha.run hb.run hs) fun σ H Q ⟨S, q⟩ => ⟨S, fun x H1 S1 f1 r1 => ⟨S1, fun y H2 S2 f2 r2 => ?_⟩⟩, hb.own.trans ha.own, sub_app ha.sub ha.own hb.sub⟩
  exact ⟨z, i, cc, str_of r1, int_of r2, hl, h, q _ H2 S2 (f1.trans f2) (.str _)⟩
/-- an item of an owned list -/
theorem ex_ixO {ds : List D} {i : Int} {n : Nat} {x : Str} {l : Addr} {px : Pos} (hsl : ρ[n]? = some (.own l (.list ds))) (hN : X.N[n]? = some x) (hv : Vis X.env.scope x) (hb : EX X T B ρ b [] ρ (.int i)) (h : atI ds i = some d) (hs : PlainIx b)
    (hd : (x == ("__debug__" : Str)) = false := by decide) (hcd : (x == ("__classdict__" : Str)) = false := by decide) : EX X T B ρ (.Subscript (.Name x px) b pos) [] ρ d := by
  refine ⟨PE.imp (pe_ix ix_list (pe_var hN hv hd hcd) hb.run hs) fun σ H Q ⟨S, q⟩ => ?_, rfl, sub_nil⟩
  obtain ⟨q1, xs, e, r⟩ := S.at_ n _ hsl
  refine ⟨.ref l, slot_of (K := X.K) (H := H) q1, S, fun y H2 S2 f2 r2 => ?_⟩
  obtain ⟨_, xs2, e2, r22⟩ := S2.at_ n _ hsl
  obtain ⟨v, e3, e4⟩ := rp_item r22 h
  exact ⟨l, xs2, i, v, rfl, int_of r2, SqL.of e2, e3, q v H2 S2 f2 e4⟩
end
end Dv

set_option maxRecDepth 100000
namespace Dv
open PySem PySem.Spec PyProof.Rows L2

/-! ### forgetting -/
/-- ρ' tells less than ρ -/
inductive Fg : Sl → Sl → Prop
  | nil : Fg [] []
  | same {s : Slot} {r r' : Sl} : Fg r r' → Fg (s :: r) (s :: r')
  | un {s : Slot} {r r' : Sl} : Fg r r' → Fg (s :: r) (.un :: r')
theorem Fg.refl : ∀ ρ : Sl, Fg ρ ρ
  | [] => .nil
  | _ :: r => .same (Fg.refl r)
theorem Fg.length : ∀ {ρ ρ' : Sl}, Fg ρ ρ' → ρ.length = ρ'.length
  | _, _, .nil => rfl
  | _, _, .same h => by rw [List.length_cons, List.length_cons, h.length]
  | _, _, .un h => by rw [List.length_cons, List.length_cons, h.length]
theorem Fg.get : ∀ {ρ ρ' : Sl}, Fg ρ ρ' → ∀ {i : Nat} {s : Slot}, ρ'[i]? = some s → s = .un ∨ ρ[i]? = some s
  | _, _, .nil, i, s, e => by simp at e
  | _, _, .same h, 0, s, e => .inr e
  | _, _, .un h, 0, s, e => .inl (Option.some.inj e).symm
  | _, _, .same h, i + 1, s, e => h.get (i := i) (by simpa using e) |>.imp id fun z => by simpa using z
  | _, _, .un h, i + 1, s, e => h.get (i := i) (by simpa using e) |>.imp id fun z => by simpa using z
theorem Fg.sub : ∀ {ρ ρ' : Sl}, Fg ρ ρ' → (owns ρ').Sublist (owns ρ)
  | _, _, .nil => .slnil
  | .own a d :: _, _, .same h => .cons_cons a h.sub
  | .un :: _, _, .same h => h.sub (ρ := _)
  | .dat d :: _, _, .same h => h.sub (ρ := _)
  | .own a d :: _, _, .un h => .cons a h.sub
  | .un :: _, _, .un h => h.sub (ρ := _)
  | .dat d :: _, _, .un h => h.sub (ρ := _)
theorem Fg.trans : ∀ {ρ ρ1 ρ2 : Sl}, Fg ρ ρ1 → Fg ρ1 ρ2 → Fg ρ ρ2
  | _, _, _, .nil, .nil => .nil
  | _, _, _, .same h, .same g => .same (h.trans g)
  | _, _, _, .same h, .un g => .un (h.trans g)
  | _, _, _, .un h, .same g => .un (h.trans g)
  | _, _, _, .un h, .un g => .un (h.trans g)
section
variable {K : PySem.W.Frag} {T : List Addr} {B : Bs} {ρ ρ1 ρ2 ρ' : Sl} {σ : L2.St} {H H' : Hp} {s : Slot} {o : Option V}
theorem At.mono {Hm Hm' : Hp} (h : At K H Hm s o) (k : Kp Hm Hm') (e : ∀ a d, s = .own a d → ∀ ob, notTbl ob = true → H a = some ob → H' a = some ob) : At K H' Hm' s o := by
  cases s with
  | un => trivial
  | dat d => obtain ⟨x, q1, q2⟩ := h; exact ⟨x, q1, q2.mono k⟩
  | own a d => exact ⟨h.1, h.2.mono k (e a d rfl)⟩
theorem Sim.fg (S : Sim K T B ρ σ H) (f : Fg ρ ρ') : Sim K T B ρ' σ H := by
  have hs := f.sub
  have hsub : ∀ a ∈ B.all ρ', a ∈ B.all ρ := fun a z => by
    rcases List.mem_append.mp z with z | z
    · exact List.mem_append_left _ z
    · exact List.mem_append_right _ (hs.subset z)
  refine ⟨by rw [← f.length]; exact S.len, fun i s e => ?_, S.nodup.sublist hs, fun a z => S.disj a (hs.subset z), S.outs, S.frame, fun a z => S.fresh a (hs.subset z), S.tabs, S.dom⟩
  rcases f.get e with rfl | z
  · trivial
  · exact (S.at_ i s z).mono (Kp.sub hsub) fun _ _ _ _ _ q => q
end

/-! ### statements -/
/-- what is wanted behind a statement, told of the names -/
structure DE where
  nx : Sl → Prop
  rt : D → Sl → Prop
  bk : Sl → Prop := fun _ => False
  ct : Sl → Prop := fun _ => False
  /-- a new list is handed back, that nothing else knows -/
  rf : List D → Sl → Prop := fun _ _ => False
/-- one thing more out of sight -/
def Bs.add (B : Bs) (L : Addr) : Bs := ⟨L :: B.out, B.lent, B.H0⟩
def TSd (K : PySem.W.Frag) (T : List Addr) (B : Bs) (ρ : Sl) (k : DE) : TS := fun E σ H => Sim K T B ρ σ H ∧
  (∀ ρ' σ' H', k.nx ρ' → Sim K T B ρ' σ' H' → E.nx σ' H') ∧
  (∀ d ρ' σ' v H', k.rt d ρ' → Sim K T B ρ' σ' H' → Rp K (msk (B.all ρ') H') v d → E.rt v H') ∧
  (∀ ρ' σ' H', k.bk ρ' → Sim K T B ρ' σ' H' → E.bk σ' H') ∧
  (∀ ρ' σ' H', k.ct ρ' → Sim K T B ρ' σ' H' → E.ct σ' H') ∧
  (∀ ds ρ' σ' p xs H', k.rf ds ρ' → B.H0 p = none → Sim K T (B.add p) ρ' σ' H' → H' p = some (.lst xs) → p ∉ B.all ρ' → RpA K (msk (p :: B.all ρ') H') xs ds → E.rt (.ref p) H')
def SX (X : Cx) (T : List Addr) (B : Bs) (ρ : Sl) (st : Stmt) (k : DE) : Prop := PS X st (TSd X.K T B ρ k)
def SXs (X : Cx) (T : List Addr) (B : Bs) (ρ : Sl) (st : List Stmt) (k : DE) : Prop := PSs X st (TSd X.K T B ρ k)
section
variable {X : Cx} {T : List Addr} {B : Bs} {ρ ρ1 ρ2 ρ3 : Sl} {W W1 W2 W3 : List Addr} {e a b c : Expr} {d d1 d2 d3 : D} {pos : Pos} {k : DE} {st : Stmt} {r : List Stmt}
/-- some reading of the block -/
def tAnyS (X : Cx) (T : List Addr) (B : Bs) (sts : List Stmt) : TS := fun E σ H => ∃ ρ k, SXs X T B ρ sts k ∧ TSd X.K T B ρ k E σ H
theorem ps_any {sts : List Stmt} : PSs X sts (tAnyS X T B sts) := ⟨fun pins s σ H E I ⟨ρ, k, h, q⟩ => PSs.run h pins s σ H E I q⟩
/-- one after another, by what holds in between -/
theorem sx_cons (M : Sl → Prop) (h : SX X T B ρ st { k with nx := M }) (hr : ∀ ρ', M ρ' → SXs X T B ρ' r k) : SXs X T B ρ (st :: r) k := by
  refine PSs.imp (pss_cons h (ps_any (X := X) (T := T) (B := B) (sts := r))) fun E σ H ⟨S, h1, h2, h3, h4⟩ => ?_
  exact ⟨S, fun ρ' σ' H' m S' => ⟨ρ', k, hr ρ' m, S', h1, h2, h3, h4⟩, h2, h3, h4⟩
theorem sx_nil (h : k.nx ρ) : SXs X T B ρ [] k := PSs.imp pss_nil fun E σ H ⟨S, h1, _⟩ => h1 ρ σ H h S
theorem sx_one (h : SX X T B ρ st k) : SXs X T B ρ [st] k := PSs.imp (pss_one h) fun _ _ _ q => q
theorem SXs.fg (h : SXs X T B ρ1 r k) (f : Fg ρ ρ1) : SXs X T B ρ r k := PSs.imp h fun E σ H ⟨S, q⟩ => ⟨S.fg f, q⟩
theorem SX.imp {k' : DE} (h : SX X T B ρ st k) (h1 : ∀ ρ', k.nx ρ' → k'.nx ρ') (h2 : ∀ d ρ', k.rt d ρ' → k'.rt d ρ') (h3 : ∀ ρ', k.bk ρ' → k'.bk ρ') (h4 : ∀ ρ', k.ct ρ' → k'.ct ρ') (h5 : ∀ ds ρ', k.rf ds ρ' → k'.rf ds ρ') : SX X T B ρ st k' :=
  PS.imp h fun E σ H ⟨S, q1, q2, q3, q4, q5⟩ => ⟨S, fun ρ' σ' H' m => q1 ρ' σ' H' (h1 _ m), fun d ρ' σ' v H' m => q2 d ρ' σ' v H' (h2 _ _ m), fun ρ' σ' H' m => q3 ρ' σ' H' (h3 _ m), fun ρ' σ' H' m => q4 ρ' σ' H' (h4 _ m), fun ds ρ' σ' p xs H' m => q5 ds ρ' σ' p xs H' (h5 _ _ m)⟩
/-- x = e -/
theorem sx_set {i : Nat} {x : Str} {pos' : Pos} (he : EX X T B ρ e W ρ1 d) (hN : X.N.Nodup) (hi : X.N[i]? = some x) (hx : Loc X.env.scope x) (hl : i < ρ1.length) (hr : SXs X T B (ρ1.set i (.dat d)) r k)
    (hs : swapsWith e (some (.Name x pos')) pos.line X.env = pure false := by rfl) (hf : X.fn x = true ∨ X.env.scope.names.lookup x = some .local := by first | exact .inl rfl | exact .inr rfl | assumption) : SXs X T B ρ (.Assign [.Name x pos'] e pos :: r) k := by
  refine PSs.imp (pss_cons (ps_set (pos' := pos') hN hi hx he.run hs hf) hr) fun E σ H ⟨S, q⟩ => ?_
  exact ⟨S, fun v H' S' f rp => ⟨S'.set (fun _ _ z => by cases z) hl ⟨v, rfl, rp⟩, q⟩⟩
/-- the statement e -/
theorem sx_expr (he : EX X T B ρ e W ρ1 d) (hr : SXs X T B ρ1 r k) (hs : swapsWith e none pos.line X.env = pure false := by rfl) : SXs X T B ρ (.Expr e pos :: r) k := by
  refine PSs.imp (pss_cons (ps_expr he.run hs) hr) fun E σ H ⟨S, q⟩ => ?_
  exact ⟨S, fun v H' S' f rp => ⟨S', q⟩⟩
theorem sx_ret (he : EX X T B ρ e W ρ1 d) (h : k.rt d ρ1) : SXs X T B ρ (.Return (some e) pos :: r) k := by
  refine PSs.imp (pss_cons (ps_ret he.run) (ps_any (T := T) (B := B))) fun E σ H ⟨S, q1, q2, q3⟩ => ?_
  exact ⟨S, fun v H' S' f rp => q2 d ρ1 σ v H' h S' rp⟩
/-- an owned thing is given away -/
theorem hold_data {K : PySem.W.Frag} {σ : L2.St} {H : Hp} {i : Nat} {l : Addr} (S : Sim K T B ρ σ H) (hs : ρ[i]? = some (.own l d)) : Rp K (msk (B.all (ρ.set i .un)) H) (.ref l) d ∧ Sim K T B (ρ.set i .un) σ H ∧ σ[i]? = some (some (.ref l)) := by
  have hi := (List.getElem?_eq_some_iff.mp hs).1
  obtain ⟨q1, q2⟩ := S.at_ i _ hs
  have f : Fg ρ (ρ.set i .un) := by
    clear S q1 q2 hi
    induction ρ generalizing i with
    | nil => simp at hs
    | cons t r ih =>
      cases i with
      | zero => exact .un (Fg.refl r)
      | succ i => exact .same (ih (by simpa using hs))
  have nl : l ∉ B.all (ρ.set i .un) := fun z => by
    have hm : l ∈ owns ρ := mem_owns.mpr ⟨i, d, hs⟩
    rcases List.mem_append.mp z with z | z
    · exact S.disj l hm z
    · obtain ⟨j, d', e⟩ := mem_owns.mp z
      by_cases ji : i = j
      · subst ji
        rw [List.getElem?_set_self hi] at e
        cases e
      · rw [List.getElem?_set_ne ji] at e
        have nd := S.nodup
        clear S z hm f q1 q2
        exact absurd nd (own_twice hs e ji)
  have km : Kp (msk (B.all ρ) H) (msk (B.all (ρ.set i .un)) H) := Kp.sub fun a z => by
    rcases List.mem_append.mp z with z | z
    · exact List.mem_append_left _ z
    · exact List.mem_append_right _ (f.sub.subset z)
  refine ⟨?_, S.fg f, slot_of (K := K) (H := H) q1⟩
  cases d with
  | list ds => obtain ⟨xs, e, rr⟩ := q2; exact .lst (SqL.of (by rw [msk_out nl]; exact e)) (rr.mono km)
  | dict ds =>
    rcases q2 with ⟨kvs, e, rr⟩ | ⟨n, kvs, e, rr⟩
    · exact .dk (by rw [msk_out nl]; exact e) (rr.mono km)
    · exact .dt n (by rw [msk_out nl]; exact e) (rr.mono km)
  | _ => exact q2.elim
where
  own_twice : ∀ {ρ : Sl} {i j : Nat} {l : Addr} {d d' : D}, ρ[i]? = some (.own l d) → ρ[j]? = some (.own l d') → i ≠ j → ¬ (owns ρ).Nodup
    | [], i, j, l, d, d', h, _, _ => by simp at h
    | s :: r, 0, 0, l, d, d', h, h', n => (n rfl).elim
    | s :: r, 0, j + 1, l, d, d', h, h', n => fun nd => by
      cases (Option.some.inj h)
      exact (List.nodup_cons.mp nd).1 (mem_owns.mpr ⟨j, d', by simpa using h'⟩)
    | s :: r, i + 1, 0, l, d, d', h, h', n => fun nd => by
      cases (Option.some.inj h')
      exact (List.nodup_cons.mp nd).1 (mem_owns.mpr ⟨i, d, by simpa using h⟩)
    | s :: r, i + 1, j + 1, l, d, d', h, h', n => fun nd => by
      have nd' : (owns r).Nodup := by
        cases s with
        | own b e => exact (List.nodup_cons.mp nd).2
        | un => exact nd
        | dat e => exact nd
      exact own_twice (i := i) (j := j) (by simpa using h) (by simpa using h') (fun z => n (by rw [z])) nd'
/-- return an owned thing -/
theorem sx_retO {i : Nat} {x : Str} {l : Addr} {px : Pos} (hs : ρ[i]? = some (.own l d)) (hN : X.N[i]? = some x) (hv : Vis X.env.scope x) (h : k.rt d (ρ.set i .un)) (hd : (x == ("__debug__" : Str)) = false := by decide) (hcd : (x == ("__classdict__" : Str)) = false := by decide) :
    SXs X T B ρ (.Return (some (.Name x px)) pos :: r) k := by
  refine PSs.imp (pss_cons (ps_ret (pe_var hN hv hd hcd)) (ps_any (T := T) (B := B))) fun E σ H ⟨S, q1, q2, q3⟩ => ?_
  obtain ⟨h1, h2, h3⟩ := hold_data S hs
  exact ⟨.ref l, h3, q2 d _ σ _ H h h2 h1⟩
/-- from now on it is data -/
theorem set_self_get {σ : L2.St} {i : Nat} {o : Option V} (h : σ[i]? = some o) : σ.set i o = σ := by
  apply List.ext_getElem?
  intro j
  by_cases q : i = j
  · subst q
    rw [List.getElem?_set_self (List.getElem?_eq_some_iff.mp h).1, h]
  · rw [List.getElem?_set_ne q]
theorem sx_freeze {i : Nat} {l : Addr} (hs : ρ[i]? = some (.own l d)) (hr : SXs X T B (ρ.set i (.dat d)) r k) : SXs X T B ρ r k :=
  PSs.imp hr fun E σ H ⟨S, q⟩ => by
    obtain ⟨h1, h2, h3⟩ := hold_data S hs
    have hi := (List.getElem?_eq_some_iff.mp hs).1
    have z := h2.set (i := i) (v := .ref l) (s := .dat d) (fun _ _ z => by cases z) (by rw [List.length_set]; exact hi) ⟨_, rfl, h1⟩
    rw [set_self_get h3, List.set_set] at z
    exact ⟨z, q⟩
theorem sx_if {c : Expr} {t u : List Stmt} {kb : Bool} (hc : TX X T B ρ c W ρ1 kb) (M : Sl → Prop) (ht : kb = true → SXs X T B ρ1 t { k with nx := M }) (hu : kb = false → SXs X T B ρ1 u { k with nx := M }) (hr : ∀ ρ', M ρ' → SXs X T B ρ' r k) : SXs X T B ρ (.If c t u pos :: r) k := by
  refine sx_cons M (PS.imp (ps_if hc.run (PSs.guard (g := kb = true) fun z => ht z) (PSs.guard (g := kb = false) fun z => hu z)) fun E σ H ⟨S, q⟩ => ⟨S, fun H' S' f => ?_⟩) hr
  cases kb with
  | true => rw [if_pos rfl]; exact ⟨rfl, S', q⟩
  | false => rw [if_neg Bool.false_ne_true]; exact ⟨rfl, S', q⟩
/-- an if whose branch leaves -/
theorem sx_ifR {c : Expr} {t : List Stmt} {kb : Bool} (hc : TX X T B ρ c W ρ1 kb) (ht : kb = true → SXs X T B ρ1 t { k with nx := fun _ => False }) (hr : kb = false → SXs X T B ρ1 r k) : SXs X T B ρ (.If c t [] pos :: r) k :=
  sx_if hc (fun ρ' => kb = false ∧ ρ' = ρ1) (fun z => PSs.imp (ht z) fun E σ H ⟨S, q1, q2⟩ => ⟨S, fun _ _ _ z => z.elim, q2⟩) (fun z => sx_nil ⟨z, rfl⟩) fun ρ' ⟨z, e⟩ => e ▸ hr z

/-! ### targets -/
/-- the target tg takes d; vs: the slots it stores -/
def GX (X : Cx) (T : List Addr) (B : Bs) (ρ : Sl) (tg : Expr) (vs : List Nat) (d : D) (ρ' : Sl) : Prop :=
  PG X tg (fun v σ H Q => Sim X.K T B ρ σ H ∧ Rp X.K (msk (B.all ρ) H) v d ∧ ∀ σ', Sim X.K T B ρ' σ' H → wipe σ' vs = wipe σ vs → Q σ' H)
theorem PG.imp {tg : Expr} {t t' : TG} (h : PG X tg t) (i : ∀ v σ H Q, t' v σ H Q → t v σ H Q) : PG X tg t' := ⟨fun pins s σ H v u Q I r q => h.run pins s σ H v u Q I r (i v σ H Q q)⟩
theorem wipe_set {i : Nat} {o : Option V} : ∀ {vs : List Nat} {σ : L2.St}, i ∈ vs → wipe (σ.set i o) vs = wipe σ vs
  | [], _, h => by cases h
  | v :: vs, σ, h => by
    unfold wipe
    by_cases q : i ∈ vs
    · rw [wipe_set q]
    · have e : i = v := by
        rcases List.mem_cons.mp h with z | z
        · exact z
        · exact absurd z q
      subst e
      apply List.ext_getElem?
      intro j
      by_cases ij : i = j
      · subst ij
        by_cases hl : i < σ.length
        · rw [List.getElem?_set_self (by rw [wipe_length, List.length_set]; exact hl), List.getElem?_set_self (by rw [wipe_length]; exact hl)]
        · rw [List.getElem?_eq_none (by rw [List.length_set, wipe_length, List.length_set]; omega), List.getElem?_eq_none (by rw [List.length_set, wipe_length]; omega)]
      · rw [List.getElem?_set_ne ij, List.getElem?_set_ne ij]
        exact wipe_ne ij
where
  wipe_ne {i j : Nat} {o : Option V} : ∀ {vs : List Nat} {σ : L2.St}, i ≠ j → (wipe (σ.set i o) vs)[j]? = (wipe σ vs)[j]?
    | [], σ, h => by unfold wipe; exact List.getElem?_set_ne h
    | v :: vs, σ, h => by
      unfold wipe
      by_cases q : v = j
      · subst q
        by_cases hl : v < σ.length
        · rw [List.getElem?_set_self (by rw [wipe_length, List.length_set]; exact hl), List.getElem?_set_self (by rw [wipe_length]; exact hl)]
        · rw [List.getElem?_eq_none (by rw [List.length_set, wipe_length, List.length_set]; omega), List.getElem?_eq_none (by rw [List.length_set, wipe_length]; omega)]
      · rw [List.getElem?_set_ne q, List.getElem?_set_ne q]
        exact wipe_ne h
theorem gx_name {i : Nat} {x : Str} (hN : X.N.Nodup) (hi : X.N[i]? = some x) (hx : Loc X.env.scope x) (hl : i < ρ.length) {vs : List Nat} (hv : i ∈ vs) (hf : X.fn x = true ∨ X.env.scope.names.lookup x = some .local := by first | exact .inl rfl | exact .inr rfl | assumption) :
    GX X T B ρ (.Name x pos) vs d (ρ.set i (.dat d)) :=
  PG.imp (pg_name hN hi hx hf) fun v σ H Q ⟨S, rp, q⟩ => q _ (S.set (fun _ _ z => by cases z) hl ⟨v, rfl, rp⟩) (wipe_set hv)
theorem sub_set {i : Nat} : ∀ a ∈ B.all (ρ.set i (.dat d)), a ∈ B.all ρ := fun a z => by
  rcases List.mem_append.mp z with z | z
  · exact List.mem_append_left _ z
  · exact List.mem_append_right _ (owns_set_dat (fun _ _ z => by cases z) z)
/-- targets one after another -/
def GXs (X : Cx) (T : List Addr) (B : Bs) (ρ : Sl) (ts : List Expr) (vs : List Nat) (ds : List D) (ρ' : Sl) : Prop :=
  PGs X ts (fun xs σ H Q => Sim X.K T B ρ σ H ∧ RpA X.K (msk (B.all ρ) H) xs ds ∧ ∀ σ', Sim X.K T B ρ' σ' H → wipe σ' vs = wipe σ vs → Q σ' H)
theorem PGs.imp {tg : List Expr} {t t' : TGs} (h : PGs X tg t) (i : ∀ v σ H Q, t' v σ H Q → t v σ H Q) : PGs X tg t' := ⟨fun pins s σ H v u Q I r q => h.run pins s σ H v u Q I r (i v σ H Q q)⟩
theorem gxs_nil {vs : List Nat} : GXs X T B ρ [] vs [] ρ := PGs.imp pgs_nil fun xs σ H Q ⟨S, rp, q⟩ => by
  cases rp
  exact ⟨rfl, q σ S rfl⟩
theorem gxs_cons {e : Expr} {es : List Expr} {ds : List D} {vs : List Nat} (h : GX X T B ρ e vs d ρ1) (hr : GXs X T B ρ1 es vs ds ρ2) (hsub : ∀ a ∈ B.all ρ1, a ∈ B.all ρ)
    (hs : (assignEach (e :: es) X.env).map (·.2) = assign e X.env :: (assignEach es X.env).map (·.2) := by rfl) : GXs X T B ρ (e :: es) vs (d :: ds) ρ2 :=
  PGs.imp (pgs_cons h hr hs) fun xs σ H Q ⟨S, rp, q⟩ => by
    cases rp with
    | cons h1 h2 => exact ⟨_, _, rfl, S, h1, fun σ' S' w => ⟨S', h2.mono (Kp.sub hsub), fun σ2 S2 w2 => q σ2 S2 (w2.trans w)⟩⟩
theorem gx_tup {es : List Expr} {kk : Nat} {ds : List D} {vs : List Nat} {n : Nat} (hc : X.calm = true) (h : GXs X T B ρ es vs ds ρ1) (hl : ds.length = n) (hn : (assignEach es X.env).length = n := by rfl) (hst : (assignEach es X.env).findIdx? (·.1) = none := by rfl) :
    GX X T B ρ (.Tuple es kk pos) vs (.tuple ds) ρ1 :=
  PG.imp (pg_tup hc h hn hst) fun v σ H Q ⟨S, rp, q⟩ => by
    cases rp with
    | tup h1 h2 => exact ⟨_, _, rfl, (Kp.ofmsk _ _).sqT h1, by rw [h2.length]; exact hl, S, h2, q⟩

/-! ### what is walked -/
/-- J walks the data ds -/
structure Walked (K : PySem.W.Frag) (O : List Addr) (ds : List D) (J : It) (H1 : Hp) : Prop where
  go : ∀ i O' H, Kp (msk O H1) (msk O' H) → i < ds.length → J.go i H
  stop : ∀ i O' H, Kp (msk O H1) (msk O' H) → ds.length ≤ i → J.stop i H
  yld : ∀ i O' H v H', Kp (msk O H1) (msk O' H) → (∀ a ∈ O', ∃ o, H a = some o) → i < ds.length → J.yld i H v H' → (H' = H ∨ ∃ p xs, H p = none ∧ H' = upd H p (.tup xs)) ∧ ∃ d, ds[i]? = some d ∧ Rp K (msk O' H') v d
structure IX (X : Cx) (T : List Addr) (B : Bs) (ρ : Sl) (tg e : Expr) (W : List Addr) (ρ' : Sl) (ds : List D) : Prop where
  run : ∃ wi, PI X tg e wi ∧ ∀ σ H R, Sim X.K T B ρ σ H → (∀ J H1, Sim X.K T B ρ' σ H1 → Fx W H H1 → Walked X.K (B.all ρ') ds J H1 → R J H1) → wi σ H R
  own : owns ρ' = owns ρ
  sub : ∀ a ∈ W, a ∈ owns ρ
theorem walked_list {K : PySem.W.Frag} {O : List Addr} {H : Hp} {ds : List D} {a : Addr} {xs : List V} (h : SqL K (msk O H) a xs) (r : RpA K (msk O H) xs ds) : Walked K O ds (Itl K a) H := by
  refine ⟨fun i O' H' k hi => ?_, fun i O' H' k hi => ?_, fun i O' H' v H2 k hO hi y => ?_⟩
  · exact ⟨xs, xs[i]'(by rw [r.length]; exact hi), (Kp.ofmsk _ _).sqL (k.sqL h), List.getElem?_eq_getElem _⟩
  · exact ⟨xs, (Kp.ofmsk _ _).sqL (k.sqL h), by rw [r.length]; exact hi⟩
  · obtain ⟨e, y⟩ := y
    subst e
    obtain ⟨d, h1, h2⟩ := r.get (y xs ((Kp.ofmsk _ _).sqL (k.sqL h)))
    exact ⟨.inl rfl, d, h1, h2.mono k⟩
theorem walked_tup {K : PySem.W.Frag} {O : List Addr} {H : Hp} {ds : List D} {a : Addr} {xs : List V} (h : Tt (msk O H) a xs) (r : RpA K (msk O H) xs ds) : Walked K O ds (Itt K a) H := by
  refine ⟨fun i O' H' k hi => ?_, fun i O' H' k hi => ?_, fun i O' H' v H2 k hO hi y => ?_⟩
  · exact ⟨xs, xs[i]'(by rw [r.length]; exact hi), (Kp.ofmsk _ _).sqT (k.tt h), List.getElem?_eq_getElem _⟩
  · exact ⟨xs, (Kp.ofmsk _ _).sqT (k.tt h), by rw [r.length]; exact hi⟩
  · obtain ⟨e, y⟩ := y
    subst e
    obtain ⟨d, h1, h2⟩ := r.get (y xs ((Kp.ofmsk _ _).sqT (k.tt h)))
    exact ⟨.inl rfl, d, h1, h2.mono k⟩
theorem ix_l {tg : Expr} {ds : List D} (h : EX X T B ρ e W ρ1 (.list ds)) : IX X T B ρ tg e W ρ1 ds := ⟨⟨_, pi_list h.run, fun σ H R S q => ⟨S, fun v H' S' f rp => by
  cases rp with
  | lst h1 h2 => exact ⟨_, rfl, ⟨_, (Kp.ofmsk _ _).sqL h1⟩, q _ H' S' f (walked_list h1 h2)⟩⟩⟩, h.own, h.sub⟩
theorem ix_t {tg : Expr} {ds : List D} (h : EX X T B ρ e W ρ1 (.tuple ds)) : IX X T B ρ tg e W ρ1 ds := ⟨⟨_, pi_tup h.run, fun σ H R S q => ⟨S, fun v H' S' f rp => by
  cases rp with
  | tup h1 h2 => exact ⟨_, rfl, ⟨_, (Kp.ofmsk _ _).sqT h1⟩, q _ H' S' f (walked_tup h1 h2)⟩⟩⟩, h.own, h.sub⟩
/-- lo, lo + 1, .. -/
def rng (lo : Int) (n : Nat) : List D := (List.range n).map fun i : Nat => .int (lo + (i : Int))
theorem rng_length (lo : Int) (n : Nat) : (rng lo n).length = n := by unfold rng; simp
theorem rng_get {lo : Int} {n i : Nat} (h : i < n) : (rng lo n)[i]? = some (.int (lo + (i : Int))) := by unfold rng; simp [h]
theorem walked_rng {K : PySem.W.Frag} {O : List Addr} {H : Hp} (lo : Int) (n : Nat) : Walked K O (rng lo n) (Itr lo n) H := by
  refine ⟨fun i _ _ _ hi => by rw [rng_length] at hi; exact hi, fun i _ _ _ hi => by rw [rng_length] at hi; exact hi, fun i O' H' v H2 _ _ hi y => ?_⟩
  obtain ⟨e, rfl⟩ := y
  subst e
  rw [rng_length] at hi
  exact ⟨.inl rfl, _, rng_get hi, .int _⟩
theorem ix_r1 {tg a : Expr} {p : Pos} {j : Int} (hg : Gl X "range") (hm : X.mg "range" = none) (h : EX X T B ρ a W ρ1 (.int j)) (hj : -(2 ^ 62) ≤ j ∧ j < 2 ^ 62) (hs : starEach [a] X.env = [(false, eval a X.env)] := by rfl) : IX X T B ρ tg (.Call (.Name "range" p) [a] [] pos) W ρ1 (rng 0 j.toNat) := by
  refine ⟨⟨_, pi_range1 hg hm (pa_cons h.run pa_nil (by rw [hs]; rfl)) hs, fun σ H R S q => ⟨S, fun v H' S' f rp => ?_⟩⟩, h.own, h.sub⟩
  exact ⟨j, by rw [int_of rp], hj.1, hj.2, q _ H' S' f (walked_rng 0 _)⟩
theorem ix_r2 {tg a b : Expr} {p : Pos} {i j : Int} (hg : Gl X "range") (hm : X.mg "range" = none) (ha : EX X T B ρ a W1 ρ1 (.int i)) (hb : EX X T B ρ1 b W2 ρ2 (.int j)) (hij : -(2 ^ 62) ≤ i ∧ i < 2 ^ 62 ∧ -(2 ^ 62) ≤ j ∧ j < 2 ^ 62) (hs : starEach [a, b] X.env = [(false, eval a X.env), (false, eval b X.env)] := by rfl) (hs2 : starEach [b] X.env = [(false, eval b X.env)] := by rfl) : IX X T B ρ tg (.Call (.Name "range" p) [a, b] [] pos) (W1 ++ W2) ρ2 (rng i (j - i).toNat) := by
  refine ⟨⟨_, pi_range2 hg hm (pa_cons ha.run (pa_cons hb.run pa_nil (by rw [hs2]; rfl)) (by rw [hs, hs2])) hs hs2, fun σ H R S q => ⟨S, fun v H' S' f rp => ⟨S', fun w H2 S2 f2 rp2 => ?_⟩⟩⟩, hb.own.trans ha.own, sub_app ha.sub ha.own hb.sub⟩
  exact ⟨i, j, by rw [int_of rp, int_of rp2], hij, q _ H2 S2 (f.trans f2) (walked_rng i _)⟩

/-! ### the middle of a body taken as its start -/
def Bs.at (B : Bs) (ρ : Sl) (H : Hp) : Bs := ⟨B.out, owns ρ, H⟩
theorem rebase {K : PySem.W.Frag} {σ : L2.St} {H : Hp} (S : Sim K T B ρ σ H) : Sim K T (B.at ρ H) ρ σ H :=
  ⟨S.len, S.at_, S.nodup, S.disj, S.outs, Fx.refl _ _, fun a z => .inl z, S.tabs, fun _ z => z⟩
theorem unbase {K : PySem.W.Frag} {σ σ1 : L2.St} {H H1 : Hp} (S1 : Sim K T B ρ1 σ1 H1) (S : Sim K T (B.at ρ1 H1) ρ σ H) : Sim K T B ρ σ H := by
  refine ⟨S.len, S.at_, S.nodup, S.disj, S.outs, fun a o n w e => ?_, fun a z => ?_, S.tabs, fun a z => S.dom a (S1.dom a z)⟩
  · refine S.frame a o n (fun z => ?_) (S1.frame a o n w e)
    rcases S1.fresh a z with z | z
    · exact w z
    · rw [e] at z; cases z
  · rcases S.fresh a z with z | z
    · exact S1.fresh a z
    · refine .inr ?_
      cases q : B.H0 a with
      | none => rfl
      | some o => exact absurd z (S1.dom a (by rw [q]; exact fun z => by cases z))
theorem unbase_add {K : PySem.W.Frag} {σ σ1 : L2.St} {H H1 : Hp} {p : Addr} (S1 : Sim K T B ρ1 σ1 H1) (S : Sim K T ((B.at ρ1 H1).add p) ρ σ H) : Sim K T (B.add p) ρ σ H := by
  refine ⟨S.len, S.at_, S.nodup, S.disj, S.outs, fun a o n w e => ?_, fun a z => ?_, S.tabs, fun a z => S.dom a (S1.dom a z)⟩
  · have e : B.H0 a = some o := e
    refine S.frame a o n (fun z => ?_) (S1.frame a o n w e)
    rcases S1.fresh a z with z | z
    · exact w z
    · rw [e] at z; cases z
  · rcases S.fresh a z with z | z
    · exact S1.fresh a z
    · refine .inr ?_
      show B.H0 a = none
      cases q : B.H0 a with
      | none => rfl
      | some o => exact absurd z (S1.dom a (by rw [q]; exact fun z => by cases z))
theorem dom_none {K : PySem.W.Frag} {σ : L2.St} {H : Hp} {p : Addr} (S : Sim K T B ρ σ H) (n : H p = none) : B.H0 p = none := by
  cases hz : B.H0 p with
  | none => rfl
  | some o => exact absurd n (S.dom p (by rw [hz]; exact fun z => by cases z))
/-- what was data at the start is data still -/
theorem kpb {K : PySem.W.Frag} {σ : L2.St} {H H1 : Hp} (S : Sim K T (B.at ρ1 H1) ρ σ H) : Kp (msk (B.all ρ1) H1) (msk (B.all ρ) H) := fun a o n e => by
  obtain ⟨q, e⟩ := msk_some e
  have q1 : a ∉ owns ρ1 := fun z => q (List.mem_append_right _ z)
  rw [msk_out (fun z => ?_)]
  · exact S.frame a o n q1 e
  · rcases List.mem_append.mp z with z | z
    · exact q (List.mem_append_left _ z)
    · rcases S.fresh a z with z | z
      · exact q1 z
      · have z : H1 a = none := z
        rw [e] at z; cases z

theorem tab_keep {H H' : Hp} (h : H' = H ∨ ∃ p xs, H p = none ∧ H' = upd H p (.tup xs)) : Kp H H' ∧ (∀ P, GxR.TabG H P → GxR.TabG H' P) ∧ ∀ a, H a ≠ none → H' a ≠ none := by
  rcases h with e | ⟨p, xs, hn, e⟩
  · rw [e]; exact ⟨Kp.refl _, fun _ z => z, fun _ z => z⟩
  · rw [e]
    refine ⟨(Fx.new (W := []) hn).kpN, fun _ z => tab_new hn z, fun a z => ?_⟩
    by_cases q : a = p
    · rw [q, upd_same]; exact fun z => by cases z
    · rw [upd_ne q]; exact z

def tAnyG (X : Cx) (T : List Addr) (B : Bs) (tg : Expr) (vs : List Nat) : TG := fun v σ H Q => ∃ ρ d ρ', GX X T B ρ tg vs d ρ' ∧ Sim X.K T B ρ σ H ∧ Rp X.K (msk (B.all ρ) H) v d ∧ ∀ σ', Sim X.K T B ρ' σ' H → wipe σ' vs = wipe σ vs → Q σ' H
/-- some reading, of some start -/
def tSomeG (X : Cx) (T : List Addr) (tg : Expr) (vs : List Nat) : TG := fun v σ H Q => ∃ B, tAnyG X T B tg vs v σ H Q
def tSomeS (X : Cx) (T : List Addr) (sts : List Stmt) : TS := fun E σ H => ∃ B, tAnyS X T B sts E σ H
theorem ps_some {sts : List Stmt} : PSs X sts (tSomeS X T sts) := ⟨fun pins s σ H E I ⟨B, ρ, k, h, q⟩ => PSs.run h pins s σ H E I q⟩
theorem pg_some {tg : Expr} {vs : List Nat} : PG X tg (tSomeG X T tg vs) := ⟨fun pins s σ H v u Q I rr ⟨B, ρ, d, ρ', h, q⟩ => PG.run h pins s σ H v u Q I rr q⟩
/-- for tg in e: body; I by the turn -/
theorem sx_for {tg : Expr} {body : List Stmt} {ds : List D} (vs : List Nat) (I : Nat → Sl → Prop) (M : Sl → Prop) (hp : PassesOwn (model X.prog X.w) X.A X.env X.xe) (hc : X.calm = true) (hi : IX X T B ρ tg e W ρ1 ds) (h0 : I 0 ρ1)
    (hb : ∀ B' i d ρ', ds[i]? = some d → I i ρ' → ∃ ρb, GX X T B' ρ' tg vs d ρb ∧ SXs X T B' ρb body { nx := I (i + 1), ct := I (i + 1), bk := M, rt := k.rt, rf := k.rf })
    (hd : ∀ ρ', I ds.length ρ' → M ρ') (hr : ∀ ρ', M ρ' → SXs X T B ρ' r k) (hs : ∀ x, foldedSetIterable e X.env x = pure x := by intro _; rfl) : SXs X T B ρ (.For tg e body [] pos :: r) k := by
  obtain ⟨wi, hwi, hw⟩ := hi.run
  refine sx_cons M (PS.imp (ps_for hp hc hwi (pg_some (T := T) (vs := vs)) (ps_some (T := T)) hs) fun E σ H ⟨S, q1, q2, q3, q4, q5⟩ => hw σ H _ S fun J H1 S1 f1 wk => ?_) hr
  refine ⟨fun i m σ H => m = ds.length - i ∧ i ≤ ds.length ∧ ∃ ρ', I i ρ' ∧ Sim X.K T (B.at ρ1 H1) ρ' σ H, ⟨ds.length, by simp, Nat.zero_le _, ρ1, h0, rebase S1⟩, ?_⟩
  rintro i m σ' H' ⟨rfl, hi', ρ', hI, S'⟩
  have kk := kpb S'
  by_cases hlt : i < ds.length
  · refine .inr ⟨wk.go i _ H' kk hlt, fun σ2 H2 => ∃ ρ2, I (i + 1) ρ2 ∧ Sim X.K T (B.at ρ1 H1) ρ2 σ2 H2, fun σ2 H2 ⟨ρ2, hI2, S2⟩ => ⟨ds.length - (i + 1), by omega, rfl, hlt, ρ2, hI2, S2⟩, fun v H2 y => ?_⟩
    obtain ⟨hH, d, hd', hrp⟩ := wk.yld i _ H' v H2 kk (fun a z => let ⟨o, e, _⟩ := S'.held a z; ⟨o, e⟩) hlt y
    obtain ⟨t1, t2, t3⟩ := tab_keep hH
    have S2 : Sim X.K T (B.at ρ1 H1) ρ' σ' H2 := S'.grow t1 (fun P z => t2 P (S'.tabs P z)) t3
    obtain ⟨ρb, hgx, hsx⟩ := hb (B.at ρ1 H1) i d ρ' hd' hI
    refine ⟨_, ρ', d, ρb, hgx, S2, hrp, fun σ3 S3 _ => ⟨_, ρb, _, hsx, S3, fun ρ4 σ4 H4 m S4 => ⟨ρ4, m, S4⟩, fun d ρ4 σ4 v H4 m S4 rp => ?_, fun ρ4 σ4 H4 m S4 => ?_, fun ρ4 σ4 H4 m S4 => ⟨ρ4, m, S4⟩, fun ds ρ4 σ4 p xs H4 m h0 S4 => q5 ds ρ4 σ4 p xs H4 m (dom_none S1 h0) (unbase_add S1 S4)⟩⟩
    · exact q2 d ρ4 σ4 v H4 m (unbase S1 S4) rp
    · exact q1 ρ4 σ4 H4 m (unbase S1 S4)
  · have e : i = ds.length := by omega
    subst e
    exact .inl ⟨wk.stop _ _ H' kk (Nat.le_refl _), q1 ρ' σ' H' (hd _ hI) (unbase S1 S')⟩
/-- .. by a state that each turn makes of the one ahead -/
theorem sx_forF {tg : Expr} {body : List Stmt} {ds : List D} {St : Type} (vs : List Nat) (ρs : St → Sl) (s0 : St) (step : St → D → St) (hp : PassesOwn (model X.prog X.w) X.A X.env X.xe) (hc : X.calm = true) (hi : IX X T B ρ tg e W ρ1 ds) (h0 : Fg ρ1 (ρs s0))
    (hb : ∀ B' s d, d ∈ ds → ∃ ρb, GX X T B' (ρs s) tg vs d ρb ∧ SXs X T B' ρb body { nx := fun ρ' => Fg ρ' (ρs (step s d)), ct := fun ρ' => Fg ρ' (ρs (step s d)), bk := fun _ => False, rt := k.rt, rf := k.rf })
    (hr : SXs X T B (ρs (ds.foldl step s0)) r k) (hs : ∀ x, foldedSetIterable e X.env x = pure x := by intro _; rfl) : SXs X T B ρ (.For tg e body [] pos :: r) k := by
  refine sx_for vs (fun i ρ' => Fg ρ' (ρs ((ds.take i).foldl step s0))) (fun ρ' => Fg ρ' (ρs (ds.foldl step s0))) hp hc hi h0 (fun B' i d ρ' hd hI => ?_) (fun ρ' h => by rw [List.take_length] at h; exact h) (fun ρ' h => hr.fg h) hs
  obtain ⟨ρb, h1, h2⟩ := hb B' ((ds.take i).foldl step s0) d (List.mem_of_getElem? hd)
  have e : (ds.take (i + 1)).foldl step s0 = step ((ds.take i).foldl step s0) d := by
    rw [List.take_add_one, hd, List.foldl_append]; rfl
  refine ⟨ρb, PG.imp h1 fun v σ H Q ⟨S, rp, q⟩ => ⟨S.fg hI, ?_, q⟩, ?_⟩
  · exact rp.mono (Kp.sub fun a z => by
      rcases List.mem_append.mp z with z | z
      · exact List.mem_append_left _ z
      · exact List.mem_append_right _ (hI.sub.subset z))
  · rw [e]
    exact PSs.imp h2 fun E σ H ⟨S, q1, q2, q3, q4⟩ => ⟨S, q1, q2, fun _ _ _ z => z.elim, q4⟩
end
end Dv

set_option maxRecDepth 100000
namespace Dv
open PySem PySem.Spec PyProof.Rows L2
section
variable {X : Cx} {T : List Addr} {B : Bs} {ρ ρ1 ρ2 ρ3 : Sl} {W W1 W2 W3 : List Addr} {e a b c : Expr} {d d1 d2 d3 : D} {pos : Pos} {k : DE} {st : Stmt} {r : List Stmt}

/-! ### a list, data or owned, whose items are data -/
structure EL (X : Cx) (T : List Addr) (B : Bs) (ρ : Sl) (e : Expr) (W : List Addr) (ρ' : Sl) (ds : List D) : Prop where
  run : PE X e (fun σ H Q => Sim X.K T B ρ σ H ∧ ∀ a xs H', Sim X.K T B ρ' σ H' → Fx W H H' → SqL X.K H' a xs → RpA X.K (msk (B.all ρ') H') xs ds → Q (.ref a) H')
  own : owns ρ' = owns ρ
  sub : ∀ a ∈ W, a ∈ owns ρ
theorem EX.l {ds : List D} (h : EX X T B ρ e W ρ1 (.list ds)) : EL X T B ρ e W ρ1 ds := ⟨PE.imp h.run fun σ H Q ⟨S, q⟩ => ⟨S, fun v H' S' f r => by
  cases r with
  | lst h1 h2 => exact q _ _ H' S' f ((Kp.ofmsk _ _).sqL h1) h2⟩, h.own, h.sub⟩
theorem el_own {i : Nat} {x : Str} {l : Addr} {ds : List D} (hs : ρ[i]? = some (.own l (.list ds))) (hN : X.N[i]? = some x) (hv : Vis X.env.scope x) (hd : (x == ("__debug__" : Str)) = false := by decide) (hcd : (x == ("__classdict__" : Str)) = false := by decide) :
    EL X T B ρ (.Name x pos) [] ρ ds := ⟨PE.imp (pe_var hN hv hd hcd) fun σ H Q ⟨S, q⟩ => by
      obtain ⟨q1, xs, e, r⟩ := S.at_ i _ hs
      exact ⟨.ref l, slot_of (K := X.K) (H := H) q1, q l xs H S (Fx.refl _ _) (SqL.of e) r⟩, rfl, sub_nil⟩
theorem EL.er {ds : List D} (h : EL X T B ρ e W ρ1 ds) : ER X T B ρ e W ρ1 (.list ds) := ⟨PE.imp h.run fun σ H Q ⟨S, q⟩ => ⟨S, fun a xs H' S' f r1 r2 => q _ H' S' f (.lst r1 (r2.mono (Kp.ofmsk _ _)))⟩, h.own, h.sub⟩

/-! ### built-ins called -/
/-- how a call of one argument is a rule's -/
def Call1 (X : Cx) (f a : Expr) (pos : Pos) (r : List V → Hp → VK → Prop) : Prop := ∀ t, PA X [a] t → PE X (.Call f [a] [] pos) (tCB r t)
def Call2 (X : Cx) (f a b : Expr) (pos : Pos) (r : List V → Hp → VK → Prop) : Prop := ∀ t, PA X [a, b] t → PE X (.Call f [a, b] [] pos) (tCB r t)
theorem c1b {x : Str} {p : Pos} {id : String} {r : List V → Hp → VK → Prop} (hc : CallR X (.builtin id) r) (hg : Gl X x) (hm : X.mg x = none) (hv : bootBuiltins x = some (.builtin id)) (hn : x ≠ "__name__" := by decide) (hdb : (x == ("__debug__" : Str)) = false := by decide)
    (he : starEach [a] X.env = (false, eval a X.env) :: starEach [] X.env := by rfl) (hpl : (backTo pos (starEach [] X.env)).any (·.1) = false := by rfl) : Call1 X (.Name x p) a pos r := fun t h => pe_callB hc hg hm hv h hn hdb he hpl
theorem c1t {x : Str} {p : Pos} {ty : String} {r : List V → Hp → VK → Prop} (hc : CallR X (.type ty) r) (hg : Gl X x) (hm : X.mg x = none) (hv : bootBuiltins x = some (.type ty)) (hn : x ≠ "__name__" := by decide) (hdb : (x == ("__debug__" : Str)) = false := by decide)
    (he : starEach [a] X.env = (false, eval a X.env) :: starEach [] X.env := by rfl) (hpl : (backTo pos (starEach [] X.env)).any (·.1) = false := by rfl) : Call1 X (.Name x p) a pos r := fun t h => pe_callTy hc hg hm hv h hn hdb he hpl
theorem c2b {x : Str} {p : Pos} {id : String} {r : List V → Hp → VK → Prop} (hc : CallR X (.builtin id) r) (hg : Gl X x) (hm : X.mg x = none) (hv : bootBuiltins x = some (.builtin id)) (hn : x ≠ "__name__" := by decide) (hdb : (x == ("__debug__" : Str)) = false := by decide)
    (he : starEach [a, b] X.env = (false, eval a X.env) :: starEach [b] X.env := by rfl) (hpl : (backTo pos (starEach [b] X.env)).any (·.1) = false := by rfl) : Call2 X (.Name x p) a b pos r := fun t h => pe_callB hc hg hm hv h hn hdb he hpl
theorem Call1.run {f : Expr} {rr : List V → Hp → VK → Prop} {t : TA} (h : Call1 X f a pos rr) (q : PA X [a] t) : PE X (.Call f [a] [] pos) (tCB rr t) := h t q
/-- one argument for now, an answer without heap -/
theorem ex_call1 {f : Expr} {r : List V → Hp → VK → Prop} {v : V} (hp : Call1 X f a pos r) (ha : ER X T B ρ a W ρ1 d1) (kk : ∀ x H Q, Rp X.K H x d1 → Q v H → r [x] H Q) (rd : ∀ H, Rp X.K H v d) (he : starEach [a] X.env = (false, eval a X.env) :: starEach [] X.env := by rfl) : EX X T B ρ (.Call f [a] [] pos) W ρ1 d :=
  ⟨PE.imp (hp _ (pa_cons ha.run pa_nil he)) fun σ H Q ⟨S, q⟩ => ⟨S, fun x H' S' f r => kk x H' Q r (q v H' S' f (rd _))⟩, ha.own, ha.sub⟩
/-- two arguments -/
theorem ex_call2 {f : Expr} {r : List V → Hp → VK → Prop} {v : V} (hp : Call2 X f a b pos r) (ha : EX X T B ρ a W1 ρ1 d1) (hb : EX X T B ρ1 b W2 ρ2 d2) (kk : ∀ x y H Q, Rp X.K H x d1 → Rp X.K H y d2 → Q v H → r [x, y] H Q) (rd : ∀ H, Rp X.K H v d)
    (he : starEach [a, b] X.env = (false, eval a X.env) :: starEach [b] X.env := by rfl) (he2 : starEach [b] X.env = (false, eval b X.env) :: starEach [] X.env := by rfl) : EX X T B ρ (.Call f [a, b] [] pos) (W1 ++ W2) ρ2 d :=
  ⟨PE.imp (hp _ (pa_cons ha.run (pa_cons hb.run pa_nil he2) he)) fun σ H Q ⟨S, q⟩ => ⟨S, fun x H1 S1 f1 r1 => ⟨S1, fun y H2 S2 f2 r2 => kk x y H2 Q ((carry hb f2 r1).mono (Kp.ofmsk _ _)) (r2.mono (Kp.ofmsk _ _)) (q v H2 S2 (f1.trans f2) (rd _))⟩⟩, hb.own.trans ha.own, sub_app ha.sub ha.own hb.sub⟩
section
variable {x : Str} {p : Pos} {ds : List D}
theorem ex_lenL (hg : Gl X "len") (hm : X.mg "len" = none) (ha : EL X T B ρ a W ρ1 ds) (he : starEach [a] X.env = (false, eval a X.env) :: starEach [] X.env := by rfl) : EX X T B ρ (.Call (.Name "len" p) [a] [] pos) W ρ1 (.int ds.length) :=
  ex_call1 (c1b call_len_seq hg hm boot_len (he := he)) ha.er (v := .int ds.length) (fun x H Q r q => by
    cases r with
    | lst h1 h2 => exact ⟨_, _, rfl, .inl h1, by rw [h2.length]; exact q⟩) (fun _ => .int _) he
theorem ex_lenT (hg : Gl X "len") (hm : X.mg "len" = none) (ha : EX X T B ρ a W ρ1 (.tuple ds)) (he : starEach [a] X.env = (false, eval a X.env) :: starEach [] X.env := by rfl) : EX X T B ρ (.Call (.Name "len" p) [a] [] pos) W ρ1 (.int ds.length) :=
  ex_call1 (c1b call_len_seq hg hm boot_len (he := he)) ha.r (v := .int ds.length) (fun x H Q r q => by
    cases r with
    | tup h1 h2 => exact ⟨_, _, rfl, .inr (SqT.of h1), by rw [h2.length]; exact q⟩) (fun _ => .int _) he
theorem ex_lenS {z : Str} (hg : Gl X "len") (hm : X.mg "len" = none) (ha : EX X T B ρ a W ρ1 (.str z)) (hz : z.length ≤ sizeLine) (he : starEach [a] X.env = (false, eval a X.env) :: starEach [] X.env := by rfl) : EX X T B ρ (.Call (.Name "len" p) [a] [] pos) W ρ1 (.int z.length) :=
  ex_call1 (c1b call_len_str hg hm boot_len (he := he)) ha.r (v := .int z.length) (fun x H Q r q => ⟨z, by rw [str_of r], hz, q⟩) (fun _ => .int _) he
theorem ex_abs {i : Int} (hg : Gl X "abs") (hm : X.mg "abs" = none) (ha : EX X T B ρ a W ρ1 (.int i)) (he : starEach [a] X.env = (false, eval a X.env) :: starEach [] X.env := by rfl) : EX X T B ρ (.Call (.Name "abs" p) [a] [] pos) W ρ1 (.int (i.natAbs : Int)) :=
  ex_call1 (c1b call_abs hg hm (by decide +kernel) (he := he)) ha.r (v := .int (i.natAbs : Int)) (fun x H Q r q => ⟨i, by rw [int_of r], by
    have e : (if i < 0 then -i else i) = (i.natAbs : Int) := by split <;> omega
    rw [e]; exact q⟩) (fun _ => .int _) he
theorem ex_intI {i : Int} (hg : Gl X "int") (hm : X.mg "int" = none) (ha : EX X T B ρ a W ρ1 (.int i)) (he : starEach [a] X.env = (false, eval a X.env) :: starEach [] X.env := by rfl) : EX X T B ρ (.Call (.Name "int" p) [a] [] pos) W ρ1 (.int i) :=
  ex_call1 (c1t call_int1 hg hm (by decide +kernel) (he := he)) ha.r (v := .int i) (fun x H Q r q => .inl ⟨i, by rw [int_of r], q⟩) (fun _ => .int _) he
theorem ex_intB {i : Bool} (hg : Gl X "int") (hm : X.mg "int" = none) (ha : EX X T B ρ a W ρ1 (.bool i)) (he : starEach [a] X.env = (false, eval a X.env) :: starEach [] X.env := by rfl) : EX X T B ρ (.Call (.Name "int" p) [a] [] pos) W ρ1 (.int (if i then 1 else 0)) :=
  ex_call1 (c1t call_int1 hg hm (by decide +kernel) (he := he)) ha.r (v := .int (if i then 1 else 0)) (fun x H Q r q => .inr ⟨i, by rw [bl_of r], q⟩) (fun _ => .int _) he
theorem ex_sum {ns : List Int} (hc : X.calm = true) (hg : Gl X "sum") (hm : X.mg "sum" = none) (ha : EL X T B ρ a W ρ1 (ns.map .int)) (he : starEach [a] X.env = (false, eval a X.env) :: starEach [] X.env := by rfl) : EX X T B ρ (.Call (.Name "sum" p) [a] [] pos) W ρ1 (.int ns.sum) :=
  ex_call1 (c1b (cr_sum hc) hg hm (by decide +kernel) (he := he)) ha.er (v := .int ns.sum) (fun x H Q r q => by
    cases r with
    | lst h1 h2 => rw [h2.ints] at h1; exact ⟨_, ns, rfl, h1, q⟩) (fun _ => .int _) he
/-- the greatest -/
def lmax : List Int → Int
  | [] => 0
  | [x] => x
  | x :: y :: r => max x (lmax (y :: r))
def lmin : List Int → Int
  | [] => 0
  | [x] => x
  | x :: y :: r => min x (lmin (y :: r))
theorem lmax_mem : ∀ {l : List Int}, l ≠ [] → lmax l ∈ l
  | [], h => (h rfl).elim
  | [x], _ => List.mem_cons_self
  | x :: y :: r, _ => by
    have q := lmax_mem (l := y :: r) (by simp)
    show max x (lmax (y :: r)) ∈ _
    by_cases h : x ≤ lmax (y :: r)
    · rw [Int.max_eq_right h]; exact List.mem_cons_of_mem _ q
    · rw [Int.max_eq_left (by omega)]; exact List.mem_cons_self
theorem lmax_ge : ∀ {l : List Int} {z : Int}, z ∈ l → z ≤ lmax l
  | [], z, h => by cases h
  | [x], z, h => by
    have : z = x := by simpa using h
    rw [this]; exact Int.le_refl _
  | x :: y :: r, z, h => by
    show z ≤ max x (lmax (y :: r))
    rcases List.mem_cons.mp h with e | h
    · rw [e]; exact Int.le_max_left _ _
    · exact Int.le_trans (lmax_ge h) (Int.le_max_right _ _)
theorem lmin_mem : ∀ {l : List Int}, l ≠ [] → lmin l ∈ l
  | [], h => (h rfl).elim
  | [x], _ => List.mem_cons_self
  | x :: y :: r, _ => by
    have q := lmin_mem (l := y :: r) (by simp)
    show min x (lmin (y :: r)) ∈ _
    by_cases h : x ≤ lmin (y :: r)
    · rw [Int.min_eq_left h]; exact List.mem_cons_self
    · rw [Int.min_eq_right (by omega)]; exact List.mem_cons_of_mem _ q
theorem lmin_le : ∀ {l : List Int} {z : Int}, z ∈ l → lmin l ≤ z
  | [], z, h => by cases h
  | [x], z, h => by
    have : z = x := by simpa using h
    rw [this]; exact Int.le_refl _
  | x :: y :: r, z, h => by
    show min x (lmin (y :: r)) ≤ z
    rcases List.mem_cons.mp h with e | h
    · rw [e]; exact Int.min_le_left _ _
    · exact Int.le_trans (Int.min_le_right _ _) (lmin_le h)
theorem lmax_is {l : List Int} {m : Int} (h1 : m ∈ l) (h2 : ∀ y, y ∈ l → y ≤ m) : m = lmax l := Int.le_antisymm (lmax_ge h1) (h2 _ (lmax_mem (by intro e; rw [e] at h1; cases h1)))
theorem lmin_is {l : List Int} {m : Int} (h1 : m ∈ l) (h2 : ∀ y, y ∈ l → m ≤ y) : m = lmin l := Int.le_antisymm (h2 _ (lmin_mem (by intro e; rw [e] at h1; cases h1))) (lmin_le h1)
theorem ex_max {ns : List Int} (hc : X.calm = true) (hg : Gl X "max") (hm : X.mg "max" = none) (ha : EL X T B ρ a W ρ1 (ns.map .int)) (hne : ns ≠ []) (he : starEach [a] X.env = (false, eval a X.env) :: starEach [] X.env := by rfl) : EX X T B ρ (.Call (.Name "max" p) [a] [] pos) W ρ1 (.int (lmax ns)) :=
  ex_call1 (c1b (cr_max hc) hg hm (by decide +kernel) (he := he)) ha.er (v := .int (lmax ns)) (fun x H Q r q => by
    cases r with
    | lst h1 h2 => rw [h2.ints] at h1; exact ⟨_, ns, rfl, h1, List.length_pos_iff.mpr hne, fun m z1 z2 => by rw [lmax_is z1 z2]; exact q⟩) (fun _ => .int _) he
theorem ex_min {ns : List Int} (hc : X.calm = true) (hg : Gl X "min") (hm : X.mg "min" = none) (ha : EL X T B ρ a W ρ1 (ns.map .int)) (hne : ns ≠ []) (he : starEach [a] X.env = (false, eval a X.env) :: starEach [] X.env := by rfl) : EX X T B ρ (.Call (.Name "min" p) [a] [] pos) W ρ1 (.int (lmin ns)) :=
  ex_call1 (c1b (cr_min hc) hg hm (by decide +kernel) (he := he)) ha.er (v := .int (lmin ns)) (fun x H Q r q => by
    cases r with
    | lst h1 h2 => rw [h2.ints] at h1; exact ⟨_, ns, rfl, h1, List.length_pos_iff.mpr hne, fun m z1 z2 => by rw [lmin_is z1 z2]; exact q⟩) (fun _ => .int _) he
theorem ex_max2 {i j : Int} (hc : X.calm = true) (hg : Gl X "max") (hm : X.mg "max" = none) (ha : EX X T B ρ a W1 ρ1 (.int i)) (hb : EX X T B ρ1 b W2 ρ2 (.int j)) (he : starEach [a, b] X.env = (false, eval a X.env) :: starEach [b] X.env := by rfl) (he2 : starEach [b] X.env = (false, eval b X.env) :: starEach [] X.env := by rfl) (hpl : (backTo pos (starEach [b] X.env)).any (·.1) = false := by rfl) :
    EX X T B ρ (.Call (.Name "max" p) [a, b] [] pos) (W1 ++ W2) ρ2 (.int (max i j)) :=
  ex_call2 (c2b (call_max2 hc) hg hm (by decide +kernel) (he := he) (hpl := hpl)) ha hb (v := .int (max i j)) (fun x y H Q r1 r2 q => ⟨i, j, by rw [int_of r1, int_of r2], by
    have e : (if j > i then j else i) = max i j := by split <;> omega
    rw [e]; exact q⟩) (fun _ => .int _) he he2
theorem ex_min2 {i j : Int} (hc : X.calm = true) (hg : Gl X "min") (hm : X.mg "min" = none) (ha : EX X T B ρ a W1 ρ1 (.int i)) (hb : EX X T B ρ1 b W2 ρ2 (.int j)) (he : starEach [a, b] X.env = (false, eval a X.env) :: starEach [b] X.env := by rfl) (he2 : starEach [b] X.env = (false, eval b X.env) :: starEach [] X.env := by rfl) (hpl : (backTo pos (starEach [b] X.env)).any (·.1) = false := by rfl) :
    EX X T B ρ (.Call (.Name "min" p) [a, b] [] pos) (W1 ++ W2) ρ2 (.int (min i j)) :=
  ex_call2 (c2b (call_min2 hc) hg hm (by decide +kernel) (he := he) (hpl := hpl)) ha hb (v := .int (min i j)) (fun x y H Q r1 r2 q => ⟨i, j, by rw [int_of r1, int_of r2], by
    have e : (if j < i then j else i) = min i j := by split <;> omega
    rw [e]; exact q⟩) (fun _ => .int _) he he2
/-- tuple(xs) of a list, list(xs) of a list, a tuple -/
theorem ex_tupleL (hg : Gl X "tuple") (hm : X.mg "tuple" = none) (ha : EL X T B ρ a W ρ1 ds) (he : starEach [a] X.env = (false, eval a X.env) :: starEach [] X.env := by rfl) : EX X T B ρ (.Call (.Name "tuple" p) [a] [] pos) W ρ1 (.tuple ds) :=
  ⟨PE.imp (Call1.run (c1t (p := p) call_tuple_of hg hm (by decide +kernel) (he := he)) (pa_cons ha.run pa_nil he)) fun σ H Q ⟨S, q⟩ => ⟨S, fun l xs H' S' f r1 r2 => ⟨l, xs, rfl, .inl ⟨r1, fun p np => q _ _ (S'.new np) (f.transN (Fx.new np)) (.tup (msk_new S' np) (r2.mono (kp_new np)))⟩⟩⟩, ha.own, ha.sub⟩
theorem ex_tupleT (hg : Gl X "tuple") (hm : X.mg "tuple" = none) (ha : EX X T B ρ a W ρ1 (.tuple ds)) (he : starEach [a] X.env = (false, eval a X.env) :: starEach [] X.env := by rfl) : EX X T B ρ (.Call (.Name "tuple" p) [a] [] pos) W ρ1 (.tuple ds) :=
  ⟨PE.imp (Call1.run (c1t (p := p) call_tupleT hg hm (by decide +kernel) (he := he)) (pa_cons ha.run pa_nil he)) fun σ H Q ⟨S, q⟩ => ⟨S, fun v H' S' f r => by
    cases r with
    | tup h1 h2 => exact ⟨_, _, rfl, (Kp.ofmsk _ _).sqT h1, q _ H' S' f (.tup h1 h2)⟩⟩, ha.own, ha.sub⟩
theorem ex_listL (hg : Gl X "list") (hm : X.mg "list" = none) (ha : EL X T B ρ a W ρ1 ds) (he : starEach [a] X.env = (false, eval a X.env) :: starEach [] X.env := by rfl) : EX X T B ρ (.Call (.Name "list" p) [a] [] pos) W ρ1 (.list ds) :=
  ⟨PE.imp (Call1.run (c1t (p := p) call_list_of hg hm (by decide +kernel) (he := he)) (pa_cons ha.run pa_nil he)) fun σ H Q ⟨S, q⟩ => ⟨S, fun l xs H' S' f r1 r2 => ⟨l, xs, rfl, .inl r1, fun p np => q _ _ (S'.new np) (f.transN (Fx.new np)) (.lst (SqL.of (msk_new S' np)) (r2.mono (kp_new np)))⟩⟩, ha.own, ha.sub⟩
theorem ex_listT (hg : Gl X "list") (hm : X.mg "list" = none) (ha : EX X T B ρ a W ρ1 (.tuple ds)) (he : starEach [a] X.env = (false, eval a X.env) :: starEach [] X.env := by rfl) : EX X T B ρ (.Call (.Name "list" p) [a] [] pos) W ρ1 (.list ds) :=
  ⟨PE.imp (Call1.run (c1t (p := p) call_list_of hg hm (by decide +kernel) (he := he)) (pa_cons ha.run pa_nil he)) fun σ H Q ⟨S, q⟩ => ⟨S, fun v H' S' f r => by
    cases r with
    | tup h1 h2 => exact ⟨_, _, rfl, .inr ((Kp.ofmsk _ _).sqT h1), fun p np => q _ _ (S'.new np) (f.transN (Fx.new np)) (.lst (SqL.of (msk_new S' np)) (h2.mono (kp_new np)))⟩⟩, ha.own, ha.sub⟩
end

/-! ### comprehensions -/
/-- some reading, whatever the start -/
def tSomeE (X : Cx) (T : List Addr) (e : Expr) : TE := fun σ H Q => ∃ B ρ W ρ' d, EX X T B ρ e W ρ' d ∧ TD X.K T B ρ W ρ' d σ H Q
def wipeD : Sl → List Nat → Sl
  | ρ, [] => ρ
  | ρ, v :: vs => (wipeD ρ vs).set v .un
theorem fg_set : ∀ {ρ : Sl} {i : Nat}, Fg ρ (ρ.set i .un)
  | [], _ => .nil
  | _ :: r, 0 => .un (Fg.refl r)
  | _ :: r, i + 1 => .same (fg_set (ρ := r) (i := i))
theorem fg_wipe : ∀ {vs : List Nat} {ρ : Sl}, Fg ρ (wipeD ρ vs)
  | [], ρ => Fg.refl ρ
  | v :: vs, ρ => (fg_wipe (vs := vs)).trans fg_set
end
end Dv

set_option maxRecDepth 100000
namespace Dv
open PySem PySem.Spec PyProof.Rows L2

/-! ### the names of a block forgotten, and known again -/
/-- alike but for what owned things hold -/
inductive Sh : Sl → Sl → Prop
  | nil : Sh [] []
  | same {s : Slot} {r r' : Sl} : Sh r r' → Sh (s :: r) (s :: r')
  | own {a : Addr} {d d' : D} {r r' : Sl} : Sh r r' → Sh (.own a d :: r) (.own a d' :: r')
theorem Sh.refl : ∀ ρ : Sl, Sh ρ ρ
  | [] => .nil
  | _ :: r => .same (Sh.refl r)
theorem Sh.owns : ∀ {ρ ρ' : Sl}, Sh ρ ρ' → Dv.owns ρ' = Dv.owns ρ
  | _, _, .nil => rfl
  | .own a d :: _, _, .same h => by show a :: _ = a :: _; rw [h.owns]
  | .un :: _, _, .same h => h.owns (ρ := _)
  | .dat d :: _, _, .same h => h.owns (ρ := _)
  | .own a d :: _, _, .own h => by show a :: _ = a :: _; rw [h.owns]
theorem Sh.length : ∀ {ρ ρ' : Sl}, Sh ρ ρ' → ρ'.length = ρ.length
  | _, _, .nil => rfl
  | _, _, .same h => by rw [List.length_cons, List.length_cons, h.length]
  | _, _, .own h => by rw [List.length_cons, List.length_cons, h.length]
theorem Sh.get : ∀ {ρ ρ' : Sl}, Sh ρ ρ' → ∀ {i : Nat} {s : Slot}, ρ'[i]? = some s → ρ[i]? = some s ∨ ∃ a d d', s = .own a d' ∧ ρ[i]? = some (.own a d)
  | _, _, .nil, i, s, e => by simp at e
  | _, _, .same h, 0, s, e => .inl e
  | _, _, .own h, 0, s, e => .inr ⟨_, _, _, (Option.some.inj e).symm, rfl⟩
  | _, _, .same h, i + 1, s, e => by
    rcases h.get (i := i) (by simpa using e) with z | ⟨a, d, d', e1, e2⟩
    · exact .inl (by simpa using z)
    · exact .inr ⟨a, d, d', e1, by simpa using e2⟩
  | _, _, .own h, i + 1, s, e => by
    rcases h.get (i := i) (by simpa using e) with z | ⟨a, d, d', e1, e2⟩
    · exact .inl (by simpa using z)
    · exact .inr ⟨a, d, d', e1, by simpa using e2⟩
/-- no owned thing at these slots -/
def noOwn (ρ : Sl) (vs : List Nat) : Bool := vs.all fun i => match ρ[i]? with
  | some (.own _ _) => false
  | _ => true
theorem noOwn_at {ρ : Sl} {vs : List Nat} (h : noOwn ρ vs = true) {i : Nat} (hi : i ∈ vs) (a : Addr) (d : D) : ρ[i]? ≠ some (.own a d) := fun e => by
  have q := List.all_eq_true.mp h i hi
  simp only [e] at q
  cases q
theorem wipeD_length : ∀ {vs : List Nat} {ρ : Sl}, (wipeD ρ vs).length = ρ.length
  | [], _ => rfl
  | v :: vs, ρ => by unfold wipeD; rw [List.length_set, wipeD_length]
theorem wipeD_in : ∀ {vs : List Nat} {ρ : Sl} {i : Nat}, i ∈ vs → i < ρ.length → (wipeD ρ vs)[i]? = some .un
  | [], _, _, h, _ => by cases h
  | v :: vs, ρ, i, h, hl => by
    unfold wipeD
    by_cases q : v = i
    · subst q
      rw [List.getElem?_set_self (by rw [wipeD_length]; exact hl)]
    · rw [List.getElem?_set_ne q]
      rcases List.mem_cons.mp h with z | z
      · exact absurd z.symm q
      · exact wipeD_in z hl
theorem wipeD_out : ∀ {vs : List Nat} {ρ : Sl} {i : Nat}, i ∉ vs → (wipeD ρ vs)[i]? = ρ[i]?
  | [], _, _, _ => rfl
  | v :: vs, ρ, i, h => by
    unfold wipeD
    rw [List.getElem?_set_ne (fun z => h (by rw [z]; exact List.mem_cons_self)), wipeD_out (fun z => h (List.mem_cons_of_mem _ z))]
theorem owns_set_un : ∀ {ρ : Sl} {i : Nat}, (∀ a d, ρ[i]? ≠ some (.own a d)) → owns (ρ.set i .un) = owns ρ
  | [], _, _ => rfl
  | .own a d :: r, 0, h => absurd rfl (h a d)
  | .un :: r, 0, _ => rfl
  | .dat d :: r, 0, _ => rfl
  | .own a d :: r, i + 1, h => by show a :: _ = a :: _; exact congrArg _ (owns_set_un fun b e z => h b e (by simpa using z))
  | .un :: r, i + 1, h => owns_set_un (ρ := r) fun b e z => h b e (by simpa using z)
  | .dat d :: r, i + 1, h => owns_set_un (ρ := r) fun b e z => h b e (by simpa using z)
theorem owns_wipe : ∀ {vs : List Nat} {ρ : Sl}, noOwn ρ vs = true → owns (wipeD ρ vs) = owns ρ
  | [], _, _ => rfl
  | v :: vs, ρ, h => by
    have h' : noOwn ρ vs = true := List.all_eq_true.mpr fun i hi => List.all_eq_true.mp h i (List.mem_cons_of_mem _ hi)
    unfold wipeD
    rw [owns_set_un, owns_wipe h']
    intro a d e
    by_cases q : v ∈ vs
    · by_cases hl : v < ρ.length
      · rw [wipeD_in q hl] at e; cases e
      · rw [List.getElem?_eq_none (by rw [wipeD_length]; omega)] at e; cases e
    · rw [wipeD_out q] at e
      exact noOwn_at h List.mem_cons_self a d e
theorem Sh.noOwn {ρ ρ' : Sl} (h : Sh ρ ρ') {vs : List Nat} (n : Dv.noOwn ρ vs = true) : Dv.noOwn ρ' vs = true := List.all_eq_true.mpr fun i hi => by
  cases q : ρ'[i]? with
  | none => rfl
  | some s =>
    cases s with
    | un => rfl
    | dat d => rfl
    | own a d =>
      rcases h.get q with z | ⟨b, e, e', e1, e2⟩
      · exact absurd z (noOwn_at n hi a d)
      · exact absurd e2 (noOwn_at n hi b e)
theorem wipe_out2 {σ : L2.St} {i : Nat} {vs : List Nat} (h : i ∉ vs) : (wipe σ vs)[i]? = σ[i]? := L2.wipe_out h

/-- the start of a block, the new list at L -/
def Bs.blk (B : Bs) (ρ : Sl) (H : Hp) (L : Addr) : Bs := ⟨L :: B.out, L :: owns ρ, upd H L (.lst [])⟩
section
variable {K : PySem.W.Frag} {T : List Addr} {B : Bs} {ρ ρ1 ρ' : Sl} {σ : L2.St} {H H1 H' : Hp} {L : Addr} {vs : List Nat}
theorem kp_blk (S : Sim K T B ρ σ H) (n : H L = none) : Kp (msk (B.all ρ) H) (msk (L :: B.all ρ) (upd H L (.lst []))) := fun a o _ e => by
  obtain ⟨q, e⟩ := msk_some e
  have ne : a ≠ L := ne_of_none e n
  rw [msk_out (fun z => by
    rcases List.mem_cons.mp z with z | z
    · exact ne z
    · exact q z), upd_ne ne]
  exact e
theorem sim_blk (S : Sim K T B ρ σ H) (n : H L = none) (ho : noOwn ρ vs = true) : Sim K T (B.blk ρ H L) (wipeD ρ vs) (wipe σ vs) (upd H L (.lst [])) := by
  have ow := owns_wipe ho
  have eall : (B.blk ρ H L).all (wipeD ρ vs) = L :: B.all ρ := by show (L :: B.out) ++ owns (wipeD ρ vs) = L :: (B.out ++ owns ρ); rw [ow]; rfl
  refine ⟨by rw [wipeD_length, wipe_length]; exact S.len, fun i s e => ?_, by rw [ow]; exact S.nodup, fun a z y => ?_, fun a z => ?_, Fx.refl _ _, fun a z => .inl (by rw [ow] at z; exact List.mem_cons_of_mem _ z), fun P z => tab_new n (S.tabs P z), fun _ z => z⟩
  · by_cases q : i ∈ vs
    · have hl : i < ρ.length := by
        have := (List.getElem?_eq_some_iff.mp e).1
        rwa [wipeD_length] at this
      rw [wipeD_in q hl] at e
      cases e
      trivial
    · rw [wipeD_out q] at e
      rw [wipe_out2 q]
      show At K _ (msk ((B.blk ρ H L).all (wipeD ρ vs)) _) s _
      rw [eall]
      exact (S.at_ i s e).mono (kp_blk S n) fun a d _ ob _ z => by rw [upd_ne (ne_of_none z n)]; exact z
  · rw [ow] at z
    rcases List.mem_cons.mp y with y | y
    · obtain ⟨o, e, _⟩ := S.held a (List.mem_append_right _ z)
      exact ne_of_none e n y
    · exact S.disj a z y
  · rcases List.mem_cons.mp z with z | z
    · exact ⟨_, by rw [z, upd_same], rfl⟩
    · obtain ⟨o, e, no⟩ := S.outs a z
      exact ⟨o, by rw [upd_ne (ne_of_none e n)]; exact e, no⟩
theorem kp_back (S1 : Sim K T B ρ1 σ H1) (n : H1 L = none) (S : Sim K T (B.blk ρ1 H1 L) (wipeD ρ' vs) (wipe σ vs) H') : ∀ a o, notTbl o = true → a ∉ owns ρ1 → H1 a = some o → H' a = some o := fun a o no q e =>
  S.frame a o no (fun z => by
    rcases List.mem_cons.mp z with z | z
    · exact ne_of_none e n z
    · exact q z) (by show upd H1 L (.lst []) a = some o; rw [upd_ne (ne_of_none e n)]; exact e)
theorem sim_back (S1 : Sim K T B ρ1 σ H1) (n : H1 L = none) (ho : noOwn ρ1 vs = true) (h : Sh ρ1 ρ') (S : Sim K T (B.blk ρ1 H1 L) (wipeD ρ' vs) (wipe σ vs) H') : Sim K T (B.add L) ρ' σ H' := by
  have ow : owns (wipeD ρ' vs) = owns ρ' := owns_wipe (h.noOwn ho)
  have ow1 := h.owns
  refine ⟨by rw [h.length]; exact S1.len, fun i s e => ?_, by rw [ow1]; exact S1.nodup, fun a z => ?_, S.outs, fun a o no w e => ?_, fun a z => S1.fresh a (by rw [← ow1]; exact z), S.tabs, fun a z => S.dom a ?_⟩
  · by_cases q : i ∈ vs
    · have hs : ρ1[i]? = some s := by
        rcases h.get e with z | ⟨b, d, d', e1, e2⟩
        · exact z
        · exact absurd e2 (noOwn_at ho q b d)
      refine (S1.at_ i s hs).mono (fun a o no z => ?_) fun a d es => ?_
      · obtain ⟨z1, z2⟩ := msk_some z
        rw [msk_out (fun y => ?_)]
        · exact kp_back S1 n S a o no (fun y => z1 (List.mem_append_right _ y)) z2
        · have y : a ∈ (L :: B.out) ++ owns ρ' := y
          rw [ow1] at y
          rcases List.mem_cons.mp y with y | y
          · exact ne_of_none z2 n y
          · exact z1 y
      · subst es
        exact absurd hs (noOwn_at ho q a d)
    · have e' : (wipeD ρ' vs)[i]? = some s := by rw [wipeD_out q]; exact e
      have z := S.at_ i s e'
      rw [wipe_out2 q] at z
      refine z.mono (Kp.sub fun a y => ?_) fun _ _ _ _ _ y => y
      show a ∈ (L :: B.out) ++ owns (wipeD ρ' vs)
      rw [ow]
      exact y
  · rw [ow1] at z
    intro y
    rcases List.mem_cons.mp y with y | y
    · obtain ⟨o, e, _⟩ := S1.held a (List.mem_append_right _ z)
      exact ne_of_none e n y
    · exact S1.disj a z y
  · have e : B.H0 a = some o := e
    refine kp_back S1 n S a o no (fun z => ?_) (S1.frame a o no w e)
    rcases S1.fresh a z with z | z
    · exact w z
    · rw [e] at z; cases z
  · show upd H1 L (.lst []) a ≠ none
    have q := S1.dom a z
    by_cases ql : a = L
    · rw [ql, upd_same]; exact fun z => by cases z
    · rw [upd_ne ql]; exact q
end
theorem sim_unadd {K : PySem.W.Frag} {T : List Addr} {B : Bs} {ρ : Sl} {σ : L2.St} {H : Hp} {L : Addr} (S : Sim K T (B.add L) ρ σ H) : Sim K T B ρ σ H :=
  ⟨S.len, fun i s e => (S.at_ i s e).mono (Kp.sub fun a z => by
    rcases List.mem_append.mp z with z | z
    · exact List.mem_append_left _ (List.mem_cons_of_mem _ z)
    · exact List.mem_append_right _ z) fun _ _ _ _ _ y => y, S.nodup, fun a z y => S.disj a z (List.mem_cons_of_mem _ y), fun a z => S.outs a (List.mem_cons_of_mem _ z), S.frame, S.fresh, S.tabs, S.dom⟩
/-- a new list that nothing knows -/
theorem sim_add {K : PySem.W.Frag} {T : List Addr} {B : Bs} {ρ : Sl} {σ : L2.St} {H : Hp} {L : Addr} {o : HO} (S : Sim K T B ρ σ H) (n : H L = none) (no : mutb o = true) : Sim K T (B.add L) ρ σ (upd H L o) := by
  have z := S.new (o := o) n
  refine ⟨S.len, fun i s e => ?_, S.nodup, fun a q y => ?_, fun a q => ?_, z.frame, z.fresh, z.tabs, z.dom⟩
  · refine (S.at_ i s e).mono (fun a o _ q => ?_) fun a d _ ob _ y => by rw [upd_ne (ne_of_none y n)]; exact y
    obtain ⟨q1, q2⟩ := msk_some q
    have ne := ne_of_none q2 n
    rw [msk_out (fun y => by
      rcases List.mem_cons.mp (show a ∈ L :: (B.out ++ owns ρ) from y) with y | y
      · exact ne y
      · exact q1 y), upd_ne ne]
    exact q2
  · rcases List.mem_cons.mp y with y | y
    · obtain ⟨o, e, _⟩ := S.held a (List.mem_append_right _ q)
      exact ne_of_none e n y
    · exact S.disj a q y
  · rcases List.mem_cons.mp q with q | q
    · exact ⟨o, by rw [q, upd_same], no⟩
    · exact z.outs a q
theorem wipe_at {σ : L2.St} {i : Nat} : ∀ {vs : List Nat}, i ∈ vs → i < σ.length → (wipe σ vs)[i]? = some none
  | [], h, _ => by cases h
  | v :: vs, h, hl => by
    unfold wipe
    by_cases q : v = i
    · subst q
      rw [List.getElem?_set_self (by rw [wipe_length]; exact hl)]
    · rw [List.getElem?_set_ne q]
      rcases List.mem_cons.mp h with z | z
      · exact absurd z.symm q
      · exact wipe_at z hl
theorem wipe_wipe {σ : L2.St} {vs : List Nat} : wipe (wipe σ vs) vs = wipe σ vs := by
  apply List.ext_getElem?
  intro i
  by_cases q : i ∈ vs
  · by_cases hl : i < σ.length
    · rw [wipe_at q (by rw [wipe_length]; exact hl), wipe_at q hl]
    · rw [List.getElem?_eq_none (by rw [wipe_length, wipe_length]; omega), List.getElem?_eq_none (by rw [wipe_length]; omega)]
  · rw [wipe_out2 q]
theorem wipeD_wipeD {ρ : Sl} {vs : List Nat} : wipeD (wipeD ρ vs) vs = wipeD ρ vs := by
  apply List.ext_getElem?
  intro i
  by_cases q : i ∈ vs
  · by_cases hl : i < ρ.length
    · rw [wipeD_in q (by rw [wipeD_length]; exact hl), wipeD_in q hl]
    · rw [List.getElem?_eq_none (by rw [wipeD_length, wipeD_length]; omega), List.getElem?_eq_none (by rw [wipeD_length]; omega)]
  · rw [wipeD_out q]
theorem sim_wiped {K : PySem.W.Frag} {T : List Addr} {B : Bs} {ρ : Sl} {σ : L2.St} {H : Hp} {vs : List Nat} (S : Sim K T B ρ σ H) : Sim K T B (wipeD ρ vs) (wipe σ vs) H := by
  have z := S.fg (fg_wipe (vs := vs))
  refine ⟨by rw [wipeD_length, wipe_length]; exact S.len, fun i s e => ?_, z.nodup, z.disj, z.outs, z.frame, z.fresh, z.tabs, z.dom⟩
  by_cases q : i ∈ vs
  · have hl : i < ρ.length := by
      have := (List.getElem?_eq_some_iff.mp e).1
      rwa [wipeD_length] at this
    rw [wipeD_in q hl] at e
    cases e
    trivial
  · rw [wipe_out2 q]
    exact z.at_ i s e
theorem msk_upd {O : List Addr} {H : Hp} {a : Addr} {o : HO} (h : a ∈ O) : msk O (upd H a o) = msk O H := by
  funext b
  unfold msk
  by_cases q : b ∈ O
  · rw [if_pos q, if_pos q]
  · rw [if_neg q, if_neg q, upd_ne (fun z => q (by rw [z]; exact h))]
/-- a thing that is out of sight is written -/
theorem sim_out {K : PySem.W.Frag} {T : List Addr} {B : Bs} {ρ : Sl} {σ : L2.St} {H : Hp} {a : Addr} {o u : HO} (S : Sim K T B ρ σ H) (ha : a ∈ B.out) (hl : a ∈ B.lent) (hu : H a = some u) (nu : notTbl u = true) (no : mutb o = true) : Sim K T B ρ σ (upd H a o) := by
  have hm : a ∈ B.all ρ := List.mem_append_left _ ha
  refine ⟨S.len, fun i s e => ?_, S.nodup, S.disj, fun b z => ?_, fun b p np w e => ?_, S.fresh, fun P z => ?_, fun b z => ?_⟩
  · rw [msk_upd hm]
    refine (S.at_ i s e).mono (Kp.refl _) fun b d es ob nob z => ?_
    subst es
    rw [upd_ne (fun y => S.disj b (mem_owns.mpr ⟨i, d, e⟩) (by rw [y]; exact ha))]
    exact z
  · by_cases q : b = a
    · rw [q]; exact ⟨o, upd_same, no⟩
    · rw [upd_ne q]; exact S.outs b z
  · rw [upd_ne (fun y => w (by rw [y]; exact hl))]
    exact S.frame b p np w e
  · obtain ⟨ps, e, t⟩ := S.tabs P z
    refine ⟨ps, ?_, t⟩
    rw [upd_ne (fun y => ?_)]
    · exact e
    · rw [y, hu] at e; cases e; cases nu
  · by_cases q : b = a
    · rw [q, upd_same]; exact fun y => by cases y
    · rw [upd_ne q]; exact S.dom b z

/-! ### the block's own judgements -/
section
variable {X : Cx} {T : List Addr} {B : Bs} {ρ ρ1 ρ2 ρ3 : Sl} {W W1 W2 W3 : List Addr} {e a b c : Expr} {d d1 d2 d3 : D} {pos : Pos} {k : DE} {st : Stmt} {r : List Stmt}
/-- tests of a comprehension -/
def TXs (X : Cx) (T : List Addr) (B : Bs) (ρ : Sl) (ifs : List Expr) (k : Bool) : Prop := PTs X ifs (TTd X.K T B ρ [] ρ k)
theorem txs_nil : TXs X T B ρ [] true := ⟨fun pins s σ H Q I ⟨S, q⟩ => pts_nil.run pins s σ H Q I (q H S (Fx.refl _ _))⟩
theorem txs_one {kb : Bool} (h : TX X T B ρ c [] ρ kb) : TXs X T B ρ [c] kb := pts_one h.run
abbrev Bk (X : Cx) (scope : Scope) (s : Shared) (H : Hp) (C : Addr) (cl : List (Str × Addr)) (fp : List Addr) : Cx := X.blk s H scope (compEnvC scope cl C X.env) fp
def gB (X : Cx) (T : List Addr) (scope : Scope) (tg : Expr) (vs : List Nat) : TG := fun v σ H Q => ∃ B ρ d ρ', (∀ s H C cl fp, GX (Bk X scope s H C cl fp) T B ρ tg vs d ρ') ∧ Sim X.K T B ρ σ H ∧ Rp X.K (msk (B.all ρ) H) v d ∧ ∀ σ', Sim X.K T B ρ' σ' H → wipe σ' vs = wipe σ vs → Q σ' H
def tB' (X : Cx) (T : List Addr) (scope : Scope) (ifs : List Expr) : TT := fun σ H Q => ∃ B ρ k, (∀ s H C cl fp, TXs (Bk X scope s H C cl fp) T B ρ ifs k) ∧ TTd X.K T B ρ [] ρ k σ H Q
def eB (X : Cx) (T : List Addr) (scope : Scope) (e : Expr) : TE := fun σ H Q => ∃ B ρ W ρ' d, (∀ s H C cl fp, EX (Bk X scope s H C cl fp) T B ρ e W ρ' d) ∧ TD X.K T B ρ W ρ' d σ H Q
/-- the states and the items, turn by turn -/
def lcF {St α : Type} (step : St → α → St × Option D) : St → List α → St × List D
  | s, [] => (s, [])
  | s, d :: ds => ((lcF step (step s d).1 ds).1, (step s d).2.toList ++ (lcF step (step s d).1 ds).2)
theorem lcF_app {St α : Type} (step : St → α → St × Option D) : ∀ (s : St) (ds : List α) (d : α), lcF step s (ds ++ [d]) = ((step (lcF step s ds).1 d).1, (lcF step s ds).2 ++ (step (lcF step s ds).1 d).2.toList)
  | s, [], d => by simp [lcF]
  | s, x :: ds, d => by
    show ((lcF step (step s x).1 (ds ++ [d])).1, _ ++ (lcF step (step s x).1 (ds ++ [d])).2) = _
    rw [lcF_app step (step s x).1 ds d, ← List.append_assoc]
    rfl
theorem lcF_len {St α : Type} (step : St → α → St × Option D) : ∀ (s : St) (ds : List α), (lcF step s ds).2.length ≤ ds.length
  | _, [] => Nat.le_refl _
  | s, d :: ds => by
    show ((step s d).2.toList ++ (lcF step (step s d).1 ds).2).length ≤ _
    rw [List.length_append, List.length_cons]
    have := lcF_len step (step s d).1 ds
    have h1 : (step s d).2.toList.length ≤ 1 := by cases (step s d).2 <;> simp
    omega
/-- what a turn of a comprehension does -/
structure Turn1 (X : Cx) (T : List Addr) (scope : Scope) (elt tg : Expr) (ifs : List Expr) (vs : List Nat) (Wc : List Addr) (ρ : Sl) (d : D) (ρ' : Sl) (o : Option D) : Prop where
  go : ∀ B, ∃ ρb, owns ρb = owns ρ ∧ (∀ s H C cl fp, GX (Bk X scope s H C cl fp) T B (wipeD ρ vs) tg vs d ρb) ∧ (∀ s H C cl fp, TXs (Bk X scope s H C cl fp) T B ρb ifs o.isSome) ∧
    (∀ y, o = some y → ∃ W ρc, (∀ a ∈ W, a ∈ Wc) ∧ owns ρc = owns ρ ∧ (∀ s H C cl fp, EX (Bk X scope s H C cl fp) T B ρb elt W ρc y) ∧ Fg ρc (wipeD ρ' vs)) ∧ (o = none → Fg ρb (wipeD ρ' vs))
theorem lc_read {St α : Type} {elt tg : Expr} {ifs : List Expr} {scope : Scope} {qs : List α} {vs : List Nat} {Wc : List Addr} (ρs : St → Sl) (s0 : St) (step : St → α → St × Option D) (en : α → D) {wi : TI}
    (hw : ∀ σ H R, Sim X.K T B ρ σ H → (∀ J H1, Sim X.K T B (ρs s0) σ H1 → Fx W H H1 → Walked X.K (B.all (ρs s0)) (qs.map en) J H1 → R J H1) → wi σ H R)
    (hlen : qs.length ≤ sizeLine) (hsh : ∀ s, Sh (ρs s0) (ρs s)) (hno : noOwn (ρs s0) vs = true) (hWc : ∀ a ∈ Wc, a ∈ owns (ρs s0))
    (hb : ∀ s d, d ∈ qs → Turn1 X T scope elt tg ifs vs Wc (ρs s) (en d) (ρs (step s d).1) (step s d).2)
    {σ : L2.St} {H : Hp} {Q : VK} (S : Sim X.K T B ρ σ H) (q : ∀ p H', B.H0 p = none → Sim X.K T (B.add p) (ρs (lcF step s0 qs).1) σ H' → Fx (W ++ Wc) H H' → (∃ xs, H' p = some (.lst xs) ∧ p ∉ B.all (ρs s0) ∧ RpA X.K (msk (p :: B.all (ρs s0)) H') xs (lcF step s0 qs).2) → Q (.ref p) H') :
    tLc wi (gB X T scope tg vs) (tB' X T scope ifs) (eB X T scope elt) vs σ H Q := by
  refine hw σ H _ S fun J H1 S1 f1 wk L nL => ?_
  have nL0 : L ∉ B.all (ρs s0) := S1.free nL
  refine ⟨fun i m H' => m = qs.length - i ∧ i ≤ qs.length ∧ ∃ acc, Sim X.K T (B.blk (ρs s0) H1 L) (wipeD (ρs (lcF step s0 (qs.take i)).1) vs) (wipe σ vs) H' ∧ H' L = some (.lst acc) ∧ RpA X.K (msk (L :: B.all (ρs s0)) H') acc (lcF step s0 (qs.take i)).2 ∧ Fx (Wc ++ [L]) (upd H1 L (.lst [])) H',
    ⟨qs.length, by simp, Nat.zero_le _, [], sim_blk S1 nL hno, upd_same, .nil, Fx.refl _ _⟩, ?_⟩
  rintro i m H' ⟨rfl, hi', acc, S', hL, hacc, hfx⟩
  have hshi := hsh (lcF step s0 (qs.take i)).1
  have ow := owns_wipe (hshi.noOwn hno)
  have eall : (B.blk (ρs s0) H1 L).all (wipeD (ρs (lcF step s0 (qs.take i)).1) vs) = L :: B.all (ρs s0) := by
    show (L :: B.out) ++ owns (wipeD _ vs) = L :: (B.out ++ owns (ρs s0))
    rw [ow, hshi.owns]; rfl
  have kk : Kp (msk (B.all (ρs s0)) H1) (msk (L :: B.all (ρs s0)) H') := fun a o no e => by
    obtain ⟨z1, z2⟩ := msk_some e
    have ne : a ≠ L := ne_of_none z2 nL
    rw [msk_out (fun z => by
      rcases List.mem_cons.mp z with z | z
      · exact ne z
      · exact z1 z)]
    exact kp_back S1 nL S' a o no (fun z => z1 (List.mem_append_right _ z)) z2
  have held : ∀ a ∈ (L :: B.all (ρs s0)), ∃ o, H' a = some o := fun a z => by
    rw [← eall] at z
    obtain ⟨o, e, _⟩ := S'.held a z
    exact ⟨o, e⟩
  by_cases hlt : i < qs.length
  · have hdi : qs[i]? = some qs[i] := List.getElem?_eq_getElem hlt
    have hdm : (qs.map en)[i]? = some (en qs[i]) := by rw [List.getElem?_map, hdi]; rfl
    have hlm : i < (qs.map en).length := by rw [List.length_map]; exact hlt
    have etk : qs.take (i + 1) = qs.take i ++ [qs[i]] := by rw [List.take_add_one, hdi]; rfl
    have hsucc := lcF_app step s0 (qs.take i) qs[i]
    rw [← etk] at hsucc
    refine .inr ⟨wk.go i _ H' kk hlm, fun H2 => ∃ acc, Sim X.K T (B.blk (ρs s0) H1 L) (wipeD (ρs (lcF step s0 (qs.take (i + 1))).1) vs) (wipe σ vs) H2 ∧ H2 L = some (.lst acc) ∧ RpA X.K (msk (L :: B.all (ρs s0)) H2) acc (lcF step s0 (qs.take (i + 1))).2 ∧ Fx (Wc ++ [L]) (upd H1 L (.lst [])) H2,
      fun H2 z => ⟨qs.length - (i + 1), by omega, rfl, hlt, z⟩, fun v H2 y => ?_⟩
    obtain ⟨hH, d, hd', hrp⟩ := wk.yld i _ H' v H2 kk held hlm y
    rw [hdm] at hd'
    cases hd'
    obtain ⟨t1, t2, t3⟩ := tab_keep hH
    have S2 := S'.grow t1 (fun P z => t2 P (S'.tabs P z)) t3
    have hL2 : H2 L = some (.lst acc) := t1 _ _ rfl hL
    have hacc2 : RpA X.K (msk (L :: B.all (ρs s0)) H2) acc (lcF step s0 (qs.take i)).2 := hacc.mono fun a o no e => by
      obtain ⟨z1, z2⟩ := msk_some e
      rw [msk_out z1]; exact t1 a o no z2
    have hfx2 : Fx (Wc ++ [L]) (upd H1 L (.lst [])) H2 := fun a o no w e => t1 a o no (hfx a o no w e)
    obtain ⟨ρb, g0, g1, g2, g3, g4⟩ := (hb (lcF step s0 (qs.take i)).1 qs[i] (List.getElem_mem hlt)).go (B.blk (ρs s0) H1 L)
    refine ⟨_, _, en qs[i], ρb, g1, S2, by rw [eall]; exact hrp, fun σ2 S3 hwp => ?_⟩
    have hwp2 : wipe σ2 vs = wipe σ vs := by rw [hwp, wipe_wipe]
    refine ⟨hwp2, _, ρb, _, g2, S3, fun H3 S4 f4 => ?_⟩
    -- back to the wiped names
    have backS : ∀ {ρc : Sl} {ρ' : Sl} {H9 : Hp}, Sim X.K T (B.blk (ρs s0) H1 L) ρc σ2 H9 → Fg ρc (wipeD ρ' vs) → Sim X.K T (B.blk (ρs s0) H1 L) (wipeD ρ' vs) (wipe σ vs) H9 := fun {ρc ρ' H9} S9 fg => by
      have z := sim_wiped (vs := vs) (S9.fg fg)
      rw [wipeD_wipeD, hwp2] at z
      exact z
    have k4 : Kp H2 H3 := f4.kpN
    cases ho : (step (lcF step s0 (qs.take i)).1 qs[i]).2 with
    | none =>
      show (if false = true then _ else _)
      rw [if_neg Bool.false_ne_true]
      refine ⟨acc, ?_, k4 _ _ rfl hL2, ?_, fun a o no w e => k4 a o no (hfx2 a o no w e)⟩
      · rw [hsucc]; exact backS S4 (g4 ho)
      · rw [hsucc, ho]
        simp only [Option.toList_none, List.append_nil]
        exact hacc2.mono fun a o no e => by
          obtain ⟨z1, z2⟩ := msk_some e
          rw [msk_out z1]; exact k4 a o no z2
    | some y =>
      show (if true = true then _ else _)
      rw [if_pos rfl]
      obtain ⟨W', ρc, hW', g50, g5, g6⟩ := g3 y ho
      refine ⟨_, ρb, W', ρc, y, g5, S4, fun w H4 S5 f5 rw_ => ?_⟩
      have LW : L ∉ W' := fun z => nL0 (List.mem_append_right _ (hWc _ (hW' _ z)))
      have hL4 : H4 L = some (.lst acc) := f5 _ _ rfl LW (k4 _ _ rfl hL2)
      have S6 := backS S5 g6
      have eall6 : (B.blk (ρs s0) H1 L).all (wipeD (ρs (step (lcF step s0 (qs.take i)).1 qs[i]).1) vs) = L :: B.all (ρs s0) := by
        show (L :: B.out) ++ owns (wipeD _ vs) = L :: (B.out ++ owns (ρs s0))
        rw [owns_wipe ((hsh _).noOwn hno), (hsh _).owns]; rfl
      have kO : Kp (msk (L :: B.all (ρs s0)) H3) (msk (L :: B.all (ρs s0)) H4) := f5.kp fun a z => List.mem_cons_of_mem _ (List.mem_append_right _ (hWc _ (hW' _ z)))
      have hacc4 : RpA X.K (msk (L :: B.all (ρs s0)) H4) acc (lcF step s0 (qs.take i)).2 := (hacc2.mono fun a o no e => by
        obtain ⟨z1, z2⟩ := msk_some e
        rw [msk_out z1]; exact k4 a o no z2).mono kO
      have eoc : owns ρc = owns (ρs s0) := g50.trans (hsh _).owns
      have rw2 : Rp X.K (msk (L :: B.all (ρs s0)) H4) w y := rw_.mono (Kp.sub fun a z => by
        show a ∈ (L :: B.out) ++ owns ρc
        rw [eoc]; exact z)
      refine ⟨acc, hL4, ?_, acc ++ [w], ?_, upd_same, ?_, ?_⟩
      · have h1 := hacc.length
        have h2 := lcF_len step s0 (qs.take i)
        have h3 : (qs.take i).length ≤ i := by rw [List.length_take]; exact Nat.min_le_left _ _
        omega
      · rw [hsucc]
        exact sim_out S6 (by show L ∈ L :: B.out; exact List.mem_cons_self) (by show L ∈ L :: owns (ρs s0); exact List.mem_cons_self) hL4 rfl rfl
      · rw [hsucc, ho, msk_upd List.mem_cons_self]
        exact hacc4.snoc rw2
      · intro a o no wn e
        rw [upd_ne (fun z => wn (List.mem_append_right _ (by rw [z]; exact List.mem_cons_self)))]
        exact f5 a o no (fun z => wn (List.mem_append_left _ (hW' _ z))) (k4 a o no (hfx2 a o no wn e))
  · have e : i = qs.length := by omega
    subst e
    rw [List.take_length] at S' hacc hshi
    refine .inl ⟨wk.stop _ _ H' kk (by rw [List.length_map]; exact Nat.le_refl _), q L H' ?_ (sim_back S1 nL hno hshi S') (f1.trans ?_) ⟨acc, hL, nL0, hacc⟩⟩
    · cases hz : B.H0 L with
      | none => rfl
      | some o => exact absurd nL (S1.dom L (by rw [hz]; exact fun z => by cases z))
    · intro a o no w e
      refine hfx a o no (fun z => ?_) (by rw [upd_ne (ne_of_none e nL)]; exact e)
      rcases List.mem_append.mp z with z | z
      · exact w z
      · exact ne_of_none e nL (by simpa using z)

/-! ### new lists -/
/-- e is a new list that nothing else knows -/
structure EO (X : Cx) (T : List Addr) (B : Bs) (ρ : Sl) (e : Expr) (W : List Addr) (ρ' : Sl) (ds : List D) : Prop where
  run : PE X e (fun σ H Q => Sim X.K T B ρ σ H ∧ ∀ p xs H', B.H0 p = none → Sim X.K T (B.add p) ρ' σ H' → Fx W H H' → H' p = some (.lst xs) → p ∉ B.all ρ' → RpA X.K (msk (p :: B.all ρ') H') xs ds → Q (.ref p) H')
  own : owns ρ' = owns ρ
  sub : ∀ a ∈ W, a ∈ owns ρ
theorem rp_new {K : PySem.W.Frag} {H' : Hp} {p : Addr} {xs : List V} {ds : List D} {O : List Addr} (h1 : H' p = some (.lst xs)) (h2 : p ∉ O) (h3 : RpA K (msk (p :: O) H') xs ds) : Rp K (msk O H') (.ref p) (.list ds) :=
  .lst (SqL.of (by rw [msk_out h2]; exact h1)) (h3.mono (Kp.sub fun a z => List.mem_cons_of_mem _ z))
theorem EO.ex {ds : List D} (h : EO X T B ρ e W ρ1 ds) : EX X T B ρ e W ρ1 (.list ds) := ⟨PE.imp h.run fun σ H Q ⟨S, q⟩ => ⟨S, fun p xs H' _ S' f h1 h2 h3 => q _ H' (sim_unadd S') f (rp_new h1 h2 h3)⟩, h.own, h.sub⟩
theorem free_H0 {K : PySem.W.Frag} {σ : L2.St} {H : Hp} {p : Addr} (S : Sim K T B ρ σ H) (n : H p = none) : B.H0 p = none := by
  cases hz : B.H0 p with
  | none => rfl
  | some o => exact absurd n (S.dom p (by rw [hz]; exact fun z => by cases z))
theorem eo_lst {es : List Expr} {ds : List D} (h : AX X T B ρ es W ρ1 ds) (hl : ds.length ≤ sizeLine) : EO X T B ρ (.List es pos) W ρ1 ds :=
  ⟨PE.imp (pe_lst h.run) fun σ H Q ⟨S, q⟩ => ⟨S, fun vs H1 S1 f1 r1 => ⟨by rw [r1.length]; exact hl, fun p np => q p vs _ (free_H0 S1 np) (sim_add S1 np rfl) (f1.transN (Fx.new np)) upd_same (S1.free np) (r1.mono fun a o _ e => by
    obtain ⟨z1, z2⟩ := msk_some e
    have ne := ne_of_none z2 np
    rw [msk_out (fun y => by
      rcases List.mem_cons.mp y with y | y
      · exact ne y
      · exact z1 y), upd_ne ne]
    exact z2)⟩⟩, h.own, h.sub⟩
theorem eo_lc {St α : Type} {elt tg iter : Expr} {ifs : List Expr} {scope : Scope} {qs : List α} {own : List (Str × Nat)} {Wc : List Addr} (ρs : St → Sl) (s0 : St) (step : St → α → St × Option D) (en : α → D) (hc : X.calm = true) (hN : X.N.Nodup)
    (hi : IX X T B ρ tg iter W (ρs s0) (qs.map en)) (ok : BlkOk X.N X.env.scope scope own) (hlen : qs.length ≤ sizeLine) (hsh : ∀ s, Sh (ρs s0) (ρs s)) (hno : noOwn (ρs s0) (own.map (·.2)) = true) (hWc : ∀ a ∈ Wc, a ∈ owns (ρs s0))
    (hb : ∀ s d, d ∈ qs → Turn1 X T scope elt tg ifs (own.map (·.2)) Wc (ρs s) (en d) (ρs (step s d).1) (step s d).2) (hs : ∀ x, foldedSetIterable iter X.env x = pure x := by intro _; rfl) :
    EO X T B ρ (.ListComp elt [⟨tg, iter, ifs, 0⟩] scope pos) (W ++ Wc) (ρs (lcF step s0 qs).1) (lcF step s0 qs).2 := by
  obtain ⟨wi, hwi, hw⟩ := hi.run
  refine ⟨PE.imp (pe_lc hc hN hwi ok (g := gB X T scope tg (own.map (·.2))) (tt := tB' X T scope ifs) (te := eB X T scope elt) ?_ ?_ ?_ hs) fun σ H Q ⟨S, q⟩ => ?_, ((hsh _).owns.trans hi.own), sub_app hi.sub hi.own hWc⟩
  · exact fun s H C cl fp => ⟨fun pins s' σ H v u Q I rr ⟨B, ρ, d, ρ', h, z⟩ => PG.run (h s _ C cl fp) pins s' σ H v u Q I rr z⟩
  · exact fun s H C cl fp => ⟨fun pins s' σ H Q I ⟨B, ρ, k, h, z⟩ => PTs.run (h s _ C cl fp) pins s' σ H Q I z⟩
  · exact fun s H C cl fp => ⟨fun pins s' σ H Q I ⟨B, ρ, W, ρ', d, h, z⟩ => (h s _ C cl fp).run.run pins s' σ H Q I z⟩
  · refine lc_read ρs s0 step en hw hlen hsh hno hWc hb S fun p H' h0 S' f ⟨xs, h1, h2, h3⟩ => q p xs H' h0 S' f h1 ?_ ?_
    · rw [all_of (hsh _).owns]; exact h2
    · rw [all_of (hsh _).owns]; exact h3
/-- a slot takes the new list as its own -/
theorem sim_own {K : PySem.W.Frag} {σ : L2.St} {H : Hp} {p : Addr} {xs : List V} {ds : List D} {i : Nat} (S : Sim K T (B.add p) ρ σ H) (h0 : B.H0 p = none) (h1 : H p = some (.lst xs)) (h2 : p ∉ B.all ρ) (h3 : RpA K (msk (p :: B.all ρ) H) xs ds) (hi : i < ρ.length) :
    Sim K T B (ρ.set i (.own p (.list ds))) (σ.set i (some (.ref p))) H := by
  have f : Fg ρ (ρ.set i .un) := fg_set
  have hset : owns (ρ.set i (.own p (.list ds))) = owns ((ρ.set i .un).set i (.own p (.list ds))) := by rw [List.set_set]
  have hmem : ∀ a, a ∈ owns (ρ.set i (.own p (.list ds))) → a = p ∨ a ∈ owns (ρ.set i .un) := fun a z => by
    obtain ⟨j, d, e⟩ := mem_owns.mp z
    by_cases q : i = j
    · subst q
      rw [List.getElem?_set_self hi] at e
      cases e
      exact .inl rfl
    · rw [List.getElem?_set_ne q] at e
      exact .inr (mem_owns.mpr ⟨j, d, by rw [List.getElem?_set_ne q]; exact e⟩)
  have hu : ∀ a, a ∈ owns (ρ.set i .un) → a ∈ owns ρ := fun a z => f.sub.subset z
  have hall : ∀ a ∈ B.all (ρ.set i (.own p (.list ds))), a ∈ p :: B.all ρ := fun a z => by
    rcases List.mem_append.mp z with z | z
    · exact List.mem_cons_of_mem _ (List.mem_append_left _ z)
    · rcases hmem a z with z | z
      · rw [z]; exact List.mem_cons_self
      · exact List.mem_cons_of_mem _ (List.mem_append_right _ (hu a z))
  refine ⟨by rw [List.length_set, List.length_set]; exact S.len, fun j s e => ?_, ?_, fun a z => ?_, fun a z => S.outs a (List.mem_cons_of_mem _ z), S.frame, fun a z => ?_, S.tabs, S.dom⟩
  · by_cases q : i = j
    · subst q
      rw [List.getElem?_set_self hi] at e
      cases e
      rw [join_set_same (by rw [← S.len]; exact hi)]
      exact ⟨rfl, xs, h1, h3.mono (Kp.sub hall)⟩
    · rw [List.getElem?_set_ne q] at e
      rw [join_set_ne q]
      exact (S.at_ j s e).mono (Kp.sub (fun a z => hall a z)) fun _ _ _ _ _ y => y
  · exact nodup_own (S.nodup.sublist f.sub) (fun z => h2 (List.mem_append_right _ (hu p z))) hi
  · rcases hmem a z with z | z
    · rw [z]; exact fun y => h2 (List.mem_append_left _ y)
    · exact fun y => S.disj a (hu a z) (List.mem_cons_of_mem _ y)
  · rcases hmem a z with z | z
    · rw [z]; exact .inr h0
    · exact S.fresh a (hu a z)
where
  nodup_own : ∀ {ρ : Sl} {i : Nat} {p : Addr} {d : D}, (owns (ρ.set i .un)).Nodup → p ∉ owns (ρ.set i .un) → i < ρ.length → (owns (ρ.set i (.own p d))).Nodup
    | [], _, _, _, _, _, h => by simp at h
    | s :: r, 0, p, d, h1, h2, _ => List.nodup_cons.mpr ⟨h2, h1⟩
    | .own b e :: r, i + 1, p, d, h1, h2, h3 => by
      have h1' : (b :: owns (r.set i .un)).Nodup := h1
      have h2' : p ∉ b :: owns (r.set i .un) := h2
      show (b :: owns (r.set i (.own p d))).Nodup
      refine List.nodup_cons.mpr ⟨fun z => ?_, nodup_own (List.nodup_cons.mp h1').2 (fun z => h2' (List.mem_cons_of_mem _ z)) (by simpa using h3)⟩
      obtain ⟨j, e', q⟩ := mem_owns.mp z
      by_cases ij : i = j
      · subst ij
        rw [List.getElem?_set_self (by simpa using h3)] at q
        cases q
        exact h2' List.mem_cons_self
      · rw [List.getElem?_set_ne ij] at q
        exact (List.nodup_cons.mp h1').1 (mem_owns.mpr ⟨j, e', by rw [List.getElem?_set_ne ij]; exact q⟩)
    | .un :: r, i + 1, p, d, h1, h2, h3 => nodup_own (ρ := r) (i := i) h1 h2 (by simpa using h3)
    | .dat _ :: r, i + 1, p, d, h1, h2, h3 => nodup_own (ρ := r) (i := i) h1 h2 (by simpa using h3)
/-- x = a new list -/
theorem sx_setO {i : Nat} {x : Str} {pos' : Pos} {ds : List D} (he : EO X T B ρ e W ρ1 ds) (hN : X.N.Nodup) (hi : X.N[i]? = some x) (hx : Loc X.env.scope x) (hl : i < ρ1.length) (hr : ∀ p, SXs X T B (ρ1.set i (.own p (.list ds))) r k)
    (hs : swapsWith e (some (.Name x pos')) pos.line X.env = pure false := by rfl) (hf : X.fn x = true ∨ X.env.scope.names.lookup x = some .local := by first | exact .inl rfl | exact .inr rfl | assumption) : SXs X T B ρ (.Assign [.Name x pos'] e pos :: r) k := by
  refine PSs.imp (pss_cons (ps_set (pos' := pos') hN hi hx he.run hs hf) (ps_any (T := T) (B := B))) fun E σ H ⟨S, q⟩ => ?_
  exact ⟨S, fun p xs H' h0 S' f h1 h2 h3 => ⟨_, k, hr p, sim_own S' h0 h1 h2 h3 hl, q⟩⟩
/-- y = [..], y a local -/
theorem sx_setLc {St α : Type} {elt tg iter : Expr} {ifs : List Expr} {scope : Scope} {qs : List α} {own : List (Str × Nat)} {Wc : List Addr} {i : Nat} {y : Str} {py : Pos} (ρs : St → Sl) (s0 : St) (step : St → α → St × Option D) (en : α → D) (hc : X.calm = true) (hN : X.N.Nodup) (hy : X.N[i]? = some y) (hyl : X.env.scope.names.lookup y = some .local)
    (hsw : swapsWith (.ListComp elt [⟨tg, iter, ifs, 0⟩] scope pos) (some (.Name y py)) pos.line X.env = pure true)
    (hi : IX X T B ρ tg iter W (ρs s0) (qs.map en)) (ok : BlkOk X.N X.env.scope scope own) (hlen : qs.length ≤ sizeLine) (hsh : ∀ s, Sh (ρs s0) (ρs s)) (hno : noOwn (ρs s0) (own.map (·.2)) = true) (hWc : ∀ a ∈ Wc, a ∈ owns (ρs s0))
    (hb : ∀ s d, d ∈ qs → Turn1 X T scope elt tg ifs (own.map (·.2)) Wc (ρs s) (en d) (ρs (step s d).1) (step s d).2) (hl : i < (ρs (lcF step s0 qs).1).length) (hr : SXs X T B ((ρs (lcF step s0 qs).1).set i (.dat (.list (lcF step s0 qs).2))) r k) (hs : ∀ x, foldedSetIterable iter X.env x = pure x := by intro _; rfl) :
    SXs X T B ρ (.Assign [.Name y py] (.ListComp elt [⟨tg, iter, ifs, 0⟩] scope pos) pos :: r) k := by
  obtain ⟨wi, hwi, hw⟩ := hi.run
  refine PSs.imp (pss_cons (ps_setLc hc hN hy hyl hsw hwi ok (g := gB X T scope tg (own.map (·.2))) (tt := tB' X T scope ifs) (te := eB X T scope elt) ?_ ?_ ?_ hs) hr) fun E σ H ⟨S, q⟩ => ?_
  · exact fun s H C cl fp => ⟨fun pins s' σ H v u Q I rr ⟨B, ρ, d, ρ', h, z⟩ => PG.run (h s _ C cl fp) pins s' σ H v u Q I rr z⟩
  · exact fun s H C cl fp => ⟨fun pins s' σ H Q I ⟨B, ρ, k, h, z⟩ => PTs.run (h s _ C cl fp) pins s' σ H Q I z⟩
  · exact fun s H C cl fp => ⟨fun pins s' σ H Q I ⟨B, ρ, W, ρ', d, h, z⟩ => (h s _ C cl fp).run.run pins s' σ H Q I z⟩
  · refine lc_read (Q := fun x H1 => TSd X.K T B ((ρs (lcF step s0 qs).1).set i (.dat (.list (lcF step s0 qs).2))) k E (σ.set i (some x)) H1) ρs s0 step en hw hlen hsh hno hWc hb S fun p H' h0 S' f ⟨xs, h1, h2, h3⟩ => ?_
    have S2 := sim_unadd S'
    have rp : Rp X.K (msk (B.all (ρs (lcF step s0 qs).1)) H') (.ref p) (.list (lcF step s0 qs).2) := by
      rw [all_of (hsh _).owns]; exact rp_new h1 h2 h3
    exact ⟨S2.set (fun _ _ z => by cases z) hl ⟨_, rfl, rp⟩, q⟩
end
end Dv

set_option maxRecDepth 100000
namespace Dv
open PySem PySem.Spec PyProof.Rows L2

/-! ### owned things written -/
theorem set_get_ne {ρ : Sl} {i j : Nat} {s : Slot} (h : i ≠ j) : (ρ.set i s)[j]? = ρ[j]? := List.getElem?_set_ne h
theorem owns_set_own : ∀ {ρ : Sl} {i : Nat} {l : Addr} {d d' : D}, ρ[i]? = some (.own l d) → owns (ρ.set i (.own l d')) = owns ρ
  | [], _, _, _, _, h => by simp at h
  | s :: r, 0, l, d, d', h => by cases (Option.some.inj h); rfl
  | .own b e :: r, i + 1, l, d, d', h => by show b :: _ = b :: _; exact congrArg _ (owns_set_own (by simpa using h))
  | .un :: r, i + 1, l, d, d', h => owns_set_own (ρ := r) (i := i) (by simpa using h)
  | .dat _ :: r, i + 1, l, d, d', h => owns_set_own (ρ := r) (i := i) (by simpa using h)
section
variable {K : PySem.W.Frag} {T : List Addr} {B : Bs} {ρ ρ1 ρ' : Sl} {σ : L2.St} {H H1 H' : Hp} {l : Addr} {d d' : D} {i : Nat}
theorem sim_write {o : HO} (S : Sim K T B ρ σ H) (hs : ρ[i]? = some (.own l d)) (no : mutb o = true) (hh : Hold K (upd H l o) (msk (B.all ρ) H) l d') : Sim K T B (ρ.set i (.own l d')) σ (upd H l o) := by
  have hi := (List.getElem?_eq_some_iff.mp hs).1
  have ow : owns (ρ.set i (.own l d')) = owns ρ := owns_set_own hs
  have hm : l ∈ B.all ρ := List.mem_append_right _ (mem_owns.mpr ⟨i, d, hs⟩)
  obtain ⟨u, hu, nu⟩ := S.held l hm
  have em : msk (B.all (ρ.set i (.own l d'))) (upd H l o) = msk (B.all ρ) H := by rw [all_of ow, msk_upd hm]
  have hlf : l ∈ owns ρ := mem_owns.mpr ⟨i, d, hs⟩
  refine ⟨by rw [List.length_set]; exact S.len, fun j s e => ?_, by rw [ow]; exact S.nodup, fun a z => S.disj a (by rw [← ow]; exact z), fun a z => ?_, fun a p np w e => ?_, fun a z => S.fresh a (by rw [← ow]; exact z), fun P z => ?_, fun a z => ?_⟩
  · show At K _ (msk (B.all (ρ.set i (.own l d'))) (upd H l o)) s _
    rw [em]
    by_cases q : i = j
    · subst q
      rw [List.getElem?_set_self hi] at e
      cases e
      exact ⟨(S.at_ i _ hs).1, hh⟩
    · rw [List.getElem?_set_ne q] at e
      refine (S.at_ j s e).mono (Kp.refl _) fun a e' es ob nob z => ?_
      subst es
      rw [upd_ne (fun y => ?_)]
      · exact z
      · subst y
        exact hold_data.own_twice hs e q S.nodup
  · rw [upd_ne (fun y => S.disj l hlf (by rw [← y]; exact z))]
    exact S.outs a z
  · by_cases q : a = l
    · subst q
      rcases S.fresh a hlf with z | z
      · exact absurd z w
      · rw [e] at z; cases z
    · rw [upd_ne q]; exact S.frame a p np w e
  · obtain ⟨ps, e, t⟩ := S.tabs P z
    refine ⟨ps, ?_, t⟩
    rw [upd_ne (fun y => ?_)]
    · exact e
    · rw [y, hu] at e; cases e; have := mutb_nt nu; cases this
  · by_cases q : a = l
    · rw [q, upd_same]; exact fun y => by cases y
    · rw [upd_ne q]; exact S.dom a z
end
section
variable {X : Cx} {T : List Addr} {B : Bs} {ρ ρ1 ρ2 ρ3 : Sl} {W W1 W2 W3 : List Addr} {e a b c : Expr} {d d1 d2 d3 : D} {pos apos px : Pos} {k : DE} {st : Stmt} {r : List Stmt} {x : Str} {i n : Nat} {l : Addr}
/-- xs.append(e), xs owned -/
theorem ex_append {ds : List D} (hN : X.N[i]? = some x) (hv : Vis X.env.scope x) (h0 : ρ[i]? = some (.own l d2)) (ha : EX X T B ρ a W ρ1 d) (h1 : ρ1[i]? = some (.own l (.list ds))) (hl : ds.length < sizeLine)
    (hp : ∀ {to : TE} {t : TA}, PE X (.Name x px) to → PA X [a] t → PE X (.Call (.Attribute (.Name x px) "append" apos) [a] [] pos) (tBM X.K "list" rAppend to t)) (hd : (x == ("__debug__" : Str)) = false := by decide) (hcd : (x == ("__classdict__" : Str)) = false := by decide)
    (he : starEach [a] X.env = (false, eval a X.env) :: starEach [] X.env := by rfl) (hd2 : ∃ ds0, d2 = .list ds0) :
    EX X T B ρ (.Call (.Attribute (.Name x px) "append" apos) [a] [] pos) (W ++ [l]) (ρ1.set i (.own l (.list (ds ++ [d])))) .none := by
  obtain ⟨ds0, rfl⟩ := hd2
  have ho : owns (ρ1.set i (.own l (.list (ds ++ [d])))) = owns ρ1 := owns_set_own h1
  refine ⟨PE.imp (hp (pe_var hN hv hd hcd) (pa_cons ha.run pa_nil he)) fun σ H Q ⟨S, q⟩ => ?_, ho.trans ha.own, sub_app ha.sub ha.own fun z hz => ?_⟩
  · obtain ⟨q1, xs0, e0, _⟩ := S.at_ i _ h0
    refine ⟨.ref l, slot_of (K := X.K) (H := H) q1, .inl ⟨rfl, _, SqL.of e0⟩, S, fun v H1 S1 f1 rp => ?_⟩
    obtain ⟨_, xs, e1, r1⟩ := S1.at_ i _ h1
    refine ⟨l, xs, v, rfl, rfl, e1, by rw [r1.length]; exact hl, q .non _ (sim_write S1 h1 rfl ⟨_, upd_same, r1.snoc rp⟩) (f1.trans Fx.write) .non⟩
  · have : z = l := by simpa using hz
    rw [this]; exact mem_owns.mpr ⟨i, _, h1⟩
/-- xs.pop(), xs owned -/
theorem ex_pop {ds : List D} (hN : X.N[i]? = some x) (hv : Vis X.env.scope x) (h0 : ρ[i]? = some (.own l (.list (ds ++ [d]))))
    (hp : ∀ {to : TE}, PE X (.Name x px) to → PE X (.Call (.Attribute (.Name x px) "pop" apos) [] [] pos) (tBM0 X.K "list" rPop to)) (hd : (x == ("__debug__" : Str)) = false := by decide) (hcd : (x == ("__classdict__" : Str)) = false := by decide) :
    EX X T B ρ (.Call (.Attribute (.Name x px) "pop" apos) [] [] pos) [l] (ρ.set i (.own l (.list ds))) d := by
  refine ⟨PE.imp (hp (pe_var hN hv hd hcd)) fun σ H Q ⟨S, q⟩ => ?_, owns_set_own h0, fun z hz => ?_⟩
  · obtain ⟨q1, xs, e0, r0⟩ := S.at_ i _ h0
    obtain ⟨ys, y, rfl, r1, r2⟩ := rpa_snoc r0
    refine ⟨.ref l, slot_of (K := X.K) (H := H) q1, .inl ⟨rfl, _, SqL.of e0⟩, l, ys ++ [y], y, rfl, rfl, e0, by simp, ?_⟩
    have S2 : Sim X.K T B (ρ.set i (.own l (.list ds))) σ (upd H l (.lst ys)) := sim_write S h0 rfl ⟨_, upd_same, r1⟩
    have hm : l ∈ B.all ρ := List.mem_append_right _ (mem_owns.mpr ⟨i, _, h0⟩)
    rw [List.dropLast_concat]
    refine q y _ S2 Fx.write ?_
    rw [all_of (owns_set_own h0), msk_upd hm]
    exact r2
  · have : z = l := by simpa using hz
    rw [this]; exact mem_owns.mpr ⟨i, _, h0⟩
where
  rpa_snoc {K : PySem.W.Frag} {H : Hp} : ∀ {xs : List V} {ds : List D} {d : D}, RpA K H xs (ds ++ [d]) → ∃ ys y, xs = ys ++ [y] ∧ RpA K H ys ds ∧ Rp K H y d
    | _, [], d, .cons h .nil => ⟨[], _, rfl, .nil, h⟩
    | _, e :: ds, d, .cons h t => by
      obtain ⟨ys, y, rfl, r1, r2⟩ := rpa_snoc t
      exact ⟨_ :: ys, y, rfl, .cons h r1, r2⟩

/-! ### while -/
theorem sx_while {body : List Stmt} (hp : PassesOwn (model X.prog X.w) X.A X.env X.xe) (I : Nat → Sl → Prop) (M : Sl → Prop) (m0 : Nat) (h0 : I m0 ρ)
    (hb : ∀ m ρ', I m ρ' → ∃ kb W ρ1, TX X T B ρ' c W ρ1 kb ∧ (kb = true → SXs X T B ρ1 body { nx := fun ρ2 => ∃ m', m' < m ∧ I m' ρ2, ct := fun ρ2 => ∃ m', m' < m ∧ I m' ρ2, bk := M, rt := k.rt, rf := k.rf }) ∧ (kb = false → M ρ1))
    (hr : ∀ ρ', M ρ' → SXs X T B ρ' r k) : SXs X T B ρ (.While c body [] pos :: r) k := by
  have hc : PT X c (fun σ H Q => ∃ ρ W ρ1 kb, TX X T B ρ c W ρ1 kb ∧ TTd X.K T B ρ W ρ1 kb σ H Q) := ⟨fun pins s σ H Q I ⟨ρ, W, ρ1, kb, h, q⟩ => h.run.run pins s σ H Q I q⟩
  refine sx_cons M (PS.imp (ps_while hp hc (ps_any (T := T) (B := B) (sts := body))) fun E σ H ⟨S, q1, q2, q3, q4, q5⟩ => ?_) hr
  refine ⟨fun m σ H => ∃ ρ', I m ρ' ∧ Sim X.K T B ρ' σ H, ⟨m0, ρ, h0, S⟩, ?_⟩
  rintro m σ' H' ⟨ρ', hI, S'⟩
  obtain ⟨kb, W, ρ1, ht, hb1, hb2⟩ := hb m ρ' hI
  refine ⟨ρ', W, ρ1, kb, ht, S', fun H2 S2 f2 => ?_⟩
  cases kb with
  | true =>
    rw [if_pos rfl]
    refine ⟨fun σ3 H3 => ∃ ρ3, (∃ m', m' < m ∧ I m' ρ3) ∧ Sim X.K T B ρ3 σ3 H3, fun σ3 H3 ⟨ρ3, ⟨m', h1, h2⟩, S3⟩ => ⟨m', h1, ρ3, h2, S3⟩, ρ1, _, hb1 rfl, S2, fun ρ4 σ4 H4 z S4 => ⟨ρ4, z, S4⟩, q2, fun ρ4 σ4 H4 z S4 => q1 ρ4 σ4 H4 z S4, fun ρ4 σ4 H4 z S4 => ⟨ρ4, z, S4⟩, q5⟩
  | false =>
    rw [if_neg Bool.false_ne_true]
    exact q1 ρ1 σ' H2 (hb2 rfl) S2

/-! ### several names at once -/
theorem sx_par {i j : Nat} {x y : Str} {px py pt : Pos} {kt k2 pt2} (hc : X.calm = true) (hN : X.N.Nodup) (hi : X.N[i]? = some x) (hj : X.N[j]? = some y) (hij : i ≠ j)
    (hx : X.env.scope.names.lookup x = some .local) (hy : X.env.scope.names.lookup y = some .local) (ha : EX X T B ρ a W1 ρ1 d1) (hb : EX X T B ρ1 b W2 ρ2 d2) (hl : i < ρ2.length ∧ j < ρ2.length)
    (hr : SXs X T B ((ρ2.set i (.dat d1)).set j (.dat d2)) r k)
    (hp : ∀ {ta : TA}, PA X [a, b] ta → PS X (.Assign [.Tuple [.Name x px, .Name y py] kt pt] (.Tuple [a, b] k2 pt2) pos) (tPar i j ta))
    (he : starEach [a, b] X.env = (false, eval a X.env) :: starEach [b] X.env := by rfl) (he2 : starEach [b] X.env = (false, eval b X.env) :: starEach [] X.env := by rfl) :
    SXs X T B ρ (.Assign [.Tuple [.Name x px, .Name y py] kt pt] (.Tuple [a, b] k2 pt2) pos :: r) k := by
  refine PSs.imp (pss_cons (hp (pa_cons ha.run (pa_cons hb.run pa_nil he2) he)) hr) fun E σ H ⟨S, q⟩ => ⟨S, fun v H1 S1 f1 r1 => ⟨S1, fun w H2 S2 f2 r2 => ⟨v, w, rfl, ?_⟩⟩⟩
  have r1' := carry hb f2 r1
  have S3 := S2.set (i := i) (v := v) (s := .dat d1) (fun _ _ z => by cases z) hl.1 ⟨_, rfl, r1'⟩
  have S4 := S3.set (i := j) (v := w) (s := .dat d2) (fun _ _ z => by cases z) (by rw [List.length_set]; exact hl.2) ⟨_, rfl, r2.mono (Kp.sub sub_set)⟩
  exact ⟨S4, q⟩
/-- tg = e, by the target's rule -/
theorem sx_asg {tg : Expr} {vs : List Nat} (he : EX X T B ρ e W ρ1 d) (hg : GX X T B ρ1 tg vs d ρ2) (hr : SXs X T B ρ2 r k)
    (hs : swapsWithSole [tg] e pos.line X.env = pure false := by rfl) (hw : swappedStores [tg] e X.env = pure none := by rfl)
    (h1 : (assignEach [tg] X.env).map (·.2) = [assign tg X.env] := by rfl) : SXs X T B ρ (.Assign [tg] e pos :: r) k := by
  refine PSs.imp (pss_cons (ps_asg he.run hg hs hw h1) hr) fun E σ H ⟨S, q⟩ => ⟨S, fun v H1 S1 f1 r1 => ⟨S1, r1, fun σ' S' _ => ⟨S', q⟩⟩⟩
/-- x += e, ints -/
theorem sx_aug {i : Nat} {x : Str} {pos' : Pos} {m n : Int} (hN : X.N.Nodup) (hi : X.N[i]? = some x) (hx : Loc X.env.scope x) (h0 : ρ[i]? = some (.dat (.int m))) (he : EX X T B ρ e W ρ1 (.int n)) (hl : i < ρ1.length) (hr : SXs X T B (ρ1.set i (.dat (.int (m + n)))) r k)
    (hp : ∀ {te : TE}, PE X e te → PS X (.AugAssign (.Name x pos') .Add e pos) (tAug i te (ipI fun i j => i + j))) : SXs X T B ρ (.AugAssign (.Name x pos') .Add e pos :: r) k := by
  refine PSs.imp (pss_cons (hp he.run) hr) fun E σ H ⟨S, q⟩ => ?_
  obtain ⟨v, q1, q2⟩ := S.at_ i _ h0
  refine ⟨v, slot_of (K := X.K) (H := H) q1, S, fun w H1 S1 f1 r1 => ⟨m, n, int_of q2, int_of r1, S1.set (fun _ _ z => by cases z) hl ⟨_, rfl, .int _⟩, q⟩⟩
end

/-! ### defs -/
/-- arguments as they are handed over -/
def Args (K : PySem.W.Frag) (H Hm : Hp) (args : Sl) (vs : List V) : Prop := args.length = vs.length ∧ ∀ (i : Nat) (s : Slot), args[i]? = some s → At K H Hm s vs[i]?
/-- the owned arguments' ends -/
def Back (args ρ : Sl) : Prop := ∀ (i : Nat) a o, args[i]? = some (Slot.own a o) → ρ[i]? = some (Slot.own a o)
/-- the promise: with the arguments args the def hands back d, and leaves the owned ones as args' tells -/
def PrD (K : PySem.W.Frag) (T : List Addr) (n : Nat) (R : Sl → D → Sl → Prop) : Sp := fun vs H Q _ => vs.length = n ∧ ∃ (args : Sl) (out : List Addr) (d : D) (args' : Sl),
  Args K H (msk (out ++ owns args) H) args vs ∧ (owns args).Nodup ∧ (∀ a ∈ owns args, a ∉ out) ∧ (∀ a ∈ out, ∃ o, H a = some o ∧ mutb o = true) ∧ (∀ P ∈ T, GxR.TabG H P) ∧ Sh args args' ∧ R args d args' ∧
  ∀ v H', Fx (owns args) H H' → (∀ a, H a ≠ none → H' a ≠ none) → (∀ P ∈ T, GxR.TabG H' P) → (∀ (i : Nat) a o, args'[i]? = some (Slot.own a o) → Hold K H' (msk (out ++ owns args) H') a o) → Rp K (msk (out ++ owns args) H') v d → Q v H'
/-- .. a new list -/
def PrF (K : PySem.W.Frag) (T : List Addr) (n : Nat) (R : List D → List D → Prop) : Sp := fun vs H Q _ => vs.length = n ∧ ∃ (args : List D) (out : List Addr) (ds : List D),
  Args K H (msk out H) (args.map .dat) vs ∧ (∀ a ∈ out, ∃ o, H a = some o ∧ mutb o = true) ∧ (∀ P ∈ T, GxR.TabG H P) ∧ R args ds ∧
  ∀ p xs H', H p = none → Fx [] H H' → (∀ a, H a ≠ none → H' a ≠ none) → (∀ P ∈ T, GxR.TabG H' P) → H' p = some (.lst xs) → RpA K (msk (p :: out) H') xs ds → Q (.ref p) H'
theorem start_get {N : List Str} {vs : List V} {i : Nat} (h : i < vs.length) : (L2.start N vs)[i]?.join = vs[i]? := by
  unfold L2.start
  rw [List.getElem?_append_left (by simpa using h), List.getElem?_map]
  cases vs[i]? <;> rfl
theorem owns_app_un : ∀ (ρ : Sl) (n : Nat), owns (ρ ++ List.replicate n .un) = owns ρ
  | [], 0 => rfl
  | [], n + 1 => by show owns (.un :: List.replicate n .un) = _; exact owns_app_un [] n
  | .own a d :: r, n => by show a :: _ = a :: _; rw [← owns_app_un r n]; rfl
  | .un :: r, n => owns_app_un r n
  | .dat _ :: r, n => owns_app_un r n
/-- the names at a def's start -/
def ent (N : List Str) (args : Sl) : Sl := args ++ List.replicate (N.length - args.length) .un
theorem sim_start {K : PySem.W.Frag} {T : List Addr} {N : List Str} {args : Sl} {out : List Addr} {vs : List V} {H : Hp} (hA : Args K H (msk (out ++ owns args) H) args vs) (nd : (owns args).Nodup) (dj : ∀ a ∈ owns args, a ∉ out) (ho : ∀ a ∈ out, ∃ o, H a = some o ∧ mutb o = true) (ht : ∀ P ∈ T, GxR.TabG H P) :
    Sim K T ⟨out, owns args, H⟩ (ent N args) (L2.start N vs) H := by
  have ow : owns (ent N args) = owns args := owns_app_un _ _
  refine ⟨?_, fun i s e => ?_, by rw [ow]; exact nd, fun a z => dj a (by rw [← ow]; exact z), ho, Fx.refl _ _, fun a z => .inl (by rw [← ow]; exact z), ht, fun _ z => z⟩
  · unfold ent L2.start
    rw [List.length_append, List.length_append, List.length_map, List.length_replicate, List.length_replicate, hA.1]
  · show At K H (msk (out ++ owns (ent N args)) H) s _
    rw [ow]
    unfold ent at e
    by_cases q : i < args.length
    · rw [List.getElem?_append_left q] at e
      rw [start_get (by rw [← hA.1]; exact q)]
      exact hA.2 i s e
    · rw [List.getElem?_append_right (by omega), List.getElem?_replicate] at e
      split at e
      · cases e; trivial
      · cases e
section
variable {P : Program} {w : World} {K : PySem.W.Frag} {mg : Str → Option Value} {base : Heap} {x qual : Str} {st : Stmt} {f : Addr} {fd : FuncData} {N ps : List Str} {n : Nat} {T : List Addr}
/-- THE RULE for a def -/
theorem fn_d (F : Fun K x qual st f fd) (S : FnScope N ps (defScope st)) (R : Sl → D → Sl → Prop)
    (body : ∀ (cdv : Value) (A : Around) (outer : List Env) (s : Shared) (H : Hp) (E : XK) (B : Bs) (args : Sl) (d : D) (args' : Sl), Room n (A.deeper (envOfC qual (defScope st) s.heap.objs.size f cdv)) → args.length = ps.length → B.lent = owns args → Sh args args' → R args d args' →
      SXs (cxOf CX0 P w K mg base N qual (defScope st) f cdv A outer s H E).nox T B (ent N args) (defBody st) { nx := fun ρ => d = .none ∧ Back args' ρ, rt := fun d' ρ => d' = d ∧ Back args' ρ }) :
    FnOk P w K mg base CX0 (n + 1) f fd ps (PrD K T ps.length R) := by
  refine F.ok S (fun vs H Q E h => h.1) (fun cdv A outer s H vs Q E hr h => ?_)
  obtain ⟨hl, args, out, d, args', hA, nd, dj, ho, ht, sh, hR, q⟩ := h
  have hb := body cdv A outer s H E ⟨out, owns args, H⟩ args d args' hr (by rw [hA.1]; exact hl) rfl sh hR
  have fin : ∀ {ρ : Sl} {σ : L2.St} {v : V} {H' : Hp}, Sim K T ⟨out, owns args, H⟩ ρ σ H' → Back args' ρ → Rp K (msk ((⟨out, owns args, H⟩ : Bs).all ρ) H') v d → Q v H' := fun {ρ σ v H'} S' bk rp => by
    have sub : ∀ a ∈ out ++ owns args, a ∈ (⟨out, owns args, H⟩ : Bs).all ρ := fun a z => by
      rcases List.mem_append.mp z with z | z
      · exact List.mem_append_left _ z
      · rw [← sh.owns] at z
        obtain ⟨i, o, e⟩ := mem_owns.mp z
        exact List.mem_append_right _ (mem_owns.mpr ⟨i, o, bk i a o e⟩)
    exact q v H' S'.frame (fun a z => S'.dom a z) S'.tabs (fun i a o e => (S'.at_ i _ (bk i a o e)).2.mono (Kp.sub sub) fun _ _ z => z) (rp.mono (Kp.sub sub))
  refine ⟨_, hb, sim_start hA nd dj ho ht, fun ρ σ H' ⟨z, bk⟩ S' => fin S' bk (by rw [z]; exact .non), fun d' ρ σ v H' ⟨z, bk⟩ S' rp => fin S' bk (by rw [← z]; exact rp), fun _ _ _ z => z.elim, fun _ _ _ z => z.elim, fun _ _ _ _ _ _ z => z.elim⟩
/-- .. for one that hands back a new list -/
theorem fn_f (F : Fun K x qual st f fd) (S : FnScope N ps (defScope st)) (R : List D → List D → Prop)
    (body : ∀ (cdv : Value) (A : Around) (outer : List Env) (s : Shared) (H : Hp) (E : XK) (B : Bs) (args : List D) (ds : List D), Room n (A.deeper (envOfC qual (defScope st) s.heap.objs.size f cdv)) → args.length = ps.length → B.lent = [] → R args ds →
      SXs (cxOf CX0 P w K mg base N qual (defScope st) f cdv A outer s H E).nox T B (ent N (args.map .dat)) (defBody st) { nx := fun _ => False, rt := fun _ _ => False, rf := fun ds' _ => ds' = ds }) :
    FnOk P w K mg base CX0 (n + 1) f fd ps (PrF K T ps.length R) := by
  refine F.ok S (fun vs H Q E h => h.1) (fun cdv A outer s H vs Q E hr h => ?_)
  obtain ⟨hl, args, out, ds, hA, ho, ht, hR, q⟩ := h
  have o0 : owns (args.map Slot.dat) = [] := by
    clear hA hR
    induction args with
    | nil => rfl
    | cons a r ih => exact ih
  have hb := body cdv A outer s H E ⟨out, [], H⟩ args ds hr (by have := hA.1; rw [List.length_map] at this; rw [this]; exact hl) rfl hR
  have hA' : Args K H (msk (out ++ owns (args.map Slot.dat)) H) (args.map .dat) vs := by rw [o0, List.append_nil]; exact hA
  have S0 := sim_start (K := K) (T := T) (N := N) hA' (by rw [o0]; exact List.nodup_nil) (by rw [o0]; exact fun a z => by cases z) ho ht
  rw [o0] at S0
  refine ⟨_, hb, S0, fun _ _ _ z => z.elim, fun _ _ _ _ _ z => z.elim, fun _ _ _ z => z.elim, fun _ _ _ z => z.elim, fun ds' ρ σ p xs H' z h0 S' h1 h2 h3 => ?_⟩
  rw [← z] at q
  refine q p xs H' h0 S'.frame (fun a z => S'.dom a z) S'.tabs h1 (h3.mono (Kp.sub fun a z => ?_))
  rcases List.mem_cons.mp z with z | z
  · rw [z]; exact List.mem_cons_self
  · exact List.mem_cons_of_mem _ (List.mem_append_left _ z)
end

section
variable {X : Cx} {T : List Addr} {B : Bs} {ρ ρ1 ρ2 ρ3 : Sl} {W W1 W2 W3 : List Addr} {e a b c : Expr} {d d1 d2 d3 : D} {pos apos px : Pos} {k : DE} {st : Stmt} {r : List Stmt} {x : Str} {i n : Nat} {l : Addr}
variable {f : Addr} {fd : FuncData} {ps : List Str} {p : Pos} {es : List Expr} {kk : Nat}
theorem owns_dats : ∀ (ds : List D), owns (ds.map Slot.dat) = []
  | [] => rfl
  | _ :: r => owns_dats r
theorem args_dats {K : PySem.W.Frag} {H Hm : Hp} {vs : List V} {ds : List D} (r : RpA K Hm vs ds) : Args K H Hm (ds.map .dat) vs := by
  refine ⟨by rw [List.length_map, r.length], fun i s e => ?_⟩
  rw [List.getElem?_map] at e
  cases q : ds[i]? with
  | none => rw [q] at e; cases e
  | some d =>
    rw [q] at e
    cases e
    obtain ⟨v, h1, h2⟩ := r.getD q
    exact ⟨v, h1, h2⟩
/-- f(e, ..), data alone -/
theorem ex_call {R : Sl → D → Sl → Prop} {ds : List D} (F : FnOk X.prog X.w X.K X.mg X.base CX0 kk f fd ps (PrD X.K T n R)) (hr : Room kk X.A) (hg : Gl X x) (hm : X.mg x = some (.ref f)) (hk : PySem.W.keepIn X.K (.ref f) = true) (hb : Binds X.K fd ps [])
    (ha : AX X T B ρ (e :: es) W ρ1 ds) (hn : ds.length = n) (hR : R (ds.map .dat) d (ds.map .dat)) (hdb : (x == ("__debug__" : Str)) = false := by decide) (he : starEach (e :: es) X.env = (false, eval e X.env) :: starEach es X.env := by rfl) (hpl : (backTo pos (starEach es X.env)).any (·.1) = false := by rfl) :
    EX X T B ρ (.Call (.Name x p) (e :: es) [] pos) W ρ1 d := by
  refine ⟨PE.imp (pe_call F hr hg hm hk hb .nil pass0 ha.run hdb he hpl) fun σ H Q ⟨S, q⟩ => ⟨S, fun vs H1 S1 f1 r1 => ?_⟩, ha.own, ha.sub⟩
  show PrD X.K T n R (vs ++ []) H1 Q E0
  rw [List.append_nil]
  have o0 := owns_dats ds
  refine ⟨by rw [r1.length]; exact hn, ds.map .dat, B.all ρ1, d, ds.map .dat, ?_, by rw [o0]; exact List.nodup_nil, (by rw [o0]; exact fun a z => absurd z (by simp)), S1.held, S1.tabs, Sh.refl _, hR, fun v H' h1 h2 h3 _ h5 => ?_⟩
  · rw [o0, List.append_nil]; exact args_dats r1
  · rw [o0] at h1
    rw [o0, List.append_nil] at h5
    exact q v H' (S1.grow h1.kpN h3 h2) (f1.transN h1) h5
theorem eo_call {R : List D → List D → Prop} {ds out : List D} (F : FnOk X.prog X.w X.K X.mg X.base CX0 kk f fd ps (PrF X.K T n R)) (hr : Room kk X.A) (hg : Gl X x) (hm : X.mg x = some (.ref f)) (hk : PySem.W.keepIn X.K (.ref f) = true) (hb : Binds X.K fd ps [])
    (ha : AX X T B ρ (e :: es) W ρ1 ds) (hn : ds.length = n) (hR : R ds out) (hdb : (x == ("__debug__" : Str)) = false := by decide) (he : starEach (e :: es) X.env = (false, eval e X.env) :: starEach es X.env := by rfl) (hpl : (backTo pos (starEach es X.env)).any (·.1) = false := by rfl) :
    EO X T B ρ (.Call (.Name x p) (e :: es) [] pos) W ρ1 out := by
  refine ⟨PE.imp (pe_call F hr hg hm hk hb .nil pass0 ha.run hdb he hpl) fun σ H Q ⟨S, q⟩ => ⟨S, fun vs H1 S1 f1 r1 => ?_⟩, ha.own, ha.sub⟩
  show PrF X.K T n R (vs ++ []) H1 Q E0
  rw [List.append_nil]
  refine ⟨by rw [r1.length]; exact hn, ds, B.all ρ1, out, args_dats r1, S1.held, S1.tabs, hR, fun p xs H' h0 h1 h2 h3 h4 h5 => ?_⟩
  refine q p xs H' (free_H0 S1 h0) ?_ (f1.transN h1) h4 (S1.free h0) h5
  have S2 := S1.grow h1.kpN h3 h2
  have nf := S1.free h0
  refine ⟨S2.len, fun i s e => (S1.at_ i s e).mono (fun a o no z => ?_) fun a d _ o no z => h1 a o no (by simp) z, S2.nodup, fun a z y => ?_, fun a z => ?_, S2.frame, S2.fresh, S2.tabs, S2.dom⟩
  · obtain ⟨z1, z2⟩ := msk_some z
    rw [msk_out (fun y => ?_)]
    · exact h1 a o no (by simp) z2
    · rcases List.mem_cons.mp (show a ∈ p :: (B.out ++ owns ρ1) from y) with y | y
      · exact ne_of_none z2 h0 y
      · exact z1 y
  · rcases List.mem_cons.mp y with y | y
    · rw [y] at z; exact nf (List.mem_append_right _ z)
    · exact S2.disj a z y
  · rcases List.mem_cons.mp z with z | z
    · exact ⟨_, by rw [z]; exact h4, rfl⟩
    · exact S2.outs a z
theorem all_cut {O : List Addr} {l : Addr} (h : l ∈ O) : ∀ a, a ∈ (O.filter (fun a => decide (a ≠ l))) ++ [l] ↔ a ∈ O := fun a => by
  rw [List.mem_append, List.mem_filter]
  by_cases q : a = l
  · simp [q, h]
  · simp [q]
theorem msk_ext {O O' : List Addr} {H : Hp} (h : ∀ a, a ∈ O ↔ a ∈ O') : msk O H = msk O' H := by
  funext a
  unfold msk
  by_cases q : a ∈ O
  · rw [if_pos q, if_pos ((h a).mp q)]
  · rw [if_neg q, if_neg (fun z => q ((h a).mpr z))]
/-- f(draws, e, ..), the first one owned -/
theorem ex_callO {R : Sl → D → Sl → Prop} {ds : List D} {x1 : Str} {i1 : Nat} {o0 o1 o2 : D} {px1 : Pos} (F : FnOk X.prog X.w X.K X.mg X.base CX0 kk f fd ps (PrD X.K T n R)) (hr : Room kk X.A) (hg : Gl X x) (hm : X.mg x = some (.ref f)) (hk : PySem.W.keepIn X.K (.ref f) = true) (hb : Binds X.K fd ps [])
    (hN : X.N[i1]? = some x1) (hv : Vis X.env.scope x1) (h0 : ρ[i1]? = some (.own l o0)) (ha : AX X T B ρ es W ρ1 ds) (h1 : ρ1[i1]? = some (.own l o1)) (hn : ds.length + 1 = n) (hR : R (.own l o1 :: ds.map .dat) d (.own l o2 :: ds.map .dat)) (hdb : (x == ("__debug__" : Str)) = false := by decide) (hd : (x1 == ("__debug__" : Str)) = false := by decide) (hcd : (x1 == ("__classdict__" : Str)) = false := by decide)
    (he : starEach (.Name x1 px1 :: es) X.env = (false, eval (.Name x1 px1) X.env) :: starEach es X.env := by rfl) (hpl : (backTo pos (starEach es X.env)).any (·.1) = false := by rfl) :
    EX X T B ρ (.Call (.Name x p) (.Name x1 px1 :: es) [] pos) (W ++ [l]) (ρ1.set i1 (.own l o2)) d := by
  have ho : owns (ρ1.set i1 (.own l o2)) = owns ρ1 := owns_set_own h1
  have hlm : l ∈ owns ρ1 := mem_owns.mpr ⟨i1, _, h1⟩
  refine ⟨PE.imp (pe_call F hr hg hm hk hb .nil pass0 (pa_cons (pe_var hN hv hd hcd) ha.run he) hdb he hpl) fun σ H Q ⟨S, q⟩ => ?_, ho.trans ha.own, sub_app ha.sub ha.own fun z hz => ?_⟩
  · obtain ⟨q1, q2⟩ := S.at_ i1 _ h0
    refine ⟨.ref l, slot_of (K := X.K) (H := H) q1, S, fun vs H1 S1 f1 r1 => ?_⟩
    show PrD X.K T n R ((V.ref l :: vs) ++ []) H1 Q E0
    rw [List.append_nil]
    have oL : owns (Slot.own l o1 :: ds.map .dat) = [l] := by show l :: _ = _; rw [owns_dats]
    have hlall : l ∈ B.all ρ1 := List.mem_append_right _ hlm
    have em : ∀ H : Hp, msk ((B.all ρ1).filter (fun a => decide (a ≠ l)) ++ [l]) H = msk (B.all ρ1) H := fun H => msk_ext (all_cut hlall)
    refine ⟨by rw [List.length_cons, r1.length]; exact hn, Slot.own l o1 :: ds.map .dat, (B.all ρ1).filter (fun a => decide (a ≠ l)), d, Slot.own l o2 :: ds.map .dat, ?_, by rw [oL]; simp, by rw [oL]; simp, fun a z => S1.held a (List.mem_filter.mp z).1, S1.tabs, .own (Sh.refl _), hR, fun v H' g1 g2 g3 g4 g5 => ?_⟩
    · rw [oL, em]
      obtain ⟨A1, A2⟩ := args_dats (H := H1) r1
      refine ⟨by simp [r1.length], fun i s e => ?_⟩
      cases i with
      | zero =>
        cases (Option.some.inj e)
        exact ⟨rfl, (S1.at_ i1 _ h1).2⟩
      | succ i => exact A2 i s (by simpa using e)
    · rw [oL] at g1
      rw [oL, em] at g5
      have hold := g4 0 l o2 rfl
      rw [oL, em] at hold
      have kp : Kp (msk (B.all ρ1) H1) (msk (B.all ρ1) H') := g1.kp fun a z => by
        have : a = l := by simpa using z
        rw [this]; exact hlall
      refine q v H' ⟨by rw [List.length_set]; exact S1.len, fun j s e => ?_, by rw [ho]; exact S1.nodup, fun a z => S1.disj a (by rw [← ho]; exact z), fun a z => ?_, fun a o no w e => ?_, fun a z => S1.fresh a (by rw [← ho]; exact z), g3, fun a z => g2 a (S1.dom a z)⟩ (f1.trans g1) (by rw [all_of ho]; exact g5)
      · show At X.K H' (msk (B.all (ρ1.set i1 (.own l o2))) H') s _
        rw [all_of ho]
        by_cases qj : i1 = j
        · subst qj
          rw [List.getElem?_set_self (List.getElem?_eq_some_iff.mp h1).1] at e
          cases e
          exact ⟨(S1.at_ i1 _ h1).1, hold⟩
        · rw [List.getElem?_set_ne qj] at e
          refine (S1.at_ j s e).mono kp fun a e' es' ob nob z => g1 a ob nob (fun y => ?_) z
          subst es'
          have : a = l := by simpa using y
          subst this
          exact hold_data.own_twice h1 e qj S1.nodup
      · obtain ⟨o, e, no⟩ := S1.outs a z
        exact ⟨o, g1 a o (mutb_nt no) (fun y => by
          have : a = l := by simpa using y
          rw [this] at z; exact S1.disj l hlm z) e, no⟩
      · refine g1 a o no (fun y => ?_) (S1.frame a o no w e)
        have : a = l := by simpa using y
        subst this
        rcases S1.fresh a hlm with z | z
        · exact w z
        · rw [e] at z; cases z
  · have : z = l := by simpa using hz
    rw [this]; exact hlm
end
end Dv

set_option maxRecDepth 100000
namespace Dv
open PySem PySem.Spec PyProof.Rows L2
section
variable {X : Cx} {T : List Addr} {B : Bs} {ρ ρ1 ρ2 ρ3 : Sl} {W W1 W2 W3 : List Addr} {e a b c : Expr} {d d1 d2 d3 : D} {pos apos px : Pos} {k : DE} {r : List Stmt} {x : Str} {l : Addr}
/-- short: the name at slot i -/
theorem nm (i : Nat) (hs : ρ[i]? = some (.dat d) := by rfl) (hN : X.N[i]? = some x := by rfl) (hv : Vis X.env.scope x := by first | exact Or.inl rfl | exact Or.inr (Or.inl rfl) | exact Or.inr (Or.inr rfl)) (hd : (x == ("__debug__" : Str)) = false := by decide) (hcd : (x == ("__classdict__" : Str)) = false := by decide) :
    EX X T B ρ (.Name x pos) [] ρ d := ex_name hs hN hv hd hcd
theorem ol (i : Nat) {ds : List D} (hs : ρ[i]? = some (.own l (.list ds)) := by rfl) (hN : X.N[i]? = some x := by rfl) (hv : Vis X.env.scope x := by first | exact Or.inl rfl | exact Or.inr (Or.inl rfl) | exact Or.inr (Or.inr rfl)) (hd : (x == ("__debug__" : Str)) = false := by decide) (hcd : (x == ("__classdict__" : Str)) = false := by decide) :
    EL X T B ρ (.Name x pos) [] ρ ds := el_own hs hN hv hd hcd
theorem gn (i : Nat) {vs : List Nat} (hN : X.N.Nodup) (hi : X.N[i]? = some x := by rfl) (hx : Loc X.env.scope x := by first | exact Or.inl rfl | exact Or.inr rfl) (hl : i < ρ.length := by exact Nat.le_of_ble_eq_true rfl) (hv : i ∈ vs := by decide) (hf : X.fn x = true ∨ X.env.scope.names.lookup x = some .local := by first | exact .inl rfl | exact .inr rfl) :
    GX X T B ρ (.Name x pos) vs d (ρ.set i (.dat d)) := gx_name hN hi hx hl hv hf
theorem st (i : Nat) {pos' : Pos} (hN : X.N.Nodup) (he : EX X T B ρ e W ρ1 d) (hr : SXs X T B (ρ1.set i (.dat d)) r k) (hi : X.N[i]? = some x := by rfl) (hx : Loc X.env.scope x := by first | exact Or.inl rfl | exact Or.inr rfl) (hl : i < ρ1.length := by exact Nat.le_of_ble_eq_true rfl)
    (hs : swapsWith e (some (.Name x pos')) pos.line X.env = pure false := by rfl) (hf : X.fn x = true ∨ X.env.scope.names.lookup x = some .local := by first | exact .inl rfl | exact .inr rfl) : SXs X T B ρ (.Assign [.Name x pos'] e pos :: r) k := sx_set he hN hi hx hl hr hs hf
theorem stO (i : Nat) {pos' : Pos} {ds : List D} (hN : X.N.Nodup) (he : EO X T B ρ e W ρ1 ds) (hr : ∀ p, SXs X T B (ρ1.set i (.own p (.list ds))) r k) (hi : X.N[i]? = some x := by rfl) (hx : Loc X.env.scope x := by first | exact Or.inl rfl | exact Or.inr rfl) (hl : i < ρ1.length := by exact Nat.le_of_ble_eq_true rfl)
    (hs : swapsWith e (some (.Name x pos')) pos.line X.env = pure false := by rfl) (hf : X.fn x = true ∨ X.env.scope.names.lookup x = some .local := by first | exact .inl rfl | exact .inr rfl) : SXs X T B ρ (.Assign [.Name x pos'] e pos :: r) k := sx_setO he hN hi hx hl hr hs hf
theorem pop (i : Nat) {ds : List D} (h0 : ρ[i]? = some (.own l (.list (ds ++ [d])))) (hN : X.N[i]? = some x := by rfl) (hv : Vis X.env.scope x := by first | exact Or.inl rfl | exact Or.inr (Or.inl rfl) | exact Or.inr (Or.inr rfl))
    (hp : ∀ {to : TE}, PE X (.Name x px) to → PE X (.Call (.Attribute (.Name x px) "pop" apos) [] [] pos) (tBM0 X.K "list" rPop to) := by exact fun h => pe_bm0 PySem.F.plainAttrs_list PySem.F.slot_list_pop PySem.F.type_list_pop mt_pop h) (hd : (x == ("__debug__" : Str)) = false := by decide) (hcd : (x == ("__classdict__" : Str)) = false := by decide) :
    EX X T B ρ (.Call (.Attribute (.Name x px) "pop" apos) [] [] pos) [l] (ρ.set i (.own l (.list ds))) d := ex_pop hN hv h0 hp hd hcd
theorem app (i : Nat) {ds ds0 : List D} (h0 : ρ[i]? = some (.own l (.list ds0))) (ha : EX X T B ρ a W ρ1 d) (h1 : ρ1[i]? = some (.own l (.list ds))) (hl : ds.length < sizeLine) (hN : X.N[i]? = some x := by rfl) (hv : Vis X.env.scope x := by first | exact Or.inl rfl | exact Or.inr (Or.inl rfl) | exact Or.inr (Or.inr rfl))
    (hp : ∀ {to : TE} {t : TA}, PE X (.Name x px) to → PA X [a] t → PE X (.Call (.Attribute (.Name x px) "append" apos) [a] [] pos) (tBM X.K "list" rAppend to t) := by exact fun h g => pe_bm PySem.F.plainAttrs_list PySem.F.slot_list_append PySem.F.type_list_append mt_append h g) (hd : (x == ("__debug__" : Str)) = false := by decide) (hcd : (x == ("__classdict__" : Str)) = false := by decide)
    (he : starEach [a] X.env = (false, eval a X.env) :: starEach [] X.env := by rfl) :
    EX X T B ρ (.Call (.Attribute (.Name x px) "append" apos) [a] [] pos) (W ++ [l]) (ρ1.set i (.own l (.list (ds ++ [d])))) .none := ex_append hN hv h0 ha h1 hl hp hd hcd he ⟨_, rfl⟩
end
end Dv

set_option maxRecDepth 100000
set_option maxHeartbeats 2000000
namespace Dv
open PySem PySem.Spec PyProof.Rows L2
section
variable {prog : Program} {w : World} {A : Around} {E : Value → Shared → Prop} {s : Shared}
theorem rev_extend {R : Result → Shared → Prop} {it l S : Addr} {items : Array Value} (hh : A.handled = none) (hit : s.heap.IsRevIter it l ((items.size : Int) - 1)) (hl : s.heap.IsList l items) (hne : l ≠ it) (hn : items.size ≤ sizeLine) (hSi : S ≠ it) (hSl : S ≠ l) (res : Value) (c₀ : Nat) (hS : s.heap.get? S = some { cls := .type "list", data := .seq #[] c₀ })
    (hR : ∀ h' tk acc' c', (∀ b o, b ≠ S → b ≠ it → s.heap.get? b = some o → h'.get? b = some o) → h'.get? S = some { cls := .type "list", dict := none, data := .seq acc' c', slots := #[] } → ItemsOf (fun i v => items[items.size - 1 - i]? = some v) acc' items.size → R (.ok (.ret res)) { s with heap := h', toks := tk }) :
    wpAny (model prog w) A.in1 (Builtin.List.listExtendWith (.ref S) (.ref it) res)
      (fun fin s' => match fin with | .done f => R (.ok f) s' | .again c' => c'.quiet = true ∧ codeAny (model prog w) A c' R s') (fun e s' => R (.error e) s') s := by
  have W := (Walks.listRev (prog := prog) (w := w) (A := A.in1) hh it l hne items).toS
  have hSf : S ∉ [it, l] := by simp only [List.mem_cons, List.not_mem_nil, or_false, not_or]; exact ⟨hSi, hSl⟩
  have hT : s.TypeIs (.ref it) "list_reverseiterator" := hit.typeIs
  have h1 : Builtin.List.listSameRef (.ref S) (.ref it) = false := by simp [Builtin.List.listSameRef, hSi]
  unfold Builtin.List.listExtendWith
  refine wpAny_bind (wpAny_typeOf hT ?_)
  rw [if_neg (by rw [h1]; decide)]
  refine wpAny_bind (wpAny_pyIter_revIter hit ?_)
  refine wpAny_bind (wpAny_holding ?_)
  unfold Builtin.List.listLengthHint
  refine wpAny_bind (wpAny_specialOf hT RT.nolen_lri ?_)
  show wpAny _ A.in1 (specialOf (Value.ref it) (Str.ofString "__length_hint__") >>= _) _ _ _
  refine wpAny_bind (wpAny_specialOf hT RT.hint_lri ?_)
  generalize hid : ("list_reverseiterator.__length_hint__" : String) = id0
  wp_delta
  rw [show splitId id0 = some ("list_reverseiterator", "__length_hint__") from by subst hid; decide +kernel]
  subst hid
  refine wpAny_bind (wpAny_isInstance (b := true) hT (by rw [isSubtype_type]; kernel_rfl) ?_)
  refine wpAny_pure ?_
  rw [if_neg (by decide)]
  have e0 : ((items.size : Nat) : Int) - 1 - ((0 : Nat) : Int) = (items.size : Int) - 1 := by omega
  refine wpAny_pure ⟨plainId_quiet F.plain_extend_loop _, codeAny_extend_loopS W hn _ hSf _ items.size 0 _ _ _ rfl (Nat.zero_le _) ⟨Nat.zero_le _, by rw [e0]; exact hit, hl⟩ hS (ItemsOf.nil _) fun s' acc' c' hm hS' hacc => ?_⟩
  rw [Moved.eq_with hm]
  refine hR s'.heap s'.toks acc' c' (fun b o hb hb2 e => hm.heap b o (fun hmem => ?_) e) hS' hacc
  rcases List.mem_cons.mp hmem with e' | hmem
  · exact hb e'
  · exact hb2 (List.mem_singleton.mp hmem)
theorem call_list_rev {Q : Value → Shared → Prop} {it l : Addr} {items : Array Value} (hh : A.handled = none) (hit : s.heap.IsRevIter it l ((items.size : Int) - 1)) (hl : s.heap.IsList l items) (hne : l ≠ it) (hn : items.size ≤ sizeLine)
    (hQ : ∀ h' tk acc' c', (∀ b o, b ≠ it → s.heap.get? b = some o → h'.get? b = some o) → h'.get? s.heap.objs.size = some { cls := .type "list", dict := none, data := .seq acc' c', slots := #[] } → ItemsOf (fun i v => items[items.size - 1 - i]? = some v) acc' items.size → Q (.ref s.heap.objs.size) { s with heap := h', toks := tk }) :
    wpAny (model prog w) A (call (.type "list") [.ref it]) Q E s := by
  refine callType_codes (Q₁ := fun obj s₁ => obj = .ref s.heap.objs.size ∧ s₁ = { s with heap := s.heap.push { cls := .type "list", data := .seq #[] } }) PySem.F.called_list (PySem.F.typeCall_list_1 _) PySem.F.entry_list_init
    (code_list_new _ ⟨rfl, rfl⟩) fun obj s₁ h₁ => ?_
  obtain ⟨rfl, rfl⟩ := h₁
  have hS : (s.heap.push { cls := .type "list", data := .seq #[] }).get? s.heap.objs.size = some { cls := .type "list", data := .seq #[] } := Heap.get?_push_size _ rfl
  obtain ⟨oi, hoi, _⟩ := id hit
  obtain ⟨ol, hol, _⟩ := id hl
  have hSi : s.heap.objs.size ≠ it := Nat.ne_of_gt (Heap.lt_size hoi)
  have hSl : s.heap.objs.size ≠ l := Nat.ne_of_gt (Heap.lt_size hol)
  refine ⟨⟨_, hS, rfl⟩, PySem.F.args_list_init_2 _ _, ?_⟩
  show wpAny _ _ (do let old ← Builtin.List.listItems (.ref s.heap.objs.size); Builtin.List.listUpdate (.ref s.heap.objs.size) (fun _ => #[]); letGo old.toList.reverse; Builtin.List.listExtendWith (.ref s.heap.objs.size) (.ref it) .none) _ _ _
  refine wpAny_bind ?_
  unfold Builtin.List.listItems
  refine wpAny_bind (wpAny_seqItems hS rfl (wpAny_pure ?_))
  show wpAny _ _ (updateSeq s.heap.objs.size (fun _ => #[]) >>= fun _ => letGo (#[] : Array Value).toList.reverse >>= fun _ => Builtin.List.listExtendWith (.ref s.heap.objs.size) (.ref it) .none) _ _ _
  refine wpAny_bind (wpAny_updateSeq hS rfl ?_)
  have hS₂ := Heap.get?_update_self (Obj.mapSeq (fun _ => (#[] : Array Value))) hS rfl
  have oth : ∀ b o, b ≠ s.heap.objs.size → (s.heap.push { cls := .type "list", data := .seq #[] }).get? b = some o → ((s.heap.push { cls := .type "list", data := .seq #[] }).update s.heap.objs.size (Obj.mapSeq (fun _ => (#[] : Array Value)))).get? b = some o :=
    fun b o hb e => (Heap.get?_update_other _ _ (Ne.symm hb)).trans e
  have k0 : ∀ b o, s.heap.get? b = some o → ((s.heap.push { cls := .type "list", data := .seq #[] }).update s.heap.objs.size (Obj.mapSeq (fun _ => (#[] : Array Value)))).get? b = some o := fun b o e => oth b o (Nat.ne_of_lt (Heap.lt_size e)) (Heap.get?_push_of_some _ e)
  refine wpAny_bind (wpAny_letGo ?_)
  refine rev_extend (A := A.in1) hh (hit.at fun o e => k0 _ o e) (hl.at fun o e => k0 _ o e) hne hn hSi hSl .none _ hS₂ fun h' tk acc' c' hk hS' hacc => ?_
  exact ⟨rfl, hQ h' tk acc' c' (fun b o hb e => hk b o (Nat.ne_of_lt (Heap.lt_size e)) hb (k0 b o e)) hS' hacc⟩
end
section
variable {X : Cx}
def tLstRev (K : PySem.W.Frag) (te : TE) : TE := fun σ H Q => te σ H fun v H1 => ∃ (a : Addr) (xs : List V), v = .ref a ∧ SqL K H1 a xs ∧ ∀ q, H1 q = none → Q (.ref q) (upd H1 q (.lst xs.reverse))
theorem pe_lstRev {e : Expr} {te : TE} {p p2 pos pos2 : Pos} (hc : X.calm = true) (hg : Gl X "list") (hm : X.mg "list" = none) (hg2 : Gl X "reversed") (hm2 : X.mg "reversed" = none) (he : PE X e te)
    (hs : starEach [e] X.env = (false, eval e X.env) :: starEach [] X.env := by rfl)
    (hs2 : starEach [.Call (.Name "reversed" p2) [e] [] pos2] X.env = (false, eval (.Call (.Name "reversed" p2) [e] [] pos2) X.env) :: starEach [] X.env := by rfl) :
    PE X (.Call (.Name "list" p) [.Call (.Name "reversed" p2) [e] [] pos2] [] pos) (tLstRev X.K te) := by
  refine ⟨fun pins s σ H Q I h => ?_⟩
  refine Call_ (ld_blt I hg hm boot_list (PyProof.Rows.callWith_type1 (args_cons (Call_ (ld_blt I hg2 hm2 PyProof.Rows.boot_reversed (PyProof.Rows.callWith_type1 (args_cons (thn (he.run pins s σ H _ I h) fun u s1 ⟨v, H1, I1, r1, q1⟩ => args_nil ?_) hs) hs rfl))) hs2) hs2 rfl))
  obtain ⟨a, xs, ev, hq, q⟩ := q1
  subst ev
  obtain rfl : u = Value.ref a := r1
  obtain ⟨its, rv, p', hz⟩ := I1.list hq
  refine call_reversed_list p'.isList (args_nil ?_)
  have k0 : ∀ b o, s1.heap.get? b = some o → (s1.heap.push (revObj a ((its.toArray.size : Int) - 1))).get? b = some o := fun b o e => Heap.get?_push_of_some _ e
  have I2 : Inv X pins σ H1 { s1 with heap := s1.heap.push (revObj a ((its.toArray.size : Int) - 1)) } := I1.kept (t' := s1.toks) k0
  obtain ⟨f0, f1, f2, f3, f4, f5⟩ := I1.fpOk (H' := H1) (b := s1.heap.objs.size) (Nat.le_refl _) (I1.hok.fresh (Nat.le_refl _))
  have hl := p'.isList
  obtain ⟨ol, hol, _⟩ := id hl
  have hne : a ≠ s1.heap.objs.size := Nat.ne_of_lt (Heap.lt_size hol)
  have hn : its.toArray.size ≤ sizeLine := by rw [List.size_toArray, ← rv.length]; exact hz
  refine call_list_rev (s := { s1 with heap := s1.heap.push (revObj a ((its.toArray.size : Int) - 1)) }) (I1.ok.hd hc) ⟨_, Heap.get?_push_size _ rfl, rfl, rfl⟩ (hl.push _) hne hn fun h' tk acc c' hk hS hi => ?_
  generalize hp : (s1.heap.push (revObj a ((its.toArray.size : Int) - 1))).objs.size = L at hS ⊢
  have hLs : s1.heap.objs.size < L := by rw [← hp, Heap.size_push]; exact Nat.lt_succ_self _
  have k1 : ∀ b o, b ≠ s1.heap.objs.size → s1.heap.get? b = some o → h'.get? b = some o := fun b o hb e => hk b o hb (k0 b o e)
  have hL1 : H1 L = none := I2.hok.fresh (by rw [← hp]; exact Nat.le_refl _)
  refine ⟨.ref L, upd H1 L (.lst xs.reverse), I1.laid (t' := tk) (fun b o e => k1 b o (Nat.ne_of_lt (Heap.lt_size e)) e) (Nat.le_of_lt hLs) (show ObjOk X.prog X.w _ _ _ (.lst xs.reverse) from ⟨by rw [List.length_reverse]; exact hz, acc.toList, c', RT.vals_rev rv hi, ?_⟩), rfl, q _ hL1⟩
  rw [Array.toArray_toList]
  exact hS
variable {T : List Addr} {B : Bs} {ρ ρ1 : Sl} {W : List Addr} {a : Expr} {p p2 pos pos2 : Pos} {ds : List D}
theorem eo_listRev (hc : X.calm = true) (hg : Gl X "list") (hm : X.mg "list" = none) (hg2 : Gl X "reversed") (hm2 : X.mg "reversed" = none) (ha : EL X T B ρ a W ρ1 ds)
    (hs : starEach [a] X.env = (false, eval a X.env) :: starEach [] X.env := by rfl)
    (hs2 : starEach [.Call (.Name "reversed" p2) [a] [] pos2] X.env = (false, eval (.Call (.Name "reversed" p2) [a] [] pos2) X.env) :: starEach [] X.env := by rfl) :
    EO X T B ρ (.Call (.Name "list" p) [.Call (.Name "reversed" p2) [a] [] pos2] [] pos) W ρ1 ds.reverse :=
  ⟨PE.imp (pe_lstRev hc hg hm hg2 hm2 ha.run hs hs2) fun σ H Q ⟨S, q⟩ => ⟨S, fun l xs H1 S1 f1 r1 r2 => ⟨l, xs, rfl, r1, fun p np => q p xs.reverse _ (free_H0 S1 np) (sim_add S1 np rfl) (f1.transN (Fx.new np)) upd_same (S1.free np) (r2.reverse.mono fun b o _ e => by
    obtain ⟨z1, z2⟩ := msk_some e
    have ne := ne_of_none z2 np
    rw [msk_out (fun y => by
      rcases List.mem_cons.mp y with y | y
      · exact ne y
      · exact z1 y), upd_ne ne]
    exact z2)⟩⟩, ha.own, ha.sub⟩
end
end Dv

set_option maxRecDepth 100000
set_option maxHeartbeats 2000000
namespace Dv
open PySem PySem.Spec PyProof.Rows L2
/-! ### lists put together -/
def rCatS (K : PySem.W.Frag) : L2.R2 := fun x y H Q => ∃ l b xs zs, x = .ref l ∧ y = .ref b ∧ SqL K H l xs ∧ SqL K H b zs ∧ xs.length + zs.length ≤ sizeLine ∧ ∀ p, H p = none → Q (.ref p) (upd H p (.lst (xs ++ zs)))
theorem op_catS {X : Cx} : OpR X (binaryOp .Add) (rCatS X.K) := by
  intro pins s σ H x y v u Q I rx ry h
  obtain ⟨l, b, xs, zs, rfl, rfl, hH, hB, hz, q⟩ := h
  cases rx
  cases ry
  obtain ⟨its, r, hl, z⟩ := I.list hH
  obtain ⟨its2, r2, hl2, z2⟩ := I.list hB
  obtain ⟨⟨cls, dd, data, sl⟩, n, ho, hc, hdd, hd⟩ := hl
  obtain ⟨⟨cls2, dd2, data2, sl2⟩, n2, ho2, hc2, hdd2, hd2⟩ := hl2
  simp only at hc hd hc2 hd2
  subst hc hd hc2 hd2
  have l1 := r.length
  have l2 := r2.length
  have e : its.toArray ++ its2.toArray = (its ++ its2).toArray := by simp
  refine concat_meets ⟨_, ho, rfl⟩ ⟨_, ho2, rfl⟩ noFill_list_add seq_list_add PySem.F.slot_list_add PySem.F.entry_list_add (PySem.F.args_list_add_2 _ _) (list_addW l b its.toArray its2.toArray n n2 dd dd2 sl sl2 (by simp only [List.size_toArray]; omega)) ⟨ho, ho2, ?_⟩
  rw [e]
  exact ⟨.ref _, _, I.lnew (t' := s.toks) (r.append r2) (by rw [List.length_append]; omega), rfl, q _ I.fresh⟩
section
variable {X : Cx} {T : List Addr} {B : Bs} {ρ ρ1 ρ2 ρ3 : Sl} {W W1 W2 W3 : List Addr} {e a b c : Expr} {d d1 d2 d3 : D} {pos apos px : Pos} {k : DE} {r : List Stmt} {x : Str} {l : Addr} {p : Pos}
theorem msk_more {H : Hp} {p : Addr} {o : HO} {O : List Addr} (np : H p = none) : Kp (msk O H) (msk (p :: O) (upd H p o)) := fun b u _ e => by
  obtain ⟨z1, z2⟩ := msk_some e
  have ne := ne_of_none z2 np
  rw [msk_out (fun y => by
    rcases List.mem_cons.mp y with y | y
    · exact ne y
    · exact z1 y), upd_ne ne]
  exact z2
/-- xs + ys, data -/
theorem eo_cat {xs ys : List D} (ha : EX X T B ρ a W1 ρ1 (.list xs)) (hb : EX X T B ρ1 b W2 ρ2 (.list ys)) (hl : xs.length + ys.length ≤ sizeLine) : EO X T B ρ (.BinOp a .Add b pos) (W1 ++ W2) ρ2 (xs ++ ys) := by
  refine ⟨PE.imp (pe_op op_catS ha.run hb.run) fun σ H Q ⟨S, q⟩ => ⟨S, fun x H1 S1 f1 r1 => ⟨S1, fun y H2 S2 f2 r2 => ?_⟩⟩, hb.own.trans ha.own, sub_app ha.sub ha.own hb.sub⟩
  have r1' := carry hb f2 r1
  cases r1' with
  | lst h1 h2 =>
    cases r2 with
    | lst g1 g2 =>
      exact ⟨_, _, _, _, rfl, rfl, (Kp.ofmsk _ _).sqL h1, (Kp.ofmsk _ _).sqL g1, by rw [h2.length, g2.length]; exact hl, fun p np => q p _ _ (free_H0 S2 np) (sim_add S2 np rfl) ((f1.trans f2).transN (Fx.new np)) upd_same (S2.free np) ((h2.append g2).mono (msk_more np))⟩
/-- a slice of a list -/
theorem po_to {i : Int} (h : EX X T B ρ a W ρ1 (.int i)) : PO X (some a) (fun σ H Q => Sim X.K T B ρ σ H ∧ ∀ H', Sim X.K T B ρ1 σ H' → Fx W H H' → Q (some i) H') :=
  ⟨fun pins s σ H Q I ⟨S, q⟩ => (po_some h.run).run pins s σ H Q I ⟨S, fun v H' S' f r => ⟨i, int_of r, q H' S' f⟩⟩⟩
theorem sixl {n d : Nat} (hd : d ≤ n) (o : Option Int) : HT.sIx n d o ≤ n := HT.sIx_le n d hd o
theorem cutV_len {xs : List V} {ds : List D} {K : PySem.W.Frag} {H : Hp} (r : RpA K H xs ds) (lo hi : Option Int) : RpA K H (cutV xs lo hi) ((ds.drop (HT.sIx ds.length 0 lo)).take (HT.sIx ds.length ds.length hi - HT.sIx ds.length 0 lo)) := by
  unfold cutV
  rw [r.length]
  exact (r.drop _).take _
/-- xs[:i] -/
theorem ex_sliceTo {ds : List D} {n : Nat} {p2 : Pos} (ha : EX X T B ρ a W1 ρ1 (.list ds)) (hb : EX X T B ρ1 b W2 ρ2 (.int (n : Int))) : EX X T B ρ (.Subscript a (.Slice none (some b) none p2) pos) (W1 ++ W2) ρ2 (.list (ds.take n)) := by
  refine ⟨PE.imp (pe_slice sl_list ha.run po_none (po_to hb)) fun σ H Q ⟨S, q⟩ => ⟨S, fun x H1 S1 f1 r1 => ⟨S1, fun H2 S2 f2 => ?_⟩⟩, hb.own.trans ha.own, sub_app ha.sub ha.own hb.sub⟩
  have r1' := carry hb f2 r1
  cases r1' with
  | lst h1 h2 =>
    rename_i a' xs'
    refine ⟨_, _, rfl, (Kp.ofmsk _ _).sqL h1, fun p np => q _ _ (S2.new np) ((f1.trans f2).transN (Fx.new np)) (.lst (SqL.of (msk_new S2 np)) ?_)⟩
    have z := (cutV_len h2 none (some (n : Int))).mono (kp_new (o := .lst (cutV xs' none (some (n : Int)))) np)
    have e : ((ds.drop (HT.sIx ds.length 0 none)).take (HT.sIx ds.length ds.length (some (n : Int)) - HT.sIx ds.length 0 none)) = ds.take n := by
      rw [HT.sIx_none, HT.sIx_nat, List.drop_zero, Nat.sub_zero]
      by_cases q : n ≤ ds.length
      · rw [Nat.min_eq_left q]
      · rw [Nat.min_eq_right (by omega), List.take_length, List.take_of_length_le (by omega)]
    rw [e] at z
    exact z

theorem Call2.run {f : Expr} {rr : List V → Hp → VK → Prop} {t : TA} (h : Call2 X f a b pos rr) (q : PA X [a, b] t) : PE X (.Call f [a, b] [] pos) (tCB rr t) := h t q
/-! ### isinstance -/
theorem ex_isBool {i : Bool} {px : Pos} (hg : Gl X "isinstance") (hm : X.mg "isinstance" = none) (hg2 : Gl X "bool") (hm2 : X.mg "bool" = none) (ha : EX X T B ρ a W ρ1 (.bool i))
    (he : starEach [a, .Name "bool" px] X.env = (false, eval a X.env) :: starEach [.Name "bool" px] X.env := by rfl) (he2 : starEach [.Name "bool" px] X.env = (false, eval (.Name "bool" px) X.env) :: starEach [] X.env := by rfl) (hpl : (backTo pos (starEach [.Name "bool" px] X.env)).any (·.1) = false := by rfl) :
    EX X T B ρ (.Call (.Name "isinstance" p) [a, .Name "bool" px] [] pos) W ρ1 (.bool true) := by
  refine ⟨PE.imp (Call2.run (c2b (p := p) call_isi hg hm (by decide +kernel) (he := he) (hpl := hpl)) (pa_cons ha.run (pa_cons (pe_bltn (v := .ty "bool") (u := .type "bool") hg2 hm2 (by decide +kernel) rfl) pa_nil he2) he)) fun σ H Q ⟨S, q⟩ => ⟨S, fun x H1 S1 f1 r1 => ?_⟩, ha.own, ha.sub⟩
  rw [bl_of r1]
  refine ⟨.bl i, .ty "bool", .type "bool", .type "bool", true, rfl, ?_, ?_, kit_ty (by decide +kernel), q _ H1 S1 f1 (.bl _)⟩
  · exact .ty _
  · exact .base (by constructor)

/-! ### gcd -/
theorem ex_gcd {i j : Int} (hg : Gl X x) (hm : X.mg x = some (.builtin "math.gcd")) (ha : EX X T B ρ a W1 ρ1 (.int i)) (hb : EX X T B ρ1 b W2 ρ2 (.int j)) (hdb : (x == ("__debug__" : Str)) = false := by decide)
    (he : starEach [a, b] X.env = (false, eval a X.env) :: starEach [b] X.env := by rfl) (he2 : starEach [b] X.env = (false, eval b X.env) :: starEach [] X.env := by rfl) (hpl : (backTo pos (starEach [b] X.env)).any (·.1) = false := by rfl) :
    EX X T B ρ (.Call (.Name x p) [a, b] [] pos) (W1 ++ W2) ρ2 (.int ((Nat.gcd i.natAbs j.natAbs : Nat) : Int)) :=
  ex_call2 (fun t h => pe_callBfun cr_gcd hg hm h hdb he hpl) ha hb (v := .int ((Nat.gcd i.natAbs j.natAbs : Nat) : Int)) (fun x y H Q r1 r2 q => ⟨i, j, by rw [int_of r1, int_of r2], q⟩) (fun _ => .int _) he he2

/-! ### zip -/
def zipD : List D → List D → List D
  | a :: as, b :: bs => .tuple [a, b] :: zipD as bs
  | _, _ => []
theorem zipD_get : ∀ {as bs : List D} {i : Nat}, i < (zipD as bs).length → ∃ x y, as[i]? = some x ∧ bs[i]? = some y ∧ (zipD as bs)[i]? = some (.tuple [x, y])
  | a :: as, b :: bs, 0, _ => ⟨a, b, rfl, rfl, rfl⟩
  | a :: as, b :: bs, i + 1, h => zipD_get (as := as) (bs := bs) (i := i) (by simpa [zipD] using h)
  | [], bs, i, h => by simp [zipD] at h
  | a :: as, [], i, h => by simp [zipD] at h
theorem zipD_len : ∀ {as bs : List D} {i : Nat}, (zipD as bs).length ≤ i → as.length ≤ i ∨ bs.length ≤ i
  | a :: as, b :: bs, i, h => by
    have h' : (zipD as bs).length + 1 ≤ i := h
    cases i with
    | zero => omega
    | succ i =>
      rcases zipD_len (as := as) (bs := bs) (i := i) (by omega) with z | z
      · exact .inl (by simpa using z)
      · exact .inr (by simpa using z)
  | [], bs, i, h => .inl (Nat.zero_le _)
  | a :: as, [], i, h => .inr (Nat.zero_le _)
theorem walked_zipT {K : PySem.W.Frag} {O : List Addr} {H : Hp} {as bs : List D} {p q : Addr} {xs ys : List V} (h : Tt (msk O H) p xs) (r : RpA K (msk O H) xs as) (h2 : Tt (msk O H) q ys) (r2 : RpA K (msk O H) ys bs) : Walked K O (zipD as bs) (RZ.ItzT K p q) H := by
  refine ⟨fun i O' H' k hi => ?_, fun i O' H' k hi => ?_, fun i O' H' v H2 k hO hi y => ?_⟩
  · obtain ⟨x, y, e1, e2, _⟩ := zipD_get hi
    obtain ⟨v, f1, _⟩ := r.getD e1
    obtain ⟨w, g1, _⟩ := r2.getD e2
    exact ⟨xs, ys, v, w, (Kp.ofmsk _ _).sqT (k.tt h), (Kp.ofmsk _ _).sqT (k.tt h2), f1, g1⟩
  · exact ⟨xs, ys, (Kp.ofmsk _ _).sqT (k.tt h), (Kp.ofmsk _ _).sqT (k.tt h2), by
      rcases zipD_len hi with z | z
      · exact .inl (by rw [r.length]; exact z)
      · exact .inr (by rw [r2.length]; exact z)⟩
  · obtain ⟨T', v1, v2, rfl, hT, rfl, f1, f2⟩ := y
    obtain ⟨x, y, e1, e2, e3⟩ := zipD_get hi
    have g1 := f1 xs ((Kp.ofmsk _ _).sqT (k.tt h))
    have g2 := f2 ys ((Kp.ofmsk _ _).sqT (k.tt h2))
    obtain ⟨d1, k1, k2⟩ := r.get g1
    obtain ⟨d2, k3, k4⟩ := r2.get g2
    rw [e1] at k1; cases k1
    rw [e2] at k3; cases k3
    have nO : T' ∉ O' := fun z => by
      obtain ⟨o, e⟩ := hO T' z
      rw [hT] at e; cases e
    refine ⟨.inr ⟨T', [v1, v2], hT, rfl⟩, _, e3, .tup (by show msk _ _ _ = _; rw [msk_out nO, upd_same]) (.cons ((k2.mono k).mono (kp_new hT)) (.cons ((k4.mono k).mono (kp_new hT)) .nil))⟩
theorem ix_zipT {as bs : List D} {elts : List Expr} {kk : Nat} {tpos : Pos} (hg : Gl X "zip") (hm : X.mg "zip" = none) (ha : EX X T B ρ a W1 ρ1 (.tuple as)) (hb : EX X T B ρ1 b W2 ρ2 (.tuple bs))
    (he : starEach [a, b] X.env = (false, eval a X.env) :: starEach [b] X.env := by rfl) (he2 : starEach [b] X.env = (false, eval b X.env) :: starEach [] X.env := by rfl) (hpl : (backTo pos (starEach [b] X.env)).any (·.1) = false := by rfl) :
    IX X T B ρ (.Tuple elts kk tpos) (.Call (.Name "zip" p) [a, b] [] pos) (W1 ++ W2) ρ2 (zipD as bs) := by
  refine ⟨⟨_, RZ.pi_zipA hg hm (pa_cons ha.run (pa_cons hb.run pa_nil he2) he) he hpl, fun σ H R S q => ⟨S, fun v H1 S1 f1 r1 => ⟨S1, fun w H2 S2 f2 r2 => ?_⟩⟩⟩, hb.own.trans ha.own, sub_app ha.sub ha.own hb.sub⟩
  have r1' := carry hb f2 r1
  cases r1' with
  | tup h1 h2 =>
    cases r2 with
    | tup g1 g2 => exact ⟨_, _, _, _, rfl, .inr ⟨(Kp.ofmsk _ _).sqT h1, (Kp.ofmsk _ _).sqT g1, q _ H2 S2 (f1.trans f2) (walked_zipT h1 h2 g1 g2)⟩⟩

/-! ### sorted texts -/
theorem ex_sortedS {ns ys : List Str} (hg : Gl X "sorted") (hm : X.mg "sorted" = none) (ha : EL X T B ρ a W ρ1 (ns.map .str)) (h64 : ns.length < 64) (hy : ∀ zs : List Str, zs.Perm ns → sortedS zs = true → zs = ys) (he : starEach [a] X.env = (false, eval a X.env) :: starEach [] X.env := by rfl) :
    EX X T B ρ (.Call (.Name "sorted" p) [a] [] pos) W ρ1 (.list (ys.map .str)) :=
  ⟨PE.imp (Call1.run (c1b (p := p) cr_sortedS hg hm (by decide +kernel) (he := he)) (pa_cons ha.run pa_nil he)) fun σ H Q ⟨S, q⟩ => ⟨S, fun l xs H' S' f r1 r2 => ⟨l, ns, rfl, by rw [← r2.strs]; exact r1, h64, fun zs p h1 h2 np => by
    rw [hy zs h1 h2]
    exact q _ _ (S'.new np) (f.transN (Fx.new np)) (.lst (SqL.of (msk_new S' np)) (RpA.of_strs _))⟩⟩, ha.own, ha.sub⟩

/-! ### dicts with text keys -/
def kvD (kvs : List (Str × D)) : List (D × D) := kvs.map fun q => (.str q.1, q.2)
theorem rpK_of {K : PySem.W.Frag} {H : Hp} : ∀ {kvs : List (Key × V)} {ds : List (Str × D)}, RpK K H kvs (kvD ds) → ∃ vs : List V, kvs = (ds.map (fun q => Sum.inr q.1)).zip vs ∧ vs.length = ds.length ∧ RpA K H vs (ds.map (·.2))
  | _, [], .nil => ⟨[], rfl, rfl, .nil⟩
  | _, (x, d) :: ds, h => by
    have h' : RpK K H _ ((.str x, d) :: kvD ds) := h
    generalize hk : (PyData.str x, d) :: kvD ds = L at h'
    cases h' with
    | nil => cases hk
    | cons h1 h2 =>
      rename_i k v vs d' ds'
      have e1 := (List.cons.inj hk).1
      have e2 := (List.cons.inj hk).2
      subst e2
      have ek : kD k = .str x := (congrArg Prod.fst e1).symm
      have ed : d' = d := (congrArg Prod.snd e1).symm
      subst ed
      have kx : k = Sum.inr x := by
        cases k with
        | inl i => cases ek
        | inr y => exact congrArg Sum.inr (PyData.str.inj ek)
      subst kx
      obtain ⟨ws, q1, q2, q3⟩ := rpK_of h2
      exact ⟨v :: ws, by rw [q1]; rfl, by simp [q2], .cons h1 q3⟩
theorem noT {K : PySem.W.Frag} {H : Hp} {kk : List (List Key × V)} {dd : List (D × D)} {kvs : List (Str × D)} (hn : dd ≠ []) (e : dd = kvD kvs) : ¬ RpT K H kk (kvD kvs) := fun h => by
  cases kvs with
  | nil => exact hn e
  | cons q r =>
    have h' : RpT K H kk ((.str q.1, q.2) :: kvD r) := h
    cases h'
/-- the value at a key -/
def lookD (kvs : List (Str × D)) (x : Str) : Option D := (kvs.find? fun q => decide (q.1 = x)).map (·.2)
theorem rpK_val {K : PySem.W.Frag} {H : Hp} {x : Str} {d : D} : ∀ {kvs : List (Key × V)} {ds : List (Str × D)}, RpK K H kvs (kvD ds) → lookD ds x = some d → ∃ v, valV kvs (Sum.inr x) = some v ∧ Rp K H v d := by
  intro kvs ds h hl
  obtain ⟨vs, rfl, hlen, r⟩ := rpK_of h
  clear h
  induction ds generalizing vs with
  | nil => cases hl
  | cons q ds ih =>
    cases vs with
    | nil => cases hlen
    | cons v vs =>
      cases r with
      | cons r1 r2 =>
        by_cases e : q.1 = x
        · have : lookD (q :: ds) x = some q.2 := by unfold lookD; simp [List.find?_cons, e]
          rw [this] at hl
          cases hl
          exact ⟨v, valV_pos (show (Sum.inr q.1 : Key) = Sum.inr x by rw [e]), r1⟩
        · have e3 : lookD (q :: ds) x = lookD ds x := by unfold lookD; simp [List.find?_cons, e]
          rw [e3] at hl
          obtain ⟨w, h1, h2⟩ := ih hl vs (by simpa using hlen) r2
          exact ⟨w, by
            show valV ((Sum.inr q.1, v) :: _) (Sum.inr x) = some w
            rw [valV_neg (by intro z; exact e (Sum.inr.inj z))]
            exact h1, h2⟩
/-- d[k] -/
theorem ex_dgetS {kvs : List (Str × D)} {z : Str} (hu : X.A.units + 1 < cLine) (ha : EX X T B ρ a W1 ρ1 (.dict (kvD kvs))) (hb : EX X T B ρ1 b W2 ρ2 (.str z)) (hl : lookD kvs z = some d) (hs : NoSl b := by exact fun _ _ => rfl) :
    EX X T B ρ (.Subscript a b pos) (W1 ++ W2) ρ2 d := by
  refine ⟨PE.imp (pe_dget hu ha.run hb.run hs) fun σ H Q ⟨S, q⟩ => ⟨S, fun x H1 S1 f1 r1 => ⟨S1, fun y H2 S2 f2 r2 => ?_⟩⟩, hb.own.trans ha.own, sub_app ha.sub ha.own hb.sub⟩
  have r1' := carry hb f2 r1
  rw [str_of r2]
  have key : ∀ {v : V} {dd : List (D × D)}, dd = kvD kvs → Rp X.K (msk (B.all ρ2) H2) v (.dict dd) → ∃ a w, v = .ref a ∧ DGet H2 a (.str z) (some w) ∧ Rp X.K (msk (B.all ρ2) H2) w d := fun {v dd} e h => by
    cases h with
    | dk h1 h2 =>
      rw [e] at h2
      obtain ⟨w, g1, g2⟩ := rpK_val h2 hl
      refine ⟨_, w, rfl, ?_, g2⟩
      have z2 := DGet.k (k := Sum.inr z) ((msk_some h1).2)
      rw [g1] at z2
      exact z2
    | dt hn h1 h2 => exact absurd (e ▸ h2) (noT hn e)
  obtain ⟨a', w, e1, e2, e3⟩ := key rfl r1'
  exact ⟨a', w, e1, e2, q w H2 S2 (f1.trans f2) e3⟩
/-- list(d) -/
theorem ex_listD {kvs : List (Str × D)} (hc : X.calm = true) (hg : Gl X "list") (hm : X.mg "list" = none) (ha : EX X T B ρ a W ρ1 (.dict (kvD kvs))) (he : starEach [a] X.env = (false, eval a X.env) :: starEach [] X.env := by rfl) :
    EX X T B ρ (.Call (.Name "list" p) [a] [] pos) W ρ1 (.list ((kvs.map (·.1)).map .str)) := by
  refine ⟨PE.imp (Call1.run (c1t (p := p) (call_list_dK hc) hg hm (by decide +kernel) (he := he)) (pa_cons ha.run pa_nil he)) fun σ H Q ⟨S, q⟩ => ⟨S, fun v H' S' f r1 => ?_⟩, ha.own, ha.sub⟩
  have key : ∀ {v : V} {dd : List (D × D)}, dd = kvD kvs → Rp X.K (msk (B.all ρ1) H') v (.dict dd) → ∃ a kk, v = .ref a ∧ H' a = some (.dK kk) ∧ RpK X.K (msk (B.all ρ1) H') kk (kvD kvs) := fun {v dd} e h => by
    cases h with
    | dk h1 h2 => exact ⟨_, _, rfl, (msk_some h1).2, e ▸ h2⟩
    | dt hn h1 h2 => exact absurd (e ▸ h2) (noT hn e)
  obtain ⟨a', kk, rfl, h1, h2⟩ := key rfl r1
  obtain ⟨vs, rfl, hlen, r⟩ := rpK_of h2
  refine ⟨a', _, rfl, h1, fun p np => ?_⟩
  refine q _ _ (S'.new np) (f.transN (Fx.new np)) (.lst (SqL.of (msk_new S' np)) ?_)
  have e : (((kvs.map fun q => (Sum.inr q.1 : Key)).zip vs).map fun kv => kV kv.1) = (kvs.map (·.1)).map V.str := by
    clear r h1 h2 r1 np
    induction kvs generalizing vs with
    | nil => rfl
    | cons q r ih =>
      cases vs with
      | nil => cases hlen
      | cons v vs =>
        show _ :: _ = _ :: _
        by_cases hr : r = []
        · subst hr
          cases vs with
          | nil => rfl
          | cons _ _ => simp at hlen
        · exact congrArg _ (ih2 vs (by simpa using hlen))
  rw [e]
  exact RpA.of_strs _
where
  ih2 {r : List (Str × D)} : ∀ (vs : List V), vs.length = r.length → (((r.map fun q => (Sum.inr q.1 : Key)).zip vs).map fun kv => kV kv.1) = (r.map (·.1)).map V.str := by
    induction r with
    | nil => intro vs h; rfl
    | cons q r ih =>
      intro vs h
      cases vs with
      | nil => cases h
      | cons v vs => show _ :: _ = _ :: _; exact congrArg _ (ih vs (by simpa using h))
end
end Dv

set_option maxRecDepth 100000
set_option maxHeartbeats 2000000
namespace Dv
open PySem PySem.Spec PyProof.Rows L2
/-! ### dict(pairs), the keys tuples -/
def mergedH (acc : List (List Key × Addr × Value)) (rest : List (List Key × Addr × Value)) : List (List Key × Addr × Value) := rest.foldl (fun a q => storedH a q.1 q.2.1 q.2.2) acc
theorem storedH_len (xs : List (List Key × Addr × Value)) (k : List Key) (a : Addr) (v : Value) : (storedH xs k a v).length ≤ xs.length + 1 := by
  unfold storedH
  split
  · rw [List.length_map]; omega
  · rw [List.length_append]; simp
theorem storedH_mem {xs : List (List Key × Addr × Value)} {k : List Key} {a : Addr} {v : Value} {x : List Key × Addr × Value} (h : x ∈ storedH xs k a v) : (∃ y ∈ xs, y.1 = x.1 ∧ y.2.1 = x.2.1) ∨ (x.1 = k ∧ x.2.1 = a) := by
  unfold storedH at h
  split at h
  · obtain ⟨y, hy, e⟩ := List.mem_map.mp h
    refine .inl ⟨y, hy, ?_⟩
    unfold putAt at e
    split at e
    · rw [← e]; exact ⟨rfl, rfl⟩
    · rw [← e]; exact ⟨rfl, rfl⟩
  · rcases List.mem_append.mp h with h | h
    · exact .inl ⟨x, h, rfl, rfl⟩
    · have : x = (k, a, v) := by simpa using h
      rw [this]; exact .inr ⟨rfl, rfl⟩
section
variable {prog : Program} {w : World} {A : Around} {E : Value → Shared → Prop}
theorem isk_keep {h h' : Heap} {k : List Key} {a : Addr} (x : (tupleKind (mixKind prog w)).is h k a) (e : ∀ o, h.get? a = some o → h'.get? a = some o) : (tupleKind (mixKind prog w)).is h' k a := by
  obtain ⟨o, its, n, h1, r⟩ := x
  exact ⟨o, its, n, e o h1, r⟩
theorem upd_loopT {R : Result → Shared → Prop} {S I l : Addr} {items : Array Value} {res : Value} {h0 : Heap} (hh : A.handled = none) (hu : (tupleKind (mixKind prog w)).room A.in1) (hlI : l ≠ I) (hSI : S ≠ I) (hSl : S ≠ l) :
    ∀ (rest : List (List Key × Addr × Value)) (i : Nat) (acc : List (List Key × Addr × Value)) (ix : Int) (t : Tok) (s : Shared), items.size = i + rest.length → acc.length + rest.length ≤ sizeLine →
      (∀ b o, b ≠ S → b ≠ I → h0.get? b = some o → s.heap.get? b = some o) →
      (∀ x ∈ acc, (tupleKind (mixKind prog w)).is h0 x.1 x.2.1 ∧ x.2.1 ≠ S ∧ x.2.1 ≠ I) →
      (∀ (j : Nat) (q : List Key × Addr × Value), rest[j]? = some q → ∃ (b : Addr), items[i + j]? = some (.ref b) ∧ b ≠ S ∧ b ≠ I ∧ IsTup h0 b #[.ref q.2.1, q.2.2] ∧ (tupleKind (mixKind prog w)).is h0 q.1 q.2.1 ∧ q.2.1 ≠ S ∧ q.2.1 ≠ I) →
      s.heap.IsListIter I l i → s.heap.IsList l items → s.heap.DictOfH (tupleKind (mixKind prog w)) S acc →
      (∀ h' tk, h'.DictOfH (tupleKind (mixKind prog w)) S (mergedH acc rest) → (∀ b o, b ≠ S → b ≠ I → s.heap.get? b = some o → h'.get? b = some o) → R (.ok (.ret res)) { s with heap := h', toks := tk }) →
      codeAny (model prog w) A (.builtin "dict.update.loop" ⟨[.ref S, .ref I, .int ix t, res], []⟩) R s
  | [], i, acc, ix, t, s, hsz, hln, hk0, ha, ht, hit, hl, hm, hR => by
    refine codeAny_builtin ud_entry ?_
    rw [Around.under_plainId ud_plain _]
    show wpAny _ A.in1 (pyNext (.ref I) >>= _) _ _ s
    refine wpAny_bind (wpAny_pyNext_list_end (A := A.in1) hh hit hl (by first | exact Array.getElem?_eq_none (Nat.le_of_eq hsz) | (simp at hsz; simp; omega)) fun h' he => ?_)
    show wpAny _ A.in1 (Builtin.Dict.addKeywords S [] >>= _) _ _ _
    refine wpAny_bind (wpAny_pure (wpAny_pure ?_))
    obtain ⟨o, es, ep, ho, hc, hd, he2, his, hn⟩ := hm
    exact hR h' s.toks ⟨o, es, ep, he S o hSI ho, hc, hd, he2, fun x hx => isk_keep (his x hx) fun o' e' => he _ o' (ha x hx).2.2 e', hn⟩ fun b o _ hb e => he b o hb e
  | q :: rest, i, acc, ix, t, s, hsz, hln, hk0, ha, ht, hit, hl, hm, hR => by
    obtain ⟨b, hb, hbS, hbI, htup0, hk, hkS, hkI⟩ := ht 0 q rfl
    rw [List.length_cons] at hsz hln
    refine codeAny_builtin ud_entry ?_
    rw [Around.under_plainId ud_plain _]
    show wpAny _ A.in1 (pyNext (.ref I) >>= _) _ _ s
    refine wpAny_bind (wpAny_pyNext_list_item (x := .ref b) hit hl (by simpa using hb) fun h1 hit1 hs1 => ?_)
    obtain ⟨o0, ho0, hc0, n0, hd0⟩ := id htup0
    have htup : IsTup s.heap b #[.ref q.2.1, q.2.2] := ⟨o0, hk0 b o0 hbS hbI ho0, hc0, n0, hd0⟩
    have ht1 : IsTup h1 b #[.ref q.2.1, q.2.2] := htup.extBut hs1.extBut hbI
    have hl1 : h1.IsList l items := hl.extBut hs1.extBut hlI
    have hk1 : ∀ b o, b ≠ S → b ≠ I → h0.get? b = some o → h1.get? b = some o := fun b o x y e => hs1.extBut b o y (hk0 b o x y e)
    have hm1 : h1.DictOfH (tupleKind (mixKind prog w)) S acc := by
      obtain ⟨o, es, ep, ho, hc, hd, he2, his, hn⟩ := hm
      exact ⟨o, es, ep, hs1.extBut S o hSI ho, hc, hd, he2, fun x hx => isk_keep (his x hx) fun o' e' => hs1.extBut _ o' (ha x hx).2.2 e', hn⟩
    have hkk : (tupleKind (mixKind prog w)).is h1 q.1 q.2.1 := isk_keep hk fun o e => hk1 _ o hkS hkI e
    obtain ⟨o, ho, hc, n, hd⟩ := id ht1
    show wpAny _ A.in1 (holding [Value.ref b] _ >>= _) _ _ _
    refine wpAny_bind (wpAny_holding ?_)
    refine wpAny_bind (wpAny_tryCatch ?_)
    unfold Builtin.Dict.pairItems
    refine wpAny_bind (wpAny_typeOf (T := "tuple") ⟨o, ho, hc⟩ ?_)
    rw [if_pos (by first | decide | rfl | simp)]
    refine wpAny_bind (wpAny_seqItems ho hd (wpAny_pure ?_))
    show wpAny _ A.in1 (holding [Value.ref q.2.1, q.2.2] (dictSet S (.ref q.2.1) q.2.2)) _ _ _
    refine wpAny_holding (wpAny_dictSet_heap (knd := tupleKind (mixKind prog w)) (k := q.1) hu hkk hm1 (fun h2 hm2 hs2 => ?_) (by omega))
    refine wpAny_pure ⟨plainId_quiet ud_plain _, upd_loopT (items := items) (h0 := h0) hh hu hlI hSI hSl rest (i + 1) (storedH acc q.1 q.2.1 q.2.2) (ix + 1) 0 _ (show items.size = i + 1 + rest.length by omega) ?_ (fun c oc h3 h4 e => hs2.extBut c oc h3 (hk1 c oc h3 h4 e)) (fun x hx => ?_) (fun j q' e => ?_) ?_ ?_ hm2 fun h' tk hd' k => ?_⟩
    · have z := storedH_len acc q.1 q.2.1 q.2.2
      omega
    · rcases storedH_mem hx with ⟨y, hy, e1, e2⟩ | ⟨e1, e2⟩
      · rw [← e1, ← e2]; exact ha y hy
      · rw [e1, e2]; exact ⟨hk, hkS, hkI⟩
    · obtain ⟨b', hb', r⟩ := ht (j + 1) q' (by simpa using e)
      refine ⟨b', ?_, r⟩
      rw [show i + 1 + j = i + (j + 1) by omega]
      exact hb'
    · exact hit1.at fun o' e => hs2.extBut I o' (Ne.symm hSI) e
    · exact hl1.extBut hs2.extBut (Ne.symm hSl)
    · exact hR h' tk hd' fun c oc h3 h4 e => k c oc h3 h4 (hs2.extBut c oc h3 (hs1.extBut c oc h4 e))
theorem call_dict_pairsT {s : Shared} {l : Addr} {ol : Obj} {items : Array Value} {n : Nat} {prs : List (List Key × Addr × Value)} {Q : Value → Shared → Prop} (hh : A.handled = none) (hu : (tupleKind (mixKind prog w)).room A.in1.in1) (hl : s.heap.get? l = some ol) (hc : ol.cls = .type "list") (hd : ol.dict = none)
    (hdat : ol.data = .seq items n) (hsz : items.size = prs.length) (hln : prs.length ≤ sizeLine)
    (ht : ∀ (j : Nat) (q : List Key × Addr × Value), prs[j]? = some q → ∃ (b : Addr), items[j]? = some (.ref b) ∧ IsTup s.heap b #[.ref q.2.1, q.2.2] ∧ (tupleKind (mixKind prog w)).is s.heap q.1 q.2.1)
    (h : ∀ h' tk, h'.DictOfH (tupleKind (mixKind prog w)) s.heap.objs.size (mergedH [] prs) → (∀ b o, s.heap.get? b = some o → h'.get? b = some o) → Q (.ref s.heap.objs.size) { s with heap := h', toks := tk }) :
    wpAny (model prog w) A (call (.type "dict") [.ref l]) Q E s := by
  refine callType_codes (Q₁ := fun obj s₁ => obj = .ref s.heap.objs.size ∧ s₁ = { s with heap := s.heap.push { cls := .type "dict", data := .dict #[] } }) PySem.F.kt_called_dict (PySem.F.kt_typeCall_dict_1 _) PySem.F.entry_dict_init (kt_code_dict_new _ ⟨rfl, rfl⟩) ?_
  rintro obj s₁ ⟨rfl, rfl⟩
  have hnew : (s.heap.push { cls := .type "dict", data := .dict #[] }).DictOfH (tupleKind (mixKind prog w)) s.heap.objs.size [] := Heap.DictOfH.new s.heap
  have k0 : ∀ b o, s.heap.get? b = some o → (s.heap.push { cls := .type "dict", data := .dict #[] }).get? b = some o := fun b o e => Heap.get?_push_of_some _ e
  have hT : ({ s with heap := s.heap.push { cls := .type "dict", data := .dict #[] } } : Shared).TypeIs (.ref s.heap.objs.size) "dict" := Heap.DictOfH.typeIs (s := { s with heap := s.heap.push { cls := .type "dict", data := .dict #[] } }) hnew
  refine ⟨hT, PySem.F.args_dict_init_2 _ _, ?_⟩
  unfold Builtin.«dict.__init__»
  refine wpAny_bind ?_
  unfold Builtin.Dict.selfAndRest
  refine wpAny_bind (wpAny_notOrdered_dict hT ?_)
  show wpAny _ _ (pure (s.heap.objs.size, [Value.ref l])) _ _ _
  refine wpAny_pure ?_
  show wpAny _ _ (Builtin.Dict.updateFrom "dict.__init__" s.heap.objs.size (.ref l) [] .none) _ _ _
  unfold Builtin.Dict.updateFrom
  refine wpAny_bind (wpAny_typeOf (T := "list") ⟨ol, k0 _ _ hl, hc⟩ ?_)
  rw [if_pos (by first | decide | rfl | simp)]
  refine wpAny_bind (miss_list (k0 _ _ hl) hc hdat hd hh fun h1 tk1 hk1 => ?_)
  rw [if_pos (show (none : Option Value).isNone = true from rfl)]
  refine wpAny_bind (wpAny_rule ?_)
  have hl1 : h1.IsList l items := ⟨ol, hk1 _ _ (k0 _ _ hl), hc, n, hdat⟩
  have eS : (s.heap.push { cls := .type "dict", data := .dict #[] }).get? s.heap.objs.size = some { cls := .type "dict", data := .dict #[] } := Heap.get?_push_size _ rfl
  have hS1 : s.heap.objs.size < h1.objs.size := Heap.lt_size (hk1 _ _ eS)
  refine wpAny_bind (wpAny_pyIter_list hl1 ?_)
  have k2 : ∀ b o, h1.get? b = some o → (h1.push { cls := .type "list_iterator", data := .fields #[.ref l, .int 0 0] }).get? b = some o := fun b o e => Heap.get?_push_of_some _ e
  have k3 : ∀ b o, s.heap.get? b = some o → (h1.push { cls := .type "list_iterator", data := .fields #[.ref l, .int 0 0] }).get? b = some o := fun b o e => k2 _ _ (hk1 _ _ (k0 _ _ e))
  have hlt : l < s.heap.objs.size := Heap.lt_size hl
  have key := upd_loopT (prog := prog) (w := w) (A := A.in1) (h0 := s.heap) (R := wants (fun r s₂ => r = .none ∧ Q (.ref s.heap.objs.size) s₂) E) (S := s.heap.objs.size) (I := h1.objs.size) (l := l) (items := items) (res := Value.none) hh hu
    (Nat.ne_of_lt (Nat.lt_trans hlt hS1)) (Nat.ne_of_lt hS1) (Nat.ne_of_gt hlt) prs 0 [] 0 0
    { s with heap := h1.push { cls := .type "list_iterator", data := .fields #[.ref l, .int 0 0] }, toks := tk1 } (by rw [hsz, Nat.zero_add]) (by rw [List.length_nil, Nat.zero_add]; exact hln) (fun b o _ _ e => k3 b o e) (fun x hx => by cases hx)
    (fun j q e => by
      obtain ⟨b, e1, e2, e3⟩ := ht j q e
      have hb : b < s.heap.objs.size := e2.lt
      obtain ⟨ok, _, _, hok, _⟩ := id e3
      have hq : q.2.1 < s.heap.objs.size := Heap.lt_size hok
      exact ⟨b, by rw [Nat.zero_add]; exact e1, Nat.ne_of_lt hb, Nat.ne_of_lt (Nat.lt_trans hb hS1), e2, e3, Nat.ne_of_lt hq, Nat.ne_of_lt (Nat.lt_trans hq hS1)⟩)
    ⟨_, Heap.get?_push_size _ rfl, rfl, rfl⟩ (hl1.at fun o e => k2 _ _ e) ⟨_, #[], 0, k2 _ _ (hk1 _ _ eS), ⟨rfl, rfl, rfl⟩, rfl, rfl, fun _ hx => by simp at hx, List.nodup_nil⟩
    (fun h' tk hd' k => ⟨rfl, h h' tk hd' fun b o e => k b o (Nat.ne_of_lt (Heap.lt_size e)) (Nat.ne_of_lt (Nat.lt_trans (Heap.lt_size e) hS1)) (k3 b o e)⟩)
  first
    | exact wpAny_pure ⟨plainId_quiet ud_plain _, key⟩
    | exact wpAny_bind (wpAny_pure (wpAny_pure ⟨plainId_quiet ud_plain _, key⟩))
end
def mergeT (kvs more : List (List Key × V)) : List (List Key × V) := more.foldl (fun acc kv => putK acc kv.1 kv.2) kvs
theorem KT.merge {H : Hp} : ∀ {more : List (List Key × V)} {rs : List (List Key × Addr × Value)} {kvs : List (List Key × V)} {vs : List (List Key × Addr × Value)}, KT H more rs → KT H kvs vs → KT H (mergeT kvs more) (mergedH vs rs)
  | _, _, _, _, .nil, h => h
  | _, _, _, _, .cons (a := p) (b := q) r t, h => by
    obtain ⟨e1, e2, e3⟩ := r
    have z := KT.put h p.1 (b := q.2.1) e2 e3
    show KT H (mergeT (putK _ p.1 p.2) _) (mergedH (storedH _ q.1 q.2.1 q.2.2) _)
    rw [← e1]
    exact KT.merge t z
theorem mergeT_len : ∀ (more kvs : List (List Key × V)), (mergeT kvs more).length ≤ kvs.length + more.length
  | [], kvs => Nat.le_refl _
  | p :: more, kvs => by
    have h1 := mergeT_len more (putK kvs p.1 p.2)
    have h2 := length_putK kvs p.1 p.2
    show (mergeT (putK kvs p.1 p.2) more).length ≤ _
    rw [List.length_cons]
    omega
def rDictT (K : PySem.W.Frag) : List V → Hp → VK → Prop := fun xs H Q => ∃ (a : Addr) (ps : List Addr) (kvs : List (List Key × V)), xs = [.ref a] ∧ SqL K H a (ps.map V.ref) ∧ Paired (fun p (kv : List Key × V) => ∃ b, H p = some (.tup [.ref b, kv.2]) ∧ H b = some (.tup (kv.1.map kV))) ps kvs ∧
    ∀ p, H p = none → Q (.ref p) (upd H p (.dT (mergeT [] kvs)))
section
variable {X : Cx}
theorem pairsT_of {pins : List (Addr × Obj)} {σ : L2.St} {H : Hp} {s : Shared} (I : Inv X pins σ H s) : ∀ {ps : List Addr} {kvs : List (List Key × V)}, Paired (fun p (kv : List Key × V) => ∃ b, H p = some (.tup [.ref b, kv.2]) ∧ H b = some (.tup (kv.1.map kV))) ps kvs →
    ∃ prs : List (List Key × Addr × Value), KT H kvs prs ∧ prs.length = ps.length ∧ ∀ (j : Nat) (q : List Key × Addr × Value), prs[j]? = some q → ∃ (b : Addr), ps[j]? = some b ∧ IsTup s.heap b #[.ref q.2.1, q.2.2] ∧ (tupleKind (mixKind X.prog X.w)).is s.heap q.1 q.2.1
  | _, _, .nil => ⟨[], .nil, rfl, fun j q e => by simp at e⟩
  | _, _, .cons (a := p) (b := kv) h t => by
    obtain ⟨prs, r, hl, hp⟩ := pairsT_of I t
    obtain ⟨b, h1, h2⟩ := h
    obtain ⟨_, its, rv, ht⟩ := I.hok p _ h1
    obtain ⟨u, y, ei, ru, ry⟩ := vals2 rv
    subst ei
    obtain rfl : u = Value.ref b := ru
    refine ⟨(kv.1, b, y) :: prs, .cons ⟨rfl, h2, ry⟩ r, by rw [List.length_cons, List.length_cons, hl], fun j q e => ?_⟩
    cases j with
    | zero =>
      cases (Option.some.inj e)
      exact ⟨p, rfl, ht, key_of I.hok h2⟩
    | succ j =>
      obtain ⟨b', e1, e2, e3⟩ := hp j q (by simpa using e)
      exact ⟨b', by simpa using e1, e2, e3⟩
theorem call_dictT (hcalm : X.calm = true) (hu : X.A.units + 8 < cLine) : CallR X (.type "dict") (rDictT X.K) := by
  intro pins s σ H xs us Q I r q
  obtain ⟨a, ps, kvs, ex, hq, hp, q⟩ := q
  subst ex
  obtain ⟨u, eu, rx⟩ := vals1 r
  subst eu
  cases rx
  obtain ⟨its, rv, pl, hz⟩ := I.list hq
  have ei := refs_at rv
  subst ei
  rw [List.length_map] at hz
  obtain ⟨prs, rel, hl, hpr⟩ := pairsT_of I hp
  obtain ⟨o, n, ho, hc, hd, hdat⟩ := pl
  refine call_dict_pairsT (prs := prs) (I.ok.hd hcalm) (show X.A.units + 1 + 1 < cLine by omega) ho hc hd hdat (by simp [hl]) (by rw [hl]; exact hz) (fun j q' e => ?_) fun h' tk hd' k => ?_
  · obtain ⟨b, e1, e2, e3⟩ := hpr j q' e
    exact ⟨b, by simp [e1], e2, e3⟩
  · have hm : (s.heap.objs.size == sysModules) = false := beq_eq_false_iff_ne.mpr (Nat.ne_of_gt I.big)
    have hlen : (mergeT [] kvs).length ≤ sizeLine := by
      refine Nat.le_trans (mergeT_len kvs []) ?_
      rw [List.length_nil, Nat.zero_add, Paired.length rel, hl]
      exact hz
    have hn := I.hok.fresh (Nat.le_refl s.heap.objs.size)
    refine ⟨.ref s.heap.objs.size, upd H s.heap.objs.size (.dT (mergeT [] kvs)), I.laid (t' := tk) k (Nat.le_refl _) ?_, rfl, q _ hn⟩
    obtain ⟨q', es, ep, hq', h2, h3, h4, _, h5⟩ := hd'
    refine ⟨hlen, hm, _, (KT.merge rel .nil).keeps fun c ys ec => ?_, q', es, ep, hq', h2, h3, h4, h5⟩
    rw [upd_ne (ne_of_none ec hn)]
    exact ec
end
end Dv

set_option maxRecDepth 100000
set_option maxHeartbeats 2000000
namespace Dv
open PySem PySem.Spec PyProof.Rows L2 GxR
/-! ### any, all of a generator expression, whatever is walked -/
section
variable {X : Cx} {pins : List (Addr × Obj)} {σ : L2.St} {H : Hp} {s : Shared}
abbrev TSrc := L2.St → Hp → (Nat → (Nat → Bool) → Hp → Prop) → Prop
/-- iter is walked, n items; elt at the i-th is pb i -/
def PSrc (X : Cx) (P : Addr) (iter elt : Expr) (x : Str) (scope : Scope) (t : TSrc) : Prop := ∀ (pins : List (Addr × Obj)) (s : Shared) (σ : L2.St) (H : Hp) (R : Nat → (Nat → Bool) → Hp → Prop), Inv X pins σ H s → t σ H R →
  wpAny (model X.prog X.w) X.A (eval iter X.env) (fun xv sv => wpAny (model X.prog X.w) X.A (pyIter xv) (fun it s2 => ∃ (s1 : Shared) (H1 : Hp) (h2 : Heap) (t2 : Nat) (ps : Array Value) (Ia : Addr) (fp wr : List Addr) (n : Nat) (Pf : Nat → Value → Prop) (St₀ : Nat → Heap → Prop) (pb : Nat → Bool),
    Inv X pins σ H1 s1 ∧ s2 = { s1 with heap := h2, toks := t2 } ∧ (∀ b o, s1.heap.get? b = some o → h2.get? b = some o) ∧ s1.heap.objs.size ≤ h2.objs.size ∧ H1 P = some (.tbl ps) ∧ TriplesOk ps.toList ∧ it = .ref Ia ∧ (∀ A' : Around, A'.handled = none → Walks X.prog X.w A' Ia fp wr n Pf St₀) ∧ St₀ 0 h2 ∧ (∀ b ∈ fp, b < h2.objs.size) ∧ P ∉ fp ∧ (∀ b ∈ wr, s1.heap.objs.size ≤ b) ∧
    (∀ (cenv : Env) (A' : Around) (E' : Value → Shared → Prop) (i : Nat) (v : Value) (s₂ : Shared) (m₂ : Str → Option Value), cenv.scope = scope → Pf i v → s₂.heap.Ns cenv.locals m₂ → m₂ x = some v → wpAny (model X.prog X.w) A' (eval elt cenv) (fun y s₃ => y = .bool (pb i) ∧ Keeps s₂ s₃) E' s₂) ∧
    R n pb H1) X.xe sv) X.xe s
def ReadyG (X : Cx) (pins : List (Addr × Obj)) (σ : L2.St) (H1 : Hp) (P : Addr) (n : Nat) (pb : Nat → Bool) (g : Addr) (s5 : Shared) : Prop :=
  ∃ (fp wr : List Addr) (G : Array GenState → Array GenState → Prop) (F : Nat → Value → Prop) (St : Nat → Shared → Prop),
    WalksS X.prog X.w X.A.in1 g fp wr G n F St ∧ St 0 s5 ∧
    TruthOf X.prog X.w X.A.in1 F pb ∧
    ∀ s', Moved wr G s5 s' → ∃ H2, Tabbed P H1 H2 ∧ Inv X pins σ H2 s'
theorem gen_src {c P : Addr} {elt iter : Expr} {x : Str} {px gpos : Pos} {scope : Scope} {te : TSrc} {k : Nat} {Q' : Value → Shared → Prop} {R : Nat → (Nat → Bool) → Hp → Prop}
    (hr : Room k X.A) (TB : GxR.TabB X.base X.mg c P) (hcode : X.env.code = .ref c) (S : GenS X.env scope x) (hi : PSrc X P iter elt x scope te)
    (hs : ∀ v, genFold iter X.env v = pure v) (I : Inv X pins σ H s) (h : te σ H R)
    (hQ : ∀ n pb H1 g s5, R n pb H1 → ReadyG X pins σ H1 P n pb g s5 → Q' (.ref g) s5) :
    wpAny (model X.prog X.w) X.A (eval (.GeneratorExp elt [⟨.Name x px, iter, [], 0⟩] scope gpos) X.env) Q' X.xe s := by
  refine wpAny_GeneratorExp_walksQ hr.hd S.co (closure_ok S.free) S.cell S.dot S.loc S.kind (by have := hr.dp; omega) ?_ hs
  refine thn (hi pins s σ H R I h) fun xv sv hv => thn hv fun it s2 h2 => ?_
  obtain ⟨s1, H1, hh2, t2, ps, Ia, fp, wr, n, Pf, St₀, pb, I1, rfl, k12, h8, hP, ht, rfl, W, hst, hfp, hPf, hwr, hel, q1⟩ := h2
  have hPs : s1.heap.get? P = some { cls := .none, data := .fields ps } := I1.hok P _ hP
  have hPlt : P < s1.heap.objs.size := Heap.lt_size hPs
  have hP2 : hh2.get? P = some { cls := .none, data := .fields ps } := k12 _ _ hPs
  have cd : PySem.W.CodeHd hh2 c P := TB.code.keeps fun b u e => k12 _ _ (I1.bk b u e)
  have lim2 : hh2.NoLimit := I1.nolimit.keeps k12
  have hcl : cStatics < s1.heap.objs.size := let ⟨_, hns, _⟩ := I1.nolimit; hns.lt
  have cont : ∀ (code : Value) (h3 : Heap) (tk : Nat) (ps' : Array Value), Heap.ExtBut P hh2 h3 → hh2.objs.size ≤ h3.objs.size → h3.get? P = some { cls := .none, data := .fields ps' } → (∃ more, ps' = ps ++ more) → TriplesOk ps'.toList →
      wpAny (model X.prog X.w) X.A (builtinsFor X.env.globals X.env.builtins) (fun bi s₄ =>
        ∃ I fp wr n₀ Pf St₀ pz F, Value.ref Ia = .ref I ∧ (∀ A' : Around, A'.handled = none → Walks X.prog X.w A' I fp wr n₀ Pf St₀) ∧ St₀ 0 s₄.heap ∧ (∀ b ∈ fp, b < s₄.heap.objs.size) ∧ s₄.heap.NoLimit ∧ cStatics ∉ wr ∧
          (∀ href : Heap, (∀ b o, s₄.heap.get? b = some o → href.get? b = some o) →
            QuietGen X.prog X.w (genEnv scope (cloFrom X.env.cells scope.names []) s₄.heap.objs.size code bi X.env) x [] elt (List.range s₄.heap.objs.size) wr Pf pz F href) ∧
          (∀ a h₅ tk gs, gs.bare = true → s₄.heap.objs.size < a → h₅.objs.size = a + 1 → (∀ b o, s₄.heap.get? b = some o → h₅.get? b = some o) →
            WalksS X.prog X.w X.A.in4 a (a :: s₄.heap.objs.size :: List.range s₄.heap.objs.size) (s₄.heap.objs.size :: wr) (GenOnlyQ s₄.gens.size) (passing pz n₀ 0).length
              (fun j y => ∃ i, (passing pz n₀ 0)[j]? = some i ∧ F i y) (GenAt X.prog X.w X.A.in4 a s₄.gens.size s₄.heap.objs.size (List.range s₄.heap.objs.size) wr pz n₀ F) →
            GenAt X.prog X.w X.A.in4 a s₄.gens.size s₄.heap.objs.size (List.range s₄.heap.objs.size) wr pz n₀ F 0 { s₄ with gens := s₄.gens.push gs, toks := tk, heap := h₅ } →
            Q' (.ref a) { s₄ with gens := s₄.gens.push gs, toks := tk, heap := h₅ })) X.xe { s1 with heap := h3, toks := tk } := by
    intro code h3 tk ps' hx hsz hP3 hmore ht3
    obtain ⟨bm, ob, e1, e2, e3, e4, e5, e6, e7, e8⟩ := TB.bm
    have hcP : cStatics ≠ P := fun e => by
      obtain ⟨_, hns, _⟩ := I1.nolimit
      obtain ⟨o', es, ep, ho, hd, _⟩ := hns
      rw [e, hPs] at ho
      cases ho
      cases hd
    have keep3 : ∀ b u, b ≠ P → s1.heap.get? b = some u → h3.get? b = some u := fun b u hb e => hx b u hb (k12 _ _ e)
    refine wpAny_builtinsFor (m := X.mg) (by rw [I1.ok.glob]; exact ((I1.mod.glob.keeps I1.bk).keeps k12).extBut hx TB.gP) e1 e2 (keep3 _ _ e4 (I1.bk _ _ e5)) e6 e7 e8 ?_
    refine ⟨Ia, fp, wr, n, Pf, St₀, (fun _ => true), (fun i y => y = .bool (pb i)), rfl, W, ?_, fun b hb => Nat.lt_of_lt_of_le (hfp b hb) hsz, lim2.extBut hx hcP, fun z => absurd (hwr _ z) (Nat.not_le.mpr hcl), ?_, ?_⟩
    · exact (W X.A hr.hd).frame _ _ _ hst fun b hb u e => hx b u (fun z => hPf (by rw [← z]; exact hb)) e
    · intro href hhref
      refine ⟨fun A' E' i v s₂ m₂ hA hPv hn hm hk => ?_, fun A' E' i v s₂ m₂ hA hPv hp hn hm hk => ?_⟩
      · simp only [List.forIn_nil]
        exact wpAny_pure ⟨rfl, keeps_refl _⟩
      · exact hel _ A' E' i v s₂ m₂ rfl hPv hn hm
    · intro g h5 tk5 gs hgb hag hsz5 hk5 W5 hat
      simp only [GxR.passing_true, List.length_range] at W5
      refine hQ n pb H1 g _ q1 ⟨_, _, _, _, _, W5.in4_1, hat, ?_, fun s' hm => ?_⟩
      · intro j y sj Qj Ej hy hQj
        obtain ⟨i, hij, rfl⟩ := hy
        obtain ⟨hj, ej⟩ := List.getElem?_eq_some_iff.mp hij
        rw [List.getElem_range] at ej
        subst ej
        exact wpAny_truthy_bool hQj
      · obtain ⟨more, em⟩ := hmore
        have nwr : ∀ b u, s1.heap.get? b = some u → b ∉ h3.objs.size :: wr := fun b u e hb => by
          have hl := Heap.lt_size e
          rcases List.mem_cons.mp hb with z | z
          · rw [z] at hl
            have h9 : (h3.objs.size : Nat) < s1.heap.objs.size := hl
            omega
          · exact absurd hl (Nat.not_lt.mpr (hwr _ z))
        have J := inv_tab (more := more) (h' := s'.heap) (g' := s'.gens) (d' := s'.drawn) (t' := s'.toks) I1 hP (fun b u hb e => hm.heap b u (nwr b u e) (hk5 b u (keep3 b u hb e)))
          (by rw [← em]; exact hm.heap P _ (nwr P _ hPs) (hk5 P _ hP3)) (AllBare.movedS (I1.bare.push hgb) hm)
        rw [sh_eta s1 s' hm.os] at J
        refine ⟨upd H1 P (.tbl (ps ++ more)), ⟨⟨ps ++ more, upd_same, by rw [← em]; exact ht3⟩, fun b hb => upd_ne hb⟩, J⟩
  refine ⟨lim2, ?_⟩
  cases hf : codeAmong gpos ps.toList with
  | none =>
    refine wpAny_genexprCodeX hcode (cd.code hP2 ht) (cd.tab hP2) hf fun c' h' tk hx hge hlt hco' _ htab' _ => ?_
    obtain ⟨o1, vs, f1, tf, fl, tg, inF, tx, tt, op, _, _, _, _, _, _, _, _, _, htr, _⟩ := hco'
    exact cont _ h' tk _ hx (Nat.le_trans hge (Nat.le_of_lt hlt)) htab'.2 ⟨_, rfl⟩ htr
  | some cv =>
    refine wpAny_genexprCode_hit hcode (cd.code hP2 ht) hf ?_
    exact cont cv hh2 t2 ps (Heap.ExtBut.refl _ _) (Nat.le_refl _) hP2 ⟨#[], by simp⟩ ht
theorem pe_anyG {c P : Addr} {elt iter : Expr} {x : Str} {px p pos gpos : Pos} {scope : Scope} {te : TSrc} {k : Nat}
    (hr : Room k X.A) (hg : Gl X "any") (hm : X.mg "any" = none) (TB : GxR.TabB X.base X.mg c P) (hcode : X.env.code = .ref c) (S : GenS X.env scope x) (hi : PSrc X P iter elt x scope te)
    (hs : ∀ v, genFold iter X.env v = pure v)
    (he : starEach [.GeneratorExp elt [⟨.Name x px, iter, [], 0⟩] scope gpos] X.env = (false, eval (.GeneratorExp elt [⟨.Name x px, iter, [], 0⟩] scope gpos) X.env) :: starEach [] X.env := by rfl) :
    PE X (.Call (.Name "any" p) [.GeneratorExp elt [⟨.Name x px, iter, [], 0⟩] scope gpos] [] pos) (fun σ H Q => te σ H fun n pb H1 => ∀ H2, Tabbed P H1 H2 → Q (.bl ((List.range n).any pb)) H2) := by
  refine ⟨fun pins s σ H Q I h => ?_⟩
  refine wpAny_Call_Name_kw (ld_blt I hg hm boot_any ?_)
  refine PyProof.Rows.callWith_builtin1 ?_ he (by rfl)
  rw [he]
  show wpAny _ _ (spliced ((false, eval (.GeneratorExp elt [⟨.Name x px, iter, [], 0⟩] scope gpos) X.env) :: backTo pos (starEach [] X.env))) _ _ s
  refine Calls.spliced_cons (gen_src (R := fun n pb H1 => ∀ H2, Tabbed P H1 H2 → Q (.bl ((List.range n).any pb)) H2) hr TB hcode S hi hs I h fun n pb H1 g s5 hR hG => ?_)
  obtain ⟨fp, wr, G, F, St, W, hst, htr, hI⟩ := hG
  refine Calls.spliced_nil ?_
  refine call_any_walkS (W.self 0 _ _ _ hst ⟨g, fp, wr, G, _, F, St, _, rfl, W, hst, htr, fun s' hmv => ?_⟩)
  obtain ⟨H2, hT, J⟩ := hI s' hmv
  exact ⟨.bl _, H2, J, rfl, hR H2 hT⟩
theorem pe_allG {c P : Addr} {elt iter : Expr} {x : Str} {px p pos gpos : Pos} {scope : Scope} {te : TSrc} {k : Nat}
    (hr : Room k X.A) (hg : Gl X "all") (hm : X.mg "all" = none) (TB : GxR.TabB X.base X.mg c P) (hcode : X.env.code = .ref c) (S : GenS X.env scope x) (hi : PSrc X P iter elt x scope te)
    (hs : ∀ v, genFold iter X.env v = pure v)
    (he : starEach [.GeneratorExp elt [⟨.Name x px, iter, [], 0⟩] scope gpos] X.env = (false, eval (.GeneratorExp elt [⟨.Name x px, iter, [], 0⟩] scope gpos) X.env) :: starEach [] X.env := by rfl) :
    PE X (.Call (.Name "all" p) [.GeneratorExp elt [⟨.Name x px, iter, [], 0⟩] scope gpos] [] pos) (fun σ H Q => te σ H fun n pb H1 => ∀ H2, Tabbed P H1 H2 → Q (.bl ((List.range n).all pb)) H2) := by
  refine ⟨fun pins s σ H Q I h => ?_⟩
  refine wpAny_Call_Name_kw (ld_blt I hg hm (u := .builtin "all") (by decide +kernel) ?_)
  refine PyProof.Rows.callWith_builtin1 ?_ he (by rfl)
  rw [he]
  show wpAny _ _ (spliced ((false, eval (.GeneratorExp elt [⟨.Name x px, iter, [], 0⟩] scope gpos) X.env) :: backTo pos (starEach [] X.env))) _ _ s
  refine Calls.spliced_cons (gen_src (R := fun n pb H1 => ∀ H2, Tabbed P H1 H2 → Q (.bl ((List.range n).all pb)) H2) hr TB hcode S hi hs I h fun n pb H1 g s5 hR hG => ?_)
  obtain ⟨fp, wr, G, F, St, W, hst, htr, hI⟩ := hG
  refine Calls.spliced_nil ?_
  refine call_all_walkS (W.self 0 _ _ _ hst ⟨g, fp, wr, G, _, F, St, _, rfl, W, hst, htr, fun s' hmv => ?_⟩)
  obtain ⟨H2, hT, J⟩ := hI s' hmv
  exact ⟨.bl _, H2, J, rfl, hR H2 hT⟩
end
end Dv

set_option maxRecDepth 100000
set_option maxHeartbeats 2000000
namespace Dv
open PySem PySem.Spec PyProof.Rows L2 GxR
section
variable {X : Cx}
/-- the i-th of ns is k -/
def isAt (ns : List Int) (k : Int) (i : Nat) : Bool := match ns[i]? with
  | some n => decide (n = k)
  | none => false
theorem any_isAt (ns : List Int) (k : Int) : (List.range ns.length).any (isAt ns k) = ns.any fun n => decide (n = k) := by
  rw [Bool.eq_iff_iff, List.any_eq_true, List.any_eq_true]
  constructor
  · intro ⟨j, hj, h⟩
    have hj' := List.mem_range.mp hj
    unfold isAt at h
    rw [List.getElem?_eq_getElem hj'] at h
    exact ⟨ns[j], List.getElem_mem hj', h⟩
  · intro ⟨b, hb, h⟩
    obtain ⟨j, hj, e⟩ := List.getElem_of_mem hb
    refine ⟨j, List.mem_range.mpr hj, ?_⟩
    unfold isAt
    rw [List.getElem?_eq_getElem hj, e]
    exact h
def tVals (P : Addr) (td : TE) (k : Int) : TSrc := fun σ H R => td σ H fun v H1 => ∃ (d : Addr) (kvs : List (Key × V)) (ns : List Int), v = .ref d ∧ H1 d = some (.dK kvs) ∧ kvs.map (·.2) = ns.map V.int ∧ TabG H1 P ∧ R ns.length (isAt ns k) H1
theorem psrc_vals {P : Addr} {e : Expr} {td : TE} {x : Str} {scope : Scope} {k : Int} {apos cpos p1 p2 p3 : Pos} {j : Nat} (he : PE X e td) (hk : scope.kind = .function) (hl : scope.names.lookup x = some .local)
    (hbase : attributeBase e "values" X.env (eval e X.env) = eval e X.env := by rfl) (hline : (apos.endLine == cpos.line) = true := by rfl) (hd : (x == ("__debug__" : Str)) = false := by decide) :
    PSrc X P (.Call (.Attribute e "values" apos) [] [] cpos) (.Compare (.Name x p1) [.Eq] [.Constant (.int k) j p2] p3) x scope (tVals P td k) := by
  intro pins s σ H R I h
  refine wpAny_Call_method (T := "dict") (id := "dict.values") hbase rfl hline F.plainAttrs_dict F.slot_dict_values F.type_dict_values (thn (he.run pins s σ H _ I h) fun u s1 ⟨v, H1, I1, rx, d, kvs, ns, ex, hd', hns, ⟨ps, hP, ht⟩, q⟩ => ?_)
  subst ex
  obtain rfl : u = Value.ref d := rx
  obtain ⟨hz, hs, vs, kv, hdo⟩ := I1.hok d _ hd'
  obtain ⟨ep, hat⟩ := hdo.dictAt
  have hlen : kvs.length = vs.length := Paired.length kv
  have hnl : ns.length = vs.length := by
    have z := congrArg List.length hns
    rw [List.length_map, List.length_map] at z
    omega
  refine ⟨hdo.typeIs, hdo.mapOf.noDict, ?_⟩
  have hdlt : d < s1.heap.objs.size := hat.lt_size
  have hPlt : P < s1.heap.objs.size := Heap.lt_size (I1.hok P _ hP)
  have s3 : (s1.heap.push { cls := .type "dict_values", data := .fields #[.ref d] }).objs.size = s1.heap.objs.size + 1 := Heap.size_push ..
  have fin : wpAny (model X.prog X.w) X.A (pyIter (.ref s1.heap.objs.size)) (fun it s2 => ∃ (s1' : Shared) (H1 : Hp) (h2 : Heap) (t2 : Nat) (ps : Array Value) (Ia : Addr) (fp wr : List Addr) (n : Nat) (Pf : Nat → Value → Prop) (St₀ : Nat → Heap → Prop) (pb : Nat → Bool),
      Inv X pins σ H1 s1' ∧ s2 = { s1' with heap := h2, toks := t2 } ∧ (∀ b o, s1'.heap.get? b = some o → h2.get? b = some o) ∧ s1'.heap.objs.size ≤ h2.objs.size ∧ H1 P = some (.tbl ps) ∧ TriplesOk ps.toList ∧ it = .ref Ia ∧ (∀ A' : Around, A'.handled = none → Walks X.prog X.w A' Ia fp wr n Pf St₀) ∧ St₀ 0 h2 ∧ (∀ b ∈ fp, b < h2.objs.size) ∧ P ∉ fp ∧ (∀ b ∈ wr, s1'.heap.objs.size ≤ b) ∧
      (∀ (cenv : Env) (A' : Around) (E' : Value → Shared → Prop) (i : Nat) (v : Value) (s₂ : Shared) (m₂ : Str → Option Value), cenv.scope = scope → Pf i v → s₂.heap.Ns cenv.locals m₂ → m₂ x = some v → wpAny (model X.prog X.w) A' (eval (.Compare (.Name x p1) [.Eq] [.Constant (.int k) j p2] p3) cenv) (fun y s₃ => y = .bool (pb i) ∧ Keeps s₂ s₃) E' s₂) ∧
      R n pb H1) X.xe { s1 with heap := s1.heap.push { cls := .type "dict_values", data := .fields #[.ref d] } } := by
    refine wpAny_pyIter_values (d := d) (knd := mixKind X.prog X.w) ⟨_, Heap.get?_push_size _ rfl, rfl, rfl⟩ (hat.push _) ?_
    have k12 : ∀ b o, s1.heap.get? b = some o → ((s1.heap.push { cls := .type "dict_values", data := .fields #[.ref d] }).push { cls := .type "dict_valueiterator", data := .fields #[.ref d, .int 0 0, .int vs.length 0, .int ep 0] }).get? b = some o := fun b o e => Heap.get?_push_of_some _ (Heap.get?_push_of_some _ e)
    refine ⟨s1, H1, _, s1.toks, ps, _, _, _, vs.length, _, _, isAt ns k, I1, rfl, k12, ?_, hP, ht, rfl, fun A' hA => Walks.dictValues (knd := mixKind X.prog X.w) hA _ d (Nat.ne_of_lt (by rw [s3]; exact Nat.lt_succ_of_lt hdlt)) vs ep, ⟨⟨_, Heap.get?_push_size _ rfl, rfl, rfl⟩, (hat.push _).push _⟩, ?_, ?_, ?_, ?_, ?_⟩
    · rw [Heap.size_push, Heap.size_push]; omega
    · intro b hb
      rw [Heap.size_push, s3]
      rcases List.mem_cons.mp hb with z | z
      · rw [z, s3]; exact Nat.lt_succ_self _
      · have : b = d := by simpa using z
        rw [this]; exact Nat.lt_succ_of_lt (Nat.lt_succ_of_lt hdlt)
    · intro z
      rcases List.mem_cons.mp z with z | z
      · rw [z, s3] at hPlt; exact absurd hPlt (Nat.not_lt.mpr (Nat.le_succ _))
      · have : P = d := by simpa using z
        rw [this, hd'] at hP; cases hP
    · intro b hb
      have : b = (s1.heap.push { cls := .type "dict_values", data := .fields #[.ref d] }).objs.size := by simpa using hb
      rw [this, s3]; exact Nat.le_succ _
    · intro cenv A' E' i v s₂ m₂ hsc ⟨key, hv⟩ hn hm
      have hvn : ∃ n t, ns[i]? = some n ∧ v = .int n t := by
        obtain ⟨q', g1, g2⟩ := paired_back kv hv
        have g3 : (kvs.map (·.2))[i]? = some q'.2 := by rw [List.getElem?_map, g1]; rfl
        rw [hns, List.getElem?_map] at g3
        cases hi : ns[i]? with
        | none => rw [hi] at g3; cases g3
        | some n =>
          rw [hi] at g3
          have g4 : V.int n = q'.2 := Option.some.inj g3
          rw [← g4] at g2
          obtain ⟨t, ht'⟩ := g2.2
          exact ⟨n, t, rfl, ht'⟩
      obtain ⟨n, t, e1, rfl⟩ := hvn
      refine wpAny_Compare1 ?_
      refine wpAny_Name (wpAny_loadName_local (by rw [hsc]; exact hk) (show cenv.scope.names.lookup x = some .local by rw [hsc]; exact hl) hn hm ?_) hd
      refine wpAny_Constant_int ?_
      refine eq_int ⟨?_, keeps_tok _ _⟩
      unfold isAt
      rw [e1, Bool.beq_eq_decide_eq]
    · rw [← hnl]; exact q
  show wpAny _ _ (callWith cpos (.builtin "dict.values") [.ref d] [] []) _ X.xe s1
  exact method_meetsIn F.slot_dict_values F.entry_dict_values rfl (PySem.evalArgs_none ⟨rfl, hdo.typeIs, F.args_dict_values_1 _, _, meets_dict_values (mixKind X.prog X.w) d hs, ⟨vs, hdo⟩, fin⟩)
where
  paired_back : ∀ {kvs : List (Key × V)} {vs : List (Key × Value)}, KV kvs vs → ∀ {i : Nat} {q : Key × Value}, vs[i]? = some q → ∃ p, kvs[i]? = some p ∧ (p.1 = q.1 ∧ RelV p.2 q.2)
    | _, _, .nil, i, q, h => by simp at h
    | _, _, .cons r t, 0, q, h => by cases (Option.some.inj h); exact ⟨_, rfl, r⟩
    | _, _, .cons r t, i + 1, q, h => paired_back t (i := i) (by simpa using h)
variable {T : List Addr} {B : Bs} {ρ ρ1 : Sl} {W : List Addr} {e : Expr}
/-- any(x == k for x in d.values()) -/
theorem ex_anyVals {c P : Addr} {x : Str} {scope : Scope} {k : Int} {apos cpos p1 p2 p3 px p pos gpos : Pos} {j n : Nat} {kvs : List (Str × Int)} (hr : Room n X.A) (hg : Gl X "any") (hm : X.mg "any" = none) (TB : GxR.TabB X.base X.mg c P) (hcode : X.env.code = .ref c) (hPT : P ∈ T) (S : GenS X.env scope x)
    (he : EX X T B ρ e W ρ1 (.dict (kvD (kvs.map fun q => (q.1, .int q.2))))) (hs : ∀ v, genFold (.Call (.Attribute e "values" apos) [] [] cpos) X.env v = pure v := by intro _; rfl)
    (hbase : attributeBase e "values" X.env (eval e X.env) = eval e X.env := by rfl) (hline : (apos.endLine == cpos.line) = true := by rfl) (hd : (x == ("__debug__" : Str)) = false := by decide)
    (hst : starEach [.GeneratorExp (.Compare (.Name x p1) [.Eq] [.Constant (.int k) j p2] p3) [⟨.Name x px, .Call (.Attribute e "values" apos) [] [] cpos, [], 0⟩] scope gpos] X.env = (false, eval (.GeneratorExp (.Compare (.Name x p1) [.Eq] [.Constant (.int k) j p2] p3) [⟨.Name x px, .Call (.Attribute e "values" apos) [] [] cpos, [], 0⟩] scope gpos) X.env) :: starEach [] X.env := by rfl) :
    EX X T B ρ (.Call (.Name "any" p) [.GeneratorExp (.Compare (.Name x p1) [.Eq] [.Constant (.int k) j p2] p3) [⟨.Name x px, .Call (.Attribute e "values" apos) [] [] cpos, [], 0⟩] scope gpos] [] pos) W ρ1 (.bool (kvs.any fun q => decide (q.2 = k))) := by
  refine ⟨PE.imp (pe_anyG hr hg hm TB hcode S (psrc_vals he.run S.kind S.loc hbase hline hd) hs hst) fun σ H Q ⟨Sm, q⟩ => ⟨Sm, fun v H1 S1 f1 r1 => ?_⟩, he.own, he.sub⟩
  have key : ∀ {v : V} {dd : List (D × D)}, dd = kvD (kvs.map fun q => (q.1, .int q.2)) → Rp X.K (msk (B.all ρ1) H1) v (.dict dd) → ∃ a kk, v = .ref a ∧ H1 a = some (.dK kk) ∧ RpK X.K (msk (B.all ρ1) H1) kk (kvD (kvs.map fun q => (q.1, .int q.2))) := fun {v dd} e h => by
    cases h with
    | dk h1 h2 => exact ⟨_, _, rfl, (msk_some h1).2, e ▸ h2⟩
    | dt hn h1 h2 => exact absurd (e ▸ h2) (noT hn e)
  obtain ⟨a, kk, rfl, h1, h2⟩ := key rfl r1
  obtain ⟨vs, e1, e2, e3⟩ := rpK_of h2
  have e4 : (kvs.map fun q => (q.1, PyData.int q.2)).map (·.2) = (kvs.map (·.2)).map PyData.int := by rw [List.map_map, List.map_map]; rfl
  rw [e4] at e3
  have e5 := e3.ints
  refine ⟨a, kk, kvs.map (·.2), rfl, h1, ?_, S1.tabs P hPT, fun H2 hT => ?_⟩
  · rw [e1, ← e5]
    have : ∀ {l1 : List Key} {l2 : List V}, l2.length = l1.length → (l1.zip l2).map (·.2) = l2 := fun {l1 l2} h => List.map_snd_zip (by omega)
    exact this (by rw [e2, List.length_map, List.length_map, List.length_map])
  · rw [any_isAt]
    have hK : Kp H1 H2 := fun b o no eb => by
      rw [hT.2 b (fun z => by
        obtain ⟨ps, ep, _⟩ := S1.tabs P hPT
        rw [z, ep] at eb; cases eb; cases no)]
      exact eb
    have ean : ((kvs.map (·.2)).any fun n => decide (n = k)) = kvs.any fun q => decide (q.2 = k) := by rw [List.any_map]; rfl
    rw [ean]
    refine q _ H2 (S1.grow hK (fun P' hP' => ?_) fun b hb => ?_) (f1.transN hK.fx) (.bl _)
    · by_cases z : P' = P
      · rw [z]; exact hT.1
      · obtain ⟨ps, ep, t⟩ := S1.tabs P' hP'
        exact ⟨ps, by rw [hT.2 P' z]; exact ep, t⟩
    · by_cases z : b = P
      · rw [z]
        obtain ⟨ps, ep, _⟩ := hT.1
        rw [ep]; exact fun y => by cases y
      · rw [hT.2 b z]; exact hb
end
end Dv

set_option maxRecDepth 100000
set_option maxHeartbeats 2000000
namespace Dv
open PySem PySem.Spec PyProof.Rows L2
/-! ### dict(pairs) -/
section
variable {K : PySem.W.Frag} {H : Hp}
theorem rpK_mk : ∀ {kvs : List (Str × D)} {vs : List V}, RpA K H vs (kvs.map (·.2)) → RpK K H ((kvs.map fun q => (Sum.inr q.1 : Key)).zip vs) (kvD kvs)
  | [], _, .nil => .nil
  | q :: r, _, .cons h t => .cons (k := Sum.inr q.1) h (rpK_mk t)
theorem pairs_str {O : List Addr} : ∀ {kvs : List (Str × D)} {xs : List V}, RpA K (msk O H) xs (kvs.map fun q => .tuple [.str q.1, q.2]) → ∃ (ps : List Addr) (vs : List V), xs = ps.map V.ref ∧ RpA K (msk O H) vs (kvs.map (·.2)) ∧ Paired (fun p (kv : Key × V) => SqT K H p [kV kv.1, kv.2]) ps ((kvs.map fun q => (Sum.inr q.1 : Key)).zip vs)
  | [], _, .nil => ⟨[], [], rfl, .nil, .nil⟩
  | q :: r, _, .cons h t => by
    obtain ⟨ps, vs, rfl, h2, h3⟩ := pairs_str t
    cases h with
    | tup g1 g2 =>
      cases g2 with
      | cons k1 k2 =>
        cases k2 with
        | cons k3 k4 =>
          cases k4
          cases k1
          exact ⟨_ :: ps, _ :: vs, rfl, .cons k3 h2, .cons (SqT.of (msk_some g1).2) h3⟩
theorem mergeK_new : ∀ {more kvs : List (Key × V)}, ((kvs ++ more).map (·.1)).Nodup → mergeK kvs more = kvs ++ more
  | [], kvs, _ => by rw [List.append_nil]; rfl
  | p :: more, kvs, h => by
    have hn : valV kvs p.1 = none := by
      cases q : valV kvs p.1 with
      | none => rfl
      | some v =>
        exfalso
        have hm : p.1 ∈ kvs.map (·.1) := by
          unfold valV at q
          cases f : kvs.find? (fun kv => decide (kv.1 = p.1)) with
          | none => rw [f] at q; cases q
          | some w =>
            have := List.find?_some f
            exact List.mem_map.mpr ⟨w, List.mem_of_find?_eq_some f, by simpa using this⟩
        rw [List.map_append, List.map_cons] at h
        exact (List.nodup_append.mp h).2.2 _ hm _ List.mem_cons_self rfl
    show mergeK (putK kvs p.1 p.2) more = _
    rw [putK_new _ hn, mergeK_new (by rw [List.append_assoc]; exact h), List.append_assoc]
    rfl
end
section
variable {X : Cx} {T : List Addr} {B : Bs} {ρ ρ1 ρ2 : Sl} {W W1 W2 : List Addr} {e a b : Expr} {d : D} {pos p : Pos}
theorem ex_dictS {kvs : List (Str × D)} (hc : X.calm = true) (hg : Gl X "dict") (hm : X.mg "dict" = none) (ha : EL X T B ρ a W ρ1 (kvs.map fun q => .tuple [.str q.1, q.2])) (hn : (kvs.map (·.1)).Nodup) (he : starEach [a] X.env = (false, eval a X.env) :: starEach [] X.env := by rfl) :
    EX X T B ρ (.Call (.Name "dict" p) [a] [] pos) W ρ1 (.dict (kvD kvs)) := by
  refine ⟨PE.imp (Call1.run (c1t (p := p) (call_dictP hc) hg hm (by decide +kernel) (he := he)) (pa_cons ha.run pa_nil he)) fun σ H Q ⟨S, q⟩ => ⟨S, fun l xs H' S' f r1 r2 => ?_⟩, ha.own, ha.sub⟩
  obtain ⟨ps, vs, rfl, h2, h3⟩ := pairs_str r2
  refine ⟨l, ps, _, rfl, r1, h3, fun p np => q _ _ (S'.new np) (f.transN (Fx.new np)) ?_⟩
  have hl : vs.length = kvs.length := by rw [h2.length, List.length_map]
  have hnd : ((([] : List (Key × V)) ++ (kvs.map fun q => (Sum.inr q.1 : Key)).zip vs).map (·.1)).Nodup := by
    rw [List.nil_append, List.map_fst_zip (by rw [List.length_map]; omega)]
    have e : (kvs.map fun q => (Sum.inr q.1 : Key)) = (kvs.map (·.1)).map Sum.inr := by rw [List.map_map]; rfl
    rw [e]
    exact List.Pairwise.map _ (fun x y h z => h (Sum.inr.inj z)) hn
  rw [mergeK_new hnd, List.nil_append]
  exact .dk (msk_new S' np) ((rpK_mk h2).mono (kp_new np))
/-- list(d.items()) -/
theorem ex_items {kvs : List (Str × D)} {p apos cpos : Pos} (hc : X.calm = true) (hg : Gl X "list") (hm : X.mg "list" = none) (ha : EX X T B ρ a W ρ1 (.dict (kvD kvs))) (hbase : attributeBase a "items" X.env (eval a X.env) = eval a X.env := by rfl) (hline : (apos.endLine == cpos.line) = true := by rfl)
    (hs : starEach [.Call (.Attribute a "items" apos) [] [] cpos] X.env = (false, eval (.Call (.Attribute a "items" apos) [] [] cpos) X.env) :: starEach [] X.env := by rfl) :
    EX X T B ρ (.Call (.Name "list" p) [.Call (.Attribute a "items" apos) [] [] cpos] [] pos) W ρ1 (.list (kvs.map fun q => .tuple [.str q.1, q.2])) := by
  refine ⟨PE.imp (LiI.pe_listItems hc ha.run hg hm (by decide +kernel) hbase hline hs) fun σ H Q ⟨S, q⟩ => ⟨S, fun v H1 S1 f1 r1 => ?_⟩, ha.own, ha.sub⟩
  have key : ∀ {v : V} {dd : List (D × D)}, dd = kvD kvs → Rp X.K (msk (B.all ρ1) H1) v (.dict dd) → ∃ a kk, v = .ref a ∧ H1 a = some (.dK kk) ∧ RpK X.K (msk (B.all ρ1) H1) kk (kvD kvs) := fun {v dd} e h => by
    cases h with
    | dk h1 h2 => exact ⟨_, _, rfl, (msk_some h1).2, e ▸ h2⟩
    | dt hn h1 h2 => exact absurd (e ▸ h2) (noT hn e)
  obtain ⟨a', kk, rfl, h1, h2⟩ := key rfl r1
  refine ⟨a', kk, rfl, h1, fun H2 p ts k1 k2 k3 k4 k5 k6 => ?_⟩
  have hK : Kp H1 H2 := fun b o _ e => k1 b o e
  have S2 : Sim X.K T B ρ1 σ H2 := S1.grow hK (fun P hP => let ⟨ps, e, t⟩ := S1.tabs P hP; ⟨ps, k1 _ _ e, t⟩) fun b hb => by
    cases q : H1 b with
    | none => exact absurd q hb
    | some o => rw [k1 _ _ q]; exact fun y => by cases y
  have fr : ∀ t, H1 t = none → t ∉ B.all ρ1 := fun t ht => S1.free ht
  refine q _ H2 S2 (f1.transN hK.fx) (.lst (SqL.of (by rw [msk_out (fr p k2)]; exact k5)) ?_)
  obtain ⟨vs, rfl, hlen, r⟩ := rpK_of h2
  clear h2 h1 r1 k5
  exact go vs hlen r ts k3 fr k6 hK
where
  go {K : PySem.W.Frag} {O : List Addr} {H1 H2 : Hp} : ∀ {kvs : List (Str × D)} (vs : List V), vs.length = kvs.length → RpA K (msk O H1) vs (kvs.map (·.2)) → ∀ (ts : List Addr), (∀ t ∈ ts, H1 t = none) → (∀ t, H1 t = none → t ∉ O) → Paired (fun (t : Addr) (q : Key × V) => H2 t = some (.tup [kV q.1, q.2])) ts ((kvs.map fun q => (Sum.inr q.1 : Key)).zip vs) → Kp H1 H2 → RpA K (msk O H2) (ts.map V.ref) (kvs.map fun q => .tuple [.str q.1, q.2]) := by
    intro kvs
    induction kvs with
    | nil =>
      intro vs hl r ts h1 h2 h3 hK
      cases vs with
      | nil => cases h3; exact .nil
      | cons _ _ => cases hl
    | cons q kvs ih =>
      intro vs hl r ts h1 h2 h3 hK
      cases r with
      | cons g1 g2 =>
        rename_i v vs
        cases ts with
        | nil => cases h3
        | cons t ts =>
          cases h3 with
          | cons k1 k2 =>
            have nt : t ∉ O := h2 t (h1 t List.mem_cons_self)
            have km : Kp (msk O H1) (msk O H2) := fun a o n e => by
              obtain ⟨z1, z2⟩ := msk_some e
              rw [msk_out z1]; exact hK a o n z2
            exact .cons (.tup (show msk O H2 t = _ by rw [msk_out nt]; exact k1) (.cons (.str _) (.cons (g1.mono km) .nil))) (ih vs (by simpa using hl) g2 ts (fun t' h => h1 t' (List.mem_cons_of_mem _ h)) h2 k2 hK)
end

/-! ### dicts whose keys are tuples of ints -/
def dtD (kvs : List (List Int × D)) : List (D × D) := kvs.map fun q => (.tuple (q.1.map .int), q.2)
def putI (kvs : List (List Int × D)) (k : List Int) (d : D) : List (List Int × D) := if kvs.any (fun q => decide (q.1 = k)) then kvs.map (fun q => if q.1 = k then (q.1, d) else q) else kvs ++ [(k, d)]
def mergeI (kvs more : List (List Int × D)) : List (List Int × D) := more.foldl (fun acc q => putI acc q.1 q.2) kvs
abbrev PT (K : PySem.W.Frag) (H : Hp) : List (List Key × V) → List (List Int × D) → Prop := Paired fun p q => p.1 = q.1.map Sum.inl ∧ Rp K H p.2 q.2
section
variable {K : PySem.W.Frag} {H : Hp}
theorem inl_inj {a b : List Int} (h : a.map (Sum.inl : Int → Key) = b.map Sum.inl) : a = b := by
  have := congrArg (List.map (fun k : Key => match k with | .inl i => i | .inr _ => 0)) h
  simpa [List.map_map, Function.comp_def] using this
theorem PT.any {kvs : List (List Key × V)} {ds : List (List Int × D)} (h : PT K H kvs ds) (k : List Int) : (kvs.any fun q => decide (q.1 = k.map Sum.inl)) = ds.any fun q => decide (q.1 = k) := by
  induction h with
  | nil => rfl
  | cons r t ih =>
    rw [List.any_cons, List.any_cons, ih]
    congr 1
    rw [r.1]
    exact decide_eq_decide.mpr ⟨inl_inj, fun z => by rw [z]⟩
theorem PT.repl {k : List Int} {v : V} {d : D} (r : Rp K H v d) : ∀ {kvs : List (List Key × V)} {ds : List (List Int × D)}, PT K H kvs ds → PT K H (kvs.map fun kv => if kv.1 = k.map Sum.inl then (kv.1, v) else kv) (ds.map (fun q => if q.1 = k then (q.1, d) else q))
  | _, _, .nil => .nil
  | _, _, .cons (a := p) (b := q) r' t => by
    refine .cons ?_ (PT.repl r t)
    dsimp only
    by_cases z : q.1 = k
    · rw [if_pos z, if_pos (by rw [r'.1, z])]; exact ⟨r'.1, r⟩
    · rw [if_neg z, if_neg (by rw [r'.1]; exact fun y => z (inl_inj y))]; exact r'
theorem PT.put {kvs : List (List Key × V)} {ds : List (List Int × D)} (h : PT K H kvs ds) {k : List Int} {v : V} {d : D} (r : Rp K H v d) : PT K H (putK kvs (k.map Sum.inl) v) (putI ds k d) := by
  unfold putK putI
  rw [h.any k]
  by_cases z : (ds.any fun q => decide (q.1 = k)) = true
  · rw [if_pos z, if_pos z]; exact PT.repl r h
  · rw [if_neg z, if_neg z]; exact Paired.snoc h ⟨rfl, r⟩
theorem PT.merge : ∀ {more : List (List Key × V)} {ms : List (List Int × D)} {kvs : List (List Key × V)} {ds : List (List Int × D)}, PT K H more ms → PT K H kvs ds → PT K H (mergeT kvs more) (mergeI ds ms)
  | _, _, _, _, .nil, h => h
  | _, _, _, _, .cons (a := p) (b := q) r t, h => by
    show PT K H (mergeT (putK _ p.1 p.2) _) (mergeI (putI _ q.1 q.2) _)
    rw [r.1]
    exact PT.merge t (h.put r.2)
theorem PT.rp : ∀ {kvs : List (List Key × V)} {ds : List (List Int × D)}, PT K H kvs ds → RpT K H kvs (dtD ds)
  | _, _, .nil => .nil
  | _, _, .cons (a := p) (b := q) r t => by
    obtain ⟨k, v⟩ := p
    have e : k = q.1.map Sum.inl := r.1
    subst e
    have e2 : (PyData.tuple (q.1.map .int), q.2) = (PyData.tuple ((q.1.map Sum.inl : List Key).map kD), q.2) := by rw [List.map_map]; rfl
    show RpT K H _ ((PyData.tuple (q.1.map .int), q.2) :: dtD _)
    rw [e2]
    exact .cons r.2 (PT.rp t)
theorem PT.of : ∀ {kvs : List (List Key × V)} {ds : List (List Int × D)}, RpT K H kvs (dtD ds) → PT K H kvs ds
  | _, [], .nil => .nil
  | kvs, q :: ds, h => by
    have h' : RpT K H kvs ((.tuple (q.1.map .int), q.2) :: dtD ds) := h
    generalize hL : (PyData.tuple (q.1.map .int), q.2) :: dtD ds = L at h'
    cases h' with
    | nil => cases hL
    | cons h1 h2 =>
      rename_i k v vs d' ds'
      obtain ⟨e1, e2⟩ := List.cons.inj hL
      subst e2
      have ek : (k.map kD) = q.1.map PyData.int := (PyData.tuple.inj (congrArg Prod.fst e1)).symm
      have ed : d' = q.2 := (congrArg Prod.snd e1).symm
      subst ed
      exact .cons ⟨keyI ek, h1⟩ (PT.of h2)
where
  keyI : ∀ {k : List Key} {ns : List Int}, k.map kD = ns.map PyData.int → k = ns.map Sum.inl
    | [], [], _ => rfl
    | [], _ :: _, h => by cases h
    | _ :: _, [], h => by cases h
    | x :: k, n :: ns, h => by
      obtain ⟨h1, h2⟩ := List.cons.inj h
      cases x with
      | inl i => rw [List.map_cons, keyI h2, PyData.int.inj h1]
      | inr z => cases h1
theorem mergeI_ne : ∀ {more kvs : List (List Int × D)}, kvs ≠ [] → mergeI kvs more ≠ []
  | [], kvs, h => h
  | q :: more, kvs, h => by
    show mergeI (putI kvs q.1 q.2) more ≠ []
    refine mergeI_ne (more := more) ?_
    unfold putI
    split
    · intro z; exact h (List.map_eq_nil_iff.mp z)
    · intro z; simp at z
theorem pairs_tup {O : List Addr} : ∀ {kvs : List (List Int × D)} {xs : List V}, RpA K (msk O H) xs (kvs.map fun q => .tuple [.tuple (q.1.map .int), q.2]) → ∃ (ps : List Addr) (kk : List (List Key × V)), xs = ps.map V.ref ∧ PT K (msk O H) kk kvs ∧ Paired (fun p (kv : List Key × V) => ∃ b, H p = some (.tup [.ref b, kv.2]) ∧ H b = some (.tup (kv.1.map kV))) ps kk
  | [], _, .nil => ⟨[], [], rfl, .nil, .nil⟩
  | q :: r, _, .cons h t => by
    obtain ⟨ps, kk, rfl, h2, h3⟩ := pairs_tup t
    cases h with
    | tup g1 g2 =>
      cases g2 with
      | cons k1 k2 =>
        cases k2 with
        | cons k3 k4 =>
          cases k4
          cases k1 with
          | tup j1 j2 =>
            rename_i v' b ys
            have ey := j2.ints
            subst ey
            refine ⟨_ :: ps, (q.1.map Sum.inl, v') :: kk, rfl, .cons ⟨rfl, k3⟩ h2, .cons ⟨b, (msk_some g1).2, ?_⟩ h3⟩
            rw [List.map_map]
            exact (msk_some j1).2
end
section
variable {X : Cx} {T : List Addr} {B : Bs} {ρ ρ1 ρ2 : Sl} {W W1 W2 : List Addr} {e a b : Expr} {d : D} {pos p : Pos}
theorem ex_dictT {kvs : List (List Int × D)} (hc : X.calm = true) (hu : X.A.units + 8 < cLine) (hg : Gl X "dict") (hm : X.mg "dict" = none) (ha : EL X T B ρ a W ρ1 (kvs.map fun q => .tuple [.tuple (q.1.map .int), q.2])) (he : starEach [a] X.env = (false, eval a X.env) :: starEach [] X.env := by rfl) :
    EX X T B ρ (.Call (.Name "dict" p) [a] [] pos) W ρ1 (.dict (dtD (mergeI [] kvs))) := by
  refine ⟨PE.imp (Call1.run (c1t (p := p) ((call_dictP hc).or (call_dictT hc hu)) hg hm (by decide +kernel) (he := he)) (pa_cons ha.run pa_nil he)) fun σ H Q ⟨S, q⟩ => ⟨S, fun l xs H' S' f r1 r2 => ?_⟩, ha.own, ha.sub⟩
  cases kvs with
  | nil =>
    cases r2
    exact .inl ⟨l, [], [], rfl, r1, .nil, fun p np => q _ _ (S'.new np) (f.transN (Fx.new np)) (.dk (msk_new S' np) .nil)⟩
  | cons kv kvs =>
    obtain ⟨ps, kk, rfl, h2, h3⟩ := pairs_tup r2
    refine .inr ⟨l, ps, kk, rfl, r1, h3, fun p np => q _ _ (S'.new np) (f.transN (Fx.new np)) (.dt ?_ (msk_new S' np) (((PT.merge h2 .nil).rp).mono (kp_new np)))⟩
    intro z
    have z' : mergeI [] (kv :: kvs) = [] := List.map_eq_nil_iff.mp z
    exact mergeI_ne (more := kvs) (kvs := putI [] kv.1 kv.2) (by unfold putI; simp) z'
end
end Dv

set_option maxRecDepth 100000
namespace Dv
open PySem PySem.Spec PyProof.Rows L2
theorem PT.len {K : PySem.W.Frag} {H : Hp} {kvs : List (List Key × V)} {ds : List (List Int × D)} (h : PT K H kvs ds) : kvs.length = ds.length := Paired.length h
theorem PT.at {K : PySem.W.Frag} {H : Hp} {kvs : List (List Key × V)} {ds : List (List Int × D)} (h : PT K H kvs ds) {i : Nat} {p : List Key × V} (e : kvs[i]? = some p) : ∃ q, ds[i]? = some q ∧ p.1 = q.1.map Sum.inl := by
  obtain ⟨b, h1, h2⟩ := paired_get h e
  exact ⟨b, h1, h2.1⟩
theorem valV_any {kvs : List (List Key × V)} {k : List Key} : (valV kvs k).isSome = kvs.any fun q => decide (q.1 = k) := by
  induction kvs with
  | nil => rfl
  | cons p r ih =>
    by_cases z : p.1 = k
    · rw [valV_pos z, List.any_cons]; simp [z]
    · rw [valV_neg z, ih, List.any_cons]; simp [z]
/-- the keys of ds that es has -/
def keepI (ds es : List (List Int × D)) : List D := (ds.filter fun q => es.any fun p => decide (p.1 = q.1)).map fun q => .tuple (q.1.map .int)
theorem keepI_snoc (ds es : List (List Int × D)) (i : Nat) (q : List Int × D) (h : ds[i]? = some q) : keepI (ds.take (i + 1)) es = keepI (ds.take i) es ++ if (es.any fun p => decide (p.1 = q.1)) = true then [.tuple (q.1.map .int)] else [] := by
  unfold keepI
  rw [List.take_add_one, h, List.filter_append, List.map_append]
  congr 1
  show (List.filter _ [q]).map _ = _
  cases ho : es.any fun p => decide (p.1 = q.1) with
  | true => rw [List.filter_cons_of_pos (by simpa using ho)]; rfl
  | false => rw [List.filter_cons_of_neg (by rw [ho]; exact Bool.false_ne_true)]; rfl
theorem upd_back {H : Hp} {a b : Addr} {u o x : HO} (h : H a = some u) (n : b ≠ a) : upd (upd (upd H a o) b x) a u = upd H b x := by
  funext c
  by_cases q : c = a
  · subst q
    rw [upd_same, upd_ne (fun z => n z.symm)]; exact h.symm
  · rw [upd_ne q]
    by_cases r : c = b
    · subst r; rw [upd_same, upd_same]
    · rw [upd_ne r, upd_ne r, upd_ne q]
section
variable {X : Cx} {T : List Addr} {B : Bs} {ρ ρ1 ρ2 : Sl} {W W1 W2 : List Addr} {e a b : Expr} {d : D} {pos p : Pos}
theorem dict_no {K : PySem.W.Frag} {Hm : Hp} {v : V} {ds : List (List Int × D)} (r : Rp K Hm v (.dict (dtD ds))) : (ds = [] ∧ ∃ d, v = .ref d ∧ Hm d = some (.dK [])) ∨ ∃ d kvs, v = .ref d ∧ Hm d = some (.dT kvs) ∧ PT K Hm kvs ds := by
  generalize hd : dtD ds = dd at r
  cases r with
  | dk h1 h2 =>
    cases ds with
    | nil =>
      cases hd
      cases h2
      exact .inl ⟨rfl, _, rfl, h1⟩
    | cons q qs =>
      exfalso
      have hd' : (PyData.tuple (q.1.map .int), q.2) :: dtD qs = _ := hd
      rw [← hd'] at h2
      generalize hL : (PyData.tuple (q.1.map .int), q.2) :: dtD qs = L at h2
      cases h2 with
      | nil => cases hL
      | cons g1 g2 =>
        rename_i k' _ _ _ _
        have e1 := (List.cons.inj hL).1
        have e2 := congrArg Prod.fst e1
        cases k' <;> cases e2
  | dt hn h1 h2 =>
    subst hd
    exact .inr ⟨_, _, rfl, h1, PT.of h2⟩
theorem ex_keep {i j r : Nat} {x y z : Str} {ds es : List (List Int × D)} {scope : Scope} {pe pt pi p1 p2 p3 : Pos} (hc : X.calm = true) (hN : X.N.Nodup) (hu : X.A.units + 1 < cLine) (hlen : ds.length ≤ sizeLine) (hne : ds = [] ∨ es ≠ [])
    (hx : X.N[i]? = some x) (hy : X.N[j]? = some y) (hz : X.N[r]? = some z) (sx : ρ[i]? = some (.dat (.dict (dtD ds)))) (sy : ρ[j]? = some (.dat (.dict (dtD es)))) (hr : r < ρ.length) (ri : r ≠ i) (rj : r ≠ j) (ro : noOwn ρ [r] = true)
    (vx : Vis X.env.scope x) (ok : BlkOk X.N X.env.scope scope [(z, r)]) (vy : ∀ s H C cl fp, Vis (Bk X scope s H C cl fp).env.scope y) (lz : ∀ s H C cl fp, Loc (Bk X scope s H C cl fp).env.scope z) (vz : ∀ s H C cl fp, Vis (Bk X scope s H C cl fp).env.scope z)
    (fz : ∀ s H C cl fp, (Bk X scope s H C cl fp).fn z = true ∨ (Bk X scope s H C cl fp).env.scope.names.lookup z = some .local)
    (dx : (x == ("__debug__" : Str)) = false := by decide) (cx : (x == ("__classdict__" : Str)) = false := by decide) (dy : (y == ("__debug__" : Str)) = false := by decide) (cy : (y == ("__classdict__" : Str)) = false := by decide) (dz : (z == ("__debug__" : Str)) = false := by decide) (cz : (z == ("__classdict__" : Str)) = false := by decide)
    (hs : ∀ v, foldedSetIterable (.Name x pi) X.env v = pure v := by intro _; rfl) :
    EX X T B ρ (.ListComp (.Name z pe) [⟨.Name z pt, .Name x pi, [.Compare (.Name z p1) [.In] [.Name y p2] p3], 0⟩] scope pos) [] ρ (.list (keepI ds es)) := by
  refine ⟨PE.imp (pe_lock (pe_lc hc hN (pi_keys (pe_var hx vx dx cx)) ok (g := gName r) (tt := tB (tDIn (tVar r) (tVar j))) (te := tVar r) ?_ ?_ ?_ hs)) fun σ H Q ⟨S, q⟩ => ?_, rfl, sub_nil⟩
  · exact fun s H C cl fp => pg_name hN hz (lz s H C cl fp) (fz s H C cl fp)
  · exact fun s H C cl fp => pts_one (pt_cmp (pc_din (X := Bk X scope s H C cl fp) hu (pe_var (X := Bk X scope s H C cl fp) hz (vz s H C cl fp) dz cz) (pe_var (X := Bk X scope s H C cl fp) hy (vy s H C cl fp) dy cy)))
  · exact fun s H C cl fp => pe_var (X := Bk X scope s H C cl fp) hz (vz s H C cl fp) dz cz
  · obtain ⟨v, q1, q2⟩ := S.at_ i _ sx
    obtain ⟨w, w1, w2⟩ := S.at_ j _ sy
    have q1 := slot_of (K := X.K) (H := H) q1
    have w1 := slot_of (K := X.K) (H := H) w1
    have fin : ∀ {D : Addr} {acc : List V}, H D = none → RpA X.K (msk (B.all ρ) H) acc (keepI ds es) → Q (.ref D) (upd H D (.lst acc)) := fun {D acc} hD hacc =>
      q _ _ (S.new hD) (Fx.new hD) (.lst (SqL.of (msk_new S hD)) (hacc.mono (kp_new hD)))
    rcases dict_no q2 with ⟨rfl, d, rfl, hd⟩ | ⟨d, kvs, rfl, hd, hp⟩
    · -- no keys
      have hd := (msk_some hd).2
      refine ⟨d, _, hd, trivial, fun od => ⟨_, q1, d, od, rfl, .inl ⟨[], upd_same, fun D hD => ?_⟩⟩⟩
      have nD : D ≠ d := fun z => by rw [z, upd_same] at hD; cases hD
      have hD' : H D = none := by rw [upd_ne nD] at hD; exact hD
      refine ⟨fun i m H' => i = 0 ∧ H' = upd (upd H d (.frz od (.dK []))) D (.lst []), ⟨0, rfl, rfl⟩, ?_⟩
      rintro _ m _ ⟨rfl, rfl⟩
      refine .inl ⟨⟨by rw [upd_ne (fun z => nD z.symm), upd_same], Nat.le_refl _⟩, by rw [upd_ne (fun z => nD z.symm), upd_same], ?_⟩
      rw [upd_back hd nD]
      exact fin hD' .nil
    · have hd := (msk_some hd).2
      have hl := hp.len
      refine ⟨d, _, hd, trivial, fun od => ⟨_, q1, d, od, rfl, .inr ⟨kvs, upd_same, fun D hD => ?_⟩⟩⟩
      have nD : D ≠ d := fun z => by rw [z, upd_same] at hD; cases hD
      have hD' : H D = none := by rw [upd_ne nD] at hD; exact hD
      have hne : es ≠ [] ∨ kvs = [] := by
        rcases hne with e | e
        · exact .inr (List.length_eq_zero_iff.mp (by rw [hl, e]; rfl))
        · exact .inl e
      have hes : kvs = [] ∨ ∃ d' kvs', w = .ref d' ∧ (msk (B.all ρ) H) d' = some (.dT kvs') ∧ PT X.K (msk (B.all ρ) H) kvs' es := by
        rcases hne with e | e
        · rcases dict_no w2 with ⟨e', _⟩ | ⟨d', kvs', h⟩
          · exact absurd e' e
          · exact .inr ⟨d', kvs', h⟩
        · exact .inl e
      refine ⟨fun i m H' => m = kvs.length - i ∧ i ≤ kvs.length ∧ ∃ acc, H' = upd (upd H d (.frz od (.dT kvs))) D (.lst acc) ∧ acc.length ≤ i ∧ RpA X.K (msk (B.all ρ) H) acc (keepI (ds.take i) es), ⟨kvs.length, by simp, Nat.zero_le _, [], rfl, Nat.le_refl _, .nil⟩, ?_⟩
      rintro i m _ ⟨rfl, hi, acc, rfl, hal, hacc⟩
      have hD1 : ∀ acc', (upd (upd H d (.frz od (.dT kvs))) D (.lst acc')) d = some (.frz od (.dT kvs)) := fun acc' => by rw [upd_ne (fun z => nD z.symm), upd_same]
      by_cases hlt : i < kvs.length
      · refine .inr ⟨⟨hD1 _, hlt⟩, fun H' => ∃ acc, H' = upd (upd H d (.frz od (.dT kvs))) D (.lst acc) ∧ acc.length ≤ i + 1 ∧ RpA X.K (msk (B.all ρ) H) acc (keepI (ds.take (i + 1)) es), fun H' z => ⟨kvs.length - (i + 1), by omega, rfl, hlt, z⟩, ?_⟩
        rintro v _ ⟨rfl, k, u, t, ek, rfl, ht⟩
        have et : H t = some (.tup (k.map kV)) := by
          have n1 : t ≠ D := fun z => by rw [z, upd_same] at ht; cases ht
          have n2 : t ≠ d := fun z => by rw [z, hD1] at ht; cases ht
          rw [upd_ne n1, upd_ne n2] at ht; exact ht
        obtain ⟨qq, eq1, eq2⟩ := hp.at ek
        have ek2 : k = qq.1.map Sum.inl := eq2
        rcases hes with e | ⟨d', kvs', rfl, hd', hp'⟩
        · rw [e] at hlt; exact absurd hlt (Nat.not_lt_zero _)
        have hw : wipe ((wipe σ [r]).set r (some (.ref t))) [r] = wipe σ [r] := by rw [wipe_set (List.mem_singleton.mpr rfl), wipe_wipe]
        have hrl : r < (wipe σ [r]).length := by rw [wipe_length, ← S.len]; exact hr
        have g1 : ((wipe σ [r]).set r (some (.ref t)))[r]? = some (some (.ref t)) := List.getElem?_set_self hrl
        have g2 : ((wipe σ [r]).set r (some (.ref t)))[j]? = some (some (.ref d')) := by
          rw [List.getElem?_set_ne rj, wipe_out2 (by simpa using fun z => rj z.symm)]; exact w1
        refine ⟨hw, ?_⟩
        refine ⟨_, g1, _, g2, d', valV kvs' k, rfl, .inr ⟨kvs', k, t, ?_, rfl, ht, rfl⟩, _, rfl, ?_⟩
        · have nd : d' ≠ D := ne_of_none (msk_some hd').2 hD'
          by_cases z : d' = d
          · subst z
            have : kvs = kvs' := by
              have z1 := (msk_some hd').2
              rw [hd] at z1; cases z1; rfl
            subst this
            exact .inr ⟨od, hD1 _⟩
          · exact .inl (by rw [upd_ne nd, upd_ne z]; exact (msk_some hd').2)
        · have hany : (valV kvs' k).isSome = es.any fun p => decide (p.1 = qq.1) := by
            rw [valV_any, ek2, hp'.any]
          have hk := keepI_snoc ds es i qq eq1
          rw [hany]
          cases ho : es.any fun p => decide (p.1 = qq.1) with
          | false =>
            show (if false = true then _ else _)
            rw [if_neg Bool.false_ne_true]
            rw [ho, if_neg Bool.false_ne_true, List.append_nil] at hk
            exact ⟨acc, rfl, Nat.le_succ_of_le hal, by rw [hk]; exact hacc⟩
          | true =>
            show (if true = true then _ else _)
            rw [if_pos rfl]
            rw [ho, if_pos rfl] at hk
            refine ⟨_, g1, acc, upd_same, by omega, acc ++ [.ref t], by rw [upd_upd], by simp; omega, ?_⟩
            rw [hk]
            refine hacc.snoc (.tup (xs := qq.1.map V.int) ?_ (RpA.of_ints _))
            have nt : t ∉ B.all ρ := fun z => by
              obtain ⟨o, e, no⟩ := S.held t z
              rw [et] at e; cases e; cases no
            show msk _ H t = _
            rw [msk_out nt, et, ek2, List.map_map]; rfl
      · have e : i = kvs.length := by omega
        subst e
        refine .inl ⟨⟨hD1 _, Nat.le_refl _⟩, hD1 _, ?_⟩
        rw [upd_back hd nD]
        rw [hl, List.take_length] at hacc
        exact fin hD' hacc
end
end Dv

set_option maxRecDepth 100000
namespace Dv
open PySem PySem.Spec PyProof.Rows L2
/-- a def whose code object is known -/
structure FunC (K : PySem.W.Frag) (x qual : Str) (st : Stmt) (f : Addr) (fd : FuncData) (cdv : Value) : Prop where
  ex : ∃ (oc : Value) (od : Option Addr) (kV doc pm : Value) (an : Option Addr) (ct : Value) (osl : Array (Option Value)),
    fd = PySem.W.fnOf x qual (defArgs st) (defBody st) (defScope st) .none kV doc pm an cdv ct ∧ K.lookup f = some ⟨oc, od, .func fd, osl⟩ ∧ PySem.W.codeIn K cdv qual = true
  kp : PySem.W.keepIn K (.ref f) = true
theorem FunC.f {K : PySem.W.Frag} {x qual : Str} {st : Stmt} {f : Addr} {fd : FuncData} {cdv : Value} (F : FunC K x qual st f fd cdv) : Fun K x qual st f fd :=
  ⟨let ⟨oc, od, kV, doc, pm, an, ct, osl, h⟩ := F.ex; ⟨oc, od, kV, doc, pm, an, cdv, ct, osl, h⟩, F.kp⟩
section
variable {P : Program} {w : World} {K : PySem.W.Frag} {mg : Str → Option Value} {base : Heap} {x qual : Str} {st : Stmt} {f : Addr} {fd : FuncData} {N ps : List Str} {n : Nat} {T : List Addr}
theorem FunC.ok {k : Nat} {sp : Sp} {cdv : Value} (F : FunC K x qual st f fd cdv) (S : FnScope N ps (defScope st)) (len : ∀ vs H Q E, sp vs H Q E → vs.length = ps.length)
    (hbody : ∀ (A : Around) (outer : List Env) (s : Shared) (H : Hp) (vs : List V) (Q : VK) (E : XK), Room k (A.deeper (envOfC qual (defScope st) s.heap.objs.size f cdv)) → sp vs H Q E →
      ∃ t, PSs (cxOf CX0 P w K mg base N qual (defScope st) f cdv A outer s H E).nox (defBody st) t ∧ t { nx := fun _ H' => Q .non H', rt := Q } (L2.start N vs) H) : FnOk P w K mg base CX0 (k + 1) f fd ps sp := by
  obtain ⟨oc, od, kV, doc, pm, an, ct, osl, rfl, lk, hcd⟩ := F.ex
  refine fn_of lk hcd S len fun A outer s H vs Q E hr hsp => ?_
  obtain ⟨t, h, q⟩ := hbody A outer s H vs Q E hr hsp
  exact ⟨t, h.nox, q⟩
/-- how a def's promise is read from its body -/
theorem prd_read {R : Sl → D → Sl → Prop} {X : Cx} {vs : List V} {H : Hp} {Q : VK} {E : XK} (hK : X.K = K) (h : PrD K T ps.length R vs H Q E)
    (body : ∀ (B : Bs) (args : Sl) (d : D) (args' : Sl), args.length = ps.length → B.lent = owns args → Sh args args' → R args d args' → SXs X T B (ent N args) (defBody st) { nx := fun ρ => d = .none ∧ Back args' ρ, rt := fun d' ρ => d' = d ∧ Back args' ρ }) :
    ∃ t, PSs X (defBody st) t ∧ t { nx := fun _ H' => Q .non H', rt := Q } (L2.start N vs) H := by
  obtain ⟨hl, args, out, d, args', hA, nd, dj, ho, ht, sh, hR, q⟩ := h
  have hb := body ⟨out, owns args, H⟩ args d args' (by rw [hA.1]; exact hl) rfl sh hR
  have fin : ∀ {ρ : Sl} {σ : L2.St} {v : V} {H' : Hp}, Sim K T ⟨out, owns args, H⟩ ρ σ H' → Back args' ρ → Rp K (msk ((⟨out, owns args, H⟩ : Bs).all ρ) H') v d → Q v H' := fun {ρ σ v H'} S' bk rp => by
    have sub : ∀ a ∈ out ++ owns args, a ∈ (⟨out, owns args, H⟩ : Bs).all ρ := fun a z => by
      rcases List.mem_append.mp z with z | z
      · exact List.mem_append_left _ z
      · rw [← sh.owns] at z
        obtain ⟨i, o, e⟩ := mem_owns.mp z
        exact List.mem_append_right _ (mem_owns.mpr ⟨i, o, bk i a o e⟩)
    exact q v H' S'.frame (fun a z => S'.dom a z) S'.tabs (fun i a o e => (S'.at_ i _ (bk i a o e)).2.mono (Kp.sub sub) fun _ _ z => z) (rp.mono (Kp.sub sub))
  subst hK
  exact ⟨_, hb, sim_start hA nd dj ho ht, fun ρ σ H' ⟨z, bk⟩ S' => fin S' bk (by rw [z]; exact .non), fun d' ρ σ v H' ⟨z, bk⟩ S' rp => fin S' bk (by rw [← z]; exact rp), fun _ _ _ z => z.elim, fun _ _ _ z => z.elim, fun _ _ _ _ _ _ z => z.elim⟩
/-- THE RULE for a def whose code object is known -/
theorem fn_dC {cdv : Value} (F : FunC K x qual st f fd cdv) (S : FnScope N ps (defScope st)) (R : Sl → D → Sl → Prop)
    (body : ∀ (A : Around) (outer : List Env) (s : Shared) (H : Hp) (E : XK) (B : Bs) (args : Sl) (d : D) (args' : Sl), Room n (A.deeper (envOfC qual (defScope st) s.heap.objs.size f cdv)) → args.length = ps.length → B.lent = owns args → Sh args args' → R args d args' →
      SXs (cxOf CX0 P w K mg base N qual (defScope st) f cdv A outer s H E).nox T B (ent N args) (defBody st) { nx := fun ρ => d = .none ∧ Back args' ρ, rt := fun d' ρ => d' = d ∧ Back args' ρ }) :
    FnOk P w K mg base CX0 (n + 1) f fd ps (PrD K T ps.length R) :=
  F.ok S (fun vs H Q E h => h.1) fun A outer s H vs Q E hr h => prd_read rfl h fun B args d args' => body A outer s H E B args d args' hr
/-- the promise of a def that hands back a new list of its own choice -/
def PrC (K : PySem.W.Frag) (T : List Addr) (n : Nat) (R G : List D → Prop) : Sp := fun vs H Q _ => vs.length = n ∧ ∃ (args : List D) (out : List Addr),
  Args K H (msk out H) (args.map .dat) vs ∧ (∀ a ∈ out, ∃ o, H a = some o ∧ mutb o = true) ∧ (∀ P ∈ T, GxR.TabG H P) ∧ R args ∧
  ∀ p xs ds H', G ds → H p = none → Fx [] H H' → (∀ a, H a ≠ none → H' a ≠ none) → (∀ P ∈ T, GxR.TabG H' P) → H' p = some (.lst xs) → RpA K (msk (p :: out) H') xs ds → Q (.ref p) H'
theorem fn_c (F : Fun K x qual st f fd) (S : FnScope N ps (defScope st)) (R G : List D → Prop)
    (body : ∀ (cdv : Value) (A : Around) (outer : List Env) (s : Shared) (H : Hp) (E : XK) (B : Bs) (args : List D), Room n (A.deeper (envOfC qual (defScope st) s.heap.objs.size f cdv)) → args.length = ps.length → B.lent = [] → R args →
      SXs (cxOf CX0 P w K mg base N qual (defScope st) f cdv A outer s H E).nox T B (ent N (args.map .dat)) (defBody st) { nx := fun _ => False, rt := fun _ _ => False, rf := fun ds _ => G ds }) :
    FnOk P w K mg base CX0 (n + 1) f fd ps (PrC K T ps.length R G) := by
  refine F.ok S (fun vs H Q E h => h.1) (fun cdv A outer s H vs Q E hr h => ?_)
  obtain ⟨hl, args, out, hA, ho, ht, hR, q⟩ := h
  have o0 : owns (args.map Slot.dat) = [] := owns_dats args
  have hb := body cdv A outer s H E ⟨out, [], H⟩ args hr (by have := hA.1; rw [List.length_map] at this; rw [this]; exact hl) rfl hR
  have hA' : Args K H (msk (out ++ owns (args.map Slot.dat)) H) (args.map .dat) vs := by rw [o0, List.append_nil]; exact hA
  have S0 := sim_start (K := K) (T := T) (N := N) hA' (by rw [o0]; exact List.nodup_nil) (by rw [o0]; exact fun a z => by cases z) ho ht
  rw [o0] at S0
  refine ⟨_, hb, S0, fun _ _ _ z => z.elim, fun _ _ _ _ _ z => z.elim, fun _ _ _ z => z.elim, fun _ _ _ z => z.elim, fun ds' ρ σ p xs H' z h0 S' h1 h2 h3 => ?_⟩
  refine q p xs ds' H' z h0 S'.frame (fun a z => S'.dom a z) S'.tabs h1 (h3.mono (Kp.sub fun a z => ?_))
  rcases List.mem_cons.mp z with z | z
  · rw [z]; exact List.mem_cons_self
  · exact List.mem_cons_of_mem _ (List.mem_append_left _ z)
end
section
variable {X : Cx} {T : List Addr} {B : Bs} {ρ ρ1 ρ2 ρ3 : Sl} {W W1 W2 W3 : List Addr} {e a b c : Expr} {d d1 d2 d3 : D} {pos apos px : Pos} {k : DE} {st : Stmt} {r : List Stmt} {x : Str} {i n : Nat} {l : Addr}
variable {f : Addr} {fd : FuncData} {ps : List Str} {p : Pos} {es : List Expr} {kk : Nat}
/-- y = f(e, ..), the new list is the callee's choice -/
theorem sx_setC {R G : List D → Prop} {ds : List D} {y : Str} {i : Nat} {pos' : Pos} (F : FnOk X.prog X.w X.K X.mg X.base CX0 kk f fd ps (PrC X.K T n R G)) (hr : Room kk X.A) (hg : Gl X x) (hm : X.mg x = some (.ref f)) (hk : PySem.W.keepIn X.K (.ref f) = true) (hb : Binds X.K fd ps [])
    (ha : AX X T B ρ (e :: es) W ρ1 ds) (hn : ds.length = n) (hR : R ds) (hN : X.N.Nodup) (hnx : ∀ out p, G out → SXs X T B (ρ1.set i (.own p (.list out))) r k) (hi : X.N[i]? = some y := by rfl) (hx : Loc X.env.scope y := by first | exact Or.inl rfl | exact Or.inr rfl) (hl : i < ρ1.length := by exact Nat.le_of_ble_eq_true rfl)
    (hs : swapsWith (.Call (.Name x p) (e :: es) [] px) (some (.Name y pos')) pos.line X.env = pure false := by rfl) (hf : X.fn y = true ∨ X.env.scope.names.lookup y = some .local := by first | exact .inl rfl | exact .inr rfl)
    (hdb : (x == ("__debug__" : Str)) = false := by decide) (he : starEach (e :: es) X.env = (false, eval e X.env) :: starEach es X.env := by rfl) (hpl : (backTo px (starEach es X.env)).any (·.1) = false := by rfl) :
    SXs X T B ρ (.Assign [.Name y pos'] (.Call (.Name x p) (e :: es) [] px) pos :: r) k := by
  refine PSs.imp (pss_cons (ps_set (pos' := pos') hN hi hx (pe_call F hr hg hm hk hb .nil pass0 ha.run hdb he hpl) hs hf) (ps_any (T := T) (B := B))) fun E σ H ⟨S, q⟩ => ⟨S, fun vs H1 S1 f1 r1 => ?_⟩
  show PrC X.K T n R G (vs ++ []) H1 _ E0
  rw [List.append_nil]
  refine ⟨by rw [r1.length]; exact hn, ds, B.all ρ1, args_dats r1, S1.held, S1.tabs, hR, fun p xs out H' hG h0 h1 h2 h3 h4 h5 => ?_⟩
  have S2 := S1.grow h1.kpN h3 h2
  have nf := S1.free h0
  have S3 : Sim X.K T (B.add p) ρ1 σ H' := by
    refine ⟨S2.len, fun i s e => (S1.at_ i s e).mono (fun a o no z => ?_) fun a d _ o no z => h1 a o no (by simp) z, S2.nodup, fun a z y => ?_, fun a z => ?_, S2.frame, S2.fresh, S2.tabs, S2.dom⟩
    · obtain ⟨z1, z2⟩ := msk_some z
      rw [msk_out (fun y => ?_)]
      · exact h1 a o no (by simp) z2
      · rcases List.mem_cons.mp (show a ∈ p :: (B.out ++ owns ρ1) from y) with y | y
        · exact ne_of_none z2 h0 y
        · exact z1 y
    · rcases List.mem_cons.mp y with y | y
      · rw [y] at z; exact nf (List.mem_append_right _ z)
      · exact S2.disj a z y
    · rcases List.mem_cons.mp z with z | z
      · exact ⟨_, by rw [z]; exact h4, rfl⟩
      · exact S2.outs a z
  exact ⟨_, k, hnx out p hG, sim_own S3 (free_H0 S1 h0) h4 nf h5 hl, q⟩
/-- return a new list -/
theorem sx_retF {ds : List D} (he : EO X T B ρ e W ρ1 ds) (h : k.rf ds ρ1) : SXs X T B ρ (.Return (some e) pos :: r) k := by
  refine PSs.imp (pss_cons (ps_ret he.run) (ps_any (T := T) (B := B))) fun E σ H ⟨S, q1, q2, q3, q4, q5⟩ => ⟨S, fun p xs H' h0 S' f h1 h2 h3 => ?_⟩
  exact q5 ds ρ1 σ p xs H' h h0 S' h1 h2 h3
end
end Dv

set_option maxRecDepth 100000
namespace Dv
open PySem PySem.Spec PyProof.Rows L2
section
variable {X : Cx} {T : List Addr} {B : Bs} {ρ ρ1 ρ2 ρ3 : Sl} {W W1 W2 W3 : List Addr} {e a b c : Expr} {d d1 d2 d3 : D} {pos apos px : Pos} {k : DE} {st : Stmt} {r : List Stmt}
def iD (i : Nat) : D := .int (i : Int)
theorem rng0 (n : Nat) : rng 0 ((n : Int)).toNat = (List.range n).map iD := by
  unfold rng iD
  rw [Int.toNat_natCast]
  refine List.map_congr_left fun i _ => ?_
  rw [Int.zero_add]
/-- range(n) -/
theorem ix_n {tg : Expr} {p : Pos} {n : Nat} (hg : Gl X "range") (hm : X.mg "range" = none) (h : EX X T B ρ a W ρ1 (.int (n : Nat))) (hn : n ≤ 1000000) (hs : starEach [a] X.env = [(false, eval a X.env)] := by rfl) : IX X T B ρ tg (.Call (.Name "range" p) [a] [] pos) W ρ1 ((List.range n).map iD) := by
  rw [← rng0]
  exact ix_r1 hg hm h ⟨by omega, by omega⟩ hs
/-- two names at once -/
theorem pr2 (i j : Nat) {x y : Str} {px py pt : Pos} {kt k2 pt2} (hc : X.calm = true) (hN : X.N.Nodup) (ha : EX X T B ρ a W1 ρ1 d1) (hb : EX X T B ρ1 b W2 ρ2 d2) (hr : SXs X T B ((ρ2.set i (.dat d1)).set j (.dat d2)) r k)
    (hi : X.N[i]? = some x := by rfl) (hj : X.N[j]? = some y := by rfl) (hij : i ≠ j := by decide) (hx : X.env.scope.names.lookup x = some .local := by rfl) (hy : X.env.scope.names.lookup y = some .local := by rfl)
    (hl1 : i < ρ2.length := by exact Nat.le_of_ble_eq_true rfl) (hl2 : j < ρ2.length := by exact Nat.le_of_ble_eq_true rfl)
    (hw : swappedStores [.Tuple [.Name x px, .Name y py] kt pt] (.Tuple [a, b] k2 pt2) X.env = pure (some [x, y]) := by rfl)
    (hs : swapsWithSole [.Tuple [.Name x px, .Name y py] kt pt] (.Tuple [a, b] k2 pt2) pos.line X.env = pure false := by rfl)
    (he : starEach [a, b] X.env = (false, eval a X.env) :: starEach [b] X.env := by rfl) (he2 : starEach [b] X.env = (false, eval b X.env) :: starEach [] X.env := by rfl) :
    SXs X T B ρ (.Assign [.Tuple [.Name x px, .Name y py] kt pt] (.Tuple [a, b] k2 pt2) pos :: r) k :=
  sx_par hc hN hi hj hij hx hy ha hb ⟨hl1, hl2⟩ hr (fun h => ps_par hc hN hi hj hij hx hy h hw hs) he he2
/-- a loop by states: J by the turn, Jd behind it -/
theorem sx_forI {tg : Expr} {body : List Stmt} {ds : List D} {St : Type} (vs : List Nat) (ρs : St → Sl) (J : Nat → St → Prop) (Jd : St → Prop) (s0 : St) (hp : PassesOwn (model X.prog X.w) X.A X.env X.xe) (hc : X.calm = true) (hi : IX X T B ρ tg e W ρ1 ds) (h0 : Fg ρ1 (ρs s0)) (j0 : J 0 s0)
    (hb : ∀ B' i s d, ds[i]? = some d → J i s → ∃ ρb, GX X T B' (ρs s) tg vs d ρb ∧ SXs X T B' ρb body { nx := fun ρ' => ∃ s', J (i + 1) s' ∧ Fg ρ' (ρs s'), ct := fun ρ' => ∃ s', J (i + 1) s' ∧ Fg ρ' (ρs s'), bk := fun ρ' => ∃ s', Jd s' ∧ Fg ρ' (ρs s'), rt := k.rt, rf := k.rf })
    (hd : ∀ s, J ds.length s → Jd s) (hr : ∀ s, Jd s → SXs X T B (ρs s) r k) (hs : ∀ x, foldedSetIterable e X.env x = pure x := by intro _; rfl) : SXs X T B ρ (.For tg e body [] pos :: r) k := by
  refine sx_for vs (fun i ρ' => ∃ s, J i s ∧ Fg ρ' (ρs s)) (fun ρ' => ∃ s, Jd s ∧ Fg ρ' (ρs s)) hp hc hi ⟨s0, j0, h0⟩ (fun B' i d ρ' hd' ⟨s, hJ, hI⟩ => ?_) (fun ρ' ⟨s, h1, h2⟩ => ⟨s, hd s h1, h2⟩) (fun ρ' ⟨s, h1, h2⟩ => (hr s h1).fg h2) hs
  obtain ⟨ρb, h1, h2⟩ := hb B' i s d hd' hJ
  refine ⟨ρb, PG.imp h1 fun v σ H Q ⟨S, rp, q⟩ => ⟨S.fg hI, ?_, q⟩, h2⟩
  exact rp.mono (Kp.sub fun a z => by
    rcases List.mem_append.mp z with z | z
    · exact List.mem_append_left _ z
    · exact List.mem_append_right _ (hI.sub.subset z))
/-- an if by states -/
theorem sx_ifI {c : Expr} {t u : List Stmt} {kb : Bool} {St : Type} (ρs : St → Sl) (Jd : St → Prop) (hc : TX X T B ρ c W ρ1 kb) (ht : kb = true → SXs X T B ρ1 t { k with nx := fun ρ' => ∃ s, Jd s ∧ Fg ρ' (ρs s) }) (hu : kb = false → SXs X T B ρ1 u { k with nx := fun ρ' => ∃ s, Jd s ∧ Fg ρ' (ρs s) }) (hr : ∀ s, Jd s → SXs X T B (ρs s) r k) : SXs X T B ρ (.If c t u pos :: r) k :=
  sx_if hc (fun ρ' => ∃ s, Jd s ∧ Fg ρ' (ρs s)) ht hu fun ρ' ⟨s, h1, h2⟩ => (hr s h1).fg h2
/-- an if that ends in known names on both sides -/
theorem sx_ifF {c : Expr} {t u : List Stmt} {kb : Bool} (hc : TX X T B ρ c W ρ1 kb) (ht : kb = true → SXs X T B ρ1 t { k with nx := fun ρ' => Fg ρ' ρ2 }) (hu : kb = false → SXs X T B ρ1 u { k with nx := fun ρ' => Fg ρ' ρ2 }) (hr : SXs X T B ρ2 r k) : SXs X T B ρ (.If c t u pos :: r) k :=
  sx_if hc (fun ρ' => Fg ρ' ρ2) ht hu fun ρ' h => hr.fg h
end
theorem atI_nat {α : Type} {xs : List α} {i : Nat} {x : α} (h : xs[i]? = some x) : atI xs (i : Int) = some x := by
  have hl := (List.getElem?_eq_some_iff.mp h).1
  unfold atI ixN
  rw [if_pos (Int.natCast_nonneg i), if_pos (by omega)]
  exact h
theorem atI_z {α : Type} {xs : List α} {x : α} : atI (x :: xs) 0 = some x := atI_nat (i := 0) rfl
section
variable {X : Cx} {T : List Addr} {B : Bs} {ρ ρ1 ρ2 ρ3 : Sl} {W W1 W2 W3 : List Addr} {e a b c : Expr} {d d1 d2 d3 : D} {pos apos px : Pos} {k : DE} {st : Stmt} {r : List Stmt}
theorem ex_dict0 : EX X T B ρ (.Dict [] [] pos) [] ρ (.dict []) := ⟨PE.imp pe_dnewK fun σ H Q ⟨S, q⟩ => fun p np => q _ _ (S.new np) (Fx.new np) (.dk (msk_new S np) .nil), rfl, sub_nil⟩
/-- a loop that folds, with what holds by the turn -/
theorem sx_forM {tg : Expr} {body : List Stmt} {St α : Type} (qs : List α) (en : α → D) (vs : List Nat) (ρs : St → Sl) (s0 : St) (step : St → α → St) (J : Nat → St → Prop) (hp : PassesOwn (model X.prog X.w) X.A X.env X.xe) (hc : X.calm = true) (hi : IX X T B ρ tg e W ρ1 (qs.map en)) (h0 : Fg ρ1 (ρs s0)) (j0 : J 0 s0)
    (hb : ∀ B' i s q, qs[i]? = some q → J i s → J (i + 1) (step s q) ∧ ∃ ρb, GX X T B' (ρs s) tg vs (en q) ρb ∧ SXs X T B' ρb body { nx := fun ρ' => Fg ρ' (ρs (step s q)), ct := fun ρ' => Fg ρ' (ρs (step s q)), bk := fun _ => False, rt := k.rt, rf := k.rf })
    (hr : J qs.length (qs.foldl step s0) → SXs X T B (ρs (qs.foldl step s0)) r k) (hs : ∀ x, foldedSetIterable e X.env x = pure x := by intro _; rfl) : SXs X T B ρ (.For tg e body [] pos :: r) k := by
  refine sx_forI vs ρs (fun i s => s = (qs.take i).foldl step s0 ∧ J i s) (fun s => s = qs.foldl step s0 ∧ J qs.length s) s0 hp hc hi h0 ⟨rfl, j0⟩ (fun B' i s d hd hJ => ?_) (fun s h => ?_) (fun s h => by rw [h.1]; exact hr (by rw [← h.1]; exact h.2)) hs
  · rw [List.getElem?_map] at hd
    cases hq : qs[i]? with
    | none => rw [hq] at hd; cases hd
    | some q =>
      rw [hq] at hd
      cases (Option.some.inj hd)
      obtain ⟨h1, ρb, h2, h3⟩ := hb B' i s q hq hJ.2
      have e : step s q = (qs.take (i + 1)).foldl step s0 := by
        rw [List.take_add_one, hq, List.foldl_append, ← hJ.1]; rfl
      refine ⟨ρb, h2, PSs.imp h3 fun E σ H ⟨S, q1, q2, q3, q4, q5⟩ => ⟨S, fun ρ' σ' H' m => q1 ρ' σ' H' ⟨_, ⟨e, h1⟩, m⟩, q2, fun _ _ _ z => z.elim, fun ρ' σ' H' m => q4 ρ' σ' H' ⟨_, ⟨e, h1⟩, m⟩, q5⟩⟩
  · rw [List.length_map] at h
    exact ⟨by rw [h.1, List.take_length], h.2⟩
theorem lcF_pure {α : Type} (g : α → Option D) : ∀ (qs : List α), (lcF (fun (_ : Unit) q => ((), g q)) () qs).2 = qs.filterMap g
  | [] => rfl
  | q :: qs => by
    show (g q).toList ++ _ = _
    rw [List.filterMap_cons]
    cases h : g q with
    | none => exact lcF_pure g qs
    | some y => exact congrArg (y :: ·) (lcF_pure g qs)
/-- a comprehension that changes nothing -/
theorem eo_lcM {elt tg iter : Expr} {ifs : List Expr} {scope : Scope} {α : Type} (qs : List α) (en : α → D) (g : α → Option D) (own : List (Str × Nat)) (hc : X.calm = true) (hN : X.N.Nodup)
    (hi : IX X T B ρ tg iter W ρ1 (qs.map en)) (ok : BlkOk X.N X.env.scope scope own) (hlen : qs.length ≤ sizeLine) (hno : noOwn ρ1 (own.map (·.2)) = true)
    (hb : ∀ q, q ∈ qs → ∀ B', ∃ ρb, owns ρb = owns ρ1 ∧ (∀ s H C cl fp, GX (Bk X scope s H C cl fp) T B' (wipeD ρ1 (own.map (·.2))) tg (own.map (·.2)) (en q) ρb) ∧ (∀ s H C cl fp, TXs (Bk X scope s H C cl fp) T B' ρb ifs (g q).isSome) ∧
      (∀ y, g q = some y → ∃ ρc, owns ρc = owns ρ1 ∧ (∀ s H C cl fp, EX (Bk X scope s H C cl fp) T B' ρb elt [] ρc y) ∧ Fg ρc (wipeD ρ1 (own.map (·.2)))) ∧ (g q = none → Fg ρb (wipeD ρ1 (own.map (·.2))))) (hs : ∀ x, foldedSetIterable iter X.env x = pure x := by intro _; rfl) :
    EO X T B ρ (.ListComp elt [⟨tg, iter, ifs, 0⟩] scope pos) W ρ1 (qs.filterMap g) := by
  have z := eo_lc (pos := pos) (Wc := []) (elt := elt) (ifs := ifs) (fun _ : Unit => ρ1) () (fun _ q => ((), g q)) en hc hN hi ok hlen (fun _ => Sh.refl _) hno (fun a h => by cases h) (fun s q hq => ⟨fun B' => by
    obtain ⟨ρb, h1, h2, h3, h4, h5⟩ := hb q hq B'
    refine ⟨ρb, h1, h2, h3, fun y hy => ?_, h5⟩
    obtain ⟨ρc, k1, k2, k3⟩ := h4 y hy
    exact ⟨[], ρc, (fun a h => by cases h), k1, k2, k3⟩⟩) hs
  rw [lcF_pure, List.append_nil] at z
  exact z
end
section
variable {X : Cx} {T : List Addr} {B' : Bs} {ρ1 ρw ρb ρc : Sl} {scope : Scope} {tg elt : Expr} {ifs : List Expr} {vs : List Nat} {dq y : D} {g : Option D}
/-- a turn that gives y -/
theorem tM (hg : g = some y) (h1 : ∀ s H C cl fp, GX (Bk X scope s H C cl fp) T B' ρw tg vs dq ρb) (h2 : ∀ s H C cl fp, TXs (Bk X scope s H C cl fp) T B' ρb ifs true) (h3 : ∀ s H C cl fp, EX (Bk X scope s H C cl fp) T B' ρb elt [] ρc y) (h4 : Fg ρc ρw)
    (o1 : owns ρb = owns ρ1 := by rfl) (o2 : owns ρc = owns ρ1 := by rfl) : ∃ ρb, owns ρb = owns ρ1 ∧ (∀ s H C cl fp, GX (Bk X scope s H C cl fp) T B' ρw tg vs dq ρb) ∧ (∀ s H C cl fp, TXs (Bk X scope s H C cl fp) T B' ρb ifs g.isSome) ∧
      (∀ y, g = some y → ∃ ρc, owns ρc = owns ρ1 ∧ (∀ s H C cl fp, EX (Bk X scope s H C cl fp) T B' ρb elt [] ρc y) ∧ Fg ρc ρw) ∧ (g = none → Fg ρb ρw) := by
  subst hg
  exact ⟨ρb, o1, h1, h2, fun z hz => by cases hz; exact ⟨ρc, o2, h3, h4⟩, fun z => by cases z⟩
/-- a turn that gives nothing -/
theorem tN (hg : g = none) (h1 : ∀ s H C cl fp, GX (Bk X scope s H C cl fp) T B' ρw tg vs dq ρb) (h2 : ∀ s H C cl fp, TXs (Bk X scope s H C cl fp) T B' ρb ifs false) (h4 : Fg ρb ρw)
    (o1 : owns ρb = owns ρ1 := by rfl) : ∃ ρb, owns ρb = owns ρ1 ∧ (∀ s H C cl fp, GX (Bk X scope s H C cl fp) T B' ρw tg vs dq ρb) ∧ (∀ s H C cl fp, TXs (Bk X scope s H C cl fp) T B' ρb ifs g.isSome) ∧
      (∀ y, g = some y → ∃ ρc, owns ρc = owns ρ1 ∧ (∀ s H C cl fp, EX (Bk X scope s H C cl fp) T B' ρb elt [] ρc y) ∧ Fg ρc ρw) ∧ (g = none → Fg ρb ρw) := by
  subst hg
  exact ⟨ρb, o1, h1, h2, (fun z hz => by cases hz), fun _ => h4⟩
end
/-- a block's names, by looking -/
def blkB (N : List Str) (sc scope : Scope) (own : List (Str × Nat)) : Bool :=
  (scope.names.all fun y => decide (scope.names.lookup y.1 = some y.2)) && ((own.all fun p => decide (N[p.2]? = some p.1)) &&
    ((scope.names.all fun y => !decide (y.2 = .free) || (decide (sc.names.lookup y.1 = some .cell) || decide (sc.names.lookup y.1 = some .free))) &&
      scope.names.all fun y => !(decide (y.2 = .local) || decide (y.2 = .cell)) || (decide (y.1 ∈ own.map (·.1)) || decide (y.1 ∉ N))))
theorem blk {N : List Str} {sc scope : Scope} {own : List (Str × Nat)} (hk : scope.kind = .function) (h : blkB N sc scope own = true) : BlkOk N sc scope own := by
  unfold blkB at h
  rw [Bool.and_eq_true, Bool.and_eq_true, Bool.and_eq_true, List.all_eq_true, List.all_eq_true, List.all_eq_true, List.all_eq_true] at h
  obtain ⟨h1, h2, h3, h4⟩ := h
  refine ⟨hk, fun y hy => of_decide_eq_true (h1 y hy), fun p hp => of_decide_eq_true (h2 p hp), fun y hy e => ?_, fun y hy e => ?_⟩
  · have z := h3 y hy
    rw [e] at z
    simpa using z
  · have z := h4 y hy
    have e' : (decide (y.2 = .local) || decide (y.2 = .cell)) = true := by simpa using e
    rw [e'] at z
    simpa using z
theorem Fg.u {ρ ρ' : Sl} {s : Slot} (h : Fg ρ ρ') : Fg (s :: ρ) (.un :: ρ') := .un h
theorem Fg.s {ρ ρ' : Sl} {s : Slot} (h : Fg ρ ρ') : Fg (s :: ρ) (s :: ρ') := .same h
theorem set_int (acc : List Int) (i : Int) : acc.map PyData.int ++ [.int i] = (acc ++ [i]).map .int := by rw [List.map_append]; rfl
/-- at most n whole numbers -/
def Nums (n : Nat) (ds : List D) : Prop := ∃ ns : List Int, ds = ns.map .int ∧ ns.length ≤ n
theorem back1 {l : Addr} {o : D} {ρ : Sl} {args : List D} (h : ρ[0]? = some (.own l o)) : Back (.own l o :: args.map .dat) ρ := fun i a o' e => by
  cases i with
  | zero => cases (Option.some.inj e); exact h
  | succ i =>
    have e : (args.map Slot.dat)[i]? = some (.own a o') := by simpa using e
    rw [List.getElem?_map] at e
    cases q : args[i]? with
    | none => rw [q] at e; cases e
    | some d => rw [q] at e; cases e
theorem back0 {ρ : Sl} {args : List D} : Back (args.map .dat) ρ := fun i a o' e => by
  rw [List.getElem?_map] at e
  cases q : args[i]? with
  | none => rw [q] at e; cases e
  | some d => rw [q] at e; cases e
end Dv

set_option maxRecDepth 100000
namespace Dv
open PySem PySem.Spec PyProof.Rows L2
theorem EX.w {X : Cx} {T : List Addr} {B : Bs} {ρ ρ1 : Sl} {W W' : List Addr} {e : Expr} {d : D} (h : EX X T B ρ e W ρ1 d) (q : W = W') : EX X T B ρ e W' ρ1 d := q ▸ h
theorem TX.w {X : Cx} {T : List Addr} {B : Bs} {ρ ρ1 : Sl} {W W' : List Addr} {e : Expr} {k : Bool} (h : TX X T B ρ e W ρ1 k) (q : W = W') : TX X T B ρ e W' ρ1 k := q ▸ h
theorem ex_ifS {X : Cx} {T : List Addr} {B : Bs} {ρ ρ1 : Sl} {W : List Addr} {c a b : Expr} {d : D} {k : Bool} {pos : Pos} (h : TX X T B ρ c W ρ1 k) (ha : k = true → EX X T B ρ1 a [] ρ1 d) (hb : k = false → EX X T B ρ1 b [] ρ1 d) : EX X T B ρ (.IfExp c a b pos) W ρ1 d :=
  EX.w (ex_ifE (W2 := []) (ρ2 := ρ1) h ha hb rfl sub_nil) (List.append_nil W)
/-- a turn by a test -/
theorem tI {X : Cx} {T : List Addr} {B' : Bs} {ρ1 ρw ρb ρc : Sl} {scope : Scope} {tg elt : Expr} {ifs : List Expr} {vs : List Nat} {dq y : D} {c : Bool} (h1 : ∀ s H C cl fp, GX (Bk X scope s H C cl fp) T B' ρw tg vs dq ρb) (h2 : ∀ s H C cl fp, TXs (Bk X scope s H C cl fp) T B' ρb ifs c)
    (h3 : c = true → ∀ s H C cl fp, EX (Bk X scope s H C cl fp) T B' ρb elt [] ρc y) (h4 : Fg ρc ρw) (h5 : Fg ρb ρw)
    (o1 : owns ρb = owns ρ1 := by rfl) (o2 : owns ρc = owns ρ1 := by rfl) : ∃ ρb, owns ρb = owns ρ1 ∧ (∀ s H C cl fp, GX (Bk X scope s H C cl fp) T B' ρw tg vs dq ρb) ∧ (∀ s H C cl fp, TXs (Bk X scope s H C cl fp) T B' ρb ifs (if c = true then some y else none).isSome) ∧
      (∀ z, (if c = true then some y else none) = some z → ∃ ρc, owns ρc = owns ρ1 ∧ (∀ s H C cl fp, EX (Bk X scope s H C cl fp) T B' ρb elt [] ρc z) ∧ Fg ρc ρw) ∧ ((if c = true then some y else none) = none → Fg ρb ρw) := by
  cases c with
  | true =>
    rw [if_pos rfl]
    exact tM rfl h1 h2 (h3 rfl) h4 o1 o2
  | false =>
    rw [if_neg Bool.false_ne_true]
    exact tN rfl h1 h2 h5 o1
/-- a turn that gives y and writes owned things -/
theorem tW {X : Cx} {T : List Addr} {B' : Bs} {ρ1 ρw ρw' ρb ρc : Sl} {W Wc : List Addr} {scope : Scope} {tg elt : Expr} {ifs : List Expr} {vs : List Nat} {dq y : D} (h1 : ∀ s H C cl fp, GX (Bk X scope s H C cl fp) T B' ρw tg vs dq ρb) (h2 : ∀ s H C cl fp, TXs (Bk X scope s H C cl fp) T B' ρb ifs true) (h3 : ∀ s H C cl fp, EX (Bk X scope s H C cl fp) T B' ρb elt W ρc y) (h4 : Fg ρc ρw') (hW : ∀ a ∈ W, a ∈ Wc)
    (o1 : owns ρb = owns ρ1 := by rfl) (o2 : owns ρc = owns ρ1 := by rfl) : ∃ ρb, owns ρb = owns ρ1 ∧ (∀ s H C cl fp, GX (Bk X scope s H C cl fp) T B' ρw tg vs dq ρb) ∧ (∀ s H C cl fp, TXs (Bk X scope s H C cl fp) T B' ρb ifs (some y).isSome) ∧
      (∀ z, some y = some z → ∃ W ρc, (∀ a ∈ W, a ∈ Wc) ∧ owns ρc = owns ρ1 ∧ (∀ s H C cl fp, EX (Bk X scope s H C cl fp) T B' ρb elt W ρc z) ∧ Fg ρc ρw') ∧ (some y = none → Fg ρb ρw') :=
  ⟨ρb, o1, h1, h2, fun z hz => by cases hz; exact ⟨W, ρc, hW, o2, h3, h4⟩, fun z => by cases z⟩
/-- a list against the empty one -/
def rEqE (n : Bool) (K : PySem.W.Frag) : L2.R2 := fun x y H Q => ∃ a b xs, x = .ref a ∧ y = .ref b ∧ SqL K H a xs ∧ SqL K H b [] ∧ Q (.bl (n ^^ xs.isEmpty)) H
section
variable {X : Cx}
theorem op_eqE (hu : X.A.units + 1 < cLine) : OpR X (compareOp .Eq) (rEqE false X.K) := by
  intro pins s σ H x y v u Q I rx ry h
  obtain ⟨a, b, xs, rfl, rfl, h1, h2, q⟩ := h
  cases rx
  cases ry
  obtain ⟨i1, r1, ⟨o1, n1, e1, c1, _, d1⟩, _⟩ := I.list h1
  obtain ⟨i2, r2, ⟨o2, n2, e2, c2, _, d2⟩, _⟩ := I.list h2
  have l1 := r1.length
  have l2 : i2 = [] := List.eq_nil_of_length_eq_zero (by rw [← r2.length]; rfl)
  subst l2
  cases xs with
  | nil =>
    have l3 : i1 = [] := List.eq_nil_of_length_eq_zero (by rw [← l1]; rfl)
    subst l3
    exact PySem.SeqAt.RcAt.lists (e := fun _ => true) ⟨o1, e1, c1, n1, d1⟩ ⟨o2, e2, c2, n2, d2⟩ rfl (by omega) (fun j h1 _ => absurd h1 (Nat.not_lt_zero _)) X.prog X.w X.xe _ ⟨.bl true, H, I, rfl, q⟩
  | cons x xs =>
    cases i1 with
    | nil => cases l1
    | cons z i1 => exact PySem.SeqAt.RcAt.lists_lengths ⟨o1, e1, c1, n1, d1⟩ ⟨o2, e2, c2, n2, d2⟩ (by simp) (by omega) X.prog X.w X.xe _ ⟨.bl false, H, I, rfl, q⟩
theorem op_neE (hu : X.A.units + 1 < cLine) : OpR X (compareOp .NotEq) (rEqE true X.K) := by
  intro pins s σ H x y v u Q I rx ry h
  obtain ⟨a, b, xs, rfl, rfl, h1, h2, q⟩ := h
  cases rx
  cases ry
  obtain ⟨i1, r1, ⟨o1, n1, e1, c1, _, d1⟩, _⟩ := I.list h1
  obtain ⟨i2, r2, ⟨o2, n2, e2, c2, _, d2⟩, _⟩ := I.list h2
  have l1 := r1.length
  have l2 : i2 = [] := List.eq_nil_of_length_eq_zero (by rw [← r2.length]; rfl)
  subst l2
  cases xs with
  | nil =>
    have l3 : i1 = [] := List.eq_nil_of_length_eq_zero (by rw [← l1]; rfl)
    subst l3
    exact PySem.SeqAt.RcNeAt.lists (e := fun _ => true) ⟨o1, e1, c1, n1, d1⟩ ⟨o2, e2, c2, n2, d2⟩ rfl (by omega) (fun j h1 _ => absurd h1 (Nat.not_lt_zero _)) X.prog X.w X.xe _ ⟨.bl false, H, I, rfl, q⟩
  | cons x xs =>
    cases i1 with
    | nil => cases l1
    | cons z i1 => exact PySem.SeqAt.RcNeAt.lists_lengths ⟨o1, e1, c1, n1, d1⟩ ⟨o2, e2, c2, n2, d2⟩ (by simp) (by omega) X.prog X.w X.xe _ ⟨.bl true, H, I, rfl, q⟩
variable {T : List Addr} {B : Bs} {ρ ρ1 : Sl} {W : List Addr} {a b : Expr} {pos : Pos} {ds : List D}
theorem rE {n : Bool} {x y : V} {H : Hp} {Q : VK} (r1 : Rp X.K H x (.list ds)) (r2 : Rp X.K H y (.list [])) (q : Q (.bl (n ^^ ds.isEmpty)) H) : rEqE n X.K x y H Q := by
  cases r1 with
  | lst h1 h2 =>
    cases r2 with
    | lst g1 g2 =>
      cases g2
      refine ⟨_, _, _, rfl, rfl, h1, g1, ?_⟩
      have : (List.isEmpty ds) = List.isEmpty ‹List V› := by cases h2 <;> rfl
      rw [← this]; exact q
theorem ex_eqE (hu : X.A.units + 1 < cLine) (h : R2 X T B ρ a b W ρ1 (.list ds) (.list [])) : EX X T B ρ (.Compare a [.Eq] [b] pos) W ρ1 (.bool ds.isEmpty) :=
  ex_cmp (op_eqE hu) h (nomark _) (fun x y H Q r1 r2 q => rE r1 r2 (by rw [Bool.false_xor]; exact q)) fun _ => .bl _
theorem ex_neE (hu : X.A.units + 1 < cLine) (h : R2 X T B ρ a b W ρ1 (.list ds) (.list [])) : EX X T B ρ (.Compare a [.NotEq] [b] pos) W ρ1 (.bool (!ds.isEmpty)) :=
  ex_cmp (op_neE hu) h (nomark _) (fun x y H Q r1 r2 q => rE r1 r2 (by rw [Bool.true_xor]; exact q)) fun _ => .bl _
theorem tx_eqE (hu : X.A.units + 1 < cLine) (h : R2 X T B ρ a b W ρ1 (.list ds) (.list [])) : TX X T B ρ (.Compare a [.Eq] [b] pos) W ρ1 ds.isEmpty :=
  tx_cmp (op_eqE hu) h (nomark _) (fun x y H Q r1 r2 q => rE r1 r2 (by rw [Bool.false_xor]; exact q))
theorem tx_neE (hu : X.A.units + 1 < cLine) (h : R2 X T B ρ a b W ρ1 (.list ds) (.list [])) : TX X T B ρ (.Compare a [.NotEq] [b] pos) W ρ1 (!ds.isEmpty) :=
  tx_cmp (op_neE hu) h (nomark _) (fun x y H Q r1 r2 q => rE r1 r2 (by rw [Bool.true_xor]; exact q))
end
end Dv

set_option maxRecDepth 100000
namespace K47
open PySem PySem.Spec PyProof.Rows L2 Dv
def topS (i : Nat) : Stmt := PySem.Challenge.pw_arraysaligned_k47_whole_places_that_neve.main.body.getD i (.Pass ⟨0, 0, 0, 0⟩)
abbrev sDraws : Stmt := topS 5
abbrev sTake : Stmt := topS 6
theorem scDraws : FnScope ["script", "draws", "spot", "number", "first", "k", "seed"] ["script"] (defScope sDraws) := ⟨rfl, rfl, rfl, by decide +kernel, rfl, by decide +kernel, by decide +kernel⟩
theorem scTake : FnScope ["draws", "bound"] ["draws", "bound"] (defScope sTake) := ⟨rfl, rfl, rfl, by decide +kernel, rfl, by decide +kernel, by decide +kernel⟩
/-- draws: the next one first -/
def enc (ns : List Int) : D := .list (ns.reverse.map .int)
def takeV : List Int → Int → Int
  | [], _ => 0
  | n :: _, b => n % b
def takeR : List Int → List Int
  | [] => []
  | _ :: r => r
def RTake : Sl → D → Sl → Prop := fun args d args' => ∃ l ns b, args = [.own l (enc ns), .dat (.int b)] ∧ 0 < b ∧ d = .int (takeV ns b) ∧ args' = [.own l (enc (takeR ns)), .dat (.int b)]
section
variable {P : Program} {w : World} {K : PySem.W.Frag} {mg : Str → Option Value} {base : Heap} {T : List Addr}
theorem ok_take {f : Addr} {fd : FuncData} {n : Nat} (F : Fun K "_law_take" "_law_take" sTake f fd) (ml : mg "len" = none) (mi : mg "int" = none) : FnOk P w K mg base CX0 (n + 1) f fd ["draws", "bound"] (PrD K T 2 RTake) := by
  refine fn_d F scTake RTake fun cdv A outer s H E B args d args' hr hl he sh hR => ?_
  obtain ⟨l, ns, b, rfl, hb, rfl, rfl⟩ := hR
  refine sx_ifR (tx_eqI (r2 (ex_lenL rfl ml (ol 0)) ex_int)) (fun h => ?_) (fun h => ?_)
  · have e : ns = [] := by
      have := of_decide_eq_true h
      simpa using this
    subst e
    exact sx_ret ex_int ⟨rfl, back1 (args := [_]) rfl⟩
  · cases ns with
    | nil => exact absurd h (by decide)
    | cons m r =>
      have e : enc (m :: r) = .list (r.reverse.map .int ++ [.int m]) := by unfold enc; rw [List.reverse_cons, List.map_append]; rfl
      rw [e]
      exact sx_ret (ex_mod (ex_intI rfl mi (pop 0 rfl)) (nm 1) hb) ⟨rfl, back1 (args := [_]) rfl⟩
/-- the names of _law_draws -/
def dsl (sc : List Int) (l : Addr) (p : List Int × Slot × Slot × Slot) : Sl := [.dat (.list (sc.map .int)), .own l (.list (p.1.map .int)), .un, p.2.1, p.2.2.1, .un, p.2.2.2]
theorem dsl_fg {sc : List Int} {l : Addr} {acc : List Int} {s2 s3 s4 s5 s6 t1 t2 t3 : Slot} (h3 : t1 = .un ∨ t1 = s3) (h4 : t2 = .un ∨ t2 = s4) (h6 : t3 = .un ∨ t3 = s6) :
    Fg [.dat (.list (sc.map .int)), .own l (.list (acc.map .int)), s2, s3, s4, s5, s6] (dsl sc l (acc, t1, t2, t3)) := by
  refine .same (.same (.un ?_))
  rcases h3 with rfl | rfl <;> rcases h4 with rfl | rfl <;> rcases h6 with rfl | rfl <;> first | exact .un (.un (.un (.un .nil))) | exact .un (.un (.un (.same .nil))) | exact .un (.same (.un (.un .nil))) | exact .un (.same (.un (.same .nil))) | exact .same (.un (.un (.un .nil))) | exact .same (.un (.un (.same .nil))) | exact .same (.same (.un (.un .nil))) | exact .same (.same (.un (.same .nil)))
theorem ok_draws {f : Addr} {fd : FuncData} {n : Nat} (F : Fun K "_law_draws" "_law_draws" sDraws f fd) (ml : mg "len" = none) (mi : mg "int" = none) (ma : mg "abs" = none) (mr : mg "range" = none) (mli : mg "list" = none) (mre : mg "reversed" = none) :
    FnOk P w K mg base CX0 (n + 1) f fd ["script"] (PrC K T 1 (fun ds => ∃ sc : List Int, ds = [.list (sc.map .int)] ∧ sc.length ≤ 63) (fun ds => ∃ ns : List Int, ds = ns.reverse.map .int)) := by
  refine fn_c F scDraws _ _ fun cdv A outer s H E B args hr hl he hR => ?_
  obtain ⟨sc, rfl, hsc⟩ := hR
  refine stO 1 scDraws.nd (eo_lst ax_nil (by decide)) fun l => ?_
  refine sx_forI [2] (dsl sc l) (fun i p => p.1.length ≤ 62 * i ∧ p.2 = (.un, .un, .un)) (fun p => p.1.length ≤ 3906 ∧ p.2 = (.un, .un, .un)) ([], .un, .un, .un) PassesOwn.never rfl (ix_l (nm 0)) (Fg.refl _) ⟨Nat.le_refl _, rfl⟩ (fun B' i p d hd hJ => ?_) (fun p h => ?_) (fun p hJ => ?_)
  · obtain ⟨acc, q⟩ := p
    obtain ⟨h1, rfl⟩ : acc.length ≤ 62 * i ∧ q = _ := hJ
    have hi : i < 63 := by
      have z := (List.getElem?_eq_some_iff.mp hd).1
      rw [List.length_map] at z; omega
    have hz : sizeLine = 16777216 := rfl
    rw [List.getElem?_map] at hd
    obtain ⟨m, hm⟩ : ∃ m : Int, d = .int m := by
      cases q : sc[i]? with
      | none => rw [q] at hd; cases hd
      | some m => rw [q] at hd; exact ⟨m, (Option.some.inj hd).symm⟩
    subst hm
    refine ⟨_, gn 2 scDraws.nd, ?_⟩
    refine st 3 scDraws.nd (ex_abs rfl ma (nm 2)) ?_
    refine sx_ifI (dsl sc l) (fun p => p.1.length ≤ acc.length + 2 ∧ ∃ z : Int, p.2 = (.dat (.int z), .un, .un)) (tx_lt (r2 (nm 3) (ex_pow ex_int ex_int ⟨by decide, by decide, by decide⟩))) (fun hlt => ?_) (fun hlt => ?_) (fun p hJ => ?_)
    · have hlt := of_decide_eq_true hlt
      refine st 4 scDraws.nd (ex_mod (ex_intI rfl mi (ex_add (ex_mul (nm 3) ex_int (.inr (by decide))) ex_int)) ex_int (by decide)) ?_
      refine sx_expr (app 1 rfl (ex_mod (ex_intI rfl mi (ex_add (ex_mul (nm 4) ex_int (.inr (by decide))) (nm 3))) ex_int (by decide)) rfl (by simp only [List.length_map]; omega)) ?_
      refine sx_expr (app 1 rfl (ex_mod (ex_intI rfl mi (ex_add (nm 4) (ex_fdiv (nm 3) ex_int ⟨by decide, by decide⟩))) ex_int (by decide)) rfl (by simp; omega)) ?_
      refine st 3 scDraws.nd ex_int (sx_nil ?_)
      rw [set_int, set_int]
      exact ⟨(_, _, _, _), ⟨by simp, _, rfl⟩, dsl_fg (.inr rfl) (.inl rfl) (.inl rfl)⟩
    · exact sx_nil ⟨(acc, _, _, _), ⟨by simp, _, rfl⟩, dsl_fg (.inr rfl) (.inl rfl) (.inl rfl)⟩
    · obtain ⟨acc1, q⟩ := p
      obtain ⟨h2, z, rfl⟩ : acc1.length ≤ acc.length + 2 ∧ ∃ z : Int, q = _ := hJ
      refine sx_forI [5] (dsl sc l) (fun i p => p.1.length ≤ acc1.length + i ∧ ∃ z : Int, p.2 = (.dat (.int z), .un, .un)) (fun p => p.1.length ≤ acc1.length + 60 ∧ ∃ z : Int, p.2 = (.dat (.int z), .un, .un)) (acc1, _, _, _) PassesOwn.never rfl (ix_r1 rfl mr ex_int (by decide)) (Fg.refl _) ⟨Nat.le_refl _, _, rfl⟩ (fun B' j p d hd hJ => ?_) (fun p h => ?_) (fun p hJ => ?_)
      · obtain ⟨acc2, q⟩ := p
        obtain ⟨h3, y, rfl⟩ : acc2.length ≤ acc1.length + j ∧ ∃ z : Int, q = _ := hJ
        have hj : j < 60 := (List.getElem?_eq_some_iff.mp hd).1
        refine ⟨_, gn 5 scDraws.nd, ?_⟩
        refine sx_ifI (dsl sc l) (fun p => p.1.length ≤ acc1.length + (j + 1) ∧ ∃ z : Int, p.2 = (.dat (.int z), .un, .un)) (tx_gt (r2 (nm 3) ex_int)) (fun hlt => ?_) (fun hlt => ?_) (fun p hJ => ?_)
        · refine sx_expr (app 1 rfl (ex_mod (ex_intI rfl mi (nm 3)) ex_int (by decide)) rfl (by simp only [List.length_map]; omega)) ?_
          refine st 3 scDraws.nd (ex_fdiv (nm 3) ex_int ⟨by decide, by decide⟩) (sx_nil ?_)
          rw [set_int]
          exact ⟨(_, _, _, _), ⟨by simp; omega, _, rfl⟩, dsl_fg (.inr rfl) (.inl rfl) (.inl rfl)⟩
        · exact sx_nil ⟨(acc2, _, _, _), ⟨by show acc2.length ≤ _; omega, _, rfl⟩, dsl_fg (.inr rfl) (.inl rfl) (.inl rfl)⟩
        · exact sx_nil ⟨p, hJ, Fg.refl _⟩
      · exact h
      · obtain ⟨acc2, q⟩ := p
        obtain ⟨h3, y, rfl⟩ : acc2.length ≤ acc1.length + 60 ∧ ∃ z : Int, q = _ := hJ
        exact sx_nil ⟨(acc2, .un, .un, .un), ⟨by show acc2.length ≤ _; omega, rfl⟩, dsl_fg (.inl rfl) (.inl rfl) (.inl rfl)⟩
  · refine ⟨Nat.le_trans h.1 ?_, h.2⟩
    rw [List.length_map]; omega
  · obtain ⟨acc, q⟩ := p
    obtain ⟨h1, rfl⟩ : acc.length ≤ 3906 ∧ q = _ := hJ
    refine st 6 scDraws.nd ex_int ?_
    refine sx_ifI (dsl sc l) (fun p => p.1 = acc ∧ ∃ z : Int, p.2 = (.un, .un, .dat (.int z))) (tx_gt (r2 (ex_lenL rfl ml (nm 0).l) ex_int)) (fun hlt => ?_) (fun hlt => ?_) (fun p hJ => ?_)
    · cases sc with
      | nil => exact absurd hlt (by decide)
      | cons m r =>
        refine st 6 scDraws.nd (ex_add ex_int (ex_abs rfl ma (ex_ixL (nm 0) ex_int atI_z (fun _ _ => rfl)))) (sx_nil ?_)
        exact ⟨(acc, _, _, _), ⟨rfl, _, rfl⟩, dsl_fg (.inl rfl) (.inl rfl) (.inr rfl)⟩
    · exact sx_nil ⟨(acc, _, _, _), ⟨rfl, _, rfl⟩, dsl_fg (.inl rfl) (.inl rfl) (.inr rfl)⟩
    · obtain ⟨acc1, q⟩ := p
      obtain ⟨rfl, z, rfl⟩ : acc1 = acc ∧ ∃ z : Int, q = _ := hJ
      have hz : sizeLine = 16777216 := rfl
      refine sx_forI [5] (dsl sc l) (fun i p => p.1.length ≤ acc1.length + i ∧ ∃ z : Int, p.2 = (.un, .un, .dat (.int z))) (fun p => True ∧ ∃ z : Int, p.2 = (.un, .un, .dat (.int z))) (acc1, _, _, _) PassesOwn.never rfl (ix_r1 rfl mr ex_int (by decide)) (Fg.refl _) ⟨Nat.le_refl _, _, rfl⟩ (fun B' j p d hd hJ => ?_) (fun p h => ⟨trivial, h.2⟩) (fun p hJ => ?_)
      · obtain ⟨acc2, q⟩ := p
        obtain ⟨h3, y, rfl⟩ : acc2.length ≤ acc1.length + j ∧ ∃ z : Int, q = _ := hJ
        have hj : j < 900 := by
          have z := (List.getElem?_eq_some_iff.mp hd).1
          rw [rng_length] at z; exact z
        refine ⟨_, gn 5 scDraws.nd, ?_⟩
        refine st 6 scDraws.nd (ex_mod (ex_intI rfl mi (ex_add (ex_mul (nm 6) ex_int (.inr (by decide))) ex_int)) ex_int (by decide)) ?_
        refine sx_expr (app 1 rfl (ex_fdiv (nm 6) ex_int ⟨by decide, by decide⟩) rfl (by simp only [List.length_map]; omega)) (sx_nil ?_)
        rw [set_int]
        exact ⟨(_, _, _, _), ⟨by simp; omega, _, rfl⟩, dsl_fg (.inl rfl) (.inl rfl) (.inr rfl)⟩
      · obtain ⟨acc2, q⟩ := p
        obtain ⟨_, y, rfl⟩ : True ∧ ∃ z : Int, q = _ := hJ
        exact sx_retF (eo_listRev rfl rfl mli rfl mre (ol 1)) ⟨acc2, by rw [List.map_reverse]⟩
end
end K47

set_option maxRecDepth 100000
namespace K47
open PySem PySem.Spec PyProof.Rows L2 Dv
abbrev sSpan : Stmt := topS 2
abbrev sNever : Stmt := topS 3
theorem scSpan : FnScope ["form", "bounds", "low", "high", "name", "factor", "far"] ["form", "bounds"] (defScope sSpan) := ⟨rfl, rfl, rfl, by decide +kernel, rfl, by decide +kernel, by decide +kernel⟩
theorem scNever : FnScope ["one", "other", "bounds", "first", "second", "common", "_", "factor", "apart", "low", "high", "least", "most"] ["one", "other", "bounds"] (defScope sNever) := ⟨rfl, rfl, rfl, by decide +kernel, rfl, by decide +kernel, by decide +kernel⟩
/-! ### what is told -/
abbrev Bd := List (Str × Int)
abbrev Fm := Int × List (Str × Int)
def pD (q : Str × Int) : D := .tuple [.str q.1, .int q.2]
def tD (t : Bd) : D := .tuple (t.map pD)
def fD (f : Fm) : D := .tuple [.int f.1, tD f.2]
def fsD (fs : List Fm) : D := .tuple (fs.map fD)
def dI (b : Bd) : List (Str × D) := b.map fun q => (q.1, .int q.2)
def bD (b : Bd) : D := .dict (kvD (dI b))
def bv (b : Bd) (x : Str) : Int := match b.find? (fun q => decide (q.1 = x)) with
  | some q => q.2
  | none => 0
theorem look {b : Bd} {x : Str} (h : x ∈ b.map (·.1)) : lookD (dI b) x = some (.int (bv b x)) := by
  induction b with
  | nil => cases h
  | cons q r ih =>
    unfold lookD dI bv
    rw [List.map_cons, List.find?_cons, List.find?_cons]
    by_cases e : q.1 = x
    · simp only [e, decide_true]; rfl
    · have h' : x ∈ r.map (·.1) := by
        rcases List.mem_cons.mp h with z | z
        · exact absurd z.symm e
        · exact z
      simp only [e, decide_false]
      exact ih h'
/-- the form's names have bounds, its factors are small -/
def fok (b : Bd) (f : Fm) : Prop := f.2.length ≤ 1000 ∧ ∀ q ∈ f.2, q.1 ∈ b.map (·.1) ∧ -(2 ^ 64) < q.2 ∧ q.2 < 2 ^ 64
def spanS (b : Bd) (s : Int × Int) (q : Str × Int) : Int × Int := (s.1 + min 0 (q.2 * (bv b q.1 - 1)), s.2 + max 0 (q.2 * (bv b q.1 - 1)))
def span (b : Bd) (f : Fm) : Int × Int := f.2.foldl (spanS b) (f.1, f.1)
theorem len2 (a b : D) : [a, b].length ≤ sizeLine := by show 2 ≤ 2 ^ 24; decide
def RSpan : Sl → D → Sl → Prop := fun args d args' => ∃ f b, args = [.dat (fD f), .dat (bD b)] ∧ fok b f ∧ d = .tuple [.int (span b f).1, .int (span b f).2] ∧ args' = args
section
variable {P : Program} {w : World} {K : PySem.W.Frag} {mg : Str → Option Value} {base : Heap} {T : List Addr}
theorem ok_span {f : Addr} {fd : FuncData} {n : Nat} (F : Fun K "span_of" "span_of" sSpan f fd) (mi : mg "min" = none) (ma : mg "max" = none) : FnOk P w K mg base CX0 (n + 1) f fd ["form", "bounds"] (PrD K T 2 RSpan) := by
  refine fn_d F scSpan RSpan fun cdv A outer s H E B args d args' hr hl he sh hR => ?_
  obtain ⟨f, b, rfl, hf, rfl, rfl⟩ := hR
  refine pr2 2 3 rfl scSpan.nd (ex_ixT (nm 0) ex_int rfl (fun _ _ => rfl)) (ex_ixT (nm 0) ex_int rfl (fun _ _ => rfl)) ?_
  refine sx_forM f.2 pD [4, 5] (fun s : Int × Int => [.dat (fD f), .dat (bD b), .dat (.int s.1), .dat (.int s.2), .un, .un, .un]) (f.1, f.1) (spanS b) (fun _ _ => True) PassesOwn.never rfl (ix_t (ex_ixT (nm 0) ex_int rfl (fun _ _ => rfl))) (Fg.refl _) trivial (fun B' i s q hq _ => ⟨trivial, ?_⟩) (fun _ => ?_)
  · have hq' := hf.2 q (List.mem_of_getElem? hq)
    refine ⟨_, gx_tup rfl (gxs_cons (gn 4 scSpan.nd) (gxs_cons (gn 5 scSpan.nd) gxs_nil sub_set) sub_set) rfl, ?_⟩
    refine st 6 scSpan.nd (ex_mul (nm 5) (ex_sub (ex_dgetS (hu_of hr) (nm 1) (nm 4) (look hq'.1)) ex_int) (.inl hq'.2)) ?_
    refine pr2 2 3 rfl scSpan.nd (ex_add (nm 2) (ex_min2 rfl rfl mi ex_int (nm 6))) (ex_add (nm 3) (ex_max2 rfl rfl ma ex_int (nm 6))) (sx_nil ?_)
    exact .same (.same (.same (.same (.un (.un (.un .nil))))))
  · exact sx_ret (ex_tup (ax_cons (nm 2) (ax_cons (nm 3) ax_nil)) (len2 _ _)) ⟨rfl, back0 (args := [_, _])⟩
/-! ### never_meet -/
def gcdS (c : Int) (q : Str × Int) : Int := ((Nat.gcd c.natAbs q.2.natAbs : Nat) : Int)
def comm (f g : Fm) : Int := (f.2 ++ g.2).foldl gcdS 0
def apartT (f g : Fm) : Bool := !decide (f.1 - g.1 = 0) && (decide (comm f g = 0) || !decide ((f.1 - g.1) % comm f g = 0))
def clash (b : Bd) (f g : Fm) : Bool := apartT f g || (decide ((span b f).2 < (span b g).1) || decide ((span b g).2 < (span b f).1))
def nmV (one other : List Fm) (b : Bd) : Bool := b.any (fun q => decide (q.2 = 0)) || (one.zip other).any fun p => clash b p.1 p.2
def RNever : Sl → D → Sl → Prop := fun args d args' => ∃ one other b, args = [.dat (fsD one), .dat (fsD other), .dat (bD b)] ∧ (∀ f ∈ one, fok b f) ∧ (∀ f ∈ other, fok b f) ∧ d = .bool (nmV one other b) ∧ args' = args
theorem gcd_nn (l : List (Str × Int)) (c : Int) (h : 0 ≤ c) : 0 ≤ l.foldl gcdS c := by
  induction l generalizing c with
  | nil => exact h
  | cons q r ih => exact ih _ (Int.natCast_nonneg _)
theorem zip_fs : ∀ (one other : List Fm), zipD (one.map fD) (other.map fD) = (one.zip other).map fun p => .tuple [fD p.1, fD p.2]
  | [], _ => by cases ‹List Fm› <;> rfl
  | _ :: _, [] => rfl
  | a :: r, b :: s => by
    show PyData.tuple [fD a, fD b] :: zipD (r.map fD) (s.map fD) = _
    rw [zip_fs r s]; rfl
theorem ok_never {f fs : Addr} {fd fds : FuncData} {n : Nat} {c P' : Addr} (F : FunC K "never_meet" "never_meet" sNever f fd (.ref c)) (TB : GxR.TabB base mg c P') (hP : P' ∈ T)
    (Fs : FnOk P w K mg base CX0 (n + 1) fs fds ["form", "bounds"] (PrD K T 2 RSpan)) (ms : mg "span_of" = some (.ref fs)) (ks : PySem.W.keepIn K (.ref fs) = true) (bs : Binds K fds ["form", "bounds"] [])
    (mz : mg "zip" = none) (mg' : mg "gcd" = some (.builtin "math.gcd")) (many : mg "any" = none) : FnOk P w K mg base CX0 (n + 2) f fd ["one", "other", "bounds"] (PrD K T 3 RNever) := by
  refine fn_dC F scNever RNever fun A outer s H E B args d args' hr hl he sh hR => ?_
  obtain ⟨one, other, b, rfl, h1, h2, rfl, rfl⟩ := hR
  refine sx_ifR (tx_val (ex_anyVals (kvs := b) hr rfl many TB rfl hP ⟨rfl, rfl, by decide +kernel, rfl, rfl, fun y hy e => absurd e (by revert y; decide +kernel)⟩ (nm 2)) (fun _ => rfl)) (fun hz => ?_) (fun hz => ?_)
  · refine sx_ret ex_bl ⟨?_, back0 (args := [_, _, _])⟩
    unfold nmV; rw [hz]; rfl
  · refine sx_forI [3, 4] (fun _ : Unit => [.dat (fsD one), .dat (fsD other), .dat (bD b), .un, .un, .un, .un, .un, .un, .un, .un, .un, .un]) (fun i _ => ((one.zip other).take i).any (fun p => clash b p.1 p.2) = false) (fun _ => (one.zip other).any (fun p => clash b p.1 p.2) = false) () PassesOwn.never rfl (ix_zipT rfl mz (nm 0) (nm 1)) (Fg.refl _) rfl (fun B' i s d hd hJ => ?_) (fun s hJ => ?_) (fun s hJ => ?_)
    · have hd : (zipD (one.map fD) (other.map fD))[i]? = some d := hd
      rw [zip_fs, List.getElem?_map] at hd
      cases hq : (one.zip other)[i]? with
      | none => rw [hq] at hd; cases hd
      | some q =>
        rw [hq] at hd
        cases (Option.some.inj hd)
        obtain ⟨f, g⟩ := q
        have hm := List.of_mem_zip (List.mem_of_getElem? hq)
        have hf := h1 f hm.1
        have hg := h2 g hm.2
        have hmem : (f, g) ∈ one.zip other := List.mem_of_getElem? hq
        have hret : clash b f g = true → nmV one other b = true := fun z => by
          unfold nmV
          rw [List.any_eq_true.mpr ⟨(f, g), hmem, z⟩, Bool.or_true]
        refine ⟨_, gx_tup rfl (gxs_cons (gn 3 scNever.nd) (gxs_cons (gn 4 scNever.nd) gxs_nil sub_set) sub_set) rfl, ?_⟩
        refine st 5 scNever.nd ex_int ?_
        refine sx_forM (f.2 ++ g.2) pD [6, 7] (fun c : Int => [.dat (fsD one), .dat (fsD other), .dat (bD b), .dat (fD f), .dat (fD g), .dat (.int c), .un, .un, .un, .un, .un, .un, .un]) 0 gcdS (fun _ _ => True) PassesOwn.never rfl
          (ix_t (EX.to (ex_tup (ax_star (ex_ixT (nm 3) ex_int rfl (fun _ _ => rfl)) (.inl rfl) (ax_star (ex_ixT (nm 4) ex_int rfl (fun _ _ => rfl)) (.inl rfl) ax_nil)) ?_) ?_)) (Fg.refl _) trivial (fun B' i s q hq _ => ⟨trivial, ?_⟩) (fun _ => ?_)
        · show (f.2.map pD ++ (g.2.map pD ++ [])).length ≤ 2 ^ 24
          have z1 := hf.1
          have z2 := hg.1
          simp only [List.length_append, List.length_map, List.length_nil]
          omega
        · rw [List.map_append, List.append_nil]
        · refine ⟨_, gx_tup rfl (gxs_cons (gn 6 scNever.nd) (gxs_cons (gn 7 scNever.nd) gxs_nil sub_set) sub_set) rfl, ?_⟩
          refine st 5 scNever.nd (ex_gcd rfl mg' (nm 5) (nm 7)) (sx_nil ?_)
          exact .same (.same (.same (.same (.same (.same (.un (.un (.un (.un (.un (.un (.un .nil))))))))))))
        · refine st 8 scNever.nd (ex_sub (ex_ixT (nm 3) ex_int rfl (fun _ _ => rfl)) (ex_ixT (nm 4) ex_int rfl (fun _ _ => rfl))) ?_
          have hnn : 0 ≤ comm f g := gcd_nn _ 0 (by decide)
          refine sx_ifR (kb := apartT f g) (wx_and (tx_neI (r2 (nm 8) ex_int)) (fun h => wx_and1 (wx_or (tx_eqI (r2 (nm 5) ex_int)) (fun h => wx_or1 (tx_neI (r2 (ex_mod (nm 8) (nm 5) ?_) ex_int)))).t)).t (fun h => ?_) (fun h => ?_)
          · have := of_decide_eq_false h
            show 0 < comm f g
            have z : comm f g ≠ 0 := this
            omega
          · refine sx_ret ex_bl ⟨?_, back0 (args := [_, _, _])⟩
            rw [hret (by unfold clash; rw [h]; rfl)]
          · refine sx_asg (ex_tup (ax_cons (ex_call Fs hr rfl ms ks bs (ax_cons (nm 3) (ax_cons (nm 2) ax_nil)) rfl ⟨f, b, rfl, hf, rfl, rfl⟩) (ax_cons (ex_call Fs hr rfl ms ks bs (ax_cons (nm 4) (ax_cons (nm 2) ax_nil)) rfl ⟨g, b, rfl, hg, rfl, rfl⟩) ax_nil)) (len2 _ _)) (gx_tup (vs := [9, 10, 11, 12]) rfl (gxs_cons (gx_tup rfl (gxs_cons (gn 9 scNever.nd) (gxs_cons (gn 10 scNever.nd) gxs_nil sub_set) sub_set) rfl) (gxs_cons (gx_tup rfl (gxs_cons (gn 11 scNever.nd) (gxs_cons (gn 12 scNever.nd) gxs_nil sub_set) sub_set) rfl) gxs_nil (fun a h => sub_set a (sub_set a h))) (fun a h => sub_set a (sub_set a h))) rfl) ?_
            refine sx_ifR (kb := decide ((span b f).2 < (span b g).1) || decide ((span b g).2 < (span b f).1)) (wx_or (tx_lt (r2 (nm 10) (nm 11))) (fun h => wx_or1 (tx_lt (r2 (nm 12) (nm 9))))).t (fun h2 => ?_) (fun h2 => ?_)
            · refine sx_ret ex_bl ⟨?_, back0 (args := [_, _, _])⟩
              rw [hret (by unfold clash; rw [h2, Bool.or_true])]
            · refine sx_nil ⟨(), ?_, .same (.same (.same (.un (.un (.un (.un (.un (.un (.un (.un (.un (.un .nil))))))))))))⟩
              rw [List.take_add_one, hq, List.any_append, hJ]
              show (false || (clash b f g || false)) = false
              unfold clash
              rw [h, h2]; rfl
    · rw [show ((one.zip other).take _) = one.zip other from List.take_of_length_le (by rw [zip_fs, List.length_map]; exact Nat.le_refl _)] at hJ
      exact hJ
    · refine sx_ret ex_bl ⟨?_, back0 (args := [_, _, _])⟩
      unfold nmV; rw [hz, hJ]; rfl
end
end K47

set_option maxRecDepth 100000
namespace K47
open PySem PySem.Spec PyProof.Rows L2 Dv
abbrev sAt : Stmt := topS 7
abbrev sRow : Stmt := topS 8
theorem scAt : FnScope ["form", "known", "name", "factor"] ["form", "known"] (defScope sAt) := ⟨rfl, rfl, rfl, by decide +kernel, rfl, by decide +kernel, by decide +kernel⟩
theorem scRow : FnScope ["forms", "known", "form"] ["forms", "known"] (defScope sRow) := ⟨rfl, rfl, rfl, by decide +kernel, rfl, by decide +kernel, by decide +kernel⟩
def atV (k : Bd) (f : Fm) : Int := f.1 + (f.2.map fun q => q.2 * bv k q.1).sum
def RAt : Sl → D → Sl → Prop := fun args d args' => ∃ f k, args = [.dat (fD f), .dat (bD k)] ∧ fok k f ∧ d = .int (atV k f) ∧ args' = args
def rowD (fs : List Fm) (k : Bd) : D := .tuple ((fs.map fun f => atV k f).map .int)
def RRow : Sl → D → Sl → Prop := fun args d args' => ∃ fs k, args = [.dat (fsD fs), .dat (bD k)] ∧ fs.length ≤ 1000 ∧ (∀ f ∈ fs, fok k f) ∧ d = rowD fs k ∧ args' = args
theorem fm_some {α β : Type} (g : α → β) (l : List α) : l.filterMap (fun q => some (g q)) = l.map g := by
  induction l with
  | nil => rfl
  | cons a r ih => rw [List.filterMap_cons, ih]; rfl
section
variable {P : Program} {w : World} {K : PySem.W.Frag} {mg : Str → Option Value} {base : Heap} {T : List Addr}
theorem ok_at {f : Addr} {fd : FuncData} {n : Nat} (F : Fun K "_law_at" "_law_at" sAt f fd) (ms : mg "sum" = none) : FnOk P w K mg base CX0 (n + 1) f fd ["form", "known"] (PrD K T 2 RAt) := by
  refine fn_d F scAt RAt fun cdv A outer s H E B args d args' hr hl he sh hR => ?_
  obtain ⟨f, k, rfl, hf, rfl, rfl⟩ := hR
  have hlen : f.2.length ≤ sizeLine := Nat.le_trans hf.1 (by decide)
  refine sx_ret (ex_add (ex_ixT (nm 0) ex_int rfl (fun _ _ => rfl)) (ex_sum (ns := f.2.map fun q => q.2 * bv k q.1) rfl rfl ms (EX.l (EX.to (eo_lcM f.2 pD (fun q => some (.int (q.2 * bv k q.1))) [("name", 2), ("factor", 3)] rfl scAt.nd (ix_t (ex_ixT (nm 0) ex_int rfl (fun _ _ => rfl))) (blk rfl (by rfl)) hlen rfl (fun q hq B' => ?_)).ex ?_)))) ⟨rfl, back0 (args := [_, _])⟩
  · have hq' := hf.2 q hq
    exact tM rfl (fun s H C cl fp => gx_tup rfl (gxs_cons (gn 2 scAt.nd) (gxs_cons (gn 3 scAt.nd) gxs_nil sub_set) sub_set) rfl) (fun s H C cl fp => txs_nil)
      (fun s H C cl fp => ex_mul (nm 3) (ex_dgetS (hu_of hr) (nm 1) (nm 2) (look hq'.1)) (.inl hq'.2)) (.same (.same (.un (.un .nil))))
  · rw [fm_some, List.map_map]; rfl
theorem ok_row {f fa : Addr} {fd fda : FuncData} {n : Nat} (F : Fun K "_law_row" "_law_row" sRow f fd) (mt : mg "tuple" = none)
    (Fa : FnOk P w K mg base CX0 (n + 1) fa fda ["form", "known"] (PrD K T 2 RAt)) (ma : mg "_law_at" = some (.ref fa)) (ka : PySem.W.keepIn K (.ref fa) = true) (ba : Binds K fda ["form", "known"] []) :
    FnOk P w K mg base CX0 (n + 2) f fd ["forms", "known"] (PrD K T 2 RRow) := by
  refine fn_d F scRow RRow fun cdv A outer s H E B args d args' hr hl he sh hR => ?_
  obtain ⟨fs, k, rfl, hlf, hf, rfl, rfl⟩ := hR
  have hlen : fs.length ≤ sizeLine := Nat.le_trans hlf (by decide)
  refine sx_ret (EX.to (ex_tupleL rfl mt (eo_lcM fs fD (fun q => some (.int (atV k q))) [("form", 2)] rfl scRow.nd (ix_t (nm 0)) (blk rfl (by rfl)) hlen rfl (fun q hq B' => ?_)).ex.l) ?_) ⟨rfl, back0 (args := [_, _])⟩
  · exact tM rfl (fun s H C cl fp => gn 2 scRow.nd) (fun s H C cl fp => txs_nil)
      (fun s H C cl fp => ex_call Fa hr rfl ma ka ba (ax_cons (nm 2) (ax_cons (nm 1) ax_nil)) rfl ⟨q, k, rfl, hf q hq, rfl, rfl⟩) (.same (.same (.un .nil)))
  · rw [fm_some]; unfold rowD; rw [List.map_map]; rfl
end
abbrev sForms : Stmt := topS 9
theorem scForms : FnScope ["draws", "names", "many", "found", "k", "terms", "name", "factor"] ["draws", "names", "many"] (defScope sForms) := ⟨rfl, rfl, rfl, by decide +kernel, rfl, by decide +kernel, by decide +kernel⟩
def termS (s : Bd × List Int) (x : Str) : Bd × List Int :=
  (if takeV (takeR s.2) 2 = 0 ∧ takeV s.2 9 - 4 ≠ 0 then s.1 ++ [(x, takeV s.2 9 - 4)] else s.1, takeR (takeR s.2))
def termsV (names : List Str) (ns : List Int) : Bd × List Int := names.foldl termS ([], ns)
def formS (names : List Str) (s : List Fm × List Int) (_ : Nat) : List Fm × List Int := (s.1 ++ [(takeV (termsV names s.2).2 21 - 8, (termsV names s.2).1)], takeR (termsV names s.2).2)
def formsV (names : List Str) (n : Nat) (ns : List Int) : List Fm × List Int := (List.range n).foldl (formS names) ([], ns)
theorem termS_len (s : Bd × List Int) (x : Str) : (termS s x).1.length ≤ s.1.length + 1 := by
  unfold termS
  split
  · simp
  · simp
theorem terms_len (names : List Str) (s : Bd × List Int) : (names.foldl termS s).1.length ≤ s.1.length + names.length := by
  induction names generalizing s with
  | nil => exact Nat.le_refl _
  | cons x r ih =>
    have h1 := ih (termS s x)
    have h2 := termS_len s x
    rw [List.foldl_cons, List.length_cons]
    omega
def RForms : Sl → D → Sl → Prop := fun args d args' => ∃ l ns names n, args = [.own l (enc ns), .dat (.list (names.map .str)), .dat (.int (n : Nat))] ∧ names.length ≤ 10 ∧ n ≤ 10 ∧ d = fsD (formsV names n ns).1 ∧ args' = [.own l (enc (formsV names n ns).2), .dat (.list (names.map .str)), .dat (.int (n : Nat))]
section
variable {P : Program} {w : World} {K : PySem.W.Frag} {mg : Str → Option Value} {base : Heap} {T : List Addr}
/-- what _law_take's promise gives at a call -/
structure Tk (P : Program) (w : World) (K : PySem.W.Frag) (mg : Str → Option Value) (base : Heap) (T : List Addr) (n : Nat) (ft : Addr) (fdt : FuncData) : Prop where
  ok : FnOk P w K mg base CX0 n ft fdt ["draws", "bound"] (PrD K T 2 RTake)
  mg : mg "_law_take" = some (.ref ft)
  kp : PySem.W.keepIn K (.ref ft) = true
  bs : Binds K fdt ["draws", "bound"] []
theorem tk {X : Cx} {n : Nat} {ft : Addr} {fdt : FuncData} {B : Bs} {ρ : Sl} {l : Addr} {ns : List Int} {b : Int} {px pc pos p : Pos} {j} (i : Nat) (t : Tk X.prog X.w X.K X.mg X.base T n ft fdt) (hr : Room n X.A) (hb : 0 < b) (h0 : ρ[i]? = some (.own l (enc ns)) := by rfl) (hg : Gl X "_law_take" := by rfl) (hN : X.N[i]? = some ("draws" : Str) := by rfl) (hv : Vis X.env.scope "draws" := by first | exact Or.inl rfl | exact Or.inr (Or.inl rfl) | exact Or.inr (Or.inr rfl))
    (he : starEach [.Name "draws" px, .Constant (.int b) j pc] X.env = (false, eval (.Name "draws" px) X.env) :: starEach [.Constant (.int b) j pc] X.env := by rfl) (hpl : (backTo pos (starEach [.Constant (.int b) j pc] X.env)).any (·.1) = false := by rfl) (he2 : starEach [.Constant (.int b) j pc] X.env = (false, eval (.Constant (.int b) j pc) X.env) :: starEach [] X.env := by rfl) :
    EX X T B ρ (.Call (.Name "_law_take" p) [.Name "draws" px, .Constant (.int b) j pc] [] pos) [l] (ρ.set i (.own l (enc (takeR ns)))) (.int (takeV ns b)) :=
  ex_callO t.ok hr hg t.mg t.kp t.bs hN hv h0 (ax_cons ex_int ax_nil he2) h0 rfl ⟨l, ns, b, rfl, hb, rfl, rfl⟩ (by decide) (by decide) (by decide) he hpl
theorem ok_forms {f ft : Addr} {fd fdt : FuncData} {n : Nat} (F : Fun K "_law_forms" "_law_forms" sForms f fd) (t : Tk P w K mg base T (n + 1) ft fdt) (mt : mg "tuple" = none) (mr : mg "range" = none) :
    FnOk P w K mg base CX0 (n + 2) f fd ["draws", "names", "many"] (PrD K T 3 RForms) := by
  refine fn_d F scForms RForms fun cdv A outer s H E B args d args' hr hl he sh hR => ?_
  obtain ⟨l, ns, names, m, rfl, hnl, hm, rfl, rfl⟩ := hR
  have hz : sizeLine = 16777216 := rfl
  refine stO 3 scForms.nd (eo_lst ax_nil (by decide)) fun lf => ?_
  refine sx_forM (List.range m) iD [4] (fun s : List Fm × List Int => [.own l (enc s.2), .dat (.list (names.map .str)), .dat (.int (m : Nat)), .own lf (.list (s.1.map fD)), .un, .un, .un, .un]) ([], ns) (formS names) (fun i s => s.1.length ≤ i) PassesOwn.never rfl
    (ix_n rfl mr (nm 2) (by omega)) (Fg.refl _) (Nat.le_refl _) (fun B' i s q hq hJ => ⟨?_, ?_⟩) (fun _ => ?_)
  · show (s.1 ++ [_]).length ≤ i + 1
    rw [List.length_append]; simp; omega
  · have hi : i < m := by
      have z := (List.getElem?_eq_some_iff.mp hq).1
      rw [List.length_range] at z; exact z
    refine ⟨_, gn 4 scForms.nd, ?_⟩
    refine stO 5 scForms.nd (eo_lst ax_nil (by decide)) fun lt => ?_
    refine sx_forM names .str [6] (fun u : Bd × List Int => [.own l (enc u.2), .dat (.list (names.map .str)), .dat (.int (m : Nat)), .own lf (.list (s.1.map fD)), .un, .own lt (.list (u.1.map pD)), .un, .un]) ([], s.2) termS (fun i s => s.1.length ≤ i) PassesOwn.never rfl
      (ix_l (nm 1)) (.same (.same (.same (.same (.un (.same (.un (.un .nil)))))))) (Nat.le_refl _) (fun B' j u x hx hJ2 => ⟨?_, ?_⟩) (fun hJ2 => ?_)
    · have := termS_len u x
      omega
    · refine ⟨_, gn 6 scForms.nd, ?_⟩
      refine st 7 scForms.nd (ex_sub (tk 0 t hr (by decide)) ex_int) ?_
      refine sx_ifF (wx_and (tx_eqI (r2 (tk 0 t hr (by decide)) ex_int)) (fun h => wx_and1 (tx_neI (r2 (nm 7) ex_int)))).t (fun h => ?_) (fun h => ?_) (sx_nil (Fg.refl _))
      · have hc : takeV (takeR u.2) 2 = 0 ∧ takeV u.2 9 - 4 ≠ 0 := by simpa using h
        have e : termS u x = (u.1 ++ [(x, takeV u.2 9 - 4)], takeR (takeR u.2)) := by unfold termS; rw [if_pos hc]
        have hj : j < names.length := (List.getElem?_eq_some_iff.mp hx).1
        refine sx_expr (app 5 rfl (ex_tup (ax_cons (nm 6) (ax_cons (nm 7) ax_nil)) (len2 _ _)) rfl (by rw [List.length_map]; omega)) (sx_nil ?_)
        rw [e]
        simp only [List.map_append]
        exact .same (.same (.same (.same (.same (.same (.un (.un .nil)))))))
      · have hc : ¬ (takeV (takeR u.2) 2 = 0 ∧ takeV u.2 9 - 4 ≠ 0) := fun z => by
          have : (decide (takeV (takeR u.2) 2 = 0) && !decide (takeV u.2 9 - 4 = 0)) = true := by simpa using z
          rw [h] at this; cases this
        have e : termS u x = (u.1, takeR (takeR u.2)) := by unfold termS; rw [if_neg hc]
        rw [e]
        exact sx_nil (.same (.same (.same (.same (.same (.same (.un (.un .nil))))))))
    · refine sx_expr (app 3 rfl (ex_tup (ax_cons (ex_sub (tk 0 t hr (by decide)) ex_int) (ax_cons (ex_tupleL rfl mt (ol 5)) ax_nil)) (len2 _ _)) rfl (by rw [List.length_map]; omega)) (sx_nil ?_)
      unfold formS
      simp only [List.map_append]
      exact .same (.same (.same (.same (.un (.un (.un (.un .nil)))))))
  · exact sx_ret (ex_tupleL rfl mt (ol 3)) ⟨rfl, back1 (args := [_, _]) rfl⟩
end
end K47

set_option maxRecDepth 100000
namespace K47
open PySem PySem.Spec PyProof.Rows L2 Dv
abbrev sEvery : Stmt := topS 10
abbrev sFactors : Stmt := topS 11
abbrev sDivisor : Stmt := topS 12
theorem scEvery : FnScope ["bounds", "found", "name", "later", "row", "k"] ["bounds"] (defScope sEvery) := ⟨rfl, rfl, rfl, by decide +kernel, rfl, by decide +kernel, by decide +kernel⟩
theorem scFactors : FnScope ["forms", "found", "number", "terms", "name", "factor"] ["forms"] (defScope sFactors) := ⟨rfl, rfl, rfl, by decide +kernel, rfl, by decide +kernel, by decide +kernel⟩
theorem scDivisor : FnScope ["forms", "factors", "k", "one"] ["forms"] (defScope sDivisor) := ⟨rfl, rfl, rfl, by decide +kernel, rfl, by decide +kernel, by decide +kernel⟩
/-- the rows with one name more -/
def more (b : Bd) (x : Str) (row : Bd) : List Bd := (List.range (bv b x).toNat).map fun k : Nat => row ++ [(x, (k : Int))]
def everyS (b : Bd) (found : List Bd) (x : Str) : List Bd := found.foldl (fun acc row => acc ++ more b x row) []
def everyV (b : Bd) : List Bd := (b.map (·.1)).foldl (everyS b) [[]]
/-- names sorted, few, apart; bounds small -/
structure BOk (b : Bd) : Prop where
  few : b.length ≤ 3
  nd : (b.map (·.1)).Nodup
  srt : ∀ zs : List Str, zs.Perm (b.map (·.1)) → sortedS zs = true → zs = b.map (·.1)
  rng : ∀ q ∈ b, 0 ≤ q.2 ∧ q.2 ≤ 5
theorem bv_mem {b : Bd} {x : Str} (h : x ∈ b.map (·.1)) : ∃ q ∈ b, q.1 = x ∧ bv b x = q.2 := by
  induction b with
  | nil => cases h
  | cons q r ih =>
    by_cases e : q.1 = x
    · refine ⟨q, List.mem_cons_self, e, ?_⟩
      unfold bv
      rw [List.find?_cons]
      simp [e]
    · have h' : x ∈ r.map (·.1) := by
        rcases List.mem_cons.mp h with z | z
        · exact absurd z.symm e
        · exact z
      obtain ⟨p, h1, h2, h3⟩ := ih h'
      refine ⟨p, List.mem_cons_of_mem _ h1, h2, ?_⟩
      rw [← h3]
      unfold bv
      rw [List.find?_cons]
      simp [e]
theorem bv_rng {b : Bd} (h : BOk b) {x : Str} (hx : x ∈ b.map (·.1)) : 0 ≤ bv b x ∧ bv b x ≤ 5 := by
  obtain ⟨q, h1, _, h3⟩ := bv_mem hx
  rw [h3]; exact h.rng q h1
theorem more_len {b : Bd} {x : Str} {row : Bd} (h : bv b x ≤ 5) : (more b x row).length ≤ 5 := by
  unfold more
  rw [List.length_map, List.length_range]
  omega
theorem every_len {b : Bd} {x : Str} (h : bv b x ≤ 5) : ∀ (found acc : List Bd), (found.foldl (fun acc row => acc ++ more b x row) acc).length ≤ acc.length + 5 * found.length
  | [], acc => by simp
  | row :: r, acc => by
    have h1 := every_len h r (acc ++ more b x row)
    have h2 := more_len (row := row) h
    rw [List.foldl_cons]
    rw [List.length_append] at h1
    rw [List.length_cons]
    omega
theorem every_mem {b : Bd} {x : Str} {z : Bd} : ∀ {found acc : List Bd}, z ∈ found.foldl (fun acc row => acc ++ more b x row) acc ↔ z ∈ acc ∨ ∃ row ∈ found, z ∈ more b x row
  | [], acc => by simp
  | row :: r, acc => by
    rw [List.foldl_cons, every_mem, List.mem_append]
    constructor
    · rintro ((h | h) | ⟨q, h1, h2⟩)
      · exact .inl h
      · exact .inr ⟨row, List.mem_cons_self, h⟩
      · exact .inr ⟨q, List.mem_cons_of_mem _ h1, h2⟩
    · rintro (h | ⟨q, h1, h2⟩)
      · exact .inl (.inl h)
      · rcases List.mem_cons.mp h1 with e | h1
        · subst e; exact .inl (.inr h2)
        · exact .inr ⟨q, h1, h2⟩
theorem more_mem {b : Bd} {x : Str} {row z : Bd} : z ∈ more b x row ↔ ∃ k : Nat, k < (bv b x).toNat ∧ z = row ++ [(x, (k : Int))] := by
  unfold more
  rw [List.mem_map]
  constructor
  · rintro ⟨k, h1, h2⟩; exact ⟨k, List.mem_range.mp h1, h2.symm⟩
  · rintro ⟨k, h1, h2⟩; exact ⟨k, List.mem_range.mpr h1, h2.symm⟩
theorem dI_keys (b : Bd) : (dI b).map (·.1) = b.map (·.1) := by unfold dI; rw [List.map_map]; rfl
def REvery : Sl → D → Sl → Prop := fun args d args' => ∃ b, args = [.dat (bD b)] ∧ BOk b ∧ d = .list ((everyV b).map bD) ∧ args' = args
theorem dI_app (row : Bd) (x : Str) (k : Int) : (dI row).map (fun q => PyData.tuple [.str q.1, q.2]) ++ [PyData.tuple [.str x, .int k]] = (dI (row ++ [(x, k)])).map fun q => PyData.tuple [.str q.1, q.2] := by
  unfold dI
  rw [List.map_append, List.map_append]; rfl
section
variable {P : Program} {w : World} {K : PySem.W.Frag} {mg : Str → Option Value} {base : Heap} {T : List Addr}
theorem ok_every {f : Addr} {fd : FuncData} {n : Nat} (F : Fun K "_law_every" "_law_every" sEvery f fd) (ml : mg "list" = none) (ms : mg "sorted" = none) (md : mg "dict" = none) (mr : mg "range" = none) :
    FnOk P w K mg base CX0 (n + 1) f fd ["bounds"] (PrD K T 1 REvery) := by
  refine fn_d F scEvery REvery fun cdv A outer s H E B args d args' hr hl he sh hR => ?_
  obtain ⟨b, rfl, hb, rfl, rfl⟩ := hR
  have hz : sizeLine = 16777216 := rfl
  have hnm : (b.map (·.1)).length ≤ 3 := by rw [List.length_map]; exact hb.few
  refine st 1 scEvery.nd (ex_lst (ax_cons ex_dict0 ax_nil) (by decide)) ?_
  refine sx_forM (b.map (·.1)) .str [2] (fun u : List Bd => [.dat (bD b), .dat (.list (u.map bD)), .un, .un, .un, .un]) [[]] (everyS b) (fun i u => u.length ≤ 5 ^ i ∧ ∀ row ∈ u, row.map (·.1) = (b.map (·.1)).take i) PassesOwn.never rfl
    (ix_l (ex_sortedS rfl ms (ns := b.map (·.1)) (EX.l (EX.to (ex_listD (kvs := dI b) rfl rfl ml (nm 0)) ?_)) (by omega) hb.srt)) (Fg.refl _) ⟨Nat.le_refl _, fun row h => ?_⟩ (fun B' i u x hx hJ => ⟨?_, ?_⟩) (fun hJ => ?_)
  · rw [dI_keys]
  · have : row = [] := by simpa using h
    rw [this]; rfl
  · have hxm := List.mem_of_getElem? hx
    have h5 := (bv_rng hb hxm).2
    refine ⟨?_, fun row h => ?_⟩
    · have := every_len h5 u []
      show (everyS b u x).length ≤ _
      unfold everyS
      rw [Nat.pow_succ]
      have h2 := hJ.1
      rw [List.length_nil, Nat.zero_add] at this
      omega
    · rcases every_mem.mp h with z | ⟨r, h1, h2⟩
      · cases z
      · obtain ⟨k, _, rfl⟩ := more_mem.mp h2
        rw [List.map_append, hJ.2 r h1, List.take_add_one, hx]; rfl
  · have hxm := List.mem_of_getElem? hx
    have h5 := bv_rng hb hxm
    have hi : i < 3 := Nat.lt_of_lt_of_le (List.getElem?_eq_some_iff.mp hx).1 hnm
    have hu : u.length ≤ 125 := Nat.le_trans hJ.1 (Nat.le_trans (Nat.pow_le_pow_right (by decide) (Nat.le_of_lt hi)) (by decide))
    refine ⟨_, gn 2 scEvery.nd, ?_⟩
    refine st 3 scEvery.nd (ex_lst ax_nil (by decide)) ?_
    refine sx_forM u bD [4] (fun acc : List Bd => [.dat (bD b), .dat (.list (u.map bD)), .dat (.str x), .dat (.list (acc.map bD)), .un, .un]) [] (fun acc row => acc ++ more b x row) (fun j acc => acc.length ≤ 5 * j) PassesOwn.never rfl
      (ix_l (nm 1)) (Fg.refl _) (Nat.le_refl _) (fun B' j acc row hrow hJ2 => ⟨?_, ?_⟩) (fun hJ2 => ?_)
    · have h1 := more_len (row := row) h5.2
      rw [List.length_append]
      omega
    · have hrm := List.mem_of_getElem? hrow
      have hj : j < u.length := (List.getElem?_eq_some_iff.mp hrow).1
      refine ⟨_, gn 4 scEvery.nd, ?_⟩
      have hml := more_len (row := row) h5.2
      have hnd : (b.map (·.1)).take i ++ [x] = (b.map (·.1)).take (i + 1) := by rw [List.take_add_one, hx]; rfl
      refine st 3 scEvery.nd (EO.ex (eo_cat (ys := (more b x row).map bD) (nm 3) (EX.to (EO.ex (eo_lcM (List.range (bv b x).toNat) iD (fun k : Nat => some (bD (row ++ [(x, (k : Int))]))) [("k", 5)] rfl scEvery.nd
        (ix_n rfl mr (EX.to (ex_dgetS (hu_of hr) (nm 0) (nm 2) (look hxm)) (by rw [Int.toNat_of_nonneg h5.1])) (by omega)) (blk rfl (by rfl)) (by rw [List.length_range]; omega) rfl (fun q hq B' => ?_))) ?_) ?_)) (sx_nil ?_)
      · refine tM rfl (fun s H C cl fp => gn 5 scEvery.nd) (fun s H C cl fp => txs_nil) (fun s H C cl fp => EX.w (ex_dictS (kvs := dI (row ++ [(x, (q : Int))])) rfl rfl md (EX.l (EX.to (EO.ex (eo_cat (ex_items rfl rfl ml (nm 4)) (ex_lst (ax_cons (ex_tup (ax_cons (nm 2) (ax_cons (nm 5) ax_nil)) (len2 _ _)) ax_nil) ?_) ?_)) ?_)) ?_) rfl) (.same (.same (.same (.same (.same (.un .nil))))))
        · show 1 ≤ 2 ^ 24; decide
        · have z := congrArg List.length (hJ.2 row hrm)
          rw [List.length_map, List.length_take] at z
          unfold dI
          simp only [List.length_map, List.length_cons, List.length_nil]
          omega
        · exact congrArg PyData.list (dI_app row x q)
        · rw [dI_keys, List.map_append, hJ.2 row hrm]
          show ((b.map (·.1)).take i ++ [x]).Nodup
          rw [hnd]
          exact hb.nd.sublist (List.take_sublist _ _)
      · rw [fm_some]; unfold more; rw [List.map_map]; rfl
      · rw [List.length_map, List.length_map]; omega
      · simp only [List.map_append]
        exact .same (.same (.same (.same (.un (.un .nil)))))
    · refine st 1 scEvery.nd (nm 3) (sx_nil (.same (.same (.un (.un (.un (.un .nil)))))))
  · exact sx_ret (nm 1) ⟨rfl, back0 (args := [_])⟩
end
end K47

set_option maxRecDepth 100000
namespace K47
open PySem PySem.Spec PyProof.Rows L2 Dv
def absl (f : Fm) : List Int := f.2.map fun q => ((q.2.natAbs : Nat) : Int)
def factorsV (fs : List Fm) : List Int := fs.foldl (fun acc f => acc ++ absl f) []
def RFactors : Sl → D → Sl → Prop := fun args d args' => ∃ fs : List Fm, args = [.dat (.list (fs.map fD))] ∧ fs.length ≤ 10 ∧ (∀ f ∈ fs, f.2.length ≤ 1000) ∧ d = .list ((factorsV fs).map .int) ∧ args' = args
/-- those that k does not divide -/
def nod (l : List Int) (k : Int) : List Int := l.filter fun x => !decide (x / k * k = x)
def divs (l : List Int) : List Int := ((List.range 4).filter fun i : Nat => (nod l (1 + (i : Int))).isEmpty).map fun i : Nat => 1 + (i : Int)
def divV (l : List Int) : Int := if l.isEmpty then 0 else lmax (divs l)
def RDivisor : Sl → D → Sl → Prop := fun args d args' => ∃ fs : List Fm, args = [.dat (.list (fs.map fD))] ∧ fs.length ≤ 10 ∧ (∀ f ∈ fs, f.2.length ≤ 1000) ∧ d = .int (divV (factorsV fs)) ∧ args' = args
theorem fm_if {α : Type} (c : α → Bool) (h : α → D) (l : List α) : l.filterMap (fun q => if c q = true then some (h q) else none) = (l.filter c).map h := by
  induction l with
  | nil => rfl
  | cons a r ih =>
    rw [List.filterMap_cons]
    by_cases e : c a = true
    · rw [if_pos e, List.filter_cons_of_pos e, List.map_cons, ih]
    · rw [if_neg e, List.filter_cons_of_neg e, ih]
theorem divs_ne (l : List Int) : divs l ≠ [] := by
  have h : (1 : Int) ∈ divs l := by
    unfold divs
    refine List.mem_map.mpr ⟨0, List.mem_filter.mpr ⟨by decide, ?_⟩, rfl⟩
    have e : nod l (1 + ((0 : Nat) : Int)) = [] := by
      unfold nod
      refine List.filter_eq_nil_iff.mpr fun x _ => ?_
      simp
    rw [e]; rfl
  intro z
  rw [z] at h; cases h
theorem factors_len : ∀ (fs : List Fm) (acc : List Int), (∀ f ∈ fs, f.2.length ≤ 1000) → (fs.foldl (fun acc f => acc ++ absl f) acc).length ≤ acc.length + 1000 * fs.length
  | [], acc, _ => by simp
  | f :: r, acc, h => by
    have h1 := factors_len r (acc ++ absl f) fun g hg => h g (List.mem_cons_of_mem _ hg)
    have h2 := h f List.mem_cons_self
    rw [List.foldl_cons, List.length_cons]
    rw [List.length_append] at h1
    have : (absl f).length = f.2.length := by unfold absl; rw [List.length_map]
    omega
section
variable {P : Program} {w : World} {K : PySem.W.Frag} {mg : Str → Option Value} {base : Heap} {T : List Addr}
theorem ok_factors {f : Addr} {fd : FuncData} {n : Nat} (F : Fun K "_law_factors" "_law_factors" sFactors f fd) (ma : mg "abs" = none) :
    FnOk P w K mg base CX0 (n + 1) f fd ["forms"] (PrD K T 1 RFactors) := by
  refine fn_d F scFactors RFactors fun cdv A outer s H E B args d args' hr hl he sh hR => ?_
  obtain ⟨fs, rfl, hfl, hf, rfl, rfl⟩ := hR
  have hz : sizeLine = 16777216 := rfl
  refine st 1 scFactors.nd (ex_lst ax_nil (by decide)) ?_
  refine sx_forM fs fD [2, 3] (fun acc : List Int => [.dat (.list (fs.map fD)), .dat (.list (acc.map .int)), .un, .un, .un, .un]) [] (fun acc f => acc ++ absl f) (fun i acc => acc.length ≤ 1000 * i) PassesOwn.never rfl
    (ix_l (nm 0)) (Fg.refl _) (Nat.le_refl _) (fun B' i acc g hg hJ => ⟨?_, ?_⟩) (fun hJ => ?_)
  · have h2 := hf g (List.mem_of_getElem? hg)
    have : (absl g).length = g.2.length := by unfold absl; rw [List.length_map]
    rw [List.length_append]
    omega
  · have h2 := hf g (List.mem_of_getElem? hg)
    have hi : i < fs.length := (List.getElem?_eq_some_iff.mp hg).1
    refine ⟨_, gx_tup rfl (gxs_cons (gn 2 scFactors.nd) (gxs_cons (gn 3 scFactors.nd) gxs_nil sub_set) sub_set) rfl, ?_⟩
    refine st 1 scFactors.nd (EO.ex (eo_cat (ys := (absl g).map .int) (nm 1) (EX.to (EO.ex (eo_lcM g.2 pD (fun q => some (.int ((q.2.natAbs : Nat) : Int))) [("name", 4), ("factor", 5)] rfl scFactors.nd
      (ix_t (nm 3)) (blk rfl (by rfl)) (by omega) rfl (fun q hq B' => ?_))) ?_) ?_)) (sx_nil ?_)
    · exact tM rfl (fun s H C cl fp => gx_tup rfl (gxs_cons (gn 4 scFactors.nd) (gxs_cons (gn 5 scFactors.nd) gxs_nil sub_set) sub_set) rfl) (fun s H C cl fp => txs_nil)
        (fun s H C cl fp => ex_abs rfl ma (nm 5)) (.same (.same (.same (.same (.un (.un .nil))))))
    · rw [fm_some]; unfold absl; rw [List.map_map]; rfl
    · unfold absl; simp only [List.length_map]; omega
    · simp only [List.map_append]
      exact .same (.same (.un (.un (.un (.un .nil)))))
  · exact sx_ret (nm 1) ⟨rfl, back0 (args := [_])⟩
theorem ok_divisor {f ff : Addr} {fd fdf : FuncData} {n : Nat} (F : Fun K "_law_divisor" "_law_divisor" sDivisor f fd) (mm : mg "max" = none) (mr : mg "range" = none)
    (Ff : FnOk P w K mg base CX0 (n + 1) ff fdf ["forms"] (PrD K T 1 RFactors)) (mf : mg "_law_factors" = some (.ref ff)) (kf : PySem.W.keepIn K (.ref ff) = true) (bf : Binds K fdf ["forms"] []) :
    FnOk P w K mg base CX0 (n + 2) f fd ["forms"] (PrD K T 1 RDivisor) := by
  refine fn_d F scDivisor RDivisor fun cdv A outer s H E B args d args' hr hl he sh hR => ?_
  obtain ⟨fs, rfl, hfl, hf, rfl, rfl⟩ := hR
  have hz : sizeLine = 16777216 := rfl
  have hlen : (factorsV fs).length ≤ 10000 := by
    have := factors_len fs [] hf
    rw [List.length_nil, Nat.zero_add] at this
    unfold factorsV
    omega
  refine st 1 scDivisor.nd (ex_call Ff hr rfl mf kf bf (ax_cons (nm 0) ax_nil) rfl ⟨fs, rfl, hfl, hf, rfl, rfl⟩) ?_
  generalize factorsV fs = l at hlen ⊢
  refine sx_ret (ex_ifS (tx_neE (hu_of hr) (r2 (nm 1) (ex_lst ax_nil (by decide)))) (fun h => ?_) (fun h => ?_)) ⟨rfl, back0 (args := [_])⟩
  · have hne : l.isEmpty = false := by
      rw [List.isEmpty_map] at h
      simpa using h
    have ed : divV l = lmax (divs l) := by unfold divV; rw [hne]; rfl
    rw [ed]
    refine EX.w (ex_max (ns := divs l) rfl rfl mm (EX.l (EX.to (EO.ex (eo_lcM (List.range 4) (fun i : Nat => .int (1 + (i : Int))) (fun i => if (nod l (1 + (i : Int))).isEmpty = true then some (.int (1 + (i : Int))) else none) [("k", 2)] rfl scDivisor.nd
      (ix_r2 (i := 1) (j := 5) rfl mr ex_int ex_int (by decide)) (blk rfl (by rfl)) (by decide) rfl (fun i hi B' => ?_))) ?_)) (divs_ne l)) rfl
    · have hi4 : i < 4 := List.mem_range.mp hi
      refine tI (fun s H C cl fp => gn 2 scDivisor.nd) (fun s H C cl fp => txs_one (TX.w (TX.to (tx_eqE (hu_of hr) (r2 (EO.ex (eo_lcM l .int (fun x => if (!decide (x / (1 + (i : Int)) * (1 + (i : Int)) = x)) = true then some (.int x) else none) [("one", 3)] rfl scDivisor.nd (ix_l (nm 1)) (blk rfl (by rfl)) (by omega) rfl (fun x hx B'' => ?_))) (ex_lst ax_nil (by decide)))) ?_) rfl))
        (fun h s H C cl fp => nm 2) (.same (.same (.un (.same .nil)))) (.same (.same (.un (.same .nil))))
      · exact tI (fun s H C cl fp => gn 3 scDivisor.nd) (fun s H C cl fp => txs_one (TX.w (tx_neI (r2 (ex_mul (ex_fdiv (nm 3) (nm 2) ⟨by omega, by omega⟩) (nm 2) (.inr ⟨by omega, by omega⟩)) (nm 3))) rfl))
          (fun h s H C cl fp => nm 3) (.same (.same (.same (.un .nil)))) (.same (.same (.same (.un .nil))))
      · rw [fm_if]; unfold nod
        rw [List.isEmpty_map]
    · rw [fm_if]; unfold divs; rw [List.map_map]; rfl
  · have hne : l.isEmpty = true := by
      rw [List.isEmpty_map] at h
      simpa using h
    have ed : divV l = 0 := by unfold divV; rw [hne]; rfl
    rw [ed]
    exact ex_int
end
end K47

set_option maxRecDepth 100000
namespace K47
open PySem PySem.Spec L2 Dv
/-! ### all rows -/
def Ext (b : Bd) (xs : List Str) (t : Bd) : Prop := t.map (·.1) = xs ∧ ∀ q ∈ t, 0 ≤ q.2 ∧ q.2 < bv b q.1
theorem fold_mem {b : Bd} : ∀ {xs : List Str} {found : List Bd} {z : Bd}, z ∈ xs.foldl (everyS b) found ↔ ∃ row ∈ found, ∃ t, Ext b xs t ∧ z = row ++ t
  | [], found, z => by
    constructor
    · intro h; exact ⟨z, h, [], ⟨rfl, fun q hq => by cases hq⟩, by rw [List.append_nil]⟩
    · rintro ⟨row, h, t, ⟨h1, _⟩, rfl⟩
      have : t = [] := List.map_eq_nil_iff.mp h1
      rw [this, List.append_nil]; exact h
  | x :: xs, found, z => by
    rw [List.foldl_cons, fold_mem]
    constructor
    · rintro ⟨row', h, t, ⟨h1, h2⟩, rfl⟩
      rcases every_mem.mp h with y | ⟨row, hr, hm⟩
      · cases y
      · obtain ⟨k, hk, rfl⟩ := more_mem.mp hm
        refine ⟨row, hr, (x, (k : Int)) :: t, ⟨by rw [List.map_cons, h1], fun q hq => ?_⟩, by rw [List.append_assoc]; rfl⟩
        rcases List.mem_cons.mp hq with e | hq
        · rw [e]; exact ⟨Int.natCast_nonneg _, by show (k : Int) < bv b x; omega⟩
        · exact h2 q hq
    · rintro ⟨row, hr, t, ⟨h1, h2⟩, rfl⟩
      cases t with
      | nil => cases h1
      | cons q t =>
        rw [List.map_cons] at h1
        obtain ⟨e1, e2⟩ := List.cons.inj h1
        have hq := h2 q List.mem_cons_self
        rw [e1] at hq
        refine ⟨row ++ [(x, q.2)], every_mem.mpr (.inr ⟨row, hr, more_mem.mpr ⟨q.2.toNat, by omega, by rw [Int.toNat_of_nonneg hq.1]⟩⟩), t, ⟨e2, fun p hp => h2 p (List.mem_cons_of_mem _ hp)⟩, ?_⟩
        rw [List.append_assoc]
        show row ++ (q :: t) = row ++ ((x, q.2) :: t)
        rw [← e1]
theorem rows_mem {b z : Bd} : z ∈ everyV b ↔ Ext b (b.map (·.1)) z := by
  unfold everyV
  rw [fold_mem]
  constructor
  · rintro ⟨row, h, t, h1, rfl⟩
    have : row = [] := by simpa using h
    rw [this]; exact h1
  · intro h
    exact ⟨[], by simp, z, h, rfl⟩
theorem bv_in {t : Bd} (nd : (t.map (·.1)).Nodup) {q : Str × Int} (h : q ∈ t) : bv t q.1 = q.2 := by
  induction t with
  | nil => cases h
  | cons p r ih =>
    rw [List.map_cons, List.nodup_cons] at nd
    unfold bv
    rw [List.find?_cons]
    rcases List.mem_cons.mp h with e | h
    · subst e; simp
    · have ne : ¬ p.1 = q.1 := fun z => nd.1 (by rw [z]; exact List.mem_map.mpr ⟨q, h, rfl⟩)
      simp only [ne, decide_false]
      exact ih nd.2 h
/-- a row's own entries -/
theorem row_at {b z : Bd} (nd : (b.map (·.1)).Nodup) (h : z ∈ everyV b) {x : Str} (hx : x ∈ b.map (·.1)) : 0 ≤ bv z x ∧ bv z x < bv b x := by
  obtain ⟨h1, h2⟩ := rows_mem.mp h
  rw [← h1] at hx
  obtain ⟨q, hq, hqx, hv⟩ := bv_mem hx
  rw [hv, ← hqx]
  exact h2 q hq
theorem rows_ne {b : Bd} (nd : (b.map (·.1)).Nodup) (hr : ∀ q ∈ b, 0 ≤ q.2) : (everyV b).isEmpty = b.any fun q => decide (q.2 = 0) := by
  rw [Bool.eq_iff_iff, List.isEmpty_iff, List.any_eq_true]
  constructor
  · intro h
    apply Classical.byContradiction
    intro hn
    have hm : (b.map fun q => (q.1, (0 : Int))) ∈ everyV b := rows_mem.mpr ⟨by rw [List.map_map]; rfl, fun q hq => by
      obtain ⟨p, hp, rfl⟩ := List.mem_map.mp hq
      refine ⟨Int.le_refl _, ?_⟩
      show 0 < bv b p.1
      rw [bv_in nd hp]
      have h0 := hr p hp
      have h1 : p.2 ≠ 0 := fun z => hn ⟨p, hp, by simp [z]⟩
      omega⟩
    rw [h] at hm; cases hm
  · rintro ⟨q, hq, h0⟩
    have h0 : q.2 = 0 := of_decide_eq_true h0
    cases he : everyV b with
    | nil => rfl
    | cons z r =>
      have hz : z ∈ everyV b := by rw [he]; exact List.mem_cons_self
      have := row_at nd hz (List.mem_map.mpr ⟨q, hq, rfl⟩)
      rw [bv_in nd hq, h0] at this
      omega
/-! ### spans -/
/-- a well-made form over b's names -/
structure FOk (b : Bd) (f : Fm) : Prop where
  sub : ∀ q ∈ f.2, q.1 ∈ b.map (·.1)
  nd : (f.2.map (·.1)).Nodup
  fac : ∀ q ∈ f.2, q.2 ≠ 0 ∧ -4 ≤ q.2 ∧ q.2 ≤ 4
  len : f.2.length ≤ 10
theorem FOk.fok {b k : Bd} {f : Fm} (h : FOk b f) (hk : k.map (·.1) = b.map (·.1)) : fok k f :=
  ⟨Nat.le_trans h.len (by decide), fun q hq => ⟨by rw [hk]; exact h.sub q hq, by have := (h.fac q hq).2.1; omega, by have := (h.fac q hq).2.2; omega⟩⟩
theorem span_eq (b : Bd) : ∀ (t : Bd) (s : Int × Int), t.foldl (spanS b) s = (s.1 + (t.map fun q => min 0 (q.2 * (bv b q.1 - 1))).sum, s.2 + (t.map fun q => max 0 (q.2 * (bv b q.1 - 1))).sum)
  | [], s => by simp
  | q :: t, s => by
    rw [List.foldl_cons, span_eq b t]
    simp only [List.map_cons, List.sum_cons, spanS, Int.add_assoc]
theorem sum_le {t : List (Str × Int)} {g h : Str × Int → Int} (H : ∀ q ∈ t, g q ≤ h q) : (t.map g).sum ≤ (t.map h).sum := by
  induction t with
  | nil => exact Int.le_refl _
  | cons q r ih =>
    rw [List.map_cons, List.map_cons, List.sum_cons, List.sum_cons]
    have h1 := H q List.mem_cons_self
    have h2 := ih fun p hp => H p (List.mem_cons_of_mem _ hp)
    omega
theorem sum_eq {t : List (Str × Int)} {g h : Str × Int → Int} (H : ∀ q ∈ t, g q = h q) : (t.map g).sum = (t.map h).sum := by
  rw [List.map_congr_left H]
theorem term_lo {c v B : Int} (h : 0 ≤ v ∧ v < B) : min 0 (c * (B - 1)) ≤ c * v := by
  by_cases hc : 0 ≤ c
  · exact Int.le_trans (Int.min_le_left _ _) (Int.mul_nonneg hc h.1)
  · exact Int.le_trans (Int.min_le_right _ _) (Int.mul_le_mul_of_nonpos_left (by omega) (by omega))
theorem term_hi {c v B : Int} (h : 0 ≤ v ∧ v < B) : c * v ≤ max 0 (c * (B - 1)) := by
  by_cases hc : 0 ≤ c
  · exact Int.le_trans (Int.mul_le_mul_of_nonneg_left (by omega) hc) (Int.le_max_right _ _)
  · exact Int.le_trans (Int.mul_nonpos_of_nonpos_of_nonneg (by omega) h.1) (Int.le_max_left _ _)
theorem at_lo {b z : Bd} {f : Fm} (nd : (b.map (·.1)).Nodup) (hz : z ∈ everyV b) (hf : FOk b f) : (span b f).1 ≤ atV z f := by
  unfold span atV
  rw [span_eq]
  have := sum_le (t := f.2) (g := fun q => min 0 (q.2 * (bv b q.1 - 1))) (h := fun q => q.2 * bv z q.1) fun q hq => term_lo (row_at nd hz (hf.sub q hq))
  show f.1 + _ ≤ f.1 + _
  omega
theorem at_hi {b z : Bd} {f : Fm} (nd : (b.map (·.1)).Nodup) (hz : z ∈ everyV b) (hf : FOk b f) : atV z f ≤ (span b f).2 := by
  unfold span atV
  rw [span_eq]
  have := sum_le (t := f.2) (h := fun q => max 0 (q.2 * (bv b q.1 - 1))) (g := fun q => q.2 * bv z q.1) fun q hq => term_hi (row_at nd hz (hf.sub q hq))
  show f.1 + _ ≤ f.1 + _
  omega
/-- the row that takes the last place where p says so -/
def edge (b : Bd) (p : Str → Bool) : Bd := b.map fun q => (q.1, if p q.1 = true then q.2 - 1 else 0)
theorem edge_mem {b : Bd} (nd : (b.map (·.1)).Nodup) (h : ∀ q ∈ b, 0 < q.2) (p : Str → Bool) : edge b p ∈ everyV b := by
  refine rows_mem.mpr ⟨by unfold edge; rw [List.map_map]; rfl, fun q hq => ?_⟩
  obtain ⟨r, hr, rfl⟩ := List.mem_map.mp hq
  have h0 := h r hr
  show 0 ≤ (if p r.1 = true then r.2 - 1 else 0) ∧ (if p r.1 = true then r.2 - 1 else 0) < bv b r.1
  rw [bv_in nd hr]
  split <;> omega
theorem edge_at {b : Bd} (nd : (b.map (·.1)).Nodup) (p : Str → Bool) {x : Str} (hx : x ∈ b.map (·.1)) : bv (edge b p) x = if p x = true then bv b x - 1 else 0 := by
  obtain ⟨q, hq, hqx, hv⟩ := bv_mem hx
  have hm : (q.1, if p q.1 = true then q.2 - 1 else 0) ∈ edge b p := List.mem_map.mpr ⟨q, hq, rfl⟩
  have := bv_in (t := edge b p) (by unfold edge; rw [List.map_map]; exact nd) hm
  rw [hv, ← hqx]
  exact this
theorem hi_at {b : Bd} {f : Fm} (nd : (b.map (·.1)).Nodup) (h : ∀ q ∈ b, 0 < q.2) (hf : FOk b f) : (span b f).2 ∈ (everyV b).map fun z => atV z f := by
  refine List.mem_map.mpr ⟨edge b (fun x => decide (0 < bv f.2 x)), edge_mem nd h _, ?_⟩
  unfold span atV
  rw [span_eq]
  show f.1 + _ = f.1 + _
  congr 1
  refine sum_eq fun q hq => ?_
  have hx := hf.sub q hq
  obtain ⟨r, hr, hrx, hv⟩ := bv_mem hx
  have h0 := h r hr
  rw [edge_at nd _ hx, bv_in hf.nd hq, hv]
  by_cases hc : 0 < q.2
  · rw [if_pos (by simpa using hc)]
    exact (Int.max_eq_right (Int.mul_nonneg (by omega) (by omega))).symm
  · rw [if_neg (by simpa using hc), Int.mul_zero]
    exact (Int.max_eq_left (Int.mul_nonpos_of_nonpos_of_nonneg (by omega) (by omega))).symm
theorem lo_at {b : Bd} {f : Fm} (nd : (b.map (·.1)).Nodup) (h : ∀ q ∈ b, 0 < q.2) (hf : FOk b f) : (span b f).1 ∈ (everyV b).map fun z => atV z f := by
  refine List.mem_map.mpr ⟨edge b (fun x => decide (bv f.2 x < 0)), edge_mem nd h _, ?_⟩
  unfold span atV
  rw [span_eq]
  show f.1 + _ = f.1 + _
  congr 1
  refine sum_eq fun q hq => ?_
  have hx := hf.sub q hq
  obtain ⟨r, hr, hrx, hv⟩ := bv_mem hx
  have h0 := h r hr
  rw [edge_at nd _ hx, bv_in hf.nd hq, hv]
  by_cases hc : q.2 < 0
  · rw [if_pos (by simpa using hc)]
    exact (Int.min_eq_right (Int.mul_nonpos_of_nonpos_of_nonneg (by omega) (by omega))).symm
  · rw [if_neg (by simpa using hc), Int.mul_zero]
    exact (Int.min_eq_left (Int.mul_nonneg (by omega) (by omega))).symm
theorem max_at {b : Bd} {f : Fm} (nd : (b.map (·.1)).Nodup) (h : ∀ q ∈ b, 0 < q.2) (hf : FOk b f) : lmax ((everyV b).map fun z => atV z f) = (span b f).2 :=
  (lmax_is (hi_at nd h hf) fun y hy => by
    obtain ⟨z, hz, rfl⟩ := List.mem_map.mp hy
    exact at_hi nd hz hf).symm
theorem min_at {b : Bd} {f : Fm} (nd : (b.map (·.1)).Nodup) (h : ∀ q ∈ b, 0 < q.2) (hf : FOk b f) : lmin ((everyV b).map fun z => atV z f) = (span b f).1 :=
  (lmin_is (lo_at nd h hf) fun y hy => by
    obtain ⟨z, hz, rfl⟩ := List.mem_map.mp hy
    exact at_lo nd hz hf).symm
end K47

set_option maxRecDepth 100000
namespace K47
open PySem PySem.Spec L2 Dv
/-! ### common divisors -/
theorem gcd_dvd : ∀ (l : List (Str × Int)) (c d : Int), d ∣ l.foldl gcdS c ↔ d ∣ c ∧ ∀ q ∈ l, d ∣ q.2
  | [], c, d => by simp
  | q :: l, c, d => by
    rw [List.foldl_cons, gcd_dvd l]
    have e : d ∣ gcdS c q ↔ d ∣ c ∧ d ∣ q.2 := by
      unfold gcdS
      rw [← Int.natAbs_dvd_natAbs, Int.natAbs_natCast, Nat.dvd_gcd_iff, Int.natAbs_dvd_natAbs, Int.natAbs_dvd_natAbs]
    rw [e]
    constructor
    · rintro ⟨⟨h1, h2⟩, h3⟩
      refine ⟨h1, fun p hp => ?_⟩
      rcases List.mem_cons.mp hp with z | z
      · rw [z]; exact h2
      · exact h3 p z
    · rintro ⟨h1, h2⟩
      exact ⟨⟨h1, h2 q List.mem_cons_self⟩, fun p hp => h2 p (List.mem_cons_of_mem _ hp)⟩
theorem comm_dvd {f g : Fm} {d : Int} : d ∣ comm f g ↔ (∀ q ∈ f.2, d ∣ q.2) ∧ ∀ q ∈ g.2, d ∣ q.2 := by
  unfold comm
  rw [gcd_dvd]
  constructor
  · rintro ⟨_, h⟩
    exact ⟨fun q hq => h q (List.mem_append_left _ hq), fun q hq => h q (List.mem_append_right _ hq)⟩
  · rintro ⟨h1, h2⟩
    refine ⟨Int.dvd_zero d, fun q hq => ?_⟩
    rcases List.mem_append.mp hq with z | z
    · exact h1 q z
    · exact h2 q z
theorem comm_nn (f g : Fm) : 0 ≤ comm f g := gcd_nn _ 0 (Int.le_refl _)
theorem comm_symm (f g : Fm) : comm f g = comm g f := by
  have h1 : comm f g ∣ comm g f := comm_dvd.mpr (And.symm (comm_dvd.mp (Int.dvd_refl _)))
  have h2 : comm g f ∣ comm f g := comm_dvd.mpr (And.symm (comm_dvd.mp (Int.dvd_refl _)))
  exact Int.dvd_antisymm (comm_nn _ _) (comm_nn _ _) h1 h2
theorem apart_symm (f g : Fm) : apartT f g = apartT g f := by
  unfold apartT
  rw [comm_symm g f]
  have e : g.1 - f.1 = -(f.1 - g.1) := by omega
  rw [e]
  generalize f.1 - g.1 = a
  generalize comm f g = c
  have e1 : decide (-a = 0) = decide (a = 0) := decide_eq_decide.mpr (by omega)
  have e2 : decide (-a % c = 0) = decide (a % c = 0) := decide_eq_decide.mpr ⟨fun h => Int.emod_eq_zero_of_dvd (Int.dvd_neg.mp (Int.dvd_of_emod_eq_zero h)), fun h => Int.emod_eq_zero_of_dvd (Int.dvd_neg.mpr (Int.dvd_of_emod_eq_zero h))⟩
  rw [e1, e2]
theorem clash_symm (b : Bd) (f g : Fm) : clash b f g = clash b g f := by
  unfold clash
  rw [apart_symm f g, Bool.or_comm (decide ((span b f).2 < (span b g).1))]
theorem zip_any {α : Type} (c : α → α → Bool) (h : ∀ x y, c x y = c y x) : ∀ (l m : List α), ((l.zip m).any fun p => c p.1 p.2) = (m.zip l).any fun p => c p.1 p.2
  | [], m => by cases m <;> rfl
  | _ :: _, [] => rfl
  | x :: l, y :: m => by
    rw [List.zip_cons_cons, List.zip_cons_cons, List.any_cons, List.any_cons, zip_any c h l m, h x y]
theorem nm_symm (one other : List Fm) (b : Bd) : nmV one other b = nmV other one b := by
  unfold nmV
  rw [zip_any (fun x y => clash b x y) (clash_symm b)]
/-! ### the law's own divisor -/
theorem nod_iff {l : List Int} {k : Int} : (nod l k).isEmpty = true ↔ ∀ x ∈ l, k ∣ x := by
  rw [List.isEmpty_iff]
  unfold nod
  rw [List.filter_eq_nil_iff]
  constructor
  · intro h x hx
    have z := h x hx
    have z : x / k * k = x := by simpa using z
    exact ⟨x / k, by rw [Int.mul_comm]; exact z.symm⟩
  · intro h x hx
    have z : x / k * k = x := Int.ediv_mul_cancel (h x hx)
    simp [z]
theorem divs_mem {l : List Int} {k : Int} : k ∈ divs l ↔ (1 ≤ k ∧ k ≤ 4) ∧ ∀ x ∈ l, k ∣ x := by
  unfold divs
  rw [List.mem_map]
  constructor
  · rintro ⟨i, hi, rfl⟩
    obtain ⟨h1, h2⟩ := List.mem_filter.mp hi
    have h1 := List.mem_range.mp h1
    exact ⟨by omega, nod_iff.mp h2⟩
  · rintro ⟨h1, h2⟩
    have e : 1 + ((k - 1).toNat : Int) = k := by omega
    exact ⟨(k - 1).toNat, List.mem_filter.mpr ⟨List.mem_range.mpr (by omega), by rw [e]; exact nod_iff.mpr h2⟩, e⟩
theorem fold_absl : ∀ (fs : List Fm) (acc : List Int), fs.foldl (fun acc f => acc ++ absl f) acc = acc ++ (fs.map absl).flatten
  | [], acc => by simp
  | f :: r, acc => by rw [List.foldl_cons, fold_absl r, List.map_cons, List.flatten_cons, List.append_assoc]
theorem factors_two (f g : Fm) : factorsV [f, g] = absl f ++ absl g := rfl
theorem absl_dvd {f : Fm} {d : Int} : (∀ x ∈ absl f, d ∣ x) ↔ ∀ q ∈ f.2, d ∣ q.2 := by
  unfold absl
  constructor
  · intro h q hq
    have := h _ (List.mem_map.mpr ⟨q, hq, rfl⟩)
    exact Int.dvd_natAbs.mp this
  · intro h x hx
    obtain ⟨q, hq, rfl⟩ := List.mem_map.mp hx
    exact Int.dvd_natAbs.mpr (h q hq)
theorem div_comm {b : Bd} {f g : Fm} (hf : FOk b f) (hg : FOk b g) : divV (factorsV [f, g]) = comm f g := by
  rw [factors_two]
  unfold divV
  by_cases he : f.2 = [] ∧ g.2 = []
  · have e : absl f ++ absl g = [] := by unfold absl; rw [he.1, he.2]; rfl
    rw [e]
    unfold comm
    rw [he.1, he.2]; rfl
  · have ne : (absl f ++ absl g).isEmpty = false := by
      cases h : (absl f ++ absl g).isEmpty with
      | false => rfl
      | true =>
        exfalso
        apply he
        have z := List.isEmpty_iff.mp h
        obtain ⟨z1, z2⟩ := List.append_eq_nil_iff.mp z
        exact ⟨List.map_eq_nil_iff.mp z1, List.map_eq_nil_iff.mp z2⟩
    rw [ne]
    show lmax (divs _) = _
    have hx : ∃ x : Int, (x ≠ 0 ∧ -4 ≤ x ∧ x ≤ 4) ∧ comm f g ∣ x := by
      have hd := comm_dvd.mp (Int.dvd_refl (comm f g))
      by_cases hf0 : f.2 = []
      · cases hg2 : g.2 with
        | nil => exact absurd ⟨hf0, hg2⟩ he
        | cons q r =>
          have hq : q ∈ g.2 := by rw [hg2]; exact List.mem_cons_self
          exact ⟨q.2, hg.fac q hq, hd.2 q hq⟩
      · cases hf2 : f.2 with
        | nil => exact absurd hf2 hf0
        | cons q r =>
          have hq : q ∈ f.2 := by rw [hf2]; exact List.mem_cons_self
          exact ⟨q.2, hf.fac q hq, hd.1 q hq⟩
    obtain ⟨x, ⟨x0, x1, x2⟩, hxd⟩ := hx
    have hn := comm_nn f g
    have h0 : comm f g ≠ 0 := fun z => x0 (by rw [z] at hxd; exact Int.zero_dvd.mp hxd)
    have h4 : comm f g ≤ 4 := by
      have : (comm f g).natAbs ≤ x.natAbs := Nat.le_of_dvd (by omega) (Int.natAbs_dvd_natAbs.mpr hxd)
      omega
    refine (lmax_is (divs_mem.mpr ⟨by omega, fun y hy => ?_⟩) fun k hk => ?_).symm
    · have hd := comm_dvd.mp (Int.dvd_refl (comm f g))
      rcases List.mem_append.mp hy with z | z
      · exact absl_dvd.mpr hd.1 y z
      · exact absl_dvd.mpr hd.2 y z
    · obtain ⟨_, hk⟩ := divs_mem.mp hk
      exact Int.le_of_dvd (by omega) (comm_dvd.mpr ⟨absl_dvd.mp fun y hy => hk y (List.mem_append_left _ hy), absl_dvd.mp fun y hy => hk y (List.mem_append_right _ hy)⟩)
theorem comm_4 {b : Bd} {f g : Fm} (hf : FOk b f) (hg : FOk b g) : comm f g ≤ 4 := by
  rw [← div_comm hf hg]
  unfold divV
  split
  · decide
  · exact (divs_mem.mp (lmax_mem (divs_ne _))).1.2
/-! ### what the law reckons of two forms -/
def gT (c a : Int) : Bool := (decide (c = 0) && !decide (a = 0)) || (decide (0 < c) && !decide (a / c * c = a))
theorem gT_eq {f g : Fm} : gT (comm f g) (f.1 - g.1) = apartT f g := by
  unfold gT apartT
  have hn := comm_nn f g
  generalize comm f g = c at hn
  generalize f.1 - g.1 = a
  by_cases h0 : c = 0
  · subst h0
    simp
  · have hc : 0 < c := by omega
    have e : decide (a / c * c = a) = decide (a % c = 0) := decide_eq_decide.mpr (by
      have := Int.ediv_mul_add_emod a c
      omega)
    rw [e]
    by_cases ha : a = 0
    · subst ha; simp [h0]
    · simp [h0, ha, hc]
def outT (b : Bd) (f g : Fm) : Bool := decide (lmax ((everyV b).map fun z => atV z f) < lmin ((everyV b).map fun z => atV z g)) || decide (lmax ((everyV b).map fun z => atV z g) < lmin ((everyV b).map fun z => atV z f))
def dueT (b : Bd) (f g : Fm) : Bool := gT (divV (factorsV [f, g])) (f.1 - g.1) || (!(everyV b).isEmpty && outT b f g)
def dueV (one other : List Fm) (b : Bd) : Bool := (everyV b).isEmpty || (one.zip other).any fun p => dueT b p.1 p.2
theorem due_eq {b : Bd} {one other : List Fm} (hb : BOk b) (h1 : ∀ f ∈ one, FOk b f) (h2 : ∀ f ∈ other, FOk b f) : nmV one other b = dueV one other b := by
  unfold nmV dueV
  rw [rows_ne hb.nd fun q hq => (hb.rng q hq).1]
  cases he : b.any fun q => decide (q.2 = 0) with
  | true => rfl
  | false =>
    have hp : ∀ q ∈ b, 0 < q.2 := fun q hq => by
      have h0 := (hb.rng q hq).1
      have h1 : ¬ q.2 = 0 := fun z => by
        have : (b.any fun q => decide (q.2 = 0)) = true := List.any_eq_true.mpr ⟨q, hq, by simp [z]⟩
        rw [he] at this; cases this
      omega
    rw [Bool.false_or, Bool.false_or]
    have : ∀ p ∈ one.zip other, clash b p.1 p.2 = dueT b p.1 p.2 := fun p hpm => by
      have hm := List.of_mem_zip (a := p.1) (b := p.2) hpm
      have hf := h1 _ hm.1
      have hg := h2 _ hm.2
      unfold clash dueT outT
      rw [div_comm hf hg, gT_eq, max_at hb.nd hp hf, max_at hb.nd hp hg, min_at hb.nd hp hf, min_at hb.nd hp hg, rows_ne hb.nd fun q hq => (hb.rng q hq).1, he]
      rfl
    rw [Bool.eq_iff_iff, List.any_eq_true, List.any_eq_true]
    exact ⟨fun ⟨p, h1, h2⟩ => ⟨p, h1, by rw [← this p h1]; exact h2⟩, fun ⟨p, h1, h2⟩ => ⟨p, h1, by rw [this p h1]; exact h2⟩⟩
/-! ### what never meets does not meet -/
theorem dvd_sum {t : List (Str × Int)} {g : Str × Int → Int} {d : Int} (h : ∀ q ∈ t, d ∣ g q) : d ∣ (t.map g).sum := by
  induction t with
  | nil => exact Int.dvd_zero d
  | cons q r ih =>
    rw [List.map_cons, List.sum_cons]
    exact Int.dvd_add (h q List.mem_cons_self) (ih fun p hp => h p (List.mem_cons_of_mem _ hp))
theorem no_clash {b z y : Bd} {f g : Fm} (nd : (b.map (·.1)).Nodup) (hf : FOk b f) (hg : FOk b g) (hz : z ∈ everyV b) (hy : y ∈ everyV b) (e : atV z f = atV y g) : clash b f g = false := by
  have h1 := at_lo nd hz hf
  have h2 := at_hi nd hz hf
  have h3 := at_lo nd hy hg
  have h4 := at_hi nd hy hg
  have hd := comm_dvd.mp (Int.dvd_refl (comm f g))
  have ha : comm f g ∣ f.1 - g.1 := by
    have e2 : f.1 - g.1 = (g.2.map fun q => q.2 * bv y q.1).sum - (f.2.map fun q => q.2 * bv z q.1).sum := by
      unfold atV at e; omega
    rw [e2]
    exact Int.dvd_sub (dvd_sum fun q hq => Int.dvd_trans (hd.2 q hq) (Int.dvd_mul_right _ _)) (dvd_sum fun q hq => Int.dvd_trans (hd.1 q hq) (Int.dvd_mul_right _ _))
  unfold clash apartT
  have e5 : decide ((span b f).2 < (span b g).1) = false := decide_eq_false (by omega)
  have e6 : decide ((span b g).2 < (span b f).1) = false := decide_eq_false (by omega)
  rw [e5, e6]
  by_cases h0 : comm f g = 0
  · rw [h0] at ha
    have : f.1 - g.1 = 0 := Int.zero_dvd.mp ha
    rw [this]; rfl
  · have : (f.1 - g.1) % comm f g = 0 := Int.emod_eq_zero_of_dvd ha
    rw [this]
    simp [h0]
theorem no_meet {b z y : Bd} {one other : List Fm} (hb : BOk b) (h1 : ∀ f ∈ one, FOk b f) (h2 : ∀ f ∈ other, FOk b f) (hz : z ∈ everyV b) (hy : y ∈ everyV b) (e : (one.map fun f => atV z f) = other.map fun f => atV y f) : nmV one other b = false := by
  unfold nmV
  rw [← rows_ne hb.nd fun q hq => (hb.rng q hq).1]
  have hne : (everyV b).isEmpty = false := by
    cases h : (everyV b).isEmpty with
    | false => rfl
    | true => rw [List.isEmpty_iff.mp h] at hz; cases hz
  rw [hne, Bool.false_or]
  have : ∀ (one other : List Fm), (∀ f ∈ one, FOk b f) → (∀ f ∈ other, FOk b f) → (one.map fun f => atV z f) = (other.map fun f => atV y f) → ((one.zip other).any fun p => clash b p.1 p.2) = false := by
    intro one
    induction one with
    | nil => intro other _ _ _; cases other <;> rfl
    | cons f r ih =>
      intro other h1 h2 e
      cases other with
      | nil => cases e
      | cons g s =>
        rw [List.map_cons, List.map_cons] at e
        obtain ⟨e1, e2⟩ := List.cons.inj e
        rw [List.zip_cons_cons, List.any_cons, no_clash hb.nd (h1 f List.mem_cons_self) (h2 g List.mem_cons_self) hz hy e1, Bool.false_or]
        exact ih s (fun q hq => h1 q (List.mem_cons_of_mem _ hq)) (fun q hq => h2 q (List.mem_cons_of_mem _ hq)) e2
  exact this one other h1 h2 e
end K47

set_option maxRecDepth 100000
namespace K47
open PySem PySem.Spec PyProof.Rows L2 Dv
/-! ### what is drawn -/
theorem take_rng (ns : List Int) {b : Int} (h : 0 < b) : 0 ≤ takeV ns b ∧ takeV ns b < b := by
  cases ns with
  | nil => exact ⟨Int.le_refl _, h⟩
  | cons n r => exact ⟨Int.emod_nonneg _ (by omega), Int.emod_lt_of_pos _ h⟩
/-- bounds drawn for names -/
def bnd : List Str → List Int → Bd × List Int
  | [], ns => ([], ns)
  | x :: xs, ns => ((x, takeV ns 6) :: (bnd xs (takeR ns)).1, (bnd xs (takeR ns)).2)
theorem bnd_keys : ∀ (xs : List Str) (ns : List Int), (bnd xs ns).1.map (·.1) = xs
  | [], _ => rfl
  | x :: xs, ns => by show x :: _ = _; rw [bnd_keys xs]
theorem bnd_rng : ∀ (xs : List Str) (ns : List Int), ∀ q ∈ (bnd xs ns).1, 0 ≤ q.2 ∧ q.2 ≤ 5
  | [], _, q, h => by cases h
  | x :: xs, ns, q, h => by
    rcases List.mem_cons.mp h with e | h
    · rw [e]
      have := take_rng ns (b := 6) (by decide)
      show 0 ≤ takeV ns 6 ∧ takeV ns 6 ≤ 5
      omega
    · exact bnd_rng xs _ q h
def nms : List Str := ["i", "j", "k"]
theorem srt_nms : ∀ n, n ≤ 3 → ∀ zs : List Str, zs.Perm (nms.take n) → sortedS zs = true → zs = nms.take n := by
  intro n hn zs hp hs
  match n, hn with
  | 0, _ => exact List.Perm.eq_nil hp
  | 1, _ =>
    have hl := hp.length_eq
    match zs, hl with
    | [a], _ =>
      have := hp.mem_iff (a := a)
      have h : a = "i" := by simpa [nms] using this
      rw [h]; rfl
  | 2, _ =>
    have hl := hp.length_eq
    match zs, hl with
    | [a, b], _ =>
      have h1 : a ∈ nms.take 2 := hp.mem_iff.mp (by simp)
      have h2 : b ∈ nms.take 2 := hp.mem_iff.mp (by simp)
      have h3 : [a, b].Nodup := hp.nodup_iff.mpr (by decide)
      have h1 : a = "i" ∨ a = "j" := by simpa [nms] using h1
      have h2 : b = "i" ∨ b = "j" := by simpa [nms] using h2
      rcases h1 with rfl | rfl <;> rcases h2 with rfl | rfl
      · exact absurd h3 (by decide)
      · rfl
      · exact absurd hs (by decide +kernel)
      · exact absurd h3 (by decide)
  | 3, _ =>
    have hl := hp.length_eq
    match zs, hl with
    | [a, b, c], _ =>
      have h1 : a ∈ nms.take 3 := hp.mem_iff.mp (by simp)
      have h2 : b ∈ nms.take 3 := hp.mem_iff.mp (by simp)
      have h4 : c ∈ nms.take 3 := hp.mem_iff.mp (by simp)
      have h3 : [a, b, c].Nodup := hp.nodup_iff.mpr (by decide)
      have h1 : a = "i" ∨ a = "j" ∨ a = "k" := by simpa [nms] using h1
      have h2 : b = "i" ∨ b = "j" ∨ b = "k" := by simpa [nms] using h2
      have h4 : c = "i" ∨ c = "j" ∨ c = "k" := by simpa [nms] using h4
      rcases h1 with rfl | rfl | rfl <;> rcases h2 with rfl | rfl | rfl <;> rcases h4 with rfl | rfl | rfl <;> first | rfl | exact absurd h3 (by decide) | exact absurd hs (by decide +kernel)
theorem bnd_ok {n : Nat} (hn : n ≤ 3) (ns : List Int) : BOk (bnd (nms.take n) ns).1 := by
  refine ⟨?_, ?_, ?_, bnd_rng _ _⟩
  · have := congrArg List.length (bnd_keys (nms.take n) ns)
    rw [List.length_map, List.length_take] at this
    have e : nms.length = 3 := rfl
    omega
  · rw [bnd_keys]
    exact (show nms.Nodup by decide).sublist (List.take_sublist _ _)
  · rw [bnd_keys]
    exact srt_nms n hn
/-- terms drawn for names -/
theorem termS_ok {b : Bd} : ∀ (xs : List Str) (s : Bd × List Int) (L : List Str), (∀ q ∈ s.1, q.1 ∈ L) → (s.1.map (·.1)).Nodup → (∀ q ∈ s.1, q.2 ≠ 0 ∧ -4 ≤ q.2 ∧ q.2 ≤ 4) → xs.Nodup → (∀ x ∈ xs, x ∉ s.1.map (·.1)) → (∀ x ∈ xs, x ∈ L) →
    (∀ q ∈ (xs.foldl termS s).1, q.1 ∈ L) ∧ ((xs.foldl termS s).1.map (·.1)).Nodup ∧ ∀ q ∈ (xs.foldl termS s).1, q.2 ≠ 0 ∧ -4 ≤ q.2 ∧ q.2 ≤ 4
  | [], s, L, h1, h2, h3, _, _, _ => ⟨h1, h2, h3⟩
  | x :: xs, s, L, h1, h2, h3, h4, h5, h6 => by
    rw [List.nodup_cons] at h4
    rw [List.foldl_cons]
    by_cases hc : takeV (takeR s.2) 2 = 0 ∧ takeV s.2 9 - 4 ≠ 0
    · have e : termS s x = (s.1 ++ [(x, takeV s.2 9 - 4)], takeR (takeR s.2)) := by unfold termS; rw [if_pos hc]
      rw [e]
      have hr := take_rng s.2 (b := 9) (by decide)
      refine termS_ok (b := b) xs _ L (fun q hq => ?_) ?_ (fun q hq => ?_) h4.2 (fun y hy => ?_) fun y hy => h6 y (List.mem_cons_of_mem _ hy)
      · rcases List.mem_append.mp hq with z | z
        · exact h1 q z
        · have : q = (x, takeV s.2 9 - 4) := by simpa using z
          rw [this]; exact h6 x List.mem_cons_self
      · show ((s.1 ++ [(x, takeV s.2 9 - 4)]).map (·.1)).Nodup
        rw [List.map_append, List.nodup_append]
        refine ⟨h2, by simp, fun a ha c hc' => ?_⟩
        have : c = x := by simpa using hc'
        rw [this]
        intro z
        rw [z] at ha
        exact h5 x List.mem_cons_self ha
      · rcases List.mem_append.mp hq with z | z
        · exact h3 q z
        · have : q = (x, takeV s.2 9 - 4) := by simpa using z
          rw [this]
          exact ⟨hc.2, by show -4 ≤ takeV s.2 9 - 4; omega, by show takeV s.2 9 - 4 ≤ 4; omega⟩
      · show y ∉ (s.1 ++ [(x, takeV s.2 9 - 4)]).map (·.1)
        rw [List.map_append, List.mem_append]
        rintro (z | z)
        · exact h5 y (List.mem_cons_of_mem _ hy) z
        · have : y = x := by simpa using z
          rw [this] at hy
          exact h4.1 hy
    · have e : termS s x = (s.1, takeR (takeR s.2)) := by unfold termS; rw [if_neg hc]
      rw [e]
      exact termS_ok (b := b) xs _ L h1 h2 h3 h4.2 (fun y hy => h5 y (List.mem_cons_of_mem _ hy)) fun y hy => h6 y (List.mem_cons_of_mem _ hy)
theorem formS_ok {b : Bd} (hb : BOk b) : ∀ (l : List Nat) (s : List Fm × List Int), (∀ f ∈ s.1, FOk b f) → (∀ f ∈ (l.foldl (formS (b.map (·.1))) s).1, FOk b f) ∧ (l.foldl (formS (b.map (·.1))) s).1.length = s.1.length + l.length
  | [], s, h => ⟨h, rfl⟩
  | i :: l, s, h => by
    rw [List.foldl_cons]
    have hs := formS_ok hb l (formS (b.map (·.1)) s i) (fun f hf => by
      rcases List.mem_append.mp hf with z | z
      · exact h f z
      · have e : f = (takeV (termsV (b.map (·.1)) s.2).2 21 - 8, (termsV (b.map (·.1)) s.2).1) := by simpa using z
        rw [e]
        have ok := termS_ok (b := b) (b.map (·.1)) ([], s.2) (b.map (·.1)) (fun q hq => by cases hq) List.nodup_nil (fun q hq => by cases hq) hb.nd (fun x _ hx => by cases hx) fun x hx => hx
        have hl := terms_len (b.map (·.1)) ([], s.2)
        rw [List.length_map] at hl
        have hl : (List.foldl termS ([], s.2) (b.map (·.1))).1.length ≤ 0 + b.length := hl
        exact ⟨ok.1, ok.2.1, ok.2.2, by show (List.foldl termS ([], s.2) (b.map (·.1))).1.length ≤ 10; have := hb.few; omega⟩)
    refine ⟨hs.1, ?_⟩
    rw [hs.2]
    show (s.1 ++ [_]).length + l.length = s.1.length + (l.length + 1)
    rw [List.length_append, List.length_singleton]
    omega
theorem forms_ok {b : Bd} (hb : BOk b) (n : Nat) (ns : List Int) : (∀ f ∈ (formsV (b.map (·.1)) n ns).1, FOk b f) ∧ (formsV (b.map (·.1)) n ns).1.length = n := by
  have h := formS_ok hb (List.range n) ([], ns) (fun f hf => by cases hf)
  refine ⟨h.1, ?_⟩
  have e := h.2
  rw [List.length_range] at e
  show (List.foldl (formS (b.map (·.1))) ([], ns) (List.range n)).1.length = n
  rw [e]; simp
/-! ### keys -/
theorem putI_keys {kvs : List (List Int × D)} {k j : List Int} {d : D} : j ∈ (putI kvs k d).map (·.1) ↔ j ∈ kvs.map (·.1) ∨ j = k := by
  unfold putI
  split
  · rename_i h
    have e : (kvs.map (fun q => if q.1 = k then (q.1, d) else q)).map (·.1) = kvs.map (·.1) := by
      rw [List.map_map]
      refine List.map_congr_left fun q _ => ?_
      show (if q.1 = k then (q.1, d) else q).1 = q.1
      split <;> rfl
    rw [e]
    constructor
    · exact .inl
    · rintro (z | z)
      · exact z
      · obtain ⟨q, hq, hk⟩ := List.any_eq_true.mp h
        rw [z, ← of_decide_eq_true hk]
        exact List.mem_map.mpr ⟨q, hq, rfl⟩
  · rw [List.map_append, List.mem_append]; simp
theorem mergeI_keys {j : List Int} : ∀ {more kvs : List (List Int × D)}, j ∈ (mergeI kvs more).map (·.1) ↔ j ∈ kvs.map (·.1) ∨ j ∈ more.map (·.1)
  | [], kvs => by simp [mergeI]
  | q :: more, kvs => by
    show j ∈ (mergeI (putI kvs q.1 q.2) more).map (·.1) ↔ _
    rw [mergeI_keys, putI_keys, List.map_cons, List.mem_cons]
    constructor
    · rintro ((h | h) | h)
      · exact .inl h
      · exact .inr (.inl h)
      · exact .inr (.inr h)
    · rintro (h | h | h)
      · exact .inl (.inl h)
      · exact .inl (.inr h)
      · exact .inr h
theorem putI_len {kvs : List (List Int × D)} {k : List Int} {d : D} : (putI kvs k d).length ≤ kvs.length + 1 := by
  unfold putI
  split
  · rw [List.length_map]; omega
  · rw [List.length_append]; simp
theorem mergeI_len : ∀ {more kvs : List (List Int × D)}, (mergeI kvs more).length ≤ kvs.length + more.length
  | [], kvs => Nat.le_refl _
  | q :: more, kvs => by
    have h1 := mergeI_len (more := more) (kvs := putI kvs q.1 q.2)
    have h2 := putI_len (kvs := kvs) (k := q.1) (d := q.2)
    show (mergeI (putI kvs q.1 q.2) more).length ≤ _
    rw [List.length_cons]
    omega
/-- the cells that the forms reach -/
def cells (fs : List Fm) (rows : List Bd) : List (List Int × D) := mergeI [] (rows.map fun z => (fs.map fun f => atV z f, .int 1))
theorem cells_keys {fs : List Fm} {rows : List Bd} {j : List Int} : j ∈ (cells fs rows).map (·.1) ↔ ∃ z ∈ rows, j = fs.map fun f => atV z f := by
  unfold cells
  rw [mergeI_keys, List.map_map]
  constructor
  · rintro (h | h)
    · cases h
    · obtain ⟨z, h1, h2⟩ := List.mem_map.mp h
      exact ⟨z, h1, h2.symm⟩
  · rintro ⟨z, h1, h2⟩
    exact .inr (List.mem_map.mpr ⟨z, h1, h2.symm⟩)
theorem cells_len (fs : List Fm) (rows : List Bd) : (cells fs rows).length ≤ rows.length := by
  have := mergeI_len (kvs := []) (more := rows.map fun z => (fs.map fun f => atV z f, PyData.int 1))
  rw [List.length_map, List.length_nil, Nat.zero_add] at this
  exact this
theorem cells_ne (fs gs : List Fm) (rows : List Bd) : cells fs rows = [] ∨ cells gs rows ≠ [] := by
  cases rows with
  | nil => exact .inl rfl
  | cons z r =>
    refine .inr fun e => ?_
    have : (gs.map fun f => atV z f) ∈ (cells gs (z :: r)).map (·.1) := cells_keys.mpr ⟨z, List.mem_cons_self, rfl⟩
    rw [e] at this; cases this
/-- told, and met: not both -/
theorem told_meet {b : Bd} {one other : List Fm} (hb : BOk b) (h1 : ∀ f ∈ one, FOk b f) (h2 : ∀ f ∈ other, FOk b f) : (nmV one other b && !(keepI (cells one (everyV b)) (cells other (everyV b))).isEmpty) = false := by
  cases h : (keepI (cells one (everyV b)) (cells other (everyV b))).isEmpty with
  | true => rw [Bool.not_true, Bool.and_false]
  | false =>
    have hne : keepI (cells one (everyV b)) (cells other (everyV b)) ≠ [] := fun z => by rw [z] at h; cases h
    unfold keepI at hne
    have hne2 : ((cells one (everyV b)).filter fun q => (cells other (everyV b)).any fun p => decide (p.1 = q.1)) ≠ [] := fun z => hne (by rw [z]; rfl)
    obtain ⟨q, hq⟩ := List.exists_mem_of_ne_nil _ hne2
    obtain ⟨hq1, hq2⟩ := List.mem_filter.mp hq
    obtain ⟨p, hp, hpq⟩ := List.any_eq_true.mp hq2
    obtain ⟨z, hz, e1⟩ := cells_keys.mp (List.mem_map.mpr ⟨q, hq1, rfl⟩)
    obtain ⟨y, hy, e2⟩ := cells_keys.mp (List.mem_map.mpr ⟨p, hp, rfl⟩)
    rw [no_meet hb h1 h2 hz hy (by rw [← e1, ← e2]; exact (show p.1 = q.1 from of_decide_eq_true hpq).symm), Bool.false_and]
theorem every_few {b : Bd} (hb : BOk b) : (everyV b).length ≤ 125 := by
  have key : ∀ (xs : List Str) (found : List Bd), (∀ x ∈ xs, bv b x ≤ 5) → (xs.foldl (everyS b) found).length ≤ 5 ^ xs.length * found.length := by
    intro xs
    induction xs with
    | nil => intro found _; simp
    | cons x xs ih =>
      intro found h
      rw [List.foldl_cons, List.length_cons, Nat.pow_succ]
      have h1 := ih (everyS b found x) fun y hy => h y (List.mem_cons_of_mem _ hy)
      have h2 := every_len (h x List.mem_cons_self) found []
      rw [List.length_nil, Nat.zero_add] at h2
      have h3 : (everyS b found x).length ≤ 5 * found.length := h2
      calc _ ≤ 5 ^ xs.length * (everyS b found x).length := h1
        _ ≤ 5 ^ xs.length * (5 * found.length) := Nat.mul_le_mul_left _ h3
        _ = _ := by rw [Nat.mul_assoc]
  have h := key (b.map (·.1)) [[]] fun x hx => (bv_rng hb hx).2
  refine Nat.le_trans h ?_
  rw [List.length_map, List.length_singleton, Nat.mul_one]
  exact Nat.le_trans (Nat.pow_le_pow_right (by decide) hb.few) (by decide)
end K47

set_option maxRecDepth 100000
set_option maxHeartbeats 4000000
namespace K47
open PySem PySem.Spec PyProof.Rows L2 Dv
abbrev sLaw : Stmt := topS 13
theorem scLaw : FnScope ["script", "draws", "turn", "names", "name", "bounds", "many", "one", "other", "told", "rows", "row", "mine", "its", "meet", "due", "k", "common", "apart", "first", "second"] ["script"] (defScope sLaw) := ⟨rfl, rfl, rfl, by decide +kernel, rfl, by decide +kernel, by decide +kernel⟩
def RLaw : Sl → D → Sl → Prop := fun args d args' => ∃ sc : List Int, args = [.dat (.list (sc.map .int))] ∧ sc.length ≤ 63 ∧ d = .bool true ∧ args' = args
/-- a def that can be called -/
structure Cal (P : Program) (w : World) (K : PySem.W.Frag) (mg : Str → Option Value) (base : Heap) (n : Nat) (x : Str) (ps : List Str) (sp : Sp) (f : Addr) (fd : FuncData) : Prop where
  ok : FnOk P w K mg base CX0 n f fd ps sp
  mg : mg x = some (.ref f)
  kp : PySem.W.keepIn K (.ref f) = true
  bs : Binds K fd ps []
/-- the names of law -/
def lS (sc : List Int) (l : Addr) (ns : List Int) (nm bd mn on ot tl rw mi it me du : Slot) : Sl :=
  [.dat (.list (sc.map .int)), .own l (enc ns), .un, nm, .un, bd, mn, on, ot, tl, rw, .un, mi, it, me, du, .un, .un, .un, .un, .un]
theorem lcF_bnd : ∀ (xs : List Str) (ns : List Int), lcF (fun ns (x : Str) => (takeR ns, some (PyData.tuple [.str x, .int (takeV ns 6)]))) ns xs = ((bnd xs ns).2, (bnd xs ns).1.map pD)
  | [], ns => rfl
  | x :: xs, ns => by
    show ((lcF _ (takeR ns) xs).1, [_] ++ (lcF _ (takeR ns) xs).2) = _
    rw [lcF_bnd xs]; rfl
section
variable {P : Program} {w : World} {K : PySem.W.Frag} {mg : Str → Option Value} {base : Heap} {T : List Addr}
theorem ok_law {f fd' ft ff fn fe fa fr fv : Addr} {fd fdd fdt fdf fdn fde fda fdr fdv : FuncData} {n : Nat} (F : Fun K "law" "law" sLaw f fd)
    (cd : Cal P w K mg base (n + 1) "_law_draws" ["script"] (PrC K T 1 (fun ds => ∃ sc : List Int, ds = [.list (sc.map .int)] ∧ sc.length ≤ 63) (fun ds => ∃ ns : List Int, ds = ns.reverse.map .int)) fd' fdd)
    (ct : Tk P w K mg base T (n + 1) ft fdt)
    (cf : Cal P w K mg base (n + 2) "_law_forms" ["draws", "names", "many"] (PrD K T 3 RForms) ff fdf)
    (cn : Cal P w K mg base (n + 2) "never_meet" ["one", "other", "bounds"] (PrD K T 3 RNever) fn fdn)
    (ce : Cal P w K mg base (n + 1) "_law_every" ["bounds"] (PrD K T 1 REvery) fe fde)
    (ca : Cal P w K mg base (n + 1) "_law_at" ["form", "known"] (PrD K T 2 RAt) fa fda)
    (cr : Cal P w K mg base (n + 2) "_law_row" ["forms", "known"] (PrD K T 2 RRow) fr fdr)
    (cv : Cal P w K mg base (n + 2) "_law_divisor" ["forms"] (PrD K T 1 RDivisor) fv fdv)
    (mr : mg "range" = none) (md : mg "dict" = none) (mi : mg "isinstance" = none) (mb : mg "bool" = none) (mmax : mg "max" = none) (mmin : mg "min" = none) :
    FnOk P w K mg base CX0 (n + 3) f fd ["script"] (PrD K T 1 RLaw) := by
  refine fn_d F scLaw RLaw fun cdv A outer s H E B args d args' hr hl he sh hR => ?_
  obtain ⟨sc, rfl, hsc, rfl, rfl⟩ := hR
  have hz : sizeLine = 16777216 := rfl
  have hr1 := hr.mono (j := n + 1) (by omega)
  have hu8 : (A.deeper (envOfC "law" (defScope sLaw) s.heap.objs.size f cdv)).units + 64 < cLine := by have := hr.un; omega
  have hu0 : (A.deeper (envOfC "law" (defScope sLaw) s.heap.objs.size f cdv)).units + 8 < cLine := by omega
  have hu1 : (A.deeper (envOfC "law" (defScope sLaw) s.heap.objs.size f cdv)).units + 1 < cLine := by omega
  refine sx_setC (i := 1) cd.ok hr1 rfl cd.mg cd.kp cd.bs (ax_cons (nm 0) ax_nil) rfl ⟨sc, rfl, hsc⟩ scLaw.nd (fun out l hG => ?_)
  obtain ⟨ns0, rfl⟩ := hG
  refine sx_forI [2] (fun ns : List Int => lS sc l ns .un .un .un .un .un .un .un .un .un .un .un) (fun _ _ => True) (fun _ => True) ns0 PassesOwn.never rfl (ix_n (n := 12) rfl mr ex_int (by decide)) (Fg.refl _) trivial (fun B' i ns d hd _ => ?_) (fun _ _ => trivial) (fun ns _ => ?_)
  · refine ⟨_, gn 2 scLaw.nd, ?_⟩
    have t3 := take_rng ns (b := 3) (by decide)
    refine st 3 scLaw.nd (EX.to (ex_sliceTo (n := 1 + (takeV ns 3).toNat) (ex_lst (ax_cons ex_str (ax_cons ex_str (ax_cons ex_str ax_nil))) (by decide)) (EX.to (ex_add ex_int (tk 1 ct hr1 (by decide))) ?_)) (d1 := .list ((nms.take (1 + (takeV ns 3).toNat)).map .str)) ?_) ?_
    · exact congrArg PyData.int (by omega)
    · rw [List.map_take]; rfl
    have hn3 : 1 + (takeV ns 3).toNat ≤ 3 := by omega
    generalize 1 + (takeV ns 3).toNat = m at hn3 ⊢
    have hb := bnd_ok hn3 (takeR ns)
    have hk := bnd_keys (nms.take m) (takeR ns)
    generalize hnm : nms.take m = xs at hb hk ⊢
    have hxl : xs.length ≤ 3 := by rw [← hnm, List.length_take]; omega
    generalize hns1 : takeR ns = ns1 at hb hk ⊢
    refine SXs.fg (ρ1 := lS sc l ns1 (.dat (.list (xs.map .str))) .un .un .un .un .un .un .un .un .un .un) ?_ ?_
    rotate_left
    · repeat (first | exact Fg.nil | refine Fg.same ?_ | refine Fg.un ?_)
    --have hlc : ∀ {B : Bs} {pos : Pos} {e1 e2 e3}, EO (cxOf CX0 P w K mg base _ "law" (defScope sLaw) f cdv A outer s H E).nox T B (lS sc l ns1 (.dat (.list (xs.map .str))) .un .un .un .un .un .un .un .un .un .un) (.ListComp e1 e2 e3 pos) [l] (lS sc l (bnd xs ns1).2 (.dat (.list (xs.map .str))) .un .un .un .un .un .un .un .un .un .un) ((bnd xs ns1).1.map pD) := fun {B pos e1 e2 e3} => by skip
    refine st 5 scLaw.nd (ex_dictS (kvs := dI (bnd xs ns1).1) rfl rfl md (EX.l (EX.to (EO.ex (eo_lc (fun ns' => lS sc l ns' (.dat (.list (xs.map .str))) .un .un .un .un .un .un .un .un .un .un) ns1 (fun ns (x : Str) => (takeR ns, some (PyData.tuple [.str x, .int (takeV ns 6)]))) .str (own := [("name", 4)]) (Wc := [l]) rfl scLaw.nd (ix_l (nm 3)) (blk rfl (by rfl)) (by omega) (fun s => ?_) rfl (fun a ha => ?_) (fun s x hx => ⟨fun B'' => ?_⟩))) ?_)) ?_) ?_
    · exact .same (.own (Sh.refl _))
    · exact ha
    · exact tW (fun s H C cl fp => gn 4 scLaw.nd) (fun s H C cl fp => txs_nil) (fun s H C cl fp => ex_tup (ax_cons (nm 4) (ax_cons (tk 1 ct hr1 (by decide)) ax_nil)) (len2 _ _))
        (by repeat (first | exact Fg.nil | refine Fg.same ?_ | refine Fg.un ?_)) (fun a ha => ha)
    · rw [lcF_bnd]; unfold dI; rw [List.map_map]; rfl
    · rw [dI_keys, hk]; exact hb.nd |> fun z => by rw [hk] at z; exact z
    rw [lcF_bnd]
    generalize hbq : (bnd xs ns1).1 = b at hb hk ⊢
    generalize (bnd xs ns1).2 = ns2
    clear hbq hns1 hnm hd
    subst hk
    have t2 := take_rng ns2 (b := 2) (by decide)
    refine st 6 scLaw.nd (EX.to (ex_add ex_int (tk 1 ct hr1 (by decide))) (d1 := .int ((1 + (takeV ns2 2).toNat : Nat) : Int)) ?_) ?_
    · exact congrArg PyData.int (by show 1 + takeV ns2 2 = _; omega)
    have hm2 : 1 + (takeV ns2 2).toNat ≤ 2 := by omega
    generalize 1 + (takeV ns2 2).toNat = m2 at hm2 ⊢
    generalize takeR ns2 = ns3
    have ho1 := forms_ok hb m2 ns3
    refine sx_asg (ex_tup (ax_cons (ex_callO cf.ok hr rfl cf.mg cf.kp cf.bs (i1 := 1) rfl (.inr (.inl rfl)) rfl (ax_cons (nm 3) (ax_cons (nm 6) ax_nil)) rfl rfl ⟨l, ns3, b.map (·.1), m2, rfl, by omega, by omega, rfl, rfl⟩)
      (ax_cons (ex_callO cf.ok hr rfl cf.mg cf.kp cf.bs (i1 := 1) rfl (.inr (.inl rfl)) rfl (ax_cons (nm 3) (ax_cons (nm 6) ax_nil)) rfl rfl ⟨l, (formsV (b.map (·.1)) m2 ns3).2, b.map (·.1), m2, rfl, by omega, by omega, rfl, rfl⟩) ax_nil)) (len2 _ _))
      (gx_tup (vs := [7, 8]) rfl (gxs_cons (gn 7 scLaw.nd) (gxs_cons (gn 8 scLaw.nd) gxs_nil sub_set) sub_set) rfl) ?_
    have ho2 := forms_ok hb m2 (formsV (b.map (·.1)) m2 ns3).2
    generalize (formsV (b.map (·.1)) m2 (formsV (b.map (·.1)) m2 ns3).2).2 = ns4
    generalize (formsV (b.map (·.1)) m2 (formsV (b.map (·.1)) m2 ns3).2).1 = other at ho2 ⊢
    generalize (formsV (b.map (·.1)) m2 ns3).1 = one at ho1 ⊢
    refine SXs.fg (ρ1 := lS sc l ns4 .un (.dat (bD b)) (.dat (.int (m2 : Nat))) (.dat (fsD one)) (.dat (fsD other)) .un .un .un .un .un .un) ?_ ?_
    rotate_left
    · repeat (first | exact Fg.nil | refine Fg.same ?_ | refine Fg.un ?_)
    refine st 9 scLaw.nd (ex_call cn.ok hr rfl cn.mg cn.kp cn.bs (ax_cons (nm 7) (ax_cons (nm 8) (ax_cons (nm 5) ax_nil))) rfl ⟨one, other, b, rfl, fun f hf => (ho1.1 f hf).fok rfl, fun f hf => (ho2.1 f hf).fok rfl, rfl, rfl⟩) ?_
    refine st 10 scLaw.nd (ex_call ce.ok hr1 rfl ce.mg ce.kp ce.bs (ax_cons (nm 5) ax_nil) rfl ⟨b, rfl, hb, rfl, rfl⟩) ?_
    have hre := every_few hb
    have cellx : ∀ (fs : List Fm) (rows : List Bd), PyData.list (rows.filterMap fun z => some (PyData.tuple [rowD fs z, .int 1])) = .list ((rows.map fun z => (fs.map fun f => atV z f, PyData.int 1)).map fun q => .tuple [.tuple (q.1.map .int), q.2]) := fun fs rows => by
      rw [fm_some, List.map_map]; rfl
    refine sx_asg (ex_tup (ax_cons
        (ex_dictT (kvs := (everyV b).map fun z => (one.map fun f => atV z f, PyData.int 1)) rfl hu0 rfl md (EX.l (EX.to (EO.ex (eo_lcM (everyV b) bD (fun z => some (.tuple [rowD one z, .int 1])) [("row", 11)] rfl scLaw.nd (ix_l (nm 10)) (blk rfl (by rfl)) (by omega) rfl (fun z hz B'' => ?_))) (cellx one _))))
      (ax_cons
        (ex_dictT (kvs := (everyV b).map fun z => (other.map fun f => atV z f, PyData.int 1)) rfl hu0 rfl md (EX.l (EX.to (EO.ex (eo_lcM (everyV b) bD (fun z => some (.tuple [rowD other z, .int 1])) [("row", 11)] rfl scLaw.nd (ix_l (nm 10)) (blk rfl (by rfl)) (by omega) rfl (fun z hz B'' => ?_))) (cellx other _)))) ax_nil)) (len2 _ _))
      (gx_tup (vs := [12, 13]) rfl (gxs_cons (gn 12 scLaw.nd) (gxs_cons (gn 13 scLaw.nd) gxs_nil sub_set) sub_set) rfl) ?_
    · exact tM rfl (fun s H C cl fp => gn 11 scLaw.nd) (fun s H C cl fp => txs_nil) (fun s H C cl fp => EX.w (ex_tup (ax_cons (ex_call cr.ok hr rfl cr.mg cr.kp cr.bs (ax_cons (nm 7) (ax_cons (nm 11) ax_nil)) rfl ⟨one, z, rfl, by rw [ho1.2]; omega, fun f hf => (ho1.1 f hf).fok (rows_mem.mp hz).1, rfl, rfl⟩) (ax_cons ex_int ax_nil)) (len2 _ _)) rfl)
        (by repeat (first | exact Fg.nil | refine Fg.same ?_ | refine Fg.un ?_))
    · exact tM rfl (fun s H C cl fp => gn 11 scLaw.nd) (fun s H C cl fp => txs_nil) (fun s H C cl fp => EX.w (ex_tup (ax_cons (ex_call cr.ok hr rfl cr.mg cr.kp cr.bs (ax_cons (nm 8) (ax_cons (nm 11) ax_nil)) rfl ⟨other, z, rfl, by rw [ho2.2]; omega, fun f hf => (ho2.1 f hf).fok (rows_mem.mp hz).1, rfl, rfl⟩) (ax_cons ex_int ax_nil)) (len2 _ _)) rfl)
        (by repeat (first | exact Fg.nil | refine Fg.same ?_ | refine Fg.un ?_))
    refine st 14 scLaw.nd (ex_neE hu1 (r2 (ex_keep (i := 12) (j := 13) (r := 11) (ds := cells one (everyV b)) (es := cells other (everyV b)) rfl scLaw.nd hu1 (by have := cells_len one (everyV b); omega) (cells_ne _ _ _) rfl rfl rfl rfl rfl (Nat.le_of_ble_eq_true rfl) (by decide) (by decide) rfl
      (.inl rfl) (blk rfl (by rfl)) (fun s H C cl fp => by first | exact Or.inl rfl | exact Or.inr (Or.inl rfl) | exact Or.inr (Or.inr rfl)) (fun s H C cl fp => by exact .inl rfl) (fun s H C cl fp => by exact .inl rfl) (fun s H C cl fp => by exact .inr rfl)) (ex_lst ax_nil (by decide)))) ?_
    have htm := told_meet hb ho1.1 ho2.1
    refine sx_ifR (kb := false) (TX.to (WX.t (wx_or (tx_not (tx_val (ex_isBool rfl mi rfl mb (nm 9)) (fun _ => rfl))) (fun h => wx_or1 (WX.t (wx_and (tx_val (nm 9) (fun _ => rfl)) (fun h => wx_and1 (tx_val (nm 14) (fun _ => rfl)))))))) (by rw [htm]; rfl)) (fun h => by cases h) (fun _ => ?_)
    refine st 15 scLaw.nd (EX.to (ex_eqE hu1 (r2 (nm 10) (ex_lst ax_nil (by decide)))) (d1 := .bool (everyV b).isEmpty) (by rw [List.isEmpty_map])) ?_
    refine sx_forI [16] (fun d : Bool => lS sc l ns4 .un (.dat (bD b)) (.dat (.int (m2 : Nat))) (.dat (fsD one)) (.dat (fsD other)) (.dat (.bool (nmV one other b))) (.dat (.list ((everyV b).map bD))) .un .un .un (.dat (.bool d)))
      (fun i d => d = ((everyV b).isEmpty || ((one.zip other).take i).any fun p => dueT b p.1 p.2)) (fun d => d = dueV one other b) (everyV b).isEmpty PassesOwn.never rfl (ix_n rfl mr (nm 6) (by omega)) ?_ (by simp) (fun B3 i d q hq hJ => ?_) (fun d h => ?_) (fun d hd => ?_)
    · repeat (first | exact Fg.nil | refine Fg.same ?_ | refine Fg.un ?_)
    · have hi : i < m2 := by
        have z := (List.getElem?_eq_some_iff.mp hq).1
        rw [List.length_map, List.length_range] at z; exact z
      have eq : q = .int (i : Int) := by
        rw [List.getElem?_map, List.getElem?_range hi] at hq
        exact (Option.some.inj hq).symm
      subst eq
      obtain ⟨f, hf⟩ : ∃ f, one[i]? = some f := ⟨_, List.getElem?_eq_getElem (by rw [ho1.2]; exact hi)⟩
      obtain ⟨g, hg⟩ : ∃ g, other[i]? = some g := ⟨_, List.getElem?_eq_getElem (by rw [ho2.2]; exact hi)⟩
      have hfo := ho1.1 f (List.mem_of_getElem? hf)
      have hgo := ho2.1 g (List.mem_of_getElem? hg)
      have e1 : (one.map fD)[i]? = some (fD f) := by rw [List.getElem?_map, hf]; rfl
      have e2 : (other.map fD)[i]? = some (fD g) := by rw [List.getElem?_map, hg]; rfl
      have hzip : (one.zip other)[i]? = some (f, g) := List.getElem?_zip_eq_some.mpr ⟨hf, hg⟩
      have hJ' : (d || dueT b f g) = ((everyV b).isEmpty || ((one.zip other).take (i + 1)).any fun p => dueT b p.1 p.2) := by
        rw [List.take_add_one, hzip, List.any_append, hJ, Bool.or_assoc]
        show _ = (_ || (_ || (dueT b f g || false)))
        rw [Bool.or_false]
      have hc4 := comm_4 hfo hgo
      have hcd := div_comm hfo hgo
      rw [← hcd] at hc4
      refine ⟨_, gn 16 scLaw.nd, ?_⟩
      refine pr2 17 18 rfl scLaw.nd (ex_call cv.ok hr rfl cv.mg cv.kp cv.bs (ax_cons (EX.to (ex_lst (ax_cons (ex_ixT (nm 7) (nm 16) (Dv.atI_nat e1) (fun _ _ => rfl)) (ax_cons (ex_ixT (nm 8) (nm 16) (Dv.atI_nat e2) (fun _ _ => rfl)) ax_nil)) (len2 _ _)) (d1 := .list ([f, g].map fD)) rfl) ax_nil) rfl
          ⟨[f, g], rfl, (by show 2 ≤ 10; omega), (fun h hh => ?_), rfl, rfl⟩)
        (ex_sub (ex_ixT (ex_ixT (nm 7) (nm 16) (Dv.atI_nat e1) (fun _ _ => rfl)) ex_int rfl (fun _ _ => rfl)) (ex_ixT (ex_ixT (nm 8) (nm 16) (Dv.atI_nat e2) (fun _ _ => rfl)) ex_int rfl (fun _ _ => rfl))) ?_
      · rcases List.mem_cons.mp hh with z | z
        · rw [z]; exact Nat.le_trans hfo.len (by decide)
        · have : h = g := by simpa using z
          rw [this]; exact Nat.le_trans hgo.len (by decide)
      refine st 15 scLaw.nd (EX.to (ex_or (nm 15) (fun _ => ex_or (ex_and (ex_eqI (r2 (nm 17) ex_int)) (fun _ => ex_one (ex_neI (r2 (nm 18) ex_int)))) (fun _ => ex_one (ex_and (ex_gt (r2 (nm 17) ex_int)) (fun h => ex_one (ex_neI (r2 (ex_mul (ex_fdiv (nm 18) (nm 17) ?_) (nm 17) (.inr ⟨?_, ?_⟩)) (nm 18)))))))) (d1 := .bool (d || gT (divV (factorsV [f, g])) (f.1 - g.1))) rfl) ?_
      · have h := of_decide_eq_true h; exact ⟨h, by omega⟩
      · have h := of_decide_eq_true h; omega
      · have h := of_decide_eq_true h; omega
      refine sx_ifF (ρ2 := lS sc l ns4 .un (.dat (bD b)) (.dat (.int (m2 : Nat))) (.dat (fsD one)) (.dat (fsD other)) (.dat (.bool (nmV one other b))) (.dat (.list ((everyV b).map bD))) .un .un .un (.dat (.bool (d || dueT b f g)))) (tx_neE hu1 (r2 (nm 10) (ex_lst ax_nil (by decide)))) (fun h => ?_) (fun h => ?_) (sx_nil ⟨_, hJ', Fg.refl _⟩)
      · rw [List.isEmpty_map] at h
        have hne : (everyV b).isEmpty = false := by simpa using h
        have hnn : ∀ h : Fm, ((everyV b).map fun z => atV z h) ≠ [] := fun h z => by rw [List.map_eq_nil_iff.mp z] at hne; cases hne
        have atx : ∀ h : Fm, PyData.list ((everyV b).filterMap fun z => some (PyData.int (atV z h))) = .list (((everyV b).map fun z => atV z h).map .int) := fun h => by rw [fm_some, List.map_map]; rfl
        refine pr2 19 20 rfl scLaw.nd (EX.to (EO.ex (eo_lcM (everyV b) bD (fun z => some (.int (atV z f))) [("row", 11)] rfl scLaw.nd (ix_l (nm 10)) (blk rfl (by rfl)) (by omega) rfl (fun z hz B'' => ?_))) (atx f))
          (EX.to (EO.ex (eo_lcM (everyV b) bD (fun z => some (.int (atV z g))) [("row", 11)] rfl scLaw.nd (ix_l (nm 10)) (blk rfl (by rfl)) (by omega) rfl (fun z hz B'' => ?_))) (atx g)) ?_
        · exact tM rfl (fun s H C cl fp => gn 11 scLaw.nd) (fun s H C cl fp => txs_nil) (fun s H C cl fp => EX.w (ex_call ca.ok hr1 rfl ca.mg ca.kp ca.bs (ax_cons (ex_ixT (nm 7) (nm 16) (Dv.atI_nat e1) (fun _ _ => rfl)) (ax_cons (nm 11) ax_nil)) rfl ⟨f, z, rfl, hfo.fok (rows_mem.mp hz).1, rfl, rfl⟩) rfl)
            (by repeat (first | exact Fg.nil | refine Fg.same ?_ | refine Fg.un ?_))
        · exact tM rfl (fun s H C cl fp => gn 11 scLaw.nd) (fun s H C cl fp => txs_nil) (fun s H C cl fp => EX.w (ex_call ca.ok hr1 rfl ca.mg ca.kp ca.bs (ax_cons (ex_ixT (nm 8) (nm 16) (Dv.atI_nat e2) (fun _ _ => rfl)) (ax_cons (nm 11) ax_nil)) rfl ⟨g, z, rfl, hgo.fok (rows_mem.mp hz).1, rfl, rfl⟩) rfl)
            (by repeat (first | exact Fg.nil | refine Fg.same ?_ | refine Fg.un ?_))
        refine st 15 scLaw.nd (EX.to (ex_or (nm 15) (fun _ => EX.w (ex_or (ex_lt (r2 (ex_max rfl rfl mmax (EX.l (nm 19)) (hnn f)) (ex_min rfl rfl mmin (EX.l (nm 20)) (hnn g)))) (fun _ => ex_one (EX.w (ex_lt (r2 (ex_max rfl rfl mmax (EX.l (nm 20)) (hnn g)) (ex_min rfl rfl mmin (EX.l (nm 19)) (hnn f)))) rfl))) rfl)) (d1 := .bool (d || dueT b f g)) ?_) (sx_nil ?_)
        · unfold dueT outT
          rw [hne, Bool.not_false, Bool.true_and, ← Bool.or_assoc d]
        · repeat (first | exact Fg.nil | refine Fg.same ?_ | refine Fg.un ?_)
      · rw [List.isEmpty_map] at h
        have hne : (everyV b).isEmpty = true := by simpa using h
        have ed : dueT b f g = gT (divV (factorsV [f, g])) (f.1 - g.1) := by unfold dueT; rw [hne, Bool.not_true, Bool.false_and, Bool.or_false]
        rw [ed]
        refine sx_nil ?_
        repeat (first | exact Fg.nil | refine Fg.same ?_ | refine Fg.un ?_)
    · rw [List.length_map, List.length_range] at h
      rw [h]
      unfold dueV
      rw [List.take_of_length_le (by rw [List.length_zip, ho1.2, ho2.2]; omega)]
    · have hdue := due_eq hb ho1.1 ho2.1
      refine sx_ifR (kb := false) (TX.to (WX.t (wx_or (tx_neB (r2 (nm 9) (nm 15))) (fun _ => wx_or1 (TX.w (tx_neB (r2 (ex_call cn.ok hr rfl cn.mg cn.kp cn.bs (ax_cons (nm 8) (ax_cons (nm 7) (ax_cons (nm 5) ax_nil))) rfl ⟨other, one, b, rfl, fun f hf => (ho2.1 f hf).fok rfl, fun f hf => (ho1.1 f hf).fok rfl, rfl, rfl⟩) (nm 9))) rfl)))) ?_) (fun h => by cases h) (fun _ => sx_nil ⟨ns4, trivial, ?_⟩)
      · rw [nm_symm other one, hd, ← hdue]; simp
      · repeat (first | exact Fg.nil | refine Fg.same ?_ | refine Fg.un ?_)
  · refine sx_ret (EX.to (ex_and (ex_isB (r2 (ex_call cn.ok hr rfl cn.mg cn.kp cn.bs (ax_cons (ex_tup ax_nil (by decide)) (ax_cons (ex_tup ax_nil (by decide)) (ax_cons ex_dict0 ax_nil))) rfl ⟨[], [], [], rfl, (fun f hf => by cases hf), (fun f hf => by cases hf), rfl, rfl⟩) ex_bl))
      (fun _ => ex_one (EX.w (ex_isB (r2 (ex_call cn.ok hr rfl cn.mg cn.kp cn.bs (ax_cons (ex_tup (ax_cons (ex_tup (ax_cons ex_int (ax_cons (ex_tup ax_nil (by decide)) ax_nil)) (by decide)) ax_nil) (by decide)) (ax_cons (ex_tup (ax_cons (ex_tup (ax_cons ex_int (ax_cons (ex_tup ax_nil (by decide)) ax_nil)) (by decide)) ax_nil) (by decide)) (ax_cons ex_dict0 ax_nil))) rfl
        ⟨[(1, [])], [(2, [])], [], rfl, (fun f hf => by rw [List.mem_singleton.mp hf]; exact ⟨by decide, fun q hq => by cases hq⟩), (fun f hf => by rw [List.mem_singleton.mp hf]; exact ⟨by decide, fun q hq => by cases hq⟩), rfl, rfl⟩) ex_bl)) rfl))) ?_) ⟨rfl, back0 (args := [_])⟩
    exact congrArg PyData.bool (by decide +kernel)
end
end K47

set_option maxRecDepth 100000
namespace K47
open PySem PySem.Spec PyProof.Rows L2 Dv
/-! ### what the top has written; the law's own head -/
theorem codeHd_tab {q : Program} {loose : List Str} {mean : ExcName → Option Value} {mg mb : Str → Option Value} {h : Heap} {K : PySem.W.Frag} {x : Str} {d : DefRec} {f c P : Addr} {fd : FuncData} {oc oc' : Value} {od od' : Option Addr} {sl sl' : Array (Option Value)} {vs : Array Value}
    (T : Top q loose mean mg mb h) (X : K.In h) (hr : (recsOf q).find? (fun e => e.name == x) = some d) (a : PySem.W.nsIn K mainGlobals x = some (some (.ref f))) (l : K.lookup f = some ⟨oc, od, .func fd, sl⟩) (e : fd.code = .ref c) (lc : K.lookup c = some ⟨oc', od', .fields vs, sl'⟩) (hv : vs[11]? = some (.ref P)) : PySem.W.CodeHd h c P ∧ h.get? P = some { cls := .none, data := .fields #[] } := by
  refine PySem.W.tab_of T X hr ?_
  unfold PySem.W.tabIn
  rw [a]
  dsimp only
  rw [l]
  dsimp only
  rw [e]
  dsimp only
  rw [lc]
  dsimp only
  rw [hv]
theorem all_mk {q : Program} {loose : List Str} {mean : ExcName → Option Value} {mb : Str → Option Value} {w : World} {K : PySem.W.Frag} {h : Heap} {mg : Str → Option Value} {fa : Addr} (X : K.In h) (T : Top q loose mean mg mb h) (G : h.Ns mainGlobals mg) (hfa : mg "law" = some (.ref fa))
    {f1 : Addr} {od1 an1 : Option Addr} {sl1 : Array (Option Value)} {oc1 kV1 dc1 pm1 ct1 : Value} {cd1 : Value}
    {f2 : Addr} {od2 an2 : Option Addr} {sl2 : Array (Option Value)} {oc2 kV2 dc2 pm2 ct2 : Value} {c2 P2 : Addr} {ob2 : Value} {ox2 : Option Addr} {sy2 : Array (Option Value)} {vs2 : Array Value} {dr2 : DefRec}
    {f3 : Addr} {od3 an3 : Option Addr} {sl3 : Array (Option Value)} {oc3 kV3 dc3 pm3 ct3 : Value} {cd3 : Value}
    {f4 : Addr} {od4 an4 : Option Addr} {sl4 : Array (Option Value)} {oc4 kV4 dc4 pm4 ct4 : Value} {cd4 : Value}
    {f5 : Addr} {od5 an5 : Option Addr} {sl5 : Array (Option Value)} {oc5 kV5 dc5 pm5 ct5 : Value} {cd5 : Value}
    {f6 : Addr} {od6 an6 : Option Addr} {sl6 : Array (Option Value)} {oc6 kV6 dc6 pm6 ct6 : Value} {cd6 : Value}
    {f7 : Addr} {od7 an7 : Option Addr} {sl7 : Array (Option Value)} {oc7 kV7 dc7 pm7 ct7 : Value} {cd7 : Value}
    {f8 : Addr} {od8 an8 : Option Addr} {sl8 : Array (Option Value)} {oc8 kV8 dc8 pm8 ct8 : Value} {cd8 : Value}
    {f9 : Addr} {od9 an9 : Option Addr} {sl9 : Array (Option Value)} {oc9 kV9 dc9 pm9 ct9 : Value} {cd9 : Value}
    {f10 : Addr} {od10 an10 : Option Addr} {sl10 : Array (Option Value)} {oc10 kV10 dc10 pm10 ct10 : Value} {cd10 : Value}
    {f11 : Addr} {od11 an11 : Option Addr} {sl11 : Array (Option Value)} {oc11 kV11 dc11 pm11 ct11 : Value} {cd11 : Value}
    (a1 : PySem.W.nsIn K mainGlobals "span_of" = some (some (.ref f1)))
    (l1 : K.lookup f1 = some ⟨oc1, od1, .func (PySem.W.fnOf "span_of" "span_of" (defArgs (topS 2)) (defBody (topS 2)) (defScope (topS 2)) .none kV1 dc1 pm1 an1 cd1 ct1), sl1⟩)
    (c1 : PySem.W.codeIn K cd1 "span_of" = true)
    (k1 : PySem.W.keepIn K (.ref f1) = true)
    (a2 : PySem.W.nsIn K mainGlobals "never_meet" = some (some (.ref f2)))
    (l2 : K.lookup f2 = some ⟨oc2, od2, .func (PySem.W.fnOf "never_meet" "never_meet" (defArgs (topS 3)) (defBody (topS 3)) (defScope (topS 3)) .none kV2 dc2 pm2 an2 (.ref c2) ct2), sl2⟩)
    (cc2 : PySem.W.codeIn K (.ref c2) "never_meet" = true)
    (k2 : PySem.W.keepIn K (.ref f2) = true)
    (lc2 : K.lookup c2 = some ⟨ob2, ox2, .fields vs2, sy2⟩)
    (hv2 : vs2[11]? = some (.ref P2))
    (hn2 : K.lookup P2 = none)
    (hr2 : (recsOf q).find? (fun e => e.name == ("never_meet" : Str)) = some dr2)
    (a3 : PySem.W.nsIn K mainGlobals "_law_draws" = some (some (.ref f3)))
    (l3 : K.lookup f3 = some ⟨oc3, od3, .func (PySem.W.fnOf "_law_draws" "_law_draws" (defArgs (topS 5)) (defBody (topS 5)) (defScope (topS 5)) .none kV3 dc3 pm3 an3 cd3 ct3), sl3⟩)
    (c3 : PySem.W.codeIn K cd3 "_law_draws" = true)
    (k3 : PySem.W.keepIn K (.ref f3) = true)
    (a4 : PySem.W.nsIn K mainGlobals "_law_take" = some (some (.ref f4)))
    (l4 : K.lookup f4 = some ⟨oc4, od4, .func (PySem.W.fnOf "_law_take" "_law_take" (defArgs (topS 6)) (defBody (topS 6)) (defScope (topS 6)) .none kV4 dc4 pm4 an4 cd4 ct4), sl4⟩)
    (c4 : PySem.W.codeIn K cd4 "_law_take" = true)
    (k4 : PySem.W.keepIn K (.ref f4) = true)
    (a5 : PySem.W.nsIn K mainGlobals "_law_at" = some (some (.ref f5)))
    (l5 : K.lookup f5 = some ⟨oc5, od5, .func (PySem.W.fnOf "_law_at" "_law_at" (defArgs (topS 7)) (defBody (topS 7)) (defScope (topS 7)) .none kV5 dc5 pm5 an5 cd5 ct5), sl5⟩)
    (c5 : PySem.W.codeIn K cd5 "_law_at" = true)
    (k5 : PySem.W.keepIn K (.ref f5) = true)
    (a6 : PySem.W.nsIn K mainGlobals "_law_row" = some (some (.ref f6)))
    (l6 : K.lookup f6 = some ⟨oc6, od6, .func (PySem.W.fnOf "_law_row" "_law_row" (defArgs (topS 8)) (defBody (topS 8)) (defScope (topS 8)) .none kV6 dc6 pm6 an6 cd6 ct6), sl6⟩)
    (c6 : PySem.W.codeIn K cd6 "_law_row" = true)
    (k6 : PySem.W.keepIn K (.ref f6) = true)
    (a7 : PySem.W.nsIn K mainGlobals "_law_forms" = some (some (.ref f7)))
    (l7 : K.lookup f7 = some ⟨oc7, od7, .func (PySem.W.fnOf "_law_forms" "_law_forms" (defArgs (topS 9)) (defBody (topS 9)) (defScope (topS 9)) .none kV7 dc7 pm7 an7 cd7 ct7), sl7⟩)
    (c7 : PySem.W.codeIn K cd7 "_law_forms" = true)
    (k7 : PySem.W.keepIn K (.ref f7) = true)
    (a8 : PySem.W.nsIn K mainGlobals "_law_every" = some (some (.ref f8)))
    (l8 : K.lookup f8 = some ⟨oc8, od8, .func (PySem.W.fnOf "_law_every" "_law_every" (defArgs (topS 10)) (defBody (topS 10)) (defScope (topS 10)) .none kV8 dc8 pm8 an8 cd8 ct8), sl8⟩)
    (c8 : PySem.W.codeIn K cd8 "_law_every" = true)
    (k8 : PySem.W.keepIn K (.ref f8) = true)
    (a9 : PySem.W.nsIn K mainGlobals "_law_factors" = some (some (.ref f9)))
    (l9 : K.lookup f9 = some ⟨oc9, od9, .func (PySem.W.fnOf "_law_factors" "_law_factors" (defArgs (topS 11)) (defBody (topS 11)) (defScope (topS 11)) .none kV9 dc9 pm9 an9 cd9 ct9), sl9⟩)
    (c9 : PySem.W.codeIn K cd9 "_law_factors" = true)
    (k9 : PySem.W.keepIn K (.ref f9) = true)
    (a10 : PySem.W.nsIn K mainGlobals "_law_divisor" = some (some (.ref f10)))
    (l10 : K.lookup f10 = some ⟨oc10, od10, .func (PySem.W.fnOf "_law_divisor" "_law_divisor" (defArgs (topS 12)) (defBody (topS 12)) (defScope (topS 12)) .none kV10 dc10 pm10 an10 cd10 ct10), sl10⟩)
    (c10 : PySem.W.codeIn K cd10 "_law_divisor" = true)
    (k10 : PySem.W.keepIn K (.ref f10) = true)
    (a11 : PySem.W.nsIn K mainGlobals "law" = some (some (.ref f11)))
    (l11 : K.lookup f11 = some ⟨oc11, od11, .func (PySem.W.fnOf "law" "law" (defArgs (topS 13)) (defBody (topS 13)) (defScope (topS 13)) .none kV11 dc11 pm11 an11 cd11 ct11), sl11⟩)
    (c11 : PySem.W.codeIn K cd11 "law" = true)
    (k11 : PySem.W.keepIn K (.ref f11) = true)
    (z_len : PySem.W.nsIn K mainGlobals "len" = some none)
    (z_int : PySem.W.nsIn K mainGlobals "int" = some none)
    (z_abs : PySem.W.nsIn K mainGlobals "abs" = some none)
    (z_range : PySem.W.nsIn K mainGlobals "range" = some none)
    (z_list : PySem.W.nsIn K mainGlobals "list" = some none)
    (z_reversed : PySem.W.nsIn K mainGlobals "reversed" = some none)
    (z_min : PySem.W.nsIn K mainGlobals "min" = some none)
    (z_max : PySem.W.nsIn K mainGlobals "max" = some none)
    (z_zip : PySem.W.nsIn K mainGlobals "zip" = some none)
    (z_any : PySem.W.nsIn K mainGlobals "any" = some none)
    (z_sum : PySem.W.nsIn K mainGlobals "sum" = some none)
    (z_tuple : PySem.W.nsIn K mainGlobals "tuple" = some none)
    (z_sorted : PySem.W.nsIn K mainGlobals "sorted" = some none)
    (z_dict : PySem.W.nsIn K mainGlobals "dict" = some none)
    (z_isinstance : PySem.W.nsIn K mainGlobals "isinstance" = some none)
    (z_bool : PySem.W.nsIn K mainGlobals "bool" = some none)
    (z_gcd : PySem.W.nsIn K mainGlobals "gcd" = some (some (.builtin "math.gcd")))
    : LamX.LawAtS PySem.Challenge.rw_arraysaligned_k47_whole_places_that_neve w K CX0 3 63 "script" mg fa h := by
  have e := hfa.symm.trans (PySem.W.mg_of X G a11)
  cases e
  have m1 := PySem.W.mg_of X G a1
  have F1 := fun_mk (st := topS 2) l1 c1 k1
  have b1 := F1.binds (ps := ["form", "bounds"]) fun _ _ _ _ _ _ us hl => match us, hl with | [_, _], _ => rfl
  have m2 := PySem.W.mg_of X G a2
  have F2 : FunC K "never_meet" "never_meet" (topS 3) f2 _ (.ref c2) := ⟨⟨_, _, _, _, _, _, _, _, rfl, l2, cc2⟩, k2⟩
  have b2 := F2.f.binds (ps := ["one", "other", "bounds"]) fun _ _ _ _ _ _ us hl => match us, hl with | [_, _, _], _ => rfl
  have t2 := codeHd_tab T X hr2 a2 l2 rfl lc2 hv2
  have m3 := PySem.W.mg_of X G a3
  have F3 := fun_mk (st := topS 5) l3 c3 k3
  have b3 := F3.binds (ps := ["script"]) fun _ _ _ _ _ _ us hl => match us, hl with | [_], _ => rfl
  have m4 := PySem.W.mg_of X G a4
  have F4 := fun_mk (st := topS 6) l4 c4 k4
  have b4 := F4.binds (ps := ["draws", "bound"]) fun _ _ _ _ _ _ us hl => match us, hl with | [_, _], _ => rfl
  have m5 := PySem.W.mg_of X G a5
  have F5 := fun_mk (st := topS 7) l5 c5 k5
  have b5 := F5.binds (ps := ["form", "known"]) fun _ _ _ _ _ _ us hl => match us, hl with | [_, _], _ => rfl
  have m6 := PySem.W.mg_of X G a6
  have F6 := fun_mk (st := topS 8) l6 c6 k6
  have b6 := F6.binds (ps := ["forms", "known"]) fun _ _ _ _ _ _ us hl => match us, hl with | [_, _], _ => rfl
  have m7 := PySem.W.mg_of X G a7
  have F7 := fun_mk (st := topS 9) l7 c7 k7
  have b7 := F7.binds (ps := ["draws", "names", "many"]) fun _ _ _ _ _ _ us hl => match us, hl with | [_, _, _], _ => rfl
  have m8 := PySem.W.mg_of X G a8
  have F8 := fun_mk (st := topS 10) l8 c8 k8
  have b8 := F8.binds (ps := ["bounds"]) fun _ _ _ _ _ _ us hl => match us, hl with | [_], _ => rfl
  have m9 := PySem.W.mg_of X G a9
  have F9 := fun_mk (st := topS 11) l9 c9 k9
  have b9 := F9.binds (ps := ["forms"]) fun _ _ _ _ _ _ us hl => match us, hl with | [_], _ => rfl
  have m10 := PySem.W.mg_of X G a10
  have F10 := fun_mk (st := topS 12) l10 c10 k10
  have b10 := F10.binds (ps := ["forms"]) fun _ _ _ _ _ _ us hl => match us, hl with | [_], _ => rfl
  have m11 := PySem.W.mg_of X G a11
  have F11 := fun_mk (st := topS 13) l11 c11 k11
  have b11 := F11.binds (ps := ["script"]) fun _ _ _ _ _ _ us hl => match us, hl with | [_], _ => rfl
  have n_len := PySem.W.mg_none_of X G z_len
  have n_int := PySem.W.mg_none_of X G z_int
  have n_abs := PySem.W.mg_none_of X G z_abs
  have n_range := PySem.W.mg_none_of X G z_range
  have n_list := PySem.W.mg_none_of X G z_list
  have n_reversed := PySem.W.mg_none_of X G z_reversed
  have n_min := PySem.W.mg_none_of X G z_min
  have n_max := PySem.W.mg_none_of X G z_max
  have n_zip := PySem.W.mg_none_of X G z_zip
  have n_any := PySem.W.mg_none_of X G z_any
  have n_sum := PySem.W.mg_none_of X G z_sum
  have n_tuple := PySem.W.mg_none_of X G z_tuple
  have n_sorted := PySem.W.mg_none_of X G z_sorted
  have n_dict := PySem.W.mg_none_of X G z_dict
  have n_isinstance := PySem.W.mg_none_of X G z_isinstance
  have n_bool := PySem.W.mg_none_of X G z_bool
  have n_gcd := PySem.W.mg_of X G z_gcd
  refine ⟨PySem.W.fnOf "law" "law" (defArgs (topS 13)) (defBody (topS 13)) (defScope (topS 13)) .none kV11 dc11 pm11 an11 cd11 ct11, [(c2, P2)], PrD K [P2] 1 RLaw, (List.forall_mem_cons.mpr ⟨t2.2, (fun _ hp => by cases hp)⟩), (List.forall_mem_cons.mpr ⟨hn2, (fun _ hp => by cases hp)⟩), (List.forall_mem_cons.mpr ⟨t2.1, (fun _ hp => by cases hp)⟩), fun s v => .of_eq rfl, fun H a ns hl _ hT hS => ?_, fun base KB GB hTB => ?_⟩
  · refine ⟨rfl, [.dat (.list (ns.map .int))], [], .bool true, [.dat (.list (ns.map .int))], args_dats (ds := [.list (ns.map .int)]) (.cons (.lst (Kp.sqL (fun b o _ z => z) (show SqL K (msk [] H) a (ns.map V.int) by rw [show msk [] H = H from funext fun b => msk_out (by simp)]; exact hS)) (RpA.of_ints ns)) .nil), List.nodup_nil, (fun a h => by cases h), (fun a h => by cases h), ?_, Sh.refl _, ⟨ns, rfl, hl, rfl, rfl⟩, fun v H' _ _ _ _ r => bl_of r⟩
    intro P hP
    have key : ∀ p ∈ ([(c2, P2)] : List (Addr × Addr)), GxR.TabG H p.2 := fun p hp => ⟨#[], hT p hp, trivial⟩
    obtain ⟨p, hp, rfl⟩ : ∃ p ∈ ([(c2, P2)] : List (Addr × Addr)), p.2 = P := by
      have : P ∈ ([(c2, P2)] : List (Addr × Addr)).map (·.2) := hP
      exact List.mem_map.mp this
    exact key p hp
  · have tb := hTB (c2, P2) List.mem_cons_self
    have TB : GxR.TabB base mg c2 P2 := ⟨tb.code, tb.bm, tb.gP⟩
    have ct : Tk PySem.Challenge.rw_arraysaligned_k47_whole_places_that_neve.prog w K mg base [P2] 1 f4 _ := ⟨ok_take F4 n_len n_int, m4, k4, b4⟩
    exact ok_law F11 ⟨ok_draws F3 n_len n_int n_abs n_range n_list n_reversed, m3, k3, b3⟩ ct ⟨ok_forms F7 ct n_tuple n_range, m7, k7, b7⟩
      ⟨ok_never F2 TB List.mem_cons_self (ok_span F1 n_min n_max) m1 k1 b1 n_zip n_gcd n_any, m2, k2, b2⟩ ⟨ok_every F8 n_list n_sorted n_dict n_range, m8, k8, b8⟩ ⟨ok_at F5 n_sum, m5, k5, b5⟩
      ⟨ok_row F6 n_tuple (ok_at F5 n_sum) m5 k5 b5, m6, k6, b6⟩ ⟨ok_divisor F10 n_max n_range (ok_factors F9 n_abs) m9 k9 b9, m10, k10, b10⟩ n_range n_dict n_isinstance n_bool n_max n_min
end K47
namespace Dv
open PySem PySem.Spec PyProof.Rows L2 LamX
theorem walk_ofTT {l : PySem.W.OpenLaw} {n k : Nat} {q : Program} {loose : List Str} {XP : (Str → Option Value) → Heap → Prop} {YP : World → Heap → Prop} {d : DefRec} {K : Params → PySem.W.Frag} {CX : World → CXT} {x : Str}
    (hn : l.most = some n) (hn2 : n ≤ sizeLine) (hdf : d.params.defaults = []) (hr : Room k callerA) (hY : ∀ (w : World) (h : Heap), YP w h → (K w.params).In h)
    (F : ∀ (w : World) (mg mb : Str → Option Value) (mean : ExcName → Option Value) (fa : Addr) (h : Heap), (K w.params).In h → Top q (PySem.W.looseW q loose) mean mg mb h → h.Ns mainGlobals mg → mg d.name = some (.ref fa) → LamX.LawAtS l w (K w.params) (CX w) k n x mg fa h)
    (hCX : ∀ (w : World) (H : Hp) (s : Shared) (e : Value) (s' : Shared), CX w [] H s (fun _ _ _ => False) e s' → False) : PySem.W.WalkO q loose XP YP l.row.toRowW d [] (fun f vs => PySem.call f vs) := by
  refine Att.attach_callB hn hdf fun w s₀ s₁ mg mb fa o pm cd doc a vs ns G Y ho hd hcd hmg hobj hints hlen hbits hg => ?_
  have KX := hY w _ Y
  obtain ⟨fd, cs, sp, hT, nT, C, hb, hsp, hF⟩ := F w mg mb _ fa _ KX G.T G.T.g hmg
  exact law_callTs KX G.T.g G.T.b G.T.builtins G.T.nolimit hg hT nT C G.T.bmain hobj hints (Nat.le_trans hlen hn2) hr hF hb (fun H hH hS => hsp H a ns hlen hbits hH hS) fun H e s' => hCX w H s₁ e s'
end Dv
open PySem PySem.W PyProof.Rows
set_option maxHeartbeats 0 in
theorem PySem.Challenge.cw_arraysaligned_k47_whole_places_that_neve_holds : PySem.Challenge.rw_arraysaligned_k47_whole_places_that_neve.Holds := by
  w_on; o_law; k_head; (case hw => w_witness2)
  k_fill
  refine Dv.walk_ofTT (l := PySem.Challenge.rw_arraysaligned_k47_whole_places_that_neve) (n := 63) (k := 3) (x := "script") (CX := fun _ => L2.CX0) rfl (by decide) rfl ⟨rfl, by decide, by decide⟩ (fun w h Y => PySem.W.kIn_of Y) ?F (fun _ _ _ _ _ h => h)
  case F =>
    intro w mg mb mean fa h KX T G hmg
    refine' K47.all_mk KX T G hmg ?a1 ?l1 ?c1 ?k1 ?a2 ?l2 ?cc2 ?k2 ?lc2 ?hv2 ?hn2 ?hr2 ?a3 ?l3 ?c3 ?k3 ?a4 ?l4 ?c4 ?k4 ?a5 ?l5 ?c5 ?k5 ?a6 ?l6 ?c6 ?k6 ?a7 ?l7 ?c7 ?k7 ?a8 ?l8 ?c8 ?k8 ?a9 ?l9 ?c9 ?k9 ?a10 ?l10 ?c10 ?k10 ?a11 ?l11 ?c11 ?k11 ?z_len ?z_int ?z_abs ?z_range ?z_list ?z_reversed ?z_min ?z_max ?z_zip ?z_any ?z_sum ?z_tuple ?z_sorted ?z_dict ?z_isinstance ?z_bool ?z_gcd
    (case a1 => k_is); (case l1 => k_is); (case c1 => k_is); (case k1 => k_is); (case a2 => k_is); (case l2 => k_is)
    (case cc2 => k_is); (case k2 => k_is); (case lc2 => k_is); (case hv2 => rfl); (case hn2 => kernel_rfl); (case hr2 => rfl)
    (case a3 => k_is); (case l3 => k_is); (case c3 => k_is); (case k3 => k_is); (case a4 => k_is); (case l4 => k_is)
    (case c4 => k_is); (case k4 => k_is); (case a5 => k_is); (case l5 => k_is); (case c5 => k_is); (case k5 => k_is)
    (case a6 => k_is); (case l6 => k_is); (case c6 => k_is); (case k6 => k_is); (case a7 => k_is); (case l7 => k_is)
    (case c7 => k_is); (case k7 => k_is); (case a8 => k_is); (case l8 => k_is); (case c8 => k_is); (case k8 => k_is)
    (case a9 => k_is); (case l9 => k_is); (case c9 => k_is); (case k9 => k_is); (case a10 => k_is); (case l10 => k_is)
    (case c10 => k_is); (case k10 => k_is); (case a11 => k_is); (case l11 => k_is); (case c11 => k_is); (case k11 => k_is)
    (case z_len => k_is); (case z_int => k_is); (case z_abs => k_is); (case z_range => k_is); (case z_list => k_is); (case z_reversed => k_is)
    (case z_min => k_is); (case z_max => k_is); (case z_zip => k_is); (case z_any => k_is); (case z_sum => k_is); (case z_tuple => k_is)
    (case z_sorted => k_is); (case z_dict => k_is); (case z_isinstance => k_is); (case z_bool => k_is); (case z_gcd => k_is)

