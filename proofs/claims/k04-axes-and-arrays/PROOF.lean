import PyProof.Rows.All
import Wide.All
import OpenK.AllK
import Wide.FinOn
import HandS.ForMost
import HandS.Zip
import HandS.Conv
import HandS.Rev
import HandS.IsInst
import HandS.Style
import HandS.Gcd
import HandS.TupAny
import HandS.DictTup
import HandS.ListItems
import HandS.AnyAll
import HandS.EndTab
import HandS.Flow
import HandS.Star
import KE.KDictList
import PyProof.DictWalks
import PyProof.NeKinds
import HandS.Deep
import HandS.Replace
import KE.KDictPairs
import HandS.DictComp
import KE.KDictCopyH
import HandS.More
import KE.SortData
import KE.KEqDict
import KE.GoesEnum
import HandS.HotCalls
import HandS.ExcIs
import PyProof.CollectStr
import KE.KDictZip
import KE.GoesZip
import KE.GoesMore
import PyProof.GenCompD
import PyProof.EqLayable
import PyProof.GenQ
import PySem.Challenge.RW_arraysaligned_k04_whole_axes_and_arrays
import HandS.TupMul
import HandS.Set
import HandS.Strs
import HandS.SetFor
import PyProof.Rows.SortShellAny
import HandS.ReplaceDef
set_option Elab.async false
set_option linter.all false
set_option maxRecDepth 100000
/-! ## Data-level reading of the hand layer: what an expression or statement does to plain data -/
namespace Dv
open PySem PySem.Spec PyProof.Rows L2

/-- the data: as the library's, with tuples of two kinds: made in the program and followed; plain objects known whole (ptup) -/
inductive D where
  | none
  | bool (b : Bool)
  | int (i : Int)
  | str (x : Str)
  | list (ds : List D)
  | tuple (ds : List D)
  | ptup (ds : List D)
  | dict (kvs : List (D × D))
mutual
def D.py : D → PyData
  | .none => .none
  | .bool b => .bool b
  | .int i => .int i
  | .str x => .str x
  | .list ds => .list (D.pys ds)
  | .tuple ds => .tuple (D.pys ds)
  | .ptup ds => .tuple (D.pys ds)
  | .dict kvs => .dict (D.pyd kvs)
def D.pys : List D → List PyData
  | [] => []
  | d :: ds => d.py :: D.pys ds
def D.pyd : List (D × D) → List (PyData × PyData)
  | [] => []
  | (k, v) :: r => (k.py, v.py) :: D.pyd r
end
theorem D.pys_map : ∀ ds : List D, D.pys ds = ds.map D.py
  | [] => rfl
  | d :: ds => by rw [List.map_cons, ← D.pys_map ds]; rfl

/-! ### heaps -/
def notTbl : HO → Bool
  | .tbl _ => false
  | _ => true
/-- a list or a dict -/
def mutb : HO → Bool
  | .lst _ => true
  | .dK _ => true
  | .dT _ => true
  | _ => false
theorem mutb_nt {o : HO} (h : mutb o = true) : notTbl o = true := by cases o <;> first | rfl | cases h
/-- all but code tables stays, outside W -/
def Fx (W : List Addr) (H H' : Hp) : Prop := ∀ a o, notTbl o = true → a ∉ W → H a = some o → H' a = some o
/-- the heap without the owned lists -/
def msk (O : List Addr) (H : Hp) : Hp := fun a => if a ∈ O then none else H a
/-- all but code tables stays -/
def Kp (H H' : Hp) : Prop := ∀ a o, notTbl o = true → H a = some o → H' a = some o

theorem msk_in {O : List Addr} {H : Hp} {a : Addr} (h : a ∈ O) : msk O H a = none := if_pos h
theorem msk_out {O : List Addr} {H : Hp} {a : Addr} (h : a ∉ O) : msk O H a = H a := if_neg h
theorem msk_some {O : List Addr} {H : Hp} {a : Addr} {o : HO} (h : msk O H a = some o) : a ∉ O ∧ H a = some o := by
  by_cases q : a ∈ O
  · rw [msk_in q] at h; cases h
  · rw [msk_out q] at h; exact ⟨q, h⟩
theorem Fx.refl (W : List Addr) (H : Hp) : Fx W H H := fun _ _ _ _ h => h
theorem Fx.trans {W1 W2 : List Addr} {H H1 H2 : Hp} (a : Fx W1 H H1) (b : Fx W2 H1 H2) : Fx (W1 ++ W2) H H2 := fun x o n w h =>
  b x o n (fun z => w (List.mem_append_right _ z)) (a x o n (fun z => w (List.mem_append_left _ z)) h)
theorem Fx.mono {W W' : List Addr} {H H' : Hp} (a : Fx W H H') (h : ∀ x ∈ W, x ∈ W') : Fx W' H H' := fun x o n w e => a x o n (fun z => w (h x z)) e
theorem Fx.new {W : List Addr} {H : Hp} {p : Addr} {o : HO} (h : H p = none) : Fx W H (upd H p o) := fun a u _ _ e => by
  rw [upd_ne (ne_of_none e h)]; exact e
theorem Fx.write {H : Hp} {p : Addr} {o : HO} : Fx [p] H (upd H p o) := fun a u _ w e => by
  rw [upd_ne (fun z => w (by simp [z]))]; exact e
theorem Fx.kp {W O : List Addr} {H H' : Hp} (a : Fx W H H') (h : ∀ x ∈ W, x ∈ O) : Kp (msk O H) (msk O H') := fun x o n e => by
  obtain ⟨q, e⟩ := msk_some e
  rw [msk_out q]
  exact a x o n (fun z => q (h x z)) e
theorem Fx.kpN {H H' : Hp} (a : Fx [] H H') : Kp H H' := fun x o n e => a x o n (by simp) e
theorem Kp.fx {W : List Addr} {H H' : Hp} (a : Kp H H') : Fx W H H' := fun x o n _ e => a x o n e
theorem Kp.refl (H : Hp) : Kp H H := fun _ _ _ h => h
theorem Kp.trans {H H1 H2 : Hp} (a : Kp H H1) (b : Kp H1 H2) : Kp H H2 := fun x o n h => b x o n (a x o n h)
theorem Kp.ofmsk (O : List Addr) (H : Hp) : Kp (msk O H) H := fun _ _ _ h => (msk_some h).2
theorem Kp.sub {O O' : List Addr} {H : Hp} (h : ∀ a ∈ O', a ∈ O) : Kp (msk O H) (msk O' H) := fun a o _ e => by
  obtain ⟨q, e⟩ := msk_some e
  rw [msk_out (fun z => q (h a z))]; exact e
theorem Kp.rd {H H' : Hp} {a : Addr} {u : HO} (k : Kp H H') (n : notTbl u = true) (h : Rd H a u) : Rd H' a u := by
  rcases h with h | ⟨o, h⟩
  · exact .inl (k _ _ n h)
  · exact .inr ⟨o, k _ _ rfl h⟩
theorem Kp.sqL {K : PySem.W.Frag} {H H' : Hp} {a : Addr} {xs : List V} (k : Kp H H') (h : SqL K H a xs) : SqL K H' a xs := by
  rcases h with h | h
  · exact .inl (k.rd rfl h)
  · exact .inr h
/-- a tuple of the program's own making -/
abbrev Tt (H : Hp) (a : Addr) (xs : List V) : Prop := H a = some (.tup xs)
theorem Kp.tt {H H' : Hp} {a : Addr} {xs : List V} (k : Kp H H') (h : Tt H a xs) : Tt H' a xs := k _ _ rfl h
theorem Kp.sqT {K : PySem.W.Frag} {H H' : Hp} {a : Addr} {xs : List V} (k : Kp H H') (h : Tt H a xs) : SqT K H' a xs := SqT.of (k.tt h)

/-- what stands through the whole run: a table of code objects, a tuple of the module's own -/
inductive TQ where
  | tab (P : Addr)
  | tup (a : Addr) (xs : List V)
def TQs (H : Hp) : TQ → Prop
  | .tab P => GxR.TabG H P
  | .tup a xs => H a = some (.tup xs)
theorem TQs.old {H : Hp} {a : Addr} {u o : HO} (hu : H a = some u) (no : mutb u = true) : ∀ {q : TQ}, TQs H q → TQs (upd H a o) q
  | .tab P, ⟨ps, e, t⟩ => ⟨ps, by
    rw [upd_ne (fun y => by rw [y, hu] at e; cases e; cases no)]; exact e, t⟩
  | .tup b xs, e => by
    show upd H a o b = _
    rw [upd_ne (fun y => by
      have e : H b = some (.tup xs) := e
      rw [y, hu] at e; cases e; cases no)]
    exact e
theorem TQs.keep {H H' : Hp} (k : ∀ a o, H a = some o → H' a = some o) : ∀ {q : TQ}, TQs H q → TQs H' q
  | .tab P, ⟨ps, e, t⟩ => ⟨ps, k _ _ e, t⟩
  | .tup b xs, e => k b (.tup xs) e
/-- a plain tuple whose object is known -/
def Pt (K : PySem.W.Frag) (H : Hp) (a : Addr) (xs : List V) : Prop := ∃ (o : Obj) (its : Array Value) (n : Nat), o.cls = .type "tuple" ∧ o.dict = Option.none ∧ o.data = .seq its n ∧ (H a = some (.frz o (.tup xs)) ∨ (K.lookup a = some o ∧ its.size ≤ sizeLine ∧ Vals xs its.toList))
theorem Pt.sq {K : PySem.W.Frag} {H : Hp} {a : Addr} {xs : List V} (h : Pt K H a xs) : SqT K H a xs := by
  obtain ⟨o, its, n, h1, h2, h3, h4 | ⟨h4, h5, h6⟩⟩ := h
  · exact .inl (.inr ⟨o, h4⟩)
  · exact .inr ⟨o, its, n, h4, h1, h3, h5, h6⟩
theorem Pt.mono {K : PySem.W.Frag} {H H' : Hp} {a : Addr} {xs : List V} (k : ∀ a o, notTbl o = true → H a = some o → H' a = some o) (h : Pt K H a xs) : Pt K H' a xs := by
  obtain ⟨o, its, n, h1, h2, h3, h4 | h4⟩ := h
  · exact ⟨o, its, n, h1, h2, h3, .inl (k _ _ rfl h4)⟩
  · exact ⟨o, its, n, h1, h2, h3, .inr h4⟩
/-- a dict that nothing writes any more (locked when it was handed over as data) -/
def Fz (H : Hp) (a : Addr) (u : HO) : Prop := ∃ od, H a = some (.frz od u)
theorem Fz.mono {H H' : Hp} {a : Addr} {u : HO} (k : ∀ a o, notTbl o = true → H a = some o → H' a = some o) (h : Fz H a u) : Fz H' a u := let ⟨od, e⟩ := h; ⟨od, k _ _ rfl e⟩
theorem Fz.rd {H : Hp} {a : Addr} {u : HO} (h : Fz H a u) : Rd H a u := .inr h
/-! ### values are data -/
def kD : Key → D
  | .inl i => .int i
  | .inr x => .str x
mutual
inductive Rp (K : PySem.W.Frag) (H : Hp) : V → D → Prop
  | non : Rp K H .non .none
  | bl (b : Bool) : Rp K H (.bl b) (.bool b)
  | int (i : Int) : Rp K H (.int i) (.int i)
  | str (x : Str) : Rp K H (.str x) (.str x)
  | lst {a : Addr} {xs : List V} {ds : List D} : SqL K H a xs → RpA K H xs ds → Rp K H (.ref a) (.list ds)
  | tup {a : Addr} {xs : List V} {ds : List D} : Tt H a xs → RpA K H xs ds → Rp K H (.ref a) (.tuple ds)
  | ptup {a : Addr} {xs : List V} {ds : List D} : Pt K H a xs → RpA K H xs ds → Rp K H (.ref a) (.ptup ds)
  | dk {a : Addr} {kvs : List (Key × V)} {ds : List (D × D)} : Fz H a (.dK kvs) → RpK K H kvs ds → Rp K H (.ref a) (.dict ds)
  | dt {a : Addr} {kvs : List (List Key × V)} {ds : List (D × D)} : ds ≠ [] → Fz H a (.dT kvs) → RpT K H kvs ds → Rp K H (.ref a) (.dict ds)
inductive RpA (K : PySem.W.Frag) (H : Hp) : List V → List D → Prop
  | nil : RpA K H [] []
  | cons {v : V} {vs : List V} {d : D} {ds : List D} : Rp K H v d → RpA K H vs ds → RpA K H (v :: vs) (d :: ds)
inductive RpK (K : PySem.W.Frag) (H : Hp) : List (Key × V) → List (D × D) → Prop
  | nil : RpK K H [] []
  | cons {k : Key} {v : V} {vs : List (Key × V)} {d : D} {ds : List (D × D)} : Rp K H v d → RpK K H vs ds → RpK K H ((k, v) :: vs) ((kD k, d) :: ds)
inductive RpT (K : PySem.W.Frag) (H : Hp) : List (List Key × V) → List (D × D) → Prop
  | nil : RpT K H [] []
  | cons {k : List Key} {v : V} {vs : List (List Key × V)} {d : D} {ds : List (D × D)} : Rp K H v d → RpT K H vs ds → RpT K H ((k, v) :: vs) ((.tuple (k.map kD), d) :: ds)
end
section
variable {K : PySem.W.Frag} {H H' : Hp}
mutual
theorem Rp.mono (k : Kp H H') : ∀ {v : V} {d : D}, Rp K H v d → Rp K H' v d
  | _, _, .non => .non
  | _, _, .bl b => .bl b
  | _, _, .int i => .int i
  | _, _, .str x => .str x
  | _, _, .lst h r => .lst (k.sqL h) (RpA.mono k r)
  | _, _, .tup h r => .tup (k.tt h) (RpA.mono k r)
  | _, _, .ptup h r => .ptup (h.mono k) (RpA.mono k r)
  | _, _, .dk h r => .dk (h.mono k) (RpK.mono k r)
  | _, _, .dt n h r => .dt n (h.mono k) (RpT.mono k r)
theorem RpA.mono (k : Kp H H') : ∀ {v : List V} {d : List D}, RpA K H v d → RpA K H' v d
  | _, _, .nil => .nil
  | _, _, .cons h r => .cons (Rp.mono k h) (RpA.mono k r)
theorem RpK.mono (k : Kp H H') : ∀ {v : List (Key × V)} {d : List (D × D)}, RpK K H v d → RpK K H' v d
  | _, _, .nil => .nil
  | _, _, .cons h r => .cons (Rp.mono k h) (RpK.mono k r)
theorem RpT.mono (k : Kp H H') : ∀ {v : List (List Key × V)} {d : List (D × D)}, RpT K H v d → RpT K H' v d
  | _, _, .nil => .nil
  | _, _, .cons h r => .cons (Rp.mono k h) (RpT.mono k r)
end
theorem RpA.length : ∀ {vs : List V} {ds : List D}, RpA K H vs ds → vs.length = ds.length
  | _, _, .nil => rfl
  | _, _, .cons _ r => by rw [List.length_cons, List.length_cons, RpA.length r]
theorem RpA.get : ∀ {vs : List V} {ds : List D} {i : Nat} {v : V}, RpA K H vs ds → vs[i]? = some v → ∃ d, ds[i]? = some d ∧ Rp K H v d
  | _, _, _, _, .nil, e => by simp at e
  | _, _, 0, _, .cons h _, e => by simp at e; subst e; exact ⟨_, rfl, h⟩
  | _, _, i + 1, _, .cons _ r, e => by
    obtain ⟨d, h1, h2⟩ := RpA.get (i := i) r (by simpa using e)
    exact ⟨d, by simpa using h1, h2⟩
theorem RpA.getD : ∀ {vs : List V} {ds : List D} {i : Nat} {d : D}, RpA K H vs ds → ds[i]? = some d → ∃ v, vs[i]? = some v ∧ Rp K H v d
  | _, _, _, _, .nil, e => by simp at e
  | _, _, 0, _, .cons h _, e => by simp at e; subst e; exact ⟨_, rfl, h⟩
  | _, _, i + 1, _, .cons _ r, e => by
    obtain ⟨d, h1, h2⟩ := RpA.getD (i := i) r (by simpa using e)
    exact ⟨d, by simpa using h1, h2⟩
theorem RpA.append : ∀ {vs ws : List V} {ds es : List D}, RpA K H vs ds → RpA K H ws es → RpA K H (vs ++ ws) (ds ++ es)
  | _, _, _, _, .nil, r => r
  | _, _, _, _, .cons h r, s => .cons h (RpA.append r s)
theorem RpA.snoc {vs : List V} {ds : List D} {v : V} {d : D} (r : RpA K H vs ds) (h : Rp K H v d) : RpA K H (vs ++ [v]) (ds ++ [d]) := r.append (.cons h .nil)
theorem RpA.take : ∀ (n : Nat) {vs : List V} {ds : List D}, RpA K H vs ds → RpA K H (vs.take n) (ds.take n)
  | 0, _, _, _ => .nil
  | _ + 1, _, _, .nil => .nil
  | n + 1, _, _, .cons h r => .cons h (RpA.take n r)
theorem RpA.drop : ∀ (n : Nat) {vs : List V} {ds : List D}, RpA K H vs ds → RpA K H (vs.drop n) (ds.drop n)
  | 0, _, _, r => r
  | _ + 1, _, _, .nil => .nil
  | n + 1, _, _, .cons _ r => RpA.drop n r
theorem RpA.reverse : ∀ {vs : List V} {ds : List D}, RpA K H vs ds → RpA K H vs.reverse ds.reverse
  | _, _, .nil => .nil
  | _, _, .cons h r => by rw [List.reverse_cons, List.reverse_cons]; exact (RpA.reverse r).snoc h
theorem RpA.ints : ∀ {vs : List V} {ns : List Int}, RpA K H vs (ns.map .int) → vs = ns.map V.int
  | _, [], .nil => rfl
  | _, n :: ns, .cons h r => by
    cases h
    rw [RpA.ints r]; rfl
theorem RpA.of_ints : ∀ (ns : List Int), RpA K H (ns.map V.int) (ns.map .int)
  | [] => .nil
  | n :: ns => .cons (.int n) (RpA.of_ints ns)
theorem RpA.strs : ∀ {vs : List V} {ns : List Str}, RpA K H vs (ns.map .str) → vs = ns.map V.str
  | _, [], .nil => rfl
  | _, n :: ns, .cons h r => by
    cases h
    rw [RpA.strs r]; rfl
theorem RpA.of_strs : ∀ (ns : List Str), RpA K H (ns.map V.str) (ns.map .str)
  | [] => .nil
  | n :: ns => .cons (.str n) (RpA.of_strs ns)
theorem RpA.bools : ∀ {vs : List V} {ns : List Bool}, RpA K H vs (ns.map .bool) → vs = ns.map V.bl
  | _, [], .nil => rfl
  | _, n :: ns, .cons h r => by
    cases h
    rw [RpA.bools r]; rfl

/-! data without dicts -/
mutual
def plain : D → Bool
  | .dict _ => false
  | .list xs | .tuple xs | .ptup xs => plainA xs
  | _ => true
def plainA : List D → Bool
  | [] => true
  | x :: xs => plain x && plainA xs
end
mutual
theorem Rp.dp : ∀ {v : V} {d : D}, plain d = true → Rp K H v d → Dp K H v d.py
  | _, _, _, .non => .non
  | _, _, _, .bl b => .bl b
  | _, _, _, .int i => .int i
  | _, _, _, .str x => .str x
  | _, _, p, .lst h r => .lst h (RpA.dp (by simpa [plain] using p) r)
  | _, _, p, .tup h r => .tup (SqT.of h) (RpA.dp (by simpa [plain] using p) r)
  | _, _, p, .ptup h r => .tup h.sq (RpA.dp (by simpa [plain] using p) r)
  | _, _, p, .dk _ _ => by simp [plain] at p
  | _, _, p, .dt _ _ _ => by simp [plain] at p
theorem RpA.dp : ∀ {v : List V} {d : List D}, plainA d = true → RpA K H v d → DpAll K H v (D.pys d)
  | _, _, _, .nil => .nil
  | _, _, p, .cons h r => by
    simp [plainA] at p
    exact .cons (Rp.dp p.1 h) (RpA.dp p.2 r)
end
end

/-! ### what the names hold -/
inductive Slot where
  | un
  | dat (d : D)
  | own (a : Addr) (d : D)
abbrev Sl := List Slot
def owns : Sl → List Addr
  | [] => []
  | .own a _ :: r => a :: owns r
  | _ :: r => owns r
/-- what an owned thing holds -/
def Hold (K : PySem.W.Frag) (H Hm : Hp) (a : Addr) : D → Prop
  | .list ds => ∃ xs, H a = some (.lst xs) ∧ RpA K Hm xs ds
  | .dict ds => (∃ kvs, H a = some (.dK kvs) ∧ RpK K Hm kvs ds) ∨ (ds ≠ [] ∧ ∃ kvs, H a = some (.dT kvs) ∧ RpT K Hm kvs ds)
  | _ => False
/-- what is known at a slot: v the value there -/
def At (K : PySem.W.Frag) (H Hm : Hp) : Slot → Option V → Prop
  | .un, _ => True
  | .dat d, v => ∃ x, v = some x ∧ Rp K Hm x d
  | .own a d, v => v = some (.ref a) ∧ Hold K H Hm a d

/-- what stands still through a def's body -/
structure Bs where
  out : List Addr
  lent : List Addr
  H0 : Hp

structure Sim (K : PySem.W.Frag) (T : List TQ) (B : Bs) (ρ : Sl) (σ : L2.St) (H : Hp) : Prop where
  len : ρ.length = σ.length
  at_ : ∀ (i : Nat) (s : Slot), ρ[i]? = some s → At K H (msk (B.out ++ owns ρ) H) s (σ[i]?.join)
  nodup : (owns ρ).Nodup
  disj : ∀ a ∈ owns ρ, a ∉ B.out
  outs : ∀ a ∈ B.out, ∃ o, H a = some o ∧ mutb o = true
  frame : Fx B.lent B.H0 H
  fresh : ∀ a ∈ owns ρ, a ∈ B.lent ∨ B.H0 a = none
  tabs : ∀ P ∈ T, TQs H P
  dom : ∀ a, B.H0 a ≠ none → H a ≠ none
abbrev Bs.all (B : Bs) (ρ : Sl) : List Addr := B.out ++ owns ρ

theorem mem_owns : ∀ {ρ : Sl} {a : Addr}, a ∈ owns ρ ↔ ∃ (i : Nat) (d : D), ρ[i]? = some (Slot.own a d)
  | [], a => by simp [owns]
  | .own b d :: r, a => by
    constructor
    · intro h
      rcases List.mem_cons.mp h with h | h
      · exact ⟨0, d, by rw [h]; rfl⟩
      · obtain ⟨i, d, e⟩ := mem_owns.mp h
        exact ⟨i + 1, d, e⟩
    · rintro ⟨i, d', e⟩
      cases i with
      | zero => cases (Option.some.inj e); exact List.mem_cons_self
      | succ i => exact List.mem_cons_of_mem _ (mem_owns.mpr ⟨i, d', e⟩)
  | .un :: r, a => by
    show a ∈ owns r ↔ _
    rw [mem_owns]
    constructor
    · rintro ⟨i, d, e⟩; exact ⟨i + 1, d, e⟩
    · rintro ⟨i, d, e⟩
      cases i with
      | zero => cases (Option.some.inj e)
      | succ i => exact ⟨i, d, e⟩
  | .dat _ :: r, a => by
    show a ∈ owns r ↔ _
    rw [mem_owns]
    constructor
    · rintro ⟨i, d, e⟩; exact ⟨i + 1, d, e⟩
    · rintro ⟨i, d, e⟩
      cases i with
      | zero => cases (Option.some.inj e)
      | succ i => exact ⟨i, d, e⟩

theorem Hold.some {K : PySem.W.Frag} {H Hm : Hp} {a : Addr} {d : D} (h : Hold K H Hm a d) : ∃ o, H a = some o ∧ mutb o = true := by
  cases d with
  | list ds => obtain ⟨xs, e, _⟩ := h; exact ⟨_, e, rfl⟩
  | dict ds =>
    rcases h with ⟨kvs, e, _⟩ | ⟨_, kvs, e, _⟩
    · exact ⟨_, e, rfl⟩
    · exact ⟨_, e, rfl⟩
  | _ => exact h.elim
theorem Hold.mono {K : PySem.W.Frag} {H Hm H' Hm' : Hp} {a : Addr} {d : D} (h : Hold K H Hm a d) (k : Kp Hm Hm') (e : ∀ o, notTbl o = true → H a = Option.some o → H' a = Option.some o) : Hold K H' Hm' a d := by
  cases d with
  | list ds => obtain ⟨xs, q, r⟩ := h; exact ⟨xs, e _ rfl q, r.mono k⟩
  | dict ds =>
    rcases h with ⟨kvs, q, r⟩ | ⟨n, kvs, q, r⟩
    · exact .inl ⟨_, e _ rfl q, r.mono k⟩
    · exact .inr ⟨n, _, e _ rfl q, r.mono k⟩
  | _ => exact h.elim
section
variable {K : PySem.W.Frag} {T : List TQ} {B : Bs} {ρ ρ' : Sl} {σ : L2.St} {H H' : Hp}
/-- every masked address holds something -/
theorem Sim.held (S : Sim K T B ρ σ H) : ∀ a ∈ B.all ρ, ∃ o, H a = some o ∧ mutb o = true := fun a h => by
  rcases List.mem_append.mp h with h | h
  · exact S.outs a h
  · obtain ⟨i, d, e⟩ := mem_owns.mp h
    exact (S.at_ i _ e).2.some
theorem Sim.free (S : Sim K T B ρ σ H) {p : Addr} (h : H p = none) : p ∉ B.all ρ := fun z => by
  obtain ⟨o, e, _⟩ := S.held p z
  rw [h] at e; cases e
/-- the heap grew, no owned thing was touched -/
theorem Sim.grow (S : Sim K T B ρ σ H) (k : Kp H H') (t : ∀ P ∈ T, TQs H' P) (hd : ∀ a, H a ≠ none → H' a ≠ none) : Sim K T B ρ σ H' where
  len := S.len
  at_ := fun i s e => by
    have q := S.at_ i s e
    have km : Kp (msk (B.all ρ) H) (msk (B.all ρ) H') := fun a o n z => by
      obtain ⟨z1, z2⟩ := msk_some z
      rw [msk_out z1]; exact k a o n z2
    cases s with
    | un => trivial
    | dat d => obtain ⟨x, q1, q2⟩ := q; exact ⟨x, q1, q2.mono km⟩
    | own a d => exact ⟨q.1, q.2.mono km fun o n z => k a o n z⟩
  nodup := S.nodup
  disj := S.disj
  outs := fun a h => let ⟨o, e, n⟩ := S.outs a h; ⟨o, k a o (mutb_nt n) e, n⟩
  frame := fun a o n w e => k a o n (S.frame a o n w e)
  fresh := S.fresh
  tabs := t
  dom := fun a z => hd a (S.dom a z)
theorem tab_new {p : Addr} {o : HO} (h : H p = none) : ∀ {P : TQ}, TQs H P → TQs (upd H p o) P
  | .tab P, ⟨ps, e, q⟩ => ⟨ps, by rw [upd_ne (ne_of_none e h)]; exact e, q⟩
  | .tup a xs, e => by
    show upd H p o a = _
    rw [upd_ne (ne_of_none (show H a = some (.tup xs) from e) h)]; exact e
theorem Sim.new (S : Sim K T B ρ σ H) {p : Addr} {o : HO} (h : H p = none) : Sim K T B ρ σ (upd H p o) :=
  S.grow (Fx.new (W := []) h).kpN (fun P hP => tab_new h (S.tabs P hP)) fun a z => by
    by_cases q : a = p
    · rw [q, upd_same]; exact fun z => by cases z
    · rw [upd_ne q]; exact z
/-- a slot gets data -/
theorem owns_set_dat : ∀ {ρ : Sl} {i : Nat} {s : Slot} {a : Addr}, (∀ b d, s ≠ .own b d) → a ∈ owns (ρ.set i s) → a ∈ owns ρ
  | [], i, s, a, _, h => by simp [owns] at h
  | t :: r, 0, s, a, hs, h => by
    have h' : a ∈ owns (s :: r) := h
    have h2 : a ∈ owns r := by
      cases s with
      | own b d => exact absurd rfl (hs b d)
      | un => exact h'
      | dat d => exact h'
    cases t with
    | own b d => exact List.mem_cons_of_mem _ h2
    | un => exact h2
    | dat d => exact h2
  | t :: r, i + 1, s, a, hs, h => by
    have h' : a ∈ owns (t :: r.set i s) := h
    cases t with
    | own b d =>
      rcases List.mem_cons.mp h' with z | z
      · rw [z]; exact List.mem_cons_self
      · exact List.mem_cons_of_mem _ (owns_set_dat hs z)
    | un => exact owns_set_dat (ρ := r) hs h'
    | dat d => exact owns_set_dat (ρ := r) hs h'
theorem nodup_set_dat : ∀ {ρ : Sl} {i : Nat} {s : Slot}, (∀ b d, s ≠ .own b d) → (owns ρ).Nodup → (owns (ρ.set i s)).Nodup
  | [], i, s, _, h => by simp [owns]
  | t :: r, 0, s, hs, h => by
    have h2 : (owns r).Nodup := by
      cases t with
      | own b d => exact (List.nodup_cons.mp h).2
      | un => exact h
      | dat d => exact h
    show (owns (s :: r)).Nodup
    cases s with
    | own b d => exact absurd rfl (hs b d)
    | un => exact h2
    | dat d => exact h2
  | t :: r, i + 1, s, hs, h => by
    show (owns (t :: r.set i s)).Nodup
    cases t with
    | own b d =>
      obtain ⟨h1, h2⟩ := List.nodup_cons.mp h
      exact List.nodup_cons.mpr ⟨fun z => h1 (owns_set_dat hs z), nodup_set_dat hs h2⟩
    | un => exact nodup_set_dat (ρ := r) hs h
    | dat d => exact nodup_set_dat (ρ := r) hs h
theorem join_set_same {i : Nat} {v : V} (h : i < σ.length) : (σ.set i (some v))[i]?.join = some v := by
  rw [List.getElem?_set_self h]; rfl
theorem join_set_ne {i j : Nat} {o : Option V} (h : i ≠ j) : (σ.set i o)[j]?.join = σ[j]?.join := by rw [List.getElem?_set_ne h]
/-- a slot is stored: data, or nothing known -/
theorem Sim.set (S : Sim K T B ρ σ H) {i : Nat} {v : V} {s : Slot} (hs : ∀ b d, s ≠ .own b d) (hl : i < ρ.length) (h : At K H (msk (B.all ρ) H) s (some v)) : Sim K T B (ρ.set i s) (σ.set i (some v)) H := by
  have hsub : ∀ a ∈ B.all (ρ.set i s), a ∈ B.all ρ := fun a z => by
    rcases List.mem_append.mp z with z | z
    · exact List.mem_append_left _ z
    · exact List.mem_append_right _ (owns_set_dat hs z)
  have km : Kp (msk (B.all ρ) H) (msk (B.all (ρ.set i s)) H) := Kp.sub hsub
  have atm : ∀ {t : Slot} {o : Option V}, At K H (msk (B.all ρ) H) t o → At K H (msk (B.all (ρ.set i s)) H) t o := fun {t o} q => by
    cases t with
    | un => trivial
    | dat d => obtain ⟨x, q1, q2⟩ := q; exact ⟨x, q1, q2.mono km⟩
    | own a d => exact ⟨q.1, q.2.mono km fun _ _ z => z⟩
  have hl : i < σ.length := by rw [← S.len]; exact hl
  refine ⟨by rw [List.length_set, List.length_set]; exact S.len, fun j t e => ?_, nodup_set_dat hs S.nodup, fun a z => S.disj a (owns_set_dat hs z), S.outs, S.frame, fun a z => S.fresh a (owns_set_dat hs z), S.tabs, S.dom⟩
  by_cases q : i = j
  · subst q
    rw [join_set_same hl]
    have hi : i < ρ.length := by
      have := (List.getElem?_eq_some_iff.mp e).1
      simpa using this
    rw [List.getElem?_set_self hi] at e
    cases (Option.some.inj e)
    exact atm h
  · rw [join_set_ne q]
    rw [List.getElem?_set_ne q] at e
    exact atm (S.at_ j t e)
end

/-! ### expressions -/
def TD (K : PySem.W.Frag) (T : List TQ) (B : Bs) (ρ : Sl) (W : List Addr) (ρ' : Sl) (d : D) : TE := fun σ H Q =>
  Sim K T B ρ σ H ∧ ∀ v H', Sim K T B ρ' σ H' → Fx W H H' → Rp K (msk (B.all ρ') H') v d → Q v H'
/-- e, with the names as ρ tells, is d, and leaves ρ'; W: the owned things that it may write to -/
structure EX (X : Cx) (T : List TQ) (B : Bs) (ρ : Sl) (e : Expr) (W : List Addr) (ρ' : Sl) (d : D) : Prop where
  run : PE X e (TD X.K T B ρ W ρ' d)
  own : owns ρ' = owns ρ
  sub : ∀ a ∈ W, a ∈ owns ρ
theorem PE.imp {X : Cx} {e : Expr} {t t' : TE} (h : PE X e t) (i : ∀ σ H Q, t' σ H Q → t σ H Q) : PE X e t' := ⟨fun pins s σ H Q I q => h.run pins s σ H Q I (i σ H Q q)⟩
theorem PT.imp {X : Cx} {e : Expr} {t t' : TT} (h : PT X e t) (i : ∀ σ H Q, t' σ H Q → t σ H Q) : PT X e t' := ⟨fun pins s σ H Q I q => h.run pins s σ H Q I (i σ H Q q)⟩
theorem PS.imp {X : Cx} {e : Stmt} {t t' : TS} (h : PS X e t) (i : ∀ D σ H, t' D σ H → t D σ H) : PS X e t' := ⟨fun pins s σ H D I q => h.run pins s σ H D I (i D σ H q)⟩
theorem PSs.imp {X : Cx} {e : List Stmt} {t t' : TS} (h : PSs X e t) (i : ∀ D σ H, t' D σ H → t D σ H) : PSs X e t' := ⟨fun pins s σ H D I q => h.run pins s σ H D I (i D σ H q)⟩
end Dv

set_option maxRecDepth 100000
namespace Dv
open PySem PySem.Spec PyProof.Rows L2
section
variable {X : Cx} {T : List TQ} {B : Bs} {ρ ρ1 ρ2 ρ3 : Sl} {W W1 W2 W3 : List Addr} {e a b c : Expr} {d d1 d2 d3 : D} {pos : Pos}

/-! ### reading now: v is d at the heap as it stands (an owned thing may be read so) -/
def TDr (K : PySem.W.Frag) (T : List TQ) (B : Bs) (ρ : Sl) (W : List Addr) (ρ' : Sl) (d : D) : TE := fun σ H Q =>
  Sim K T B ρ σ H ∧ ∀ v H', Sim K T B ρ' σ H' → Fx W H H' → Rp K H' v d → Q v H'
structure ER (X : Cx) (T : List TQ) (B : Bs) (ρ : Sl) (e : Expr) (W : List Addr) (ρ' : Sl) (d : D) : Prop where
  run : PE X e (TDr X.K T B ρ W ρ' d)
  own : owns ρ' = owns ρ
  sub : ∀ a ∈ W, a ∈ owns ρ
theorem EX.r (h : EX X T B ρ e W ρ1 d) : ER X T B ρ e W ρ1 d := ⟨PE.imp h.run fun σ H Q ⟨S, q⟩ => ⟨S, fun v H' S' f r => q v H' S' f (r.mono (Kp.ofmsk _ _))⟩, h.own, h.sub⟩

theorem all_of (h : owns ρ1 = owns ρ) : B.all ρ1 = B.all ρ := by show B.out ++ owns ρ1 = B.out ++ owns ρ; rw [h]
/-- what was known of a value is carried over the next expression -/
theorem carry {K : PySem.W.Frag} {H1 H2 : Hp} {x : V} (h : EX X T B ρ1 b W2 ρ2 d2) (f : Fx W2 H1 H2) (r : Rp K (msk (B.all ρ1) H1) x d) : Rp K (msk (B.all ρ2) H2) x d := by
  rw [all_of h.own]
  exact r.mono (f.kp fun a z => List.mem_append_right _ (h.sub a z))
theorem carryA {K : PySem.W.Frag} {H1 H2 : Hp} {xs : List V} {ds : List D} (ho : owns ρ2 = owns ρ1) (hs : ∀ a ∈ W2, a ∈ owns ρ1) (f : Fx W2 H1 H2) (r : RpA K (msk (B.all ρ1) H1) xs ds) : RpA K (msk (B.all ρ2) H2) xs ds := by
  rw [all_of ho]
  exact r.mono (f.kp fun a z => List.mem_append_right _ (hs a z))
theorem sub_app (h1 : ∀ a ∈ W1, a ∈ owns ρ) (ho : owns ρ1 = owns ρ) (h2 : ∀ a ∈ W2, a ∈ owns ρ1) : ∀ a ∈ W1 ++ W2, a ∈ owns ρ := fun a z => by
  rcases List.mem_append.mp z with z | z
  · exact h1 a z
  · rw [← ho]; exact h2 a z
theorem sub_nil : ∀ a ∈ ([] : List Addr), a ∈ owns ρ := fun a z => by cases z
/-- a fresh address is masked by nothing -/
theorem msk_new {K : PySem.W.Frag} {σ : L2.St} {H : Hp} {p : Addr} {o : HO} (S : Sim K T B ρ σ H) (h : H p = none) : msk (B.all ρ) (upd H p o) p = some o := by
  rw [msk_out (S.free h), upd_same]
theorem kp_new {H : Hp} {p : Addr} {o : HO} {O : List Addr} (h : H p = none) : Kp (msk O H) (msk O (upd H p o)) := fun a u n e => by
  obtain ⟨q, e⟩ := msk_some e
  rw [msk_out q, upd_ne (ne_of_none e h)]; exact e

/-! ### names and constants -/
theorem slot_of {K : PySem.W.Frag} {σ : L2.St} {H : Hp} {i : Nat} {v : V} (h : (σ[i]?).join = some v) : σ[i]? = some (some v) := by
  cases q : σ[i]? with
  | none => rw [q] at h; cases h
  | some o => rw [q] at h; exact congrArg some h
theorem ex_name {i : Nat} {x : Str} (hs : ρ[i]? = some (.dat d)) (hN : X.N[i]? = some x) (hv : Vis X.env.scope x) (hd : (x == ("__debug__" : Str)) = false := by decide) (hcd : (x == ("__classdict__" : Str)) = false := by decide) :
    EX X T B ρ (.Name x pos) [] ρ d := ⟨PE.imp (pe_var hN hv hd hcd) fun σ H Q ⟨S, q⟩ => by
      obtain ⟨v, q1, q2⟩ := S.at_ i _ hs
      exact ⟨v, slot_of (K := X.K) (H := H) q1, q v H S (Fx.refl _ _) q2⟩, rfl, sub_nil⟩
/-- an owned list, read -/
theorem er_own {i : Nat} {x : Str} {l : Addr} {ds : List D} (hs : ρ[i]? = some (.own l (.list ds))) (hN : X.N[i]? = some x) (hv : Vis X.env.scope x) (hd : (x == ("__debug__" : Str)) = false := by decide) (hcd : (x == ("__classdict__" : Str)) = false := by decide) :
    ER X T B ρ (.Name x pos) [] ρ (.list ds) := ⟨PE.imp (pe_var hN hv hd hcd) fun σ H Q ⟨S, q⟩ => by
      obtain ⟨q1, q2⟩ := S.at_ i _ hs
      refine ⟨.ref l, slot_of (K := X.K) (H := H) q1, q (.ref l) H S (Fx.refl _ _) ?_⟩
      obtain ⟨xs, e, r⟩ := q2
      exact .lst (SqL.of e) (r.mono (Kp.ofmsk _ _)), rfl, sub_nil⟩
theorem ex_c {v : V} (h : PE X e (tC v)) (r : ∀ H, Rp X.K H v d) : EX X T B ρ e [] ρ d := ⟨PE.imp h fun σ H Q ⟨S, q⟩ => q v H S (Fx.refl _ _) (r _), rfl, sub_nil⟩
theorem ex_int {i : Int} {j} : EX X T B ρ (.Constant (.int i) j pos) [] ρ (.int i) := ex_c pe_int fun _ => .int i
theorem ex_bl {i : Bool} {j} : EX X T B ρ (.Constant (.bool i) j pos) [] ρ (.bool i) := ex_c pe_bl fun _ => .bl i
theorem ex_non {j} : EX X T B ρ (.Constant .none j pos) [] ρ .none := ex_c pe_non fun _ => .non
theorem ex_str {x : Str} {j} : EX X T B ρ (.Constant (.str x) j pos) [] ρ (.str x) := ex_c pe_str fun _ => .str x

/-! ### two operands -/
/-- both are known when the operator comes; stable -/
structure E2 (X : Cx) (T : List TQ) (B : Bs) (ρ : Sl) (a b : Expr) (W : List Addr) (ρ' : Sl) (d1 d2 : D) : Prop where
  run : ∃ ta tb, PE X a ta ∧ PE X b tb ∧ ∀ σ H (R : V → V → Hp → Prop), Sim X.K T B ρ σ H → (∀ x y H', Sim X.K T B ρ' σ H' → Fx W H H' → Rp X.K (msk (B.all ρ') H') x d1 → Rp X.K (msk (B.all ρ') H') y d2 → R x y H') →
    ta σ H fun x H1 => tb σ H1 fun y H2 => R x y H2
  own : owns ρ' = owns ρ
  sub : ∀ a ∈ W, a ∈ owns ρ
/-- .. for now -/
structure R2 (X : Cx) (T : List TQ) (B : Bs) (ρ : Sl) (a b : Expr) (W : List Addr) (ρ' : Sl) (d1 d2 : D) : Prop where
  run : ∃ ta tb, PE X a ta ∧ PE X b tb ∧ ∀ σ H (R : V → V → Hp → Prop), Sim X.K T B ρ σ H → (∀ x y H', Sim X.K T B ρ' σ H' → Fx W H H' → Rp X.K H' x d1 → Rp X.K H' y d2 → R x y H') →
    ta σ H fun x H1 => tb σ H1 fun y H2 => R x y H2
  own : owns ρ' = owns ρ
  sub : ∀ a ∈ W, a ∈ owns ρ
theorem e2 (ha : EX X T B ρ a W1 ρ1 d1) (hb : EX X T B ρ1 b W2 ρ2 d2) : E2 X T B ρ a b (W1 ++ W2) ρ2 d1 d2 :=
  ⟨⟨_, _, ha.run, hb.run, fun σ H R S q => ⟨S, fun x H1 S1 f1 r1 => ⟨S1, fun y H2 S2 f2 r2 => q x y H2 S2 (f1.trans f2) (carry hb f2 r1) r2⟩⟩⟩, hb.own.trans ha.own, sub_app ha.sub ha.own hb.sub⟩
theorem E2.r (h : E2 X T B ρ a b W ρ1 d1 d2) : R2 X T B ρ a b W ρ1 d1 d2 := by
  obtain ⟨ta, tb, ha, hb, q⟩ := h.run
  exact ⟨⟨ta, tb, ha, hb, fun σ H R S k => q σ H R S fun x y H' S' f r1 r2 => k x y H' S' f (r1.mono (Kp.ofmsk _ _)) (r2.mono (Kp.ofmsk _ _))⟩, h.own, h.sub⟩
theorem r2 (ha : EX X T B ρ a W1 ρ1 d1) (hb : EX X T B ρ1 b W2 ρ2 d2) : R2 X T B ρ a b (W1 ++ W2) ρ2 d1 d2 := (e2 ha hb).r
/-- the second writes nothing -/
theorem r2n (ha : ER X T B ρ a W ρ1 d1) (hb : ER X T B ρ1 b [] ρ2 d2) : R2 X T B ρ a b W ρ2 d1 d2 :=
  ⟨⟨_, _, ha.run, hb.run, fun σ H R S q => ⟨S, fun x H1 S1 f1 r1 => ⟨S1, fun y H2 S2 f2 r2 => q x y H2 S2 ((f1.trans f2).mono fun a z => by simpa using z) (r1.mono f2.kpN) r2⟩⟩⟩, hb.own.trans ha.own, ha.sub⟩

/-- an operator whose answer needs no heap -/
theorem ex_op {op : Operator} {r : L2.R2} {v : V} (ho : OpR X (binaryOp op) r) (h : R2 X T B ρ a b W ρ1 d1 d2) (k : ∀ x y H Q, Rp X.K H x d1 → Rp X.K H y d2 → Q v H → r x y H Q) (rd : ∀ H, Rp X.K H v d) : EX X T B ρ (.BinOp a op b pos) W ρ1 d := by
  obtain ⟨ta, tb, ha, hb, q⟩ := h.run
  refine ⟨PE.imp (pe_op ho ha hb) fun σ H Q ⟨S, z⟩ => q σ H _ S fun x y H' S' f r1 r2 => k x y H' Q r1 r2 (z v H' S' f (rd _)), h.own, h.sub⟩
theorem int_of {K : PySem.W.Frag} {H : Hp} {x : V} {i : Int} (r : Rp K H x (.int i)) : x = .int i := by cases r; rfl
theorem str_of {K : PySem.W.Frag} {H : Hp} {x : V} {i : Str} (r : Rp K H x (.str i)) : x = .str i := by cases r; rfl
theorem bl_of {K : PySem.W.Frag} {H : Hp} {x : V} {i : Bool} (r : Rp K H x (.bool i)) : x = .bl i := by cases r; rfl
theorem non_of {K : PySem.W.Frag} {H : Hp} {x : V} (r : Rp K H x .none) : x = .non := by cases r; rfl
variable {i j : Int}
theorem ex_add (ha : EX X T B ρ a W1 ρ1 (.int i)) (hb : EX X T B ρ1 b W2 ρ2 (.int j)) : EX X T B ρ (.BinOp a .Add b pos) (W1 ++ W2) ρ2 (.int (i + j)) :=
  ex_op op_add (r2 ha hb) (fun x y H Q r1 r2 q => ⟨i, j, int_of r1, int_of r2, q⟩) fun _ => .int _
theorem ex_sub (ha : EX X T B ρ a W1 ρ1 (.int i)) (hb : EX X T B ρ1 b W2 ρ2 (.int j)) : EX X T B ρ (.BinOp a .Sub b pos) (W1 ++ W2) ρ2 (.int (i - j)) :=
  ex_op op_sub (r2 ha hb) (fun x y H Q r1 r2 q => ⟨i, j, int_of r1, int_of r2, q⟩) fun _ => .int _
theorem ex_mul (ha : EX X T B ρ a W1 ρ1 (.int i)) (hb : EX X T B ρ1 b W2 ρ2 (.int j)) (hc : CMul i j) : EX X T B ρ (.BinOp a .Mult b pos) (W1 ++ W2) ρ2 (.int (i * j)) :=
  ex_op op_mul (r2 ha hb) (fun x y H Q r1 r2 q => ⟨i, j, int_of r1, int_of r2, hc, q⟩) fun _ => .int _
theorem ex_fdiv (ha : EX X T B ρ a W1 ρ1 (.int i)) (hb : EX X T B ρ1 b W2 ρ2 (.int j)) (hc : CDiv i j) : EX X T B ρ (.BinOp a .FloorDiv b pos) (W1 ++ W2) ρ2 (.int (i / j)) :=
  ex_op op_fdiv (r2 ha hb) (fun x y H Q r1 r2 q => ⟨i, j, int_of r1, int_of r2, hc, q⟩) fun _ => .int _
theorem ex_mod (ha : EX X T B ρ a W1 ρ1 (.int i)) (hb : EX X T B ρ1 b W2 ρ2 (.int j)) (hc : 0 < j) : EX X T B ρ (.BinOp a .Mod b pos) (W1 ++ W2) ρ2 (.int (i % j)) :=
  ex_op op_mod (r2 ha hb) (fun x y H Q r1 r2 q => ⟨i, j, int_of r1, int_of r2, hc, q⟩) fun _ => .int _
theorem ex_pow (ha : EX X T B ρ a W1 ρ1 (.int i)) (hb : EX X T B ρ1 b W2 ρ2 (.int j)) (hc : CPow i j) : EX X T B ρ (.BinOp a .Pow b pos) (W1 ++ W2) ρ2 (.int (i ^ j.toNat)) :=
  ex_op op_pow (r2 ha hb) (fun x y H Q r1 r2 q => ⟨i, j, int_of r1, int_of r2, hc, q⟩) fun _ => .int _
theorem ex_addS {i j : Str} (ha : EX X T B ρ a W1 ρ1 (.str i)) (hb : EX X T B ρ1 b W2 ρ2 (.str j)) (hc : i.length + j.length ≤ sizeLine) : EX X T B ρ (.BinOp a .Add b pos) (W1 ++ W2) ρ2 (.str (i ++ j)) :=
  ex_op op_add_str (r2 ha hb) (fun x y H Q r1 r2 q => ⟨i, j, str_of r1, str_of r2, hc, q⟩) fun _ => .str _
theorem ex_neg (ha : EX X T B ρ a W1 ρ1 (.int i)) : EX X T B ρ (.UnaryOp .USub a pos) W1 ρ1 (.int (-i)) :=
  ⟨PE.imp (pe_un un_neg ha.run) fun σ H Q ⟨S, q⟩ => ⟨S, fun x H1 S1 f1 r1 => ⟨i, int_of r1, q _ H1 S1 f1 (.int _)⟩⟩, ha.own, ha.sub⟩

/-! ### comparisons -/
theorem ex_cmp {op : CmpOp} {r : L2.R2} {v : V} (ho : OpR X (compareOp op) r) (h : R2 X T B ρ a b W ρ1 d1 d2) (hm : behindInMarks op b = false) (k : ∀ x y H Q, Rp X.K H x d1 → Rp X.K H y d2 → Q v H → r x y H Q) (rd : ∀ H, Rp X.K H v d) :
    EX X T B ρ (.Compare a [op] [b] pos) W ρ1 d := by
  obtain ⟨ta, tb, ha, hb, q⟩ := h.run
  refine ⟨PE.imp (pe_cmpR ho ha hb hm) fun σ H Q ⟨S, z⟩ => q σ H _ S fun x y H' S' f r1 r2 => k x y H' Q r1 r2 (z v H' S' f (rd _)), h.own, h.sub⟩
theorem ex_lt (h : R2 X T B ρ a b W ρ1 (.int i) (.int j)) : EX X T B ρ (.Compare a [.Lt] [b] pos) W ρ1 (.bool (decide (i < j))) :=
  ex_cmp op_lt h (nomark _) (fun x y H Q r1 r2 q => ⟨i, j, int_of r1, int_of r2, q⟩) fun _ => .bl _
theorem ex_le (h : R2 X T B ρ a b W ρ1 (.int i) (.int j)) : EX X T B ρ (.Compare a [.LtE] [b] pos) W ρ1 (.bool (decide (i ≤ j))) :=
  ex_cmp op_le h (nomark _) (fun x y H Q r1 r2 q => ⟨i, j, int_of r1, int_of r2, q⟩) fun _ => .bl _
theorem ex_gt (h : R2 X T B ρ a b W ρ1 (.int i) (.int j)) : EX X T B ρ (.Compare a [.Gt] [b] pos) W ρ1 (.bool (decide (j < i))) :=
  ex_cmp op_gt h (nomark _) (fun x y H Q r1 r2 q => ⟨i, j, int_of r1, int_of r2, q⟩) fun _ => .bl _
theorem ex_ge (h : R2 X T B ρ a b W ρ1 (.int i) (.int j)) : EX X T B ρ (.Compare a [.GtE] [b] pos) W ρ1 (.bool (decide (j ≤ i))) :=
  ex_cmp op_ge h (nomark _) (fun x y H Q r1 r2 q => ⟨i, j, int_of r1, int_of r2, q⟩) fun _ => .bl _
/-- equality of data without dicts -/
def fine (d : D) : Bool := plain d && SeqAt.shaped d.py
theorem fine_of (h : fine d = true) : plain d = true ∧ SeqAt.shaped d.py = true := Bool.and_eq_true_iff.mp h
theorem ex_eq (hu : X.A.units + 64 < cLine) (h : R2 X T B ρ a b W ρ1 d1 d2) (h1 : fine d1 = true) (h2 : fine d2 = true) : EX X T B ρ (.Compare a [.Eq] [b] pos) W ρ1 (.bool (PyData.eqv d1.py d2.py)) :=
  ex_cmp (op_eqD hu) h (nomark _) (fun x y H Q r1 r2 q => ⟨d1.py, d2.py, r1.dp (fine_of h1).1, r2.dp (fine_of h2).1, (fine_of h1).2, (fine_of h2).2, q⟩) fun _ => .bl _
theorem ex_ne (hu : X.A.units + 64 < cLine) (h : R2 X T B ρ a b W ρ1 d1 d2) (h1 : fine d1 = true) (h2 : fine d2 = true) : EX X T B ρ (.Compare a [.NotEq] [b] pos) W ρ1 (.bool (!PyData.eqv d1.py d2.py)) :=
  ex_cmp (op_neD hu) h (nomark _) (fun x y H Q r1 r2 q => ⟨d1.py, d2.py, r1.dp (fine_of h1).1, r2.dp (fine_of h2).1, (fine_of h1).2, (fine_of h2).2, q⟩) fun _ => .bl _
/-- .. of ints -/
theorem ex_eqI (h : R2 X T B ρ a b W ρ1 (.int i) (.int j)) : EX X T B ρ (.Compare a [.Eq] [b] pos) W ρ1 (.bool (decide (i = j))) :=
  ex_cmp op_eq h (nomark _) (fun x y H Q r1 r2 q => by rw [int_of r1, int_of r2]; exact ⟨rfl, by simpa using q⟩) fun _ => .bl _
theorem ex_neI (h : R2 X T B ρ a b W ρ1 (.int i) (.int j)) : EX X T B ρ (.Compare a [.NotEq] [b] pos) W ρ1 (.bool (!decide (i = j))) :=
  ex_cmp op_ne h (nomark _) (fun x y H Q r1 r2 q => by rw [int_of r1, int_of r2]; exact ⟨rfl, by simpa using q⟩) fun _ => .bl _
theorem ex_eqS {i j : Str} (h : R2 X T B ρ a b W ρ1 (.str i) (.str j)) : EX X T B ρ (.Compare a [.Eq] [b] pos) W ρ1 (.bool (decide (i = j))) :=
  ex_cmp op_eq h (nomark _) (fun x y H Q r1 r2 q => by rw [str_of r1, str_of r2]; exact ⟨rfl, by simpa using q⟩) fun _ => .bl _
theorem ex_neS {i j : Str} (h : R2 X T B ρ a b W ρ1 (.str i) (.str j)) : EX X T B ρ (.Compare a [.NotEq] [b] pos) W ρ1 (.bool (!decide (i = j))) :=
  ex_cmp op_ne h (nomark _) (fun x y H Q r1 r2 q => by rw [str_of r1, str_of r2]; exact ⟨rfl, by simpa using q⟩) fun _ => .bl _
theorem ex_eqB {i j : Bool} (h : R2 X T B ρ a b W ρ1 (.bool i) (.bool j)) : EX X T B ρ (.Compare a [.Eq] [b] pos) W ρ1 (.bool (decide (i = j))) :=
  ex_cmp op_eq h (nomark _) (fun x y H Q r1 r2 q => by rw [bl_of r1, bl_of r2]; exact ⟨rfl, by simpa using q⟩) fun _ => .bl _
theorem ex_neB {i j : Bool} (h : R2 X T B ρ a b W ρ1 (.bool i) (.bool j)) : EX X T B ρ (.Compare a [.NotEq] [b] pos) W ρ1 (.bool (!decide (i = j))) :=
  ex_cmp op_ne h (nomark _) (fun x y H Q r1 r2 q => by rw [bl_of r1, bl_of r2]; exact ⟨rfl, by simpa using q⟩) fun _ => .bl _
theorem ex_isB {i j : Bool} (h : R2 X T B ρ a b W ρ1 (.bool i) (.bool j)) : EX X T B ρ (.Compare a [.Is] [b] pos) W ρ1 (.bool (decide (i = j))) :=
  ex_cmp op_isBl h (nomark _) (fun x y H Q r1 r2 q => ⟨i, j, bl_of r1, bl_of r2, q⟩) fun _ => .bl _
theorem ex_isNotB {i j : Bool} (h : R2 X T B ρ a b W ρ1 (.bool i) (.bool j)) : EX X T B ρ (.Compare a [.IsNot] [b] pos) W ρ1 (.bool (!decide (i = j))) :=
  ex_cmp op_notBl h (nomark _) (fun x y H Q r1 r2 q => ⟨i, j, bl_of r1, bl_of r2, q⟩) fun _ => .bl _

/-! ### tests -/
def TTd (K : PySem.W.Frag) (T : List TQ) (B : Bs) (ρ : Sl) (W : List Addr) (ρ' : Sl) (k : Bool) : TT := fun σ H Q =>
  Sim K T B ρ σ H ∧ ∀ H', Sim K T B ρ' σ H' → Fx W H H' → Q k H'
structure TX (X : Cx) (T : List TQ) (B : Bs) (ρ : Sl) (e : Expr) (W : List Addr) (ρ' : Sl) (k : Bool) : Prop where
  run : PT X e (TTd X.K T B ρ W ρ' k)
  own : owns ρ' = owns ρ
  sub : ∀ a ∈ W, a ∈ owns ρ
structure WX (X : Cx) (T : List TQ) (B : Bs) (ρ : Sl) (e : Expr) (W : List Addr) (ρ' : Sl) (k : Bool) : Prop where
  run : PW X e (TTd X.K T B ρ W ρ' k)
  own : owns ρ' = owns ρ
  sub : ∀ a ∈ W, a ∈ owns ρ
theorem PW.imp {X : Cx} {e : Expr} {t t' : TT} (h : PW X e t) (i : ∀ σ H Q, t' σ H Q → t σ H Q) : PW X e t' := ⟨fun w pins s σ H Q I q => h.run w pins s σ H Q I (i σ H Q q)⟩
theorem WX.t {k : Bool} (h : WX X T B ρ e W ρ1 k) : TX X T B ρ e W ρ1 k := ⟨h.run.pt, h.own, h.sub⟩
variable {k k1 k2 : Bool}
theorem tx_of (h : EX X T B ρ e W ρ1 (.bool k)) (hp : PT X e (tB (TD X.K T B ρ W ρ1 (.bool k)))) : TX X T B ρ e W ρ1 k :=
  ⟨PT.imp hp fun σ H Q ⟨S, q⟩ => ⟨S, fun v H' S' f r => ⟨k, bl_of r, q H' S' f⟩⟩, h.own, h.sub⟩
/-- a comparison as a test -/
theorem tx_cmp {op : CmpOp} {r : L2.R2} (ho : OpR X (compareOp op) r) (h : R2 X T B ρ a b W ρ1 d1 d2) (hm : behindInMarks op b = false) (kk : ∀ x y H Q, Rp X.K H x d1 → Rp X.K H y d2 → Q (V.bl k) H → r x y H Q) :
    TX X T B ρ (.Compare a [op] [b] pos) W ρ1 k := by
  obtain ⟨ta, tb, ha, hb, q⟩ := h.run
  refine ⟨PT.imp (pt_cmpR ho ha hb hm) fun σ H Q ⟨S, z⟩ => q σ H _ S fun x y H' S' f r1 r2 => kk x y H' _ r1 r2 ⟨k, rfl, z H' S' f⟩, h.own, h.sub⟩
theorem tx_lt (h : R2 X T B ρ a b W ρ1 (.int i) (.int j)) : TX X T B ρ (.Compare a [.Lt] [b] pos) W ρ1 (decide (i < j)) := tx_cmp op_lt h (nomark _) (fun x y H Q r1 r2 q => ⟨i, j, int_of r1, int_of r2, q⟩)
theorem tx_le (h : R2 X T B ρ a b W ρ1 (.int i) (.int j)) : TX X T B ρ (.Compare a [.LtE] [b] pos) W ρ1 (decide (i ≤ j)) := tx_cmp op_le h (nomark _) (fun x y H Q r1 r2 q => ⟨i, j, int_of r1, int_of r2, q⟩)
theorem tx_gt (h : R2 X T B ρ a b W ρ1 (.int i) (.int j)) : TX X T B ρ (.Compare a [.Gt] [b] pos) W ρ1 (decide (j < i)) := tx_cmp op_gt h (nomark _) (fun x y H Q r1 r2 q => ⟨i, j, int_of r1, int_of r2, q⟩)
theorem tx_ge (h : R2 X T B ρ a b W ρ1 (.int i) (.int j)) : TX X T B ρ (.Compare a [.GtE] [b] pos) W ρ1 (decide (j ≤ i)) := tx_cmp op_ge h (nomark _) (fun x y H Q r1 r2 q => ⟨i, j, int_of r1, int_of r2, q⟩)
theorem tx_eq (hu : X.A.units + 64 < cLine) (h : R2 X T B ρ a b W ρ1 d1 d2) (h1 : fine d1 = true) (h2 : fine d2 = true) : TX X T B ρ (.Compare a [.Eq] [b] pos) W ρ1 (PyData.eqv d1.py d2.py) :=
  tx_cmp (op_eqD hu) h (nomark _) (fun x y H Q r1 r2 q => ⟨d1.py, d2.py, r1.dp (fine_of h1).1, r2.dp (fine_of h2).1, (fine_of h1).2, (fine_of h2).2, q⟩)
theorem tx_ne (hu : X.A.units + 64 < cLine) (h : R2 X T B ρ a b W ρ1 d1 d2) (h1 : fine d1 = true) (h2 : fine d2 = true) : TX X T B ρ (.Compare a [.NotEq] [b] pos) W ρ1 (!PyData.eqv d1.py d2.py) :=
  tx_cmp (op_neD hu) h (nomark _) (fun x y H Q r1 r2 q => ⟨d1.py, d2.py, r1.dp (fine_of h1).1, r2.dp (fine_of h2).1, (fine_of h1).2, (fine_of h2).2, q⟩)
theorem tx_eqI (h : R2 X T B ρ a b W ρ1 (.int i) (.int j)) : TX X T B ρ (.Compare a [.Eq] [b] pos) W ρ1 (decide (i = j)) := tx_cmp op_eq h (nomark _) (fun x y H Q r1 r2 q => by rw [int_of r1, int_of r2]; exact ⟨rfl, by simpa using q⟩)
theorem tx_neI (h : R2 X T B ρ a b W ρ1 (.int i) (.int j)) : TX X T B ρ (.Compare a [.NotEq] [b] pos) W ρ1 (!decide (i = j)) := tx_cmp op_ne h (nomark _) (fun x y H Q r1 r2 q => by rw [int_of r1, int_of r2]; exact ⟨rfl, by simpa using q⟩)
theorem tx_eqS {i j : Str} (h : R2 X T B ρ a b W ρ1 (.str i) (.str j)) : TX X T B ρ (.Compare a [.Eq] [b] pos) W ρ1 (decide (i = j)) := tx_cmp op_eq h (nomark _) (fun x y H Q r1 r2 q => by rw [str_of r1, str_of r2]; exact ⟨rfl, by simpa using q⟩)
theorem tx_neS {i j : Str} (h : R2 X T B ρ a b W ρ1 (.str i) (.str j)) : TX X T B ρ (.Compare a [.NotEq] [b] pos) W ρ1 (!decide (i = j)) := tx_cmp op_ne h (nomark _) (fun x y H Q r1 r2 q => by rw [str_of r1, str_of r2]; exact ⟨rfl, by simpa using q⟩)
theorem tx_eqB {i j : Bool} (h : R2 X T B ρ a b W ρ1 (.bool i) (.bool j)) : TX X T B ρ (.Compare a [.Eq] [b] pos) W ρ1 (decide (i = j)) := tx_cmp op_eq h (nomark _) (fun x y H Q r1 r2 q => by rw [bl_of r1, bl_of r2]; exact ⟨rfl, by simpa using q⟩)
theorem tx_neB {i j : Bool} (h : R2 X T B ρ a b W ρ1 (.bool i) (.bool j)) : TX X T B ρ (.Compare a [.NotEq] [b] pos) W ρ1 (!decide (i = j)) := tx_cmp op_ne h (nomark _) (fun x y H Q r1 r2 q => by rw [bl_of r1, bl_of r2]; exact ⟨rfl, by simpa using q⟩)
/-- the truth of a bool: a name, a call -/
theorem tx_val (h : EX X T B ρ e W ρ1 (.bool k)) (he : ∀ whole, isTrue e X.env whole = (do let v ← whole; standAt e.pos; holding [v] (truthy v))) : TX X T B ρ e W ρ1 k :=
  ⟨PT.imp (pt_truth h.run he) fun σ H Q ⟨S, q⟩ => ⟨S, fun v H' S' f r => ⟨k, by rw [bl_of r]; exact rfl, q H' S' f⟩⟩, h.own, h.sub⟩
theorem tx_not (h : TX X T B ρ a W ρ1 k) : TX X T B ρ (.UnaryOp .Not a pos) W ρ1 (!k) := ⟨PT.imp (pt_not h.run) fun σ H Q ⟨S, q⟩ => ⟨S, fun H' S' f => q H' S' f⟩, h.own, h.sub⟩
theorem wx_and1 (h : TX X T B ρ a W ρ1 k) : WX X T B ρ (.BoolOp .And [a] pos) W ρ1 k := ⟨pw_and1 h.run, h.own, h.sub⟩
theorem wx_or1 (h : TX X T B ρ a W ρ1 k) : WX X T B ρ (.BoolOp .Or [a] pos) W ρ1 k := ⟨pw_or1 h.run, h.own, h.sub⟩
/-- a rule that holds where g does -/
theorem PW.guard {X : Cx} {e : Expr} {t : TT} {g : Prop} (h : g → PW X e t) : PW X e (fun σ H Q => g ∧ t σ H Q) := ⟨fun w pins s σ H Q I q => (h q.1).run w pins s σ H Q I q.2⟩
theorem PT.guard {X : Cx} {e : Expr} {t : TT} {g : Prop} (h : g → PT X e t) : PT X e (fun σ H Q => g ∧ t σ H Q) := ⟨fun pins s σ H Q I q => (h q.1).run pins s σ H Q I q.2⟩
theorem PE.guard {X : Cx} {e : Expr} {t : TE} {g : Prop} (h : g → PE X e t) : PE X e (fun σ H Q => g ∧ t σ H Q) := ⟨fun pins s σ H Q I q => (h q.1).run pins s σ H Q I q.2⟩
theorem PSs.guard {X : Cx} {e : List Stmt} {t : TS} {g : Prop} (h : g → PSs X e t) : PSs X e (fun D σ H => g ∧ t D σ H) := ⟨fun pins s σ H Q I q => (h q.1).run pins s σ H Q I q.2⟩
theorem app_nil (f : ∀ {H H1 H2 : Hp}, Fx W H H1 → Fx [] H1 H2 → Fx W H H2) : True := trivial
theorem Fx.transN {H H1 H2 : Hp} (f : Fx W H H1) (g : Fx [] H1 H2) : Fx W H H2 := (f.trans g).mono fun a z => by simpa using z
theorem wx_and {r : List Expr} (h : TX X T B ρ a W ρ1 k1) (hb : k1 = true → WX X T B ρ1 (.BoolOp .And (b :: r) pos) [] ρ1 k2) : WX X T B ρ (.BoolOp .And (a :: b :: r) pos) W ρ1 (k1 && k2) := by
  refine ⟨PW.imp (pw_and h.run (PW.guard (g := k1 = true) fun z => (hb z).run)) fun σ H Q ⟨S, z⟩ => ⟨S, fun H' S' f => ?_⟩, h.own, h.sub⟩
  show (if k1 = true then _ else Q false H')
  cases k1 with
  | true =>
    rw [if_pos rfl]
    exact ⟨rfl, S', fun H2 S2 f2 => by simpa using z H2 S2 (f.transN f2)⟩
  | false =>
    rw [if_neg Bool.false_ne_true]
    exact z H' S' f
theorem wx_or {r : List Expr} (h : TX X T B ρ a W ρ1 k1) (hb : k1 = false → WX X T B ρ1 (.BoolOp .Or (b :: r) pos) [] ρ1 k2) : WX X T B ρ (.BoolOp .Or (a :: b :: r) pos) W ρ1 (k1 || k2) := by
  refine ⟨PW.imp (pw_or h.run (PW.guard (g := k1 = false) fun z => (hb z).run)) fun σ H Q ⟨S, z⟩ => ⟨S, fun H' S' f => ?_⟩, h.own, h.sub⟩
  show (if k1 = true then Q true H' else _)
  cases k1 with
  | true =>
    rw [if_pos rfl]
    exact z H' S' f
  | false =>
    rw [if_neg Bool.false_ne_true]
    exact ⟨rfl, S', fun H2 S2 f2 => by simpa using z H2 S2 (f.transN f2)⟩
/-- and, or, not as values -/
theorem ex_one {op} (h : EX X T B ρ a W ρ1 d) : EX X T B ρ (.BoolOp op [a] pos) W ρ1 d := ⟨pe_one h.run, h.own, h.sub⟩
theorem ex_and {r : List Expr} (h : EX X T B ρ a W ρ1 (.bool k1)) (hb : k1 = true → EX X T B ρ1 (.BoolOp .And (b :: r) pos) [] ρ1 (.bool k2)) : EX X T B ρ (.BoolOp .And (a :: b :: r) pos) W ρ1 (.bool (k1 && k2)) := by
  refine ⟨PE.imp (pe_and h.run (PE.guard (g := k1 = true) fun z => (hb z).run)) fun σ H Q ⟨S, z⟩ => ⟨S, fun v H' S' f q => ⟨k1, bl_of q, ?_⟩⟩, h.own, h.sub⟩
  cases k1 with
  | true =>
    rw [if_pos rfl]
    exact ⟨rfl, S', fun w H2 S2 f2 r2 => z w H2 S2 (f.transN f2) (by simpa using r2)⟩
  | false =>
    rw [if_neg Bool.false_ne_true]
    exact z _ H' S' f (.bl _)
theorem ex_or {r : List Expr} (h : EX X T B ρ a W ρ1 (.bool k1)) (hb : k1 = false → EX X T B ρ1 (.BoolOp .Or (b :: r) pos) [] ρ1 (.bool k2)) : EX X T B ρ (.BoolOp .Or (a :: b :: r) pos) W ρ1 (.bool (k1 || k2)) := by
  refine ⟨PE.imp (pe_or h.run (PE.guard (g := k1 = false) fun z => (hb z).run)) fun σ H Q ⟨S, z⟩ => ⟨S, fun v H' S' f q => ⟨k1, bl_of q, ?_⟩⟩, h.own, h.sub⟩
  cases k1 with
  | true =>
    rw [if_pos rfl]
    exact z _ H' S' f (.bl _)
  | false =>
    rw [if_neg Bool.false_ne_true]
    exact ⟨rfl, S', fun w H2 S2 f2 r2 => z w H2 S2 (f.transN f2) (by simpa using r2)⟩
theorem ex_not (h : EX X T B ρ a W ρ1 (.bool k)) : EX X T B ρ (.UnaryOp .Not a pos) W ρ1 (.bool (!k)) :=
  ⟨PE.imp (pe_not h.run) fun σ H Q ⟨S, z⟩ => ⟨S, fun v H' S' f q => ⟨k, bl_of q, z _ H' S' f (.bl _)⟩⟩, h.own, h.sub⟩
/-- a if c else b -/
theorem ex_ifE (h : TX X T B ρ c W1 ρ1 k) (ha : k = true → EX X T B ρ1 a W2 ρ2 d) (hb : k = false → EX X T B ρ1 b W2 ρ2 d) (ho : owns ρ2 = owns ρ1) (hs : ∀ a ∈ W2, a ∈ owns ρ1) : EX X T B ρ (.IfExp c a b pos) (W1 ++ W2) ρ2 d := by
  refine ⟨PE.imp (pe_ifExp h.run (PE.guard (g := k = true) fun z => (ha z).run) (PE.guard (g := k = false) fun z => (hb z).run)) fun σ H Q ⟨S, z⟩ => ⟨S, fun H' S' f => ?_⟩, ho.trans h.own, sub_app h.sub h.own hs⟩
  cases k with
  | true =>
    rw [if_pos rfl]
    exact ⟨rfl, S', fun w H2 S2 f2 r2 => z w H2 S2 (f.trans f2) r2⟩
  | false =>
    rw [if_neg Bool.false_ne_true]
    exact ⟨rfl, S', fun w H2 S2 f2 r2 => z w H2 S2 (f.trans f2) r2⟩
/-- the data said otherwise -/
theorem EX.to (h : EX X T B ρ e W ρ1 d) (q : d = d1) : EX X T B ρ e W ρ1 d1 := q ▸ h
theorem TX.to (h : TX X T B ρ e W ρ1 k) (q : k = k1) : TX X T B ρ e W ρ1 k1 := q ▸ h
theorem EX.st (h : EX X T B ρ e W ρ1 d) (q : ρ1 = ρ2) : EX X T B ρ e W ρ2 d := q ▸ h

/-! ### lists, tuples made; arguments -/
structure AX (X : Cx) (T : List TQ) (B : Bs) (ρ : Sl) (es : List Expr) (W : List Addr) (ρ' : Sl) (ds : List D) : Prop where
  run : PA X es (fun σ H Q => Sim X.K T B ρ σ H ∧ ∀ vs H', Sim X.K T B ρ' σ H' → Fx W H H' → RpA X.K (msk (B.all ρ') H') vs ds → Q vs H')
  own : owns ρ' = owns ρ
  sub : ∀ a ∈ W, a ∈ owns ρ
theorem PA.imp {X : Cx} {es : List Expr} {t t' : TA} (h : PA X es t) (i : ∀ σ H Q, t' σ H Q → t σ H Q) : PA X es t' := ⟨fun p pins s σ H Q I q => h.run p pins s σ H Q I (i σ H Q q)⟩
theorem ax_nil : AX X T B ρ [] [] ρ [] := ⟨PA.imp pa_nil fun σ H Q ⟨S, q⟩ => q [] H S (Fx.refl _ _) .nil, rfl, sub_nil⟩
theorem ax_cons {es : List Expr} {ds : List D} (h : EX X T B ρ e W1 ρ1 d) (r : AX X T B ρ1 es W2 ρ2 ds) (hs : starEach (e :: es) X.env = (false, eval e X.env) :: starEach es X.env := by rfl) : AX X T B ρ (e :: es) (W1 ++ W2) ρ2 (d :: ds) :=
  ⟨PA.imp (pa_cons h.run r.run hs) fun σ H Q ⟨S, q⟩ => ⟨S, fun x H1 S1 f1 r1 => ⟨S1, fun vs H2 S2 f2 rs => q _ H2 S2 (f1.trans f2) (.cons (by
    rw [all_of r.own]
    exact r1.mono (f2.kp fun a z => List.mem_append_right _ (r.sub a z))) rs)⟩⟩, r.own.trans h.own, sub_app h.sub h.own r.sub⟩
/-- *e, e a list or a tuple -/
theorem ax_star {es : List Expr} {ds es' : List D} {p : Pos} (h : EX X T B ρ e W1 ρ1 d) (hd : d = .tuple es' ∨ d = .list es') (r : AX X T B ρ1 es W2 ρ2 ds) (hs : starEach (.Starred e p :: es) X.env = (true, eval e X.env) :: starEach es X.env := by rfl) :
    AX X T B ρ (.Starred e p :: es) (W1 ++ W2) ρ2 (es' ++ ds) :=
  ⟨PA.imp (StX.pa_star h.run r.run hs) fun σ H Q ⟨S, q⟩ => ⟨S, fun x H1 S1 f1 r1 => by
    have key : ∃ p xs, x = V.ref p ∧ (SqT X.K H1 p xs ∨ SqL X.K H1 p xs) ∧ RpA X.K (msk (B.all ρ1) H1) xs es' := by
      rcases hd with rfl | rfl
      · cases r1 with
        | tup h1 h2 => exact ⟨_, _, rfl, .inl ((Kp.ofmsk _ _).sqT h1), h2⟩
      · cases r1 with
        | lst h1 h2 => exact ⟨_, _, rfl, .inr ((Kp.ofmsk _ _).sqL h1), h2⟩
    obtain ⟨p, xs, e1, e2, e3⟩ := key
    exact ⟨p, xs, e1, e2, S1, fun vs H2 S2 f2 rs => q _ H2 S2 (f1.trans f2) (RpA.append (carryA r.own r.sub f2 e3) rs)⟩⟩, r.own.trans h.own, sub_app h.sub h.own r.sub⟩
/-- a new tuple -/
theorem ex_tup {es : List Expr} {ds : List D} {x1} (h : AX X T B ρ es W ρ1 ds) (hl : ds.length ≤ sizeLine) : EX X T B ρ (.Tuple es x1 pos) W ρ1 (.tuple ds) :=
  ⟨PE.imp (pe_tup h.run) fun σ H Q ⟨S, q⟩ => ⟨S, fun vs H1 S1 f1 r1 => ⟨by rw [r1.length]; exact hl, fun p np => q _ _ (S1.new np) (f1.transN (Fx.new np)) (.tup (msk_new S1 np) (r1.mono (kp_new np)))⟩⟩, h.own, h.sub⟩
/-- a new list, as data -/
theorem ex_lst {es : List Expr} {ds : List D} (h : AX X T B ρ es W ρ1 ds) (hl : ds.length ≤ sizeLine) : EX X T B ρ (.List es pos) W ρ1 (.list ds) :=
  ⟨PE.imp (pe_lst h.run) fun σ H Q ⟨S, q⟩ => ⟨S, fun vs H1 S1 f1 r1 => ⟨by rw [r1.length]; exact hl, fun p np => q _ _ (S1.new np) (f1.transN (Fx.new np)) (.lst (SqL.of (msk_new S1 np)) (r1.mono (kp_new np)))⟩⟩, h.own, h.sub⟩

/-! ### items -/
/-- the item of data at an index -/
theorem rp_item {K : PySem.W.Frag} {H : Hp} {xs : List V} {ds : List D} {i : Int} (r : RpA K H xs ds) (h : atI ds i = some d) : ∃ v, atI xs i = some v ∧ Rp K H v d := by
  unfold atI at h ⊢
  rw [r.length]
  cases q : ixN ds.length i with
  | none => rw [q] at h; cases h
  | some j =>
    rw [q] at h
    exact r.getD h
theorem ex_ixT {ds : List D} {i : Int} (ha : EX X T B ρ a W1 ρ1 (.tuple ds)) (hb : EX X T B ρ1 b W2 ρ2 (.int i)) (h : atI ds i = some d) (hs : PlainIx b) : EX X T B ρ (.Subscript a b pos) (W1 ++ W2) ρ2 d := by
  refine ⟨PE.imp (pe_ix ix_tup ha.run hb.run hs) fun σ H Q ⟨S, q⟩ => ⟨S, fun x H1 S1 f1 r1 => ⟨S1, fun y H2 S2 f2 r2 => ?_⟩⟩, hb.own.trans ha.own, sub_app ha.sub ha.own hb.sub⟩
  have r1' := carry hb f2 r1
  cases r1' with
  | tup h1 h2 =>
    obtain ⟨v, e1, e2⟩ := rp_item h2 h
    exact ⟨_, _, i, v, rfl, int_of r2, (Kp.ofmsk _ _).sqT h1, e1, q v H2 S2 (f1.trans f2) e2⟩
theorem ex_ixL {ds : List D} {i : Int} (ha : EX X T B ρ a W1 ρ1 (.list ds)) (hb : EX X T B ρ1 b W2 ρ2 (.int i)) (h : atI ds i = some d) (hs : PlainIx b) : EX X T B ρ (.Subscript a b pos) (W1 ++ W2) ρ2 d := by
  refine ⟨PE.imp (pe_ix ix_list ha.run hb.run hs) fun σ H Q ⟨S, q⟩ => ⟨S, fun x H1 S1 f1 r1 => ⟨S1, fun y H2 S2 f2 r2 => ?_⟩⟩, hb.own.trans ha.own, sub_app ha.sub ha.own hb.sub⟩
  have r1' := carry hb f2 r1
  cases r1' with
  | lst h1 h2 =>
    obtain ⟨v, e1, e2⟩ := rp_item h2 h
    exact ⟨_, _, i, v, rfl, int_of r2, (Kp.ofmsk _ _).sqL h1, e1, q v H2 S2 (f1.trans f2) e2⟩
theorem ex_ixS {z : Str} {i : Int} {cc : Nat} (ha : EX X T B ρ a W1 ρ1 (.str z)) (hb : EX X T B ρ1 b W2 ρ2 (.int i)) (hl : z.length ≤ sizeLine) (h : atI z.cps.toList i = some cc) (hs : PlainIx b) : EX X T B ρ (.Subscript a b pos) (W1 ++ W2) ρ2 (.str ⟨#[cc]⟩) := by
  refine ⟨PE.imp (pe_ix ix_str ha.run hb.run hs) fun σ H Q ⟨S, q⟩ => ⟨S, fun x H1 S1 f1 r1 => ⟨S1, fun y H2 S2 f2 r2 => ?_⟩⟩, hb.own.trans ha.own, sub_app ha.sub ha.own hb.sub⟩
  exact ⟨z, i, cc, str_of r1, int_of r2, hl, h, q _ H2 S2 (f1.trans f2) (.str _)⟩
/-- an item of an owned list -/
theorem ex_ixO {ds : List D} {i : Int} {n : Nat} {x : Str} {l : Addr} {px : Pos} (hsl : ρ[n]? = some (.own l (.list ds))) (hN : X.N[n]? = some x) (hv : Vis X.env.scope x) (hb : EX X T B ρ b [] ρ (.int i)) (h : atI ds i = some d) (hs : PlainIx b)
    (hd : (x == ("__debug__" : Str)) = false := by decide) (hcd : (x == ("__classdict__" : Str)) = false := by decide) : EX X T B ρ (.Subscript (.Name x px) b pos) [] ρ d := by
  refine ⟨PE.imp (pe_ix ix_list (pe_var hN hv hd hcd) hb.run hs) fun σ H Q ⟨S, q⟩ => ?_, rfl, sub_nil⟩
  obtain ⟨q1, xs, e, r⟩ := S.at_ n _ hsl
  refine ⟨.ref l, slot_of (K := X.K) (H := H) q1, S, fun y H2 S2 f2 r2 => ?_⟩
  obtain ⟨_, xs2, e2, r22⟩ := S2.at_ n _ hsl
  obtain ⟨v, e3, e4⟩ := rp_item r22 h
  exact ⟨l, xs2, i, v, rfl, int_of r2, SqL.of e2, e3, q v H2 S2 f2 e4⟩
end
end Dv

set_option maxRecDepth 100000
namespace Dv
open PySem PySem.Spec PyProof.Rows L2

/-! ### forgetting -/
/-- ρ' tells less than ρ -/
inductive Fg : Sl → Sl → Prop
  | nil : Fg [] []
  | same {s : Slot} {r r' : Sl} : Fg r r' → Fg (s :: r) (s :: r')
  | un {s : Slot} {r r' : Sl} : Fg r r' → Fg (s :: r) (.un :: r')
theorem Fg.refl : ∀ ρ : Sl, Fg ρ ρ
  | [] => .nil
  | _ :: r => .same (Fg.refl r)
theorem Fg.length : ∀ {ρ ρ' : Sl}, Fg ρ ρ' → ρ.length = ρ'.length
  | _, _, .nil => rfl
  | _, _, .same h => by rw [List.length_cons, List.length_cons, h.length]
  | _, _, .un h => by rw [List.length_cons, List.length_cons, h.length]
theorem Fg.get : ∀ {ρ ρ' : Sl}, Fg ρ ρ' → ∀ {i : Nat} {s : Slot}, ρ'[i]? = some s → s = .un ∨ ρ[i]? = some s
  | _, _, .nil, i, s, e => by simp at e
  | _, _, .same h, 0, s, e => .inr e
  | _, _, .un h, 0, s, e => .inl (Option.some.inj e).symm
  | _, _, .same h, i + 1, s, e => h.get (i := i) (by simpa using e) |>.imp id fun z => by simpa using z
  | _, _, .un h, i + 1, s, e => h.get (i := i) (by simpa using e) |>.imp id fun z => by simpa using z
theorem Fg.sub : ∀ {ρ ρ' : Sl}, Fg ρ ρ' → (owns ρ').Sublist (owns ρ)
  | _, _, .nil => .slnil
  | .own a d :: _, _, .same h => .cons_cons a h.sub
  | .un :: _, _, .same h => h.sub (ρ := _)
  | .dat d :: _, _, .same h => h.sub (ρ := _)
  | .own a d :: _, _, .un h => .cons a h.sub
  | .un :: _, _, .un h => h.sub (ρ := _)
  | .dat d :: _, _, .un h => h.sub (ρ := _)
theorem Fg.trans : ∀ {ρ ρ1 ρ2 : Sl}, Fg ρ ρ1 → Fg ρ1 ρ2 → Fg ρ ρ2
  | _, _, _, .nil, .nil => .nil
  | _, _, _, .same h, .same g => .same (h.trans g)
  | _, _, _, .same h, .un g => .un (h.trans g)
  | _, _, _, .un h, .same g => .un (h.trans g)
  | _, _, _, .un h, .un g => .un (h.trans g)
section
variable {K : PySem.W.Frag} {T : List TQ} {B : Bs} {ρ ρ1 ρ2 ρ' : Sl} {σ : L2.St} {H H' : Hp} {s : Slot} {o : Option V}
theorem At.mono {Hm Hm' : Hp} (h : At K H Hm s o) (k : Kp Hm Hm') (e : ∀ a d, s = .own a d → ∀ ob, notTbl ob = true → H a = some ob → H' a = some ob) : At K H' Hm' s o := by
  cases s with
  | un => trivial
  | dat d => obtain ⟨x, q1, q2⟩ := h; exact ⟨x, q1, q2.mono k⟩
  | own a d => exact ⟨h.1, h.2.mono k (e a d rfl)⟩
theorem Sim.fg (S : Sim K T B ρ σ H) (f : Fg ρ ρ') : Sim K T B ρ' σ H := by
  have hs := f.sub
  have hsub : ∀ a ∈ B.all ρ', a ∈ B.all ρ := fun a z => by
    rcases List.mem_append.mp z with z | z
    · exact List.mem_append_left _ z
    · exact List.mem_append_right _ (hs.subset z)
  refine ⟨by rw [← f.length]; exact S.len, fun i s e => ?_, S.nodup.sublist hs, fun a z => S.disj a (hs.subset z), S.outs, S.frame, fun a z => S.fresh a (hs.subset z), S.tabs, S.dom⟩
  rcases f.get e with rfl | z
  · trivial
  · exact (S.at_ i s z).mono (Kp.sub hsub) fun _ _ _ _ _ q => q
end

/-! ### statements -/
/-- what is wanted behind a statement, told of the names -/
structure DE where
  nx : Sl → Prop
  rt : D → Sl → Prop
  bk : Sl → Prop := fun _ => False
  ct : Sl → Prop := fun _ => False
  /-- a new list is handed back, that nothing else knows -/
  rf : List D → Sl → Prop := fun _ _ => False
/-- one thing more out of sight -/
def Bs.add (B : Bs) (L : Addr) : Bs := ⟨L :: B.out, B.lent, B.H0⟩
def TSd (K : PySem.W.Frag) (T : List TQ) (B : Bs) (ρ : Sl) (k : DE) : TS := fun E σ H => Sim K T B ρ σ H ∧
  (∀ ρ' σ' H', k.nx ρ' → Sim K T B ρ' σ' H' → E.nx σ' H') ∧
  (∀ d ρ' σ' v H', k.rt d ρ' → Sim K T B ρ' σ' H' → Rp K (msk (B.all ρ') H') v d → E.rt v H') ∧
  (∀ ρ' σ' H', k.bk ρ' → Sim K T B ρ' σ' H' → E.bk σ' H') ∧
  (∀ ρ' σ' H', k.ct ρ' → Sim K T B ρ' σ' H' → E.ct σ' H') ∧
  (∀ ds ρ' σ' p xs H', k.rf ds ρ' → B.H0 p = none → Sim K T (B.add p) ρ' σ' H' → H' p = some (.lst xs) → p ∉ B.all ρ' → RpA K (msk (p :: B.all ρ') H') xs ds → E.rt (.ref p) H')
def SX (X : Cx) (T : List TQ) (B : Bs) (ρ : Sl) (st : Stmt) (k : DE) : Prop := PS X st (TSd X.K T B ρ k)
def SXs (X : Cx) (T : List TQ) (B : Bs) (ρ : Sl) (st : List Stmt) (k : DE) : Prop := PSs X st (TSd X.K T B ρ k)
section
variable {X : Cx} {T : List TQ} {B : Bs} {ρ ρ1 ρ2 ρ3 : Sl} {W W1 W2 W3 : List Addr} {e a b c : Expr} {d d1 d2 d3 : D} {pos : Pos} {k : DE} {st : Stmt} {r : List Stmt}
/-- some reading of the block -/
def tAnyS (X : Cx) (T : List TQ) (B : Bs) (sts : List Stmt) : TS := fun E σ H => ∃ ρ k, SXs X T B ρ sts k ∧ TSd X.K T B ρ k E σ H
theorem ps_any {sts : List Stmt} : PSs X sts (tAnyS X T B sts) := ⟨fun pins s σ H E I ⟨ρ, k, h, q⟩ => PSs.run h pins s σ H E I q⟩
/-- one after another, by what holds in between -/
theorem sx_cons (M : Sl → Prop) (h : SX X T B ρ st { k with nx := M }) (hr : ∀ ρ', M ρ' → SXs X T B ρ' r k) : SXs X T B ρ (st :: r) k := by
  refine PSs.imp (pss_cons h (ps_any (X := X) (T := T) (B := B) (sts := r))) fun E σ H ⟨S, h1, h2, h3, h4⟩ => ?_
  exact ⟨S, fun ρ' σ' H' m S' => ⟨ρ', k, hr ρ' m, S', h1, h2, h3, h4⟩, h2, h3, h4⟩
theorem sx_nil (h : k.nx ρ) : SXs X T B ρ [] k := PSs.imp pss_nil fun E σ H ⟨S, h1, _⟩ => h1 ρ σ H h S
theorem sx_one (h : SX X T B ρ st k) : SXs X T B ρ [st] k := PSs.imp (pss_one h) fun _ _ _ q => q
theorem SXs.fg (h : SXs X T B ρ1 r k) (f : Fg ρ ρ1) : SXs X T B ρ r k := PSs.imp h fun E σ H ⟨S, q⟩ => ⟨S.fg f, q⟩
theorem SX.imp {k' : DE} (h : SX X T B ρ st k) (h1 : ∀ ρ', k.nx ρ' → k'.nx ρ') (h2 : ∀ d ρ', k.rt d ρ' → k'.rt d ρ') (h3 : ∀ ρ', k.bk ρ' → k'.bk ρ') (h4 : ∀ ρ', k.ct ρ' → k'.ct ρ') (h5 : ∀ ds ρ', k.rf ds ρ' → k'.rf ds ρ') : SX X T B ρ st k' :=
  PS.imp h fun E σ H ⟨S, q1, q2, q3, q4, q5⟩ => ⟨S, fun ρ' σ' H' m => q1 ρ' σ' H' (h1 _ m), fun d ρ' σ' v H' m => q2 d ρ' σ' v H' (h2 _ _ m), fun ρ' σ' H' m => q3 ρ' σ' H' (h3 _ m), fun ρ' σ' H' m => q4 ρ' σ' H' (h4 _ m), fun ds ρ' σ' p xs H' m => q5 ds ρ' σ' p xs H' (h5 _ _ m)⟩
/-- x = e -/
theorem sx_set {i : Nat} {x : Str} {pos' : Pos} (he : EX X T B ρ e W ρ1 d) (hN : X.N.Nodup) (hi : X.N[i]? = some x) (hx : Loc X.env.scope x) (hl : i < ρ1.length) (hr : SXs X T B (ρ1.set i (.dat d)) r k)
    (hs : swapsWith e (some (.Name x pos')) pos.line X.env = pure false := by rfl) (hf : X.fn x = true ∨ X.env.scope.names.lookup x = some .local := by first | exact .inl rfl | exact .inr rfl | assumption) : SXs X T B ρ (.Assign [.Name x pos'] e pos :: r) k := by
  refine PSs.imp (pss_cons (ps_set (pos' := pos') hN hi hx he.run hs hf) hr) fun E σ H ⟨S, q⟩ => ?_
  exact ⟨S, fun v H' S' f rp => ⟨S'.set (fun _ _ z => by cases z) hl ⟨v, rfl, rp⟩, q⟩⟩
/-- the statement e -/
theorem sx_expr (he : EX X T B ρ e W ρ1 d) (hr : SXs X T B ρ1 r k) (hs : swapsWith e none pos.line X.env = pure false := by rfl) : SXs X T B ρ (.Expr e pos :: r) k := by
  refine PSs.imp (pss_cons (ps_expr he.run hs) hr) fun E σ H ⟨S, q⟩ => ?_
  exact ⟨S, fun v H' S' f rp => ⟨S', q⟩⟩
theorem sx_ret (he : EX X T B ρ e W ρ1 d) (h : k.rt d ρ1) : SXs X T B ρ (.Return (some e) pos :: r) k := by
  refine PSs.imp (pss_cons (ps_ret he.run) (ps_any (T := T) (B := B))) fun E σ H ⟨S, q1, q2, q3⟩ => ?_
  exact ⟨S, fun v H' S' f rp => q2 d ρ1 σ v H' h S' rp⟩
/-! ### locking: what is handed over as data is written no more -/
/-- as it stands, or with one thing locked -/
def FrzQ (P : Hp → Prop) (H : Hp) : Prop := P H ∨ ∃ d u, H d = some u ∧ Mut (some u) ∧ ∀ od, P (upd H d (.frz od u))
theorem pe_frz {X : Cx} {e : Expr} {t : TE} (h : PE X e t) : PE X e (fun σ H Q => t σ H fun v H' => FrzQ (Q v) H') := ⟨fun pins s σ H Q I z => by
  refine thn (h.run pins s σ H _ I z) fun v s1 ⟨x, H1, I1, r, q⟩ => ?_
  rcases q with q | ⟨d, u, hd, mu, q⟩
  · exact ⟨x, H1, I1, r, q⟩
  · obtain ⟨od, I2⟩ := I1.lock hd mu
    exact ⟨x, _, I2, r, q od⟩⟩
theorem pss_frz {X : Cx} {r : List Stmt} {t : TS} (h : PSs X r t) : PSs X r (fun E σ H => FrzQ (t E σ) H) := ⟨fun pins s σ H E I z => by
  rcases z with z | ⟨d, u, hd, mu, z⟩
  · exact h.run pins s σ H E I z
  · obtain ⟨od, I2⟩ := I.lock hd mu
    exact h.run pins s σ _ E I2 (z od)⟩
/-- an owned thing is given away -/
theorem hold_data {K : PySem.W.Frag} {σ : L2.St} {H : Hp} {i : Nat} {l : Addr} (S : Sim K T B ρ σ H) (hs : ρ[i]? = some (.own l d)) {P : Hp → Prop} (hP : ∀ H', Rp K (msk (B.all (ρ.set i .un)) H') (.ref l) d → Sim K T B (ρ.set i .un) σ H' → P H') : FrzQ P H ∧ σ[i]? = some (some (.ref l)) := by
  have hi := (List.getElem?_eq_some_iff.mp hs).1
  obtain ⟨q1, q2⟩ := S.at_ i _ hs
  have f : Fg ρ (ρ.set i .un) := by
    clear S q1 q2 hi hP
    induction ρ generalizing i with
    | nil => simp at hs
    | cons t r ih =>
      cases i with
      | zero => exact .un (Fg.refl r)
      | succ i => exact .same (ih (by simpa using hs))
  have lm : l ∈ owns ρ := mem_owns.mpr ⟨i, d, hs⟩
  have no2 : ∀ {j : Nat} {d' : D}, i ≠ j → ρ[j]? = some (.own l d') → False := fun {j d'} ji e => by
    have nd := S.nodup
    clear S hP
    exact absurd nd (own_twice hs e ji)
  have nl : l ∉ B.all (ρ.set i .un) := fun z => by
    rcases List.mem_append.mp z with z | z
    · exact S.disj l lm z
    · obtain ⟨j, d', e⟩ := mem_owns.mp z
      by_cases ji : i = j
      · subst ji
        rw [List.getElem?_set_self hi] at e
        cases e
      · rw [List.getElem?_set_ne ji] at e
        exact no2 ji e
  have km : Kp (msk (B.all ρ) H) (msk (B.all (ρ.set i .un)) H) := Kp.sub fun a z => by
    rcases List.mem_append.mp z with z | z
    · exact List.mem_append_left _ z
    · exact List.mem_append_right _ (f.sub.subset z)
  refine ⟨?_, slot_of (K := K) (H := H) q1⟩
  have S1 : Sim K T B (ρ.set i .un) σ H := S.fg f
  -- with l locked
  have lock : ∀ {u : HO} (od : Obj), H l = some u → mutb u = true → Kp (msk (B.all ρ) H) (msk (B.all (ρ.set i .un)) (upd H l (.frz od u))) ∧ Sim K T B (ρ.set i .un) σ (upd H l (.frz od u)) := fun {u} od hu mu => by
    have kl : Kp (msk (B.all ρ) H) (msk (B.all (ρ.set i .un)) (upd H l (.frz od u))) := fun a o n e => by
      have z := (msk_some e).1
      have ne : a ≠ l := fun y => z (List.mem_append_right _ (by rw [y]; exact lm))
      have e2 := km a o n e
      obtain ⟨z1, z2⟩ := msk_some e2
      rw [msk_out z1, upd_ne ne]; exact z2
    refine ⟨kl, S1.len, fun j s e => ?_, S1.nodup, S1.disj, fun a z => ?_, fun a o n w e => ?_, S1.fresh, fun P z => TQs.old hu mu (S1.tabs P z), fun a z => ?_⟩
    · by_cases ji : i = j
      · subst ji
        rw [List.getElem?_set_self hi] at e
        cases e
        trivial
      · rw [List.getElem?_set_ne ji] at e
        refine (S.at_ j s e).mono kl fun a d' es ob n z => ?_
        subst es
        rw [upd_ne (fun y => no2 ji (by rw [y] at e; exact e))]
        exact z
    · rw [upd_ne (fun y => S.disj l lm (by rw [← y]; exact z))]; exact S1.outs a z
    · rcases S.fresh l lm with y | y
      · rw [upd_ne (fun y' => w (by rw [y']; exact y))]; exact S1.frame a o n w e
      · rw [upd_ne (ne_of_none e y)]; exact S1.frame a o n w e
    · by_cases y : a = l
      · rw [y, upd_same]; exact fun z => by cases z
      · rw [upd_ne y]; exact S1.dom a z
  cases d with
  | list ds => obtain ⟨xs, e, rr⟩ := q2; exact .inl (hP H (.lst (SqL.of (by rw [msk_out nl]; exact e)) (rr.mono km)) S1)
  | dict ds =>
    rcases q2 with ⟨kvs, e, rr⟩ | ⟨n, kvs, e, rr⟩
    · refine .inr ⟨l, _, e, trivial, fun od => ?_⟩
      obtain ⟨k1, k2⟩ := lock od e rfl
      exact hP _ (.dk ⟨od, by rw [msk_out nl, upd_same]⟩ (rr.mono k1)) k2
    · refine .inr ⟨l, _, e, trivial, fun od => ?_⟩
      obtain ⟨k1, k2⟩ := lock od e rfl
      exact hP _ (.dt n ⟨od, by rw [msk_out nl, upd_same]⟩ (rr.mono k1)) k2
  | _ => exact q2.elim
where
  own_twice : ∀ {ρ : Sl} {i j : Nat} {l : Addr} {d d' : D}, ρ[i]? = some (.own l d) → ρ[j]? = some (.own l d') → i ≠ j → ¬ (owns ρ).Nodup
    | [], i, j, l, d, d', h, _, _ => by simp at h
    | s :: r, 0, 0, l, d, d', h, h', n => (n rfl).elim
    | s :: r, 0, j + 1, l, d, d', h, h', n => fun nd => by
      cases (Option.some.inj h)
      exact (List.nodup_cons.mp nd).1 (mem_owns.mpr ⟨j, d', by simpa using h'⟩)
    | s :: r, i + 1, 0, l, d, d', h, h', n => fun nd => by
      cases (Option.some.inj h')
      exact (List.nodup_cons.mp nd).1 (mem_owns.mpr ⟨i, d, by simpa using h⟩)
    | s :: r, i + 1, j + 1, l, d, d', h, h', n => fun nd => by
      have nd' : (owns r).Nodup := by
        cases s with
        | own b e => exact (List.nodup_cons.mp nd).2
        | un => exact nd
        | dat e => exact nd
      exact own_twice (i := i) (j := j) (by simpa using h) (by simpa using h') (fun z => n (by rw [z])) nd'
/-- return an owned thing -/
theorem sx_retO {i : Nat} {x : Str} {l : Addr} {px : Pos} (hs : ρ[i]? = some (.own l d)) (hN : X.N[i]? = some x) (hv : Vis X.env.scope x) (h : k.rt d (ρ.set i .un)) (hd : (x == ("__debug__" : Str)) = false := by decide) (hcd : (x == ("__classdict__" : Str)) = false := by decide) :
    SXs X T B ρ (.Return (some (.Name x px)) pos :: r) k := by
  refine PSs.imp (pss_frz (pss_cons (ps_ret (pe_var hN hv hd hcd)) (ps_any (T := T) (B := B)))) fun E σ H ⟨S, q1, q2, q3⟩ => ?_
  have h3 := (hold_data (P := fun _ => True) S hs fun _ _ _ => trivial).2
  refine (hold_data S hs fun H' h1 h2 => ?_).1
  exact ⟨.ref l, h3, q2 d _ σ _ H' h h2 h1⟩
/-- from now on it is data -/
theorem set_self_get {σ : L2.St} {i : Nat} {o : Option V} (h : σ[i]? = some o) : σ.set i o = σ := by
  apply List.ext_getElem?
  intro j
  by_cases q : i = j
  · subst q
    rw [List.getElem?_set_self (List.getElem?_eq_some_iff.mp h).1, h]
  · rw [List.getElem?_set_ne q]
theorem sx_freeze {i : Nat} {l : Addr} (hs : ρ[i]? = some (.own l d)) (hr : SXs X T B (ρ.set i (.dat d)) r k) : SXs X T B ρ r k :=
  PSs.imp (pss_frz hr) fun E σ H ⟨S, q⟩ => by
    have h3 := (hold_data (P := fun _ => True) S hs fun _ _ _ => trivial).2
    refine (hold_data S hs fun H' h1 h2 => ?_).1
    have hi := (List.getElem?_eq_some_iff.mp hs).1
    have z := h2.set (i := i) (v := .ref l) (s := .dat d) (fun _ _ z => by cases z) (by rw [List.length_set]; exact hi) ⟨_, rfl, h1⟩
    rw [set_self_get h3, List.set_set] at z
    exact ⟨z, q⟩
theorem sx_if {c : Expr} {t u : List Stmt} {kb : Bool} (hc : TX X T B ρ c W ρ1 kb) (M : Sl → Prop) (ht : kb = true → SXs X T B ρ1 t { k with nx := M }) (hu : kb = false → SXs X T B ρ1 u { k with nx := M }) (hr : ∀ ρ', M ρ' → SXs X T B ρ' r k) : SXs X T B ρ (.If c t u pos :: r) k := by
  refine sx_cons M (PS.imp (ps_if hc.run (PSs.guard (g := kb = true) fun z => ht z) (PSs.guard (g := kb = false) fun z => hu z)) fun E σ H ⟨S, q⟩ => ⟨S, fun H' S' f => ?_⟩) hr
  cases kb with
  | true => rw [if_pos rfl]; exact ⟨rfl, S', q⟩
  | false => rw [if_neg Bool.false_ne_true]; exact ⟨rfl, S', q⟩
/-- an if whose branch leaves -/
theorem sx_ifR {c : Expr} {t : List Stmt} {kb : Bool} (hc : TX X T B ρ c W ρ1 kb) (ht : kb = true → SXs X T B ρ1 t { k with nx := fun _ => False }) (hr : kb = false → SXs X T B ρ1 r k) : SXs X T B ρ (.If c t [] pos :: r) k :=
  sx_if hc (fun ρ' => kb = false ∧ ρ' = ρ1) (fun z => PSs.imp (ht z) fun E σ H ⟨S, q1, q2⟩ => ⟨S, fun _ _ _ z => z.elim, q2⟩) (fun z => sx_nil ⟨z, rfl⟩) fun ρ' ⟨z, e⟩ => e ▸ hr z

/-! ### targets -/
/-- the target tg takes d; vs: the slots it stores -/
def GX (X : Cx) (T : List TQ) (B : Bs) (ρ : Sl) (tg : Expr) (vs : List Nat) (d : D) (ρ' : Sl) : Prop :=
  PG X tg (fun v σ H Q => Sim X.K T B ρ σ H ∧ Rp X.K (msk (B.all ρ) H) v d ∧ ∀ σ', Sim X.K T B ρ' σ' H → wipe σ' vs = wipe σ vs → Q σ' H)
theorem PG.imp {tg : Expr} {t t' : TG} (h : PG X tg t) (i : ∀ v σ H Q, t' v σ H Q → t v σ H Q) : PG X tg t' := ⟨fun pins s σ H v u Q I r q => h.run pins s σ H v u Q I r (i v σ H Q q)⟩
theorem wipe_set {i : Nat} {o : Option V} : ∀ {vs : List Nat} {σ : L2.St}, i ∈ vs → wipe (σ.set i o) vs = wipe σ vs
  | [], _, h => by cases h
  | v :: vs, σ, h => by
    unfold wipe
    by_cases q : i ∈ vs
    · rw [wipe_set q]
    · have e : i = v := by
        rcases List.mem_cons.mp h with z | z
        · exact z
        · exact absurd z q
      subst e
      apply List.ext_getElem?
      intro j
      by_cases ij : i = j
      · subst ij
        by_cases hl : i < σ.length
        · rw [List.getElem?_set_self (by rw [wipe_length, List.length_set]; exact hl), List.getElem?_set_self (by rw [wipe_length]; exact hl)]
        · rw [List.getElem?_eq_none (by rw [List.length_set, wipe_length, List.length_set]; omega), List.getElem?_eq_none (by rw [List.length_set, wipe_length]; omega)]
      · rw [List.getElem?_set_ne ij, List.getElem?_set_ne ij]
        exact wipe_ne ij
where
  wipe_ne {i j : Nat} {o : Option V} : ∀ {vs : List Nat} {σ : L2.St}, i ≠ j → (wipe (σ.set i o) vs)[j]? = (wipe σ vs)[j]?
    | [], σ, h => by unfold wipe; exact List.getElem?_set_ne h
    | v :: vs, σ, h => by
      unfold wipe
      by_cases q : v = j
      · subst q
        by_cases hl : v < σ.length
        · rw [List.getElem?_set_self (by rw [wipe_length, List.length_set]; exact hl), List.getElem?_set_self (by rw [wipe_length]; exact hl)]
        · rw [List.getElem?_eq_none (by rw [List.length_set, wipe_length, List.length_set]; omega), List.getElem?_eq_none (by rw [List.length_set, wipe_length]; omega)]
      · rw [List.getElem?_set_ne q, List.getElem?_set_ne q]
        exact wipe_ne h
theorem gx_name {i : Nat} {x : Str} (hN : X.N.Nodup) (hi : X.N[i]? = some x) (hx : Loc X.env.scope x) (hl : i < ρ.length) {vs : List Nat} (hv : i ∈ vs) (hf : X.fn x = true ∨ X.env.scope.names.lookup x = some .local := by first | exact .inl rfl | exact .inr rfl | assumption) :
    GX X T B ρ (.Name x pos) vs d (ρ.set i (.dat d)) :=
  PG.imp (pg_name hN hi hx hf) fun v σ H Q ⟨S, rp, q⟩ => q _ (S.set (fun _ _ z => by cases z) hl ⟨v, rfl, rp⟩) (wipe_set hv)
theorem sub_set {i : Nat} : ∀ a ∈ B.all (ρ.set i (.dat d)), a ∈ B.all ρ := fun a z => by
  rcases List.mem_append.mp z with z | z
  · exact List.mem_append_left _ z
  · exact List.mem_append_right _ (owns_set_dat (fun _ _ z => by cases z) z)
/-- targets one after another -/
def GXs (X : Cx) (T : List TQ) (B : Bs) (ρ : Sl) (ts : List Expr) (vs : List Nat) (ds : List D) (ρ' : Sl) : Prop :=
  PGs X ts (fun xs σ H Q => Sim X.K T B ρ σ H ∧ RpA X.K (msk (B.all ρ) H) xs ds ∧ ∀ σ', Sim X.K T B ρ' σ' H → wipe σ' vs = wipe σ vs → Q σ' H)
theorem PGs.imp {tg : List Expr} {t t' : TGs} (h : PGs X tg t) (i : ∀ v σ H Q, t' v σ H Q → t v σ H Q) : PGs X tg t' := ⟨fun pins s σ H v u Q I r q => h.run pins s σ H v u Q I r (i v σ H Q q)⟩
theorem gxs_nil {vs : List Nat} : GXs X T B ρ [] vs [] ρ := PGs.imp pgs_nil fun xs σ H Q ⟨S, rp, q⟩ => by
  cases rp
  exact ⟨rfl, q σ S rfl⟩
theorem gxs_cons {e : Expr} {es : List Expr} {ds : List D} {vs : List Nat} (h : GX X T B ρ e vs d ρ1) (hr : GXs X T B ρ1 es vs ds ρ2) (hsub : ∀ a ∈ B.all ρ1, a ∈ B.all ρ)
    (hs : (assignEach (e :: es) X.env).map (·.2) = assign e X.env :: (assignEach es X.env).map (·.2) := by rfl) : GXs X T B ρ (e :: es) vs (d :: ds) ρ2 :=
  PGs.imp (pgs_cons h hr hs) fun xs σ H Q ⟨S, rp, q⟩ => by
    cases rp with
    | cons h1 h2 => exact ⟨_, _, rfl, S, h1, fun σ' S' w => ⟨S', h2.mono (Kp.sub hsub), fun σ2 S2 w2 => q σ2 S2 (w2.trans w)⟩⟩
theorem gx_tup {es : List Expr} {kk : Nat} {ds : List D} {vs : List Nat} {n : Nat} (hc : X.calm = true) (h : GXs X T B ρ es vs ds ρ1) (hl : ds.length = n) (hn : (assignEach es X.env).length = n := by rfl) (hst : (assignEach es X.env).findIdx? (·.1) = none := by rfl) :
    GX X T B ρ (.Tuple es kk pos) vs (.tuple ds) ρ1 :=
  PG.imp (pg_tup hc h hn hst) fun v σ H Q ⟨S, rp, q⟩ => by
    cases rp with
    | tup h1 h2 => exact ⟨_, _, rfl, (Kp.ofmsk _ _).sqT h1, by rw [h2.length]; exact hl, S, h2, q⟩

/-! ### what is walked -/
/-- J walks the data ds -/
structure Walked (K : PySem.W.Frag) (O : List Addr) (ds : List D) (J : It) (H1 : Hp) : Prop where
  go : ∀ i O' H, Kp (msk O H1) (msk O' H) → i < ds.length → J.go i H
  stop : ∀ i O' H, Kp (msk O H1) (msk O' H) → ds.length ≤ i → J.stop i H
  yld : ∀ i O' H v H', Kp (msk O H1) (msk O' H) → (∀ a ∈ O', ∃ o, H a = some o ∧ mutb o = true) → i < ds.length → J.yld i H v H' → (H' = H ∨ ∃ p xs, H p = none ∧ H' = upd H p (.tup xs)) ∧ ∃ d, ds[i]? = some d ∧ Rp K (msk O' H') v d
structure IX (X : Cx) (T : List TQ) (B : Bs) (ρ : Sl) (tg e : Expr) (W : List Addr) (ρ' : Sl) (ds : List D) : Prop where
  run : ∃ wi, PI X tg e wi ∧ ∀ σ H R, Sim X.K T B ρ σ H → (∀ J H1, Sim X.K T B ρ' σ H1 → Fx W H H1 → Walked X.K (B.all ρ') ds J H1 → R J H1) → wi σ H R
  own : owns ρ' = owns ρ
  sub : ∀ a ∈ W, a ∈ owns ρ
theorem walked_list {K : PySem.W.Frag} {O : List Addr} {H : Hp} {ds : List D} {a : Addr} {xs : List V} (h : SqL K (msk O H) a xs) (r : RpA K (msk O H) xs ds) : Walked K O ds (Itl K a) H := by
  refine ⟨fun i O' H' k hi => ?_, fun i O' H' k hi => ?_, fun i O' H' v H2 k hO hi y => ?_⟩
  · exact ⟨xs, xs[i]'(by rw [r.length]; exact hi), (Kp.ofmsk _ _).sqL (k.sqL h), List.getElem?_eq_getElem _⟩
  · exact ⟨xs, (Kp.ofmsk _ _).sqL (k.sqL h), by rw [r.length]; exact hi⟩
  · obtain ⟨e, y⟩ := y
    subst e
    obtain ⟨d, h1, h2⟩ := r.get (y xs ((Kp.ofmsk _ _).sqL (k.sqL h)))
    exact ⟨.inl rfl, d, h1, h2.mono k⟩
theorem walked_tup {K : PySem.W.Frag} {O : List Addr} {H : Hp} {ds : List D} {a : Addr} {xs : List V} (h : Tt (msk O H) a xs) (r : RpA K (msk O H) xs ds) : Walked K O ds (Itt K a) H := by
  refine ⟨fun i O' H' k hi => ?_, fun i O' H' k hi => ?_, fun i O' H' v H2 k hO hi y => ?_⟩
  · exact ⟨xs, xs[i]'(by rw [r.length]; exact hi), (Kp.ofmsk _ _).sqT (k.tt h), List.getElem?_eq_getElem _⟩
  · exact ⟨xs, (Kp.ofmsk _ _).sqT (k.tt h), by rw [r.length]; exact hi⟩
  · obtain ⟨e, y⟩ := y
    subst e
    obtain ⟨d, h1, h2⟩ := r.get (y xs ((Kp.ofmsk _ _).sqT (k.tt h)))
    exact ⟨.inl rfl, d, h1, h2.mono k⟩
theorem ix_l {tg : Expr} {ds : List D} (h : EX X T B ρ e W ρ1 (.list ds)) : IX X T B ρ tg e W ρ1 ds := ⟨⟨_, pi_list h.run, fun σ H R S q => ⟨S, fun v H' S' f rp => by
  cases rp with
  | lst h1 h2 => exact ⟨_, rfl, ⟨_, (Kp.ofmsk _ _).sqL h1⟩, q _ H' S' f (walked_list h1 h2)⟩⟩⟩, h.own, h.sub⟩
theorem ix_t {tg : Expr} {ds : List D} (h : EX X T B ρ e W ρ1 (.tuple ds)) : IX X T B ρ tg e W ρ1 ds := ⟨⟨_, pi_tup h.run, fun σ H R S q => ⟨S, fun v H' S' f rp => by
  cases rp with
  | tup h1 h2 => exact ⟨_, rfl, ⟨_, (Kp.ofmsk _ _).sqT h1⟩, q _ H' S' f (walked_tup h1 h2)⟩⟩⟩, h.own, h.sub⟩
/-- lo, lo + 1, .. -/
def rng (lo : Int) (n : Nat) : List D := (List.range n).map fun i : Nat => .int (lo + (i : Int))
theorem rng_length (lo : Int) (n : Nat) : (rng lo n).length = n := by unfold rng; simp
theorem rng_get {lo : Int} {n i : Nat} (h : i < n) : (rng lo n)[i]? = some (.int (lo + (i : Int))) := by unfold rng; simp [h]
theorem walked_rng {K : PySem.W.Frag} {O : List Addr} {H : Hp} (lo : Int) (n : Nat) : Walked K O (rng lo n) (Itr lo n) H := by
  refine ⟨fun i _ _ _ hi => by rw [rng_length] at hi; exact hi, fun i _ _ _ hi => by rw [rng_length] at hi; exact hi, fun i O' H' v H2 _ _ hi y => ?_⟩
  obtain ⟨e, rfl⟩ := y
  subst e
  rw [rng_length] at hi
  exact ⟨.inl rfl, _, rng_get hi, .int _⟩
theorem ix_r1 {tg a : Expr} {p : Pos} {j : Int} (hg : Gl X "range") (hm : X.mg "range" = none) (h : EX X T B ρ a W ρ1 (.int j)) (hj : -(2 ^ 62) ≤ j ∧ j < 2 ^ 62) (hs : starEach [a] X.env = [(false, eval a X.env)] := by rfl) : IX X T B ρ tg (.Call (.Name "range" p) [a] [] pos) W ρ1 (rng 0 j.toNat) := by
  refine ⟨⟨_, pi_range1 hg hm (pa_cons h.run pa_nil (by rw [hs]; rfl)) hs, fun σ H R S q => ⟨S, fun v H' S' f rp => ?_⟩⟩, h.own, h.sub⟩
  exact ⟨j, by rw [int_of rp], hj.1, hj.2, q _ H' S' f (walked_rng 0 _)⟩
theorem ix_r2 {tg a b : Expr} {p : Pos} {i j : Int} (hg : Gl X "range") (hm : X.mg "range" = none) (ha : EX X T B ρ a W1 ρ1 (.int i)) (hb : EX X T B ρ1 b W2 ρ2 (.int j)) (hij : -(2 ^ 62) ≤ i ∧ i < 2 ^ 62 ∧ -(2 ^ 62) ≤ j ∧ j < 2 ^ 62) (hs : starEach [a, b] X.env = [(false, eval a X.env), (false, eval b X.env)] := by rfl) (hs2 : starEach [b] X.env = [(false, eval b X.env)] := by rfl) : IX X T B ρ tg (.Call (.Name "range" p) [a, b] [] pos) (W1 ++ W2) ρ2 (rng i (j - i).toNat) := by
  refine ⟨⟨_, pi_range2 hg hm (pa_cons ha.run (pa_cons hb.run pa_nil (by rw [hs2]; rfl)) (by rw [hs, hs2])) hs hs2, fun σ H R S q => ⟨S, fun v H' S' f rp => ⟨S', fun w H2 S2 f2 rp2 => ?_⟩⟩⟩, hb.own.trans ha.own, sub_app ha.sub ha.own hb.sub⟩
  exact ⟨i, j, by rw [int_of rp, int_of rp2], hij, q _ H2 S2 (f.trans f2) (walked_rng i _)⟩

/-! ### the middle of a body taken as its start -/
def Bs.at (B : Bs) (ρ : Sl) (H : Hp) : Bs := ⟨B.out, owns ρ, H⟩
theorem rebase {K : PySem.W.Frag} {σ : L2.St} {H : Hp} (S : Sim K T B ρ σ H) : Sim K T (B.at ρ H) ρ σ H :=
  ⟨S.len, S.at_, S.nodup, S.disj, S.outs, Fx.refl _ _, fun a z => .inl z, S.tabs, fun _ z => z⟩
theorem unbase {K : PySem.W.Frag} {σ σ1 : L2.St} {H H1 : Hp} (S1 : Sim K T B ρ1 σ1 H1) (S : Sim K T (B.at ρ1 H1) ρ σ H) : Sim K T B ρ σ H := by
  refine ⟨S.len, S.at_, S.nodup, S.disj, S.outs, fun a o n w e => ?_, fun a z => ?_, S.tabs, fun a z => S.dom a (S1.dom a z)⟩
  · refine S.frame a o n (fun z => ?_) (S1.frame a o n w e)
    rcases S1.fresh a z with z | z
    · exact w z
    · rw [e] at z; cases z
  · rcases S.fresh a z with z | z
    · exact S1.fresh a z
    · refine .inr ?_
      cases q : B.H0 a with
      | none => rfl
      | some o => exact absurd z (S1.dom a (by rw [q]; exact fun z => by cases z))
theorem unbase_add {K : PySem.W.Frag} {σ σ1 : L2.St} {H H1 : Hp} {p : Addr} (S1 : Sim K T B ρ1 σ1 H1) (S : Sim K T ((B.at ρ1 H1).add p) ρ σ H) : Sim K T (B.add p) ρ σ H := by
  refine ⟨S.len, S.at_, S.nodup, S.disj, S.outs, fun a o n w e => ?_, fun a z => ?_, S.tabs, fun a z => S.dom a (S1.dom a z)⟩
  · have e : B.H0 a = some o := e
    refine S.frame a o n (fun z => ?_) (S1.frame a o n w e)
    rcases S1.fresh a z with z | z
    · exact w z
    · rw [e] at z; cases z
  · rcases S.fresh a z with z | z
    · exact S1.fresh a z
    · refine .inr ?_
      show B.H0 a = none
      cases q : B.H0 a with
      | none => rfl
      | some o => exact absurd z (S1.dom a (by rw [q]; exact fun z => by cases z))
theorem dom_none {K : PySem.W.Frag} {σ : L2.St} {H : Hp} {p : Addr} (S : Sim K T B ρ σ H) (n : H p = none) : B.H0 p = none := by
  cases hz : B.H0 p with
  | none => rfl
  | some o => exact absurd n (S.dom p (by rw [hz]; exact fun z => by cases z))
/-- what was data at the start is data still -/
theorem kpb {K : PySem.W.Frag} {σ : L2.St} {H H1 : Hp} (S : Sim K T (B.at ρ1 H1) ρ σ H) : Kp (msk (B.all ρ1) H1) (msk (B.all ρ) H) := fun a o n e => by
  obtain ⟨q, e⟩ := msk_some e
  have q1 : a ∉ owns ρ1 := fun z => q (List.mem_append_right _ z)
  rw [msk_out (fun z => ?_)]
  · exact S.frame a o n q1 e
  · rcases List.mem_append.mp z with z | z
    · exact q (List.mem_append_left _ z)
    · rcases S.fresh a z with z | z
      · exact q1 z
      · have z : H1 a = none := z
        rw [e] at z; cases z

theorem tab_keep {H H' : Hp} (h : H' = H ∨ ∃ p xs, H p = none ∧ H' = upd H p (.tup xs)) : Kp H H' ∧ (∀ P, TQs H P → TQs H' P) ∧ ∀ a, H a ≠ none → H' a ≠ none := by
  rcases h with e | ⟨p, xs, hn, e⟩
  · rw [e]; exact ⟨Kp.refl _, fun _ z => z, fun _ z => z⟩
  · rw [e]
    refine ⟨(Fx.new (W := []) hn).kpN, fun _ z => tab_new hn z, fun a z => ?_⟩
    by_cases q : a = p
    · rw [q, upd_same]; exact fun z => by cases z
    · rw [upd_ne q]; exact z

def tAnyG (X : Cx) (T : List TQ) (B : Bs) (tg : Expr) (vs : List Nat) : TG := fun v σ H Q => ∃ ρ d ρ', GX X T B ρ tg vs d ρ' ∧ Sim X.K T B ρ σ H ∧ Rp X.K (msk (B.all ρ) H) v d ∧ ∀ σ', Sim X.K T B ρ' σ' H → wipe σ' vs = wipe σ vs → Q σ' H
/-- some reading, of some start -/
def tSomeG (X : Cx) (T : List TQ) (tg : Expr) (vs : List Nat) : TG := fun v σ H Q => ∃ B, tAnyG X T B tg vs v σ H Q
def tSomeS (X : Cx) (T : List TQ) (sts : List Stmt) : TS := fun E σ H => ∃ B, tAnyS X T B sts E σ H
theorem ps_some {sts : List Stmt} : PSs X sts (tSomeS X T sts) := ⟨fun pins s σ H E I ⟨B, ρ, k, h, q⟩ => PSs.run h pins s σ H E I q⟩
theorem pg_some {tg : Expr} {vs : List Nat} : PG X tg (tSomeG X T tg vs) := ⟨fun pins s σ H v u Q I rr ⟨B, ρ, d, ρ', h, q⟩ => PG.run h pins s σ H v u Q I rr q⟩
/-- for tg in e: body; I by the turn -/
theorem sx_for {tg : Expr} {body : List Stmt} {ds : List D} (vs : List Nat) (I : Nat → Sl → Prop) (M : Sl → Prop) (hp : PassesOwn (model X.prog X.w) X.A X.env X.xe) (hc : X.calm = true) (hi : IX X T B ρ tg e W ρ1 ds) (h0 : I 0 ρ1)
    (hb : ∀ B' i d ρ', ds[i]? = some d → I i ρ' → ∃ ρb, GX X T B' ρ' tg vs d ρb ∧ SXs X T B' ρb body { nx := I (i + 1), ct := I (i + 1), bk := M, rt := k.rt, rf := k.rf })
    (hd : ∀ ρ', I ds.length ρ' → M ρ') (hr : ∀ ρ', M ρ' → SXs X T B ρ' r k) (hs : ∀ x, foldedSetIterable e X.env x = pure x := by intro _; rfl) : SXs X T B ρ (.For tg e body [] pos :: r) k := by
  obtain ⟨wi, hwi, hw⟩ := hi.run
  refine sx_cons M (PS.imp (ps_for hp hc hwi (pg_some (T := T) (vs := vs)) (ps_some (T := T)) hs) fun E σ H ⟨S, q1, q2, q3, q4, q5⟩ => hw σ H _ S fun J H1 S1 f1 wk => ?_) hr
  refine ⟨fun i m σ H => m = ds.length - i ∧ i ≤ ds.length ∧ ∃ ρ', I i ρ' ∧ Sim X.K T (B.at ρ1 H1) ρ' σ H, ⟨ds.length, by simp, Nat.zero_le _, ρ1, h0, rebase S1⟩, ?_⟩
  rintro i m σ' H' ⟨rfl, hi', ρ', hI, S'⟩
  have kk := kpb S'
  by_cases hlt : i < ds.length
  · refine .inr ⟨wk.go i _ H' kk hlt, fun σ2 H2 => ∃ ρ2, I (i + 1) ρ2 ∧ Sim X.K T (B.at ρ1 H1) ρ2 σ2 H2, fun σ2 H2 ⟨ρ2, hI2, S2⟩ => ⟨ds.length - (i + 1), by omega, rfl, hlt, ρ2, hI2, S2⟩, fun v H2 y => ?_⟩
    obtain ⟨hH, d, hd', hrp⟩ := wk.yld i _ H' v H2 kk S'.held hlt y
    obtain ⟨t1, t2, t3⟩ := tab_keep hH
    have S2 : Sim X.K T (B.at ρ1 H1) ρ' σ' H2 := S'.grow t1 (fun P z => t2 P (S'.tabs P z)) t3
    obtain ⟨ρb, hgx, hsx⟩ := hb (B.at ρ1 H1) i d ρ' hd' hI
    refine ⟨_, ρ', d, ρb, hgx, S2, hrp, fun σ3 S3 _ => ⟨_, ρb, _, hsx, S3, fun ρ4 σ4 H4 m S4 => ⟨ρ4, m, S4⟩, fun d ρ4 σ4 v H4 m S4 rp => ?_, fun ρ4 σ4 H4 m S4 => ?_, fun ρ4 σ4 H4 m S4 => ⟨ρ4, m, S4⟩, fun ds ρ4 σ4 p xs H4 m h0 S4 => q5 ds ρ4 σ4 p xs H4 m (dom_none S1 h0) (unbase_add S1 S4)⟩⟩
    · exact q2 d ρ4 σ4 v H4 m (unbase S1 S4) rp
    · exact q1 ρ4 σ4 H4 m (unbase S1 S4)
  · have e : i = ds.length := by omega
    subst e
    exact .inl ⟨wk.stop _ _ H' kk (Nat.le_refl _), q1 ρ' σ' H' (hd _ hI) (unbase S1 S')⟩
/-- .. by a state that each turn makes of the one ahead -/
theorem sx_forF {tg : Expr} {body : List Stmt} {ds : List D} {St : Type} (vs : List Nat) (ρs : St → Sl) (s0 : St) (step : St → D → St) (hp : PassesOwn (model X.prog X.w) X.A X.env X.xe) (hc : X.calm = true) (hi : IX X T B ρ tg e W ρ1 ds) (h0 : Fg ρ1 (ρs s0))
    (hb : ∀ B' s d, d ∈ ds → ∃ ρb, GX X T B' (ρs s) tg vs d ρb ∧ SXs X T B' ρb body { nx := fun ρ' => Fg ρ' (ρs (step s d)), ct := fun ρ' => Fg ρ' (ρs (step s d)), bk := fun _ => False, rt := k.rt, rf := k.rf })
    (hr : SXs X T B (ρs (ds.foldl step s0)) r k) (hs : ∀ x, foldedSetIterable e X.env x = pure x := by intro _; rfl) : SXs X T B ρ (.For tg e body [] pos :: r) k := by
  refine sx_for vs (fun i ρ' => Fg ρ' (ρs ((ds.take i).foldl step s0))) (fun ρ' => Fg ρ' (ρs (ds.foldl step s0))) hp hc hi h0 (fun B' i d ρ' hd hI => ?_) (fun ρ' h => by rw [List.take_length] at h; exact h) (fun ρ' h => hr.fg h) hs
  obtain ⟨ρb, h1, h2⟩ := hb B' ((ds.take i).foldl step s0) d (List.mem_of_getElem? hd)
  have e : (ds.take (i + 1)).foldl step s0 = step ((ds.take i).foldl step s0) d := by
    rw [List.take_add_one, hd, List.foldl_append]; rfl
  refine ⟨ρb, PG.imp h1 fun v σ H Q ⟨S, rp, q⟩ => ⟨S.fg hI, ?_, q⟩, ?_⟩
  · exact rp.mono (Kp.sub fun a z => by
      rcases List.mem_append.mp z with z | z
      · exact List.mem_append_left _ z
      · exact List.mem_append_right _ (hI.sub.subset z))
  · rw [e]
    exact PSs.imp h2 fun E σ H ⟨S, q1, q2, q3, q4⟩ => ⟨S, q1, q2, fun _ _ _ z => z.elim, q4⟩
end
end Dv

set_option maxRecDepth 100000
namespace Dv
open PySem PySem.Spec PyProof.Rows L2
section
variable {X : Cx} {T : List TQ} {B : Bs} {ρ ρ1 ρ2 ρ3 : Sl} {W W1 W2 W3 : List Addr} {e a b c : Expr} {d d1 d2 d3 : D} {pos : Pos} {k : DE} {st : Stmt} {r : List Stmt}

/-! ### a list, data or owned, whose items are data -/
structure EL (X : Cx) (T : List TQ) (B : Bs) (ρ : Sl) (e : Expr) (W : List Addr) (ρ' : Sl) (ds : List D) : Prop where
  run : PE X e (fun σ H Q => Sim X.K T B ρ σ H ∧ ∀ a xs H', Sim X.K T B ρ' σ H' → Fx W H H' → SqL X.K H' a xs → RpA X.K (msk (B.all ρ') H') xs ds → Q (.ref a) H')
  own : owns ρ' = owns ρ
  sub : ∀ a ∈ W, a ∈ owns ρ
theorem EX.l {ds : List D} (h : EX X T B ρ e W ρ1 (.list ds)) : EL X T B ρ e W ρ1 ds := ⟨PE.imp h.run fun σ H Q ⟨S, q⟩ => ⟨S, fun v H' S' f r => by
  cases r with
  | lst h1 h2 => exact q _ _ H' S' f ((Kp.ofmsk _ _).sqL h1) h2⟩, h.own, h.sub⟩
theorem el_own {i : Nat} {x : Str} {l : Addr} {ds : List D} (hs : ρ[i]? = some (.own l (.list ds))) (hN : X.N[i]? = some x) (hv : Vis X.env.scope x) (hd : (x == ("__debug__" : Str)) = false := by decide) (hcd : (x == ("__classdict__" : Str)) = false := by decide) :
    EL X T B ρ (.Name x pos) [] ρ ds := ⟨PE.imp (pe_var hN hv hd hcd) fun σ H Q ⟨S, q⟩ => by
      obtain ⟨q1, xs, e, r⟩ := S.at_ i _ hs
      exact ⟨.ref l, slot_of (K := X.K) (H := H) q1, q l xs H S (Fx.refl _ _) (SqL.of e) r⟩, rfl, sub_nil⟩
theorem EL.er {ds : List D} (h : EL X T B ρ e W ρ1 ds) : ER X T B ρ e W ρ1 (.list ds) := ⟨PE.imp h.run fun σ H Q ⟨S, q⟩ => ⟨S, fun a xs H' S' f r1 r2 => q _ H' S' f (.lst r1 (r2.mono (Kp.ofmsk _ _)))⟩, h.own, h.sub⟩

/-! ### built-ins called -/
/-- how a call of one argument is a rule's -/
def Call1 (X : Cx) (f a : Expr) (pos : Pos) (r : List V → Hp → VK → Prop) : Prop := ∀ t, PA X [a] t → PE X (.Call f [a] [] pos) (tCB r t)
def Call2 (X : Cx) (f a b : Expr) (pos : Pos) (r : List V → Hp → VK → Prop) : Prop := ∀ t, PA X [a, b] t → PE X (.Call f [a, b] [] pos) (tCB r t)
theorem c1b {x : Str} {p : Pos} {id : String} {r : List V → Hp → VK → Prop} (hc : CallR X (.builtin id) r) (hg : Gl X x) (hm : X.mg x = none) (hv : bootBuiltins x = some (.builtin id)) (hn : x ≠ "__name__" := by decide) (hdb : (x == ("__debug__" : Str)) = false := by decide)
    (he : starEach [a] X.env = (false, eval a X.env) :: starEach [] X.env := by rfl) (hpl : (backTo pos (starEach [] X.env)).any (·.1) = false := by rfl) : Call1 X (.Name x p) a pos r := fun t h => pe_callB hc hg hm hv h hn hdb he hpl
theorem c1t {x : Str} {p : Pos} {ty : String} {r : List V → Hp → VK → Prop} (hc : CallR X (.type ty) r) (hg : Gl X x) (hm : X.mg x = none) (hv : bootBuiltins x = some (.type ty)) (hn : x ≠ "__name__" := by decide) (hdb : (x == ("__debug__" : Str)) = false := by decide)
    (he : starEach [a] X.env = (false, eval a X.env) :: starEach [] X.env := by rfl) (hpl : (backTo pos (starEach [] X.env)).any (·.1) = false := by rfl) : Call1 X (.Name x p) a pos r := fun t h => pe_callTy hc hg hm hv h hn hdb he hpl
theorem c2b {x : Str} {p : Pos} {id : String} {r : List V → Hp → VK → Prop} (hc : CallR X (.builtin id) r) (hg : Gl X x) (hm : X.mg x = none) (hv : bootBuiltins x = some (.builtin id)) (hn : x ≠ "__name__" := by decide) (hdb : (x == ("__debug__" : Str)) = false := by decide)
    (he : starEach [a, b] X.env = (false, eval a X.env) :: starEach [b] X.env := by rfl) (hpl : (backTo pos (starEach [b] X.env)).any (·.1) = false := by rfl) : Call2 X (.Name x p) a b pos r := fun t h => pe_callB hc hg hm hv h hn hdb he hpl
theorem Call1.run {f : Expr} {rr : List V → Hp → VK → Prop} {t : TA} (h : Call1 X f a pos rr) (q : PA X [a] t) : PE X (.Call f [a] [] pos) (tCB rr t) := h t q
/-- one argument for now, an answer without heap -/
theorem ex_call1 {f : Expr} {r : List V → Hp → VK → Prop} {v : V} (hp : Call1 X f a pos r) (ha : ER X T B ρ a W ρ1 d1) (kk : ∀ x H Q, Rp X.K H x d1 → Q v H → r [x] H Q) (rd : ∀ H, Rp X.K H v d) (he : starEach [a] X.env = (false, eval a X.env) :: starEach [] X.env := by rfl) : EX X T B ρ (.Call f [a] [] pos) W ρ1 d :=
  ⟨PE.imp (hp _ (pa_cons ha.run pa_nil he)) fun σ H Q ⟨S, q⟩ => ⟨S, fun x H' S' f r => kk x H' Q r (q v H' S' f (rd _))⟩, ha.own, ha.sub⟩
/-- two arguments -/
theorem ex_call2 {f : Expr} {r : List V → Hp → VK → Prop} {v : V} (hp : Call2 X f a b pos r) (ha : EX X T B ρ a W1 ρ1 d1) (hb : EX X T B ρ1 b W2 ρ2 d2) (kk : ∀ x y H Q, Rp X.K H x d1 → Rp X.K H y d2 → Q v H → r [x, y] H Q) (rd : ∀ H, Rp X.K H v d)
    (he : starEach [a, b] X.env = (false, eval a X.env) :: starEach [b] X.env := by rfl) (he2 : starEach [b] X.env = (false, eval b X.env) :: starEach [] X.env := by rfl) : EX X T B ρ (.Call f [a, b] [] pos) (W1 ++ W2) ρ2 d :=
  ⟨PE.imp (hp _ (pa_cons ha.run (pa_cons hb.run pa_nil he2) he)) fun σ H Q ⟨S, q⟩ => ⟨S, fun x H1 S1 f1 r1 => ⟨S1, fun y H2 S2 f2 r2 => kk x y H2 Q ((carry hb f2 r1).mono (Kp.ofmsk _ _)) (r2.mono (Kp.ofmsk _ _)) (q v H2 S2 (f1.trans f2) (rd _))⟩⟩, hb.own.trans ha.own, sub_app ha.sub ha.own hb.sub⟩
section
variable {x : Str} {p : Pos} {ds : List D}
theorem ex_lenL (hg : Gl X "len") (hm : X.mg "len" = none) (ha : EL X T B ρ a W ρ1 ds) (he : starEach [a] X.env = (false, eval a X.env) :: starEach [] X.env := by rfl) : EX X T B ρ (.Call (.Name "len" p) [a] [] pos) W ρ1 (.int ds.length) :=
  ex_call1 (c1b call_len_seq hg hm boot_len (he := he)) ha.er (v := .int ds.length) (fun x H Q r q => by
    cases r with
    | lst h1 h2 => exact ⟨_, _, rfl, .inl h1, by rw [h2.length]; exact q⟩) (fun _ => .int _) he
theorem ex_lenT (hg : Gl X "len") (hm : X.mg "len" = none) (ha : EX X T B ρ a W ρ1 (.tuple ds)) (he : starEach [a] X.env = (false, eval a X.env) :: starEach [] X.env := by rfl) : EX X T B ρ (.Call (.Name "len" p) [a] [] pos) W ρ1 (.int ds.length) :=
  ex_call1 (c1b call_len_seq hg hm boot_len (he := he)) ha.r (v := .int ds.length) (fun x H Q r q => by
    cases r with
    | tup h1 h2 => exact ⟨_, _, rfl, .inr (SqT.of h1), by rw [h2.length]; exact q⟩) (fun _ => .int _) he
theorem ex_lenS {z : Str} (hg : Gl X "len") (hm : X.mg "len" = none) (ha : EX X T B ρ a W ρ1 (.str z)) (hz : z.length ≤ sizeLine) (he : starEach [a] X.env = (false, eval a X.env) :: starEach [] X.env := by rfl) : EX X T B ρ (.Call (.Name "len" p) [a] [] pos) W ρ1 (.int z.length) :=
  ex_call1 (c1b call_len_str hg hm boot_len (he := he)) ha.r (v := .int z.length) (fun x H Q r q => ⟨z, by rw [str_of r], hz, q⟩) (fun _ => .int _) he
theorem ex_abs {i : Int} (hg : Gl X "abs") (hm : X.mg "abs" = none) (ha : EX X T B ρ a W ρ1 (.int i)) (he : starEach [a] X.env = (false, eval a X.env) :: starEach [] X.env := by rfl) : EX X T B ρ (.Call (.Name "abs" p) [a] [] pos) W ρ1 (.int (i.natAbs : Int)) :=
  ex_call1 (c1b call_abs hg hm (by decide +kernel) (he := he)) ha.r (v := .int (i.natAbs : Int)) (fun x H Q r q => ⟨i, by rw [int_of r], by
    have e : (if i < 0 then -i else i) = (i.natAbs : Int) := by split <;> omega
    rw [e]; exact q⟩) (fun _ => .int _) he
theorem ex_intI {i : Int} (hg : Gl X "int") (hm : X.mg "int" = none) (ha : EX X T B ρ a W ρ1 (.int i)) (he : starEach [a] X.env = (false, eval a X.env) :: starEach [] X.env := by rfl) : EX X T B ρ (.Call (.Name "int" p) [a] [] pos) W ρ1 (.int i) :=
  ex_call1 (c1t call_int1 hg hm (by decide +kernel) (he := he)) ha.r (v := .int i) (fun x H Q r q => .inl ⟨i, by rw [int_of r], q⟩) (fun _ => .int _) he
theorem ex_intB {i : Bool} (hg : Gl X "int") (hm : X.mg "int" = none) (ha : EX X T B ρ a W ρ1 (.bool i)) (he : starEach [a] X.env = (false, eval a X.env) :: starEach [] X.env := by rfl) : EX X T B ρ (.Call (.Name "int" p) [a] [] pos) W ρ1 (.int (if i then 1 else 0)) :=
  ex_call1 (c1t call_int1 hg hm (by decide +kernel) (he := he)) ha.r (v := .int (if i then 1 else 0)) (fun x H Q r q => .inr ⟨i, by rw [bl_of r], q⟩) (fun _ => .int _) he
theorem ex_sum {ns : List Int} (hc : X.calm = true) (hg : Gl X "sum") (hm : X.mg "sum" = none) (ha : EL X T B ρ a W ρ1 (ns.map .int)) (he : starEach [a] X.env = (false, eval a X.env) :: starEach [] X.env := by rfl) : EX X T B ρ (.Call (.Name "sum" p) [a] [] pos) W ρ1 (.int ns.sum) :=
  ex_call1 (c1b (cr_sum hc) hg hm (by decide +kernel) (he := he)) ha.er (v := .int ns.sum) (fun x H Q r q => by
    cases r with
    | lst h1 h2 => rw [h2.ints] at h1; exact ⟨_, ns, rfl, h1, q⟩) (fun _ => .int _) he
/-- the greatest -/
def lmax : List Int → Int
  | [] => 0
  | [x] => x
  | x :: y :: r => max x (lmax (y :: r))
def lmin : List Int → Int
  | [] => 0
  | [x] => x
  | x :: y :: r => min x (lmin (y :: r))
theorem lmax_mem : ∀ {l : List Int}, l ≠ [] → lmax l ∈ l
  | [], h => (h rfl).elim
  | [x], _ => List.mem_cons_self
  | x :: y :: r, _ => by
    have q := lmax_mem (l := y :: r) (by simp)
    show max x (lmax (y :: r)) ∈ _
    by_cases h : x ≤ lmax (y :: r)
    · rw [Int.max_eq_right h]; exact List.mem_cons_of_mem _ q
    · rw [Int.max_eq_left (by omega)]; exact List.mem_cons_self
theorem lmax_ge : ∀ {l : List Int} {z : Int}, z ∈ l → z ≤ lmax l
  | [], z, h => by cases h
  | [x], z, h => by
    have : z = x := by simpa using h
    rw [this]; exact Int.le_refl _
  | x :: y :: r, z, h => by
    show z ≤ max x (lmax (y :: r))
    rcases List.mem_cons.mp h with e | h
    · rw [e]; exact Int.le_max_left _ _
    · exact Int.le_trans (lmax_ge h) (Int.le_max_right _ _)
theorem lmin_mem : ∀ {l : List Int}, l ≠ [] → lmin l ∈ l
  | [], h => (h rfl).elim
  | [x], _ => List.mem_cons_self
  | x :: y :: r, _ => by
    have q := lmin_mem (l := y :: r) (by simp)
    show min x (lmin (y :: r)) ∈ _
    by_cases h : x ≤ lmin (y :: r)
    · rw [Int.min_eq_left h]; exact List.mem_cons_self
    · rw [Int.min_eq_right (by omega)]; exact List.mem_cons_of_mem _ q
theorem lmin_le : ∀ {l : List Int} {z : Int}, z ∈ l → lmin l ≤ z
  | [], z, h => by cases h
  | [x], z, h => by
    have : z = x := by simpa using h
    rw [this]; exact Int.le_refl _
  | x :: y :: r, z, h => by
    show min x (lmin (y :: r)) ≤ z
    rcases List.mem_cons.mp h with e | h
    · rw [e]; exact Int.min_le_left _ _
    · exact Int.le_trans (Int.min_le_right _ _) (lmin_le h)
theorem lmax_is {l : List Int} {m : Int} (h1 : m ∈ l) (h2 : ∀ y, y ∈ l → y ≤ m) : m = lmax l := Int.le_antisymm (lmax_ge h1) (h2 _ (lmax_mem (by intro e; rw [e] at h1; cases h1)))
theorem lmin_is {l : List Int} {m : Int} (h1 : m ∈ l) (h2 : ∀ y, y ∈ l → m ≤ y) : m = lmin l := Int.le_antisymm (h2 _ (lmin_mem (by intro e; rw [e] at h1; cases h1))) (lmin_le h1)
theorem ex_max {ns : List Int} (hc : X.calm = true) (hg : Gl X "max") (hm : X.mg "max" = none) (ha : EL X T B ρ a W ρ1 (ns.map .int)) (hne : ns ≠ []) (he : starEach [a] X.env = (false, eval a X.env) :: starEach [] X.env := by rfl) : EX X T B ρ (.Call (.Name "max" p) [a] [] pos) W ρ1 (.int (lmax ns)) :=
  ex_call1 (c1b (cr_max hc) hg hm (by decide +kernel) (he := he)) ha.er (v := .int (lmax ns)) (fun x H Q r q => by
    cases r with
    | lst h1 h2 => rw [h2.ints] at h1; exact ⟨_, ns, rfl, h1, List.length_pos_iff.mpr hne, fun m z1 z2 => by rw [lmax_is z1 z2]; exact q⟩) (fun _ => .int _) he
theorem ex_min {ns : List Int} (hc : X.calm = true) (hg : Gl X "min") (hm : X.mg "min" = none) (ha : EL X T B ρ a W ρ1 (ns.map .int)) (hne : ns ≠ []) (he : starEach [a] X.env = (false, eval a X.env) :: starEach [] X.env := by rfl) : EX X T B ρ (.Call (.Name "min" p) [a] [] pos) W ρ1 (.int (lmin ns)) :=
  ex_call1 (c1b (cr_min hc) hg hm (by decide +kernel) (he := he)) ha.er (v := .int (lmin ns)) (fun x H Q r q => by
    cases r with
    | lst h1 h2 => rw [h2.ints] at h1; exact ⟨_, ns, rfl, h1, List.length_pos_iff.mpr hne, fun m z1 z2 => by rw [lmin_is z1 z2]; exact q⟩) (fun _ => .int _) he
theorem ex_max2 {i j : Int} (hc : X.calm = true) (hg : Gl X "max") (hm : X.mg "max" = none) (ha : EX X T B ρ a W1 ρ1 (.int i)) (hb : EX X T B ρ1 b W2 ρ2 (.int j)) (he : starEach [a, b] X.env = (false, eval a X.env) :: starEach [b] X.env := by rfl) (he2 : starEach [b] X.env = (false, eval b X.env) :: starEach [] X.env := by rfl) (hpl : (backTo pos (starEach [b] X.env)).any (·.1) = false := by rfl) :
    EX X T B ρ (.Call (.Name "max" p) [a, b] [] pos) (W1 ++ W2) ρ2 (.int (max i j)) :=
  ex_call2 (c2b (call_max2 hc) hg hm (by decide +kernel) (he := he) (hpl := hpl)) ha hb (v := .int (max i j)) (fun x y H Q r1 r2 q => ⟨i, j, by rw [int_of r1, int_of r2], by
    have e : (if j > i then j else i) = max i j := by split <;> omega
    rw [e]; exact q⟩) (fun _ => .int _) he he2
theorem ex_min2 {i j : Int} (hc : X.calm = true) (hg : Gl X "min") (hm : X.mg "min" = none) (ha : EX X T B ρ a W1 ρ1 (.int i)) (hb : EX X T B ρ1 b W2 ρ2 (.int j)) (he : starEach [a, b] X.env = (false, eval a X.env) :: starEach [b] X.env := by rfl) (he2 : starEach [b] X.env = (false, eval b X.env) :: starEach [] X.env := by rfl) (hpl : (backTo pos (starEach [b] X.env)).any (·.1) = false := by rfl) :
    EX X T B ρ (.Call (.Name "min" p) [a, b] [] pos) (W1 ++ W2) ρ2 (.int (min i j)) :=
  ex_call2 (c2b (call_min2 hc) hg hm (by decide +kernel) (he := he) (hpl := hpl)) ha hb (v := .int (min i j)) (fun x y H Q r1 r2 q => ⟨i, j, by rw [int_of r1, int_of r2], by
    have e : (if j < i then j else i) = min i j := by split <;> omega
    rw [e]; exact q⟩) (fun _ => .int _) he he2
/-- tuple(xs) of a list, list(xs) of a list, a tuple -/
theorem ex_tupleL (hg : Gl X "tuple") (hm : X.mg "tuple" = none) (ha : EL X T B ρ a W ρ1 ds) (he : starEach [a] X.env = (false, eval a X.env) :: starEach [] X.env := by rfl) : EX X T B ρ (.Call (.Name "tuple" p) [a] [] pos) W ρ1 (.tuple ds) :=
  ⟨PE.imp (Call1.run (c1t (p := p) call_tuple_of hg hm (by decide +kernel) (he := he)) (pa_cons ha.run pa_nil he)) fun σ H Q ⟨S, q⟩ => ⟨S, fun l xs H' S' f r1 r2 => ⟨l, xs, rfl, .inl ⟨r1, fun p np => q _ _ (S'.new np) (f.transN (Fx.new np)) (.tup (msk_new S' np) (r2.mono (kp_new np)))⟩⟩⟩, ha.own, ha.sub⟩
theorem ex_tupleT (hg : Gl X "tuple") (hm : X.mg "tuple" = none) (ha : EX X T B ρ a W ρ1 (.tuple ds)) (he : starEach [a] X.env = (false, eval a X.env) :: starEach [] X.env := by rfl) : EX X T B ρ (.Call (.Name "tuple" p) [a] [] pos) W ρ1 (.tuple ds) :=
  ⟨PE.imp (Call1.run (c1t (p := p) call_tupleT hg hm (by decide +kernel) (he := he)) (pa_cons ha.run pa_nil he)) fun σ H Q ⟨S, q⟩ => ⟨S, fun v H' S' f r => by
    cases r with
    | tup h1 h2 => exact ⟨_, _, rfl, (Kp.ofmsk _ _).sqT h1, q _ H' S' f (.tup h1 h2)⟩⟩, ha.own, ha.sub⟩
theorem ex_listL (hg : Gl X "list") (hm : X.mg "list" = none) (ha : EL X T B ρ a W ρ1 ds) (he : starEach [a] X.env = (false, eval a X.env) :: starEach [] X.env := by rfl) : EX X T B ρ (.Call (.Name "list" p) [a] [] pos) W ρ1 (.list ds) :=
  ⟨PE.imp (Call1.run (c1t (p := p) call_list_of hg hm (by decide +kernel) (he := he)) (pa_cons ha.run pa_nil he)) fun σ H Q ⟨S, q⟩ => ⟨S, fun l xs H' S' f r1 r2 => ⟨l, xs, rfl, .inl r1, fun p np => q _ _ (S'.new np) (f.transN (Fx.new np)) (.lst (SqL.of (msk_new S' np)) (r2.mono (kp_new np)))⟩⟩, ha.own, ha.sub⟩
theorem ex_listT (hg : Gl X "list") (hm : X.mg "list" = none) (ha : EX X T B ρ a W ρ1 (.tuple ds)) (he : starEach [a] X.env = (false, eval a X.env) :: starEach [] X.env := by rfl) : EX X T B ρ (.Call (.Name "list" p) [a] [] pos) W ρ1 (.list ds) :=
  ⟨PE.imp (Call1.run (c1t (p := p) call_list_of hg hm (by decide +kernel) (he := he)) (pa_cons ha.run pa_nil he)) fun σ H Q ⟨S, q⟩ => ⟨S, fun v H' S' f r => by
    cases r with
    | tup h1 h2 => exact ⟨_, _, rfl, .inr ((Kp.ofmsk _ _).sqT h1), fun p np => q _ _ (S'.new np) (f.transN (Fx.new np)) (.lst (SqL.of (msk_new S' np)) (h2.mono (kp_new np)))⟩⟩, ha.own, ha.sub⟩
end

/-! ### comprehensions -/
/-- some reading, whatever the start -/
def tSomeE (X : Cx) (T : List TQ) (e : Expr) : TE := fun σ H Q => ∃ B ρ W ρ' d, EX X T B ρ e W ρ' d ∧ TD X.K T B ρ W ρ' d σ H Q
def wipeD : Sl → List Nat → Sl
  | ρ, [] => ρ
  | ρ, v :: vs => (wipeD ρ vs).set v .un
theorem fg_set : ∀ {ρ : Sl} {i : Nat}, Fg ρ (ρ.set i .un)
  | [], _ => .nil
  | _ :: r, 0 => .un (Fg.refl r)
  | _ :: r, i + 1 => .same (fg_set (ρ := r) (i := i))
theorem fg_wipe : ∀ {vs : List Nat} {ρ : Sl}, Fg ρ (wipeD ρ vs)
  | [], ρ => Fg.refl ρ
  | v :: vs, ρ => (fg_wipe (vs := vs)).trans fg_set
end
end Dv

set_option maxRecDepth 100000
namespace Dv
open PySem PySem.Spec PyProof.Rows L2

/-! ### the names of a block forgotten, and known again -/
/-- alike but for what owned things hold -/
inductive Sh : Sl → Sl → Prop
  | nil : Sh [] []
  | same {s : Slot} {r r' : Sl} : Sh r r' → Sh (s :: r) (s :: r')
  | own {a : Addr} {d d' : D} {r r' : Sl} : Sh r r' → Sh (.own a d :: r) (.own a d' :: r')
theorem Sh.refl : ∀ ρ : Sl, Sh ρ ρ
  | [] => .nil
  | _ :: r => .same (Sh.refl r)
theorem Sh.owns : ∀ {ρ ρ' : Sl}, Sh ρ ρ' → Dv.owns ρ' = Dv.owns ρ
  | _, _, .nil => rfl
  | .own a d :: _, _, .same h => by show a :: _ = a :: _; rw [h.owns]
  | .un :: _, _, .same h => h.owns (ρ := _)
  | .dat d :: _, _, .same h => h.owns (ρ := _)
  | .own a d :: _, _, .own h => by show a :: _ = a :: _; rw [h.owns]
theorem Sh.length : ∀ {ρ ρ' : Sl}, Sh ρ ρ' → ρ'.length = ρ.length
  | _, _, .nil => rfl
  | _, _, .same h => by rw [List.length_cons, List.length_cons, h.length]
  | _, _, .own h => by rw [List.length_cons, List.length_cons, h.length]
theorem Sh.get : ∀ {ρ ρ' : Sl}, Sh ρ ρ' → ∀ {i : Nat} {s : Slot}, ρ'[i]? = some s → ρ[i]? = some s ∨ ∃ a d d', s = .own a d' ∧ ρ[i]? = some (.own a d)
  | _, _, .nil, i, s, e => by simp at e
  | _, _, .same h, 0, s, e => .inl e
  | _, _, .own h, 0, s, e => .inr ⟨_, _, _, (Option.some.inj e).symm, rfl⟩
  | _, _, .same h, i + 1, s, e => by
    rcases h.get (i := i) (by simpa using e) with z | ⟨a, d, d', e1, e2⟩
    · exact .inl (by simpa using z)
    · exact .inr ⟨a, d, d', e1, by simpa using e2⟩
  | _, _, .own h, i + 1, s, e => by
    rcases h.get (i := i) (by simpa using e) with z | ⟨a, d, d', e1, e2⟩
    · exact .inl (by simpa using z)
    · exact .inr ⟨a, d, d', e1, by simpa using e2⟩
/-- no owned thing at these slots -/
def noOwn (ρ : Sl) (vs : List Nat) : Bool := vs.all fun i => match ρ[i]? with
  | some (.own _ _) => false
  | _ => true
theorem noOwn_at {ρ : Sl} {vs : List Nat} (h : noOwn ρ vs = true) {i : Nat} (hi : i ∈ vs) (a : Addr) (d : D) : ρ[i]? ≠ some (.own a d) := fun e => by
  have q := List.all_eq_true.mp h i hi
  simp only [e] at q
  cases q
theorem wipeD_length : ∀ {vs : List Nat} {ρ : Sl}, (wipeD ρ vs).length = ρ.length
  | [], _ => rfl
  | v :: vs, ρ => by unfold wipeD; rw [List.length_set, wipeD_length]
theorem wipeD_in : ∀ {vs : List Nat} {ρ : Sl} {i : Nat}, i ∈ vs → i < ρ.length → (wipeD ρ vs)[i]? = some .un
  | [], _, _, h, _ => by cases h
  | v :: vs, ρ, i, h, hl => by
    unfold wipeD
    by_cases q : v = i
    · subst q
      rw [List.getElem?_set_self (by rw [wipeD_length]; exact hl)]
    · rw [List.getElem?_set_ne q]
      rcases List.mem_cons.mp h with z | z
      · exact absurd z.symm q
      · exact wipeD_in z hl
theorem wipeD_out : ∀ {vs : List Nat} {ρ : Sl} {i : Nat}, i ∉ vs → (wipeD ρ vs)[i]? = ρ[i]?
  | [], _, _, _ => rfl
  | v :: vs, ρ, i, h => by
    unfold wipeD
    rw [List.getElem?_set_ne (fun z => h (by rw [z]; exact List.mem_cons_self)), wipeD_out (fun z => h (List.mem_cons_of_mem _ z))]
theorem owns_set_un : ∀ {ρ : Sl} {i : Nat}, (∀ a d, ρ[i]? ≠ some (.own a d)) → owns (ρ.set i .un) = owns ρ
  | [], _, _ => rfl
  | .own a d :: r, 0, h => absurd rfl (h a d)
  | .un :: r, 0, _ => rfl
  | .dat d :: r, 0, _ => rfl
  | .own a d :: r, i + 1, h => by show a :: _ = a :: _; exact congrArg _ (owns_set_un fun b e z => h b e (by simpa using z))
  | .un :: r, i + 1, h => owns_set_un (ρ := r) fun b e z => h b e (by simpa using z)
  | .dat d :: r, i + 1, h => owns_set_un (ρ := r) fun b e z => h b e (by simpa using z)
theorem owns_wipe : ∀ {vs : List Nat} {ρ : Sl}, noOwn ρ vs = true → owns (wipeD ρ vs) = owns ρ
  | [], _, _ => rfl
  | v :: vs, ρ, h => by
    have h' : noOwn ρ vs = true := List.all_eq_true.mpr fun i hi => List.all_eq_true.mp h i (List.mem_cons_of_mem _ hi)
    unfold wipeD
    rw [owns_set_un, owns_wipe h']
    intro a d e
    by_cases q : v ∈ vs
    · by_cases hl : v < ρ.length
      · rw [wipeD_in q hl] at e; cases e
      · rw [List.getElem?_eq_none (by rw [wipeD_length]; omega)] at e; cases e
    · rw [wipeD_out q] at e
      exact noOwn_at h List.mem_cons_self a d e
theorem Sh.noOwn {ρ ρ' : Sl} (h : Sh ρ ρ') {vs : List Nat} (n : Dv.noOwn ρ vs = true) : Dv.noOwn ρ' vs = true := List.all_eq_true.mpr fun i hi => by
  cases q : ρ'[i]? with
  | none => rfl
  | some s =>
    cases s with
    | un => rfl
    | dat d => rfl
    | own a d =>
      rcases h.get q with z | ⟨b, e, e', e1, e2⟩
      · exact absurd z (noOwn_at n hi a d)
      · exact absurd e2 (noOwn_at n hi b e)
theorem wipe_out2 {σ : L2.St} {i : Nat} {vs : List Nat} (h : i ∉ vs) : (wipe σ vs)[i]? = σ[i]? := L2.wipe_out h

/-- the start of a block, the new list at L -/
def Bs.blk (B : Bs) (ρ : Sl) (H : Hp) (L : Addr) (o : HO := .lst []) : Bs := ⟨L :: B.out, L :: owns ρ, upd H L o⟩
section
variable {K : PySem.W.Frag} {T : List TQ} {B : Bs} {ρ ρ1 ρ' : Sl} {σ : L2.St} {H H1 H' : Hp} {L : Addr} {vs : List Nat} {ob : HO}
theorem kp_blk (S : Sim K T B ρ σ H) (n : H L = none) : Kp (msk (B.all ρ) H) (msk (L :: B.all ρ) (upd H L ob)) := fun a o _ e => by
  obtain ⟨q, e⟩ := msk_some e
  have ne : a ≠ L := ne_of_none e n
  rw [msk_out (fun z => by
    rcases List.mem_cons.mp z with z | z
    · exact ne z
    · exact q z), upd_ne ne]
  exact e
theorem sim_blk (S : Sim K T B ρ σ H) (n : H L = none) (ho : noOwn ρ vs = true) (no : mutb ob = true := by rfl) : Sim K T (B.blk ρ H L ob) (wipeD ρ vs) (wipe σ vs) (upd H L ob) := by
  have ow := owns_wipe ho
  have eall : (B.blk ρ H L ob).all (wipeD ρ vs) = L :: B.all ρ := by show (L :: B.out) ++ owns (wipeD ρ vs) = L :: (B.out ++ owns ρ); rw [ow]; rfl
  refine ⟨by rw [wipeD_length, wipe_length]; exact S.len, fun i s e => ?_, by rw [ow]; exact S.nodup, fun a z y => ?_, fun a z => ?_, Fx.refl _ _, fun a z => .inl (by rw [ow] at z; exact List.mem_cons_of_mem _ z), fun P z => tab_new n (S.tabs P z), fun _ z => z⟩
  · by_cases q : i ∈ vs
    · have hl : i < ρ.length := by
        have := (List.getElem?_eq_some_iff.mp e).1
        rwa [wipeD_length] at this
      rw [wipeD_in q hl] at e
      cases e
      trivial
    · rw [wipeD_out q] at e
      rw [wipe_out2 q]
      show At K _ (msk ((B.blk ρ H L ob).all (wipeD ρ vs)) _) s _
      rw [eall]
      exact (S.at_ i s e).mono (kp_blk S n) fun a d _ _ _ z => by rw [upd_ne (ne_of_none z n)]; exact z
  · rw [ow] at z
    rcases List.mem_cons.mp y with y | y
    · obtain ⟨o, e, _⟩ := S.held a (List.mem_append_right _ z)
      exact ne_of_none e n y
    · exact S.disj a z y
  · rcases List.mem_cons.mp z with z | z
    · exact ⟨_, by rw [z, upd_same], no⟩
    · obtain ⟨o, e, no'⟩ := S.outs a z
      exact ⟨o, by rw [upd_ne (ne_of_none e n)]; exact e, no'⟩
theorem kp_back (S1 : Sim K T B ρ1 σ H1) (n : H1 L = none) (S : Sim K T (B.blk ρ1 H1 L ob) (wipeD ρ' vs) (wipe σ vs) H') : ∀ a o, notTbl o = true → a ∉ owns ρ1 → H1 a = some o → H' a = some o := fun a o no q e =>
  S.frame a o no (fun z => by
    rcases List.mem_cons.mp z with z | z
    · exact ne_of_none e n z
    · exact q z) (by show upd H1 L ob a = some o; rw [upd_ne (ne_of_none e n)]; exact e)
theorem sim_back (S1 : Sim K T B ρ1 σ H1) (n : H1 L = none) (ho : noOwn ρ1 vs = true) (h : Sh ρ1 ρ') (S : Sim K T (B.blk ρ1 H1 L ob) (wipeD ρ' vs) (wipe σ vs) H') : Sim K T (B.add L) ρ' σ H' := by
  have ow : owns (wipeD ρ' vs) = owns ρ' := owns_wipe (h.noOwn ho)
  have ow1 := h.owns
  refine ⟨by rw [h.length]; exact S1.len, fun i s e => ?_, by rw [ow1]; exact S1.nodup, fun a z => ?_, S.outs, fun a o no w e => ?_, fun a z => S1.fresh a (by rw [← ow1]; exact z), S.tabs, fun a z => S.dom a ?_⟩
  · by_cases q : i ∈ vs
    · have hs : ρ1[i]? = some s := by
        rcases h.get e with z | ⟨b, d, d', e1, e2⟩
        · exact z
        · exact absurd e2 (noOwn_at ho q b d)
      refine (S1.at_ i s hs).mono (fun a o no z => ?_) fun a d es => ?_
      · obtain ⟨z1, z2⟩ := msk_some z
        rw [msk_out (fun y => ?_)]
        · exact kp_back S1 n S a o no (fun y => z1 (List.mem_append_right _ y)) z2
        · have y : a ∈ (L :: B.out) ++ owns ρ' := y
          rw [ow1] at y
          rcases List.mem_cons.mp y with y | y
          · exact ne_of_none z2 n y
          · exact z1 y
      · subst es
        exact absurd hs (noOwn_at ho q a d)
    · have e' : (wipeD ρ' vs)[i]? = some s := by rw [wipeD_out q]; exact e
      have z := S.at_ i s e'
      rw [wipe_out2 q] at z
      refine z.mono (Kp.sub fun a y => ?_) fun _ _ _ _ _ y => y
      show a ∈ (L :: B.out) ++ owns (wipeD ρ' vs)
      rw [ow]
      exact y
  · rw [ow1] at z
    intro y
    rcases List.mem_cons.mp y with y | y
    · obtain ⟨o, e, _⟩ := S1.held a (List.mem_append_right _ z)
      exact ne_of_none e n y
    · exact S1.disj a z y
  · have e : B.H0 a = some o := e
    refine kp_back S1 n S a o no (fun z => ?_) (S1.frame a o no w e)
    rcases S1.fresh a z with z | z
    · exact w z
    · rw [e] at z; cases z
  · show upd H1 L ob a ≠ none
    have q := S1.dom a z
    by_cases ql : a = L
    · rw [ql, upd_same]; exact fun z => by cases z
    · rw [upd_ne ql]; exact q
end
theorem sim_unadd {K : PySem.W.Frag} {T : List TQ} {B : Bs} {ρ : Sl} {σ : L2.St} {H : Hp} {L : Addr} (S : Sim K T (B.add L) ρ σ H) : Sim K T B ρ σ H :=
  ⟨S.len, fun i s e => (S.at_ i s e).mono (Kp.sub fun a z => by
    rcases List.mem_append.mp z with z | z
    · exact List.mem_append_left _ (List.mem_cons_of_mem _ z)
    · exact List.mem_append_right _ z) fun _ _ _ _ _ y => y, S.nodup, fun a z y => S.disj a z (List.mem_cons_of_mem _ y), fun a z => S.outs a (List.mem_cons_of_mem _ z), S.frame, S.fresh, S.tabs, S.dom⟩
/-- a new list that nothing knows -/
theorem sim_add {K : PySem.W.Frag} {T : List TQ} {B : Bs} {ρ : Sl} {σ : L2.St} {H : Hp} {L : Addr} {o : HO} (S : Sim K T B ρ σ H) (n : H L = none) (no : mutb o = true) : Sim K T (B.add L) ρ σ (upd H L o) := by
  have z := S.new (o := o) n
  refine ⟨S.len, fun i s e => ?_, S.nodup, fun a q y => ?_, fun a q => ?_, z.frame, z.fresh, z.tabs, z.dom⟩
  · refine (S.at_ i s e).mono (fun a o _ q => ?_) fun a d _ ob _ y => by rw [upd_ne (ne_of_none y n)]; exact y
    obtain ⟨q1, q2⟩ := msk_some q
    have ne := ne_of_none q2 n
    rw [msk_out (fun y => by
      rcases List.mem_cons.mp (show a ∈ L :: (B.out ++ owns ρ) from y) with y | y
      · exact ne y
      · exact q1 y), upd_ne ne]
    exact q2
  · rcases List.mem_cons.mp y with y | y
    · obtain ⟨o, e, _⟩ := S.held a (List.mem_append_right _ q)
      exact ne_of_none e n y
    · exact S.disj a q y
  · rcases List.mem_cons.mp q with q | q
    · exact ⟨o, by rw [q, upd_same], no⟩
    · exact z.outs a q
theorem wipe_at {σ : L2.St} {i : Nat} : ∀ {vs : List Nat}, i ∈ vs → i < σ.length → (wipe σ vs)[i]? = some none
  | [], h, _ => by cases h
  | v :: vs, h, hl => by
    unfold wipe
    by_cases q : v = i
    · subst q
      rw [List.getElem?_set_self (by rw [wipe_length]; exact hl)]
    · rw [List.getElem?_set_ne q]
      rcases List.mem_cons.mp h with z | z
      · exact absurd z.symm q
      · exact wipe_at z hl
theorem wipe_wipe {σ : L2.St} {vs : List Nat} : wipe (wipe σ vs) vs = wipe σ vs := by
  apply List.ext_getElem?
  intro i
  by_cases q : i ∈ vs
  · by_cases hl : i < σ.length
    · rw [wipe_at q (by rw [wipe_length]; exact hl), wipe_at q hl]
    · rw [List.getElem?_eq_none (by rw [wipe_length, wipe_length]; omega), List.getElem?_eq_none (by rw [wipe_length]; omega)]
  · rw [wipe_out2 q]
theorem wipeD_wipeD {ρ : Sl} {vs : List Nat} : wipeD (wipeD ρ vs) vs = wipeD ρ vs := by
  apply List.ext_getElem?
  intro i
  by_cases q : i ∈ vs
  · by_cases hl : i < ρ.length
    · rw [wipeD_in q (by rw [wipeD_length]; exact hl), wipeD_in q hl]
    · rw [List.getElem?_eq_none (by rw [wipeD_length, wipeD_length]; omega), List.getElem?_eq_none (by rw [wipeD_length]; omega)]
  · rw [wipeD_out q]
theorem sim_wiped {K : PySem.W.Frag} {T : List TQ} {B : Bs} {ρ : Sl} {σ : L2.St} {H : Hp} {vs : List Nat} (S : Sim K T B ρ σ H) : Sim K T B (wipeD ρ vs) (wipe σ vs) H := by
  have z := S.fg (fg_wipe (vs := vs))
  refine ⟨by rw [wipeD_length, wipe_length]; exact S.len, fun i s e => ?_, z.nodup, z.disj, z.outs, z.frame, z.fresh, z.tabs, z.dom⟩
  by_cases q : i ∈ vs
  · have hl : i < ρ.length := by
      have := (List.getElem?_eq_some_iff.mp e).1
      rwa [wipeD_length] at this
    rw [wipeD_in q hl] at e
    cases e
    trivial
  · rw [wipe_out2 q]
    exact z.at_ i s e
theorem msk_upd {O : List Addr} {H : Hp} {a : Addr} {o : HO} (h : a ∈ O) : msk O (upd H a o) = msk O H := by
  funext b
  unfold msk
  by_cases q : b ∈ O
  · rw [if_pos q, if_pos q]
  · rw [if_neg q, if_neg q, upd_ne (fun z => q (by rw [z]; exact h))]
/-- a thing that is out of sight is written -/
theorem sim_out {K : PySem.W.Frag} {T : List TQ} {B : Bs} {ρ : Sl} {σ : L2.St} {H : Hp} {a : Addr} {o u : HO} (S : Sim K T B ρ σ H) (ha : a ∈ B.out) (hl : a ∈ B.lent) (hu : H a = some u) (nu : mutb u = true) (no : mutb o = true) : Sim K T B ρ σ (upd H a o) := by
  have hm : a ∈ B.all ρ := List.mem_append_left _ ha
  refine ⟨S.len, fun i s e => ?_, S.nodup, S.disj, fun b z => ?_, fun b p np w e => ?_, S.fresh, fun P z => ?_, fun b z => ?_⟩
  · rw [msk_upd hm]
    refine (S.at_ i s e).mono (Kp.refl _) fun b d es ob nob z => ?_
    subst es
    rw [upd_ne (fun y => S.disj b (mem_owns.mpr ⟨i, d, e⟩) (by rw [y]; exact ha))]
    exact z
  · by_cases q : b = a
    · rw [q]; exact ⟨o, upd_same, no⟩
    · rw [upd_ne q]; exact S.outs b z
  · rw [upd_ne (fun y => w (by rw [y]; exact hl))]
    exact S.frame b p np w e
  · exact TQs.old hu nu (S.tabs P z)
  · by_cases q : b = a
    · rw [q, upd_same]; exact fun y => by cases y
    · rw [upd_ne q]; exact S.dom b z

/-! ### the block's own judgements -/
section
variable {X : Cx} {T : List TQ} {B : Bs} {ρ ρ1 ρ2 ρ3 : Sl} {W W1 W2 W3 : List Addr} {e a b c : Expr} {d d1 d2 d3 : D} {pos : Pos} {k : DE} {st : Stmt} {r : List Stmt}
/-- tests of a comprehension -/
def TXs (X : Cx) (T : List TQ) (B : Bs) (ρ : Sl) (ifs : List Expr) (W : List Addr) (ρ' : Sl) (k : Bool) : Prop := PTs X ifs (TTd X.K T B ρ W ρ' k)
theorem txs_nil : TXs X T B ρ [] [] ρ true := ⟨fun pins s σ H Q I ⟨S, q⟩ => pts_nil.run pins s σ H Q I (q H S (Fx.refl _ _))⟩
theorem txs_one {kb : Bool} (h : TX X T B ρ c W ρ1 kb) : TXs X T B ρ [c] W ρ1 kb := pts_one h.run
abbrev Bk (X : Cx) (scope : Scope) (s : Shared) (H : Hp) (C : Addr) (cl : List (Str × Addr)) (fp : List Addr) : Cx := X.blk s H scope (compEnvC scope cl C X.env) fp
def gB (X : Cx) (T : List TQ) (scope : Scope) (tg : Expr) (vs : List Nat) : TG := fun v σ H Q => ∃ B ρ d ρ', (∀ s H C cl fp, GX (Bk X scope s H C cl fp) T B ρ tg vs d ρ') ∧ Sim X.K T B ρ σ H ∧ Rp X.K (msk (B.all ρ) H) v d ∧ ∀ σ', Sim X.K T B ρ' σ' H → wipe σ' vs = wipe σ vs → Q σ' H
def tB' (X : Cx) (T : List TQ) (scope : Scope) (ifs : List Expr) : TT := fun σ H Q => ∃ B ρ W ρ' k, (∀ s H C cl fp, TXs (Bk X scope s H C cl fp) T B ρ ifs W ρ' k) ∧ TTd X.K T B ρ W ρ' k σ H Q
def eB (X : Cx) (T : List TQ) (scope : Scope) (e : Expr) : TE := fun σ H Q => ∃ B ρ W ρ' d, (∀ s H C cl fp, EX (Bk X scope s H C cl fp) T B ρ e W ρ' d) ∧ TD X.K T B ρ W ρ' d σ H Q
/-- the states and the items, turn by turn -/
def lcF {St α : Type} (step : St → α → St × Option D) : St → List α → St × List D
  | s, [] => (s, [])
  | s, d :: ds => ((lcF step (step s d).1 ds).1, (step s d).2.toList ++ (lcF step (step s d).1 ds).2)
theorem lcF_app {St α : Type} (step : St → α → St × Option D) : ∀ (s : St) (ds : List α) (d : α), lcF step s (ds ++ [d]) = ((step (lcF step s ds).1 d).1, (lcF step s ds).2 ++ (step (lcF step s ds).1 d).2.toList)
  | s, [], d => by simp [lcF]
  | s, x :: ds, d => by
    show ((lcF step (step s x).1 (ds ++ [d])).1, _ ++ (lcF step (step s x).1 (ds ++ [d])).2) = _
    rw [lcF_app step (step s x).1 ds d, ← List.append_assoc]
    rfl
theorem lcF_len {St α : Type} (step : St → α → St × Option D) : ∀ (s : St) (ds : List α), (lcF step s ds).2.length ≤ ds.length
  | _, [] => Nat.le_refl _
  | s, d :: ds => by
    show ((step s d).2.toList ++ (lcF step (step s d).1 ds).2).length ≤ _
    rw [List.length_append, List.length_cons]
    have := lcF_len step (step s d).1 ds
    have h1 : (step s d).2.toList.length ≤ 1 := by cases (step s d).2 <;> simp
    omega
/-- what a turn of a comprehension does -/
structure Turn1 (X : Cx) (T : List TQ) (scope : Scope) (elt tg : Expr) (ifs : List Expr) (vs : List Nat) (Wc : List Addr) (ρ : Sl) (d : D) (ρ' : Sl) (o : Option D) : Prop where
  go : ∀ B, ∃ ρb Wt ρt, owns ρb = owns ρ ∧ owns ρt = owns ρ ∧ (∀ a ∈ Wt, a ∈ Wc) ∧ (∀ s H C cl fp, GX (Bk X scope s H C cl fp) T B (wipeD ρ vs) tg vs d ρb) ∧ (∀ s H C cl fp, TXs (Bk X scope s H C cl fp) T B ρb ifs Wt ρt o.isSome) ∧
    (∀ y, o = some y → ∃ W ρc, (∀ a ∈ W, a ∈ Wc) ∧ owns ρc = owns ρ ∧ (∀ s H C cl fp, EX (Bk X scope s H C cl fp) T B ρt elt W ρc y) ∧ Fg ρc (wipeD ρ' vs)) ∧ (o = none → Fg ρt (wipeD ρ' vs))
theorem lc_read {St α : Type} {elt tg : Expr} {ifs : List Expr} {scope : Scope} {qs : List α} {vs : List Nat} {Wc : List Addr} (ρs : St → Sl) (s0 : St) (step : St → α → St × Option D) (en : α → D) {wi : TI}
    (hw : ∀ σ H R, Sim X.K T B ρ σ H → (∀ J H1, Sim X.K T B (ρs s0) σ H1 → Fx W H H1 → Walked X.K (B.all (ρs s0)) (qs.map en) J H1 → R J H1) → wi σ H R)
    (hlen : qs.length ≤ sizeLine) (hsh : ∀ s, Sh (ρs s0) (ρs s)) (hno : noOwn (ρs s0) vs = true) (hWc : ∀ a ∈ Wc, a ∈ owns (ρs s0))
    (hb : ∀ s d, d ∈ qs → Turn1 X T scope elt tg ifs vs Wc (ρs s) (en d) (ρs (step s d).1) (step s d).2)
    {σ : L2.St} {H : Hp} {Q : VK} (S : Sim X.K T B ρ σ H) (q : ∀ p H', B.H0 p = none → Sim X.K T (B.add p) (ρs (lcF step s0 qs).1) σ H' → Fx (W ++ Wc) H H' → (∃ xs, H' p = some (.lst xs) ∧ p ∉ B.all (ρs s0) ∧ RpA X.K (msk (p :: B.all (ρs s0)) H') xs (lcF step s0 qs).2) → Q (.ref p) H') :
    tLc wi (gB X T scope tg vs) (tB' X T scope ifs) (eB X T scope elt) vs σ H Q := by
  refine hw σ H _ S fun J H1 S1 f1 wk L nL => ?_
  have nL0 : L ∉ B.all (ρs s0) := S1.free nL
  refine ⟨fun i m H' => m = qs.length - i ∧ i ≤ qs.length ∧ ∃ acc, Sim X.K T (B.blk (ρs s0) H1 L) (wipeD (ρs (lcF step s0 (qs.take i)).1) vs) (wipe σ vs) H' ∧ H' L = some (.lst acc) ∧ RpA X.K (msk (L :: B.all (ρs s0)) H') acc (lcF step s0 (qs.take i)).2 ∧ Fx (Wc ++ [L]) (upd H1 L (.lst [])) H',
    ⟨qs.length, by simp, Nat.zero_le _, [], sim_blk S1 nL hno, upd_same, .nil, Fx.refl _ _⟩, ?_⟩
  rintro i m H' ⟨rfl, hi', acc, S', hL, hacc, hfx⟩
  have hshi := hsh (lcF step s0 (qs.take i)).1
  have ow := owns_wipe (hshi.noOwn hno)
  have eall : (B.blk (ρs s0) H1 L).all (wipeD (ρs (lcF step s0 (qs.take i)).1) vs) = L :: B.all (ρs s0) := by
    show (L :: B.out) ++ owns (wipeD _ vs) = L :: (B.out ++ owns (ρs s0))
    rw [ow, hshi.owns]; rfl
  have kk : Kp (msk (B.all (ρs s0)) H1) (msk (L :: B.all (ρs s0)) H') := fun a o no e => by
    obtain ⟨z1, z2⟩ := msk_some e
    have ne : a ≠ L := ne_of_none z2 nL
    rw [msk_out (fun z => by
      rcases List.mem_cons.mp z with z | z
      · exact ne z
      · exact z1 z)]
    exact kp_back S1 nL S' a o no (fun z => z1 (List.mem_append_right _ z)) z2
  have held : ∀ a ∈ (L :: B.all (ρs s0)), ∃ o, H' a = some o ∧ mutb o = true := fun a z => by
    rw [← eall] at z
    exact S'.held a z
  by_cases hlt : i < qs.length
  · have hdi : qs[i]? = some qs[i] := List.getElem?_eq_getElem hlt
    have hdm : (qs.map en)[i]? = some (en qs[i]) := by rw [List.getElem?_map, hdi]; rfl
    have hlm : i < (qs.map en).length := by rw [List.length_map]; exact hlt
    have etk : qs.take (i + 1) = qs.take i ++ [qs[i]] := by rw [List.take_add_one, hdi]; rfl
    have hsucc := lcF_app step s0 (qs.take i) qs[i]
    rw [← etk] at hsucc
    refine .inr ⟨wk.go i _ H' kk hlm, fun H2 => ∃ acc, Sim X.K T (B.blk (ρs s0) H1 L) (wipeD (ρs (lcF step s0 (qs.take (i + 1))).1) vs) (wipe σ vs) H2 ∧ H2 L = some (.lst acc) ∧ RpA X.K (msk (L :: B.all (ρs s0)) H2) acc (lcF step s0 (qs.take (i + 1))).2 ∧ Fx (Wc ++ [L]) (upd H1 L (.lst [])) H2,
      fun H2 z => ⟨qs.length - (i + 1), by omega, rfl, hlt, z⟩, fun v H2 y => ?_⟩
    obtain ⟨hH, d, hd', hrp⟩ := wk.yld i _ H' v H2 kk held hlm y
    rw [hdm] at hd'
    cases hd'
    obtain ⟨t1, t2, t3⟩ := tab_keep hH
    have S2 := S'.grow t1 (fun P z => t2 P (S'.tabs P z)) t3
    have hL2 : H2 L = some (.lst acc) := t1 _ _ rfl hL
    have hacc2 : RpA X.K (msk (L :: B.all (ρs s0)) H2) acc (lcF step s0 (qs.take i)).2 := hacc.mono fun a o no e => by
      obtain ⟨z1, z2⟩ := msk_some e
      rw [msk_out z1]; exact t1 a o no z2
    have hfx2 : Fx (Wc ++ [L]) (upd H1 L (.lst [])) H2 := fun a o no w e => t1 a o no (hfx a o no w e)
    obtain ⟨ρb, Wt, ρt, g0, g00, gW, g1, g2, g3, g4⟩ := (hb (lcF step s0 (qs.take i)).1 qs[i] (List.getElem_mem hlt)).go (B.blk (ρs s0) H1 L)
    refine ⟨_, _, en qs[i], ρb, g1, S2, by rw [eall]; exact hrp, fun σ2 S3 hwp => ?_⟩
    have hwp2 : wipe σ2 vs = wipe σ vs := by rw [hwp, wipe_wipe]
    refine ⟨hwp2, _, ρb, Wt, ρt, _, g2, S3, fun H3 S4 f4 => ?_⟩
    -- back to the wiped names
    have backS : ∀ {ρc : Sl} {ρ' : Sl} {H9 : Hp}, Sim X.K T (B.blk (ρs s0) H1 L) ρc σ2 H9 → Fg ρc (wipeD ρ' vs) → Sim X.K T (B.blk (ρs s0) H1 L) (wipeD ρ' vs) (wipe σ vs) H9 := fun {ρc ρ' H9} S9 fg => by
      have z := sim_wiped (vs := vs) (S9.fg fg)
      rw [wipeD_wipeD, hwp2] at z
      exact z
    have LWt : L ∉ Wt := fun z => nL0 (List.mem_append_right _ (hWc _ (gW _ z)))
    have k4 : ∀ a o, notTbl o = true → a ∉ Wt → H2 a = some o → H3 a = some o := fun a o no w e => f4 a o no w e
    have hacc3 : RpA X.K (msk (L :: B.all (ρs s0)) H3) acc (lcF step s0 (qs.take i)).2 := hacc2.mono (f4.kp fun a z => List.mem_cons_of_mem _ (List.mem_append_right _ (hWc _ (gW _ z))))
    have hfx3 : Fx (Wc ++ [L]) (upd H1 L (.lst [])) H3 := fun a o no w e => k4 a o no (fun z => w (List.mem_append_left _ (gW _ z))) (hfx2 a o no w e)
    cases ho : (step (lcF step s0 (qs.take i)).1 qs[i]).2 with
    | none =>
      show (if false = true then _ else _)
      rw [if_neg Bool.false_ne_true]
      refine ⟨acc, ?_, k4 _ _ rfl LWt hL2, ?_, hfx3⟩
      · rw [hsucc]; exact backS S4 (g4 ho)
      · rw [hsucc, ho]
        simp only [Option.toList_none, List.append_nil]
        exact hacc3
    | some y =>
      show (if true = true then _ else _)
      rw [if_pos rfl]
      obtain ⟨W', ρc, hW', g50, g5, g6⟩ := g3 y ho
      refine ⟨_, ρt, W', ρc, y, g5, S4, fun w H4 S5 f5 rw_ => ?_⟩
      have LW : L ∉ W' := fun z => nL0 (List.mem_append_right _ (hWc _ (hW' _ z)))
      have hL4 : H4 L = some (.lst acc) := f5 _ _ rfl LW (k4 _ _ rfl LWt hL2)
      have S6 := backS S5 g6
      have eall6 : (B.blk (ρs s0) H1 L).all (wipeD (ρs (step (lcF step s0 (qs.take i)).1 qs[i]).1) vs) = L :: B.all (ρs s0) := by
        show (L :: B.out) ++ owns (wipeD _ vs) = L :: (B.out ++ owns (ρs s0))
        rw [owns_wipe ((hsh _).noOwn hno), (hsh _).owns]; rfl
      have kO : Kp (msk (L :: B.all (ρs s0)) H3) (msk (L :: B.all (ρs s0)) H4) := f5.kp fun a z => List.mem_cons_of_mem _ (List.mem_append_right _ (hWc _ (hW' _ z)))
      have hacc4 : RpA X.K (msk (L :: B.all (ρs s0)) H4) acc (lcF step s0 (qs.take i)).2 := hacc3.mono kO
      have eoc : owns ρc = owns (ρs s0) := g50.trans (hsh _).owns
      have rw2 : Rp X.K (msk (L :: B.all (ρs s0)) H4) w y := rw_.mono (Kp.sub fun a z => by
        show a ∈ (L :: B.out) ++ owns ρc
        rw [eoc]; exact z)
      refine ⟨acc, hL4, ?_, acc ++ [w], ?_, upd_same, ?_, ?_⟩
      · have h1 := hacc.length
        have h2 := lcF_len step s0 (qs.take i)
        have h3 : (qs.take i).length ≤ i := by rw [List.length_take]; exact Nat.min_le_left _ _
        omega
      · rw [hsucc]
        exact sim_out S6 (by show L ∈ L :: B.out; exact List.mem_cons_self) (by show L ∈ L :: owns (ρs s0); exact List.mem_cons_self) hL4 rfl rfl
      · rw [hsucc, ho, msk_upd List.mem_cons_self]
        exact hacc4.snoc rw2
      · intro a o no wn e
        rw [upd_ne (fun z => wn (List.mem_append_right _ (by rw [z]; exact List.mem_cons_self)))]
        exact f5 a o no (fun z => wn (List.mem_append_left _ (hW' _ z))) (hfx3 a o no wn e)
  · have e : i = qs.length := by omega
    subst e
    rw [List.take_length] at S' hacc hshi
    refine .inl ⟨wk.stop _ _ H' kk (by rw [List.length_map]; exact Nat.le_refl _), q L H' ?_ (sim_back S1 nL hno hshi S') (f1.trans ?_) ⟨acc, hL, nL0, hacc⟩⟩
    · cases hz : B.H0 L with
      | none => rfl
      | some o => exact absurd nL (S1.dom L (by rw [hz]; exact fun z => by cases z))
    · intro a o no w e
      refine hfx a o no (fun z => ?_) (by rw [upd_ne (ne_of_none e nL)]; exact e)
      rcases List.mem_append.mp z with z | z
      · exact w z
      · exact ne_of_none e nL (by simpa using z)

/-! ### new lists -/
/-- e is a new list that nothing else knows -/
structure EO (X : Cx) (T : List TQ) (B : Bs) (ρ : Sl) (e : Expr) (W : List Addr) (ρ' : Sl) (ds : List D) : Prop where
  run : PE X e (fun σ H Q => Sim X.K T B ρ σ H ∧ ∀ p xs H', B.H0 p = none → Sim X.K T (B.add p) ρ' σ H' → Fx W H H' → H' p = some (.lst xs) → p ∉ B.all ρ' → RpA X.K (msk (p :: B.all ρ') H') xs ds → Q (.ref p) H')
  own : owns ρ' = owns ρ
  sub : ∀ a ∈ W, a ∈ owns ρ
theorem rp_new {K : PySem.W.Frag} {H' : Hp} {p : Addr} {xs : List V} {ds : List D} {O : List Addr} (h1 : H' p = some (.lst xs)) (h2 : p ∉ O) (h3 : RpA K (msk (p :: O) H') xs ds) : Rp K (msk O H') (.ref p) (.list ds) :=
  .lst (SqL.of (by rw [msk_out h2]; exact h1)) (h3.mono (Kp.sub fun a z => List.mem_cons_of_mem _ z))
theorem EO.ex {ds : List D} (h : EO X T B ρ e W ρ1 ds) : EX X T B ρ e W ρ1 (.list ds) := ⟨PE.imp h.run fun σ H Q ⟨S, q⟩ => ⟨S, fun p xs H' _ S' f h1 h2 h3 => q _ H' (sim_unadd S') f (rp_new h1 h2 h3)⟩, h.own, h.sub⟩
theorem free_H0 {K : PySem.W.Frag} {σ : L2.St} {H : Hp} {p : Addr} (S : Sim K T B ρ σ H) (n : H p = none) : B.H0 p = none := by
  cases hz : B.H0 p with
  | none => rfl
  | some o => exact absurd n (S.dom p (by rw [hz]; exact fun z => by cases z))
theorem eo_lst {es : List Expr} {ds : List D} (h : AX X T B ρ es W ρ1 ds) (hl : ds.length ≤ sizeLine) : EO X T B ρ (.List es pos) W ρ1 ds :=
  ⟨PE.imp (pe_lst h.run) fun σ H Q ⟨S, q⟩ => ⟨S, fun vs H1 S1 f1 r1 => ⟨by rw [r1.length]; exact hl, fun p np => q p vs _ (free_H0 S1 np) (sim_add S1 np rfl) (f1.transN (Fx.new np)) upd_same (S1.free np) (r1.mono fun a o _ e => by
    obtain ⟨z1, z2⟩ := msk_some e
    have ne := ne_of_none z2 np
    rw [msk_out (fun y => by
      rcases List.mem_cons.mp y with y | y
      · exact ne y
      · exact z1 y), upd_ne ne]
    exact z2)⟩⟩, h.own, h.sub⟩
theorem eo_lc {St α : Type} {elt tg iter : Expr} {ifs : List Expr} {scope : Scope} {qs : List α} {own : List (Str × Nat)} {Wc : List Addr} (ρs : St → Sl) (s0 : St) (step : St → α → St × Option D) (en : α → D) (hc : X.calm = true) (hN : X.N.Nodup)
    (hi : IX X T B ρ tg iter W (ρs s0) (qs.map en)) (ok : BlkOk X.N X.env.scope scope own) (hlen : qs.length ≤ sizeLine) (hsh : ∀ s, Sh (ρs s0) (ρs s)) (hno : noOwn (ρs s0) (own.map (·.2)) = true) (hWc : ∀ a ∈ Wc, a ∈ owns (ρs s0))
    (hb : ∀ s d, d ∈ qs → Turn1 X T scope elt tg ifs (own.map (·.2)) Wc (ρs s) (en d) (ρs (step s d).1) (step s d).2) (hs : ∀ x, foldedSetIterable iter X.env x = pure x := by intro _; rfl) :
    EO X T B ρ (.ListComp elt [⟨tg, iter, ifs, 0⟩] scope pos) (W ++ Wc) (ρs (lcF step s0 qs).1) (lcF step s0 qs).2 := by
  obtain ⟨wi, hwi, hw⟩ := hi.run
  refine ⟨PE.imp (pe_lc hc hN hwi ok (g := gB X T scope tg (own.map (·.2))) (tt := tB' X T scope ifs) (te := eB X T scope elt) ?_ ?_ ?_ hs) fun σ H Q ⟨S, q⟩ => ?_, ((hsh _).owns.trans hi.own), sub_app hi.sub hi.own hWc⟩
  · exact fun s H C cl fp => ⟨fun pins s' σ H v u Q I rr ⟨B, ρ, d, ρ', h, z⟩ => PG.run (h s _ C cl fp) pins s' σ H v u Q I rr z⟩
  · exact fun s H C cl fp => ⟨fun pins s' σ H Q I ⟨B, ρ, W, ρ', k, h, z⟩ => PTs.run (h s _ C cl fp) pins s' σ H Q I z⟩
  · exact fun s H C cl fp => ⟨fun pins s' σ H Q I ⟨B, ρ, W, ρ', d, h, z⟩ => (h s _ C cl fp).run.run pins s' σ H Q I z⟩
  · refine lc_read ρs s0 step en hw hlen hsh hno hWc hb S fun p H' h0 S' f ⟨xs, h1, h2, h3⟩ => q p xs H' h0 S' f h1 ?_ ?_
    · rw [all_of (hsh _).owns]; exact h2
    · rw [all_of (hsh _).owns]; exact h3
/-- a slot takes the new list as its own -/
theorem sim_own {K : PySem.W.Frag} {σ : L2.St} {H : Hp} {p : Addr} {xs : List V} {ds : List D} {i : Nat} (S : Sim K T (B.add p) ρ σ H) (h0 : B.H0 p = none) (h1 : H p = some (.lst xs)) (h2 : p ∉ B.all ρ) (h3 : RpA K (msk (p :: B.all ρ) H) xs ds) (hi : i < ρ.length) :
    Sim K T B (ρ.set i (.own p (.list ds))) (σ.set i (some (.ref p))) H := by
  have f : Fg ρ (ρ.set i .un) := fg_set
  have hset : owns (ρ.set i (.own p (.list ds))) = owns ((ρ.set i .un).set i (.own p (.list ds))) := by rw [List.set_set]
  have hmem : ∀ a, a ∈ owns (ρ.set i (.own p (.list ds))) → a = p ∨ a ∈ owns (ρ.set i .un) := fun a z => by
    obtain ⟨j, d, e⟩ := mem_owns.mp z
    by_cases q : i = j
    · subst q
      rw [List.getElem?_set_self hi] at e
      cases e
      exact .inl rfl
    · rw [List.getElem?_set_ne q] at e
      exact .inr (mem_owns.mpr ⟨j, d, by rw [List.getElem?_set_ne q]; exact e⟩)
  have hu : ∀ a, a ∈ owns (ρ.set i .un) → a ∈ owns ρ := fun a z => f.sub.subset z
  have hall : ∀ a ∈ B.all (ρ.set i (.own p (.list ds))), a ∈ p :: B.all ρ := fun a z => by
    rcases List.mem_append.mp z with z | z
    · exact List.mem_cons_of_mem _ (List.mem_append_left _ z)
    · rcases hmem a z with z | z
      · rw [z]; exact List.mem_cons_self
      · exact List.mem_cons_of_mem _ (List.mem_append_right _ (hu a z))
  refine ⟨by rw [List.length_set, List.length_set]; exact S.len, fun j s e => ?_, ?_, fun a z => ?_, fun a z => S.outs a (List.mem_cons_of_mem _ z), S.frame, fun a z => ?_, S.tabs, S.dom⟩
  · by_cases q : i = j
    · subst q
      rw [List.getElem?_set_self hi] at e
      cases e
      rw [join_set_same (by rw [← S.len]; exact hi)]
      exact ⟨rfl, xs, h1, h3.mono (Kp.sub hall)⟩
    · rw [List.getElem?_set_ne q] at e
      rw [join_set_ne q]
      exact (S.at_ j s e).mono (Kp.sub (fun a z => hall a z)) fun _ _ _ _ _ y => y
  · exact nodup_own (S.nodup.sublist f.sub) (fun z => h2 (List.mem_append_right _ (hu p z))) hi
  · rcases hmem a z with z | z
    · rw [z]; exact fun y => h2 (List.mem_append_left _ y)
    · exact fun y => S.disj a (hu a z) (List.mem_cons_of_mem _ y)
  · rcases hmem a z with z | z
    · rw [z]; exact .inr h0
    · exact S.fresh a (hu a z)
where
  nodup_own : ∀ {ρ : Sl} {i : Nat} {p : Addr} {d : D}, (owns (ρ.set i .un)).Nodup → p ∉ owns (ρ.set i .un) → i < ρ.length → (owns (ρ.set i (.own p d))).Nodup
    | [], _, _, _, _, _, h => by simp at h
    | s :: r, 0, p, d, h1, h2, _ => List.nodup_cons.mpr ⟨h2, h1⟩
    | .own b e :: r, i + 1, p, d, h1, h2, h3 => by
      have h1' : (b :: owns (r.set i .un)).Nodup := h1
      have h2' : p ∉ b :: owns (r.set i .un) := h2
      show (b :: owns (r.set i (.own p d))).Nodup
      refine List.nodup_cons.mpr ⟨fun z => ?_, nodup_own (List.nodup_cons.mp h1').2 (fun z => h2' (List.mem_cons_of_mem _ z)) (by simpa using h3)⟩
      obtain ⟨j, e', q⟩ := mem_owns.mp z
      by_cases ij : i = j
      · subst ij
        rw [List.getElem?_set_self (by simpa using h3)] at q
        cases q
        exact h2' List.mem_cons_self
      · rw [List.getElem?_set_ne ij] at q
        exact (List.nodup_cons.mp h1').1 (mem_owns.mpr ⟨j, e', by rw [List.getElem?_set_ne ij]; exact q⟩)
    | .un :: r, i + 1, p, d, h1, h2, h3 => nodup_own (ρ := r) (i := i) h1 h2 (by simpa using h3)
    | .dat _ :: r, i + 1, p, d, h1, h2, h3 => nodup_own (ρ := r) (i := i) h1 h2 (by simpa using h3)
/-- x = a new list -/
theorem sx_setO {i : Nat} {x : Str} {pos' : Pos} {ds : List D} (he : EO X T B ρ e W ρ1 ds) (hN : X.N.Nodup) (hi : X.N[i]? = some x) (hx : Loc X.env.scope x) (hl : i < ρ1.length) (hr : ∀ p, SXs X T B (ρ1.set i (.own p (.list ds))) r k)
    (hs : swapsWith e (some (.Name x pos')) pos.line X.env = pure false := by rfl) (hf : X.fn x = true ∨ X.env.scope.names.lookup x = some .local := by first | exact .inl rfl | exact .inr rfl | assumption) : SXs X T B ρ (.Assign [.Name x pos'] e pos :: r) k := by
  refine PSs.imp (pss_cons (ps_set (pos' := pos') hN hi hx he.run hs hf) (ps_any (T := T) (B := B))) fun E σ H ⟨S, q⟩ => ?_
  exact ⟨S, fun p xs H' h0 S' f h1 h2 h3 => ⟨_, k, hr p, sim_own S' h0 h1 h2 h3 hl, q⟩⟩
/-- y = [..], y a local -/
theorem sx_setLc {St α : Type} {elt tg iter : Expr} {ifs : List Expr} {scope : Scope} {qs : List α} {own : List (Str × Nat)} {Wc : List Addr} {i : Nat} {y : Str} {py spos : Pos} (ρs : St → Sl) (s0 : St) (step : St → α → St × Option D) (en : α → D) (hc : X.calm = true) (hN : X.N.Nodup) (hy : X.N[i]? = some y) (hyl : X.env.scope.names.lookup y = some .local)
    (hsw : swapsWith (.ListComp elt [⟨tg, iter, ifs, 0⟩] scope pos) (some (.Name y py)) spos.line X.env = pure true)
    (hi : IX X T B ρ tg iter W (ρs s0) (qs.map en)) (ok : BlkOk X.N X.env.scope scope own) (hlen : qs.length ≤ sizeLine) (hsh : ∀ s, Sh (ρs s0) (ρs s)) (hno : noOwn (ρs s0) (own.map (·.2)) = true) (hWc : ∀ a ∈ Wc, a ∈ owns (ρs s0))
    (hb : ∀ s d, d ∈ qs → Turn1 X T scope elt tg ifs (own.map (·.2)) Wc (ρs s) (en d) (ρs (step s d).1) (step s d).2) (hl : i < (ρs (lcF step s0 qs).1).length) (hr : SXs X T B ((ρs (lcF step s0 qs).1).set i (.dat (.list (lcF step s0 qs).2))) r k) (hs : ∀ x, foldedSetIterable iter X.env x = pure x := by intro _; rfl) :
    SXs X T B ρ (.Assign [.Name y py] (.ListComp elt [⟨tg, iter, ifs, 0⟩] scope pos) spos :: r) k := by
  obtain ⟨wi, hwi, hw⟩ := hi.run
  refine PSs.imp (pss_cons (ps_setLc hc hN hy hyl hsw hwi ok (g := gB X T scope tg (own.map (·.2))) (tt := tB' X T scope ifs) (te := eB X T scope elt) ?_ ?_ ?_ hs) hr) fun E σ H ⟨S, q⟩ => ?_
  · exact fun s H C cl fp => ⟨fun pins s' σ H v u Q I rr ⟨B, ρ, d, ρ', h, z⟩ => PG.run (h s _ C cl fp) pins s' σ H v u Q I rr z⟩
  · exact fun s H C cl fp => ⟨fun pins s' σ H Q I ⟨B, ρ, W, ρ', k, h, z⟩ => PTs.run (h s _ C cl fp) pins s' σ H Q I z⟩
  · exact fun s H C cl fp => ⟨fun pins s' σ H Q I ⟨B, ρ, W, ρ', d, h, z⟩ => (h s _ C cl fp).run.run pins s' σ H Q I z⟩
  · refine lc_read (Q := fun x H1 => TSd X.K T B ((ρs (lcF step s0 qs).1).set i (.dat (.list (lcF step s0 qs).2))) k E (σ.set i (some x)) H1) ρs s0 step en hw hlen hsh hno hWc hb S fun p H' h0 S' f ⟨xs, h1, h2, h3⟩ => ?_
    have S2 := sim_unadd S'
    have rp : Rp X.K (msk (B.all (ρs (lcF step s0 qs).1)) H') (.ref p) (.list (lcF step s0 qs).2) := by
      rw [all_of (hsh _).owns]; exact rp_new h1 h2 h3
    exact ⟨S2.set (fun _ _ z => by cases z) hl ⟨_, rfl, rp⟩, q⟩
end
end Dv

set_option maxRecDepth 100000
namespace Dv
open PySem PySem.Spec PyProof.Rows L2

/-! ### owned things written -/
theorem set_get_ne {ρ : Sl} {i j : Nat} {s : Slot} (h : i ≠ j) : (ρ.set i s)[j]? = ρ[j]? := List.getElem?_set_ne h
theorem owns_set_own : ∀ {ρ : Sl} {i : Nat} {l : Addr} {d d' : D}, ρ[i]? = some (.own l d) → owns (ρ.set i (.own l d')) = owns ρ
  | [], _, _, _, _, h => by simp at h
  | s :: r, 0, l, d, d', h => by cases (Option.some.inj h); rfl
  | .own b e :: r, i + 1, l, d, d', h => by show b :: _ = b :: _; exact congrArg _ (owns_set_own (by simpa using h))
  | .un :: r, i + 1, l, d, d', h => owns_set_own (ρ := r) (i := i) (by simpa using h)
  | .dat _ :: r, i + 1, l, d, d', h => owns_set_own (ρ := r) (i := i) (by simpa using h)
section
variable {K : PySem.W.Frag} {T : List TQ} {B : Bs} {ρ ρ1 ρ' : Sl} {σ : L2.St} {H H1 H' : Hp} {l : Addr} {d d' : D} {i : Nat}
theorem sim_write {o : HO} (S : Sim K T B ρ σ H) (hs : ρ[i]? = some (.own l d)) (no : mutb o = true) (hh : Hold K (upd H l o) (msk (B.all ρ) H) l d') : Sim K T B (ρ.set i (.own l d')) σ (upd H l o) := by
  have hi := (List.getElem?_eq_some_iff.mp hs).1
  have ow : owns (ρ.set i (.own l d')) = owns ρ := owns_set_own hs
  have hm : l ∈ B.all ρ := List.mem_append_right _ (mem_owns.mpr ⟨i, d, hs⟩)
  obtain ⟨u, hu, nu⟩ := S.held l hm
  have em : msk (B.all (ρ.set i (.own l d'))) (upd H l o) = msk (B.all ρ) H := by rw [all_of ow, msk_upd hm]
  have hlf : l ∈ owns ρ := mem_owns.mpr ⟨i, d, hs⟩
  refine ⟨by rw [List.length_set]; exact S.len, fun j s e => ?_, by rw [ow]; exact S.nodup, fun a z => S.disj a (by rw [← ow]; exact z), fun a z => ?_, fun a p np w e => ?_, fun a z => S.fresh a (by rw [← ow]; exact z), fun P z => ?_, fun a z => ?_⟩
  · show At K _ (msk (B.all (ρ.set i (.own l d'))) (upd H l o)) s _
    rw [em]
    by_cases q : i = j
    · subst q
      rw [List.getElem?_set_self hi] at e
      cases e
      exact ⟨(S.at_ i _ hs).1, hh⟩
    · rw [List.getElem?_set_ne q] at e
      refine (S.at_ j s e).mono (Kp.refl _) fun a e' es ob nob z => ?_
      subst es
      rw [upd_ne (fun y => ?_)]
      · exact z
      · subst y
        exact hold_data.own_twice hs e q S.nodup
  · rw [upd_ne (fun y => S.disj l hlf (by rw [← y]; exact z))]
    exact S.outs a z
  · by_cases q : a = l
    · subst q
      rcases S.fresh a hlf with z | z
      · exact absurd z w
      · rw [e] at z; cases z
    · rw [upd_ne q]; exact S.frame a p np w e
  · exact TQs.old hu nu (S.tabs P z)
  · by_cases q : a = l
    · rw [q, upd_same]; exact fun y => by cases y
    · rw [upd_ne q]; exact S.dom a z
end
section
variable {X : Cx} {T : List TQ} {B : Bs} {ρ ρ1 ρ2 ρ3 : Sl} {W W1 W2 W3 : List Addr} {e a b c : Expr} {d d1 d2 d3 : D} {pos apos px : Pos} {k : DE} {st : Stmt} {r : List Stmt} {x : Str} {i n : Nat} {l : Addr}
/-- xs.append(e), xs owned -/
theorem ex_append {ds : List D} (hN : X.N[i]? = some x) (hv : Vis X.env.scope x) (h0 : ρ[i]? = some (.own l d2)) (ha : EX X T B ρ a W ρ1 d) (h1 : ρ1[i]? = some (.own l (.list ds))) (hl : ds.length < sizeLine)
    (hp : ∀ {to : TE} {t : TA}, PE X (.Name x px) to → PA X [a] t → PE X (.Call (.Attribute (.Name x px) "append" apos) [a] [] pos) (tBM X.K "list" rAppend to t)) (hd : (x == ("__debug__" : Str)) = false := by decide) (hcd : (x == ("__classdict__" : Str)) = false := by decide)
    (he : starEach [a] X.env = (false, eval a X.env) :: starEach [] X.env := by rfl) (hd2 : ∃ ds0, d2 = .list ds0) :
    EX X T B ρ (.Call (.Attribute (.Name x px) "append" apos) [a] [] pos) (W ++ [l]) (ρ1.set i (.own l (.list (ds ++ [d])))) .none := by
  obtain ⟨ds0, rfl⟩ := hd2
  have ho : owns (ρ1.set i (.own l (.list (ds ++ [d])))) = owns ρ1 := owns_set_own h1
  refine ⟨PE.imp (hp (pe_var hN hv hd hcd) (pa_cons ha.run pa_nil he)) fun σ H Q ⟨S, q⟩ => ?_, ho.trans ha.own, sub_app ha.sub ha.own fun z hz => ?_⟩
  · obtain ⟨q1, xs0, e0, _⟩ := S.at_ i _ h0
    refine ⟨.ref l, slot_of (K := X.K) (H := H) q1, .inl ⟨rfl, _, SqL.of e0⟩, S, fun v H1 S1 f1 rp => ?_⟩
    obtain ⟨_, xs, e1, r1⟩ := S1.at_ i _ h1
    refine ⟨l, xs, v, rfl, rfl, e1, by rw [r1.length]; exact hl, q .non _ (sim_write S1 h1 rfl ⟨_, upd_same, r1.snoc rp⟩) (f1.trans Fx.write) .non⟩
  · have : z = l := by simpa using hz
    rw [this]; exact mem_owns.mpr ⟨i, _, h1⟩
/-- xs.pop(), xs owned -/
theorem ex_pop {ds : List D} (hN : X.N[i]? = some x) (hv : Vis X.env.scope x) (h0 : ρ[i]? = some (.own l (.list (ds ++ [d]))))
    (hp : ∀ {to : TE}, PE X (.Name x px) to → PE X (.Call (.Attribute (.Name x px) "pop" apos) [] [] pos) (tBM0 X.K "list" rPop to)) (hd : (x == ("__debug__" : Str)) = false := by decide) (hcd : (x == ("__classdict__" : Str)) = false := by decide) :
    EX X T B ρ (.Call (.Attribute (.Name x px) "pop" apos) [] [] pos) [l] (ρ.set i (.own l (.list ds))) d := by
  refine ⟨PE.imp (hp (pe_var hN hv hd hcd)) fun σ H Q ⟨S, q⟩ => ?_, owns_set_own h0, fun z hz => ?_⟩
  · obtain ⟨q1, xs, e0, r0⟩ := S.at_ i _ h0
    obtain ⟨ys, y, rfl, r1, r2⟩ := rpa_snoc r0
    refine ⟨.ref l, slot_of (K := X.K) (H := H) q1, .inl ⟨rfl, _, SqL.of e0⟩, l, ys ++ [y], y, rfl, rfl, e0, by simp, ?_⟩
    have S2 : Sim X.K T B (ρ.set i (.own l (.list ds))) σ (upd H l (.lst ys)) := sim_write S h0 rfl ⟨_, upd_same, r1⟩
    have hm : l ∈ B.all ρ := List.mem_append_right _ (mem_owns.mpr ⟨i, _, h0⟩)
    rw [List.dropLast_concat]
    refine q y _ S2 Fx.write ?_
    rw [all_of (owns_set_own h0), msk_upd hm]
    exact r2
  · have : z = l := by simpa using hz
    rw [this]; exact mem_owns.mpr ⟨i, _, h0⟩
where
  rpa_snoc {K : PySem.W.Frag} {H : Hp} : ∀ {xs : List V} {ds : List D} {d : D}, RpA K H xs (ds ++ [d]) → ∃ ys y, xs = ys ++ [y] ∧ RpA K H ys ds ∧ Rp K H y d
    | _, [], d, .cons h .nil => ⟨[], _, rfl, .nil, h⟩
    | _, e :: ds, d, .cons h t => by
      obtain ⟨ys, y, rfl, r1, r2⟩ := rpa_snoc t
      exact ⟨_ :: ys, y, rfl, .cons h r1, r2⟩

/-! ### while -/
theorem sx_while {body : List Stmt} (hp : PassesOwn (model X.prog X.w) X.A X.env X.xe) (I : Nat → Sl → Prop) (M : Sl → Prop) (m0 : Nat) (h0 : I m0 ρ)
    (hb : ∀ m ρ', I m ρ' → ∃ kb W ρ1, TX X T B ρ' c W ρ1 kb ∧ (kb = true → SXs X T B ρ1 body { nx := fun ρ2 => ∃ m', m' < m ∧ I m' ρ2, ct := fun ρ2 => ∃ m', m' < m ∧ I m' ρ2, bk := M, rt := k.rt, rf := k.rf }) ∧ (kb = false → M ρ1))
    (hr : ∀ ρ', M ρ' → SXs X T B ρ' r k) : SXs X T B ρ (.While c body [] pos :: r) k := by
  have hc : PT X c (fun σ H Q => ∃ ρ W ρ1 kb, TX X T B ρ c W ρ1 kb ∧ TTd X.K T B ρ W ρ1 kb σ H Q) := ⟨fun pins s σ H Q I ⟨ρ, W, ρ1, kb, h, q⟩ => h.run.run pins s σ H Q I q⟩
  refine sx_cons M (PS.imp (ps_while hp hc (ps_any (T := T) (B := B) (sts := body))) fun E σ H ⟨S, q1, q2, q3, q4, q5⟩ => ?_) hr
  refine ⟨fun m σ H => ∃ ρ', I m ρ' ∧ Sim X.K T B ρ' σ H, ⟨m0, ρ, h0, S⟩, ?_⟩
  rintro m σ' H' ⟨ρ', hI, S'⟩
  obtain ⟨kb, W, ρ1, ht, hb1, hb2⟩ := hb m ρ' hI
  refine ⟨ρ', W, ρ1, kb, ht, S', fun H2 S2 f2 => ?_⟩
  cases kb with
  | true =>
    rw [if_pos rfl]
    refine ⟨fun σ3 H3 => ∃ ρ3, (∃ m', m' < m ∧ I m' ρ3) ∧ Sim X.K T B ρ3 σ3 H3, fun σ3 H3 ⟨ρ3, ⟨m', h1, h2⟩, S3⟩ => ⟨m', h1, ρ3, h2, S3⟩, ρ1, _, hb1 rfl, S2, fun ρ4 σ4 H4 z S4 => ⟨ρ4, z, S4⟩, q2, fun ρ4 σ4 H4 z S4 => q1 ρ4 σ4 H4 z S4, fun ρ4 σ4 H4 z S4 => ⟨ρ4, z, S4⟩, q5⟩
  | false =>
    rw [if_neg Bool.false_ne_true]
    exact q1 ρ1 σ' H2 (hb2 rfl) S2

/-! ### several names at once -/
theorem sx_par {i j : Nat} {x y : Str} {px py pt : Pos} {kt k2 pt2} (hc : X.calm = true) (hN : X.N.Nodup) (hi : X.N[i]? = some x) (hj : X.N[j]? = some y) (hij : i ≠ j)
    (hx : X.env.scope.names.lookup x = some .local) (hy : X.env.scope.names.lookup y = some .local) (ha : EX X T B ρ a W1 ρ1 d1) (hb : EX X T B ρ1 b W2 ρ2 d2) (hl : i < ρ2.length ∧ j < ρ2.length)
    (hr : SXs X T B ((ρ2.set i (.dat d1)).set j (.dat d2)) r k)
    (hp : ∀ {ta : TA}, PA X [a, b] ta → PS X (.Assign [.Tuple [.Name x px, .Name y py] kt pt] (.Tuple [a, b] k2 pt2) pos) (tPar i j ta))
    (he : starEach [a, b] X.env = (false, eval a X.env) :: starEach [b] X.env := by rfl) (he2 : starEach [b] X.env = (false, eval b X.env) :: starEach [] X.env := by rfl) :
    SXs X T B ρ (.Assign [.Tuple [.Name x px, .Name y py] kt pt] (.Tuple [a, b] k2 pt2) pos :: r) k := by
  refine PSs.imp (pss_cons (hp (pa_cons ha.run (pa_cons hb.run pa_nil he2) he)) hr) fun E σ H ⟨S, q⟩ => ⟨S, fun v H1 S1 f1 r1 => ⟨S1, fun w H2 S2 f2 r2 => ⟨v, w, rfl, ?_⟩⟩⟩
  have r1' := carry hb f2 r1
  have S3 := S2.set (i := i) (v := v) (s := .dat d1) (fun _ _ z => by cases z) hl.1 ⟨_, rfl, r1'⟩
  have S4 := S3.set (i := j) (v := w) (s := .dat d2) (fun _ _ z => by cases z) (by rw [List.length_set]; exact hl.2) ⟨_, rfl, r2.mono (Kp.sub sub_set)⟩
  exact ⟨S4, q⟩
/-- tg = e, by the target's rule -/
theorem sx_asg {tg : Expr} {vs : List Nat} (he : EX X T B ρ e W ρ1 d) (hg : GX X T B ρ1 tg vs d ρ2) (hr : SXs X T B ρ2 r k)
    (hs : swapsWithSole [tg] e pos.line X.env = pure false := by rfl) (hw : swappedStores [tg] e X.env = pure none := by rfl)
    (h1 : (assignEach [tg] X.env).map (·.2) = [assign tg X.env] := by rfl) : SXs X T B ρ (.Assign [tg] e pos :: r) k := by
  refine PSs.imp (pss_cons (ps_asg he.run hg hs hw h1) hr) fun E σ H ⟨S, q⟩ => ⟨S, fun v H1 S1 f1 r1 => ⟨S1, r1, fun σ' S' _ => ⟨S', q⟩⟩⟩
/-- x += e, ints -/
theorem sx_aug {i : Nat} {x : Str} {pos' : Pos} {m n : Int} (hN : X.N.Nodup) (hi : X.N[i]? = some x) (hx : Loc X.env.scope x) (h0 : ρ[i]? = some (.dat (.int m))) (he : EX X T B ρ e W ρ1 (.int n)) (hl : i < ρ1.length) (hr : SXs X T B (ρ1.set i (.dat (.int (m + n)))) r k)
    (hp : ∀ {te : TE}, PE X e te → PS X (.AugAssign (.Name x pos') .Add e pos) (tAug i te (ipI fun i j => i + j))) : SXs X T B ρ (.AugAssign (.Name x pos') .Add e pos :: r) k := by
  refine PSs.imp (pss_cons (hp he.run) hr) fun E σ H ⟨S, q⟩ => ?_
  obtain ⟨v, q1, q2⟩ := S.at_ i _ h0
  refine ⟨v, slot_of (K := X.K) (H := H) q1, S, fun w H1 S1 f1 r1 => ⟨m, n, int_of q2, int_of r1, S1.set (fun _ _ z => by cases z) hl ⟨_, rfl, .int _⟩, q⟩⟩
end

/-! ### defs -/
/-- arguments as they are handed over -/
def Args (K : PySem.W.Frag) (H Hm : Hp) (args : Sl) (vs : List V) : Prop := args.length = vs.length ∧ ∀ (i : Nat) (s : Slot), args[i]? = some s → At K H Hm s vs[i]?
/-- the owned arguments' ends -/
def Back (args ρ : Sl) : Prop := ∀ (i : Nat) a o, args[i]? = some (Slot.own a o) → ρ[i]? = some (Slot.own a o)
/-- the promise: with the arguments args the def hands back d, and leaves the owned ones as args' tells -/
def PrD (K : PySem.W.Frag) (T : List TQ) (n : Nat) (R : Sl → D → Sl → Prop) : Sp := fun vs H Q _ => vs.length = n ∧ ∃ (args : Sl) (out : List Addr) (d : D) (args' : Sl),
  Args K H (msk (out ++ owns args) H) args vs ∧ (owns args).Nodup ∧ (∀ a ∈ owns args, a ∉ out) ∧ (∀ a ∈ out, ∃ o, H a = some o ∧ mutb o = true) ∧ (∀ P ∈ T, TQs H P) ∧ Sh args args' ∧ R args d args' ∧
  ∀ v H', Fx (owns args) H H' → (∀ a, H a ≠ none → H' a ≠ none) → (∀ P ∈ T, TQs H' P) → (∀ (i : Nat) a o, args'[i]? = some (Slot.own a o) → Hold K H' (msk (out ++ owns args) H') a o) → Rp K (msk (out ++ owns args) H') v d → Q v H'
/-- .. a new list -/
def PrF (K : PySem.W.Frag) (T : List TQ) (n : Nat) (R : List D → List D → Prop) : Sp := fun vs H Q _ => vs.length = n ∧ ∃ (args : List D) (out : List Addr) (ds : List D),
  Args K H (msk out H) (args.map .dat) vs ∧ (∀ a ∈ out, ∃ o, H a = some o ∧ mutb o = true) ∧ (∀ P ∈ T, TQs H P) ∧ R args ds ∧
  ∀ p xs H', H p = none → Fx [] H H' → (∀ a, H a ≠ none → H' a ≠ none) → (∀ P ∈ T, TQs H' P) → H' p = some (.lst xs) → RpA K (msk (p :: out) H') xs ds → Q (.ref p) H'
theorem start_get {N : List Str} {vs : List V} {i : Nat} (h : i < vs.length) : (L2.start N vs)[i]?.join = vs[i]? := by
  unfold L2.start
  rw [List.getElem?_append_left (by simpa using h), List.getElem?_map]
  cases vs[i]? <;> rfl
theorem owns_app_un : ∀ (ρ : Sl) (n : Nat), owns (ρ ++ List.replicate n .un) = owns ρ
  | [], 0 => rfl
  | [], n + 1 => by show owns (.un :: List.replicate n .un) = _; exact owns_app_un [] n
  | .own a d :: r, n => by show a :: _ = a :: _; rw [← owns_app_un r n]; rfl
  | .un :: r, n => owns_app_un r n
  | .dat _ :: r, n => owns_app_un r n
/-- the names at a def's start -/
def ent (N : List Str) (args : Sl) : Sl := args ++ List.replicate (N.length - args.length) .un
theorem sim_start {K : PySem.W.Frag} {T : List TQ} {N : List Str} {args : Sl} {out : List Addr} {vs : List V} {H : Hp} (hA : Args K H (msk (out ++ owns args) H) args vs) (nd : (owns args).Nodup) (dj : ∀ a ∈ owns args, a ∉ out) (ho : ∀ a ∈ out, ∃ o, H a = some o ∧ mutb o = true) (ht : ∀ P ∈ T, TQs H P) :
    Sim K T ⟨out, owns args, H⟩ (ent N args) (L2.start N vs) H := by
  have ow : owns (ent N args) = owns args := owns_app_un _ _
  refine ⟨?_, fun i s e => ?_, by rw [ow]; exact nd, fun a z => dj a (by rw [← ow]; exact z), ho, Fx.refl _ _, fun a z => .inl (by rw [← ow]; exact z), ht, fun _ z => z⟩
  · unfold ent L2.start
    rw [List.length_append, List.length_append, List.length_map, List.length_replicate, List.length_replicate, hA.1]
  · show At K H (msk (out ++ owns (ent N args)) H) s _
    rw [ow]
    unfold ent at e
    by_cases q : i < args.length
    · rw [List.getElem?_append_left q] at e
      rw [start_get (by rw [← hA.1]; exact q)]
      exact hA.2 i s e
    · rw [List.getElem?_append_right (by omega), List.getElem?_replicate] at e
      split at e
      · cases e; trivial
      · cases e
section
variable {P : Program} {w : World} {K : PySem.W.Frag} {mg : Str → Option Value} {base : Heap} {x qual : Str} {st : Stmt} {f : Addr} {fd : FuncData} {N ps : List Str} {n : Nat} {T : List TQ}
/-- THE RULE for a def -/
theorem fn_d (F : Fun K x qual st f fd) (S : FnScope N ps (defScope st)) (R : Sl → D → Sl → Prop)
    (body : ∀ (cdv : Value) (A : Around) (outer : List Env) (s : Shared) (H : Hp) (E : XK) (B : Bs) (args : Sl) (d : D) (args' : Sl), Room n (A.deeper (envOfC qual (defScope st) s.heap.objs.size f cdv)) → args.length = ps.length → B.lent = owns args → Sh args args' → R args d args' →
      SXs (cxOf CX0 P w K mg base N qual (defScope st) f cdv A outer s H E).nox T B (ent N args) (defBody st) { nx := fun ρ => d = .none ∧ Back args' ρ, rt := fun d' ρ => d' = d ∧ Back args' ρ }) :
    FnOk P w K mg base CX0 (n + 1) f fd ps (PrD K T ps.length R) := by
  refine F.ok S (fun vs H Q E h => h.1) (fun cdv A outer s H vs Q E hr h => ?_)
  obtain ⟨hl, args, out, d, args', hA, nd, dj, ho, ht, sh, hR, q⟩ := h
  have hb := body cdv A outer s H E ⟨out, owns args, H⟩ args d args' hr (by rw [hA.1]; exact hl) rfl sh hR
  have fin : ∀ {ρ : Sl} {σ : L2.St} {v : V} {H' : Hp}, Sim K T ⟨out, owns args, H⟩ ρ σ H' → Back args' ρ → Rp K (msk ((⟨out, owns args, H⟩ : Bs).all ρ) H') v d → Q v H' := fun {ρ σ v H'} S' bk rp => by
    have sub : ∀ a ∈ out ++ owns args, a ∈ (⟨out, owns args, H⟩ : Bs).all ρ := fun a z => by
      rcases List.mem_append.mp z with z | z
      · exact List.mem_append_left _ z
      · rw [← sh.owns] at z
        obtain ⟨i, o, e⟩ := mem_owns.mp z
        exact List.mem_append_right _ (mem_owns.mpr ⟨i, o, bk i a o e⟩)
    exact q v H' S'.frame (fun a z => S'.dom a z) S'.tabs (fun i a o e => (S'.at_ i _ (bk i a o e)).2.mono (Kp.sub sub) fun _ _ z => z) (rp.mono (Kp.sub sub))
  refine ⟨_, hb, sim_start hA nd dj ho ht, fun ρ σ H' ⟨z, bk⟩ S' => fin S' bk (by rw [z]; exact .non), fun d' ρ σ v H' ⟨z, bk⟩ S' rp => fin S' bk (by rw [← z]; exact rp), fun _ _ _ z => z.elim, fun _ _ _ z => z.elim, fun _ _ _ _ _ _ z => z.elim⟩
/-- .. for one that hands back a new list -/
theorem fn_f (F : Fun K x qual st f fd) (S : FnScope N ps (defScope st)) (R : List D → List D → Prop)
    (body : ∀ (cdv : Value) (A : Around) (outer : List Env) (s : Shared) (H : Hp) (E : XK) (B : Bs) (args : List D) (ds : List D), Room n (A.deeper (envOfC qual (defScope st) s.heap.objs.size f cdv)) → args.length = ps.length → B.lent = [] → R args ds →
      SXs (cxOf CX0 P w K mg base N qual (defScope st) f cdv A outer s H E).nox T B (ent N (args.map .dat)) (defBody st) { nx := fun _ => False, rt := fun _ _ => False, rf := fun ds' _ => ds' = ds }) :
    FnOk P w K mg base CX0 (n + 1) f fd ps (PrF K T ps.length R) := by
  refine F.ok S (fun vs H Q E h => h.1) (fun cdv A outer s H vs Q E hr h => ?_)
  obtain ⟨hl, args, out, ds, hA, ho, ht, hR, q⟩ := h
  have o0 : owns (args.map Slot.dat) = [] := by
    clear hA hR
    induction args with
    | nil => rfl
    | cons a r ih => exact ih
  have hb := body cdv A outer s H E ⟨out, [], H⟩ args ds hr (by have := hA.1; rw [List.length_map] at this; rw [this]; exact hl) rfl hR
  have hA' : Args K H (msk (out ++ owns (args.map Slot.dat)) H) (args.map .dat) vs := by rw [o0, List.append_nil]; exact hA
  have S0 := sim_start (K := K) (T := T) (N := N) hA' (by rw [o0]; exact List.nodup_nil) (by rw [o0]; exact fun a z => by cases z) ho ht
  rw [o0] at S0
  refine ⟨_, hb, S0, fun _ _ _ z => z.elim, fun _ _ _ _ _ z => z.elim, fun _ _ _ z => z.elim, fun _ _ _ z => z.elim, fun ds' ρ σ p xs H' z h0 S' h1 h2 h3 => ?_⟩
  rw [← z] at q
  refine q p xs H' h0 S'.frame (fun a z => S'.dom a z) S'.tabs h1 (h3.mono (Kp.sub fun a z => ?_))
  rcases List.mem_cons.mp z with z | z
  · rw [z]; exact List.mem_cons_self
  · exact List.mem_cons_of_mem _ (List.mem_append_left _ z)
end

section
variable {X : Cx} {T : List TQ} {B : Bs} {ρ ρ1 ρ2 ρ3 : Sl} {W W1 W2 W3 : List Addr} {e a b c : Expr} {d d1 d2 d3 : D} {pos apos px : Pos} {k : DE} {st : Stmt} {r : List Stmt} {x : Str} {i n : Nat} {l : Addr}
variable {f : Addr} {fd : FuncData} {ps : List Str} {p : Pos} {es : List Expr} {kk : Nat}
theorem owns_dats : ∀ (ds : List D), owns (ds.map Slot.dat) = []
  | [] => rfl
  | _ :: r => owns_dats r
theorem args_dats {K : PySem.W.Frag} {H Hm : Hp} {vs : List V} {ds : List D} (r : RpA K Hm vs ds) : Args K H Hm (ds.map .dat) vs := by
  refine ⟨by rw [List.length_map, r.length], fun i s e => ?_⟩
  rw [List.getElem?_map] at e
  cases q : ds[i]? with
  | none => rw [q] at e; cases e
  | some d =>
    rw [q] at e
    cases e
    obtain ⟨v, h1, h2⟩ := r.getD q
    exact ⟨v, h1, h2⟩
/-- f(e, ..), data alone -/
theorem ex_call {R : Sl → D → Sl → Prop} {ds : List D} (F : FnOk X.prog X.w X.K X.mg X.base CX0 kk f fd ps (PrD X.K T n R)) (hr : Room kk X.A) (hg : Gl X x) (hm : X.mg x = some (.ref f)) (hk : PySem.W.keepIn X.K (.ref f) = true) (hb : Binds X.K fd ps [])
    (ha : AX X T B ρ (e :: es) W ρ1 ds) (hn : ds.length = n) (hR : R (ds.map .dat) d (ds.map .dat)) (hdb : (x == ("__debug__" : Str)) = false := by decide) (he : starEach (e :: es) X.env = (false, eval e X.env) :: starEach es X.env := by rfl) (hpl : (backTo pos (starEach es X.env)).any (·.1) = false := by rfl) :
    EX X T B ρ (.Call (.Name x p) (e :: es) [] pos) W ρ1 d := by
  refine ⟨PE.imp (pe_call F hr hg hm hk hb .nil pass0 ha.run hdb he hpl) fun σ H Q ⟨S, q⟩ => ⟨S, fun vs H1 S1 f1 r1 => ?_⟩, ha.own, ha.sub⟩
  show PrD X.K T n R (vs ++ []) H1 Q E0
  rw [List.append_nil]
  have o0 := owns_dats ds
  refine ⟨by rw [r1.length]; exact hn, ds.map .dat, B.all ρ1, d, ds.map .dat, ?_, by rw [o0]; exact List.nodup_nil, (by rw [o0]; exact fun a z => absurd z (by simp)), S1.held, S1.tabs, Sh.refl _, hR, fun v H' h1 h2 h3 _ h5 => ?_⟩
  · rw [o0, List.append_nil]; exact args_dats r1
  · rw [o0] at h1
    rw [o0, List.append_nil] at h5
    exact q v H' (S1.grow h1.kpN h3 h2) (f1.transN h1) h5
theorem eo_call {R : List D → List D → Prop} {ds out : List D} (F : FnOk X.prog X.w X.K X.mg X.base CX0 kk f fd ps (PrF X.K T n R)) (hr : Room kk X.A) (hg : Gl X x) (hm : X.mg x = some (.ref f)) (hk : PySem.W.keepIn X.K (.ref f) = true) (hb : Binds X.K fd ps [])
    (ha : AX X T B ρ (e :: es) W ρ1 ds) (hn : ds.length = n) (hR : R ds out) (hdb : (x == ("__debug__" : Str)) = false := by decide) (he : starEach (e :: es) X.env = (false, eval e X.env) :: starEach es X.env := by rfl) (hpl : (backTo pos (starEach es X.env)).any (·.1) = false := by rfl) :
    EO X T B ρ (.Call (.Name x p) (e :: es) [] pos) W ρ1 out := by
  refine ⟨PE.imp (pe_call F hr hg hm hk hb .nil pass0 ha.run hdb he hpl) fun σ H Q ⟨S, q⟩ => ⟨S, fun vs H1 S1 f1 r1 => ?_⟩, ha.own, ha.sub⟩
  show PrF X.K T n R (vs ++ []) H1 Q E0
  rw [List.append_nil]
  refine ⟨by rw [r1.length]; exact hn, ds, B.all ρ1, out, args_dats r1, S1.held, S1.tabs, hR, fun p xs H' h0 h1 h2 h3 h4 h5 => ?_⟩
  refine q p xs H' (free_H0 S1 h0) ?_ (f1.transN h1) h4 (S1.free h0) h5
  have S2 := S1.grow h1.kpN h3 h2
  have nf := S1.free h0
  refine ⟨S2.len, fun i s e => (S1.at_ i s e).mono (fun a o no z => ?_) fun a d _ o no z => h1 a o no (by simp) z, S2.nodup, fun a z y => ?_, fun a z => ?_, S2.frame, S2.fresh, S2.tabs, S2.dom⟩
  · obtain ⟨z1, z2⟩ := msk_some z
    rw [msk_out (fun y => ?_)]
    · exact h1 a o no (by simp) z2
    · rcases List.mem_cons.mp (show a ∈ p :: (B.out ++ owns ρ1) from y) with y | y
      · exact ne_of_none z2 h0 y
      · exact z1 y
  · rcases List.mem_cons.mp y with y | y
    · rw [y] at z; exact nf (List.mem_append_right _ z)
    · exact S2.disj a z y
  · rcases List.mem_cons.mp z with z | z
    · exact ⟨_, by rw [z]; exact h4, rfl⟩
    · exact S2.outs a z
theorem all_cut {O : List Addr} {l : Addr} (h : l ∈ O) : ∀ a, a ∈ (O.filter (fun a => decide (a ≠ l))) ++ [l] ↔ a ∈ O := fun a => by
  rw [List.mem_append, List.mem_filter]
  by_cases q : a = l
  · simp [q, h]
  · simp [q]
theorem msk_ext {O O' : List Addr} {H : Hp} (h : ∀ a, a ∈ O ↔ a ∈ O') : msk O H = msk O' H := by
  funext a
  unfold msk
  by_cases q : a ∈ O
  · rw [if_pos q, if_pos ((h a).mp q)]
  · rw [if_neg q, if_neg (fun z => q ((h a).mpr z))]
/-- f(draws, e, ..), the first one owned -/
theorem ex_callO {R : Sl → D → Sl → Prop} {ds : List D} {x1 : Str} {i1 : Nat} {o0 o1 o2 : D} {px1 : Pos} (F : FnOk X.prog X.w X.K X.mg X.base CX0 kk f fd ps (PrD X.K T n R)) (hr : Room kk X.A) (hg : Gl X x) (hm : X.mg x = some (.ref f)) (hk : PySem.W.keepIn X.K (.ref f) = true) (hb : Binds X.K fd ps [])
    (hN : X.N[i1]? = some x1) (hv : Vis X.env.scope x1) (h0 : ρ[i1]? = some (.own l o0)) (ha : AX X T B ρ es W ρ1 ds) (h1 : ρ1[i1]? = some (.own l o1)) (hn : ds.length + 1 = n) (hR : R (.own l o1 :: ds.map .dat) d (.own l o2 :: ds.map .dat)) (hdb : (x == ("__debug__" : Str)) = false := by decide) (hd : (x1 == ("__debug__" : Str)) = false := by decide) (hcd : (x1 == ("__classdict__" : Str)) = false := by decide)
    (he : starEach (.Name x1 px1 :: es) X.env = (false, eval (.Name x1 px1) X.env) :: starEach es X.env := by rfl) (hpl : (backTo pos (starEach es X.env)).any (·.1) = false := by rfl) :
    EX X T B ρ (.Call (.Name x p) (.Name x1 px1 :: es) [] pos) (W ++ [l]) (ρ1.set i1 (.own l o2)) d := by
  have ho : owns (ρ1.set i1 (.own l o2)) = owns ρ1 := owns_set_own h1
  have hlm : l ∈ owns ρ1 := mem_owns.mpr ⟨i1, _, h1⟩
  refine ⟨PE.imp (pe_call F hr hg hm hk hb .nil pass0 (pa_cons (pe_var hN hv hd hcd) ha.run he) hdb he hpl) fun σ H Q ⟨S, q⟩ => ?_, ho.trans ha.own, sub_app ha.sub ha.own fun z hz => ?_⟩
  · obtain ⟨q1, q2⟩ := S.at_ i1 _ h0
    refine ⟨.ref l, slot_of (K := X.K) (H := H) q1, S, fun vs H1 S1 f1 r1 => ?_⟩
    show PrD X.K T n R ((V.ref l :: vs) ++ []) H1 Q E0
    rw [List.append_nil]
    have oL : owns (Slot.own l o1 :: ds.map .dat) = [l] := by show l :: _ = _; rw [owns_dats]
    have hlall : l ∈ B.all ρ1 := List.mem_append_right _ hlm
    have em : ∀ H : Hp, msk ((B.all ρ1).filter (fun a => decide (a ≠ l)) ++ [l]) H = msk (B.all ρ1) H := fun H => msk_ext (all_cut hlall)
    refine ⟨by rw [List.length_cons, r1.length]; exact hn, Slot.own l o1 :: ds.map .dat, (B.all ρ1).filter (fun a => decide (a ≠ l)), d, Slot.own l o2 :: ds.map .dat, ?_, by rw [oL]; simp, by rw [oL]; simp, fun a z => S1.held a (List.mem_filter.mp z).1, S1.tabs, .own (Sh.refl _), hR, fun v H' g1 g2 g3 g4 g5 => ?_⟩
    · rw [oL, em]
      obtain ⟨A1, A2⟩ := args_dats (H := H1) r1
      refine ⟨by simp [r1.length], fun i s e => ?_⟩
      cases i with
      | zero =>
        cases (Option.some.inj e)
        exact ⟨rfl, (S1.at_ i1 _ h1).2⟩
      | succ i => exact A2 i s (by simpa using e)
    · rw [oL] at g1
      rw [oL, em] at g5
      have hold := g4 0 l o2 rfl
      rw [oL, em] at hold
      have kp : Kp (msk (B.all ρ1) H1) (msk (B.all ρ1) H') := g1.kp fun a z => by
        have : a = l := by simpa using z
        rw [this]; exact hlall
      refine q v H' ⟨by rw [List.length_set]; exact S1.len, fun j s e => ?_, by rw [ho]; exact S1.nodup, fun a z => S1.disj a (by rw [← ho]; exact z), fun a z => ?_, fun a o no w e => ?_, fun a z => S1.fresh a (by rw [← ho]; exact z), g3, fun a z => g2 a (S1.dom a z)⟩ (f1.trans g1) (by rw [all_of ho]; exact g5)
      · show At X.K H' (msk (B.all (ρ1.set i1 (.own l o2))) H') s _
        rw [all_of ho]
        by_cases qj : i1 = j
        · subst qj
          rw [List.getElem?_set_self (List.getElem?_eq_some_iff.mp h1).1] at e
          cases e
          exact ⟨(S1.at_ i1 _ h1).1, hold⟩
        · rw [List.getElem?_set_ne qj] at e
          refine (S1.at_ j s e).mono kp fun a e' es' ob nob z => g1 a ob nob (fun y => ?_) z
          subst es'
          have : a = l := by simpa using y
          subst this
          exact hold_data.own_twice h1 e qj S1.nodup
      · obtain ⟨o, e, no⟩ := S1.outs a z
        exact ⟨o, g1 a o (mutb_nt no) (fun y => by
          have : a = l := by simpa using y
          rw [this] at z; exact S1.disj l hlm z) e, no⟩
      · refine g1 a o no (fun y => ?_) (S1.frame a o no w e)
        have : a = l := by simpa using y
        subst this
        rcases S1.fresh a hlm with z | z
        · exact w z
        · rw [e] at z; cases z
  · have : z = l := by simpa using hz
    rw [this]; exact hlm
end
end Dv

set_option maxRecDepth 100000
namespace Dv
open PySem PySem.Spec PyProof.Rows L2
section
variable {X : Cx} {T : List TQ} {B : Bs} {ρ ρ1 ρ2 ρ3 : Sl} {W W1 W2 W3 : List Addr} {e a b c : Expr} {d d1 d2 d3 : D} {pos apos px : Pos} {k : DE} {r : List Stmt} {x : Str} {l : Addr}
/-- short: the name at slot i -/
theorem nm (i : Nat) (hs : ρ[i]? = some (.dat d) := by rfl) (hN : X.N[i]? = some x := by rfl) (hv : Vis X.env.scope x := by first | exact Or.inl rfl | exact Or.inr (Or.inl rfl) | exact Or.inr (Or.inr rfl)) (hd : (x == ("__debug__" : Str)) = false := by decide) (hcd : (x == ("__classdict__" : Str)) = false := by decide) :
    EX X T B ρ (.Name x pos) [] ρ d := ex_name hs hN hv hd hcd
theorem ol (i : Nat) {ds : List D} (hs : ρ[i]? = some (.own l (.list ds)) := by rfl) (hN : X.N[i]? = some x := by rfl) (hv : Vis X.env.scope x := by first | exact Or.inl rfl | exact Or.inr (Or.inl rfl) | exact Or.inr (Or.inr rfl)) (hd : (x == ("__debug__" : Str)) = false := by decide) (hcd : (x == ("__classdict__" : Str)) = false := by decide) :
    EL X T B ρ (.Name x pos) [] ρ ds := el_own hs hN hv hd hcd
theorem gn (i : Nat) {vs : List Nat} (hN : X.N.Nodup) (hi : X.N[i]? = some x := by rfl) (hx : Loc X.env.scope x := by first | exact Or.inl rfl | exact Or.inr rfl) (hl : i < ρ.length := by exact Nat.le_of_ble_eq_true rfl) (hv : i ∈ vs := by decide) (hf : X.fn x = true ∨ X.env.scope.names.lookup x = some .local := by first | exact .inl rfl | exact .inr rfl) :
    GX X T B ρ (.Name x pos) vs d (ρ.set i (.dat d)) := gx_name hN hi hx hl hv hf
theorem st (i : Nat) {pos' : Pos} (hN : X.N.Nodup) (he : EX X T B ρ e W ρ1 d) (hr : SXs X T B (ρ1.set i (.dat d)) r k) (hi : X.N[i]? = some x := by rfl) (hx : Loc X.env.scope x := by first | exact Or.inl rfl | exact Or.inr rfl) (hl : i < ρ1.length := by exact Nat.le_of_ble_eq_true rfl)
    (hs : swapsWith e (some (.Name x pos')) pos.line X.env = pure false := by rfl) (hf : X.fn x = true ∨ X.env.scope.names.lookup x = some .local := by first | exact .inl rfl | exact .inr rfl) : SXs X T B ρ (.Assign [.Name x pos'] e pos :: r) k := sx_set he hN hi hx hl hr hs hf
theorem stO (i : Nat) {pos' : Pos} {ds : List D} (hN : X.N.Nodup) (he : EO X T B ρ e W ρ1 ds) (hr : ∀ p, SXs X T B (ρ1.set i (.own p (.list ds))) r k) (hi : X.N[i]? = some x := by rfl) (hx : Loc X.env.scope x := by first | exact Or.inl rfl | exact Or.inr rfl) (hl : i < ρ1.length := by exact Nat.le_of_ble_eq_true rfl)
    (hs : swapsWith e (some (.Name x pos')) pos.line X.env = pure false := by rfl) (hf : X.fn x = true ∨ X.env.scope.names.lookup x = some .local := by first | exact .inl rfl | exact .inr rfl) : SXs X T B ρ (.Assign [.Name x pos'] e pos :: r) k := sx_setO he hN hi hx hl hr hs hf
theorem pop (i : Nat) {ds : List D} (h0 : ρ[i]? = some (.own l (.list (ds ++ [d])))) (hN : X.N[i]? = some x := by rfl) (hv : Vis X.env.scope x := by first | exact Or.inl rfl | exact Or.inr (Or.inl rfl) | exact Or.inr (Or.inr rfl))
    (hp : ∀ {to : TE}, PE X (.Name x px) to → PE X (.Call (.Attribute (.Name x px) "pop" apos) [] [] pos) (tBM0 X.K "list" rPop to) := by exact fun h => pe_bm0 PySem.F.plainAttrs_list PySem.F.slot_list_pop PySem.F.type_list_pop mt_pop h) (hd : (x == ("__debug__" : Str)) = false := by decide) (hcd : (x == ("__classdict__" : Str)) = false := by decide) :
    EX X T B ρ (.Call (.Attribute (.Name x px) "pop" apos) [] [] pos) [l] (ρ.set i (.own l (.list ds))) d := ex_pop hN hv h0 hp hd hcd
theorem app (i : Nat) {ds ds0 : List D} (h0 : ρ[i]? = some (.own l (.list ds0))) (ha : EX X T B ρ a W ρ1 d) (h1 : ρ1[i]? = some (.own l (.list ds))) (hl : ds.length < sizeLine) (hN : X.N[i]? = some x := by rfl) (hv : Vis X.env.scope x := by first | exact Or.inl rfl | exact Or.inr (Or.inl rfl) | exact Or.inr (Or.inr rfl))
    (hp : ∀ {to : TE} {t : TA}, PE X (.Name x px) to → PA X [a] t → PE X (.Call (.Attribute (.Name x px) "append" apos) [a] [] pos) (tBM X.K "list" rAppend to t) := by exact fun h g => pe_bm PySem.F.plainAttrs_list PySem.F.slot_list_append PySem.F.type_list_append mt_append h g) (hd : (x == ("__debug__" : Str)) = false := by decide) (hcd : (x == ("__classdict__" : Str)) = false := by decide)
    (he : starEach [a] X.env = (false, eval a X.env) :: starEach [] X.env := by rfl) :
    EX X T B ρ (.Call (.Attribute (.Name x px) "append" apos) [a] [] pos) (W ++ [l]) (ρ1.set i (.own l (.list (ds ++ [d])))) .none := ex_append hN hv h0 ha h1 hl hp hd hcd he ⟨_, rfl⟩
end
end Dv

set_option maxRecDepth 100000
set_option maxHeartbeats 2000000
namespace Dv
open PySem PySem.Spec PyProof.Rows L2
section
variable {prog : Program} {w : World} {A : Around} {E : Value → Shared → Prop} {s : Shared}
theorem rev_extend {R : Result → Shared → Prop} {it l S : Addr} {items : Array Value} (hh : A.handled = none) (hit : s.heap.IsRevIter it l ((items.size : Int) - 1)) (hl : s.heap.IsList l items) (hne : l ≠ it) (hn : items.size ≤ sizeLine) (hSi : S ≠ it) (hSl : S ≠ l) (res : Value) (c₀ : Nat) (hS : s.heap.get? S = some { cls := .type "list", data := .seq #[] c₀ })
    (hR : ∀ h' tk acc' c', (∀ b o, b ≠ S → b ≠ it → s.heap.get? b = some o → h'.get? b = some o) → h'.get? S = some { cls := .type "list", dict := none, data := .seq acc' c', slots := #[] } → ItemsOf (fun i v => items[items.size - 1 - i]? = some v) acc' items.size → R (.ok (.ret res)) { s with heap := h', toks := tk }) :
    wpAny (model prog w) A.in1 (Builtin.List.listExtendWith (.ref S) (.ref it) res)
      (fun fin s' => match fin with | .done f => R (.ok f) s' | .again c' => c'.quiet = true ∧ codeAny (model prog w) A c' R s') (fun e s' => R (.error e) s') s := by
  have W := (Walks.listRev (prog := prog) (w := w) (A := A.in1) hh it l hne items).toS
  have hSf : S ∉ [it, l] := by simp only [List.mem_cons, List.not_mem_nil, or_false, not_or]; exact ⟨hSi, hSl⟩
  have hT : s.TypeIs (.ref it) "list_reverseiterator" := hit.typeIs
  have h1 : Builtin.List.listSameRef (.ref S) (.ref it) = false := by simp [Builtin.List.listSameRef, hSi]
  unfold Builtin.List.listExtendWith
  refine wpAny_bind (wpAny_typeOf hT ?_)
  rw [if_neg (by rw [h1]; decide)]
  refine wpAny_bind (wpAny_pyIter_revIter hit ?_)
  refine wpAny_bind (wpAny_holding ?_)
  unfold Builtin.List.listLengthHint
  refine wpAny_bind (wpAny_specialOf hT RT.nolen_lri ?_)
  show wpAny _ A.in1 (specialOf (Value.ref it) (Str.ofString "__length_hint__") >>= _) _ _ _
  refine wpAny_bind (wpAny_specialOf hT RT.hint_lri ?_)
  generalize hid : ("list_reverseiterator.__length_hint__" : String) = id0
  wp_delta
  rw [show splitId id0 = some ("list_reverseiterator", "__length_hint__") from by subst hid; decide +kernel]
  subst hid
  refine wpAny_bind (wpAny_isInstance (b := true) hT (by rw [isSubtype_type]; kernel_rfl) ?_)
  refine wpAny_pure ?_
  rw [if_neg (by decide)]
  have e0 : ((items.size : Nat) : Int) - 1 - ((0 : Nat) : Int) = (items.size : Int) - 1 := by omega
  refine wpAny_pure ⟨plainId_quiet F.plain_extend_loop _, codeAny_extend_loopS W hn _ hSf _ items.size 0 _ _ _ rfl (Nat.zero_le _) ⟨Nat.zero_le _, by rw [e0]; exact hit, hl⟩ hS (ItemsOf.nil _) fun s' acc' c' hm hS' hacc => ?_⟩
  rw [Moved.eq_with hm]
  refine hR s'.heap s'.toks acc' c' (fun b o hb hb2 e => hm.heap b o (fun hmem => ?_) e) hS' hacc
  rcases List.mem_cons.mp hmem with e' | hmem
  · exact hb e'
  · exact hb2 (List.mem_singleton.mp hmem)
theorem call_list_rev {Q : Value → Shared → Prop} {it l : Addr} {items : Array Value} (hh : A.handled = none) (hit : s.heap.IsRevIter it l ((items.size : Int) - 1)) (hl : s.heap.IsList l items) (hne : l ≠ it) (hn : items.size ≤ sizeLine)
    (hQ : ∀ h' tk acc' c', (∀ b o, b ≠ it → s.heap.get? b = some o → h'.get? b = some o) → h'.get? s.heap.objs.size = some { cls := .type "list", dict := none, data := .seq acc' c', slots := #[] } → ItemsOf (fun i v => items[items.size - 1 - i]? = some v) acc' items.size → Q (.ref s.heap.objs.size) { s with heap := h', toks := tk }) :
    wpAny (model prog w) A (call (.type "list") [.ref it]) Q E s := by
  refine callType_codes (Q₁ := fun obj s₁ => obj = .ref s.heap.objs.size ∧ s₁ = { s with heap := s.heap.push { cls := .type "list", data := .seq #[] } }) PySem.F.called_list (PySem.F.typeCall_list_1 _) PySem.F.entry_list_init
    (code_list_new _ ⟨rfl, rfl⟩) fun obj s₁ h₁ => ?_
  obtain ⟨rfl, rfl⟩ := h₁
  have hS : (s.heap.push { cls := .type "list", data := .seq #[] }).get? s.heap.objs.size = some { cls := .type "list", data := .seq #[] } := Heap.get?_push_size _ rfl
  obtain ⟨oi, hoi, _⟩ := id hit
  obtain ⟨ol, hol, _⟩ := id hl
  have hSi : s.heap.objs.size ≠ it := Nat.ne_of_gt (Heap.lt_size hoi)
  have hSl : s.heap.objs.size ≠ l := Nat.ne_of_gt (Heap.lt_size hol)
  refine ⟨⟨_, hS, rfl⟩, PySem.F.args_list_init_2 _ _, ?_⟩
  show wpAny _ _ (do let old ← Builtin.List.listItems (.ref s.heap.objs.size); Builtin.List.listUpdate (.ref s.heap.objs.size) (fun _ => #[]); letGo old.toList.reverse; Builtin.List.listExtendWith (.ref s.heap.objs.size) (.ref it) .none) _ _ _
  refine wpAny_bind ?_
  unfold Builtin.List.listItems
  refine wpAny_bind (wpAny_seqItems hS rfl (wpAny_pure ?_))
  show wpAny _ _ (updateSeq s.heap.objs.size (fun _ => #[]) >>= fun _ => letGo (#[] : Array Value).toList.reverse >>= fun _ => Builtin.List.listExtendWith (.ref s.heap.objs.size) (.ref it) .none) _ _ _
  refine wpAny_bind (wpAny_updateSeq hS rfl ?_)
  have hS₂ := Heap.get?_update_self (Obj.mapSeq (fun _ => (#[] : Array Value))) hS rfl
  have oth : ∀ b o, b ≠ s.heap.objs.size → (s.heap.push { cls := .type "list", data := .seq #[] }).get? b = some o → ((s.heap.push { cls := .type "list", data := .seq #[] }).update s.heap.objs.size (Obj.mapSeq (fun _ => (#[] : Array Value)))).get? b = some o :=
    fun b o hb e => (Heap.get?_update_other _ _ (Ne.symm hb)).trans e
  have k0 : ∀ b o, s.heap.get? b = some o → ((s.heap.push { cls := .type "list", data := .seq #[] }).update s.heap.objs.size (Obj.mapSeq (fun _ => (#[] : Array Value)))).get? b = some o := fun b o e => oth b o (Nat.ne_of_lt (Heap.lt_size e)) (Heap.get?_push_of_some _ e)
  refine wpAny_bind (wpAny_letGo ?_)
  refine rev_extend (A := A.in1) hh (hit.at fun o e => k0 _ o e) (hl.at fun o e => k0 _ o e) hne hn hSi hSl .none _ hS₂ fun h' tk acc' c' hk hS' hacc => ?_
  exact ⟨rfl, hQ h' tk acc' c' (fun b o hb e => hk b o (Nat.ne_of_lt (Heap.lt_size e)) hb (k0 b o e)) hS' hacc⟩
end
section
variable {X : Cx}
def tLstRev (K : PySem.W.Frag) (te : TE) : TE := fun σ H Q => te σ H fun v H1 => ∃ (a : Addr) (xs : List V), v = .ref a ∧ SqL K H1 a xs ∧ ∀ q, H1 q = none → Q (.ref q) (upd H1 q (.lst xs.reverse))
theorem pe_lstRev {e : Expr} {te : TE} {p p2 pos pos2 : Pos} (hc : X.calm = true) (hg : Gl X "list") (hm : X.mg "list" = none) (hg2 : Gl X "reversed") (hm2 : X.mg "reversed" = none) (he : PE X e te)
    (hs : starEach [e] X.env = (false, eval e X.env) :: starEach [] X.env := by rfl)
    (hs2 : starEach [.Call (.Name "reversed" p2) [e] [] pos2] X.env = (false, eval (.Call (.Name "reversed" p2) [e] [] pos2) X.env) :: starEach [] X.env := by rfl) :
    PE X (.Call (.Name "list" p) [.Call (.Name "reversed" p2) [e] [] pos2] [] pos) (tLstRev X.K te) := by
  refine ⟨fun pins s σ H Q I h => ?_⟩
  refine Call_ (ld_blt I hg hm boot_list (PyProof.Rows.callWith_type1 (args_cons (Call_ (ld_blt I hg2 hm2 PyProof.Rows.boot_reversed (PyProof.Rows.callWith_type1 (args_cons (thn (he.run pins s σ H _ I h) fun u s1 ⟨v, H1, I1, r1, q1⟩ => args_nil ?_) hs) hs rfl))) hs2) hs2 rfl))
  obtain ⟨a, xs, ev, hq, q⟩ := q1
  subst ev
  obtain rfl : u = Value.ref a := r1
  obtain ⟨its, rv, p', hz⟩ := I1.list hq
  refine call_reversed_list p'.isList (args_nil ?_)
  have k0 : ∀ b o, s1.heap.get? b = some o → (s1.heap.push (revObj a ((its.toArray.size : Int) - 1))).get? b = some o := fun b o e => Heap.get?_push_of_some _ e
  have I2 : Inv X pins σ H1 { s1 with heap := s1.heap.push (revObj a ((its.toArray.size : Int) - 1)) } := I1.kept (t' := s1.toks) k0
  obtain ⟨f0, f1, f2, f3, f4, f5⟩ := I1.fpOk (H' := H1) (b := s1.heap.objs.size) (Nat.le_refl _) (I1.hok.fresh (Nat.le_refl _))
  have hl := p'.isList
  obtain ⟨ol, hol, _⟩ := id hl
  have hne : a ≠ s1.heap.objs.size := Nat.ne_of_lt (Heap.lt_size hol)
  have hn : its.toArray.size ≤ sizeLine := by rw [List.size_toArray, ← rv.length]; exact hz
  refine call_list_rev (s := { s1 with heap := s1.heap.push (revObj a ((its.toArray.size : Int) - 1)) }) (I1.ok.hd hc) ⟨_, Heap.get?_push_size _ rfl, rfl, rfl⟩ (hl.push _) hne hn fun h' tk acc c' hk hS hi => ?_
  generalize hp : (s1.heap.push (revObj a ((its.toArray.size : Int) - 1))).objs.size = L at hS ⊢
  have hLs : s1.heap.objs.size < L := by rw [← hp, Heap.size_push]; exact Nat.lt_succ_self _
  have k1 : ∀ b o, b ≠ s1.heap.objs.size → s1.heap.get? b = some o → h'.get? b = some o := fun b o hb e => hk b o hb (k0 b o e)
  have hL1 : H1 L = none := I2.hok.fresh (by rw [← hp]; exact Nat.le_refl _)
  refine ⟨.ref L, upd H1 L (.lst xs.reverse), I1.laid (t' := tk) (fun b o e => k1 b o (Nat.ne_of_lt (Heap.lt_size e)) e) (Nat.le_of_lt hLs) (show ObjOk X.prog X.w _ _ _ (.lst xs.reverse) from ⟨by rw [List.length_reverse]; exact hz, acc.toList, c', RT.vals_rev rv hi, ?_⟩), rfl, q _ hL1⟩
  rw [Array.toArray_toList]
  exact hS
variable {T : List TQ} {B : Bs} {ρ ρ1 : Sl} {W : List Addr} {a : Expr} {p p2 pos pos2 : Pos} {ds : List D}
theorem eo_listRev (hc : X.calm = true) (hg : Gl X "list") (hm : X.mg "list" = none) (hg2 : Gl X "reversed") (hm2 : X.mg "reversed" = none) (ha : EL X T B ρ a W ρ1 ds)
    (hs : starEach [a] X.env = (false, eval a X.env) :: starEach [] X.env := by rfl)
    (hs2 : starEach [.Call (.Name "reversed" p2) [a] [] pos2] X.env = (false, eval (.Call (.Name "reversed" p2) [a] [] pos2) X.env) :: starEach [] X.env := by rfl) :
    EO X T B ρ (.Call (.Name "list" p) [.Call (.Name "reversed" p2) [a] [] pos2] [] pos) W ρ1 ds.reverse :=
  ⟨PE.imp (pe_lstRev hc hg hm hg2 hm2 ha.run hs hs2) fun σ H Q ⟨S, q⟩ => ⟨S, fun l xs H1 S1 f1 r1 r2 => ⟨l, xs, rfl, r1, fun p np => q p xs.reverse _ (free_H0 S1 np) (sim_add S1 np rfl) (f1.transN (Fx.new np)) upd_same (S1.free np) (r2.reverse.mono fun b o _ e => by
    obtain ⟨z1, z2⟩ := msk_some e
    have ne := ne_of_none z2 np
    rw [msk_out (fun y => by
      rcases List.mem_cons.mp y with y | y
      · exact ne y
      · exact z1 y), upd_ne ne]
    exact z2)⟩⟩, ha.own, ha.sub⟩
end
end Dv

set_option maxRecDepth 100000
set_option maxHeartbeats 2000000
namespace Dv
open PySem PySem.Spec PyProof.Rows L2
/-! ### lists put together -/
def rCatS (K : PySem.W.Frag) : L2.R2 := fun x y H Q => ∃ l b xs zs, x = .ref l ∧ y = .ref b ∧ SqL K H l xs ∧ SqL K H b zs ∧ xs.length + zs.length ≤ sizeLine ∧ ∀ p, H p = none → Q (.ref p) (upd H p (.lst (xs ++ zs)))
theorem op_catS {X : Cx} : OpR X (binaryOp .Add) (rCatS X.K) := by
  intro pins s σ H x y v u Q I rx ry h
  obtain ⟨l, b, xs, zs, rfl, rfl, hH, hB, hz, q⟩ := h
  cases rx
  cases ry
  obtain ⟨its, r, hl, z⟩ := I.list hH
  obtain ⟨its2, r2, hl2, z2⟩ := I.list hB
  obtain ⟨⟨cls, dd, data, sl⟩, n, ho, hc, hdd, hd⟩ := hl
  obtain ⟨⟨cls2, dd2, data2, sl2⟩, n2, ho2, hc2, hdd2, hd2⟩ := hl2
  simp only at hc hd hc2 hd2
  subst hc hd hc2 hd2
  have l1 := r.length
  have l2 := r2.length
  have e : its.toArray ++ its2.toArray = (its ++ its2).toArray := by simp
  refine concat_meets ⟨_, ho, rfl⟩ ⟨_, ho2, rfl⟩ noFill_list_add seq_list_add PySem.F.slot_list_add PySem.F.entry_list_add (PySem.F.args_list_add_2 _ _) (list_addW l b its.toArray its2.toArray n n2 dd dd2 sl sl2 (by simp only [List.size_toArray]; omega)) ⟨ho, ho2, ?_⟩
  rw [e]
  exact ⟨.ref _, _, I.lnew (t' := s.toks) (r.append r2) (by rw [List.length_append]; omega), rfl, q _ I.fresh⟩
section
variable {X : Cx} {T : List TQ} {B : Bs} {ρ ρ1 ρ2 ρ3 : Sl} {W W1 W2 W3 : List Addr} {e a b c : Expr} {d d1 d2 d3 : D} {pos apos px : Pos} {k : DE} {r : List Stmt} {x : Str} {l : Addr} {p : Pos}
theorem msk_more {H : Hp} {p : Addr} {o : HO} {O : List Addr} (np : H p = none) : Kp (msk O H) (msk (p :: O) (upd H p o)) := fun b u _ e => by
  obtain ⟨z1, z2⟩ := msk_some e
  have ne := ne_of_none z2 np
  rw [msk_out (fun y => by
    rcases List.mem_cons.mp y with y | y
    · exact ne y
    · exact z1 y), upd_ne ne]
  exact z2
/-- xs + ys, data -/
theorem eo_cat {xs ys : List D} (ha : EX X T B ρ a W1 ρ1 (.list xs)) (hb : EX X T B ρ1 b W2 ρ2 (.list ys)) (hl : xs.length + ys.length ≤ sizeLine) : EO X T B ρ (.BinOp a .Add b pos) (W1 ++ W2) ρ2 (xs ++ ys) := by
  refine ⟨PE.imp (pe_op op_catS ha.run hb.run) fun σ H Q ⟨S, q⟩ => ⟨S, fun x H1 S1 f1 r1 => ⟨S1, fun y H2 S2 f2 r2 => ?_⟩⟩, hb.own.trans ha.own, sub_app ha.sub ha.own hb.sub⟩
  have r1' := carry hb f2 r1
  cases r1' with
  | lst h1 h2 =>
    cases r2 with
    | lst g1 g2 =>
      exact ⟨_, _, _, _, rfl, rfl, (Kp.ofmsk _ _).sqL h1, (Kp.ofmsk _ _).sqL g1, by rw [h2.length, g2.length]; exact hl, fun p np => q p _ _ (free_H0 S2 np) (sim_add S2 np rfl) ((f1.trans f2).transN (Fx.new np)) upd_same (S2.free np) ((h2.append g2).mono (msk_more np))⟩
/-- a slice of a list -/
theorem po_to {i : Int} (h : EX X T B ρ a W ρ1 (.int i)) : PO X (some a) (fun σ H Q => Sim X.K T B ρ σ H ∧ ∀ H', Sim X.K T B ρ1 σ H' → Fx W H H' → Q (some i) H') :=
  ⟨fun pins s σ H Q I ⟨S, q⟩ => (po_some h.run).run pins s σ H Q I ⟨S, fun v H' S' f r => ⟨i, int_of r, q H' S' f⟩⟩⟩
theorem sixl {n d : Nat} (hd : d ≤ n) (o : Option Int) : HT.sIx n d o ≤ n := HT.sIx_le n d hd o
theorem cutV_len {xs : List V} {ds : List D} {K : PySem.W.Frag} {H : Hp} (r : RpA K H xs ds) (lo hi : Option Int) : RpA K H (cutV xs lo hi) ((ds.drop (HT.sIx ds.length 0 lo)).take (HT.sIx ds.length ds.length hi - HT.sIx ds.length 0 lo)) := by
  unfold cutV
  rw [r.length]
  exact (r.drop _).take _
/-- xs[:i] -/
theorem ex_sliceTo {ds : List D} {n : Nat} {p2 : Pos} (ha : EX X T B ρ a W1 ρ1 (.list ds)) (hb : EX X T B ρ1 b W2 ρ2 (.int (n : Int))) : EX X T B ρ (.Subscript a (.Slice none (some b) none p2) pos) (W1 ++ W2) ρ2 (.list (ds.take n)) := by
  refine ⟨PE.imp (pe_slice sl_list ha.run po_none (po_to hb)) fun σ H Q ⟨S, q⟩ => ⟨S, fun x H1 S1 f1 r1 => ⟨S1, fun H2 S2 f2 => ?_⟩⟩, hb.own.trans ha.own, sub_app ha.sub ha.own hb.sub⟩
  have r1' := carry hb f2 r1
  cases r1' with
  | lst h1 h2 =>
    rename_i a' xs'
    refine ⟨_, _, rfl, (Kp.ofmsk _ _).sqL h1, fun p np => q _ _ (S2.new np) ((f1.trans f2).transN (Fx.new np)) (.lst (SqL.of (msk_new S2 np)) ?_)⟩
    have z := (cutV_len h2 none (some (n : Int))).mono (kp_new (o := .lst (cutV xs' none (some (n : Int)))) np)
    have e : ((ds.drop (HT.sIx ds.length 0 none)).take (HT.sIx ds.length ds.length (some (n : Int)) - HT.sIx ds.length 0 none)) = ds.take n := by
      rw [HT.sIx_none, HT.sIx_nat, List.drop_zero, Nat.sub_zero]
      by_cases q : n ≤ ds.length
      · rw [Nat.min_eq_left q]
      · rw [Nat.min_eq_right (by omega), List.take_length, List.take_of_length_le (by omega)]
    rw [e] at z
    exact z

theorem Call2.run {f : Expr} {rr : List V → Hp → VK → Prop} {t : TA} (h : Call2 X f a b pos rr) (q : PA X [a, b] t) : PE X (.Call f [a, b] [] pos) (tCB rr t) := h t q
/-! ### isinstance -/
theorem ex_isBool {i : Bool} {px : Pos} (hg : Gl X "isinstance") (hm : X.mg "isinstance" = none) (hg2 : Gl X "bool") (hm2 : X.mg "bool" = none) (ha : EX X T B ρ a W ρ1 (.bool i))
    (he : starEach [a, .Name "bool" px] X.env = (false, eval a X.env) :: starEach [.Name "bool" px] X.env := by rfl) (he2 : starEach [.Name "bool" px] X.env = (false, eval (.Name "bool" px) X.env) :: starEach [] X.env := by rfl) (hpl : (backTo pos (starEach [.Name "bool" px] X.env)).any (·.1) = false := by rfl) :
    EX X T B ρ (.Call (.Name "isinstance" p) [a, .Name "bool" px] [] pos) W ρ1 (.bool true) := by
  refine ⟨PE.imp (Call2.run (c2b (p := p) call_isi hg hm (by decide +kernel) (he := he) (hpl := hpl)) (pa_cons ha.run (pa_cons (pe_bltn (v := .ty "bool") (u := .type "bool") hg2 hm2 (by decide +kernel) rfl) pa_nil he2) he)) fun σ H Q ⟨S, q⟩ => ⟨S, fun x H1 S1 f1 r1 => ?_⟩, ha.own, ha.sub⟩
  rw [bl_of r1]
  refine ⟨.bl i, .ty "bool", .type "bool", .type "bool", true, rfl, ?_, ?_, kit_ty (by decide +kernel), q _ H1 S1 f1 (.bl _)⟩
  · exact .ty _
  · exact .base (by constructor)

/-! ### gcd -/
theorem ex_gcd {i j : Int} (hg : Gl X x) (hm : X.mg x = some (.builtin "math.gcd")) (ha : EX X T B ρ a W1 ρ1 (.int i)) (hb : EX X T B ρ1 b W2 ρ2 (.int j)) (hdb : (x == ("__debug__" : Str)) = false := by decide)
    (he : starEach [a, b] X.env = (false, eval a X.env) :: starEach [b] X.env := by rfl) (he2 : starEach [b] X.env = (false, eval b X.env) :: starEach [] X.env := by rfl) (hpl : (backTo pos (starEach [b] X.env)).any (·.1) = false := by rfl) :
    EX X T B ρ (.Call (.Name x p) [a, b] [] pos) (W1 ++ W2) ρ2 (.int ((Nat.gcd i.natAbs j.natAbs : Nat) : Int)) :=
  ex_call2 (fun t h => pe_callBfun cr_gcd hg hm h hdb he hpl) ha hb (v := .int ((Nat.gcd i.natAbs j.natAbs : Nat) : Int)) (fun x y H Q r1 r2 q => ⟨i, j, by rw [int_of r1, int_of r2], q⟩) (fun _ => .int _) he he2

/-! ### zip -/
def zipD : List D → List D → List D
  | a :: as, b :: bs => .tuple [a, b] :: zipD as bs
  | _, _ => []
theorem zipD_get : ∀ {as bs : List D} {i : Nat}, i < (zipD as bs).length → ∃ x y, as[i]? = some x ∧ bs[i]? = some y ∧ (zipD as bs)[i]? = some (.tuple [x, y])
  | a :: as, b :: bs, 0, _ => ⟨a, b, rfl, rfl, rfl⟩
  | a :: as, b :: bs, i + 1, h => zipD_get (as := as) (bs := bs) (i := i) (by simpa [zipD] using h)
  | [], bs, i, h => by simp [zipD] at h
  | a :: as, [], i, h => by simp [zipD] at h
theorem zipD_len : ∀ {as bs : List D} {i : Nat}, (zipD as bs).length ≤ i → as.length ≤ i ∨ bs.length ≤ i
  | a :: as, b :: bs, i, h => by
    have h' : (zipD as bs).length + 1 ≤ i := h
    cases i with
    | zero => omega
    | succ i =>
      rcases zipD_len (as := as) (bs := bs) (i := i) (by omega) with z | z
      · exact .inl (by simpa using z)
      · exact .inr (by simpa using z)
  | [], bs, i, h => .inl (Nat.zero_le _)
  | a :: as, [], i, h => .inr (Nat.zero_le _)
theorem walked_zipT {K : PySem.W.Frag} {O : List Addr} {H : Hp} {as bs : List D} {p q : Addr} {xs ys : List V} (h : Tt (msk O H) p xs) (r : RpA K (msk O H) xs as) (h2 : Tt (msk O H) q ys) (r2 : RpA K (msk O H) ys bs) : Walked K O (zipD as bs) (RZ.ItzT K p q) H := by
  refine ⟨fun i O' H' k hi => ?_, fun i O' H' k hi => ?_, fun i O' H' v H2 k hO hi y => ?_⟩
  · obtain ⟨x, y, e1, e2, _⟩ := zipD_get hi
    obtain ⟨v, f1, _⟩ := r.getD e1
    obtain ⟨w, g1, _⟩ := r2.getD e2
    exact ⟨xs, ys, v, w, (Kp.ofmsk _ _).sqT (k.tt h), (Kp.ofmsk _ _).sqT (k.tt h2), f1, g1⟩
  · exact ⟨xs, ys, (Kp.ofmsk _ _).sqT (k.tt h), (Kp.ofmsk _ _).sqT (k.tt h2), by
      rcases zipD_len hi with z | z
      · exact .inl (by rw [r.length]; exact z)
      · exact .inr (by rw [r2.length]; exact z)⟩
  · obtain ⟨T', v1, v2, rfl, hT, rfl, f1, f2⟩ := y
    obtain ⟨x, y, e1, e2, e3⟩ := zipD_get hi
    have g1 := f1 xs ((Kp.ofmsk _ _).sqT (k.tt h))
    have g2 := f2 ys ((Kp.ofmsk _ _).sqT (k.tt h2))
    obtain ⟨d1, k1, k2⟩ := r.get g1
    obtain ⟨d2, k3, k4⟩ := r2.get g2
    rw [e1] at k1; cases k1
    rw [e2] at k3; cases k3
    have nO : T' ∉ O' := fun z => by
      obtain ⟨o, e, _⟩ := hO T' z
      rw [hT] at e; cases e
    refine ⟨.inr ⟨T', [v1, v2], hT, rfl⟩, _, e3, .tup (by show msk _ _ _ = _; rw [msk_out nO, upd_same]) (.cons ((k2.mono k).mono (kp_new hT)) (.cons ((k4.mono k).mono (kp_new hT)) .nil))⟩
theorem ix_zipT {as bs : List D} {elts : List Expr} {kk : Nat} {tpos : Pos} (hg : Gl X "zip") (hm : X.mg "zip" = none) (ha : EX X T B ρ a W1 ρ1 (.tuple as)) (hb : EX X T B ρ1 b W2 ρ2 (.tuple bs))
    (he : starEach [a, b] X.env = (false, eval a X.env) :: starEach [b] X.env := by rfl) (he2 : starEach [b] X.env = (false, eval b X.env) :: starEach [] X.env := by rfl) (hpl : (backTo pos (starEach [b] X.env)).any (·.1) = false := by rfl) :
    IX X T B ρ (.Tuple elts kk tpos) (.Call (.Name "zip" p) [a, b] [] pos) (W1 ++ W2) ρ2 (zipD as bs) := by
  refine ⟨⟨_, RZ.pi_zipA hg hm (pa_cons ha.run (pa_cons hb.run pa_nil he2) he) he hpl, fun σ H R S q => ⟨S, fun v H1 S1 f1 r1 => ⟨S1, fun w H2 S2 f2 r2 => ?_⟩⟩⟩, hb.own.trans ha.own, sub_app ha.sub ha.own hb.sub⟩
  have r1' := carry hb f2 r1
  cases r1' with
  | tup h1 h2 =>
    cases r2 with
    | tup g1 g2 => exact ⟨_, _, _, _, rfl, .inr ⟨(Kp.ofmsk _ _).sqT h1, (Kp.ofmsk _ _).sqT g1, q _ H2 S2 (f1.trans f2) (walked_zipT h1 h2 g1 g2)⟩⟩

/-! ### sorted texts -/
theorem ex_sortedS {ns ys : List Str} (hg : Gl X "sorted") (hm : X.mg "sorted" = none) (ha : EL X T B ρ a W ρ1 (ns.map .str)) (h64 : ns.length < 64) (hy : ∀ zs : List Str, zs.Perm ns → sortedS zs = true → zs = ys) (he : starEach [a] X.env = (false, eval a X.env) :: starEach [] X.env := by rfl) :
    EX X T B ρ (.Call (.Name "sorted" p) [a] [] pos) W ρ1 (.list (ys.map .str)) :=
  ⟨PE.imp (Call1.run (c1b (p := p) cr_sortedS hg hm (by decide +kernel) (he := he)) (pa_cons ha.run pa_nil he)) fun σ H Q ⟨S, q⟩ => ⟨S, fun l xs H' S' f r1 r2 => ⟨l, ns, rfl, by rw [← r2.strs]; exact r1, h64, fun zs p h1 h2 np => by
    rw [hy zs h1 h2]
    exact q _ _ (S'.new np) (f.transN (Fx.new np)) (.lst (SqL.of (msk_new S' np)) (RpA.of_strs _))⟩⟩, ha.own, ha.sub⟩

/-! ### dicts with text keys -/
def kvD (kvs : List (Str × D)) : List (D × D) := kvs.map fun q => (.str q.1, q.2)
theorem rpK_of {K : PySem.W.Frag} {H : Hp} : ∀ {kvs : List (Key × V)} {ds : List (Str × D)}, RpK K H kvs (kvD ds) → ∃ vs : List V, kvs = (ds.map (fun q => Sum.inr q.1)).zip vs ∧ vs.length = ds.length ∧ RpA K H vs (ds.map (·.2))
  | _, [], .nil => ⟨[], rfl, rfl, .nil⟩
  | _, (x, d) :: ds, h => by
    have h' : RpK K H _ ((.str x, d) :: kvD ds) := h
    generalize hk : (D.str x, d) :: kvD ds = L at h'
    cases h' with
    | nil => cases hk
    | cons h1 h2 =>
      rename_i k v vs d' ds'
      have e1 := (List.cons.inj hk).1
      have e2 := (List.cons.inj hk).2
      subst e2
      have ek : kD k = .str x := (congrArg Prod.fst e1).symm
      have ed : d' = d := (congrArg Prod.snd e1).symm
      subst ed
      have kx : k = Sum.inr x := by
        cases k with
        | inl i => cases ek
        | inr y => exact congrArg Sum.inr (D.str.inj ek)
      subst kx
      obtain ⟨ws, q1, q2, q3⟩ := rpK_of h2
      exact ⟨v :: ws, by rw [q1]; rfl, by simp [q2], .cons h1 q3⟩
theorem noT {K : PySem.W.Frag} {H : Hp} {kk : List (List Key × V)} {dd : List (D × D)} {kvs : List (Str × D)} (hn : dd ≠ []) (e : dd = kvD kvs) : ¬ RpT K H kk (kvD kvs) := fun h => by
  cases kvs with
  | nil => exact hn e
  | cons q r =>
    have h' : RpT K H kk ((.str q.1, q.2) :: kvD r) := h
    cases h'
/-- the value at a key -/
def lookD (kvs : List (Str × D)) (x : Str) : Option D := (kvs.find? fun q => decide (q.1 = x)).map (·.2)
theorem rpK_val {K : PySem.W.Frag} {H : Hp} {x : Str} {d : D} : ∀ {kvs : List (Key × V)} {ds : List (Str × D)}, RpK K H kvs (kvD ds) → lookD ds x = some d → ∃ v, valV kvs (Sum.inr x) = some v ∧ Rp K H v d := by
  intro kvs ds h hl
  obtain ⟨vs, rfl, hlen, r⟩ := rpK_of h
  clear h
  induction ds generalizing vs with
  | nil => cases hl
  | cons q ds ih =>
    cases vs with
    | nil => cases hlen
    | cons v vs =>
      cases r with
      | cons r1 r2 =>
        by_cases e : q.1 = x
        · have : lookD (q :: ds) x = some q.2 := by unfold lookD; simp [List.find?_cons, e]
          rw [this] at hl
          cases hl
          exact ⟨v, valV_pos (show (Sum.inr q.1 : Key) = Sum.inr x by rw [e]), r1⟩
        · have e3 : lookD (q :: ds) x = lookD ds x := by unfold lookD; simp [List.find?_cons, e]
          rw [e3] at hl
          obtain ⟨w, h1, h2⟩ := ih hl vs (by simpa using hlen) r2
          exact ⟨w, by
            show valV ((Sum.inr q.1, v) :: _) (Sum.inr x) = some w
            rw [valV_neg (by intro z; exact e (Sum.inr.inj z))]
            exact h1, h2⟩
/-- d[k] -/
theorem ex_dgetS {kvs : List (Str × D)} {z : Str} (hu : X.A.units + 1 < cLine) (ha : EX X T B ρ a W1 ρ1 (.dict (kvD kvs))) (hb : EX X T B ρ1 b W2 ρ2 (.str z)) (hl : lookD kvs z = some d) (hs : NoSl b := by exact fun _ _ => rfl) :
    EX X T B ρ (.Subscript a b pos) (W1 ++ W2) ρ2 d := by
  refine ⟨PE.imp (pe_dget hu ha.run hb.run hs) fun σ H Q ⟨S, q⟩ => ⟨S, fun x H1 S1 f1 r1 => ⟨S1, fun y H2 S2 f2 r2 => ?_⟩⟩, hb.own.trans ha.own, sub_app ha.sub ha.own hb.sub⟩
  have r1' := carry hb f2 r1
  rw [str_of r2]
  have key : ∀ {v : V} {dd : List (D × D)}, dd = kvD kvs → Rp X.K (msk (B.all ρ2) H2) v (.dict dd) → ∃ a w, v = .ref a ∧ DGet H2 a (.str z) (some w) ∧ Rp X.K (msk (B.all ρ2) H2) w d := fun {v dd} e h => by
    cases h with
    | dk h1 h2 =>
      rw [e] at h2
      obtain ⟨w, g1, g2⟩ := rpK_val h2 hl
      refine ⟨_, w, rfl, ?_, g2⟩
      obtain ⟨od, h1⟩ := h1
      refine .inl ⟨_, Sum.inr z, .inr ⟨od, (msk_some h1).2⟩, rfl, g1.symm⟩
    | dt hn h1 h2 => exact absurd (e ▸ h2) (noT hn e)
  obtain ⟨a', w, e1, e2, e3⟩ := key rfl r1'
  exact ⟨a', w, e1, e2, q w H2 S2 (f1.trans f2) e3⟩
end
end Dv

set_option maxRecDepth 100000
set_option maxHeartbeats 2000000
namespace Dv
open PySem PySem.Spec PyProof.Rows L2
/-! ### dict(pairs), the keys tuples -/
def mergedH (acc : List (List Key × Addr × Value)) (rest : List (List Key × Addr × Value)) : List (List Key × Addr × Value) := rest.foldl (fun a q => storedH a q.1 q.2.1 q.2.2) acc
theorem storedH_len (xs : List (List Key × Addr × Value)) (k : List Key) (a : Addr) (v : Value) : (storedH xs k a v).length ≤ xs.length + 1 := by
  unfold storedH
  split
  · rw [List.length_map]; omega
  · rw [List.length_append]; simp
theorem storedH_mem {xs : List (List Key × Addr × Value)} {k : List Key} {a : Addr} {v : Value} {x : List Key × Addr × Value} (h : x ∈ storedH xs k a v) : (∃ y ∈ xs, y.1 = x.1 ∧ y.2.1 = x.2.1) ∨ (x.1 = k ∧ x.2.1 = a) := by
  unfold storedH at h
  split at h
  · obtain ⟨y, hy, e⟩ := List.mem_map.mp h
    refine .inl ⟨y, hy, ?_⟩
    unfold putAt at e
    split at e
    · rw [← e]; exact ⟨rfl, rfl⟩
    · rw [← e]; exact ⟨rfl, rfl⟩
  · rcases List.mem_append.mp h with h | h
    · exact .inl ⟨x, h, rfl, rfl⟩
    · have : x = (k, a, v) := by simpa using h
      rw [this]; exact .inr ⟨rfl, rfl⟩
section
variable {prog : Program} {w : World} {A : Around} {E : Value → Shared → Prop}
theorem isk_keep {h h' : Heap} {k : List Key} {a : Addr} (x : (tupleKind (mixKind prog w)).is h k a) (e : ∀ o, h.get? a = some o → h'.get? a = some o) : (tupleKind (mixKind prog w)).is h' k a := by
  obtain ⟨o, its, n, h1, r⟩ := x
  exact ⟨o, its, n, e o h1, r⟩
theorem upd_loopT {R : Result → Shared → Prop} {S I l : Addr} {items : Array Value} {res : Value} {h0 : Heap} (hh : A.handled = none) (hu : (tupleKind (mixKind prog w)).room A.in1) (hlI : l ≠ I) (hSI : S ≠ I) (hSl : S ≠ l) :
    ∀ (rest : List (List Key × Addr × Value)) (i : Nat) (acc : List (List Key × Addr × Value)) (ix : Int) (t : Tok) (s : Shared), items.size = i + rest.length → acc.length + rest.length ≤ sizeLine →
      (∀ b o, b ≠ S → b ≠ I → h0.get? b = some o → s.heap.get? b = some o) →
      (∀ x ∈ acc, (tupleKind (mixKind prog w)).is h0 x.1 x.2.1 ∧ x.2.1 ≠ S ∧ x.2.1 ≠ I) →
      (∀ (j : Nat) (q : List Key × Addr × Value), rest[j]? = some q → ∃ (b : Addr), items[i + j]? = some (.ref b) ∧ b ≠ S ∧ b ≠ I ∧ IsTup h0 b #[.ref q.2.1, q.2.2] ∧ (tupleKind (mixKind prog w)).is h0 q.1 q.2.1 ∧ q.2.1 ≠ S ∧ q.2.1 ≠ I) →
      s.heap.IsListIter I l i → s.heap.IsList l items → s.heap.DictOfH (tupleKind (mixKind prog w)) S acc →
      (∀ h' tk, h'.DictOfH (tupleKind (mixKind prog w)) S (mergedH acc rest) → (∀ b o, b ≠ S → b ≠ I → s.heap.get? b = some o → h'.get? b = some o) → R (.ok (.ret res)) { s with heap := h', toks := tk }) →
      codeAny (model prog w) A (.builtin "dict.update.loop" ⟨[.ref S, .ref I, .int ix t, res], []⟩) R s
  | [], i, acc, ix, t, s, hsz, hln, hk0, ha, ht, hit, hl, hm, hR => by
    refine codeAny_builtin ud_entry ?_
    rw [Around.under_plainId ud_plain _]
    show wpAny _ A.in1 (pyNext (.ref I) >>= _) _ _ s
    refine wpAny_bind (wpAny_pyNext_list_end (A := A.in1) hh hit hl (by first | exact Array.getElem?_eq_none (Nat.le_of_eq hsz) | (simp at hsz; simp; omega)) fun h' he => ?_)
    show wpAny _ A.in1 (Builtin.Dict.addKeywords S [] >>= _) _ _ _
    refine wpAny_bind (wpAny_pure (wpAny_pure ?_))
    obtain ⟨o, es, ep, ho, hc, hd, he2, his, hn⟩ := hm
    exact hR h' s.toks ⟨o, es, ep, he S o hSI ho, hc, hd, he2, fun x hx => isk_keep (his x hx) fun o' e' => he _ o' (ha x hx).2.2 e', hn⟩ fun b o _ hb e => he b o hb e
  | q :: rest, i, acc, ix, t, s, hsz, hln, hk0, ha, ht, hit, hl, hm, hR => by
    obtain ⟨b, hb, hbS, hbI, htup0, hk, hkS, hkI⟩ := ht 0 q rfl
    rw [List.length_cons] at hsz hln
    refine codeAny_builtin ud_entry ?_
    rw [Around.under_plainId ud_plain _]
    show wpAny _ A.in1 (pyNext (.ref I) >>= _) _ _ s
    refine wpAny_bind (wpAny_pyNext_list_item (x := .ref b) hit hl (by simpa using hb) fun h1 hit1 hs1 => ?_)
    obtain ⟨o0, ho0, hc0, n0, hd0⟩ := id htup0
    have htup : IsTup s.heap b #[.ref q.2.1, q.2.2] := ⟨o0, hk0 b o0 hbS hbI ho0, hc0, n0, hd0⟩
    have ht1 : IsTup h1 b #[.ref q.2.1, q.2.2] := htup.extBut hs1.extBut hbI
    have hl1 : h1.IsList l items := hl.extBut hs1.extBut hlI
    have hk1 : ∀ b o, b ≠ S → b ≠ I → h0.get? b = some o → h1.get? b = some o := fun b o x y e => hs1.extBut b o y (hk0 b o x y e)
    have hm1 : h1.DictOfH (tupleKind (mixKind prog w)) S acc := by
      obtain ⟨o, es, ep, ho, hc, hd, he2, his, hn⟩ := hm
      exact ⟨o, es, ep, hs1.extBut S o hSI ho, hc, hd, he2, fun x hx => isk_keep (his x hx) fun o' e' => hs1.extBut _ o' (ha x hx).2.2 e', hn⟩
    have hkk : (tupleKind (mixKind prog w)).is h1 q.1 q.2.1 := isk_keep hk fun o e => hk1 _ o hkS hkI e
    obtain ⟨o, ho, hc, n, hd⟩ := id ht1
    show wpAny _ A.in1 (holding [Value.ref b] _ >>= _) _ _ _
    refine wpAny_bind (wpAny_holding ?_)
    refine wpAny_bind (wpAny_tryCatch ?_)
    unfold Builtin.Dict.pairItems
    refine wpAny_bind (wpAny_typeOf (T := "tuple") ⟨o, ho, hc⟩ ?_)
    rw [if_pos (by first | decide | rfl | simp)]
    refine wpAny_bind (wpAny_seqItems ho hd (wpAny_pure ?_))
    show wpAny _ A.in1 (holding [Value.ref q.2.1, q.2.2] (dictSet S (.ref q.2.1) q.2.2)) _ _ _
    refine wpAny_holding (wpAny_dictSet_heap (knd := tupleKind (mixKind prog w)) (k := q.1) hu hkk hm1 (fun h2 hm2 hs2 => ?_) (by omega))
    refine wpAny_pure ⟨plainId_quiet ud_plain _, upd_loopT (items := items) (h0 := h0) hh hu hlI hSI hSl rest (i + 1) (storedH acc q.1 q.2.1 q.2.2) (ix + 1) 0 _ (show items.size = i + 1 + rest.length by omega) ?_ (fun c oc h3 h4 e => hs2.extBut c oc h3 (hk1 c oc h3 h4 e)) (fun x hx => ?_) (fun j q' e => ?_) ?_ ?_ hm2 fun h' tk hd' k => ?_⟩
    · have z := storedH_len acc q.1 q.2.1 q.2.2
      omega
    · rcases storedH_mem hx with ⟨y, hy, e1, e2⟩ | ⟨e1, e2⟩
      · rw [← e1, ← e2]; exact ha y hy
      · rw [e1, e2]; exact ⟨hk, hkS, hkI⟩
    · obtain ⟨b', hb', r⟩ := ht (j + 1) q' (by simpa using e)
      refine ⟨b', ?_, r⟩
      rw [show i + 1 + j = i + (j + 1) by omega]
      exact hb'
    · exact hit1.at fun o' e => hs2.extBut I o' (Ne.symm hSI) e
    · exact hl1.extBut hs2.extBut (Ne.symm hSl)
    · exact hR h' tk hd' fun c oc h3 h4 e => k c oc h3 h4 (hs2.extBut c oc h3 (hs1.extBut c oc h4 e))
theorem call_dict_pairsT {s : Shared} {l : Addr} {ol : Obj} {items : Array Value} {n : Nat} {prs : List (List Key × Addr × Value)} {Q : Value → Shared → Prop} (hh : A.handled = none) (hu : (tupleKind (mixKind prog w)).room A.in1.in1) (hl : s.heap.get? l = some ol) (hc : ol.cls = .type "list") (hd : ol.dict = none)
    (hdat : ol.data = .seq items n) (hsz : items.size = prs.length) (hln : prs.length ≤ sizeLine)
    (ht : ∀ (j : Nat) (q : List Key × Addr × Value), prs[j]? = some q → ∃ (b : Addr), items[j]? = some (.ref b) ∧ IsTup s.heap b #[.ref q.2.1, q.2.2] ∧ (tupleKind (mixKind prog w)).is s.heap q.1 q.2.1)
    (h : ∀ h' tk, h'.DictOfH (tupleKind (mixKind prog w)) s.heap.objs.size (mergedH [] prs) → (∀ b o, s.heap.get? b = some o → h'.get? b = some o) → Q (.ref s.heap.objs.size) { s with heap := h', toks := tk }) :
    wpAny (model prog w) A (call (.type "dict") [.ref l]) Q E s := by
  refine callType_codes (Q₁ := fun obj s₁ => obj = .ref s.heap.objs.size ∧ s₁ = { s with heap := s.heap.push { cls := .type "dict", data := .dict #[] } }) PySem.F.kt_called_dict (PySem.F.kt_typeCall_dict_1 _) PySem.F.entry_dict_init (kt_code_dict_new _ ⟨rfl, rfl⟩) ?_
  rintro obj s₁ ⟨rfl, rfl⟩
  have hnew : (s.heap.push { cls := .type "dict", data := .dict #[] }).DictOfH (tupleKind (mixKind prog w)) s.heap.objs.size [] := Heap.DictOfH.new s.heap
  have k0 : ∀ b o, s.heap.get? b = some o → (s.heap.push { cls := .type "dict", data := .dict #[] }).get? b = some o := fun b o e => Heap.get?_push_of_some _ e
  have hT : ({ s with heap := s.heap.push { cls := .type "dict", data := .dict #[] } } : Shared).TypeIs (.ref s.heap.objs.size) "dict" := Heap.DictOfH.typeIs (s := { s with heap := s.heap.push { cls := .type "dict", data := .dict #[] } }) hnew
  refine ⟨hT, PySem.F.args_dict_init_2 _ _, ?_⟩
  unfold Builtin.«dict.__init__»
  refine wpAny_bind ?_
  unfold Builtin.Dict.selfAndRest
  refine wpAny_bind (wpAny_notOrdered_dict hT ?_)
  show wpAny _ _ (pure (s.heap.objs.size, [Value.ref l])) _ _ _
  refine wpAny_pure ?_
  show wpAny _ _ (Builtin.Dict.updateFrom "dict.__init__" s.heap.objs.size (.ref l) [] .none) _ _ _
  unfold Builtin.Dict.updateFrom
  refine wpAny_bind (wpAny_typeOf (T := "list") ⟨ol, k0 _ _ hl, hc⟩ ?_)
  rw [if_pos (by first | decide | rfl | simp)]
  refine wpAny_bind (miss_list (k0 _ _ hl) hc hdat hd hh fun h1 tk1 hk1 => ?_)
  rw [if_pos (show (none : Option Value).isNone = true from rfl)]
  refine wpAny_bind (wpAny_rule ?_)
  have hl1 : h1.IsList l items := ⟨ol, hk1 _ _ (k0 _ _ hl), hc, n, hdat⟩
  have eS : (s.heap.push { cls := .type "dict", data := .dict #[] }).get? s.heap.objs.size = some { cls := .type "dict", data := .dict #[] } := Heap.get?_push_size _ rfl
  have hS1 : s.heap.objs.size < h1.objs.size := Heap.lt_size (hk1 _ _ eS)
  refine wpAny_bind (wpAny_pyIter_list hl1 ?_)
  have k2 : ∀ b o, h1.get? b = some o → (h1.push { cls := .type "list_iterator", data := .fields #[.ref l, .int 0 0] }).get? b = some o := fun b o e => Heap.get?_push_of_some _ e
  have k3 : ∀ b o, s.heap.get? b = some o → (h1.push { cls := .type "list_iterator", data := .fields #[.ref l, .int 0 0] }).get? b = some o := fun b o e => k2 _ _ (hk1 _ _ (k0 _ _ e))
  have hlt : l < s.heap.objs.size := Heap.lt_size hl
  have key := upd_loopT (prog := prog) (w := w) (A := A.in1) (h0 := s.heap) (R := wants (fun r s₂ => r = .none ∧ Q (.ref s.heap.objs.size) s₂) E) (S := s.heap.objs.size) (I := h1.objs.size) (l := l) (items := items) (res := Value.none) hh hu
    (Nat.ne_of_lt (Nat.lt_trans hlt hS1)) (Nat.ne_of_lt hS1) (Nat.ne_of_gt hlt) prs 0 [] 0 0
    { s with heap := h1.push { cls := .type "list_iterator", data := .fields #[.ref l, .int 0 0] }, toks := tk1 } (by rw [hsz, Nat.zero_add]) (by rw [List.length_nil, Nat.zero_add]; exact hln) (fun b o _ _ e => k3 b o e) (fun x hx => by cases hx)
    (fun j q e => by
      obtain ⟨b, e1, e2, e3⟩ := ht j q e
      have hb : b < s.heap.objs.size := e2.lt
      obtain ⟨ok, _, _, hok, _⟩ := id e3
      have hq : q.2.1 < s.heap.objs.size := Heap.lt_size hok
      exact ⟨b, by rw [Nat.zero_add]; exact e1, Nat.ne_of_lt hb, Nat.ne_of_lt (Nat.lt_trans hb hS1), e2, e3, Nat.ne_of_lt hq, Nat.ne_of_lt (Nat.lt_trans hq hS1)⟩)
    ⟨_, Heap.get?_push_size _ rfl, rfl, rfl⟩ (hl1.at fun o e => k2 _ _ e) ⟨_, #[], 0, k2 _ _ (hk1 _ _ eS), ⟨rfl, rfl, rfl⟩, rfl, rfl, fun _ hx => by simp at hx, List.nodup_nil⟩
    (fun h' tk hd' k => ⟨rfl, h h' tk hd' fun b o e => k b o (Nat.ne_of_lt (Heap.lt_size e)) (Nat.ne_of_lt (Nat.lt_trans (Heap.lt_size e) hS1)) (k3 b o e)⟩)
  first
    | exact wpAny_pure ⟨plainId_quiet ud_plain _, key⟩
    | exact wpAny_bind (wpAny_pure (wpAny_pure ⟨plainId_quiet ud_plain _, key⟩))
end
def mergeT (kvs more : List (List Key × V)) : List (List Key × V) := more.foldl (fun acc kv => putK acc kv.1 kv.2) kvs
theorem KT.merge {H : Hp} : ∀ {more : List (List Key × V)} {rs : List (List Key × Addr × Value)} {kvs : List (List Key × V)} {vs : List (List Key × Addr × Value)}, KT H more rs → KT H kvs vs → KT H (mergeT kvs more) (mergedH vs rs)
  | _, _, _, _, .nil, h => h
  | _, _, _, _, .cons (a := p) (b := q) r t, h => by
    obtain ⟨e1, e2, e3⟩ := r
    have z := KT.put h p.1 (b := q.2.1) e2 e3
    show KT H (mergeT (putK _ p.1 p.2) _) (mergedH (storedH _ q.1 q.2.1 q.2.2) _)
    rw [← e1]
    exact KT.merge t z
theorem mergeT_len : ∀ (more kvs : List (List Key × V)), (mergeT kvs more).length ≤ kvs.length + more.length
  | [], kvs => Nat.le_refl _
  | p :: more, kvs => by
    have h1 := mergeT_len more (putK kvs p.1 p.2)
    have h2 := length_putK kvs p.1 p.2
    show (mergeT (putK kvs p.1 p.2) more).length ≤ _
    rw [List.length_cons]
    omega
def rDictT (K : PySem.W.Frag) : List V → Hp → VK → Prop := fun xs H Q => ∃ (a : Addr) (ps : List Addr) (kvs : List (List Key × V)), xs = [.ref a] ∧ SqL K H a (ps.map V.ref) ∧ Paired (fun p (kv : List Key × V) => ∃ b, H p = some (.tup [.ref b, kv.2]) ∧ H b = some (.tup (kv.1.map kV))) ps kvs ∧
    ∀ p, H p = none → Q (.ref p) (upd H p (.dT (mergeT [] kvs)))
section
variable {X : Cx}
theorem pairsT_of {pins : List (Addr × Obj)} {σ : L2.St} {H : Hp} {s : Shared} (I : Inv X pins σ H s) : ∀ {ps : List Addr} {kvs : List (List Key × V)}, Paired (fun p (kv : List Key × V) => ∃ b, H p = some (.tup [.ref b, kv.2]) ∧ H b = some (.tup (kv.1.map kV))) ps kvs →
    ∃ prs : List (List Key × Addr × Value), KT H kvs prs ∧ prs.length = ps.length ∧ ∀ (j : Nat) (q : List Key × Addr × Value), prs[j]? = some q → ∃ (b : Addr), ps[j]? = some b ∧ IsTup s.heap b #[.ref q.2.1, q.2.2] ∧ (tupleKind (mixKind X.prog X.w)).is s.heap q.1 q.2.1
  | _, _, .nil => ⟨[], .nil, rfl, fun j q e => by simp at e⟩
  | _, _, .cons (a := p) (b := kv) h t => by
    obtain ⟨prs, r, hl, hp⟩ := pairsT_of I t
    obtain ⟨b, h1, h2⟩ := h
    obtain ⟨_, its, rv, ht⟩ := I.hok p _ h1
    obtain ⟨u, y, ei, ru, ry⟩ := vals2 rv
    subst ei
    obtain rfl : u = Value.ref b := ru
    refine ⟨(kv.1, b, y) :: prs, .cons ⟨rfl, h2, ry⟩ r, by rw [List.length_cons, List.length_cons, hl], fun j q e => ?_⟩
    cases j with
    | zero =>
      cases (Option.some.inj e)
      exact ⟨p, rfl, ht, key_of I.hok h2⟩
    | succ j =>
      obtain ⟨b', e1, e2, e3⟩ := hp j q (by simpa using e)
      exact ⟨b', by simpa using e1, e2, e3⟩
theorem call_dictT (hcalm : X.calm = true) (hu : X.A.units + 8 < cLine) : CallR X (.type "dict") (rDictT X.K) := by
  intro pins s σ H xs us Q I r q
  obtain ⟨a, ps, kvs, ex, hq, hp, q⟩ := q
  subst ex
  obtain ⟨u, eu, rx⟩ := vals1 r
  subst eu
  cases rx
  obtain ⟨its, rv, pl, hz⟩ := I.list hq
  have ei := refs_at rv
  subst ei
  rw [List.length_map] at hz
  obtain ⟨prs, rel, hl, hpr⟩ := pairsT_of I hp
  obtain ⟨o, n, ho, hc, hd, hdat⟩ := pl
  refine call_dict_pairsT (prs := prs) (I.ok.hd hcalm) (show X.A.units + 1 + 1 < cLine by omega) ho hc hd hdat (by simp [hl]) (by rw [hl]; exact hz) (fun j q' e => ?_) fun h' tk hd' k => ?_
  · obtain ⟨b, e1, e2, e3⟩ := hpr j q' e
    exact ⟨b, by simp [e1], e2, e3⟩
  · have hm : (s.heap.objs.size == sysModules) = false := beq_eq_false_iff_ne.mpr (Nat.ne_of_gt I.big)
    have hlen : (mergeT [] kvs).length ≤ sizeLine := by
      refine Nat.le_trans (mergeT_len kvs []) ?_
      rw [List.length_nil, Nat.zero_add, Paired.length rel, hl]
      exact hz
    have hn := I.hok.fresh (Nat.le_refl s.heap.objs.size)
    refine ⟨.ref s.heap.objs.size, upd H s.heap.objs.size (.dT (mergeT [] kvs)), I.laid (t' := tk) k (Nat.le_refl _) ?_, rfl, q _ hn⟩
    obtain ⟨q', es, ep, hq', h2, h3, h4, _, h5⟩ := hd'
    refine ⟨hlen, hm, _, (KT.merge rel .nil).keeps fun c ys ec => ?_, q', es, ep, hq', h2, h3, h4, h5⟩
    rw [upd_ne (ne_of_none ec hn)]
    exact ec
end
end Dv

set_option maxRecDepth 100000
set_option maxHeartbeats 2000000
namespace Dv
open PySem PySem.Spec PyProof.Rows L2 GxR
/-! ### any, all of a generator expression, whatever is walked -/
section
variable {X : Cx} {pins : List (Addr × Obj)} {σ : L2.St} {H : Hp} {s : Shared}
abbrev TSrc := L2.St → Hp → (Nat → (Nat → Bool) → Hp → Prop) → Prop
/-- iter is walked, n items; elt at the i-th is pb i -/
def PSrc (X : Cx) (P : Addr) (iter elt : Expr) (x : Str) (scope : Scope) (t : TSrc) : Prop := ∀ (pins : List (Addr × Obj)) (s : Shared) (σ : L2.St) (H : Hp) (R : Nat → (Nat → Bool) → Hp → Prop), Inv X pins σ H s → t σ H R →
  wpAny (model X.prog X.w) X.A (eval iter X.env) (fun xv sv => wpAny (model X.prog X.w) X.A (pyIter xv) (fun it s2 => ∃ (s1 : Shared) (H1 : Hp) (h2 : Heap) (t2 : Nat) (ps : Array Value) (Ia : Addr) (fp wr : List Addr) (n : Nat) (Pf : Nat → Value → Prop) (St₀ : Nat → Heap → Prop) (pb : Nat → Bool),
    Inv X pins σ H1 s1 ∧ s2 = { s1 with heap := h2, toks := t2 } ∧ (∀ b o, s1.heap.get? b = some o → h2.get? b = some o) ∧ s1.heap.objs.size ≤ h2.objs.size ∧ H1 P = some (.tbl ps) ∧ TriplesOk ps.toList ∧ it = .ref Ia ∧ (∀ A' : Around, A'.handled = none → Walks X.prog X.w A' Ia fp wr n Pf St₀) ∧ St₀ 0 h2 ∧ (∀ b ∈ fp, b < h2.objs.size) ∧ P ∉ fp ∧ (∀ b ∈ wr, s1.heap.objs.size ≤ b) ∧
    (∀ (cenv : Env) (A' : Around) (E' : Value → Shared → Prop) (i : Nat) (v : Value) (s₂ : Shared) (m₂ : Str → Option Value), cenv.scope = scope → Pf i v → s₂.heap.Ns cenv.locals m₂ → m₂ x = some v → wpAny (model X.prog X.w) A' (eval elt cenv) (fun y s₃ => y = .bool (pb i) ∧ Keeps s₂ s₃) E' s₂) ∧
    R n pb H1) X.xe sv) X.xe s
def ReadyG (X : Cx) (pins : List (Addr × Obj)) (σ : L2.St) (H1 : Hp) (P : Addr) (n : Nat) (pb : Nat → Bool) (g : Addr) (s5 : Shared) : Prop :=
  ∃ (fp wr : List Addr) (G : Array GenState → Array GenState → Prop) (F : Nat → Value → Prop) (St : Nat → Shared → Prop),
    WalksS X.prog X.w X.A.in1 g fp wr G n F St ∧ St 0 s5 ∧
    TruthOf X.prog X.w X.A.in1 F pb ∧
    ∀ s', Moved wr G s5 s' → ∃ H2, Tabbed P H1 H2 ∧ Inv X pins σ H2 s'
theorem gen_src {c P : Addr} {elt iter : Expr} {x : Str} {px gpos : Pos} {scope : Scope} {te : TSrc} {k : Nat} {Q' : Value → Shared → Prop} {R : Nat → (Nat → Bool) → Hp → Prop}
    (hr : Room k X.A) (TB : GxR.TabB X.base X.mg c P) (hcode : X.env.code = .ref c) (S : GenS X.env scope x) (hi : PSrc X P iter elt x scope te)
    (hs : ∀ v, genFold iter X.env v = pure v) (I : Inv X pins σ H s) (h : te σ H R)
    (hQ : ∀ n pb H1 g s5, R n pb H1 → ReadyG X pins σ H1 P n pb g s5 → Q' (.ref g) s5) :
    wpAny (model X.prog X.w) X.A (eval (.GeneratorExp elt [⟨.Name x px, iter, [], 0⟩] scope gpos) X.env) Q' X.xe s := by
  refine wpAny_GeneratorExp_walksQ hr.hd S.co (closure_ok S.free) S.cell S.dot S.loc S.kind (by have := hr.dp; omega) ?_ hs
  refine thn (hi pins s σ H R I h) fun xv sv hv => thn hv fun it s2 h2 => ?_
  obtain ⟨s1, H1, hh2, t2, ps, Ia, fp, wr, n, Pf, St₀, pb, I1, rfl, k12, h8, hP, ht, rfl, W, hst, hfp, hPf, hwr, hel, q1⟩ := h2
  have hPs : s1.heap.get? P = some { cls := .none, data := .fields ps } := I1.hok P _ hP
  have hPlt : P < s1.heap.objs.size := Heap.lt_size hPs
  have hP2 : hh2.get? P = some { cls := .none, data := .fields ps } := k12 _ _ hPs
  have cd : PySem.W.CodeHd hh2 c P := TB.code.keeps fun b u e => k12 _ _ (I1.bk b u e)
  have lim2 : hh2.NoLimit := I1.nolimit.keeps k12
  have hcl : cStatics < s1.heap.objs.size := let ⟨_, hns, _⟩ := I1.nolimit; hns.lt
  have cont : ∀ (code : Value) (h3 : Heap) (tk : Nat) (ps' : Array Value), Heap.ExtBut P hh2 h3 → hh2.objs.size ≤ h3.objs.size → h3.get? P = some { cls := .none, data := .fields ps' } → (∃ more, ps' = ps ++ more) → TriplesOk ps'.toList →
      wpAny (model X.prog X.w) X.A (builtinsFor X.env.globals X.env.builtins) (fun bi s₄ =>
        ∃ I fp wr n₀ Pf St₀ pz F, Value.ref Ia = .ref I ∧ (∀ A' : Around, A'.handled = none → Walks X.prog X.w A' I fp wr n₀ Pf St₀) ∧ St₀ 0 s₄.heap ∧ (∀ b ∈ fp, b < s₄.heap.objs.size) ∧ s₄.heap.NoLimit ∧ cStatics ∉ wr ∧
          (∀ href : Heap, (∀ b o, s₄.heap.get? b = some o → href.get? b = some o) →
            QuietGen X.prog X.w (genEnv scope (cloFrom X.env.cells scope.names []) s₄.heap.objs.size code bi X.env) x [] elt (List.range s₄.heap.objs.size) wr Pf pz F href) ∧
          (∀ a h₅ tk gs, gs.bare = true → s₄.heap.objs.size < a → h₅.objs.size = a + 1 → (∀ b o, s₄.heap.get? b = some o → h₅.get? b = some o) →
            WalksS X.prog X.w X.A.in4 a (a :: s₄.heap.objs.size :: List.range s₄.heap.objs.size) (s₄.heap.objs.size :: wr) (GenOnlyQ s₄.gens.size) (passing pz n₀ 0).length
              (fun j y => ∃ i, (passing pz n₀ 0)[j]? = some i ∧ F i y) (GenAt X.prog X.w X.A.in4 a s₄.gens.size s₄.heap.objs.size (List.range s₄.heap.objs.size) wr pz n₀ F) →
            GenAt X.prog X.w X.A.in4 a s₄.gens.size s₄.heap.objs.size (List.range s₄.heap.objs.size) wr pz n₀ F 0 { s₄ with gens := s₄.gens.push gs, toks := tk, heap := h₅ } →
            Q' (.ref a) { s₄ with gens := s₄.gens.push gs, toks := tk, heap := h₅ })) X.xe { s1 with heap := h3, toks := tk } := by
    intro code h3 tk ps' hx hsz hP3 hmore ht3
    obtain ⟨bm, ob, e1, e2, e3, e4, e5, e6, e7, e8⟩ := TB.bm
    have hcP : cStatics ≠ P := fun e => by
      obtain ⟨_, hns, _⟩ := I1.nolimit
      obtain ⟨o', es, ep, ho, hd, _⟩ := hns
      rw [e, hPs] at ho
      cases ho
      cases hd
    have keep3 : ∀ b u, b ≠ P → s1.heap.get? b = some u → h3.get? b = some u := fun b u hb e => hx b u hb (k12 _ _ e)
    refine wpAny_builtinsFor (m := X.mg) (by rw [I1.ok.glob]; exact ((I1.mod.glob.keeps I1.bk).keeps k12).extBut hx TB.gP) e1 e2 (keep3 _ _ e4 (I1.bk _ _ e5)) e6 e7 e8 ?_
    refine ⟨Ia, fp, wr, n, Pf, St₀, (fun _ => true), (fun i y => y = .bool (pb i)), rfl, W, ?_, fun b hb => Nat.lt_of_lt_of_le (hfp b hb) hsz, lim2.extBut hx hcP, fun z => absurd (hwr _ z) (Nat.not_le.mpr hcl), ?_, ?_⟩
    · exact (W X.A hr.hd).frame _ _ _ hst fun b hb u e => hx b u (fun z => hPf (by rw [← z]; exact hb)) e
    · intro href hhref
      refine ⟨fun A' E' i v s₂ m₂ hA hPv hn hm hk => ?_, fun A' E' i v s₂ m₂ hA hPv hp hn hm hk => ?_⟩
      · simp only [List.forIn_nil]
        exact wpAny_pure ⟨rfl, keeps_refl _⟩
      · exact hel _ A' E' i v s₂ m₂ rfl hPv hn hm
    · intro g h5 tk5 gs hgb hag hsz5 hk5 W5 hat
      simp only [GxR.passing_true, List.length_range] at W5
      refine hQ n pb H1 g _ q1 ⟨_, _, _, _, _, W5.in4_1, hat, ?_, fun s' hm => ?_⟩
      · intro j y sj Qj Ej hy hQj
        obtain ⟨i, hij, rfl⟩ := hy
        obtain ⟨hj, ej⟩ := List.getElem?_eq_some_iff.mp hij
        rw [List.getElem_range] at ej
        subst ej
        exact wpAny_truthy_bool hQj
      · obtain ⟨more, em⟩ := hmore
        have nwr : ∀ b u, s1.heap.get? b = some u → b ∉ h3.objs.size :: wr := fun b u e hb => by
          have hl := Heap.lt_size e
          rcases List.mem_cons.mp hb with z | z
          · rw [z] at hl
            have h9 : (h3.objs.size : Nat) < s1.heap.objs.size := hl
            omega
          · exact absurd hl (Nat.not_lt.mpr (hwr _ z))
        have J := inv_tab (more := more) (h' := s'.heap) (g' := s'.gens) (d' := s'.drawn) (t' := s'.toks) I1 hP (fun b u hb e => hm.heap b u (nwr b u e) (hk5 b u (keep3 b u hb e)))
          (by rw [← em]; exact hm.heap P _ (nwr P _ hPs) (hk5 P _ hP3)) (AllBare.movedS (I1.bare.push hgb) hm)
        rw [sh_eta s1 s' hm.os] at J
        refine ⟨upd H1 P (.tbl (ps ++ more)), ⟨⟨ps ++ more, upd_same, by rw [← em]; exact ht3⟩, fun b hb => upd_ne hb⟩, J⟩
  refine ⟨lim2, ?_⟩
  cases hf : codeAmong gpos ps.toList with
  | none =>
    refine wpAny_genexprCodeX hcode (cd.code hP2 ht) (cd.tab hP2) hf fun c' h' tk hx hge hlt hco' _ htab' _ => ?_
    obtain ⟨o1, vs, f1, tf, fl, tg, inF, tx, tt, op, _, _, _, _, _, _, _, _, _, htr, _⟩ := hco'
    exact cont _ h' tk _ hx (Nat.le_trans hge (Nat.le_of_lt hlt)) htab'.2 ⟨_, rfl⟩ htr
  | some cv =>
    refine wpAny_genexprCode_hit hcode (cd.code hP2 ht) hf ?_
    exact cont cv hh2 t2 ps (Heap.ExtBut.refl _ _) (Nat.le_refl _) hP2 ⟨#[], by simp⟩ ht
theorem pe_anyG {c P : Addr} {elt iter : Expr} {x : Str} {px p pos gpos : Pos} {scope : Scope} {te : TSrc} {k : Nat}
    (hr : Room k X.A) (hg : Gl X "any") (hm : X.mg "any" = none) (TB : GxR.TabB X.base X.mg c P) (hcode : X.env.code = .ref c) (S : GenS X.env scope x) (hi : PSrc X P iter elt x scope te)
    (hs : ∀ v, genFold iter X.env v = pure v)
    (he : starEach [.GeneratorExp elt [⟨.Name x px, iter, [], 0⟩] scope gpos] X.env = (false, eval (.GeneratorExp elt [⟨.Name x px, iter, [], 0⟩] scope gpos) X.env) :: starEach [] X.env := by rfl) :
    PE X (.Call (.Name "any" p) [.GeneratorExp elt [⟨.Name x px, iter, [], 0⟩] scope gpos] [] pos) (fun σ H Q => te σ H fun n pb H1 => ∀ H2, Tabbed P H1 H2 → Q (.bl ((List.range n).any pb)) H2) := by
  refine ⟨fun pins s σ H Q I h => ?_⟩
  refine wpAny_Call_Name_kw (ld_blt I hg hm boot_any ?_)
  refine PyProof.Rows.callWith_builtin1 ?_ he (by rfl)
  rw [he]
  show wpAny _ _ (spliced ((false, eval (.GeneratorExp elt [⟨.Name x px, iter, [], 0⟩] scope gpos) X.env) :: backTo pos (starEach [] X.env))) _ _ s
  refine Calls.spliced_cons (gen_src (R := fun n pb H1 => ∀ H2, Tabbed P H1 H2 → Q (.bl ((List.range n).any pb)) H2) hr TB hcode S hi hs I h fun n pb H1 g s5 hR hG => ?_)
  obtain ⟨fp, wr, G, F, St, W, hst, htr, hI⟩ := hG
  refine Calls.spliced_nil ?_
  refine call_any_walkS (W.self 0 _ _ _ hst ⟨g, fp, wr, G, _, F, St, _, rfl, W, hst, htr, fun s' hmv => ?_⟩)
  obtain ⟨H2, hT, J⟩ := hI s' hmv
  exact ⟨.bl _, H2, J, rfl, hR H2 hT⟩
theorem pe_allG {c P : Addr} {elt iter : Expr} {x : Str} {px p pos gpos : Pos} {scope : Scope} {te : TSrc} {k : Nat}
    (hr : Room k X.A) (hg : Gl X "all") (hm : X.mg "all" = none) (TB : GxR.TabB X.base X.mg c P) (hcode : X.env.code = .ref c) (S : GenS X.env scope x) (hi : PSrc X P iter elt x scope te)
    (hs : ∀ v, genFold iter X.env v = pure v)
    (he : starEach [.GeneratorExp elt [⟨.Name x px, iter, [], 0⟩] scope gpos] X.env = (false, eval (.GeneratorExp elt [⟨.Name x px, iter, [], 0⟩] scope gpos) X.env) :: starEach [] X.env := by rfl) :
    PE X (.Call (.Name "all" p) [.GeneratorExp elt [⟨.Name x px, iter, [], 0⟩] scope gpos] [] pos) (fun σ H Q => te σ H fun n pb H1 => ∀ H2, Tabbed P H1 H2 → Q (.bl ((List.range n).all pb)) H2) := by
  refine ⟨fun pins s σ H Q I h => ?_⟩
  refine wpAny_Call_Name_kw (ld_blt I hg hm (u := .builtin "all") (by decide +kernel) ?_)
  refine PyProof.Rows.callWith_builtin1 ?_ he (by rfl)
  rw [he]
  show wpAny _ _ (spliced ((false, eval (.GeneratorExp elt [⟨.Name x px, iter, [], 0⟩] scope gpos) X.env) :: backTo pos (starEach [] X.env))) _ _ s
  refine Calls.spliced_cons (gen_src (R := fun n pb H1 => ∀ H2, Tabbed P H1 H2 → Q (.bl ((List.range n).all pb)) H2) hr TB hcode S hi hs I h fun n pb H1 g s5 hR hG => ?_)
  obtain ⟨fp, wr, G, F, St, W, hst, htr, hI⟩ := hG
  refine Calls.spliced_nil ?_
  refine call_all_walkS (W.self 0 _ _ _ hst ⟨g, fp, wr, G, _, F, St, _, rfl, W, hst, htr, fun s' hmv => ?_⟩)
  obtain ⟨H2, hT, J⟩ := hI s' hmv
  exact ⟨.bl _, H2, J, rfl, hR H2 hT⟩
end
end Dv

set_option maxRecDepth 100000
set_option maxHeartbeats 2000000
namespace Dv
open PySem PySem.Spec PyProof.Rows L2 GxR
section
variable {X : Cx}
/-- the i-th of ns is k -/
def isAt (ns : List Int) (k : Int) (i : Nat) : Bool := match ns[i]? with
  | some n => decide (n = k)
  | none => false
theorem any_isAt (ns : List Int) (k : Int) : (List.range ns.length).any (isAt ns k) = ns.any fun n => decide (n = k) := by
  rw [Bool.eq_iff_iff, List.any_eq_true, List.any_eq_true]
  constructor
  · intro ⟨j, hj, h⟩
    have hj' := List.mem_range.mp hj
    unfold isAt at h
    rw [List.getElem?_eq_getElem hj'] at h
    exact ⟨ns[j], List.getElem_mem hj', h⟩
  · intro ⟨b, hb, h⟩
    obtain ⟨j, hj, e⟩ := List.getElem_of_mem hb
    refine ⟨j, List.mem_range.mpr hj, ?_⟩
    unfold isAt
    rw [List.getElem?_eq_getElem hj, e]
    exact h
def tVals (P : Addr) (td : TE) (k : Int) : TSrc := fun σ H R => td σ H fun v H1 => ∃ (d : Addr) (kvs : List (Key × V)) (ns : List Int), v = .ref d ∧ Rd H1 d (.dK kvs) ∧ kvs.map (·.2) = ns.map V.int ∧ TabG H1 P ∧ R ns.length (isAt ns k) H1
theorem psrc_vals {P : Addr} {e : Expr} {td : TE} {x : Str} {scope : Scope} {k : Int} {apos cpos p1 p2 p3 : Pos} {j : Nat} (he : PE X e td) (hk : scope.kind = .function) (hl : scope.names.lookup x = some .local)
    (hbase : attributeBase e "values" X.env (eval e X.env) = eval e X.env := by rfl) (hline : (apos.endLine == cpos.line) = true := by rfl) (hd : (x == ("__debug__" : Str)) = false := by decide) :
    PSrc X P (.Call (.Attribute e "values" apos) [] [] cpos) (.Compare (.Name x p1) [.Eq] [.Constant (.int k) j p2] p3) x scope (tVals P td k) := by
  intro pins s σ H R I h
  refine wpAny_Call_method (T := "dict") (id := "dict.values") hbase rfl hline F.plainAttrs_dict F.slot_dict_values F.type_dict_values (thn (he.run pins s σ H _ I h) fun u s1 ⟨v, H1, I1, rx, d, kvs, ns, ex, hd', hns, ⟨ps, hP, ht⟩, q⟩ => ?_)
  subst ex
  obtain rfl : u = Value.ref d := rx
  obtain ⟨hz, hs, vs, kv, hdo⟩ := Rd.ok hd' I1.hok
  obtain ⟨ep, hat⟩ := hdo.dictAt
  have hlen : kvs.length = vs.length := Paired.length kv
  have hnl : ns.length = vs.length := by
    have z := congrArg List.length hns
    rw [List.length_map, List.length_map] at z
    omega
  refine ⟨hdo.typeIs, hdo.mapOf.noDict, ?_⟩
  have hdlt : d < s1.heap.objs.size := hat.lt_size
  have hPlt : P < s1.heap.objs.size := Heap.lt_size (I1.hok P _ hP)
  have s3 : (s1.heap.push { cls := .type "dict_values", data := .fields #[.ref d] }).objs.size = s1.heap.objs.size + 1 := Heap.size_push ..
  have fin : wpAny (model X.prog X.w) X.A (pyIter (.ref s1.heap.objs.size)) (fun it s2 => ∃ (s1' : Shared) (H1 : Hp) (h2 : Heap) (t2 : Nat) (ps : Array Value) (Ia : Addr) (fp wr : List Addr) (n : Nat) (Pf : Nat → Value → Prop) (St₀ : Nat → Heap → Prop) (pb : Nat → Bool),
      Inv X pins σ H1 s1' ∧ s2 = { s1' with heap := h2, toks := t2 } ∧ (∀ b o, s1'.heap.get? b = some o → h2.get? b = some o) ∧ s1'.heap.objs.size ≤ h2.objs.size ∧ H1 P = some (.tbl ps) ∧ TriplesOk ps.toList ∧ it = .ref Ia ∧ (∀ A' : Around, A'.handled = none → Walks X.prog X.w A' Ia fp wr n Pf St₀) ∧ St₀ 0 h2 ∧ (∀ b ∈ fp, b < h2.objs.size) ∧ P ∉ fp ∧ (∀ b ∈ wr, s1'.heap.objs.size ≤ b) ∧
      (∀ (cenv : Env) (A' : Around) (E' : Value → Shared → Prop) (i : Nat) (v : Value) (s₂ : Shared) (m₂ : Str → Option Value), cenv.scope = scope → Pf i v → s₂.heap.Ns cenv.locals m₂ → m₂ x = some v → wpAny (model X.prog X.w) A' (eval (.Compare (.Name x p1) [.Eq] [.Constant (.int k) j p2] p3) cenv) (fun y s₃ => y = .bool (pb i) ∧ Keeps s₂ s₃) E' s₂) ∧
      R n pb H1) X.xe { s1 with heap := s1.heap.push { cls := .type "dict_values", data := .fields #[.ref d] } } := by
    refine wpAny_pyIter_values (d := d) (knd := mixKind X.prog X.w) ⟨_, Heap.get?_push_size _ rfl, rfl, rfl⟩ (hat.push _) ?_
    have k12 : ∀ b o, s1.heap.get? b = some o → ((s1.heap.push { cls := .type "dict_values", data := .fields #[.ref d] }).push { cls := .type "dict_valueiterator", data := .fields #[.ref d, .int 0 0, .int vs.length 0, .int ep 0] }).get? b = some o := fun b o e => Heap.get?_push_of_some _ (Heap.get?_push_of_some _ e)
    refine ⟨s1, H1, _, s1.toks, ps, _, _, _, vs.length, _, _, isAt ns k, I1, rfl, k12, ?_, hP, ht, rfl, fun A' hA => Walks.dictValues (knd := mixKind X.prog X.w) hA _ d (Nat.ne_of_lt (by rw [s3]; exact Nat.lt_succ_of_lt hdlt)) vs ep, ⟨⟨_, Heap.get?_push_size _ rfl, rfl, rfl⟩, (hat.push _).push _⟩, ?_, ?_, ?_, ?_, ?_⟩
    · rw [Heap.size_push, Heap.size_push]; omega
    · intro b hb
      rw [Heap.size_push, s3]
      rcases List.mem_cons.mp hb with z | z
      · rw [z, s3]; exact Nat.lt_succ_self _
      · have : b = d := by simpa using z
        rw [this]; exact Nat.lt_succ_of_lt (Nat.lt_succ_of_lt hdlt)
    · intro z
      rcases List.mem_cons.mp z with z | z
      · rw [z, s3] at hPlt; exact absurd hPlt (Nat.not_lt.mpr (Nat.le_succ _))
      · have : P = d := by simpa using z
        rcases hd' with hd' | ⟨_, hd'⟩ <;> (rw [this, hd'] at hP; cases hP)
    · intro b hb
      have : b = (s1.heap.push { cls := .type "dict_values", data := .fields #[.ref d] }).objs.size := by simpa using hb
      rw [this, s3]; exact Nat.le_succ _
    · intro cenv A' E' i v s₂ m₂ hsc ⟨key, hv⟩ hn hm
      have hvn : ∃ n t, ns[i]? = some n ∧ v = .int n t := by
        obtain ⟨q', g1, g2⟩ := paired_back kv hv
        have g3 : (kvs.map (·.2))[i]? = some q'.2 := by rw [List.getElem?_map, g1]; rfl
        rw [hns, List.getElem?_map] at g3
        cases hi : ns[i]? with
        | none => rw [hi] at g3; cases g3
        | some n =>
          rw [hi] at g3
          have g4 : V.int n = q'.2 := Option.some.inj g3
          rw [← g4] at g2
          obtain ⟨t, ht'⟩ := g2.2
          exact ⟨n, t, rfl, ht'⟩
      obtain ⟨n, t, e1, rfl⟩ := hvn
      refine wpAny_Compare1 ?_
      refine wpAny_Name (wpAny_loadName_local (by rw [hsc]; exact hk) (show cenv.scope.names.lookup x = some .local by rw [hsc]; exact hl) hn hm ?_) hd
      refine wpAny_Constant_int ?_
      refine eq_int ⟨?_, keeps_tok _ _⟩
      unfold isAt
      rw [e1, Bool.beq_eq_decide_eq]
    · rw [← hnl]; exact q
  show wpAny _ _ (callWith cpos (.builtin "dict.values") [.ref d] [] []) _ X.xe s1
  exact method_meetsIn F.slot_dict_values F.entry_dict_values rfl (PySem.evalArgs_none ⟨rfl, hdo.typeIs, F.args_dict_values_1 _, _, meets_dict_values (mixKind X.prog X.w) d hs, ⟨vs, hdo⟩, fin⟩)
where
  paired_back : ∀ {kvs : List (Key × V)} {vs : List (Key × Value)}, KV kvs vs → ∀ {i : Nat} {q : Key × Value}, vs[i]? = some q → ∃ p, kvs[i]? = some p ∧ (p.1 = q.1 ∧ RelV p.2 q.2)
    | _, _, .nil, i, q, h => by simp at h
    | _, _, .cons r t, 0, q, h => by cases (Option.some.inj h); exact ⟨_, rfl, r⟩
    | _, _, .cons r t, i + 1, q, h => paired_back t (i := i) (by simpa using h)
variable {T : List TQ} {B : Bs} {ρ ρ1 : Sl} {W : List Addr} {e : Expr}
/-- any(x == k for x in d.values()) -/
theorem ex_anyVals {c P : Addr} {x : Str} {scope : Scope} {k : Int} {apos cpos p1 p2 p3 px p pos gpos : Pos} {j n : Nat} {kvs : List (Str × Int)} (hr : Room n X.A) (hg : Gl X "any") (hm : X.mg "any" = none) (TB : GxR.TabB X.base X.mg c P) (hcode : X.env.code = .ref c) (hPT : TQ.tab P ∈ T) (S : GenS X.env scope x)
    (he : EX X T B ρ e W ρ1 (.dict (kvD (kvs.map fun q => (q.1, .int q.2))))) (hs : ∀ v, genFold (.Call (.Attribute e "values" apos) [] [] cpos) X.env v = pure v := by intro _; rfl)
    (hbase : attributeBase e "values" X.env (eval e X.env) = eval e X.env := by rfl) (hline : (apos.endLine == cpos.line) = true := by rfl) (hd : (x == ("__debug__" : Str)) = false := by decide)
    (hst : starEach [.GeneratorExp (.Compare (.Name x p1) [.Eq] [.Constant (.int k) j p2] p3) [⟨.Name x px, .Call (.Attribute e "values" apos) [] [] cpos, [], 0⟩] scope gpos] X.env = (false, eval (.GeneratorExp (.Compare (.Name x p1) [.Eq] [.Constant (.int k) j p2] p3) [⟨.Name x px, .Call (.Attribute e "values" apos) [] [] cpos, [], 0⟩] scope gpos) X.env) :: starEach [] X.env := by rfl) :
    EX X T B ρ (.Call (.Name "any" p) [.GeneratorExp (.Compare (.Name x p1) [.Eq] [.Constant (.int k) j p2] p3) [⟨.Name x px, .Call (.Attribute e "values" apos) [] [] cpos, [], 0⟩] scope gpos] [] pos) W ρ1 (.bool (kvs.any fun q => decide (q.2 = k))) := by
  refine ⟨PE.imp (pe_anyG hr hg hm TB hcode S (psrc_vals he.run S.kind S.loc hbase hline hd) hs hst) fun σ H Q ⟨Sm, q⟩ => ⟨Sm, fun v H1 S1 f1 r1 => ?_⟩, he.own, he.sub⟩
  have key : ∀ {v : V} {dd : List (D × D)}, dd = kvD (kvs.map fun q => (q.1, .int q.2)) → Rp X.K (msk (B.all ρ1) H1) v (.dict dd) → ∃ a kk, v = .ref a ∧ Rd H1 a (.dK kk) ∧ RpK X.K (msk (B.all ρ1) H1) kk (kvD (kvs.map fun q => (q.1, .int q.2))) := fun {v dd} e h => by
    cases h with
    | dk h1 h2 => exact ⟨_, _, rfl, .inr (h1.imp fun _ z => (msk_some z).2), e ▸ h2⟩
    | dt hn h1 h2 => exact absurd (e ▸ h2) (noT hn e)
  obtain ⟨a, kk, rfl, h1, h2⟩ := key rfl r1
  obtain ⟨vs, e1, e2, e3⟩ := rpK_of h2
  have e4 : (kvs.map fun q => (q.1, D.int q.2)).map (·.2) = (kvs.map (·.2)).map D.int := by rw [List.map_map, List.map_map]; rfl
  rw [e4] at e3
  have e5 := e3.ints
  refine ⟨a, kk, kvs.map (·.2), rfl, h1, ?_, S1.tabs _ hPT, fun H2 hT => ?_⟩
  · rw [e1, ← e5]
    have : ∀ {l1 : List Key} {l2 : List V}, l2.length = l1.length → (l1.zip l2).map (·.2) = l2 := fun {l1 l2} h => List.map_snd_zip (by omega)
    exact this (by rw [e2, List.length_map, List.length_map, List.length_map])
  · rw [any_isAt]
    have hK : Kp H1 H2 := fun b o no eb => by
      rw [hT.2 b (fun z => by
        obtain ⟨ps, ep, _⟩ := S1.tabs _ hPT
        rw [z, ep] at eb; cases eb; cases no)]
      exact eb
    have ean : ((kvs.map (·.2)).any fun n => decide (n = k)) = kvs.any fun q => decide (q.2 = k) := by rw [List.any_map]; rfl
    rw [ean]
    refine q _ H2 (S1.grow hK (fun P' hP' => ?_) fun b hb => ?_) (f1.transN hK.fx) (.bl _)
    · cases P' with
      | tab P' =>
        by_cases z : P' = P
        · rw [z]; exact hT.1
        · obtain ⟨ps, ep, t⟩ := S1.tabs _ hP'
          exact ⟨ps, by rw [hT.2 P' z]; exact ep, t⟩
      | tup a' xs' => exact hK a' _ rfl (S1.tabs _ hP')
    · by_cases z : b = P
      · rw [z]
        obtain ⟨ps, ep, _⟩ := hT.1
        rw [ep]; exact fun y => by cases y
      · rw [hT.2 b z]; exact hb
end
end Dv

set_option maxRecDepth 100000
set_option maxHeartbeats 2000000
namespace Dv
open PySem PySem.Spec PyProof.Rows L2
/-! ### dict(pairs) -/
section
variable {K : PySem.W.Frag} {H : Hp}
theorem rpK_mk : ∀ {kvs : List (Str × D)} {vs : List V}, RpA K H vs (kvs.map (·.2)) → RpK K H ((kvs.map fun q => (Sum.inr q.1 : Key)).zip vs) (kvD kvs)
  | [], _, .nil => .nil
  | q :: r, _, .cons h t => .cons (k := Sum.inr q.1) h (rpK_mk t)
theorem pairs_str {O : List Addr} : ∀ {kvs : List (Str × D)} {xs : List V}, RpA K (msk O H) xs (kvs.map fun q => .tuple [.str q.1, q.2]) → ∃ (ps : List Addr) (vs : List V), xs = ps.map V.ref ∧ RpA K (msk O H) vs (kvs.map (·.2)) ∧ Paired (fun p (kv : Key × V) => SqT K H p [kV kv.1, kv.2]) ps ((kvs.map fun q => (Sum.inr q.1 : Key)).zip vs)
  | [], _, .nil => ⟨[], [], rfl, .nil, .nil⟩
  | q :: r, _, .cons h t => by
    obtain ⟨ps, vs, rfl, h2, h3⟩ := pairs_str t
    cases h with
    | tup g1 g2 =>
      cases g2 with
      | cons k1 k2 =>
        cases k2 with
        | cons k3 k4 =>
          cases k4
          cases k1
          exact ⟨_ :: ps, _ :: vs, rfl, .cons k3 h2, .cons (SqT.of (msk_some g1).2) h3⟩
theorem mergeK_new : ∀ {more kvs : List (Key × V)}, ((kvs ++ more).map (·.1)).Nodup → mergeK kvs more = kvs ++ more
  | [], kvs, _ => by rw [List.append_nil]; rfl
  | p :: more, kvs, h => by
    have hn : valV kvs p.1 = none := by
      cases q : valV kvs p.1 with
      | none => rfl
      | some v =>
        exfalso
        have hm : p.1 ∈ kvs.map (·.1) := by
          unfold valV at q
          cases f : kvs.find? (fun kv => decide (kv.1 = p.1)) with
          | none => rw [f] at q; cases q
          | some w =>
            have := List.find?_some f
            exact List.mem_map.mpr ⟨w, List.mem_of_find?_eq_some f, by simpa using this⟩
        rw [List.map_append, List.map_cons] at h
        exact (List.nodup_append.mp h).2.2 _ hm _ List.mem_cons_self rfl
    show mergeK (putK kvs p.1 p.2) more = _
    rw [putK_new _ hn, mergeK_new (by rw [List.append_assoc]; exact h), List.append_assoc]
    rfl
end
section
variable {X : Cx} {T : List TQ} {B : Bs} {ρ ρ1 ρ2 : Sl} {W W1 W2 : List Addr} {e a b : Expr} {d : D} {pos p : Pos}
end

/-! ### dicts whose keys are tuples of ints -/
def dtD (kvs : List (List Int × D)) : List (D × D) := kvs.map fun q => (.tuple (q.1.map .int), q.2)
def putI (kvs : List (List Int × D)) (k : List Int) (d : D) : List (List Int × D) := if kvs.any (fun q => decide (q.1 = k)) then kvs.map (fun q => if q.1 = k then (q.1, d) else q) else kvs ++ [(k, d)]
def mergeI (kvs more : List (List Int × D)) : List (List Int × D) := more.foldl (fun acc q => putI acc q.1 q.2) kvs
abbrev PT (K : PySem.W.Frag) (H : Hp) : List (List Key × V) → List (List Int × D) → Prop := Paired fun p q => p.1 = q.1.map Sum.inl ∧ Rp K H p.2 q.2
section
variable {K : PySem.W.Frag} {H : Hp}
theorem inl_inj {a b : List Int} (h : a.map (Sum.inl : Int → Key) = b.map Sum.inl) : a = b := by
  have := congrArg (List.map (fun k : Key => match k with | .inl i => i | .inr _ => 0)) h
  simpa [List.map_map, Function.comp_def] using this
theorem PT.any {kvs : List (List Key × V)} {ds : List (List Int × D)} (h : PT K H kvs ds) (k : List Int) : (kvs.any fun q => decide (q.1 = k.map Sum.inl)) = ds.any fun q => decide (q.1 = k) := by
  induction h with
  | nil => rfl
  | cons r t ih =>
    rw [List.any_cons, List.any_cons, ih]
    congr 1
    rw [r.1]
    exact decide_eq_decide.mpr ⟨inl_inj, fun z => by rw [z]⟩
theorem PT.repl {k : List Int} {v : V} {d : D} (r : Rp K H v d) : ∀ {kvs : List (List Key × V)} {ds : List (List Int × D)}, PT K H kvs ds → PT K H (kvs.map fun kv => if kv.1 = k.map Sum.inl then (kv.1, v) else kv) (ds.map (fun q => if q.1 = k then (q.1, d) else q))
  | _, _, .nil => .nil
  | _, _, .cons (a := p) (b := q) r' t => by
    refine .cons ?_ (PT.repl r t)
    dsimp only
    by_cases z : q.1 = k
    · rw [if_pos z, if_pos (by rw [r'.1, z])]; exact ⟨r'.1, r⟩
    · rw [if_neg z, if_neg (by rw [r'.1]; exact fun y => z (inl_inj y))]; exact r'
theorem PT.put {kvs : List (List Key × V)} {ds : List (List Int × D)} (h : PT K H kvs ds) {k : List Int} {v : V} {d : D} (r : Rp K H v d) : PT K H (putK kvs (k.map Sum.inl) v) (putI ds k d) := by
  unfold putK putI
  rw [h.any k]
  by_cases z : (ds.any fun q => decide (q.1 = k)) = true
  · rw [if_pos z, if_pos z]; exact PT.repl r h
  · rw [if_neg z, if_neg z]; exact Paired.snoc h ⟨rfl, r⟩
theorem PT.merge : ∀ {more : List (List Key × V)} {ms : List (List Int × D)} {kvs : List (List Key × V)} {ds : List (List Int × D)}, PT K H more ms → PT K H kvs ds → PT K H (mergeT kvs more) (mergeI ds ms)
  | _, _, _, _, .nil, h => h
  | _, _, _, _, .cons (a := p) (b := q) r t, h => by
    show PT K H (mergeT (putK _ p.1 p.2) _) (mergeI (putI _ q.1 q.2) _)
    rw [r.1]
    exact PT.merge t (h.put r.2)
theorem PT.rp : ∀ {kvs : List (List Key × V)} {ds : List (List Int × D)}, PT K H kvs ds → RpT K H kvs (dtD ds)
  | _, _, .nil => .nil
  | _, _, .cons (a := p) (b := q) r t => by
    obtain ⟨k, v⟩ := p
    have e : k = q.1.map Sum.inl := r.1
    subst e
    have e2 : (D.tuple (q.1.map .int), q.2) = (D.tuple ((q.1.map Sum.inl : List Key).map kD), q.2) := by rw [List.map_map]; rfl
    show RpT K H _ ((D.tuple (q.1.map .int), q.2) :: dtD _)
    rw [e2]
    exact .cons r.2 (PT.rp t)
theorem PT.of : ∀ {kvs : List (List Key × V)} {ds : List (List Int × D)}, RpT K H kvs (dtD ds) → PT K H kvs ds
  | _, [], .nil => .nil
  | kvs, q :: ds, h => by
    have h' : RpT K H kvs ((.tuple (q.1.map .int), q.2) :: dtD ds) := h
    generalize hL : (D.tuple (q.1.map .int), q.2) :: dtD ds = L at h'
    cases h' with
    | nil => cases hL
    | cons h1 h2 =>
      rename_i k v vs d' ds'
      obtain ⟨e1, e2⟩ := List.cons.inj hL
      subst e2
      have ek : (k.map kD) = q.1.map D.int := (D.tuple.inj (congrArg Prod.fst e1)).symm
      have ed : d' = q.2 := (congrArg Prod.snd e1).symm
      subst ed
      exact .cons ⟨keyI ek, h1⟩ (PT.of h2)
where
  keyI : ∀ {k : List Key} {ns : List Int}, k.map kD = ns.map D.int → k = ns.map Sum.inl
    | [], [], _ => rfl
    | [], _ :: _, h => by cases h
    | _ :: _, [], h => by cases h
    | x :: k, n :: ns, h => by
      obtain ⟨h1, h2⟩ := List.cons.inj h
      cases x with
      | inl i => rw [List.map_cons, keyI h2, D.int.inj h1]
      | inr z => cases h1
theorem mergeI_ne : ∀ {more kvs : List (List Int × D)}, kvs ≠ [] → mergeI kvs more ≠ []
  | [], kvs, h => h
  | q :: more, kvs, h => by
    show mergeI (putI kvs q.1 q.2) more ≠ []
    refine mergeI_ne (more := more) ?_
    unfold putI
    split
    · intro z; exact h (List.map_eq_nil_iff.mp z)
    · intro z; simp at z
theorem pairs_tup {O : List Addr} : ∀ {kvs : List (List Int × D)} {xs : List V}, RpA K (msk O H) xs (kvs.map fun q => .tuple [.tuple (q.1.map .int), q.2]) → ∃ (ps : List Addr) (kk : List (List Key × V)), xs = ps.map V.ref ∧ PT K (msk O H) kk kvs ∧ Paired (fun p (kv : List Key × V) => ∃ b, H p = some (.tup [.ref b, kv.2]) ∧ H b = some (.tup (kv.1.map kV))) ps kk
  | [], _, .nil => ⟨[], [], rfl, .nil, .nil⟩
  | q :: r, _, .cons h t => by
    obtain ⟨ps, kk, rfl, h2, h3⟩ := pairs_tup t
    cases h with
    | tup g1 g2 =>
      cases g2 with
      | cons k1 k2 =>
        cases k2 with
        | cons k3 k4 =>
          cases k4
          cases k1 with
          | tup j1 j2 =>
            rename_i v' b ys
            have ey := j2.ints
            subst ey
            refine ⟨_ :: ps, (q.1.map Sum.inl, v') :: kk, rfl, .cons ⟨rfl, k3⟩ h2, .cons ⟨b, (msk_some g1).2, ?_⟩ h3⟩
            rw [List.map_map]
            exact (msk_some j1).2
end
section
variable {X : Cx} {T : List TQ} {B : Bs} {ρ ρ1 ρ2 : Sl} {W W1 W2 : List Addr} {e a b : Expr} {d : D} {pos p : Pos}
end
end Dv

set_option maxRecDepth 100000
namespace Dv
open PySem PySem.Spec PyProof.Rows L2
theorem PT.len {K : PySem.W.Frag} {H : Hp} {kvs : List (List Key × V)} {ds : List (List Int × D)} (h : PT K H kvs ds) : kvs.length = ds.length := Paired.length h
theorem PT.at {K : PySem.W.Frag} {H : Hp} {kvs : List (List Key × V)} {ds : List (List Int × D)} (h : PT K H kvs ds) {i : Nat} {p : List Key × V} (e : kvs[i]? = some p) : ∃ q, ds[i]? = some q ∧ p.1 = q.1.map Sum.inl := by
  obtain ⟨b, h1, h2⟩ := paired_get h e
  exact ⟨b, h1, h2.1⟩
theorem valV_any {kvs : List (List Key × V)} {k : List Key} : (valV kvs k).isSome = kvs.any fun q => decide (q.1 = k) := by
  induction kvs with
  | nil => rfl
  | cons p r ih =>
    by_cases z : p.1 = k
    · rw [valV_pos z, List.any_cons]; simp [z]
    · rw [valV_neg z, ih, List.any_cons]; simp [z]
/-- the keys of ds that es has -/
def keepI (ds es : List (List Int × D)) : List D := (ds.filter fun q => es.any fun p => decide (p.1 = q.1)).map fun q => .tuple (q.1.map .int)
theorem keepI_snoc (ds es : List (List Int × D)) (i : Nat) (q : List Int × D) (h : ds[i]? = some q) : keepI (ds.take (i + 1)) es = keepI (ds.take i) es ++ if (es.any fun p => decide (p.1 = q.1)) = true then [.tuple (q.1.map .int)] else [] := by
  unfold keepI
  rw [List.take_add_one, h, List.filter_append, List.map_append]
  congr 1
  show (List.filter _ [q]).map _ = _
  cases ho : es.any fun p => decide (p.1 = q.1) with
  | true => rw [List.filter_cons_of_pos (by simpa using ho)]; rfl
  | false => rw [List.filter_cons_of_neg (by rw [ho]; exact Bool.false_ne_true)]; rfl
theorem upd_back {H : Hp} {a b : Addr} {u o x : HO} (h : H a = some u) (n : b ≠ a) : upd (upd (upd H a o) b x) a u = upd H b x := by
  funext c
  by_cases q : c = a
  · subst q
    rw [upd_same, upd_ne (fun z => n z.symm)]; exact h.symm
  · rw [upd_ne q]
    by_cases r : c = b
    · subst r; rw [upd_same, upd_same]
    · rw [upd_ne r, upd_ne r, upd_ne q]
section
variable {X : Cx} {T : List TQ} {B : Bs} {ρ ρ1 ρ2 : Sl} {W W1 W2 : List Addr} {e a b : Expr} {d : D} {pos p : Pos}
theorem dict_no {K : PySem.W.Frag} {Hm : Hp} {v : V} {ds : List (List Int × D)} (r : Rp K Hm v (.dict (dtD ds))) : (ds = [] ∧ ∃ d, v = .ref d ∧ Fz Hm d (.dK [])) ∨ ∃ d kvs, v = .ref d ∧ Fz Hm d (.dT kvs) ∧ PT K Hm kvs ds := by
  generalize hd : dtD ds = dd at r
  cases r with
  | dk h1 h2 =>
    cases ds with
    | nil =>
      cases hd
      cases h2
      exact .inl ⟨rfl, _, rfl, h1⟩
    | cons q qs =>
      exfalso
      have hd' : (D.tuple (q.1.map .int), q.2) :: dtD qs = _ := hd
      rw [← hd'] at h2
      generalize hL : (D.tuple (q.1.map .int), q.2) :: dtD qs = L at h2
      cases h2 with
      | nil => cases hL
      | cons g1 g2 =>
        rename_i k' _ _ _ _
        have e1 := (List.cons.inj hL).1
        have e2 := congrArg Prod.fst e1
        cases k' <;> cases e2
  | dt hn h1 h2 =>
    subst hd
    exact .inr ⟨_, _, rfl, h1, PT.of h2⟩
end
end Dv

set_option maxRecDepth 100000
namespace Dv
open PySem PySem.Spec PyProof.Rows L2
/-- a def whose code object is known -/
structure FunC (K : PySem.W.Frag) (x qual : Str) (st : Stmt) (f : Addr) (fd : FuncData) (cdv : Value) : Prop where
  ex : ∃ (oc : Value) (od : Option Addr) (kV doc pm : Value) (an : Option Addr) (ct : Value) (osl : Array (Option Value)),
    fd = PySem.W.fnOf x qual (defArgs st) (defBody st) (defScope st) .none kV doc pm an cdv ct ∧ K.lookup f = some ⟨oc, od, .func fd, osl⟩ ∧ PySem.W.codeIn K cdv qual = true
  kp : PySem.W.keepIn K (.ref f) = true
theorem FunC.f {K : PySem.W.Frag} {x qual : Str} {st : Stmt} {f : Addr} {fd : FuncData} {cdv : Value} (F : FunC K x qual st f fd cdv) : Fun K x qual st f fd :=
  ⟨let ⟨oc, od, kV, doc, pm, an, ct, osl, h⟩ := F.ex; ⟨oc, od, kV, doc, pm, an, cdv, ct, osl, h⟩, F.kp⟩
section
variable {P : Program} {w : World} {K : PySem.W.Frag} {mg : Str → Option Value} {base : Heap} {x qual : Str} {st : Stmt} {f : Addr} {fd : FuncData} {N ps : List Str} {n : Nat} {T : List TQ}
theorem FunC.ok {k : Nat} {sp : Sp} {cdv : Value} (F : FunC K x qual st f fd cdv) (S : FnScope N ps (defScope st)) (len : ∀ vs H Q E, sp vs H Q E → vs.length = ps.length)
    (hbody : ∀ (A : Around) (outer : List Env) (s : Shared) (H : Hp) (vs : List V) (Q : VK) (E : XK), Room k (A.deeper (envOfC qual (defScope st) s.heap.objs.size f cdv)) → sp vs H Q E →
      ∃ t, PSs (cxOf CX0 P w K mg base N qual (defScope st) f cdv A outer s H E).nox (defBody st) t ∧ t { nx := fun _ H' => Q .non H', rt := Q } (L2.start N vs) H) : FnOk P w K mg base CX0 (k + 1) f fd ps sp := by
  obtain ⟨oc, od, kV, doc, pm, an, ct, osl, rfl, lk, hcd⟩ := F.ex
  refine fn_of lk hcd S len fun A outer s H vs Q E hr hsp => ?_
  obtain ⟨t, h, q⟩ := hbody A outer s H vs Q E hr hsp
  exact ⟨t, h.nox, q⟩
/-- how a def's promise is read from its body -/
theorem prd_read {R : Sl → D → Sl → Prop} {X : Cx} {vs : List V} {H : Hp} {Q : VK} {E : XK} (hK : X.K = K) (h : PrD K T ps.length R vs H Q E)
    (body : ∀ (B : Bs) (args : Sl) (d : D) (args' : Sl), args.length = ps.length → B.lent = owns args → Sh args args' → R args d args' → SXs X T B (ent N args) (defBody st) { nx := fun ρ => d = .none ∧ Back args' ρ, rt := fun d' ρ => d' = d ∧ Back args' ρ }) :
    ∃ t, PSs X (defBody st) t ∧ t { nx := fun _ H' => Q .non H', rt := Q } (L2.start N vs) H := by
  obtain ⟨hl, args, out, d, args', hA, nd, dj, ho, ht, sh, hR, q⟩ := h
  have hb := body ⟨out, owns args, H⟩ args d args' (by rw [hA.1]; exact hl) rfl sh hR
  have fin : ∀ {ρ : Sl} {σ : L2.St} {v : V} {H' : Hp}, Sim K T ⟨out, owns args, H⟩ ρ σ H' → Back args' ρ → Rp K (msk ((⟨out, owns args, H⟩ : Bs).all ρ) H') v d → Q v H' := fun {ρ σ v H'} S' bk rp => by
    have sub : ∀ a ∈ out ++ owns args, a ∈ (⟨out, owns args, H⟩ : Bs).all ρ := fun a z => by
      rcases List.mem_append.mp z with z | z
      · exact List.mem_append_left _ z
      · rw [← sh.owns] at z
        obtain ⟨i, o, e⟩ := mem_owns.mp z
        exact List.mem_append_right _ (mem_owns.mpr ⟨i, o, bk i a o e⟩)
    exact q v H' S'.frame (fun a z => S'.dom a z) S'.tabs (fun i a o e => (S'.at_ i _ (bk i a o e)).2.mono (Kp.sub sub) fun _ _ z => z) (rp.mono (Kp.sub sub))
  subst hK
  exact ⟨_, hb, sim_start hA nd dj ho ht, fun ρ σ H' ⟨z, bk⟩ S' => fin S' bk (by rw [z]; exact .non), fun d' ρ σ v H' ⟨z, bk⟩ S' rp => fin S' bk (by rw [← z]; exact rp), fun _ _ _ z => z.elim, fun _ _ _ z => z.elim, fun _ _ _ _ _ _ z => z.elim⟩
/-- THE RULE for a def whose code object is known -/
theorem fn_dC {cdv : Value} (F : FunC K x qual st f fd cdv) (S : FnScope N ps (defScope st)) (R : Sl → D → Sl → Prop)
    (body : ∀ (A : Around) (outer : List Env) (s : Shared) (H : Hp) (E : XK) (B : Bs) (args : Sl) (d : D) (args' : Sl), Room n (A.deeper (envOfC qual (defScope st) s.heap.objs.size f cdv)) → args.length = ps.length → B.lent = owns args → Sh args args' → R args d args' →
      SXs (cxOf CX0 P w K mg base N qual (defScope st) f cdv A outer s H E).nox T B (ent N args) (defBody st) { nx := fun ρ => d = .none ∧ Back args' ρ, rt := fun d' ρ => d' = d ∧ Back args' ρ }) :
    FnOk P w K mg base CX0 (n + 1) f fd ps (PrD K T ps.length R) :=
  F.ok S (fun vs H Q E h => h.1) fun A outer s H vs Q E hr h => prd_read rfl h fun B args d args' => body A outer s H E B args d args' hr
/-- the promise of a def that hands back a new list of its own choice -/
def PrC (K : PySem.W.Frag) (T : List TQ) (n : Nat) (R G : List D → Prop) : Sp := fun vs H Q _ => vs.length = n ∧ ∃ (args : List D) (out : List Addr),
  Args K H (msk out H) (args.map .dat) vs ∧ (∀ a ∈ out, ∃ o, H a = some o ∧ mutb o = true) ∧ (∀ P ∈ T, TQs H P) ∧ R args ∧
  ∀ p xs ds H', G ds → H p = none → Fx [] H H' → (∀ a, H a ≠ none → H' a ≠ none) → (∀ P ∈ T, TQs H' P) → H' p = some (.lst xs) → RpA K (msk (p :: out) H') xs ds → Q (.ref p) H'
theorem fn_c (F : Fun K x qual st f fd) (S : FnScope N ps (defScope st)) (R G : List D → Prop)
    (body : ∀ (cdv : Value) (A : Around) (outer : List Env) (s : Shared) (H : Hp) (E : XK) (B : Bs) (args : List D), Room n (A.deeper (envOfC qual (defScope st) s.heap.objs.size f cdv)) → args.length = ps.length → B.lent = [] → R args →
      SXs (cxOf CX0 P w K mg base N qual (defScope st) f cdv A outer s H E).nox T B (ent N (args.map .dat)) (defBody st) { nx := fun _ => False, rt := fun _ _ => False, rf := fun ds _ => G ds }) :
    FnOk P w K mg base CX0 (n + 1) f fd ps (PrC K T ps.length R G) := by
  refine F.ok S (fun vs H Q E h => h.1) (fun cdv A outer s H vs Q E hr h => ?_)
  obtain ⟨hl, args, out, hA, ho, ht, hR, q⟩ := h
  have o0 : owns (args.map Slot.dat) = [] := owns_dats args
  have hb := body cdv A outer s H E ⟨out, [], H⟩ args hr (by have := hA.1; rw [List.length_map] at this; rw [this]; exact hl) rfl hR
  have hA' : Args K H (msk (out ++ owns (args.map Slot.dat)) H) (args.map .dat) vs := by rw [o0, List.append_nil]; exact hA
  have S0 := sim_start (K := K) (T := T) (N := N) hA' (by rw [o0]; exact List.nodup_nil) (by rw [o0]; exact fun a z => by cases z) ho ht
  rw [o0] at S0
  refine ⟨_, hb, S0, fun _ _ _ z => z.elim, fun _ _ _ _ _ z => z.elim, fun _ _ _ z => z.elim, fun _ _ _ z => z.elim, fun ds' ρ σ p xs H' z h0 S' h1 h2 h3 => ?_⟩
  refine q p xs ds' H' z h0 S'.frame (fun a z => S'.dom a z) S'.tabs h1 (h3.mono (Kp.sub fun a z => ?_))
  rcases List.mem_cons.mp z with z | z
  · rw [z]; exact List.mem_cons_self
  · exact List.mem_cons_of_mem _ (List.mem_append_left _ z)
end
section
variable {X : Cx} {T : List TQ} {B : Bs} {ρ ρ1 ρ2 ρ3 : Sl} {W W1 W2 W3 : List Addr} {e a b c : Expr} {d d1 d2 d3 : D} {pos apos px : Pos} {k : DE} {st : Stmt} {r : List Stmt} {x : Str} {i n : Nat} {l : Addr}
variable {f : Addr} {fd : FuncData} {ps : List Str} {p : Pos} {es : List Expr} {kk : Nat}
/-- y = f(e, ..), the new list is the callee's choice -/
theorem sx_setC {R G : List D → Prop} {ds : List D} {y : Str} {i : Nat} {pos' : Pos} (F : FnOk X.prog X.w X.K X.mg X.base CX0 kk f fd ps (PrC X.K T n R G)) (hr : Room kk X.A) (hg : Gl X x) (hm : X.mg x = some (.ref f)) (hk : PySem.W.keepIn X.K (.ref f) = true) (hb : Binds X.K fd ps [])
    (ha : AX X T B ρ (e :: es) W ρ1 ds) (hn : ds.length = n) (hR : R ds) (hN : X.N.Nodup) (hnx : ∀ out p, G out → SXs X T B (ρ1.set i (.own p (.list out))) r k) (hi : X.N[i]? = some y := by rfl) (hx : Loc X.env.scope y := by first | exact Or.inl rfl | exact Or.inr rfl) (hl : i < ρ1.length := by exact Nat.le_of_ble_eq_true rfl)
    (hs : swapsWith (.Call (.Name x p) (e :: es) [] px) (some (.Name y pos')) pos.line X.env = pure false := by rfl) (hf : X.fn y = true ∨ X.env.scope.names.lookup y = some .local := by first | exact .inl rfl | exact .inr rfl)
    (hdb : (x == ("__debug__" : Str)) = false := by decide) (he : starEach (e :: es) X.env = (false, eval e X.env) :: starEach es X.env := by rfl) (hpl : (backTo px (starEach es X.env)).any (·.1) = false := by rfl) :
    SXs X T B ρ (.Assign [.Name y pos'] (.Call (.Name x p) (e :: es) [] px) pos :: r) k := by
  refine PSs.imp (pss_cons (ps_set (pos' := pos') hN hi hx (pe_call F hr hg hm hk hb .nil pass0 ha.run hdb he hpl) hs hf) (ps_any (T := T) (B := B))) fun E σ H ⟨S, q⟩ => ⟨S, fun vs H1 S1 f1 r1 => ?_⟩
  show PrC X.K T n R G (vs ++ []) H1 _ E0
  rw [List.append_nil]
  refine ⟨by rw [r1.length]; exact hn, ds, B.all ρ1, args_dats r1, S1.held, S1.tabs, hR, fun p xs out H' hG h0 h1 h2 h3 h4 h5 => ?_⟩
  have S2 := S1.grow h1.kpN h3 h2
  have nf := S1.free h0
  have S3 : Sim X.K T (B.add p) ρ1 σ H' := by
    refine ⟨S2.len, fun i s e => (S1.at_ i s e).mono (fun a o no z => ?_) fun a d _ o no z => h1 a o no (by simp) z, S2.nodup, fun a z y => ?_, fun a z => ?_, S2.frame, S2.fresh, S2.tabs, S2.dom⟩
    · obtain ⟨z1, z2⟩ := msk_some z
      rw [msk_out (fun y => ?_)]
      · exact h1 a o no (by simp) z2
      · rcases List.mem_cons.mp (show a ∈ p :: (B.out ++ owns ρ1) from y) with y | y
        · exact ne_of_none z2 h0 y
        · exact z1 y
    · rcases List.mem_cons.mp y with y | y
      · rw [y] at z; exact nf (List.mem_append_right _ z)
      · exact S2.disj a z y
    · rcases List.mem_cons.mp z with z | z
      · exact ⟨_, by rw [z]; exact h4, rfl⟩
      · exact S2.outs a z
  exact ⟨_, k, hnx out p hG, sim_own S3 (free_H0 S1 h0) h4 nf h5 hl, q⟩
/-- return a new list -/
theorem sx_retF {ds : List D} (he : EO X T B ρ e W ρ1 ds) (h : k.rf ds ρ1) : SXs X T B ρ (.Return (some e) pos :: r) k := by
  refine PSs.imp (pss_cons (ps_ret he.run) (ps_any (T := T) (B := B))) fun E σ H ⟨S, q1, q2, q3, q4, q5⟩ => ⟨S, fun p xs H' h0 S' f h1 h2 h3 => ?_⟩
  exact q5 ds ρ1 σ p xs H' h h0 S' h1 h2 h3
end
end Dv

set_option maxRecDepth 100000
namespace Dv
open PySem PySem.Spec PyProof.Rows L2
section
variable {X : Cx} {T : List TQ} {B : Bs} {ρ ρ1 ρ2 ρ3 : Sl} {W W1 W2 W3 : List Addr} {e a b c : Expr} {d d1 d2 d3 : D} {pos apos px : Pos} {k : DE} {st : Stmt} {r : List Stmt}
def iD (i : Nat) : D := .int (i : Int)
theorem rng0 (n : Nat) : rng 0 ((n : Int)).toNat = (List.range n).map iD := by
  unfold rng iD
  rw [Int.toNat_natCast]
  refine List.map_congr_left fun i _ => ?_
  rw [Int.zero_add]
/-- range(n) -/
theorem ix_n {tg : Expr} {p : Pos} {n : Nat} (hg : Gl X "range") (hm : X.mg "range" = none) (h : EX X T B ρ a W ρ1 (.int (n : Nat))) (hn : n ≤ 1000000) (hs : starEach [a] X.env = [(false, eval a X.env)] := by rfl) : IX X T B ρ tg (.Call (.Name "range" p) [a] [] pos) W ρ1 ((List.range n).map iD) := by
  rw [← rng0]
  exact ix_r1 hg hm h ⟨by omega, by omega⟩ hs
/-- two names at once -/
theorem pr2 (i j : Nat) {x y : Str} {px py pt : Pos} {kt k2 pt2} (hc : X.calm = true) (hN : X.N.Nodup) (ha : EX X T B ρ a W1 ρ1 d1) (hb : EX X T B ρ1 b W2 ρ2 d2) (hr : SXs X T B ((ρ2.set i (.dat d1)).set j (.dat d2)) r k)
    (hi : X.N[i]? = some x := by rfl) (hj : X.N[j]? = some y := by rfl) (hij : i ≠ j := by decide) (hx : X.env.scope.names.lookup x = some .local := by rfl) (hy : X.env.scope.names.lookup y = some .local := by rfl)
    (hl1 : i < ρ2.length := by exact Nat.le_of_ble_eq_true rfl) (hl2 : j < ρ2.length := by exact Nat.le_of_ble_eq_true rfl)
    (hw : swappedStores [.Tuple [.Name x px, .Name y py] kt pt] (.Tuple [a, b] k2 pt2) X.env = pure (some [x, y]) := by rfl)
    (hs : swapsWithSole [.Tuple [.Name x px, .Name y py] kt pt] (.Tuple [a, b] k2 pt2) pos.line X.env = pure false := by rfl)
    (he : starEach [a, b] X.env = (false, eval a X.env) :: starEach [b] X.env := by rfl) (he2 : starEach [b] X.env = (false, eval b X.env) :: starEach [] X.env := by rfl) :
    SXs X T B ρ (.Assign [.Tuple [.Name x px, .Name y py] kt pt] (.Tuple [a, b] k2 pt2) pos :: r) k :=
  sx_par hc hN hi hj hij hx hy ha hb ⟨hl1, hl2⟩ hr (fun h => ps_par hc hN hi hj hij hx hy h hw hs) he he2
/-- a loop by states: J by the turn, Jd behind it -/
theorem sx_forI {tg : Expr} {body : List Stmt} {ds : List D} {St : Type} (vs : List Nat) (ρs : St → Sl) (J : Nat → St → Prop) (Jd : St → Prop) (s0 : St) (hp : PassesOwn (model X.prog X.w) X.A X.env X.xe) (hc : X.calm = true) (hi : IX X T B ρ tg e W ρ1 ds) (h0 : Fg ρ1 (ρs s0)) (j0 : J 0 s0)
    (hb : ∀ B' i s d, ds[i]? = some d → J i s → ∃ ρb, GX X T B' (ρs s) tg vs d ρb ∧ SXs X T B' ρb body { nx := fun ρ' => ∃ s', J (i + 1) s' ∧ Fg ρ' (ρs s'), ct := fun ρ' => ∃ s', J (i + 1) s' ∧ Fg ρ' (ρs s'), bk := fun ρ' => ∃ s', Jd s' ∧ Fg ρ' (ρs s'), rt := k.rt, rf := k.rf })
    (hd : ∀ s, J ds.length s → Jd s) (hr : ∀ s, Jd s → SXs X T B (ρs s) r k) (hs : ∀ x, foldedSetIterable e X.env x = pure x := by intro _; rfl) : SXs X T B ρ (.For tg e body [] pos :: r) k := by
  refine sx_for vs (fun i ρ' => ∃ s, J i s ∧ Fg ρ' (ρs s)) (fun ρ' => ∃ s, Jd s ∧ Fg ρ' (ρs s)) hp hc hi ⟨s0, j0, h0⟩ (fun B' i d ρ' hd' ⟨s, hJ, hI⟩ => ?_) (fun ρ' ⟨s, h1, h2⟩ => ⟨s, hd s h1, h2⟩) (fun ρ' ⟨s, h1, h2⟩ => (hr s h1).fg h2) hs
  obtain ⟨ρb, h1, h2⟩ := hb B' i s d hd' hJ
  refine ⟨ρb, PG.imp h1 fun v σ H Q ⟨S, rp, q⟩ => ⟨S.fg hI, ?_, q⟩, h2⟩
  exact rp.mono (Kp.sub fun a z => by
    rcases List.mem_append.mp z with z | z
    · exact List.mem_append_left _ z
    · exact List.mem_append_right _ (hI.sub.subset z))
/-- an if by states -/
theorem sx_ifI {c : Expr} {t u : List Stmt} {kb : Bool} {St : Type} (ρs : St → Sl) (Jd : St → Prop) (hc : TX X T B ρ c W ρ1 kb) (ht : kb = true → SXs X T B ρ1 t { k with nx := fun ρ' => ∃ s, Jd s ∧ Fg ρ' (ρs s) }) (hu : kb = false → SXs X T B ρ1 u { k with nx := fun ρ' => ∃ s, Jd s ∧ Fg ρ' (ρs s) }) (hr : ∀ s, Jd s → SXs X T B (ρs s) r k) : SXs X T B ρ (.If c t u pos :: r) k :=
  sx_if hc (fun ρ' => ∃ s, Jd s ∧ Fg ρ' (ρs s)) ht hu fun ρ' ⟨s, h1, h2⟩ => (hr s h1).fg h2
/-- an if that ends in known names on both sides -/
theorem sx_ifF {c : Expr} {t u : List Stmt} {kb : Bool} (hc : TX X T B ρ c W ρ1 kb) (ht : kb = true → SXs X T B ρ1 t { k with nx := fun ρ' => Fg ρ' ρ2 }) (hu : kb = false → SXs X T B ρ1 u { k with nx := fun ρ' => Fg ρ' ρ2 }) (hr : SXs X T B ρ2 r k) : SXs X T B ρ (.If c t u pos :: r) k :=
  sx_if hc (fun ρ' => Fg ρ' ρ2) ht hu fun ρ' h => hr.fg h
end
theorem atI_nat {α : Type} {xs : List α} {i : Nat} {x : α} (h : xs[i]? = some x) : atI xs (i : Int) = some x := by
  have hl := (List.getElem?_eq_some_iff.mp h).1
  unfold atI ixN
  rw [if_pos (Int.natCast_nonneg i), if_pos (by omega)]
  exact h
theorem atI_z {α : Type} {xs : List α} {x : α} : atI (x :: xs) 0 = some x := atI_nat (i := 0) rfl
section
variable {X : Cx} {T : List TQ} {B : Bs} {ρ ρ1 ρ2 ρ3 : Sl} {W W1 W2 W3 : List Addr} {e a b c : Expr} {d d1 d2 d3 : D} {pos apos px : Pos} {k : DE} {st : Stmt} {r : List Stmt}
/-- a loop that folds, with what holds by the turn -/
theorem sx_forM {tg : Expr} {body : List Stmt} {St α : Type} (qs : List α) (en : α → D) (vs : List Nat) (ρs : St → Sl) (s0 : St) (step : St → α → St) (J : Nat → St → Prop) (hp : PassesOwn (model X.prog X.w) X.A X.env X.xe) (hc : X.calm = true) (hi : IX X T B ρ tg e W ρ1 (qs.map en)) (h0 : Fg ρ1 (ρs s0)) (j0 : J 0 s0)
    (hb : ∀ B' i s q, qs[i]? = some q → J i s → J (i + 1) (step s q) ∧ ∃ ρb, GX X T B' (ρs s) tg vs (en q) ρb ∧ SXs X T B' ρb body { nx := fun ρ' => Fg ρ' (ρs (step s q)), ct := fun ρ' => Fg ρ' (ρs (step s q)), bk := fun _ => False, rt := k.rt, rf := k.rf })
    (hr : J qs.length (qs.foldl step s0) → SXs X T B (ρs (qs.foldl step s0)) r k) (hs : ∀ x, foldedSetIterable e X.env x = pure x := by intro _; rfl) : SXs X T B ρ (.For tg e body [] pos :: r) k := by
  refine sx_forI vs ρs (fun i s => s = (qs.take i).foldl step s0 ∧ J i s) (fun s => s = qs.foldl step s0 ∧ J qs.length s) s0 hp hc hi h0 ⟨rfl, j0⟩ (fun B' i s d hd hJ => ?_) (fun s h => ?_) (fun s h => by rw [h.1]; exact hr (by rw [← h.1]; exact h.2)) hs
  · rw [List.getElem?_map] at hd
    cases hq : qs[i]? with
    | none => rw [hq] at hd; cases hd
    | some q =>
      rw [hq] at hd
      cases (Option.some.inj hd)
      obtain ⟨h1, ρb, h2, h3⟩ := hb B' i s q hq hJ.2
      have e : step s q = (qs.take (i + 1)).foldl step s0 := by
        rw [List.take_add_one, hq, List.foldl_append, ← hJ.1]; rfl
      refine ⟨ρb, h2, PSs.imp h3 fun E σ H ⟨S, q1, q2, q3, q4, q5⟩ => ⟨S, fun ρ' σ' H' m => q1 ρ' σ' H' ⟨_, ⟨e, h1⟩, m⟩, q2, fun _ _ _ z => z.elim, fun ρ' σ' H' m => q4 ρ' σ' H' ⟨_, ⟨e, h1⟩, m⟩, q5⟩⟩
  · rw [List.length_map] at h
    exact ⟨by rw [h.1, List.take_length], h.2⟩
theorem lcF_pure {α : Type} (g : α → Option D) : ∀ (qs : List α), (lcF (fun (_ : Unit) q => ((), g q)) () qs).2 = qs.filterMap g
  | [] => rfl
  | q :: qs => by
    show (g q).toList ++ _ = _
    rw [List.filterMap_cons]
    cases h : g q with
    | none => exact lcF_pure g qs
    | some y => exact congrArg (y :: ·) (lcF_pure g qs)
/-- a comprehension that changes nothing -/
theorem eo_lcM {elt tg iter : Expr} {ifs : List Expr} {scope : Scope} {α : Type} (qs : List α) (en : α → D) (g : α → Option D) (own : List (Str × Nat)) (hc : X.calm = true) (hN : X.N.Nodup)
    (hi : IX X T B ρ tg iter W ρ1 (qs.map en)) (ok : BlkOk X.N X.env.scope scope own) (hlen : qs.length ≤ sizeLine) (hno : noOwn ρ1 (own.map (·.2)) = true)
    (hb : ∀ q, q ∈ qs → ∀ B', ∃ ρb, owns ρb = owns ρ1 ∧ (∀ s H C cl fp, GX (Bk X scope s H C cl fp) T B' (wipeD ρ1 (own.map (·.2))) tg (own.map (·.2)) (en q) ρb) ∧ (∀ s H C cl fp, TXs (Bk X scope s H C cl fp) T B' ρb ifs [] ρb (g q).isSome) ∧
      (∀ y, g q = some y → ∃ ρc, owns ρc = owns ρ1 ∧ (∀ s H C cl fp, EX (Bk X scope s H C cl fp) T B' ρb elt [] ρc y) ∧ Fg ρc (wipeD ρ1 (own.map (·.2)))) ∧ (g q = none → Fg ρb (wipeD ρ1 (own.map (·.2))))) (hs : ∀ x, foldedSetIterable iter X.env x = pure x := by intro _; rfl) :
    EO X T B ρ (.ListComp elt [⟨tg, iter, ifs, 0⟩] scope pos) W ρ1 (qs.filterMap g) := by
  have z := eo_lc (pos := pos) (Wc := []) (elt := elt) (ifs := ifs) (fun _ : Unit => ρ1) () (fun _ q => ((), g q)) en hc hN hi ok hlen (fun _ => Sh.refl _) hno (fun a h => by cases h) (fun s q hq => ⟨fun B' => by
    obtain ⟨ρb, h1, h2, h3, h4, h5⟩ := hb q hq B'
    refine ⟨ρb, [], ρb, h1, h1, (fun a h => by cases h), h2, h3, fun y hy => ?_, h5⟩
    obtain ⟨ρc, k1, k2, k3⟩ := h4 y hy
    exact ⟨[], ρc, (fun a h => by cases h), k1, k2, k3⟩⟩) hs
  rw [lcF_pure, List.append_nil] at z
  exact z
end
section
variable {X : Cx} {T : List TQ} {B' : Bs} {ρ1 ρw ρb ρc : Sl} {scope : Scope} {tg elt : Expr} {ifs : List Expr} {vs : List Nat} {dq y : D} {g : Option D}
/-- a turn that gives y -/
theorem tM (hg : g = some y) (h1 : ∀ s H C cl fp, GX (Bk X scope s H C cl fp) T B' ρw tg vs dq ρb) (h2 : ∀ s H C cl fp, TXs (Bk X scope s H C cl fp) T B' ρb ifs [] ρb true) (h3 : ∀ s H C cl fp, EX (Bk X scope s H C cl fp) T B' ρb elt [] ρc y) (h4 : Fg ρc ρw)
    (o1 : owns ρb = owns ρ1 := by rfl) (o2 : owns ρc = owns ρ1 := by rfl) : ∃ ρb, owns ρb = owns ρ1 ∧ (∀ s H C cl fp, GX (Bk X scope s H C cl fp) T B' ρw tg vs dq ρb) ∧ (∀ s H C cl fp, TXs (Bk X scope s H C cl fp) T B' ρb ifs [] ρb g.isSome) ∧
      (∀ y, g = some y → ∃ ρc, owns ρc = owns ρ1 ∧ (∀ s H C cl fp, EX (Bk X scope s H C cl fp) T B' ρb elt [] ρc y) ∧ Fg ρc ρw) ∧ (g = none → Fg ρb ρw) := by
  subst hg
  exact ⟨ρb, o1, h1, h2, fun z hz => by cases hz; exact ⟨ρc, o2, h3, h4⟩, fun z => by cases z⟩
/-- a turn that gives nothing -/
theorem tN (hg : g = none) (h1 : ∀ s H C cl fp, GX (Bk X scope s H C cl fp) T B' ρw tg vs dq ρb) (h2 : ∀ s H C cl fp, TXs (Bk X scope s H C cl fp) T B' ρb ifs [] ρb false) (h4 : Fg ρb ρw)
    (o1 : owns ρb = owns ρ1 := by rfl) : ∃ ρb, owns ρb = owns ρ1 ∧ (∀ s H C cl fp, GX (Bk X scope s H C cl fp) T B' ρw tg vs dq ρb) ∧ (∀ s H C cl fp, TXs (Bk X scope s H C cl fp) T B' ρb ifs [] ρb g.isSome) ∧
      (∀ y, g = some y → ∃ ρc, owns ρc = owns ρ1 ∧ (∀ s H C cl fp, EX (Bk X scope s H C cl fp) T B' ρb elt [] ρc y) ∧ Fg ρc ρw) ∧ (g = none → Fg ρb ρw) := by
  subst hg
  exact ⟨ρb, o1, h1, h2, (fun z hz => by cases hz), fun _ => h4⟩
end
/-- a block's names, by looking -/
def blkB (N : List Str) (sc scope : Scope) (own : List (Str × Nat)) : Bool :=
  (scope.names.all fun y => decide (scope.names.lookup y.1 = some y.2)) && ((own.all fun p => decide (N[p.2]? = some p.1)) &&
    ((scope.names.all fun y => !decide (y.2 = .free) || (decide (sc.names.lookup y.1 = some .cell) || decide (sc.names.lookup y.1 = some .free))) &&
      scope.names.all fun y => !(decide (y.2 = .local) || decide (y.2 = .cell)) || (decide (y.1 ∈ own.map (·.1)) || decide (y.1 ∉ N))))
theorem blk {N : List Str} {sc scope : Scope} {own : List (Str × Nat)} (hk : scope.kind = .function) (h : blkB N sc scope own = true) : BlkOk N sc scope own := by
  unfold blkB at h
  rw [Bool.and_eq_true, Bool.and_eq_true, Bool.and_eq_true, List.all_eq_true, List.all_eq_true, List.all_eq_true, List.all_eq_true] at h
  obtain ⟨h1, h2, h3, h4⟩ := h
  refine ⟨hk, fun y hy => of_decide_eq_true (h1 y hy), fun p hp => of_decide_eq_true (h2 p hp), fun y hy e => ?_, fun y hy e => ?_⟩
  · have z := h3 y hy
    rw [e] at z
    simpa using z
  · have z := h4 y hy
    have e' : (decide (y.2 = .local) || decide (y.2 = .cell)) = true := by simpa using e
    rw [e'] at z
    simpa using z
theorem Fg.u {ρ ρ' : Sl} {s : Slot} (h : Fg ρ ρ') : Fg (s :: ρ) (.un :: ρ') := .un h
theorem Fg.s {ρ ρ' : Sl} {s : Slot} (h : Fg ρ ρ') : Fg (s :: ρ) (s :: ρ') := .same h
theorem set_int (acc : List Int) (i : Int) : acc.map D.int ++ [.int i] = (acc ++ [i]).map .int := by rw [List.map_append]; rfl
/-- at most n whole numbers -/
def Nums (n : Nat) (ds : List D) : Prop := ∃ ns : List Int, ds = ns.map .int ∧ ns.length ≤ n
theorem back1 {l : Addr} {o : D} {ρ : Sl} {args : List D} (h : ρ[0]? = some (.own l o)) : Back (.own l o :: args.map .dat) ρ := fun i a o' e => by
  cases i with
  | zero => cases (Option.some.inj e); exact h
  | succ i =>
    have e : (args.map Slot.dat)[i]? = some (.own a o') := by simpa using e
    rw [List.getElem?_map] at e
    cases q : args[i]? with
    | none => rw [q] at e; cases e
    | some d => rw [q] at e; cases e
theorem back0 {ρ : Sl} {args : List D} : Back (args.map .dat) ρ := fun i a o' e => by
  rw [List.getElem?_map] at e
  cases q : args[i]? with
  | none => rw [q] at e; cases e
  | some d => rw [q] at e; cases e
end Dv

set_option maxRecDepth 100000
namespace Dv
open PySem PySem.Spec PyProof.Rows L2
theorem EX.w {X : Cx} {T : List TQ} {B : Bs} {ρ ρ1 : Sl} {W W' : List Addr} {e : Expr} {d : D} (h : EX X T B ρ e W ρ1 d) (q : W = W') : EX X T B ρ e W' ρ1 d := q ▸ h
theorem TX.w {X : Cx} {T : List TQ} {B : Bs} {ρ ρ1 : Sl} {W W' : List Addr} {e : Expr} {k : Bool} (h : TX X T B ρ e W ρ1 k) (q : W = W') : TX X T B ρ e W' ρ1 k := q ▸ h
theorem ex_ifS {X : Cx} {T : List TQ} {B : Bs} {ρ ρ1 : Sl} {W : List Addr} {c a b : Expr} {d : D} {k : Bool} {pos : Pos} (h : TX X T B ρ c W ρ1 k) (ha : k = true → EX X T B ρ1 a [] ρ1 d) (hb : k = false → EX X T B ρ1 b [] ρ1 d) : EX X T B ρ (.IfExp c a b pos) W ρ1 d :=
  EX.w (ex_ifE (W2 := []) (ρ2 := ρ1) h ha hb rfl sub_nil) (List.append_nil W)
/-- a turn by a test -/
theorem tI {X : Cx} {T : List TQ} {B' : Bs} {ρ1 ρw ρb ρc : Sl} {scope : Scope} {tg elt : Expr} {ifs : List Expr} {vs : List Nat} {dq y : D} {c : Bool} (h1 : ∀ s H C cl fp, GX (Bk X scope s H C cl fp) T B' ρw tg vs dq ρb) (h2 : ∀ s H C cl fp, TXs (Bk X scope s H C cl fp) T B' ρb ifs [] ρb c)
    (h3 : c = true → ∀ s H C cl fp, EX (Bk X scope s H C cl fp) T B' ρb elt [] ρc y) (h4 : Fg ρc ρw) (h5 : Fg ρb ρw)
    (o1 : owns ρb = owns ρ1 := by rfl) (o2 : owns ρc = owns ρ1 := by rfl) : ∃ ρb, owns ρb = owns ρ1 ∧ (∀ s H C cl fp, GX (Bk X scope s H C cl fp) T B' ρw tg vs dq ρb) ∧ (∀ s H C cl fp, TXs (Bk X scope s H C cl fp) T B' ρb ifs [] ρb (if c = true then some y else none).isSome) ∧
      (∀ z, (if c = true then some y else none) = some z → ∃ ρc, owns ρc = owns ρ1 ∧ (∀ s H C cl fp, EX (Bk X scope s H C cl fp) T B' ρb elt [] ρc z) ∧ Fg ρc ρw) ∧ ((if c = true then some y else none) = none → Fg ρb ρw) := by
  cases c with
  | true =>
    rw [if_pos rfl]
    exact tM rfl h1 h2 (h3 rfl) h4 o1 o2
  | false =>
    rw [if_neg Bool.false_ne_true]
    exact tN rfl h1 h2 h5 o1
/-- a turn that gives y and writes owned things -/
theorem tW {X : Cx} {T : List TQ} {B' : Bs} {ρ1 ρw ρw' ρb ρc : Sl} {W Wc : List Addr} {scope : Scope} {tg elt : Expr} {ifs : List Expr} {vs : List Nat} {dq y : D} (h1 : ∀ s H C cl fp, GX (Bk X scope s H C cl fp) T B' ρw tg vs dq ρb) (h2 : ∀ s H C cl fp, TXs (Bk X scope s H C cl fp) T B' ρb ifs [] ρb true) (h3 : ∀ s H C cl fp, EX (Bk X scope s H C cl fp) T B' ρb elt W ρc y) (h4 : Fg ρc ρw') (hW : ∀ a ∈ W, a ∈ Wc)
    (o1 : owns ρb = owns ρ1 := by rfl) (o2 : owns ρc = owns ρ1 := by rfl) : ∃ ρb Wt ρt, owns ρb = owns ρ1 ∧ owns ρt = owns ρ1 ∧ (∀ a ∈ Wt, a ∈ Wc) ∧ (∀ s H C cl fp, GX (Bk X scope s H C cl fp) T B' ρw tg vs dq ρb) ∧ (∀ s H C cl fp, TXs (Bk X scope s H C cl fp) T B' ρb ifs Wt ρt (some y).isSome) ∧
      (∀ z, some y = some z → ∃ W ρc, (∀ a ∈ W, a ∈ Wc) ∧ owns ρc = owns ρ1 ∧ (∀ s H C cl fp, EX (Bk X scope s H C cl fp) T B' ρt elt W ρc z) ∧ Fg ρc ρw') ∧ (some y = none → Fg ρt ρw') :=
  ⟨ρb, [], ρb, o1, o1, (fun a h => by cases h), h1, h2, fun z hz => by cases hz; exact ⟨W, ρc, hW, o2, h3, h4⟩, fun z => by cases z⟩
/-- a turn whose test draws -/
theorem tD {X : Cx} {T : List TQ} {B' : Bs} {ρ1 ρw ρw' ρb ρt ρc : Sl} {W Wt Wc : List Addr} {scope : Scope} {tg elt : Expr} {ifs : List Expr} {vs : List Nat} {dq y : D} {c : Bool} (h1 : ∀ s H C cl fp, GX (Bk X scope s H C cl fp) T B' ρw tg vs dq ρb) (h2 : ∀ s H C cl fp, TXs (Bk X scope s H C cl fp) T B' ρb ifs Wt ρt c) (h3 : ∀ s H C cl fp, EX (Bk X scope s H C cl fp) T B' ρt elt W ρc y) (h4 : Fg ρc ρw') (h5 : Fg ρt ρw') (hW : ∀ a ∈ W, a ∈ Wc) (hWt : ∀ a ∈ Wt, a ∈ Wc)
    (o1 : owns ρb = owns ρ1 := by rfl) (o2 : owns ρc = owns ρ1 := by rfl) (o3 : owns ρt = owns ρ1 := by rfl) : ∃ ρb Wt ρt, owns ρb = owns ρ1 ∧ owns ρt = owns ρ1 ∧ (∀ a ∈ Wt, a ∈ Wc) ∧ (∀ s H C cl fp, GX (Bk X scope s H C cl fp) T B' ρw tg vs dq ρb) ∧ (∀ s H C cl fp, TXs (Bk X scope s H C cl fp) T B' ρb ifs Wt ρt (if c = true then some y else none).isSome) ∧
      (∀ z, (if c = true then some y else none) = some z → ∃ W ρc, (∀ a ∈ W, a ∈ Wc) ∧ owns ρc = owns ρ1 ∧ (∀ s H C cl fp, EX (Bk X scope s H C cl fp) T B' ρt elt W ρc z) ∧ Fg ρc ρw') ∧ ((if c = true then some y else none) = none → Fg ρt ρw') := by
  refine ⟨ρb, Wt, ρt, o1, o3, hWt, h1, ?_, fun z hz => ?_, fun _ => h5⟩
  · cases c with
    | true => exact h2
    | false => exact h2
  · cases c with
    | true => cases hz; exact ⟨W, ρc, hW, o2, h3, h4⟩
    | false => cases hz
/-- a list against the empty one -/
def rEqE (n : Bool) (K : PySem.W.Frag) : L2.R2 := fun x y H Q => ∃ a b xs, x = .ref a ∧ y = .ref b ∧ SqL K H a xs ∧ SqL K H b [] ∧ Q (.bl (n ^^ xs.isEmpty)) H
section
variable {X : Cx}
theorem op_eqE (hu : X.A.units + 1 < cLine) : OpR X (compareOp .Eq) (rEqE false X.K) := by
  intro pins s σ H x y v u Q I rx ry h
  obtain ⟨a, b, xs, rfl, rfl, h1, h2, q⟩ := h
  cases rx
  cases ry
  obtain ⟨i1, r1, ⟨o1, n1, e1, c1, _, d1⟩, _⟩ := I.list h1
  obtain ⟨i2, r2, ⟨o2, n2, e2, c2, _, d2⟩, _⟩ := I.list h2
  have l1 := r1.length
  have l2 : i2 = [] := List.eq_nil_of_length_eq_zero (by rw [← r2.length]; rfl)
  subst l2
  cases xs with
  | nil =>
    have l3 : i1 = [] := List.eq_nil_of_length_eq_zero (by rw [← l1]; rfl)
    subst l3
    exact PySem.SeqAt.RcAt.lists (e := fun _ => true) ⟨o1, e1, c1, n1, d1⟩ ⟨o2, e2, c2, n2, d2⟩ rfl (by omega) (fun j h1 _ => absurd h1 (Nat.not_lt_zero _)) X.prog X.w X.xe _ ⟨.bl true, H, I, rfl, q⟩
  | cons x xs =>
    cases i1 with
    | nil => cases l1
    | cons z i1 => exact PySem.SeqAt.RcAt.lists_lengths ⟨o1, e1, c1, n1, d1⟩ ⟨o2, e2, c2, n2, d2⟩ (by simp) (by omega) X.prog X.w X.xe _ ⟨.bl false, H, I, rfl, q⟩
theorem op_neE (hu : X.A.units + 1 < cLine) : OpR X (compareOp .NotEq) (rEqE true X.K) := by
  intro pins s σ H x y v u Q I rx ry h
  obtain ⟨a, b, xs, rfl, rfl, h1, h2, q⟩ := h
  cases rx
  cases ry
  obtain ⟨i1, r1, ⟨o1, n1, e1, c1, _, d1⟩, _⟩ := I.list h1
  obtain ⟨i2, r2, ⟨o2, n2, e2, c2, _, d2⟩, _⟩ := I.list h2
  have l1 := r1.length
  have l2 : i2 = [] := List.eq_nil_of_length_eq_zero (by rw [← r2.length]; rfl)
  subst l2
  cases xs with
  | nil =>
    have l3 : i1 = [] := List.eq_nil_of_length_eq_zero (by rw [← l1]; rfl)
    subst l3
    exact PySem.SeqAt.RcNeAt.lists (e := fun _ => true) ⟨o1, e1, c1, n1, d1⟩ ⟨o2, e2, c2, n2, d2⟩ rfl (by omega) (fun j h1 _ => absurd h1 (Nat.not_lt_zero _)) X.prog X.w X.xe _ ⟨.bl false, H, I, rfl, q⟩
  | cons x xs =>
    cases i1 with
    | nil => cases l1
    | cons z i1 => exact PySem.SeqAt.RcNeAt.lists_lengths ⟨o1, e1, c1, n1, d1⟩ ⟨o2, e2, c2, n2, d2⟩ (by simp) (by omega) X.prog X.w X.xe _ ⟨.bl true, H, I, rfl, q⟩
variable {T : List TQ} {B : Bs} {ρ ρ1 : Sl} {W : List Addr} {a b : Expr} {pos : Pos} {ds : List D}
theorem rE {n : Bool} {x y : V} {H : Hp} {Q : VK} (r1 : Rp X.K H x (.list ds)) (r2 : Rp X.K H y (.list [])) (q : Q (.bl (n ^^ ds.isEmpty)) H) : rEqE n X.K x y H Q := by
  cases r1 with
  | lst h1 h2 =>
    cases r2 with
    | lst g1 g2 =>
      cases g2
      refine ⟨_, _, _, rfl, rfl, h1, g1, ?_⟩
      have : (List.isEmpty ds) = List.isEmpty ‹List V› := by cases h2 <;> rfl
      rw [← this]; exact q
theorem ex_eqE (hu : X.A.units + 1 < cLine) (h : R2 X T B ρ a b W ρ1 (.list ds) (.list [])) : EX X T B ρ (.Compare a [.Eq] [b] pos) W ρ1 (.bool ds.isEmpty) :=
  ex_cmp (op_eqE hu) h (nomark _) (fun x y H Q r1 r2 q => rE r1 r2 (by rw [Bool.false_xor]; exact q)) fun _ => .bl _
theorem ex_neE (hu : X.A.units + 1 < cLine) (h : R2 X T B ρ a b W ρ1 (.list ds) (.list [])) : EX X T B ρ (.Compare a [.NotEq] [b] pos) W ρ1 (.bool (!ds.isEmpty)) :=
  ex_cmp (op_neE hu) h (nomark _) (fun x y H Q r1 r2 q => rE r1 r2 (by rw [Bool.true_xor]; exact q)) fun _ => .bl _
theorem tx_eqE (hu : X.A.units + 1 < cLine) (h : R2 X T B ρ a b W ρ1 (.list ds) (.list [])) : TX X T B ρ (.Compare a [.Eq] [b] pos) W ρ1 ds.isEmpty :=
  tx_cmp (op_eqE hu) h (nomark _) (fun x y H Q r1 r2 q => rE r1 r2 (by rw [Bool.false_xor]; exact q))
theorem tx_neE (hu : X.A.units + 1 < cLine) (h : R2 X T B ρ a b W ρ1 (.list ds) (.list [])) : TX X T B ρ (.Compare a [.NotEq] [b] pos) W ρ1 (!ds.isEmpty) :=
  tx_cmp (op_neE hu) h (nomark _) (fun x y H Q r1 r2 q => rE r1 r2 (by rw [Bool.true_xor]; exact q))
end
end Dv

set_option maxRecDepth 100000
namespace Dv
open PySem PySem.Spec PyProof.Rows L2
/-! ## dicts, whatever their keys are: texts, ints, tuples of such -/
section
variable {X : Cx} {pins : List (Addr × Obj)} {σ : L2.St} {H : Hp} {s : Shared} {a : Addr}
theorem inv_tagT (I : L2.Inv X pins σ H s) (h : H a = some (.dK [])) : L2.Inv X pins σ (upd H a (.dT [])) s := by
  obtain ⟨h1, h2, vs, kv, o, es, ep, e1, e2, e3, e4, e5, e6⟩ := I.hok a _ h
  cases kv
  have e7 : es.toList = [] := by
    cases hl : es.toList with
    | nil => rfl
    | cons x r => rw [hl] at e5; cases e5
  exact I.write (t' := s.toks) (by rw [h]; trivial) (.inl rfl) (fun _ _ _ e => e) ⟨_, e1⟩ ⟨Nat.zero_le _, h2, [], .nil, o, es, ep, e1, e2, e3, by rw [e7]; rfl, List.nodup_nil⟩
/-- the empty dict, as one whose keys are tuples -/
theorem emp_dt (I : L2.Inv X pins σ H s) (h : Rd H a (.dK [])) : (a == sysModules) = false ∧ s.heap.DictOfH (tupleKind (mixKind X.prog X.w)) a ([] : List (List Key × Addr × Value)) := by
  obtain ⟨h1, h2, vs, kv, o, es, ep, e1, e2, e3, e4, e5, e6⟩ := Rd.ok h I.hok
  cases kv
  have e7 : es.toList = [] := by
    cases hl : es.toList with
    | nil => rfl
    | cons x r => rw [hl] at e5; cases e5
  exact ⟨h2, o, es, ep, e1, e2, e3, (by rw [e7]; rfl), (fun x hx => by cases hx), List.nodup_nil⟩
/-- what the dict at a holds at the key y; the empty one has no keys of any kind -/
def DGetE (H : Hp) (a : Addr) (y : V) (o : Option V) : Prop := DGet H a y o ∨ (Rd H a (.dK []) ∧ (∃ (b : Addr) (k : List Key), y = .ref b ∧ H b = some (.tup (k.map kV))) ∧ o = none)
variable {m : Addr} {y : V} {u : Value} {o : Option V} {A : Around} {E : Value → Shared → Prop} {Q : Value → Shared → Prop}
theorem in_e (hu : A.units + 1 < cLine) (I : L2.Inv X pins σ H s) (g : DGetE H m y o) (ry : RelV y u) (h : ∀ z, L2.Inv X pins σ H z → Q (.bool o.isSome) z) : wpAny (model X.prog X.w) A (compareOp .In u (.ref m)) Q E s := by
  rcases g with g | ⟨hm, ⟨t, k, ey, ht⟩, eo⟩
  · exact d_in hu I g ry h
  · subst ey eo
    cases (show u = Value.ref t from ry)
    obtain ⟨hd, dd⟩ := emp_dt I hm
    exact wpAny_in_heap (tupleKind_room_in1 hu) (key_of I.hok ht) hd dd (h _ (I.tok _))
theorem notin_e (hu : A.units + 1 < cLine) (I : L2.Inv X pins σ H s) (g : DGetE H m y o) (ry : RelV y u) (h : ∀ z, L2.Inv X pins σ H z → Q (.bool (!o.isSome)) z) : wpAny (model X.prog X.w) A (compareOp .NotIn u (.ref m)) Q E s := by
  rcases g with g | ⟨hm, ⟨t, k, ey, ht⟩, eo⟩
  · exact d_notIn hu I g ry h
  · subst ey eo
    cases (show u = Value.ref t from ry)
    obtain ⟨hd, dd⟩ := emp_dt I hm
    exact wpAny_notIn_heap (tupleKind_room_in1 hu) (key_of I.hok ht) hd dd (h _ (I.tok _))
theorem get2_e {r : Value} {v : V} (hu : A.units + 1 < cLine) (I : L2.Inv X pins σ H s) (g : DGetE H m y o) (ry : RelV y u) (rd : RelV v r) (h : ∀ w z, L2.Inv X pins σ H z → RelV (o.getD v) w → Q w z) : wpAny (model X.prog X.w) A (call (.builtin "dict.get") [.ref m, u, r]) Q E s := by
  rcases g with g | ⟨hm, ⟨t, k, ey, ht⟩, eo⟩
  · exact d_get2 hu I g ry rd h
  · subst ey eo
    cases (show u = Value.ref t from ry)
    obtain ⟨hd, dd⟩ := emp_dt I hm
    exact call_meetsIn PySem.F.slot_dict_get dd.typeIs PySem.F.entry_dict_get (PySem.F.args_dict_get_3 _ _ _) (meetsH_dict_get_default (tupleKind (mixKind X.prog X.w)) m t hd r) ⟨tupleKind_room_in1 hu, k, [], key_of I.hok ht, dd, h _ _ (I.tok _) rd⟩
end

/-! ### how keys are told -/
structure KEn (κ : Type) where
  d : κ → D
  fl : Bool
  fk : κ → Key
  ft : κ → List Key
  hk : fl = true → (∀ k, d k = kD (fk k)) ∧ ∀ a b, fk a = fk b → a = b
  ht : fl = false → (∀ k, d k = .tuple ((ft k).map kD)) ∧ ∀ a b, ft a = ft b → a = b
def eS : KEn Str := ⟨.str, true, .inr, fun _ => [], fun _ => ⟨fun _ => rfl, fun _ _ h => Sum.inr.inj h⟩, fun h => by cases h⟩
def eI : KEn Int := ⟨.int, true, .inl, fun _ => [], fun _ => ⟨fun _ => rfl, fun _ _ h => Sum.inl.inj h⟩, fun h => by cases h⟩
def eN : KEn Nat := ⟨iD, true, fun n => .inl n, fun _ => [], fun _ => ⟨fun _ => rfl, fun _ _ h => Int.ofNat.inj (Sum.inl.inj h)⟩, fun h => by cases h⟩
def eR : KEn (List Int) := ⟨fun r => .tuple (r.map .int), false, fun _ => .inl 0, fun r => r.map .inl, (fun h => by cases h), fun _ => ⟨fun k => by rw [List.map_map]; rfl, fun _ _ h => inl_inj h⟩⟩
def eK : KEn Key := ⟨kD, true, id, fun _ => [], fun _ => ⟨fun _ => rfl, fun _ _ h => h⟩, fun h => by cases h⟩
def eT : KEn (List Key) := ⟨fun r => .tuple (r.map kD), false, fun _ => .inl 0, id, (fun h => by cases h), fun _ => ⟨fun _ => rfl, fun _ _ h => h⟩⟩

section
variable {κ : Type}
/-- a dict's data -/
def prs (E : KEn κ) (kvs : List (κ × D)) : List (D × D) := kvs.map fun q => (E.d q.1, q.2)
abbrev dD (E : KEn κ) (kvs : List (κ × D)) : D := .dict (prs E kvs)
theorem prs_len {E : KEn κ} {kvs : List (κ × D)} : (prs E kvs).length = kvs.length := List.length_map ..
theorem prs_ne {E : KEn κ} {kvs : List (κ × D)} (h : kvs ≠ []) : prs E kvs ≠ [] := fun z => h (List.map_eq_nil_iff.mp z)
abbrev PB {β : Type} (K : PySem.W.Frag) (H : Hp) (g : κ → β) : List (β × V) → List (κ × D) → Prop := Paired fun p q => p.1 = g q.1 ∧ Rp K H p.2 q.2
variable [DecidableEq κ]
def lookE (kvs : List (κ × D)) (k : κ) : Option D := (kvs.find? fun q => decide (q.1 = k)).map (·.2)
def putE (kvs : List (κ × D)) (k : κ) (d : D) : List (κ × D) := if (kvs.any fun q => decide (q.1 = k)) = true then kvs.map (fun q => if q.1 = k then (q.1, d) else q) else kvs ++ [(k, d)]
def mergeE (kvs more : List (κ × D)) : List (κ × D) := more.foldl (fun acc q => putE acc q.1 q.2) kvs
theorem lookE_pos {p : κ × D} {r : List (κ × D)} {k : κ} (e : p.1 = k) : lookE (p :: r) k = some p.2 := by simp [lookE, List.find?_cons, e]
theorem lookE_neg {p : κ × D} {r : List (κ × D)} {k : κ} (e : ¬ p.1 = k) : lookE (p :: r) k = lookE r k := by simp [lookE, List.find?_cons, e]
theorem putE_ne {kvs : List (κ × D)} {k : κ} {d : D} : putE kvs k d ≠ [] := by
  unfold putE
  split
  · rename_i hany
    intro z
    rw [List.map_eq_nil_iff.mp z] at hany; cases hany
  · simp
theorem putE_len {kvs : List (κ × D)} {k : κ} {d : D} : (putE kvs k d).length ≤ kvs.length + 1 := by
  unfold putE
  split
  · rw [List.length_map]; omega
  · simp
section
variable {κ β : Type} {K : PySem.W.Frag} {H : Hp} {g : κ → β}
theorem PB.len {kk : List (β × V)} {ds : List (κ × D)} (h : PB K H g kk ds) : kk.length = ds.length := Paired.length h
theorem PB.mono {H' : Hp} (k : Kp H H') {kk : List (β × V)} {ds : List (κ × D)} (h : PB K H g kk ds) : PB K H' g kk ds := by
  induction h with
  | nil => exact .nil
  | cons r _ ih => exact .cons ⟨r.1, r.2.mono k⟩ ih
theorem PB.at {kk : List (β × V)} {ds : List (κ × D)} (h : PB K H g kk ds) {i : Nat} {p : β × V} (e : kk[i]? = some p) : ∃ q, ds[i]? = some q ∧ p.1 = g q.1 ∧ Rp K H p.2 q.2 := by
  obtain ⟨b, h1, h2⟩ := paired_get h e
  exact ⟨b, h1, h2⟩
theorem PB.vals {kk : List (β × V)} {ds : List (κ × D)} (h : PB K H g kk ds) : RpA K H (kk.map (·.2)) (ds.map (·.2)) := by
  induction h with
  | nil => exact .nil
  | cons r _ ih => exact .cons r.2 ih
theorem PB.keys {kk : List (β × V)} {ds : List (κ × D)} (h : PB K H g kk ds) : kk.map (·.1) = ds.map fun q => g q.1 := by
  induction h with
  | nil => rfl
  | cons r _ ih => rw [List.map_cons, List.map_cons, r.1, ih]
end
variable {β : Type} [DecidableEq β] {K : PySem.W.Frag} {H : Hp} {g : κ → β}
theorem PB.any (hi : ∀ a b, g a = g b → a = b) (k : κ) {kk : List (β × V)} {ds : List (κ × D)} (h : PB K H g kk ds) : (kk.any fun q => decide (q.1 = g k)) = ds.any fun q => decide (q.1 = k) := by
  induction h with
  | nil => rfl
  | cons r t ih =>
    rw [List.any_cons, List.any_cons, ih]
    congr 1
    rw [r.1]
    exact decide_eq_decide.mpr ⟨hi _ _, fun z => by rw [z]⟩
theorem PB.val (hi : ∀ a b, g a = g b → a = b) (k : κ) : ∀ {kk : List (β × V)} {ds : List (κ × D)}, PB K H g kk ds → (valV kk (g k) = none ∧ lookE ds k = none) ∨ ∃ v d, valV kk (g k) = some v ∧ lookE ds k = some d ∧ Rp K H v d
  | _, _, .nil => .inl ⟨rfl, rfl⟩
  | _, _, .cons (a := p) (b := q) (l₁ := pr) (l₂ := qr) r t => by
    by_cases z : q.1 = k
    · exact .inr ⟨p.2, q.2, valV_pos (by rw [r.1, z]), lookE_pos z, r.2⟩
    · rw [valV_neg (p := p) (r := pr) (by rw [r.1]; exact fun y => z (hi _ _ y)), lookE_neg z]
      exact PB.val hi k t
theorem PB.repl (hi : ∀ a b, g a = g b → a = b) {k : κ} {v : V} {d : D} (r : Rp K H v d) : ∀ {kk : List (β × V)} {ds : List (κ × D)}, PB K H g kk ds → PB K H g (kk.map fun kv => if kv.1 = g k then (kv.1, v) else kv) (ds.map (fun q => if q.1 = k then (q.1, d) else q))
  | _, _, .nil => .nil
  | _, _, .cons (a := p) (b := q) r' t => by
    refine .cons ?_ (PB.repl hi r t)
    dsimp only
    by_cases z : q.1 = k
    · rw [if_pos z, if_pos (by rw [r'.1, z])]; exact ⟨r'.1, r⟩
    · rw [if_neg z, if_neg (by rw [r'.1]; exact fun y => z (hi _ _ y))]; exact r'
theorem PB.put (hi : ∀ a b, g a = g b → a = b) {kk : List (β × V)} {ds : List (κ × D)} (h : PB K H g kk ds) {k : κ} {v : V} {d : D} (r : Rp K H v d) : PB K H g (putK kk (g k) v) (putE ds k d) := by
  unfold putK putE
  rw [h.any hi k]
  by_cases z : (ds.any fun q => decide (q.1 = k)) = true
  · rw [if_pos z, if_pos z]; exact PB.repl hi r h
  · rw [if_neg z, if_neg z]; exact Paired.snoc h ⟨rfl, r⟩
end

section
variable {κ : Type} {K : PySem.W.Frag} {H Hm : Hp} {E : KEn κ}
/-- the thing u holds the dict kvs -/
def DH (K : PySem.W.Frag) (Hm : Hp) (E : KEn κ) (u : HO) (kvs : List (κ × D)) : Prop :=
  (E.fl = true ∧ ∃ kk, u = .dK kk ∧ PB K Hm E.fk kk kvs) ∨ (E.fl = false ∧ ((kvs = [] ∧ u = .dK []) ∨ (kvs ≠ [] ∧ ∃ kk, u = .dT kk ∧ PB K Hm E.ft kk kvs)))
theorem DH.mono {Hm' : Hp} (k : Kp Hm Hm') {u : HO} {kvs : List (κ × D)} (h : DH K Hm E u kvs) : DH K Hm' E u kvs := by
  rcases h with ⟨e, kk, r, h⟩ | ⟨e, h | ⟨n, kk, r, h⟩⟩
  · exact .inl ⟨e, kk, r, h.mono k⟩
  · exact .inr ⟨e, .inl h⟩
  · exact .inr ⟨e, .inr ⟨n, kk, r, h.mono k⟩⟩
theorem DH.mut {u : HO} {kvs : List (κ × D)} (h : DH K Hm E u kvs) : mutb u = true ∧ Mut (some u) := by
  rcases h with ⟨e, kk, rfl, h⟩ | ⟨e, ⟨_, rfl⟩ | ⟨n, kk, rfl, h⟩⟩ <;> exact ⟨rfl, trivial⟩
theorem kD_flat {k : Key} {l : List D} : kD k ≠ .tuple l := by cases k <;> exact fun h => by cases h
theorem kD_inj {a b : Key} (h : kD a = kD b) : a = b := by
  cases a <;> cases b <;> first | (cases h; done) | (injection h with h; rw [h])
theorem kDs_inj : ∀ {a b : List Key}, a.map kD = b.map kD → a = b
  | [], [], _ => rfl
  | [], _ :: _, h => by cases h
  | _ :: _, [], h => by cases h
  | x :: a, y :: b, h => by
    obtain ⟨h1, h2⟩ := List.cons.inj h
    rw [kD_inj h1, kDs_inj h2]
theorem pb_ofK (hf : E.fl = true) : ∀ {kvs : List (κ × D)} {kk : List (Key × V)}, RpK K Hm kk (prs E kvs) → PB K Hm E.fk kk kvs
  | [], _, h => by
    generalize hL : prs E ([] : List (κ × D)) = L at h
    cases h with
    | nil => exact .nil
    | cons _ _ => cases hL
  | q :: kvs, _, h => by
    have h : RpK K Hm _ ((E.d q.1, q.2) :: prs E kvs) := h
    generalize hL : (E.d q.1, q.2) :: prs E kvs = L at h
    cases h with
    | nil => cases hL
    | cons h1 h2 =>
      obtain ⟨e1, e2⟩ := List.cons.inj hL
      have ek := (congrArg Prod.fst e1)
      have ed := (congrArg Prod.snd e1)
      dsimp only at ek ed
      rw [(E.hk hf).1] at ek
      subst ed e2
      exact .cons ⟨(kD_inj ek).symm, h1⟩ (pb_ofK hf h2)
theorem pb_ofT (hf : E.fl = false) : ∀ {kvs : List (κ × D)} {kk : List (List Key × V)}, RpT K Hm kk (prs E kvs) → PB K Hm E.ft kk kvs
  | [], _, h => by
    generalize hL : prs E ([] : List (κ × D)) = L at h
    cases h with
    | nil => exact .nil
    | cons _ _ => cases hL
  | q :: kvs, _, h => by
    have h : RpT K Hm _ ((E.d q.1, q.2) :: prs E kvs) := h
    generalize hL : (E.d q.1, q.2) :: prs E kvs = L at h
    cases h with
    | nil => cases hL
    | cons h1 h2 =>
      obtain ⟨e1, e2⟩ := List.cons.inj hL
      have ek := (congrArg Prod.fst e1)
      have ed := (congrArg Prod.snd e1)
      dsimp only at ek ed
      rw [(E.ht hf).1] at ek
      injection ek with ek
      subst ed e2
      exact .cons ⟨(kDs_inj ek).symm, h1⟩ (pb_ofT hf h2)
theorem pb_K (hf : E.fl = true) {kvs : List (κ × D)} {kk : List (Key × V)} (h : PB K Hm E.fk kk kvs) : RpK K Hm kk (prs E kvs) := by
  induction h with
  | nil => exact .nil
  | cons r _ ih =>
    rename_i p q l1 l2 _
    obtain ⟨k, v⟩ := p
    have e : k = E.fk q.1 := r.1
    subst e
    show RpK K Hm _ ((E.d q.1, q.2) :: prs E _)
    rw [(E.hk hf).1]
    exact .cons r.2 ih
theorem pb_T (hf : E.fl = false) {kvs : List (κ × D)} {kk : List (List Key × V)} (h : PB K Hm E.ft kk kvs) : RpT K Hm kk (prs E kvs) := by
  induction h with
  | nil => exact .nil
  | cons r _ ih =>
    rename_i p q l1 l2 _
    obtain ⟨k, v⟩ := p
    have e : k = E.ft q.1 := r.1
    subst e
    show RpT K Hm _ ((E.d q.1, q.2) :: prs E _)
    rw [(E.ht hf).1]
    exact .cons r.2 ih
theorem dh_ofK {kvs : List (κ × D)} {kk : List (Key × V)} (h : RpK K Hm kk (prs E kvs)) : DH K Hm E (.dK kk) kvs := by
  cases hf : E.fl with
  | true => exact .inl ⟨hf, kk, rfl, pb_ofK hf h⟩
  | false =>
    refine .inr ⟨hf, ?_⟩
    cases kvs with
    | nil =>
      generalize hL : prs E ([] : List (κ × D)) = L at h
      cases h with
      | nil => exact .inl ⟨rfl, rfl⟩
      | cons _ _ => cases hL
    | cons q kvs =>
      exfalso
      have h : RpK K Hm _ ((E.d q.1, q.2) :: prs E kvs) := h
      generalize hL : (E.d q.1, q.2) :: prs E kvs = L at h
      cases h with
      | nil => cases hL
      | cons h1 h2 =>
        have ek := congrArg Prod.fst (List.cons.inj hL).1
        dsimp only at ek
        rw [(E.ht hf).1] at ek
        exact kD_flat ek.symm
theorem dh_ofT {kvs : List (κ × D)} {kk : List (List Key × V)} (n : prs E kvs ≠ []) (h : RpT K Hm kk (prs E kvs)) : DH K Hm E (.dT kk) kvs := by
  have n' : kvs ≠ [] := fun z => n (by rw [z]; rfl)
  cases hf : E.fl with
  | false => exact .inr ⟨hf, .inr ⟨n', kk, rfl, pb_ofT hf h⟩⟩
  | true =>
    exfalso
    cases kvs with
    | nil => exact n' rfl
    | cons q kvs =>
      have h : RpT K Hm _ ((E.d q.1, q.2) :: prs E kvs) := h
      generalize hL : (E.d q.1, q.2) :: prs E kvs = L at h
      cases h with
      | nil => cases hL
      | cons h1 h2 =>
        have ek := congrArg Prod.fst (List.cons.inj hL).1
        dsimp only at ek
        rw [(E.hk hf).1] at ek
        exact kD_flat ek
/-- a dict that is data -/
theorem dh_rp {v : V} {kvs : List (κ × D)} (r : Rp K Hm v (dD E kvs)) : ∃ m u od, v = .ref m ∧ Hm m = some (.frz od u) ∧ DH K Hm E u kvs := by
  generalize hd : dD E kvs = d at r
  cases r with
  | dk h1 h2 =>
    cases hd
    obtain ⟨od, h1⟩ := h1
    exact ⟨_, _, od, rfl, h1, dh_ofK h2⟩
  | dt n h1 h2 =>
    cases hd
    obtain ⟨od, h1⟩ := h1
    exact ⟨_, _, od, rfl, h1, dh_ofT n h2⟩
  | _ => cases hd
theorem rp_dh {m : Addr} {u : HO} {kvs : List (κ × D)} (h : Fz Hm m u) (q : DH K Hm E u kvs) : Rp K Hm (.ref m) (dD E kvs) := by
  rcases q with ⟨e, kk, rfl, q⟩ | ⟨e, ⟨rfl, rfl⟩ | ⟨n, kk, rfl, q⟩⟩
  · exact .dk h (pb_K e q)
  · exact .dk h .nil
  · exact .dt (prs_ne n) h (pb_T e q)
theorem dh_hold {m : Addr} {kvs : List (κ × D)} (h : Hold K H Hm m (dD E kvs)) : ∃ u, H m = some u ∧ DH K Hm E u kvs := by
  rcases h with ⟨kk, e, r⟩ | ⟨n, kk, e, r⟩
  · exact ⟨_, e, dh_ofK r⟩
  · exact ⟨_, e, dh_ofT n r⟩
theorem hold_dh {m : Addr} {u : HO} {kvs : List (κ × D)} (h : H m = some u) (q : DH K Hm E u kvs) : Hold K H Hm m (dD E kvs) := by
  rcases q with ⟨e, kk, rfl, q⟩ | ⟨e, ⟨rfl, rfl⟩ | ⟨n, kk, rfl, q⟩⟩
  · exact .inl ⟨_, h, pb_K e q⟩
  · exact .inl ⟨_, h, .nil⟩
  · exact .inr ⟨prs_ne n, _, h, pb_T e q⟩
/-- a key as it stands -/
theorem key_flat {v : V} {k : κ} (hf : E.fl = true) (r : Rp K Hm v (E.d k)) : v = kV (E.fk k) := by
  rw [(E.hk hf).1] at r
  cases hk : E.fk k with
  | inl i => rw [hk] at r; exact int_of r
  | inr x => rw [hk] at r; exact str_of r
theorem keys_flat : ∀ {ks : List Key} {xs : List V}, RpA K Hm xs (ks.map kD) → xs = ks.map kV
  | [], _, h => by cases h; rfl
  | k :: ks, _, .cons h t => by
    rw [keys_flat t]
    cases k with
    | inl i => rw [int_of h]; rfl
    | inr x => rw [str_of h]; rfl
theorem keys_rp : ∀ {ks : List Key}, RpA K Hm (ks.map kV) (ks.map kD)
  | [] => .nil
  | .inl i :: ks => .cons (.int i) keys_rp
  | .inr x :: ks => .cons (.str x) keys_rp
theorem key_tup {v : V} {k : κ} (hf : E.fl = false) (r : Rp K Hm v (E.d k)) : ∃ b, v = .ref b ∧ Hm b = some (.tup ((E.ft k).map kV)) := by
  rw [(E.ht hf).1] at r
  generalize hd : D.tuple ((E.ft k).map kD) = d at r
  cases r with
  | tup h1 h2 =>
    cases hd
    exact ⟨_, rfl, by rw [← keys_flat h2]; exact h1⟩
  | _ => cases hd
variable [DecidableEq κ]
/-- what a dict answers at a key -/
theorem dh_get {m : Addr} {u : HO} {kvs : List (κ × D)} {v : V} {k : κ} (hs : ∀ x o, Hm x = some o → H x = some o) (hm : Rd H m u) (q : DH K Hm E u kvs) (rk : Rp K Hm v (E.d k)) :
    ∃ o, DGetE H m v o ∧ ((o = none ∧ lookE kvs k = none) ∨ ∃ x d, o = some x ∧ lookE kvs k = some d ∧ Rp K Hm x d) := by
  rcases q with ⟨e, kk, rfl, q⟩ | ⟨e, ⟨rfl, rfl⟩ | ⟨n, kk, rfl, q⟩⟩
  · refine ⟨valV kk (E.fk k), .inl (.inl ⟨kk, E.fk k, hm, key_flat e rk, rfl⟩), ?_⟩
    rcases q.val (E.hk e).2 k with ⟨e1, e2⟩ | ⟨x, d, e1, e2, e3⟩
    · exact .inl ⟨e1, e2⟩
    · exact .inr ⟨x, d, e1, e2, e3⟩
  · obtain ⟨b, rfl, hb⟩ := key_tup e rk
    exact ⟨none, .inr ⟨hm, ⟨b, _, rfl, hs _ _ hb⟩, rfl⟩, .inl ⟨rfl, rfl⟩⟩
  · obtain ⟨b, rfl, hb⟩ := key_tup e rk
    refine ⟨valV kk (E.ft k), .inl (.inr ⟨kk, E.ft k, b, hm, rfl, hs _ _ hb, rfl⟩), ?_⟩
    rcases q.val (E.ht e).2 k with ⟨e1, e2⟩ | ⟨x, d, e1, e2, e3⟩
    · exact .inl ⟨e1, e2⟩
    · exact .inr ⟨x, d, e1, e2, e3⟩
/-- d[k] = v; the empty dict takes keys of any kind -/
def DPutE (H : Hp) (m : Addr) (y v : V) (H' : Hp) : Prop := DPut H m y v H' ∨ (H m = some (.dK []) ∧ DPut (upd H m (.dT [])) m y v H')
theorem dh_put {m : Addr} {u : HO} {kvs : List (κ × D)} {v x : V} {k : κ} {d : D} (hs : ∀ x o, Hm x = some o → H x = some o) (hm : H m = some u) (q : DH K Hm E u kvs) (rk : Rp K Hm v (E.d k)) (rx : Rp K Hm x d) (hl : kvs.length < sizeLine) :
    ∃ u', DPutE H m v x (upd H m u') ∧ DH K Hm E u' (putE kvs k d) := by
  rcases q with ⟨e, kk, rfl, q⟩ | ⟨e, ⟨rfl, rfl⟩ | ⟨n, kk, rfl, q⟩⟩
  · exact ⟨_, .inl (.inl ⟨kk, E.fk k, hm, key_flat e rk, by rw [q.len]; exact hl, rfl⟩), .inl ⟨e, _, rfl, q.put (E.hk e).2 rx⟩⟩
  · obtain ⟨b, rfl, hb⟩ := key_tup e rk
    have ne : b ≠ m := fun z => by
      have := hs _ _ hb
      rw [z, hm] at this; cases this
    refine ⟨.dT (putK [] (E.ft k) x), .inr ⟨hm, .inr ⟨[], E.ft k, b, upd_same, rfl, by rw [upd_ne ne]; exact hs _ _ hb, (by show 0 < sizeLine; decide), by rw [upd_upd]⟩⟩, .inr ⟨e, .inr ⟨putE_ne, _, rfl, ?_⟩⟩⟩
    exact PB.put (E.ht e).2 .nil rx
  · obtain ⟨b, rfl, hb⟩ := key_tup e rk
    exact ⟨_, .inl (.inr ⟨kk, E.ft k, b, hm, rfl, hs _ _ hb, by rw [q.len]; exact hl, rfl⟩), .inr ⟨e, .inr ⟨putE_ne, _, rfl, q.put (E.ht e).2 rx⟩⟩⟩
end

/-! ### the rules -/
section
variable {X : Cx} {T : List TQ} {B : Bs} {ρ ρ1 ρ2 ρ3 : Sl} {W W1 W2 W3 : List Addr} {e a b c f : Expr} {d d1 d2 : D} {pos p px apos : Pos} {x : Str} {κ : Type} [DecidableEq κ] {E : KEn κ} {k : κ} {kvs : List (κ × D)} {l : Addr} {i : Nat} {kd : DE} {r : List Stmt}
theorem tDGetE_of {td ty : TE} (hu : X.A.units + 1 < cLine) (ho : PE X a td) (hi : PE X b ty) (hs : NoSl b) : PE X (.Subscript a b pos) (fun σ H Q => td σ H fun v H1 => ty σ H1 fun y H2 => ∃ m w, v = .ref m ∧ DGetE H2 m y (some w) ∧ Q w H2) :=
  PE.imp (pe_dget hu ho hi hs) fun σ H Q h => PE_mono2 h
where
  PE_mono2 {σ : L2.St} {H : Hp} {Q : VK} {td ty : TE} (h : td σ H fun v H1 => ty σ H1 fun y H2 => ∃ m w, v = .ref m ∧ DGetE H2 m y (some w) ∧ Q w H2) : tDGet td ty σ H Q := by
    have e : (fun (v : V) (H1 : Hp) => ty σ H1 fun y H2 => ∃ m w, v = V.ref m ∧ DGetE H2 m y (some w) ∧ Q w H2) = (fun v H1 => ty σ H1 fun y H2 => ∃ m w, v = V.ref m ∧ DGet H2 m y (some w) ∧ Q w H2) := by
      funext v H1
      congr 1
      funext y H2
      refine propext ⟨fun ⟨m, w, e1, g, q⟩ => ?_, fun ⟨m, w, e1, g, q⟩ => ⟨m, w, e1, .inl g, q⟩⟩
      rcases g with g | ⟨_, _, z⟩
      · exact ⟨m, w, e1, g, q⟩
      · cases z
    rw [e] at h
    exact h
/-- d[k] -/
theorem ex_dget (hu : X.A.units + 1 < cLine) (ha : EX X T B ρ a W1 ρ1 (dD E kvs)) (hb : EX X T B ρ1 b W2 ρ2 (E.d k)) (hl : lookE kvs k = some d) (hs : NoSl b := by exact fun _ _ => rfl) :
    EX X T B ρ (.Subscript a b pos) (W1 ++ W2) ρ2 d := by
  refine ⟨PE.imp (tDGetE_of hu ha.run hb.run hs) fun σ H Q ⟨S, q⟩ => ⟨S, fun x H1 S1 f1 r1 => ⟨S1, fun y H2 S2 f2 r2 => ?_⟩⟩, hb.own.trans ha.own, sub_app ha.sub ha.own hb.sub⟩
  obtain ⟨m, u, od, rfl, hm, hq⟩ := dh_rp (carry hb f2 r1)
  obtain ⟨o, g, h⟩ := dh_get (H := H2) (fun x o z => (msk_some z).2) (.inr ⟨od, (msk_some hm).2⟩) hq r2
  rcases h with ⟨_, z⟩ | ⟨w, d', rfl, h2, h3⟩
  · rw [hl] at z; cases z
  · rw [hl] at h2
    cases h2
    exact ⟨m, w, rfl, g, q w H2 S2 (f1.trans f2) h3⟩
def tInE (n : Bool) (ty td : TE) : TE := fun σ H Q => ty σ H fun y H1 => td σ H1 fun x H2 => ∃ m o, x = .ref m ∧ DGetE H2 m y o ∧ Q (.bl (n ^^ o.isSome)) H2
theorem pc_inE {td ty : TE} (hu : X.A.units + 1 < cLine) (hk : PE X a ty) (hd : PE X b td) : PC X .In a b (tInE false ty td) :=
  ⟨fun pins s σ H Q I h => thn (hk.run pins s σ H _ I h) fun kv s1 ⟨y, H1, I1, ry, q1⟩ => thn (hd.run pins s1 σ H1 _ I1 q1) fun dv s2 ⟨x, H2, I2, rx, m, o, ex, g, q2⟩ => by
    subst ex
    obtain rfl : dv = Value.ref m := rx
    exact in_e hu I2 g ry fun s3 I3 => ⟨_, H2, I3, by rw [Bool.false_xor]; rfl, q2⟩⟩
theorem pc_notinE {td ty : TE} (hu : X.A.units + 1 < cLine) (hk : PE X a ty) (hd : PE X b td) : PC X .NotIn a b (tInE true ty td) :=
  ⟨fun pins s σ H Q I h => thn (hk.run pins s σ H _ I h) fun kv s1 ⟨y, H1, I1, ry, q1⟩ => thn (hd.run pins s1 σ H1 _ I1 q1) fun dv s2 ⟨x, H2, I2, rx, m, o, ex, g, q2⟩ => by
    subst ex
    obtain rfl : dv = Value.ref m := rx
    exact notin_e hu I2 g ry fun s3 I3 => ⟨_, H2, I3, by rw [Bool.true_xor]; rfl, q2⟩⟩
theorem some_eq {kvs : List (κ × D)} {o : Option V} {K : PySem.W.Frag} {Hm : Hp} (h : (o = none ∧ lookE kvs k = none) ∨ ∃ x d, o = some x ∧ lookE kvs k = some d ∧ Rp K Hm x d) : o.isSome = (lookE kvs k).isSome := by
  rcases h with ⟨e1, e2⟩ | ⟨x, d, e1, e2, _⟩ <;> rw [e1, e2] <;> rfl
/-- k in d, k not in d -/
theorem tx_din (hu : X.A.units + 1 < cLine) (ha : EX X T B ρ a W1 ρ1 (E.d k)) (hb : EX X T B ρ1 b W2 ρ2 (dD E kvs)) (hm : behindInMarks .In b = false := by rfl) : TX X T B ρ (.Compare a [.In] [b] pos) (W1 ++ W2) ρ2 (lookE kvs k).isSome := by
  refine ⟨PT.imp (pt_cmp (pc_inE hu ha.run hb.run) hm) fun σ H Q ⟨S, q⟩ => ⟨S, fun x H1 S1 f1 r1 => ⟨S1, fun y H2 S2 f2 r2 => ?_⟩⟩, hb.own.trans ha.own, sub_app ha.sub ha.own hb.sub⟩
  obtain ⟨m, u, od, rfl, hm, hq⟩ := dh_rp r2
  obtain ⟨o, g, h⟩ := dh_get (H := H2) (fun x o z => (msk_some z).2) (.inr ⟨od, (msk_some hm).2⟩) hq (carry hb f2 r1)
  exact ⟨m, o, rfl, g, _, rfl, by rw [Bool.false_xor, some_eq h]; exact q H2 S2 (f1.trans f2)⟩
theorem tx_dnotin (hu : X.A.units + 1 < cLine) (ha : EX X T B ρ a W1 ρ1 (E.d k)) (hb : EX X T B ρ1 b W2 ρ2 (dD E kvs)) (hm : behindInMarks .NotIn b = false := by rfl) : TX X T B ρ (.Compare a [.NotIn] [b] pos) (W1 ++ W2) ρ2 (!(lookE kvs k).isSome) := by
  refine ⟨PT.imp (pt_cmp (pc_notinE hu ha.run hb.run) hm) fun σ H Q ⟨S, q⟩ => ⟨S, fun x H1 S1 f1 r1 => ⟨S1, fun y H2 S2 f2 r2 => ?_⟩⟩, hb.own.trans ha.own, sub_app ha.sub ha.own hb.sub⟩
  obtain ⟨m, u, od, rfl, hm, hq⟩ := dh_rp r2
  obtain ⟨o, g, h⟩ := dh_get (H := H2) (fun x o z => (msk_some z).2) (.inr ⟨od, (msk_some hm).2⟩) hq (carry hb f2 r1)
  exact ⟨m, o, rfl, g, _, rfl, by rw [Bool.true_xor, some_eq h]; exact q H2 S2 (f1.trans f2)⟩
/-- .. an owned dict -/
theorem getO (i : Nat) {key : Expr} (hu : X.A.units + 1 < cLine) (hk : EX X T B ρ key [] ρ (E.d k)) (hl : lookE kvs k = some d) (h1 : ρ[i]? = some (.own l (dD E kvs)) := by rfl)
    (hN : X.N[i]? = some x := by rfl) (hvs : Vis X.env.scope x := by first | exact Or.inl rfl | exact Or.inr (Or.inl rfl) | exact Or.inr (Or.inr rfl)) (hd : (x == ("__debug__" : Str)) = false := by decide) (hcd : (x == ("__classdict__" : Str)) = false := by decide) (hs : NoSl key := by exact fun _ _ => rfl) :
    EX X T B ρ (.Subscript (.Name x px) key pos) [] ρ d := by
  refine ⟨PE.imp (tDGetE_of hu (pe_var hN hvs hd hcd) hk.run hs) fun σ H Q ⟨S, q⟩ => ?_, rfl, sub_nil⟩
  obtain ⟨q1, _⟩ := S.at_ i _ h1
  refine ⟨.ref l, slot_of (K := X.K) (H := H) q1, S, fun y H2 S2 f2 ry => ?_⟩
  obtain ⟨u, hm, hq⟩ := dh_hold (S2.at_ i _ h1).2
  obtain ⟨o, g, h⟩ := dh_get (H := H2) (fun x o z => (msk_some z).2) (.inl hm) hq ry
  rcases h with ⟨_, z⟩ | ⟨w, d', rfl, h2, h3⟩
  · rw [hl] at z; cases z
  · rw [hl] at h2
    cases h2
    exact ⟨l, w, rfl, g, q w H2 S2 f2 h3⟩
theorem inO (i : Nat) (hu : X.A.units + 1 < cLine) (hk : EX X T B ρ a W ρ1 (E.d k)) (h1 : ρ1[i]? = some (.own l (dD E kvs)) := by rfl)
    (hN : X.N[i]? = some x := by rfl) (hvs : Vis X.env.scope x := by first | exact Or.inl rfl | exact Or.inr (Or.inl rfl) | exact Or.inr (Or.inr rfl)) (hd : (x == ("__debug__" : Str)) = false := by decide) (hcd : (x == ("__classdict__" : Str)) = false := by decide) (hm : behindInMarks .In (.Name x px) = false := by rfl) :
    TX X T B ρ (.Compare a [.In] [.Name x px] pos) W ρ1 (lookE kvs k).isSome := by
  refine ⟨PT.imp (pt_cmp (pc_inE hu hk.run (pe_var hN hvs hd hcd)) hm) fun σ H Q ⟨S, q⟩ => ⟨S, fun y H1 S1 f1 ry => ?_⟩, hk.own, hk.sub⟩
  obtain ⟨q1, q2⟩ := S1.at_ i _ h1
  obtain ⟨u, hm, hq⟩ := dh_hold q2
  obtain ⟨o, g, h⟩ := dh_get (H := H1) (fun x o z => (msk_some z).2) (.inl hm) hq ry
  exact ⟨.ref l, slot_of (K := X.K) (H := H) q1, l, o, rfl, g, _, rfl, by rw [Bool.false_xor, some_eq h]; exact q H1 S1 f1⟩
theorem notinO (i : Nat) (hu : X.A.units + 1 < cLine) (hk : EX X T B ρ a W ρ1 (E.d k)) (h1 : ρ1[i]? = some (.own l (dD E kvs)) := by rfl)
    (hN : X.N[i]? = some x := by rfl) (hvs : Vis X.env.scope x := by first | exact Or.inl rfl | exact Or.inr (Or.inl rfl) | exact Or.inr (Or.inr rfl)) (hd : (x == ("__debug__" : Str)) = false := by decide) (hcd : (x == ("__classdict__" : Str)) = false := by decide) (hm : behindInMarks .NotIn (.Name x px) = false := by rfl) :
    TX X T B ρ (.Compare a [.NotIn] [.Name x px] pos) W ρ1 (!(lookE kvs k).isSome) := by
  refine ⟨PT.imp (pt_cmp (pc_notinE hu hk.run (pe_var hN hvs hd hcd)) hm) fun σ H Q ⟨S, q⟩ => ⟨S, fun y H1 S1 f1 ry => ?_⟩, hk.own, hk.sub⟩
  obtain ⟨q1, q2⟩ := S1.at_ i _ h1
  obtain ⟨u, hm, hq⟩ := dh_hold q2
  obtain ⟨o, g, h⟩ := dh_get (H := H1) (fun x o z => (msk_some z).2) (.inl hm) hq ry
  exact ⟨.ref l, slot_of (K := X.K) (H := H) q1, l, o, rfl, g, _, rfl, by rw [Bool.true_xor, some_eq h]; exact q H1 S1 f1⟩
/-- m.get(key, other) -/
def tGet2E (td ty tx : TE) : TE := fun σ H Q => td σ H fun x H1 => ∃ m, x = .ref m ∧ IsD H1 m ∧ ty σ H1 fun y H2 => tx σ H2 fun z H3 => ∃ o, DGetE H3 m y o ∧ Q (o.getD z) H3
theorem pe_get2E {o : Expr} {td ty tx : TE} (hu : X.A.units + 1 < cLine) (ho : PE X o td) (he : PE X e ty) (hf : PE X f tx) (m : M2 X o "get" apos e f pos) : PE X (.Call (.Attribute o "get" apos) [e, f] [] pos) (tGet2E td ty tx) := by
  refine ⟨fun pins s σ H Q I h => ?_⟩
  refine wpAny_Call_method m.base m.few m.line PySem.F.plainAttrs_dict PySem.F.slot_dict_get PySem.F.type_dict_get (thn (ho.run pins s σ H _ I h) fun dv s1 ⟨z, H1, I1, rz, mm, ez, isd, q1⟩ => ?_)
  subst ez
  obtain rfl : dv = Value.ref mm := rz
  have tt := isD_at I1 isd
  refine ⟨tt.1, tt.2.1, ?_⟩
  rw [m.trees]
  exact Calls.callWith_builtin rfl (Calls.evalArgs_plain (Calls.spliced_cons (thn (he.run pins s1 σ H1 _ I1 q1) fun kv s2 ⟨y, H2, I2, ry, q2⟩ =>
    Calls.spliced_cons (thn (hf.run pins s2 σ H2 _ I2 q2) fun fv s3 ⟨w, H3, I3, rw_, ov, g, q3⟩ => Calls.spliced_nil (get2_e hu I3 g ry rw_ fun w' s4 I4 rw' => ⟨_, H3, I4, rw', q3⟩)))))
theorem dh_isd {K : PySem.W.Frag} {Hm H : Hp} {m : Addr} {u : HO} (hm : Rd H m u) (q : DH K Hm E u kvs) : IsD H m := by
  rcases q with ⟨e, kk, rfl, q⟩ | ⟨e, ⟨rfl, rfl⟩ | ⟨n, kk, rfl, q⟩⟩
  · exact .inl ⟨_, hm⟩
  · exact .inl ⟨_, hm⟩
  · exact .inr ⟨_, hm⟩
theorem get_or {kvs : List (κ × D)} {o : Option V} {K : PySem.W.Frag} {Hm : Hp} {z : V} (h : (o = none ∧ lookE kvs k = none) ∨ ∃ x d, o = some x ∧ lookE kvs k = some d ∧ Rp K Hm x d) (rz : Rp K Hm z d) : Rp K Hm (o.getD z) ((lookE kvs k).getD d) := by
  rcases h with ⟨e1, e2⟩ | ⟨x, d, e1, e2, h⟩
  · rw [e1, e2]; exact rz
  · rw [e1, e2]; exact h
theorem ex_get2 (hu : X.A.units + 1 < cLine) (ha : EX X T B ρ a W1 ρ1 (dD E kvs)) (hb : EX X T B ρ1 b W2 ρ2 (E.d k)) (hf : EX X T B ρ2 f W3 ρ3 d) (m : M2 X a "get" apos b f pos := by exact ⟨rfl, rfl, rfl, rfl⟩) :
    EX X T B ρ (.Call (.Attribute a "get" apos) [b, f] [] pos) (W1 ++ (W2 ++ W3)) ρ3 ((lookE kvs k).getD d) := by
  refine ⟨PE.imp (pe_get2E hu ha.run hb.run hf.run m) fun σ H Q ⟨S, q⟩ => ⟨S, fun v H1 S1 f1 r1 => ?_⟩, hf.own.trans (hb.own.trans ha.own), sub_app ha.sub ha.own (sub_app hb.sub hb.own hf.sub)⟩
  obtain ⟨m1, u1, od1, e1, hm1, hq1⟩ := dh_rp r1
  refine ⟨m1, e1, dh_isd (.inr ⟨od1, (msk_some hm1).2⟩) hq1, S1, fun y H2 S2 f2 r2 => ⟨S2, fun z H3 S3 f3 r3 => ?_⟩⟩
  obtain ⟨m, u, od, e2, hm, hq⟩ := dh_rp (carry hf f3 (carry hb f2 r1))
  rw [e1] at e2
  cases e2
  obtain ⟨o, g, h⟩ := dh_get (H := H3) (fun x o z => (msk_some z).2) (.inr ⟨od, (msk_some hm).2⟩) hq (carry hf f3 r2)
  exact ⟨o, g, q _ H3 S3 (f1.trans (f2.trans f3)) (get_or h r3)⟩
theorem get2O (i : Nat) (hu : X.A.units + 1 < cLine) (hb : EX X T B ρ b [] ρ (E.d k)) (hf : EX X T B ρ f [] ρ d) (h1 : ρ[i]? = some (.own l (dD E kvs)) := by rfl)
    (hN : X.N[i]? = some x := by rfl) (hvs : Vis X.env.scope x := by first | exact Or.inl rfl | exact Or.inr (Or.inl rfl) | exact Or.inr (Or.inr rfl)) (hd : (x == ("__debug__" : Str)) = false := by decide) (hcd : (x == ("__classdict__" : Str)) = false := by decide) (m : M2 X (.Name x px) "get" apos b f pos := by exact ⟨rfl, rfl, rfl, rfl⟩) :
    EX X T B ρ (.Call (.Attribute (.Name x px) "get" apos) [b, f] [] pos) [] ρ ((lookE kvs k).getD d) := by
  refine ⟨PE.imp (pe_get2E hu (pe_var hN hvs hd hcd) hb.run hf.run m) fun σ H Q ⟨S, q⟩ => ?_, rfl, sub_nil⟩
  obtain ⟨q1, q2⟩ := S.at_ i _ h1
  obtain ⟨u0, hm0, hq0⟩ := dh_hold q2
  refine ⟨.ref l, slot_of (K := X.K) (H := H) q1, l, rfl, dh_isd (.inl hm0) hq0, S, fun y H2 S2 f2 r2 => ⟨S2, fun z H3 S3 f3 r3 => ?_⟩⟩
  obtain ⟨u, hm, hq⟩ := dh_hold (S3.at_ i _ h1).2
  obtain ⟨o, g, h⟩ := dh_get (H := H3) (fun x o z => (msk_some z).2) (.inl hm) hq (carry hf f3 r2)
  exact ⟨o, g, q _ H3 S3 (f2.trans f3) (get_or h r3)⟩
/-! ### an owned dict written -/
def sPutE (td ty tv : TE) : L2.TS := fun D σ H => tv σ H fun v H1 => td σ H1 fun x H2 => ty σ H2 fun y H3 => ∃ m H4, x = .ref m ∧ DPutE H3 m y v H4 ∧ D.nx σ H4
theorem ps_putE {o i value : Expr} {pos' : Pos} {td ty tv : TE} (hu : X.A.units + 1 < cLine) (ho : PE X o td) (hi : PE X i ty) (hv : PE X value tv) (hs : swapsWith value (some (.Subscript o i pos')) pos.line X.env = pure false) : PS X (.Assign [.Subscript o i pos'] value pos) (sPutE td ty tv) := by
  refine ⟨fun pins s σ H E I h => ?_⟩
  refine wpAny_Assign_Subscript (thn (hv.run pins s σ H _ I h) fun w s1 ⟨v, H1, I1, rv, q1⟩ => thn (ho.run pins s1 σ H1 _ I1 q1) fun u s2 ⟨z, H2, I2, rz, q2⟩ => thn (hi.run pins s2 σ H2 _ I2 q2) fun kv s3 ⟨y, H3, I3, ry, m, H4, ez, g, q3⟩ => ?_) hs
  subst ez
  obtain rfl : u = Value.ref m := rz
  rcases g with g | ⟨hm, g⟩
  · exact d_setItem hu I3 g ry rv fun s4 I4 => ⟨σ, H4, I4, q3⟩
  · exact d_setItem hu (inv_tagT I3 hm) g ry rv fun s4 I4 => ⟨σ, H4, I4, q3⟩
/-- x[key] = value, x an owned dict -/
theorem put (i : Nat) {value key : Expr} {pos' : Pos} (hu : X.A.units + 1 < cLine) (hv : EX X T B ρ value W ρ1 d) (hk : EX X T B ρ1 key [] ρ1 (E.d k)) (hl : kvs.length < sizeLine)
    (hr : SXs X T B (ρ1.set i (.own l (dD E (putE kvs k d)))) r kd) (h1 : ρ1[i]? = some (.own l (dD E kvs)) := by rfl) (hN : X.N[i]? = some x := by rfl) (hvs : Vis X.env.scope x := by first | exact Or.inl rfl | exact Or.inr (Or.inl rfl) | exact Or.inr (Or.inr rfl)) (hd : (x == ("__debug__" : Str)) = false := by decide) (hcd : (x == ("__classdict__" : Str)) = false := by decide)
    (hs : swapsWith value (some (.Subscript (.Name x px) key pos')) pos.line X.env = pure false := by rfl) : SXs X T B ρ (.Assign [.Subscript (.Name x px) key pos'] value pos :: r) kd := by
  refine PSs.imp (pss_cons (ps_putE hu (pe_var hN hvs hd hcd) hk.run hv.run hs) hr) fun E' σ H ⟨S, q⟩ => ⟨S, fun v H1 S1 f1 rv => ?_⟩
  obtain ⟨q1, q2⟩ := S1.at_ i _ h1
  refine ⟨.ref l, slot_of (K := X.K) (H := H) q1, S1, fun y H2 S2 f2 ry => ?_⟩
  have rv2 := carry hk f2 rv
  obtain ⟨u, hm, hq⟩ := dh_hold (S2.at_ i _ h1).2
  obtain ⟨u', g, hq'⟩ := dh_put (H := H2) (fun x o z => (msk_some z).2) hm hq ry rv2 hl
  exact ⟨l, _, rfl, g, sim_write S2 h1 hq'.mut.1 (hold_dh upd_same hq'), q⟩
end
end Dv

set_option maxRecDepth 100000
namespace Dv
open PySem PySem.Spec PyProof.Rows L2
/-! ### a text walked sign by sign -/
/-- one sign -/
def sg (c : Nat) : Str := ⟨#[c]⟩
def sgD (c : Nat) : D := .str (sg c)
theorem walked_str {K : PySem.W.Frag} {O : List Addr} {H : Hp} (x : Str) : Walked K O (x.cps.toList.map sgD) (Its x) H := by
  refine ⟨fun i _ _ _ hi => ?_, fun i _ _ _ hi => ?_, fun i O' H' v H2 _ _ hi y => ?_⟩
  · rw [List.length_map, Array.length_toList] at hi; exact hi
  · rw [List.length_map, Array.length_toList] at hi; exact hi
  · obtain ⟨e, c, hc, rfl⟩ := y
    subst e
    refine ⟨.inl rfl, sgD c, ?_, .str _⟩
    rw [List.getElem?_map, Array.getElem?_toList, hc]; rfl
section
variable {X : Cx} {T : List TQ} {B : Bs} {ρ ρ1 ρ2 : Sl} {W W1 W2 : List Addr} {e a b c : Expr} {d : D} {pos p : Pos} {x : Str}
theorem ix_s {tg : Expr} {z : Str} (h : EX X T B ρ e W ρ1 (.str z)) : IX X T B ρ tg e W ρ1 (z.cps.toList.map sgD) := ⟨⟨_, pi_str h.run, fun σ H R S q => ⟨S, fun v H' S' f rp => ⟨z, str_of rp, q _ H' S' f (walked_str z)⟩⟩⟩, h.own, h.sub⟩
/-! ### the module's own constants -/
theorem ex_gint {i : Int} {t : Tok} (hg : Gl X x) (hm : X.mg x = some (.int i t)) (hd : (x == ("__debug__" : Str)) = false := by decide) : EX X T B ρ (.Name x pos) [] ρ (.int i) := ex_c (pe_glob (v := .int i) hg hm ⟨t, rfl⟩ hd) fun _ => .int i
theorem ex_gstr {z : Str} {t : Tok} (hg : Gl X x) (hm : X.mg x = some (.str z t)) (hd : (x == ("__debug__" : Str)) = false := by decide) : EX X T B ρ (.Name x pos) [] ρ (.str z) := ex_c (pe_glob (v := .str z) hg hm ⟨t, rfl⟩ hd) fun _ => .str z
theorem ex_gtup {m : Addr} {xs : List V} {ds : List D} (hg : Gl X x) (hm : X.mg x = some (.ref m)) (hT : TQ.tup m xs ∈ T) (hr : ∀ H, RpA X.K H xs ds) (hd : (x == ("__debug__" : Str)) = false := by decide) : EX X T B ρ (.Name x pos) [] ρ (.tuple ds) :=
  ⟨PE.imp (pe_glob hg hm (v := .ref m) rfl hd) fun σ H Q ⟨S, q⟩ => q _ H S (Fx.refl _ _) (.tup (by
    have e : H m = some (.tup xs) := S.tabs _ hT
    rw [Tt, msk_out (fun z => by
      obtain ⟨o, e2, no⟩ := S.held m z
      rw [e] at e2; cases e2; cases no)]
    exact e) (hr _)), rfl, sub_nil⟩
/-! ### texts -/
theorem ex_join {z : Str} {ys : List Str} {apos : Pos} (ha : EX X T B ρ a W1 ρ1 (.str z)) (hb : EL X T B ρ1 b W2 ρ2 (ys.map .str)) (hl : (ys.map (·.length)).sum + ys.length * z.length ≤ 16777216) (hs : starEach [b] X.env = [(false, eval b X.env)] := by rfl)
    (hbase : attributeBase a "join" X.env (eval a X.env) = eval a X.env := by rfl) (hline : (apos.endLine == pos.line) = true := by rfl) : EX X T B ρ (.Call (.Attribute a "join" apos) [b] [] pos) (W1 ++ W2) ρ2 (.str (Txt.join z ys)) :=
  ⟨PE.imp (pe_join ha.run hb.run hs hbase hline) fun σ H Q ⟨S, q⟩ => ⟨S, fun v H1 S1 f1 r1 => ⟨⟨z, str_of r1⟩, S1, fun l xs H2 S2 f2 h2 r2 => ⟨z, l, ys, str_of r1, rfl, .inl (by rw [← r2.strs]; exact h2), hl, q _ H2 S2 (f1.trans f2) (.str _)⟩⟩⟩, hb.own.trans ha.own, sub_app ha.sub ha.own hb.sub⟩
/-- s in [texts], s in (texts) -/
theorem inV_strs (z : Str) (ys : List Str) : inV (.str z) (ys.map V.str) = decide (z ∈ ys) := by
  unfold inV
  rw [List.any_map, Bool.eq_iff_iff, List.any_eq_true, decide_eq_true_eq]
  constructor
  · rintro ⟨y, hy, h⟩
    have : eqV (.str y) (.str z) = true := h
    have e : y = z := by
      unfold eqV at this
      simpa using this
    rw [← e]; exact hy
  · intro h
    refine ⟨z, h, ?_⟩
    show eqV (.str z) (.str z) = true
    unfold eqV
    simp
theorem flat_strs (ys : List Str) : (ys.map V.str).all flatV = true := by rw [List.all_map]; exact List.all_eq_true.mpr fun _ _ => rfl
theorem tx_inL {z : Str} {ys : List Str} (ha : EX X T B ρ a W1 ρ1 (.str z)) (hb : EX X T B ρ1 b W2 ρ2 (.list (ys.map .str))) (hm : behindInMarks .In b = false := by rfl) : TX X T B ρ (.Compare a [.In] [b] pos) (W1 ++ W2) ρ2 (decide (z ∈ ys)) :=
  tx_cmp op_in_seq (r2 ha hb) hm (fun x y H Q r1 r2 q => by
    cases r2 with
    | lst h1 h2 =>
      have := h2.strs
      subst this
      rw [str_of r1]
      exact ⟨_, _, rfl, .inl h1, rfl, flat_strs ys, by rw [inV_strs]; exact q⟩)
theorem tx_inT {z : Str} {ys : List Str} (ha : EX X T B ρ a W1 ρ1 (.str z)) (hb : EX X T B ρ1 b W2 ρ2 (.tuple (ys.map .str))) (hm : behindInMarks .In b = false := by rfl) : TX X T B ρ (.Compare a [.In] [b] pos) (W1 ++ W2) ρ2 (decide (z ∈ ys)) :=
  tx_cmp op_in_seq (r2 ha hb) hm (fun x y H Q r1 r2 q => by
    cases r2 with
    | tup h1 h2 =>
      have := h2.strs
      subst this
      rw [str_of r1]
      exact ⟨_, _, rfl, .inr (SqT.of h1), rfl, flat_strs ys, by rw [inV_strs]; exact q⟩)
/-- x in a list of data -/
theorem tx_inD {ds : List D} (hu : X.A.units + 65 < cLine) (ha : EX X T B ρ a W1 ρ1 d) (hb : EX X T B ρ1 b W2 ρ2 (.list ds)) (h1 : fine d = true) (h2 : fine (.list ds) = true) (hm : behindInMarks .In b = false := by rfl) : TX X T B ρ (.Compare a [.In] [b] pos) (W1 ++ W2) ρ2 (ds.any fun z => PyData.eqv z.py d.py) :=
  tx_cmp (op_inD hu) (r2 ha hb) hm (fun x y H Q r1 r2 q => ⟨d.py, D.pys ds, r1.dp (fine_of h1).1, r2.dp (fine_of h2).1, (fine_of h1).2, (fine_of h2).2, by rw [D.pys_map, List.any_map]; exact q⟩)
end
end Dv

set_option maxRecDepth 100000
namespace Dv
open PySem PySem.Spec PyProof.Rows L2
section
variable {X : Cx} {T : List TQ} {B : Bs} {ρ ρ1 : Sl} {W : List Addr} {pos : Pos}
def iB (X : Cx) (T : List TQ) (scope : Scope) (tg e : Expr) : TI := fun σ H R => ∃ B ρ ds, (∀ s H C cl fp, IX (Bk X scope s H C cl fp) T B ρ tg e [] ρ ds) ∧ Sim X.K T B ρ σ H ∧ ∀ J H1, Sim X.K T B ρ σ H1 → Fx [] H H1 → Walked X.K (B.all ρ) ds J H1 → R J H1
/-- [elt for tg in iter for tg1 in iter1], nothing changed -/
theorem eo_lc2 {α β : Type} {elt tg iter tg1 iter1 : Expr} {scope : Scope} (qs : List α) (en : α → D) (rs : α → List β) (en1 : α → β → D) (g : α → β → D) (own : List (Str × Nat)) (vs1 : List Nat) (hc : X.calm = true) (hN : X.N.Nodup)
    (hi : IX X T B ρ tg iter W ρ1 (qs.map en)) (ok : BlkOk X.N X.env.scope scope own) (hv : ∀ i ∈ vs1, i ∈ own.map (·.2)) (hlen : (qs.flatMap fun q => (rs q).map (g q)).length ≤ sizeLine) (hno : noOwn ρ1 (own.map (·.2)) = true)
    (hb : ∀ q, q ∈ qs → ∀ B', ∃ ρa, owns ρa = owns ρ1 ∧ Fg ρa (wipeD ρ1 (own.map (·.2))) ∧ (∀ s H C cl fp, GX (Bk X scope s H C cl fp) T B' (wipeD ρ1 (own.map (·.2))) tg (own.map (·.2)) (en q) ρa) ∧
      (∀ B2, ∀ s H C cl fp, IX (Bk X scope s H C cl fp) T B2 ρa tg1 iter1 [] ρa ((rs q).map (en1 q))) ∧
      ∀ r, r ∈ rs q → ∀ B2, ∃ ρb, owns ρb = owns ρ1 ∧ (∀ s H C cl fp, GX (Bk X scope s H C cl fp) T B2 (wipeD ρa vs1) tg1 vs1 (en1 q r) ρb) ∧ ∀ s H C cl fp, EX (Bk X scope s H C cl fp) T B2 ρb elt [] ρb (g q r))
    (hs : ∀ x, foldedSetIterable iter X.env x = pure x := by intro _; rfl) (hs1 : ∀ env x, foldedSetIterable iter1 env x = pure x := by intro _ _; rfl) :
    EO X T B ρ (.ListComp elt [⟨tg, iter, [], 0⟩, ⟨tg1, iter1, [], 0⟩] scope pos) W ρ1 (qs.flatMap fun q => (rs q).map (g q)) := by
  obtain ⟨wi, hwi, hw⟩ := hi.run
  generalize hvs : own.map (·.2) = vs at hv hno hb
  refine ⟨PE.imp (pe_lc2 hc hN hwi ok (vs1 := vs1) (by rw [hvs]; exact hv) (g := gB X T scope tg vs) (tt := tB' X T scope []) (wi1 := iB X T scope tg1 iter1) (g1 := gB X T scope tg1 vs1) (tt1 := tB' X T scope []) (te := eB X T scope elt) ?_ ?_ ?_ ?_ ?_ ?_ hs hs1) fun σ H Q ⟨S, q⟩ => ?_, hi.own, hi.sub⟩
  · exact fun s H C cl fp => ⟨fun pins s' σ H v u Q I rr ⟨B, ρ, d, ρ', h, z⟩ => PG.run (h s _ C cl fp) pins s' σ H v u Q I rr z⟩
  · exact fun s H C cl fp => ⟨fun pins s' σ H Q I ⟨B, ρ, W, ρ', k, h, z⟩ => PTs.run (h s _ C cl fp) pins s' σ H Q I z⟩
  · exact fun s H C cl fp => ⟨fun pins s' σ H R I ⟨B, ρ, ds, h, S, z⟩ => let ⟨wj, hp, hq⟩ := (h s _ C cl fp).run; hp.run pins s' σ H R I (hq σ H R S z)⟩
  · exact fun s H C cl fp => ⟨fun pins s' σ H v u Q I rr ⟨B, ρ, d, ρ', h, z⟩ => PG.run (h s _ C cl fp) pins s' σ H v u Q I rr z⟩
  · exact fun s H C cl fp => ⟨fun pins s' σ H Q I ⟨B, ρ, W, ρ', k, h, z⟩ => PTs.run (h s _ C cl fp) pins s' σ H Q I z⟩
  · exact fun s H C cl fp => ⟨fun pins s' σ H Q I ⟨B, ρ, W, ρ', d, h, z⟩ => (h s _ C cl fp).run.run pins s' σ H Q I z⟩
  rw [hvs]
  refine hw σ H _ S fun J H1 S1 f1 wk L nL => ?_
  have nL0 : L ∉ B.all ρ1 := S1.free nL
  have ow : owns (wipeD ρ1 vs) = owns ρ1 := owns_wipe hno
  refine ⟨fun i m H' => m = qs.length - i ∧ i ≤ qs.length ∧ ∃ acc, Sim X.K T (B.blk ρ1 H1 L) (wipeD ρ1 vs) (wipe σ vs) H' ∧ H' L = some (.lst acc) ∧ RpA X.K (msk (L :: B.all ρ1) H') acc ((qs.take i).flatMap fun q => (rs q).map (g q)) ∧ Fx [L] (upd H1 L (.lst [])) H',
    ⟨qs.length, by simp, Nat.zero_le _, [], sim_blk S1 nL hno, upd_same, .nil, Fx.refl _ _⟩, ?_⟩
  rintro i m H' ⟨rfl, hi', acc, S', hL, hacc, hfx⟩
  have allw : ∀ {ρx : Sl}, owns ρx = owns ρ1 → (B.blk ρ1 H1 L).all ρx = L :: B.all ρ1 := fun {ρx} e => by
    show (L :: B.out) ++ owns ρx = L :: (B.out ++ owns ρ1)
    rw [e]; rfl
  have kk : Kp (msk (B.all ρ1) H1) (msk (L :: B.all ρ1) H') := fun a o no e => by
    obtain ⟨z1, z2⟩ := msk_some e
    have ne : a ≠ L := ne_of_none z2 nL
    rw [msk_out (fun z => by
      rcases List.mem_cons.mp z with z | z
      · exact ne z
      · exact z1 z)]
    exact kp_back S1 nL S' a o no (fun z => z1 (List.mem_append_right _ z)) z2
  have held : ∀ a ∈ (L :: B.all ρ1), ∃ o, H' a = some o ∧ mutb o = true := fun a z => by
    rw [← allw ow] at z
    exact S'.held a z
  by_cases hlt : i < qs.length
  · have hqi : qs[i]? = some qs[i] := List.getElem?_eq_getElem hlt
    have hdm : (qs.map en)[i]? = some (en qs[i]) := by rw [List.getElem?_map, hqi]; rfl
    have hlm : i < (qs.map en).length := by rw [List.length_map]; exact hlt
    have etk : (qs.take (i + 1)).flatMap (fun q => (rs q).map (g q)) = (qs.take i).flatMap (fun q => (rs q).map (g q)) ++ (rs qs[i]).map (g qs[i]) := by
      rw [List.take_add_one, hqi, List.flatMap_append]; simp
    refine .inr ⟨wk.go i _ H' kk hlm, fun H2 => ∃ acc, Sim X.K T (B.blk ρ1 H1 L) (wipeD ρ1 vs) (wipe σ vs) H2 ∧ H2 L = some (.lst acc) ∧ RpA X.K (msk (L :: B.all ρ1) H2) acc ((qs.take (i + 1)).flatMap fun q => (rs q).map (g q)) ∧ Fx [L] (upd H1 L (.lst [])) H2,
      fun H2 z => ⟨qs.length - (i + 1), by omega, rfl, hlt, z⟩, fun v H2 y => ?_⟩
    obtain ⟨hH, d, hd', hrp⟩ := wk.yld i _ H' v H2 kk held hlm y
    rw [hdm] at hd'
    cases hd'
    obtain ⟨t1, t2, t3⟩ := tab_keep hH
    have S2 := S'.grow t1 (fun P z => t2 P (S'.tabs P z)) t3
    have hL2 : H2 L = some (.lst acc) := t1 _ _ rfl hL
    have hacc2 : RpA X.K (msk (L :: B.all ρ1) H2) acc ((qs.take i).flatMap fun q => (rs q).map (g q)) := hacc.mono fun a o no e => by
      obtain ⟨z1, z2⟩ := msk_some e
      rw [msk_out z1]; exact t1 a o no z2
    have hfx2 : Fx [L] (upd H1 L (.lst [])) H2 := fun a o no w e => t1 a o no (hfx a o no w e)
    obtain ⟨ρa, ga, gf, g1, g2, g3⟩ := hb qs[i] (List.getElem_mem hlt) (B.blk ρ1 H1 L)
    refine ⟨_, _, en qs[i], ρa, g1, S2, by rw [allw ow]; exact hrp, fun σ2 S3 hwp => ?_⟩
    have hwp2 : wipe σ2 vs = wipe σ vs := by rw [hwp, wipe_wipe]
    refine ⟨hwp2, _, ρa, [], ρa, true, fun s H C cl fp => txs_nil, S3, fun H3 S4 f4 => ?_⟩
    show (if true = true then _ else _)
    rw [if_pos rfl]
    have k4 : Kp H2 H3 := f4.kpN
    refine ⟨_, ρa, _, g2 (B.blk ρ1 H1 L), S4, fun J1 H4 S5 f5 wk1 => ?_⟩
    have k5 : Kp H3 H4 := f5.kpN
    have k25 : Kp H2 H4 := k4.trans k5
    refine ⟨fun j k H => k = (rs qs[i]).length - j ∧ j ≤ (rs qs[i]).length ∧ ∃ acc, Sim X.K T (B.blk ρ1 H1 L) ρa σ2 H ∧ H L = some (.lst acc) ∧ Kp (msk (L :: B.all ρ1) H4) (msk (L :: B.all ρ1) H) ∧ RpA X.K (msk (L :: B.all ρ1) H) acc ((qs.take i).flatMap (fun q => (rs q).map (g q)) ++ ((rs qs[i]).take j).map (g qs[i])) ∧ Fx [L] (upd H1 L (.lst [])) H,
      ⟨(rs qs[i]).length, by simp, Nat.zero_le _, acc, S5, k25 _ _ rfl hL2, Kp.refl _, ?_, fun a o no w e => k25 a o no (hfx2 a o no w e)⟩, ?_⟩
    · simp only [List.take_zero, List.map_nil, List.append_nil]
      exact hacc2.mono fun a o no e => by
        obtain ⟨z1, z2⟩ := msk_some e
        rw [msk_out z1]; exact k25 a o no z2
    · rintro j k H5 ⟨rfl, hj', acc5, S6, hL5, kp5, hacc5, hfx5⟩
      rw [allw ga] at wk1
      have held5 : ∀ a ∈ (L :: B.all ρ1), ∃ o, H5 a = some o ∧ mutb o = true := fun a z => by
        rw [← allw ga] at z
        exact S6.held a z
      by_cases hjt : j < (rs qs[i]).length
      · have hrj : (rs qs[i])[j]? = some (rs qs[i])[j] := List.getElem?_eq_getElem hjt
        have hrm : ((rs qs[i]).map (en1 qs[i]))[j]? = some (en1 qs[i] (rs qs[i])[j]) := by rw [List.getElem?_map, hrj]; rfl
        have hjm : j < ((rs qs[i]).map (en1 qs[i])).length := by rw [List.length_map]; exact hjt
        refine .inr ⟨wk1.go j _ H5 kp5 hjm, fun H => ∃ acc, Sim X.K T (B.blk ρ1 H1 L) ρa σ2 H ∧ H L = some (.lst acc) ∧ Kp (msk (L :: B.all ρ1) H4) (msk (L :: B.all ρ1) H) ∧ RpA X.K (msk (L :: B.all ρ1) H) acc ((qs.take i).flatMap (fun q => (rs q).map (g q)) ++ ((rs qs[i]).take (j + 1)).map (g qs[i])) ∧ Fx [L] (upd H1 L (.lst [])) H,
          fun H z => ⟨(rs qs[i]).length - (j + 1), by omega, rfl, hjt, z⟩, fun w H6 y6 => ?_⟩
        obtain ⟨hH6, d6, hd6, hrp6⟩ := wk1.yld j _ H5 w H6 kp5 held5 hjm y6
        rw [hrm] at hd6
        cases hd6
        obtain ⟨t61, t62, t63⟩ := tab_keep hH6
        have S7 := S6.grow t61 (fun P z => t62 P (S6.tabs P z)) t63
        have Sw := sim_wiped (vs := vs1) S7
        have ow1 : owns (wipeD ρa vs1) = owns ρ1 := by
          refine (owns_wipe ?_).trans ga
          refine List.all_eq_true.mpr fun x hx => ?_
          have hx' := hv x hx
          rcases hq : ρa[x]? with _ | s
          · rfl
          · cases s with
            | own a d =>
              exfalso
              -- an owned slot among the block's own names
              have hm : (wipeD ρ1 vs)[x]? = some .un := wipeD_in hx' (by
                have l1 := gf.length
                rw [wipeD_length] at l1
                rw [← l1]; exact (List.getElem?_eq_some_iff.mp hq).1)
              have m1 : a ∈ owns ρa := mem_owns.mpr ⟨x, d, hq⟩
              rw [ga, ← ow] at m1
              obtain ⟨y, d', ey⟩ := mem_owns.mp m1
              rcases gf.get ey with e | e
              · cases e
              · by_cases xy : x = y
                · subst xy; rw [hm] at ey; cases ey
                · exact hold_data.own_twice hq e xy S6.nodup
            | _ => rfl
        obtain ⟨ρb, gb, g4, g5⟩ := g3 (rs qs[i])[j] (List.getElem_mem hjt) ((B.blk ρ1 H1 L).at (wipeD ρa vs1) H6)
        have all2 : ∀ {ρx : Sl}, owns ρx = owns ρ1 → ((B.blk ρ1 H1 L).at (wipeD ρa vs1) H6).all ρx = L :: B.all ρ1 := fun {ρx} e => by
          show (L :: B.out) ++ owns ρx = L :: (B.out ++ owns ρ1)
          rw [e]; rfl
        refine ⟨_, _, en1 qs[i] (rs qs[i])[j], ρb, g4, rebase Sw, by rw [all2 ow1]; exact hrp6, fun σ3 S8 hw8 => ⟨by rw [hw8, wipe_wipe], _, ρb, [], ρb, true, fun s H C cl fp => txs_nil, S8, fun H7 S9 f9 => ?_⟩⟩
        show (if true = true then _ else _)
        rw [if_pos rfl]
        refine ⟨_, ρb, [], ρb, g qs[i] (rs qs[i])[j], g5, S9, fun z H8 S10 f10 rz => ?_⟩
        have k8 : Kp H6 H8 := (f9.transN f10).kpN
        have SA : Sim X.K T (B.blk ρ1 H1 L) ρa σ2 H8 := S7.grow k8 S10.tabs fun a z => S10.dom a z
        have hL8 : H8 L = some (.lst acc5) := k8 _ _ rfl (t61 _ _ rfl hL5)
        have km8 : Kp (msk (L :: B.all ρ1) H5) (msk (L :: B.all ρ1) H8) := fun a o no e => by
          obtain ⟨z1, z2⟩ := msk_some e
          rw [msk_out z1]; exact k8 a o no (t61 a o no z2)
        have hlenj : (acc5).length < sizeLine := by
          have h1 := hacc5.length
          have h2 : ((qs.take i).flatMap (fun q => (rs q).map (g q)) ++ ((rs qs[i]).take j).map (g qs[i])).length < (qs.flatMap fun q => (rs q).map (g q)).length := by
            have e1 : qs = qs.take i ++ (qs[i] :: qs.drop (i + 1)) := by rw [List.getElem_cons_drop, List.take_append_drop]
            have e2 : (qs.flatMap fun q => (rs q).map (g q)).length = ((qs.take i).flatMap fun q => (rs q).map (g q)).length + ((rs qs[i]).length + ((qs.drop (i + 1)).flatMap fun q => (rs q).map (g q)).length) := by
              conv => lhs; rw [e1]
              rw [List.flatMap_append, List.flatMap_cons, List.length_append, List.length_append, List.length_map]
            rw [e2, List.length_append, List.length_map, List.length_take]
            omega
          omega
        refine ⟨acc5, hL8, hlenj, acc5 ++ [z], ?_, upd_same, ?_, ?_, ?_⟩
        · exact sim_out SA (by show L ∈ L :: B.out; exact List.mem_cons_self) (by show L ∈ L :: owns ρ1; exact List.mem_cons_self) hL8 rfl rfl
        · rw [msk_upd List.mem_cons_self]; exact kp5.trans km8
        · rw [msk_upd List.mem_cons_self, List.take_add_one, hrj]
          have rz2 : Rp X.K (msk (L :: B.all ρ1) H8) z (g qs[i] (rs qs[i])[j]) := by rw [all2 gb] at rz; exact rz
          have := (hacc5.mono km8).snoc rz2
          rw [List.append_assoc] at this
          show RpA _ _ _ (_ ++ ((rs qs[i]).take j ++ [(rs qs[i])[j]]).map (g qs[i]))
          rw [List.map_append]
          exact this
        · intro a o no wn e
          rw [upd_ne (fun q => wn (by rw [q]; exact List.mem_singleton.mpr rfl))]
          exact k8 a o no (t61 a o no (hfx5 a o no wn e))
      · have e : j = (rs qs[i]).length := by omega
        subst e
        refine .inl ⟨wk1.stop _ _ H5 kp5 (by rw [List.length_map]; exact Nat.le_refl _), acc5, ?_, hL5, ?_, hfx5⟩
        · have z := sim_wiped (vs := vs) (S6.fg gf)
          rw [wipeD_wipeD, hwp2] at z
          exact z
        · rw [etk]
          rw [List.take_length] at hacc5
          exact hacc5
  · have e : i = qs.length := by omega
    subst e
    rw [List.take_length] at hacc
    refine .inl ⟨wk.stop _ _ H' kk (by rw [List.length_map]; exact Nat.le_refl _), q L acc H' ?_ (sim_back S1 nL hno (Sh.refl _) S') ?_ hL nL0 hacc⟩
    · exact dom_none S1 nL
    · intro a o no w e
      have e1 := f1 a o no w e
      exact hfx a o no (fun z => ne_of_none e1 nL (by simpa using z)) (by rw [upd_ne (ne_of_none e1 nL)]; exact e1)
end
end Dv

set_option maxRecDepth 100000
namespace Dv
open PySem PySem.Spec PyProof.Rows L2
section
variable {X : Cx} {T : List TQ} {B : Bs} {ρ ρ1 ρ2 : Sl} {W W1 W2 : List Addr} {e a b c : Expr} {d d1 d2 : D} {pos p px : Pos} {x : Str} {k : DE} {r : List Stmt}
/-! ### a new list or dict that nothing else knows -/
def isDict : D → Bool
  | .dict _ => true
  | _ => false
/-- p was not there -/
def Nw (W : List Addr) (H : Hp) (p : Addr) : Prop := ∀ o, notTbl o = true → p ∉ W → H p ≠ some o
theorem Nw.of {W : List Addr} {H H' : Hp} {p : Addr} (f : Fx W H H') (n : H' p = none) : Nw W H p := fun o no w e => by rw [f p o no w e] at n; cases n
theorem Fx.lock {W : List Addr} {H H' : Hp} {p : Addr} {u : HO} (f : Fx W H H') (n : Nw W H p) : Fx W H (upd H' p u) := fun a o no w e => by
  rw [upd_ne (fun y => by rw [y] at w e; exact n o no w e)]
  exact f a o no w e
structure EN (X : Cx) (T : List TQ) (B : Bs) (ρ : Sl) (e : Expr) (W : List Addr) (ρ' : Sl) (d : D) : Prop where
  run : PE X e (fun σ H Q => Sim X.K T B ρ σ H ∧ ∀ p o H', (isDict d = true → Nw W H p) → B.H0 p = none → Sim X.K T (B.add p) ρ' σ H' → Fx W H H' → H' p = some o → mutb o = true → p ∉ B.all ρ' → Hold X.K H' (msk (p :: B.all ρ') H') p d → Q (.ref p) H')
  own : owns ρ' = owns ρ
  sub : ∀ a ∈ W, a ∈ owns ρ
theorem EO.n {ds : List D} (h : EO X T B ρ e W ρ1 ds) : EN X T B ρ e W ρ1 (.list ds) := ⟨PE.imp h.run fun σ H Q ⟨S, q⟩ => ⟨S, fun p xs H' h0 S' f h1 h2 h3 => q p _ H' (fun z => by cases z) h0 S' f h1 rfl h2 ⟨xs, h1, h3⟩⟩, h.own, h.sub⟩
/-- a new thing is locked -/
theorem sim_lockN {K : PySem.W.Frag} {σ : L2.St} {H : Hp} {p : Addr} {u : HO} (od : Obj) (S : Sim K T (B.add p) ρ σ H) (h0 : B.H0 p = none) (h1 : H p = some u) (mu : mutb u = true) (h2 : p ∉ B.all ρ) :
    Sim K T B ρ σ (upd H p (.frz od u)) ∧ Kp (msk (p :: B.all ρ) H) (msk (B.all ρ) (upd H p (.frz od u))) := by
  have kl : Kp (msk (p :: B.all ρ) H) (msk (B.all ρ) (upd H p (.frz od u))) := fun a o n e => by
    obtain ⟨z1, z2⟩ := msk_some e
    rw [msk_out (fun y => z1 (List.mem_cons_of_mem _ y)), upd_ne (fun y => z1 (by rw [y]; exact List.mem_cons_self))]
    exact z2
  refine ⟨⟨S.len, fun j s e => ?_, S.nodup, fun a z y => S.disj a z (List.mem_cons_of_mem _ y), fun a z => ?_, fun a o n w e => ?_, S.fresh, fun P z => TQs.old h1 mu (S.tabs P z), fun a z => ?_⟩, kl⟩
  · refine (S.at_ j s e).mono kl fun a d' es ob n z => ?_
    subst es
    rw [upd_ne (fun y => h2 (List.mem_append_right _ (mem_owns.mpr ⟨j, d', by rw [← y]; exact e⟩)))]
    exact z
  · rw [upd_ne (fun y => h2 (List.mem_append_left _ (by rw [← y]; exact z)))]
    exact S.outs a (List.mem_cons_of_mem _ z)
  · rw [upd_ne (ne_of_none e h0)]; exact S.frame a o n w e
  · by_cases y : a = p
    · rw [y, upd_same]; exact fun z => by cases z
    · rw [upd_ne y]; exact S.dom a z
theorem EN.ex (h : EN X T B ρ e W ρ1 d) : EX X T B ρ e W ρ1 d := ⟨PE.imp (pe_frz h.run) fun σ H Q ⟨S, q⟩ => ⟨S, fun p o H' nw h0 S' f h1 h2 h3 h4 => by
  cases d with
  | list ds =>
    obtain ⟨xs, e, r⟩ := h4
    exact .inl (q _ H' (sim_unadd S') f (rp_new e h3 r))
  | dict ds =>
    refine .inr ⟨p, o, h1, ?_, fun od => ?_⟩
    · rcases h4 with ⟨kvs, e, r⟩ | ⟨n, kvs, e, r⟩ <;> (rw [h1] at e; cases e; trivial)
    · obtain ⟨S2, kl⟩ := sim_lockN od S' h0 h1 h2 h3
      refine q _ _ S2 (f.lock (nw rfl)) ?_
      rcases h4 with ⟨kvs, e, r⟩ | ⟨n, kvs, e, r⟩
      · rw [h1] at e
        cases e
        exact .dk ⟨od, by rw [msk_out h3, upd_same]⟩ (r.mono kl)
      · rw [h1] at e
        cases e
        exact .dt n ⟨od, by rw [msk_out h3, upd_same]⟩ (r.mono kl)
  | _ => exact h4.elim⟩, h.own, h.sub⟩
theorem EN.w {W' : List Addr} (h : EN X T B ρ e W ρ1 d) (q : W = W') : EN X T B ρ e W' ρ1 d := q ▸ h
theorem EN.to (h : EN X T B ρ e W ρ1 d) (q : d = d1) : EN X T B ρ e W ρ1 d1 := q ▸ h
theorem sim_ownN {K : PySem.W.Frag} {σ : L2.St} {H : Hp} {p : Addr} {o : HO} {i : Nat} (S : Sim K T (B.add p) ρ σ H) (h0 : B.H0 p = none) (h1 : H p = some o) (h2 : p ∉ B.all ρ) (h3 : Hold K H (msk (p :: B.all ρ) H) p d) (hi : i < ρ.length) :
    Sim K T B (ρ.set i (.own p d)) (σ.set i (some (.ref p))) H := by
  have f : Fg ρ (ρ.set i .un) := fg_set
  have hmem : ∀ a, a ∈ owns (ρ.set i (.own p d)) → a = p ∨ a ∈ owns (ρ.set i .un) := fun a z => by
    obtain ⟨j, d', e⟩ := mem_owns.mp z
    by_cases q : i = j
    · subst q
      rw [List.getElem?_set_self hi] at e
      cases e
      exact .inl rfl
    · rw [List.getElem?_set_ne q] at e
      exact .inr (mem_owns.mpr ⟨j, d', by rw [List.getElem?_set_ne q]; exact e⟩)
  have hu : ∀ a, a ∈ owns (ρ.set i .un) → a ∈ owns ρ := fun a z => f.sub.subset z
  have hall : ∀ a ∈ B.all (ρ.set i (.own p d)), a ∈ p :: B.all ρ := fun a z => by
    rcases List.mem_append.mp z with z | z
    · exact List.mem_cons_of_mem _ (List.mem_append_left _ z)
    · rcases hmem a z with z | z
      · rw [z]; exact List.mem_cons_self
      · exact List.mem_cons_of_mem _ (List.mem_append_right _ (hu a z))
  refine ⟨by rw [List.length_set, List.length_set]; exact S.len, fun j s e => ?_, ?_, fun a z => ?_, fun a z => S.outs a (List.mem_cons_of_mem _ z), S.frame, fun a z => ?_, S.tabs, S.dom⟩
  · by_cases q : i = j
    · subst q
      rw [List.getElem?_set_self hi] at e
      cases e
      rw [join_set_same (by rw [← S.len]; exact hi)]
      exact ⟨rfl, h3.mono (Kp.sub hall) fun _ _ z => z⟩
    · rw [List.getElem?_set_ne q] at e
      rw [join_set_ne q]
      exact (S.at_ j s e).mono (Kp.sub (fun a z => hall a z)) fun _ _ _ _ _ y => y
  · exact sim_own.nodup_own (S.nodup.sublist f.sub) (fun z => h2 (List.mem_append_right _ (hu p z))) hi
  · rcases hmem a z with z | z
    · rw [z]; exact fun y => h2 (List.mem_append_left _ y)
    · exact fun y => S.disj a (hu a z) (List.mem_cons_of_mem _ y)
  · rcases hmem a z with z | z
    · rw [z]; exact .inr h0
    · exact S.fresh a (hu a z)
/-- x = a new thing -/
theorem stN (i : Nat) {pos' : Pos} (hN : X.N.Nodup) (he : EN X T B ρ e W ρ1 d) (hr : ∀ p, SXs X T B (ρ1.set i (.own p d)) r k) (hi : X.N[i]? = some x := by rfl) (hx : Loc X.env.scope x := by first | exact Or.inl rfl | exact Or.inr rfl) (hl : i < ρ1.length := by exact Nat.le_of_ble_eq_true rfl)
    (hs : swapsWith e (some (.Name x pos')) pos.line X.env = pure false := by rfl) (hf : X.fn x = true ∨ X.env.scope.names.lookup x = some .local := by first | exact .inl rfl | exact .inr rfl) : SXs X T B ρ (.Assign [.Name x pos'] e pos :: r) k := by
  refine PSs.imp (pss_cons (ps_set (pos' := pos') hN hi hx he.run hs hf) (ps_any (T := T) (B := B))) fun E σ H ⟨S, q⟩ => ?_
  exact ⟨S, fun p o H' _ h0 S' f h1 _ h2 h3 => ⟨_, k, hr p, sim_ownN S' h0 h1 h2 h3 hl, q⟩⟩
theorem en_new {K : PySem.W.Frag} {σ : L2.St} {H : Hp} {np : Addr} {o : HO} (S : Sim K T B ρ σ H) (n : H np = none) (no : mutb o = true) : B.H0 np = none ∧ Sim K T (B.add np) ρ σ (upd H np o) ∧ np ∉ B.all ρ := ⟨free_H0 S n, sim_add S n no, S.free n⟩
theorem kp_more {H : Hp} {p : Addr} {o : HO} {O : List Addr} (n : H p = none) : Kp (msk O H) (msk (p :: O) (upd H p o)) := msk_more n
/-- a new dict, laid down -/
theorem en_laid {κ : Type} {E : KEn κ} {kvs : List (κ × D)} {K : PySem.W.Frag} {σ : L2.St} {H H1 : Hp} {np : Addr} {u : HO} {Q : V → Hp → Prop} (S : Sim K T B ρ1 σ H1) (f : Fx W H H1) (n : H1 np = none) (hq : DH K (msk (B.all ρ1) H1) E u kvs)
    (q : ∀ p o H', (isDict (dD E kvs) = true → Nw W H p) → B.H0 p = none → Sim K T (B.add p) ρ1 σ H' → Fx W H H' → H' p = some o → mutb o = true → p ∉ B.all ρ1 → Hold K H' (msk (p :: B.all ρ1) H') p (dD E kvs) → Q (.ref p) H') : Q (.ref np) (upd H1 np u) := by
  obtain ⟨z1, z2, z3⟩ := en_new (o := u) S n hq.mut.1
  exact q np u _ (fun _ => Nw.of f n) z1 z2 (f.transN (Fx.new n)) upd_same hq.mut.1 z3 (hold_dh upd_same (hq.mono (kp_more n)))
theorem en_dict0 {κ : Type} (E : KEn κ) : EN X T B ρ (.Dict [] [] pos) [] ρ (dD E ([] : List (κ × D))) := ⟨PE.imp pe_dnewK fun σ H Q ⟨S, q⟩ => fun np n => by
  refine en_laid S (Fx.refl _ _) n ?_ q
  cases hf : E.fl with
  | true => exact .inl ⟨hf, [], rfl, .nil⟩
  | false => exact .inr ⟨hf, .inl ⟨rfl, rfl⟩⟩, rfl, sub_nil⟩
end

/-! ### dict(pairs) -/
section
variable {K : PySem.W.Frag} {H : Hp} {κ : Type} {E : KEn κ}
theorem pb_merge {β : Type} [DecidableEq κ] [DecidableEq β] {g : κ → β} (hi : ∀ a b, g a = g b → a = b) : ∀ {more : List (β × V)} {ms : List (κ × D)} {kk : List (β × V)} {ds : List (κ × D)}, PB K H g more ms → PB K H g kk ds → PB K H g (more.foldl (fun acc kv => putK acc kv.1 kv.2) kk) (mergeE ds ms)
  | _, _, _, _, .nil, h => h
  | _, _, _, _, .cons (a := p) (b := q) r t, h => by
    show PB K H g (List.foldl _ (putK _ p.1 p.2) _) (mergeE (putE _ q.1 q.2) _)
    rw [r.1]
    exact pb_merge hi t (h.put hi r.2)
theorem mergeE_ne [DecidableEq κ] : ∀ {more kvs : List (κ × D)}, kvs ≠ [] → mergeE kvs more ≠ []
  | [], kvs, h => h
  | q :: more, kvs, h => mergeE_ne (more := more) (kvs := putE kvs q.1 q.2) putE_ne
theorem putE_new [DecidableEq κ] {kvs : List (κ × D)} {k : κ} {d : D} (h : k ∉ kvs.map (·.1)) : putE kvs k d = kvs ++ [(k, d)] := by
  unfold putE
  rw [if_neg]
  intro z
  obtain ⟨q, h1, h2⟩ := List.any_eq_true.mp z
  exact h (List.mem_map.mpr ⟨q, h1, of_decide_eq_true h2⟩)
theorem mergeE_app [DecidableEq κ] : ∀ {more kvs : List (κ × D)}, ((kvs ++ more).map (·.1)).Nodup → mergeE kvs more = kvs ++ more
  | [], kvs, _ => (List.append_nil kvs).symm
  | q :: more, kvs, h => by
    have hn : q.1 ∉ kvs.map (·.1) := fun z => by
      rw [List.map_append, List.map_cons] at h
      exact (List.nodup_append.mp h).2.2 _ z _ List.mem_cons_self rfl
    show mergeE (putE kvs q.1 q.2) more = _
    rw [putE_new hn, mergeE_app (by rw [List.append_assoc]; exact h), List.append_assoc]
    rfl
theorem mergeE_nd [DecidableEq κ] {kvs : List (κ × D)} (h : (kvs.map (·.1)).Nodup) : mergeE [] kvs = kvs := mergeE_app (kvs := []) h
theorem paired_imp {α β : Type} {F G : α → β → Prop} (h : ∀ a b, F a b → G a b) : ∀ {as : List α} {bs : List β}, Paired F as bs → Paired G as bs
  | _, _, .nil => .nil
  | _, _, .cons x r => .cons (h _ _ x) (paired_imp h r)
/-- pairs of flat keys -/
theorem pairs_flat {O : List Addr} (hf : E.fl = true) : ∀ {kvs : List (κ × D)} {xs : List V}, RpA K (msk O H) xs (kvs.map fun q => .tuple [E.d q.1, q.2]) → ∃ (ps : List Addr) (kk : List (Key × V)), xs = ps.map V.ref ∧ PB K (msk O H) E.fk kk kvs ∧ Paired (fun p (kv : Key × V) => H p = some (.tup [kV kv.1, kv.2])) ps kk
  | [], _, .nil => ⟨[], [], rfl, .nil, .nil⟩
  | q :: r, _, .cons h t => by
    obtain ⟨ps, kk, rfl, h2, h3⟩ := pairs_flat hf t
    cases h with
    | tup g1 g2 =>
      cases g2 with
      | cons k1 k2 =>
        cases k2 with
        | cons k3 k4 =>
          cases k4
          have ek := key_flat hf k1
          subst ek
          exact ⟨_ :: ps, (E.fk q.1, _) :: kk, rfl, .cons ⟨rfl, k3⟩ h2, .cons (msk_some g1).2 h3⟩
theorem pairs_tupl {O : List Addr} (hf : E.fl = false) : ∀ {kvs : List (κ × D)} {xs : List V}, RpA K (msk O H) xs (kvs.map fun q => .tuple [E.d q.1, q.2]) → ∃ (ps : List Addr) (kk : List (List Key × V)), xs = ps.map V.ref ∧ PB K (msk O H) E.ft kk kvs ∧ Paired (fun p (kv : List Key × V) => ∃ b, H p = some (.tup [.ref b, kv.2]) ∧ H b = some (.tup (kv.1.map kV))) ps kk
  | [], _, .nil => ⟨[], [], rfl, .nil, .nil⟩
  | q :: r, _, .cons h t => by
    obtain ⟨ps, kk, rfl, h2, h3⟩ := pairs_tupl hf t
    cases h with
    | tup g1 g2 =>
      cases g2 with
      | cons k1 k2 =>
        cases k2 with
        | cons k3 k4 =>
          cases k4
          obtain ⟨b, rfl, hb⟩ := key_tup hf k1
          exact ⟨_ :: ps, (E.ft q.1, _) :: kk, rfl, .cons ⟨rfl, k3⟩ h2, .cons ⟨b, (msk_some g1).2, (msk_some hb).2⟩ h3⟩
end
section
variable {X : Cx} {T : List TQ} {B : Bs} {ρ ρ1 ρ2 : Sl} {W W1 W2 : List Addr} {a b : Expr} {d : D} {pos p : Pos} {κ : Type} [DecidableEq κ] {E : KEn κ} {kvs : List (κ × D)}
/-- dict(a list of pairs) -/
theorem en_dictL (hc : X.calm = true) (hu : X.A.units + 8 < cLine) (hg : Gl X "dict") (hm : X.mg "dict" = none) (ha : EL X T B ρ a W ρ1 (kvs.map fun q => .tuple [E.d q.1, q.2])) (he : starEach [a] X.env = (false, eval a X.env) :: starEach [] X.env := by rfl) :
    EN X T B ρ (.Call (.Name "dict" p) [a] [] pos) W ρ1 (dD E (mergeE [] kvs)) := by
  refine ⟨PE.imp (Call1.run (c1t (p := p) ((call_dictP hc).or (call_dictT hc hu)) hg hm (by decide +kernel) (he := he)) (pa_cons ha.run pa_nil he)) fun σ H Q ⟨S, q⟩ => ⟨S, fun l xs H' S' f r1 r2 => ?_⟩, ha.own, ha.sub⟩
  cases hf : E.fl with
  | true =>
    obtain ⟨ps, kk, rfl, h2, h3⟩ := pairs_flat hf r2
    exact .inl ⟨l, ps, kk, rfl, r1, paired_imp (fun _ _ z => SqT.of z) h3, fun np n => en_laid S' f n (.inl ⟨hf, _, rfl, pb_merge (E.hk hf).2 h2 .nil⟩) q⟩
  | false =>
    cases kvs with
    | nil =>
      cases r2
      exact .inl ⟨l, [], [], rfl, r1, .nil, fun np n => en_laid S' f n (.inr ⟨hf, .inl ⟨rfl, rfl⟩⟩) q⟩
    | cons kv kvs =>
      obtain ⟨ps, kk, rfl, h2, h3⟩ := pairs_tupl hf r2
      exact .inr ⟨l, ps, kk, rfl, r1, h3, fun np n => en_laid S' f n (.inr ⟨hf, .inr ⟨(mergeE_ne (more := kvs) (kvs := putE [] kv.1 kv.2) putE_ne : mergeE [] (kv :: kvs) ≠ []), _, rfl, pb_merge (ds := []) (ms := kv :: kvs) (E.ht hf).2 h2 .nil⟩⟩) q⟩
end
end Dv

set_option maxRecDepth 100000
namespace Dv
open PySem PySem.Spec PyProof.Rows L2
section
variable {X : Cx} {T : List TQ} {B : Bs} {ρ ρ1 ρ2 ρ3 : Sl} {W W1 W2 W3 : List Addr} {e a b c f : Expr} {d d1 d2 : D} {pos p px apos : Pos} {x : Str} {k : DE} {r : List Stmt}
/-- xs[j] = value, xs an owned list -/
theorem setLO (i : Nat) {value ix : Expr} {l : Addr} {ds : List D} {j : Nat} {pos' : Pos} (hv : EX X T B ρ value W ρ1 d) (h1 : ρ1[i]? = some (.own l (.list ds))) (hk : EX X T B ρ1 ix [] ρ1 (.int (j : Nat))) (hj : j < ds.length)
    (hr : SXs X T B (ρ1.set i (.own l (.list (ds.set j d)))) r k) (hN : X.N[i]? = some x := by rfl) (hvs : Vis X.env.scope x := by first | exact Or.inl rfl | exact Or.inr (Or.inl rfl) | exact Or.inr (Or.inr rfl)) (hd : (x == ("__debug__" : Str)) = false := by decide) (hcd : (x == ("__classdict__" : Str)) = false := by decide)
    (hg : ∀ {to ti : TE}, PE X (.Name x px) to → PE X ix ti → PG X (.Subscript (.Name x px) ix pos') (gSub to ti (rSetL)) := by exact fun h g => pg_sub h g set_list (fun _ => rfl))
    (hs : swapsWithSole [.Subscript (.Name x px) ix pos'] value pos.line X.env = pure false := by rfl) (hw : swappedStores [.Subscript (.Name x px) ix pos'] value X.env = pure none := by rfl) (h2 : (assignEach [.Subscript (.Name x px) ix pos'] X.env).map (·.2) = [assign (.Subscript (.Name x px) ix pos') X.env] := by rfl) :
    SXs X T B ρ (.Assign [.Subscript (.Name x px) ix pos'] value pos :: r) k := by
  refine PSs.imp (pss_cons (ps_asg hv.run (hg (pe_var hN hvs hd hcd) hk.run) hs hw h2) hr) fun E σ H ⟨S, q⟩ => ⟨S, fun v H1 S1 f1 rv => ?_⟩
  obtain ⟨q1, _⟩ := S1.at_ i _ h1
  refine ⟨.ref l, slot_of (K := X.K) (H := H) q1, S1, fun y H2 S2 f2 ry => ?_⟩
  obtain ⟨_, xs, e, rr⟩ := S2.at_ i _ h1
  have rv2 := carry hk f2 rv
  have hl := rr.length
  refine ⟨l, xs, _, j, rfl, int_of ry, e, ?_, ?_⟩
  · unfold ixN
    rw [if_pos (Int.natCast_nonneg j), if_pos (by rw [hl]; omega)]
    rfl
  · exact ⟨sim_write S2 h1 rfl ⟨_, upd_same, rpa_set rr rv2 j⟩, q⟩
where
  rpa_set {K : PySem.W.Frag} {H : Hp} {v : V} {d : D} : ∀ {vs : List V} {ds : List D}, RpA K H vs ds → Rp K H v d → ∀ j, RpA K H (vs.set j v) (ds.set j d)
    | _, _, .nil, _, _ => .nil
    | _, _, .cons _ t, h, 0 => .cons h t
    | _, _, .cons g t, h, j + 1 => .cons g (rpa_set t h j)
end
end Dv

set_option maxRecDepth 100000
namespace Dv
open PySem PySem.Spec PyProof.Rows L2
/-! ### isinstance of data -/
def tyD : D → String
  | .none => "NoneType"
  | .bool _ => "bool"
  | .int _ => "int"
  | .str _ => "str"
  | .list _ => "list"
  | .tuple _ => "tuple"
  | .ptup _ => "tuple"
  | .dict _ => "dict"
def isiS (t c : String) : Bool := t == c || (c == "int" && t == "bool")
def isiD (d : D) (c : String) : Bool := isiS (tyD d) c
theorem isi_all : ∀ t ∈ ["NoneType", "bool", "int", "str", "list", "tuple", "dict"], ∀ c ∈ ["bool", "int", "str", "list", "tuple"], kitB t c = some (isiS t c) := by decide +kernel
theorem tyD_in (d : D) : tyD d ∈ ["NoneType", "bool", "int", "str", "list", "tuple", "dict"] := by cases d <;> simp [tyD]
theorem isi_kit (d : D) {c : String} (h : c ∈ ["bool", "int", "str", "list", "tuple"]) : kitB (tyD d) c = some (isiD d c) := isi_all _ (tyD_in d) c h
section
variable {X : Cx} {T : List TQ} {B : Bs} {ρ ρ1 : Sl} {W : List Addr} {a : Expr} {d : D} {pos p px : Pos}
theorem ex_isi {c : Str} {ty : String} (hg : Gl X "isinstance") (hm : X.mg "isinstance" = none) (hg2 : Gl X c) (hm2 : X.mg c = none) (hv : bootBuiltins c = some (.type ty)) (hc : ty ∈ ["bool", "int", "str", "list", "tuple"]) (ha : EX X T B ρ a W ρ1 d) (nd : isDict d = false)
    (he : starEach [a, .Name c px] X.env = (false, eval a X.env) :: starEach [.Name c px] X.env := by rfl) (he2 : starEach [.Name c px] X.env = (false, eval (.Name c px) X.env) :: starEach [] X.env := by rfl) (hpl : (backTo pos (starEach [.Name c px] X.env)).any (·.1) = false := by rfl) (hn : c ≠ "__name__" := by decide) (hdb : (c == ("__debug__" : Str)) = false := by decide) :
    EX X T B ρ (.Call (.Name "isinstance" p) [a, .Name c px] [] pos) W ρ1 (.bool (isiD d ty)) := by
  refine ⟨PE.imp (Call2.run (c2b (p := p) call_isi hg hm (by decide +kernel) (he := he) (hpl := hpl)) (pa_cons ha.run (pa_cons (pe_bltn (v := .ty ty) (u := .type ty) hg2 hm2 hv rfl hn hdb) pa_nil he2) he)) fun σ H Q ⟨S, q⟩ => ⟨S, fun x H1 S1 f1 r1 => ?_⟩, ha.own, ha.sub⟩
  refine ⟨x, .ty ty, .type (tyD d), .type ty, isiD d ty, rfl, .ty _, ?_, kit_ty (isi_kit d hc), q _ H1 S1 f1 (.bl _)⟩
  cases r1 with
  | non => exact .base (by constructor)
  | bl b => exact .base (by constructor)
  | int i => exact .base (by constructor)
  | str z => exact .base (by constructor)
  | lst h1 h2 =>
    rcases (Kp.ofmsk _ _).sqL h1 with (h | ⟨o, h⟩) | h
    · exact .base (.lst h)
    · exact .base (.frz h)
    · obtain ⟨o, its, n, hk, hc, _⟩ := h
      exact .kList hk hc
  | tup h1 h2 => exact .base (.tup (msk_some h1).2)
  | ptup h1 h2 =>
    obtain ⟨o, its, n, g1, g2, g3, g4 | ⟨g4, _⟩⟩ := h1
    · exact .fTuple (msk_some g4).2
    · exact .kTuple g4 g1
  | dk h1 h2 => cases nd
  | dt hn h1 h2 => cases nd
end
end Dv

set_option maxRecDepth 100000
namespace Dv
open PySem PySem.Spec PyProof.Rows L2
def isNo : D → Bool
  | .none => true
  | _ => false
section
variable {X : Cx} {T : List TQ} {B : Bs} {ρ ρ1 : Sl} {W : List Addr} {a b : Expr} {d : D} {pos p px : Pos}
theorem non_rp {K : PySem.W.Frag} {H : Hp} {x : V} (r : Rp K H x d) : decide (x = .non) = isNo d := by
  cases r <;> simp [isNo]
theorem ex_isN (h : R2 X T B ρ a b W ρ1 d .none) : EX X T B ρ (.Compare a [.Is] [b] pos) W ρ1 (.bool (isNo d)) :=
  ex_cmp op_isN h (nomark _) (fun x y H Q r1 r2 q => ⟨non_of r2, by rw [non_rp r1]; exact q⟩) fun _ => .bl _
theorem tx_isN (h : R2 X T B ρ a b W ρ1 d .none) : TX X T B ρ (.Compare a [.Is] [b] pos) W ρ1 (isNo d) := tx_cmp op_isN h (nomark _) (fun x y H Q r1 r2 q => ⟨non_of r2, by rw [non_rp r1]; exact q⟩)
theorem ex_notN (h : R2 X T B ρ a b W ρ1 d .none) : EX X T B ρ (.Compare a [.IsNot] [b] pos) W ρ1 (.bool (!isNo d)) :=
  ex_cmp op_notN h (nomark _) (fun x y H Q r1 r2 q => ⟨non_of r2, by rw [non_rp r1]; exact q⟩) fun _ => .bl _
theorem tx_notN (h : R2 X T B ρ a b W ρ1 d .none) : TX X T B ρ (.Compare a [.IsNot] [b] pos) W ρ1 (!isNo d) := tx_cmp op_notN h (nomark _) (fun x y H Q r1 r2 q => ⟨non_of r2, by rw [non_rp r1]; exact q⟩)
/-- short: isinstance(e, a built-in class) -/
theorem isi (ty : String) {c : Str} (hm : X.mg "isinstance" = none) (hm2 : X.mg c = none) (ha : EX X T B ρ a W ρ1 d) (hg : Gl X "isinstance" := by rfl) (hg2 : Gl X c := by rfl) (hv : bootBuiltins c = some (.type ty) := by decide +kernel) (hc : ty ∈ ["bool", "int", "str", "list", "tuple"] := by decide) (nd : isDict d = false := by first | rfl | assumption)
    (he : starEach [a, .Name c px] X.env = (false, eval a X.env) :: starEach [.Name c px] X.env := by rfl) (he2 : starEach [.Name c px] X.env = (false, eval (.Name c px) X.env) :: starEach [] X.env := by rfl) (hpl : (backTo pos (starEach [.Name c px] X.env)).any (·.1) = false := by rfl) (hn : c ≠ "__name__" := by decide) (hdb : (c == ("__debug__" : Str)) = false := by decide) :
    EX X T B ρ (.Call (.Name "isinstance" p) [a, .Name c px] [] pos) W ρ1 (.bool (isiD d ty)) := ex_isi hg hm hg2 hm2 hv hc ha nd he he2 hpl hn hdb
theorem isiT (ty : String) {c : Str} (hm : X.mg "isinstance" = none) (hm2 : X.mg c = none) (ha : EX X T B ρ a W ρ1 d) (hg : Gl X "isinstance" := by rfl) (hg2 : Gl X c := by rfl) (hv : bootBuiltins c = some (.type ty) := by decide +kernel) (hc : ty ∈ ["bool", "int", "str", "list", "tuple"] := by decide) (nd : isDict d = false := by first | rfl | assumption)
    (he : starEach [a, .Name c px] X.env = (false, eval a X.env) :: starEach [.Name c px] X.env := by rfl) (he2 : starEach [.Name c px] X.env = (false, eval (.Name c px) X.env) :: starEach [] X.env := by rfl) (hpl : (backTo pos (starEach [.Name c px] X.env)).any (·.1) = false := by rfl) (hn : c ≠ "__name__" := by decide) (hdb : (c == ("__debug__" : Str)) = false := by decide)
    (ht : ∀ whole, isTrue (.Call (.Name "isinstance" p) [a, .Name c px] [] pos) X.env whole = (do let v ← whole; standAt (Expr.Call (.Name "isinstance" p) [a, .Name c px] [] pos).pos; holding [v] (truthy v)) := by exact fun _ => rfl) :
    TX X T B ρ (.Call (.Name "isinstance" p) [a, .Name c px] [] pos) W ρ1 (isiD d ty) := tx_val (ex_isi hg hm hg2 hm2 hv hc ha nd he he2 hpl hn hdb) ht
/-- a test of two tests' answers -/
theorem ex_neXB {i j : Bool} {c : Expr} (h : R2 X T B ρ a b W ρ1 (.bool i) (.bool j)) : EX X T B ρ (.Compare a [.NotEq] [b] pos) W ρ1 (.bool (!decide (i = j))) := ex_neB h
end
section
variable {X : Cx} {T : List TQ} {B : Bs} {ρ ρ1 ρ2 : Sl} {W W1 W2 : List Addr} {a b : Expr} {d : D} {ds : List D} {pos p : Pos}
/-! ### plain tuples read -/
theorem ex_lenP (hg : Gl X "len") (hm : X.mg "len" = none) (ha : EX X T B ρ a W ρ1 (.ptup ds)) (he : starEach [a] X.env = (false, eval a X.env) :: starEach [] X.env := by rfl) : EX X T B ρ (.Call (.Name "len" p) [a] [] pos) W ρ1 (.int ds.length) :=
  ex_call1 (c1b call_len_seq hg hm boot_len (he := he)) ha.r (v := .int ds.length) (fun x H Q r q => by
    cases r with
    | ptup h1 h2 => exact ⟨_, _, rfl, .inr h1.sq, by rw [h2.length]; exact q⟩) (fun _ => .int _) he
theorem ex_ixP {i : Int} (ha : EX X T B ρ a W1 ρ1 (.ptup ds)) (hb : EX X T B ρ1 b W2 ρ2 (.int i)) (h : atI ds i = some d) (hs : PlainIx b) : EX X T B ρ (.Subscript a b pos) (W1 ++ W2) ρ2 d := by
  refine ⟨PE.imp (pe_ix ix_tup ha.run hb.run hs) fun σ H Q ⟨S, q⟩ => ⟨S, fun x H1 S1 f1 r1 => ⟨S1, fun y H2 S2 f2 r2 => ?_⟩⟩, hb.own.trans ha.own, sub_app ha.sub ha.own hb.sub⟩
  have r1' := carry hb f2 r1
  cases r1' with
  | ptup h1 h2 =>
    obtain ⟨v, e1, e2⟩ := rp_item h2 h
    exact ⟨_, _, _, v, rfl, int_of r2, (h1.mono fun _ _ _ z => (msk_some z).2).sq, e1, q v H2 S2 (f1.trans f2) e2⟩
/-- a tuple of either kind -/
def TupD (d : D) (ds : List D) : Prop := d = .tuple ds ∨ d = .ptup ds
theorem ex_lenQ (hg : Gl X "len") (hm : X.mg "len" = none) (ha : EX X T B ρ a W ρ1 d) (hd : TupD d ds) (he : starEach [a] X.env = (false, eval a X.env) :: starEach [] X.env := by rfl) : EX X T B ρ (.Call (.Name "len" p) [a] [] pos) W ρ1 (.int ds.length) := by
  rcases hd with rfl | rfl
  · exact ex_lenT hg hm ha he
  · exact ex_lenP hg hm ha he
theorem ex_ixQ {i : Int} {d0 : D} (ha : EX X T B ρ a W1 ρ1 d0) (hd : TupD d0 ds) (hb : EX X T B ρ1 b W2 ρ2 (.int i)) (h : atI ds i = some d) (hs : PlainIx b) : EX X T B ρ (.Subscript a b pos) (W1 ++ W2) ρ2 d := by
  rcases hd with rfl | rfl
  · exact ex_ixT ha hb h hs
  · exact ex_ixP ha hb h hs
/-- a constant of the module that is a tuple -/
theorem ex_gP {m : Addr} {xs : List V} {x : Str} (hg : Gl X x) (hm : X.mg x = some (.ref m)) (hP : ∀ H, Pt X.K H m xs) (hr : ∀ H, RpA X.K H xs ds) (hd : (x == ("__debug__" : Str)) = false := by decide) : EX X T B ρ (.Name x pos) [] ρ (.ptup ds) :=
  ⟨PE.imp (pe_glob hg hm (v := .ref m) rfl hd) fun σ H Q ⟨S, q⟩ => q _ H S (Fx.refl _ _) (.ptup (hP _) (hr _)), rfl, sub_nil⟩
theorem ix_p {tg e : Expr} (h : EX X T B ρ e W ρ1 (.ptup ds)) : IX X T B ρ tg e W ρ1 ds := ⟨⟨_, pi_tup h.run, fun σ H R S q => ⟨S, fun v H' S' f rp => by
  cases rp with
  | ptup h1 h2 =>
    rename_i m xs
    refine ⟨_, rfl, ⟨_, (h1.mono fun _ _ _ z => (msk_some z).2).sq⟩, q _ H' S' f ⟨fun i O' H2 k hi => ?_, fun i O' H2 k hi => ?_, fun i O' H2 v H3 k hO hi y => ?_⟩⟩
    · exact ⟨xs, xs[i]'(by rw [h2.length]; exact hi), ((h1.mono k).mono fun _ _ _ z => (msk_some z).2).sq, List.getElem?_eq_getElem _⟩
    · exact ⟨xs, ((h1.mono k).mono fun _ _ _ z => (msk_some z).2).sq, by rw [h2.length]; exact hi⟩
    · obtain ⟨e, y⟩ := y
      subst e
      obtain ⟨d, g1, g2⟩ := h2.get (y xs ((h1.mono k).mono fun _ _ _ z => (msk_some z).2).sq)
      exact ⟨.inl rfl, d, g1, g2.mono k⟩⟩⟩, h.own, h.sub⟩
end
/-- data of lists and tuples, not deep, not long -/
def okD : Nat → D → Bool
  | _, .none => true
  | _, .bool _ => true
  | _, .int _ => true
  | _, .str _ => true
  | 0, _ => false
  | n + 1, .list ds => decide (ds.length ≤ 10000) && ds.all (okD n)
  | n + 1, .tuple ds => decide (ds.length ≤ 10000) && ds.all (okD n)
  | n + 1, .ptup ds => decide (ds.length ≤ 10000) && ds.all (okD n)
  | _ + 1, .dict _ => false
theorem ix_q {X : Cx} {T : List TQ} {B : Bs} {ρ ρ1 : Sl} {W : List Addr} {d : D} {ds : List D} {tg e : Expr} (h : EX X T B ρ e W ρ1 d) (hd : TupD d ds) : IX X T B ρ tg e W ρ1 ds := by
  rcases hd with rfl | rfl
  · exact ix_t h
  · exact ix_p h
def RAlike (n : Nat) : Sl → D → Sl → Prop := fun args d args' => ∃ x y, args = [.dat x, .dat y] ∧ x.py = y.py ∧ okD n y = true ∧ d = .bool true ∧ args' = args
theorem pys_at {xs ys : List D} (h : D.pys xs = D.pys ys) : xs.length = ys.length ∧ ∀ (i : Nat) (x y : D), xs[i]? = some x → ys[i]? = some y → x.py = y.py := by
  rw [D.pys_map, D.pys_map] at h
  refine ⟨by have := congrArg List.length h; rwa [List.length_map, List.length_map] at this, fun i x y h1 h2 => ?_⟩
  have := congrArg (fun l : List PyData => l[i]?) h
  simp only [List.getElem?_map, h1, h2] at this
  exact Option.some.inj this
end Dv

set_option maxRecDepth 100000
namespace Dv
open PySem PySem.Spec PyProof.Rows L2
section
variable {X : Cx} {pins : List (Addr × Obj)} {σ : L2.St} {H : Hp} {s : Shared}
/-! ### a plain tuple made -/
def rTupP (K : PySem.W.Frag) : List V → Hp → VK → Prop := fun xs H Q => ∃ p ys, xs = [.ref p] ∧ SqL K H p ys ∧ ∀ l o, o.cls = .type "tuple" → o.dict = none → (∃ (its : Array Value) (n : Nat), o.data = .seq its n) → H l = none → Q (.ref l) (upd H l (.frz o (.tup ys)))
theorem call_tupP : CallR X (.type "tuple") (rTupP X.K) := by
  intro pins s σ H xs us Q I r ⟨m, ys, ex, hq, q⟩
  subst ex
  obtain ⟨u, eu, rx⟩ := vals1 r
  subst eu
  cases rx
  obtain ⟨its, rv, pl, hz⟩ := I.list hq
  have hl := rv.length
  refine call_tuple_list pl.isList (fun g kp => ?_) (by simp only [List.size_toArray]; omega)
  have J : L2.Inv X pins σ H { s with heap := g } := I.kept (t' := s.toks) kp
  have nn := J.hok.fresh (Nat.le_refl g.objs.size)
  have hnew : (g.push { cls := .type "tuple", data := .seq its.toArray }).get? g.objs.size = some { cls := .type "tuple", data := .seq its.toArray } := Heap.get?_push_size _ rfl
  refine ⟨.ref g.objs.size, _, J.laid (t' := s.toks) (h' := g.push { cls := .type "tuple", data := .seq its.toArray }) (o := .frz { cls := .type "tuple", data := .seq its.toArray } (.tup ys)) (fun b o e => Heap.get?_push_of_some _ e) (Nat.le_refl _) ⟨hnew, hz, its, rv, _, hnew, rfl, _, rfl⟩, rfl, q _ _ rfl rfl ⟨_, _, rfl⟩ nn⟩
/-! ### dict(a plain tuple of pairs) -/
theorem Pt.obj {m : Addr} {xs : List V} (I : L2.Inv X pins σ H s) (h : Pt X.K H m xs) : ∃ (its : List Value), Vals xs its ∧ its.length ≤ sizeLine ∧ PlainSeq "tuple" s.heap m its.toArray := by
  obtain ⟨o, its, n, h1, h2, h3, h4 | ⟨h4, h5, h6⟩⟩ := h
  · obtain ⟨g1, g2, us, g3, o', g4, g5, n', g6⟩ := I.hok m _ h4
    rw [g1] at g4
    cases g4
    exact ⟨us, g3, by rw [← g3.length]; exact g2, o, n', g1, h1, h2, g6⟩
  · exact ⟨its.toList, h6, h5, o, n, I.kIn _ _ h4, h1, h2, by rw [h3]⟩
theorem rel_of {ku : Nat → Value} {vv : List Value} {i : Nat} {key v : Value} (h : ((List.range vv.length).map fun j => (ku j, vv.getD j .none))[i]? = some (key, v)) : key = ku i ∧ vv[i]? = some v := by
  rw [List.getElem?_map] at h
  cases hr : (List.range vv.length)[i]? with
  | none => rw [hr] at h; cases h
  | some j =>
    rw [hr] at h
    have hlt : i < vv.length := by
      have := (List.getElem?_eq_some_iff.mp hr).1
      rwa [List.length_range] at this
    rw [List.getElem?_range hlt] at hr
    cases hr
    cases h
    exact ⟨rfl, by rw [List.getD_eq_getElem?_getD, List.getElem?_eq_getElem hlt]; rfl⟩
def rDictTup (K : PySem.W.Frag) : List V → Hp → VK → Prop := fun xs H Q => ∃ (a : Addr) (ps : List Addr) (kvs : List (Key × V)), xs = [.ref a] ∧ Pt K H a (ps.map V.ref) ∧ Paired (fun p kv => SqT K H p [kV kv.1, kv.2]) ps kvs ∧ ∀ p, H p = none → Q (.ref p) (upd H p (.dK (mergeK [] kvs)))
theorem call_dictTup (hcalm : X.calm = true) : CallR X (.type "dict") (rDictTup X.K) := by
  intro pins s σ H xs us Q I r ⟨a, ps, kvs, ex, hq, hp, q⟩
  subst ex
  obtain ⟨u, eu, rx⟩ := vals1 r
  subst eu
  cases rx
  obtain ⟨its, rv, hz, pl⟩ := hq.obj I
  have ei := refs_at rv
  subst ei
  rw [List.length_map] at hz
  obtain ⟨prs, rel, hl, hpr⟩ := pairs_of I hp
  have hex : ∀ j, ∃ u, ∀ q, prs[j]? = some q → ps[j]? = some (ps.getD j 0) ∧ IsTup s.heap (ps.getD j 0) #[u, q.2] ∧ keyIs q.1 u = true := fun j => by
    cases hj : prs[j]? with
    | none => exact ⟨.none, fun q z => by cases z⟩
    | some q0 =>
      obtain ⟨b, u, e1, e2, e3⟩ := hpr j q0 hj
      have eb : ps.getD j 0 = b := by rw [List.getD_eq_getElem?_getD, e1]; rfl
      exact ⟨u, fun q z => by cases z; rw [eb]; exact ⟨e1, e2, e3⟩⟩
  obtain ⟨ku, hku⟩ := Classical.axiomOfChoice hex
  have hlen2 : ((List.range (prs.map (·.2)).length).map fun j => (ku j, (prs.map (·.2)).getD j .none)).length = prs.length := by rw [List.length_map, List.length_range, List.length_map]
  have pa := PairArg.tuple (prog := X.prog) (w := X.w) a (ps.map Value.ref).toArray (fun j => ps.getD j 0) ((List.range (prs.map (·.2)).length).map fun j => (ku j, (prs.map (·.2)).getD j .none))
  have back : ∀ {j : Nat} {k v : Value}, ((List.range (prs.map (·.2)).length).map fun j => (ku j, (prs.map (·.2)).getD j .none))[j]? = some (k, v) → ∃ q, prs[j]? = some q ∧ k = ku j ∧ q.2 = v := fun {j k v} h => by
    obtain ⟨e1, e2⟩ := rel_of h
    rw [List.getElem?_map] at e2
    cases hj : prs[j]? with
    | none => rw [hj] at e2; cases e2
    | some q => rw [hj] at e2; exact ⟨q, rfl, e1, Option.some.inj e2⟩
  refine PySem.call_dict_pairs (knd := mixKind X.prog X.w) (kvs := prs) pa (I.ok.hd hcalm) ⟨pl, by simp [hlen2, hl], fun j k v hj => ?_⟩ ⟨hlen2.symm, fun i key v hr => ?_⟩ (by rw [hlen2, hl]; exact hz) fun h' tk hd' k => ?_
  · obtain ⟨q, e1, rfl, rfl⟩ := back hj
    obtain ⟨g1, g2, g3⟩ := hku j q e1
    refine ⟨?_, .inl g2⟩
    rw [List.getElem?_toArray, List.getElem?_map, g1]; rfl
  · obtain ⟨q, e1, rfl, rfl⟩ := back hr
    obtain ⟨g1, g2, g3⟩ := hku i q e1
    exact ⟨q.1, by rw [e1], g3⟩
  · have hm : (s.heap.objs.size == sysModules) = false := beq_eq_false_iff_ne.mpr (Nat.ne_of_gt I.big)
    have hlen : (mergeK [] kvs).length ≤ sizeLine := by
      refine Nat.le_trans (length_mergeK kvs []) ?_
      rw [List.length_nil, Nat.zero_add, rel.length, hl]
      exact hz
    exact ⟨.ref s.heap.objs.size, upd H s.heap.objs.size (.dK (mergeK [] kvs)), I.laid (t' := tk) (fun b o e => k b o (by simp) e) (Nat.le_refl _) (show ObjOk X.prog X.w _ _ _ (.dK (mergeK [] kvs)) from ⟨hlen, hm, merged [] prs, KV.merge rel .nil, hd'⟩), rfl, q _ (I.hok.fresh (Nat.le_refl _))⟩
/-- .. whose keys are tuples -/
def rDictTupT (K : PySem.W.Frag) : List V → Hp → VK → Prop := fun xs H Q => ∃ (a : Addr) (ps : List Addr) (kvs : List (List Key × V)), xs = [.ref a] ∧ Pt K H a (ps.map V.ref) ∧ Paired (fun p (kv : List Key × V) => ∃ b, H p = some (.tup [.ref b, kv.2]) ∧ H b = some (.tup (kv.1.map kV))) ps kvs ∧
    ∀ p, H p = none → Q (.ref p) (upd H p (.dT (mergeT [] kvs)))
theorem call_dictTupT (hcalm : X.calm = true) (hu : X.A.units + 8 < cLine) : CallR X (.type "dict") (rDictTupT X.K) := by
  intro pins s σ H xs us Q I r ⟨a, ps, kvs, ex, hq, hp, q⟩
  subst ex
  obtain ⟨u, eu, rx⟩ := vals1 r
  subst eu
  cases rx
  obtain ⟨its, rv, hz, pl⟩ := hq.obj I
  have ei := refs_at rv
  subst ei
  rw [List.length_map] at hz
  obtain ⟨prs, rel, hl, hpr⟩ := pairsT_of I hp
  have gp : ∀ {j : Nat} {k v : Value}, (prs.map fun q => (Value.ref q.2.1, q.2.2))[j]? = some (k, v) → ∃ q, prs[j]? = some q ∧ k = .ref q.2.1 ∧ v = q.2.2 := fun {j k v} h => by
    rw [List.getElem?_map] at h
    cases hj : prs[j]? with
    | none => rw [hj] at h; cases h
    | some q => rw [hj] at h; cases h; exact ⟨q, rfl, rfl, rfl⟩
  have pa := PairArg.tuple (prog := X.prog) (w := X.w) a (ps.map Value.ref).toArray (fun j => ps.getD j 0) (prs.map fun q => (Value.ref q.2.1, q.2.2))
  refine PySem.call_dict_pairsH (knd := tupleKind (mixKind X.prog X.w)) (ps := prs) pa (I.ok.hd hcalm) (show X.A.units + 1 + 1 < cLine by omega) ⟨pl, by simp [hl], fun j k v hj => ?_⟩ ⟨(List.length_map ..).symm, fun i key v hr => ?_⟩ (fun h' hk x hx => ?_) (by rw [List.length_map, hl]; exact hz) fun h' tk hd' k => ?_
  · obtain ⟨q, e1, rfl, rfl⟩ := gp hj
    obtain ⟨b, g1, g2, g3⟩ := hpr j q e1
    have eb : ps.getD j 0 = b := by rw [List.getD_eq_getElem?_getD, g1]; rfl
    refine ⟨?_, .inl (by show IsTup _ (ps.getD j 0) _; rw [eb]; exact g2)⟩
    show _ = some (Value.ref (ps.getD j 0))
    rw [List.getElem?_toArray, List.getElem?_map, g1, eb]; rfl
  · obtain ⟨q, e1, rfl, rfl⟩ := gp hr
    exact ⟨q.1, q.2.1, e1, rfl⟩
  · obtain ⟨j, hj⟩ := List.mem_iff_getElem?.mp hx
    obtain ⟨b, g1, g2, g3⟩ := hpr j x hj
    obtain ⟨ok, _, _, hok, _⟩ := id g3
    exact isk_keep g3 fun o e => hk _ o (Nat.ne_of_lt (Heap.lt_size hok)) (by simp) e
  · have hm : (s.heap.objs.size == sysModules) = false := beq_eq_false_iff_ne.mpr (Nat.ne_of_gt I.big)
    have hlen : (mergeT [] kvs).length ≤ sizeLine := by
      refine Nat.le_trans (mergeT_len kvs []) ?_
      rw [List.length_nil, Nat.zero_add, Paired.length rel, hl]
      exact hz
    have hn := I.hok.fresh (Nat.le_refl s.heap.objs.size)
    refine ⟨.ref s.heap.objs.size, upd H s.heap.objs.size (.dT (mergeT [] kvs)), I.laid (t' := tk) (fun b o e => k b o (by simp) e) (Nat.le_refl _) ?_, rfl, q _ hn⟩
    obtain ⟨q', es, ep, hq', h2, h3, h4, _, h5⟩ := hd'
    refine ⟨hlen, hm, _, (KT.merge rel .nil).keeps fun c ys ec => ?_, q', es, ep, hq', h2, h3, h4, h5⟩
    rw [upd_ne (ne_of_none ec hn)]
    exact ec
end
section
variable {X : Cx} {T : List TQ} {B : Bs} {ρ ρ1 ρ2 : Sl} {W W1 W2 : List Addr} {a b : Expr} {d : D} {ds es : List D} {pos p : Pos}
/-- tuple(a list), plain -/
theorem ex_tupleP (hg : Gl X "tuple") (hm : X.mg "tuple" = none) (ha : EL X T B ρ a W ρ1 ds) (he : starEach [a] X.env = (false, eval a X.env) :: starEach [] X.env := by rfl) : EX X T B ρ (.Call (.Name "tuple" p) [a] [] pos) W ρ1 (.ptup ds) :=
  ⟨PE.imp (Call1.run (c1t (p := p) call_tupP hg hm (by decide +kernel) (he := he)) (pa_cons ha.run pa_nil he)) fun σ H Q ⟨S, q⟩ => ⟨S, fun l xs H' S' f r1 r2 => ⟨l, xs, rfl, r1, fun np o h1 h2 ⟨its, n, h3⟩ nn => q _ _ (S'.new nn) (f.transN (Fx.new nn)) (.ptup ⟨o, its, n, h1, h2, h3, .inl (msk_new S' nn)⟩ (r2.mono (kp_new nn)))⟩⟩, ha.own, ha.sub⟩
/-- tuple + tuple -/
theorem ex_catT (ha : EX X T B ρ a W1 ρ1 (.tuple ds)) (hb : EX X T B ρ1 b W2 ρ2 (.tuple es)) (hl : ds.length + es.length ≤ sizeLine) : EX X T B ρ (.BinOp a .Add b pos) (W1 ++ W2) ρ2 (.tuple (ds ++ es)) := by
  refine ⟨PE.imp (pe_op op_catA ha.run hb.run) fun σ H Q ⟨S, q⟩ => ⟨S, fun x H1 S1 f1 r1 => ⟨S1, fun y H2 S2 f2 r2 => ?_⟩⟩, hb.own.trans ha.own, sub_app ha.sub ha.own hb.sub⟩
  have r1' := carry hb f2 r1
  have r2' := r2
  cases r1' with
  | tup h1 h2 =>
    cases r2 with
    | tup g1 g2 =>
      refine ⟨_, _, _, _, rfl, rfl, SqT.of (msk_some h1).2, SqT.of (msk_some g1).2, by rw [h2.length, g2.length]; exact hl, fun e => ?_, fun _ e => ?_, fun _ _ np nn => ?_⟩
      · have : ds = [] := List.eq_nil_of_length_eq_zero (by rw [← h2.length, e]; rfl)
        subst this
        exact q _ H2 S2 (f1.trans f2) r2'
      · have : es = [] := List.eq_nil_of_length_eq_zero (by rw [← g2.length, e]; rfl)
        subst this
        rw [List.append_nil] at q
        exact q _ H2 S2 (f1.trans f2) (.tup h1 h2)
      · exact q _ _ (S2.new nn) ((f1.trans f2).transN (Fx.new nn)) (.tup (msk_new S2 nn) ((h2.append g2).mono (kp_new nn)))
/-- dict(a plain tuple of pairs) -/
theorem en_dictQ {κ : Type} [DecidableEq κ] {E : KEn κ} {kvs : List (κ × D)} (hc : X.calm = true) (hu : X.A.units + 8 < cLine) (hg : Gl X "dict") (hm : X.mg "dict" = none) (ha : EX X T B ρ a W ρ1 (.ptup (kvs.map fun q => .tuple [E.d q.1, q.2]))) (he : starEach [a] X.env = (false, eval a X.env) :: starEach [] X.env := by rfl) :
    EN X T B ρ (.Call (.Name "dict" p) [a] [] pos) W ρ1 (dD E (mergeE [] kvs)) := by
  refine ⟨PE.imp (Call1.run (c1t (p := p) ((call_dictTup hc).or (call_dictTupT hc hu)) hg hm (by decide +kernel) (he := he)) (pa_cons ha.run pa_nil he)) fun σ H Q ⟨S, q⟩ => ⟨S, fun x H' S' f r1 => ?_⟩, ha.own, ha.sub⟩
  cases r1 with
  | ptup h1 h2 =>
    have hs := fun a o (_ : notTbl o = true) (z : msk (B.all ρ1) H' a = some o) => (msk_some z).2
    cases hf : E.fl with
    | true =>
      obtain ⟨ps, kk, rfl, g2, g3⟩ := pairs_flat hf h2
      exact .inl ⟨_, ps, kk, rfl, h1.mono hs, paired_imp (fun _ _ z => SqT.of z) g3, fun np n => en_laid S' f n (.inl ⟨hf, _, rfl, pb_merge (E.hk hf).2 g2 .nil⟩) q⟩
    | false =>
      cases kvs with
      | nil =>
        cases h2
        exact .inl ⟨_, [], [], rfl, h1.mono hs, .nil, fun np n => en_laid S' f n (.inr ⟨hf, .inl ⟨rfl, rfl⟩⟩) q⟩
      | cons kv kvs =>
        obtain ⟨ps, kk, rfl, g2, g3⟩ := pairs_tupl hf h2
        exact .inr ⟨_, ps, kk, rfl, h1.mono hs, g3, fun np n => en_laid S' f n (.inr ⟨hf, .inr ⟨(mergeE_ne (more := kvs) (kvs := putE [] kv.1 kv.2) putE_ne : mergeE [] (kv :: kvs) ≠ []), _, rfl, pb_merge (ds := []) (ms := kv :: kvs) (E.ht hf).2 g2 .nil⟩⟩) q⟩
end
end Dv

set_option maxRecDepth 100000
namespace Dv
open PySem PySem.Spec PyProof.Rows L2
variable {X : Cx} {T : List TQ} {B : Bs} {ρ ρ1 ρ2 ρ3 : Sl} {W W1 W2 W3 : List Addr} {e a b c : Expr} {d d1 d2 d3 : D} {pos : Pos}
/-- a <= b < c -/
theorem tx_leLt {i j k : Int} (ha : EX X T B ρ a W1 ρ1 (.int i)) (hb : EX X T B ρ1 b W2 ρ2 (.int j)) (hc : EX X T B ρ2 c [] ρ2 (.int k)) (hm : lastMarks [.LtE, .Lt] [b, c] = false := by with_unfolding_all rfl) :
    TX X T B ρ (.Compare a [.LtE, .Lt] [b, c] pos) (W1 ++ W2) ρ2 (decide (i ≤ j) && decide (j < k)) := by
  refine ⟨PT.imp (pt_chain op_le op_lt ha.run hb.run hc.run hm) fun σ H Q ⟨S, q⟩ => ⟨S, fun x H1 S1 f1 r1 => ⟨S1, fun y H2 S2 f2 r2 => ⟨i, j, int_of r1, int_of r2, decide (i ≤ j), rfl, ?_⟩⟩⟩, hb.own.trans ha.own, sub_app ha.sub ha.own hb.sub⟩
  by_cases h : i ≤ j
  · rw [if_pos (decide_eq_true h)]
    refine ⟨S2, fun z H3 S3 f3 r3 => ⟨j, k, int_of r2, int_of r3, _, rfl, ?_⟩⟩
    rw [decide_eq_true h, Bool.true_and] at q
    exact q H3 S3 (((f1.trans f2).trans f3).mono fun a z => by simpa using z)
  · rw [if_neg (by rw [decide_eq_false h]; exact Bool.false_ne_true)]
    refine ⟨false, rfl, ?_⟩
    rw [decide_eq_false h, Bool.false_and] at q
    exact q H2 S2 (f1.trans f2)
/-- text.index(text) -/
theorem ex_sidx {z y : Str} {i : Nat} {rest : List Nat} {apos : Pos} (ha : EX X T B ρ a W1 ρ1 (.str z)) (hb : EX X T B ρ1 b W2 ρ2 (.str y)) (ho : Builtin.Str.occurrences z y 0 z.length 1 = i :: rest)
    (hp : ∀ {to : TE} {t : TA}, PE X a to → PA X [b] t → PE X (.Call (.Attribute a "index" apos) [b] [] pos) (tBM X.K "str" (fun x xs H Q => ∃ a b i rest, x = .str a ∧ xs = [.str b] ∧ Builtin.Str.occurrences a b 0 a.length 1 = i :: rest ∧ Q (.int (i : Nat)) H) to t) := by exact fun h g => pe_bm PySem.F.plainAttrs_str PySem.F.slot_str_index PySem.F.type_str_index mt_sindex h g)
    (he : starEach [b] X.env = (false, eval b X.env) :: starEach [] X.env := by rfl) : EX X T B ρ (.Call (.Attribute a "index" apos) [b] [] pos) (W1 ++ W2) ρ2 (.int (i : Nat)) :=
  ⟨PE.imp (hp ha.run (pa_cons hb.run pa_nil he)) fun σ H Q ⟨S, q⟩ => ⟨S, fun v H1 S1 f1 r1 => ⟨by rw [str_of r1]; exact rfl, S1, fun x H2 S2 f2 r2 => ⟨z, y, i, rest, str_of r1, by rw [str_of r2], ho, q _ H2 S2 (f1.trans f2) (.int _)⟩⟩⟩, hb.own.trans ha.own, sub_app ha.sub ha.own hb.sub⟩
end Dv

set_option maxRecDepth 100000
namespace Dv
open PySem PySem.Spec PyProof.Rows L2
/-- data of at most this depth that == and in may compare -/
structure Fin (n : Nat) (d : D) : Prop where
  pl : plain d = true
  lay : d.py.canLay0 = true
  dep : d.py.depth ≤ n
theorem fin_int {i : Int} : Fin 0 (.int i) := ⟨by simp [plain], rfl, Nat.le_refl _⟩
theorem fin_all {n : Nat} : ∀ (ds : List D), (∀ z ∈ ds, Fin n z) → plainA ds = true ∧ PyData.canLayAll0 (D.pys ds) = true ∧ PyData.depthAll (D.pys ds) ≤ n
  | [], _ => ⟨by simp [plainA], rfl, Nat.zero_le _⟩
  | d :: ds, h => by
    obtain ⟨a, b, c⟩ := fin_all ds fun z hz => h z (List.mem_cons_of_mem _ hz)
    have f := h d List.mem_cons_self
    refine ⟨by simp [plainA, f.pl, a], ?_, ?_⟩
    · show (d.py.canLay0 && PyData.canLayAll0 (D.pys ds)) = true
      rw [f.lay, b]; rfl
    · show max d.py.depth (PyData.depthAll (D.pys ds)) ≤ n
      exact Nat.max_le.mpr ⟨f.dep, c⟩
theorem fin_list {n : Nat} {ds : List D} (h : ∀ z ∈ ds, Fin n z) : Fin (n + 1) (.list ds) := by
  obtain ⟨a, b, c⟩ := fin_all ds h
  exact ⟨by simpa [plain] using a, b, Nat.succ_le_succ c⟩
theorem fin_tup {n : Nat} {ds : List D} (h : ∀ z ∈ ds, Fin n z) : Fin (n + 1) (.tuple ds) := by
  obtain ⟨a, b, c⟩ := fin_all ds h
  exact ⟨by simpa [plain] using a, b, Nat.succ_le_succ c⟩
theorem Fin.fine {n : Nat} {d : D} (h : Fin n d) (hn : n ≤ 64) : fine d = true := by
  unfold Dv.fine SeqAt.shaped
  rw [h.pl, h.lay, decide_eq_true (Nat.le_trans h.dep hn)]; rfl
end Dv

set_option maxRecDepth 100000
namespace Dv
open PySem PySem.Spec PyProof.Rows L2
section
variable {X : Cx} {T : List TQ} {B : Bs} {ρ ρ1 : Sl} {W : List Addr} {pos : Pos}
theorem lc2_read {α β : Type} {elt tg iter tg1 iter1 : Expr} {scope : Scope} {wi : TI} {σ : L2.St} {H : Hp} {Q : V → Hp → Prop} {vs : List Nat} (qs : List α) (en : α → D) (rs : α → List β) (en1 : α → β → D) (g : α → β → D) (vs1 : List Nat)
    (hw : ∀ σ H R, Sim X.K T B ρ σ H → (∀ J H1, Sim X.K T B ρ1 σ H1 → Fx W H H1 → Walked X.K (B.all ρ1) (qs.map en) J H1 → R J H1) → wi σ H R) (hv : ∀ i ∈ vs1, i ∈ vs) (hlen : (qs.flatMap fun q => (rs q).map (g q)).length ≤ sizeLine) (hno : noOwn ρ1 vs = true)
    (hb : ∀ q, q ∈ qs → ∀ B', ∃ ρa, owns ρa = owns ρ1 ∧ Fg ρa (wipeD ρ1 vs) ∧ (∀ s H C cl fp, GX (Bk X scope s H C cl fp) T B' (wipeD ρ1 vs) tg vs (en q) ρa) ∧
      (∀ B2, ∀ s H C cl fp, IX (Bk X scope s H C cl fp) T B2 ρa tg1 iter1 [] ρa ((rs q).map (en1 q))) ∧
      ∀ r, r ∈ rs q → ∀ B2, ∃ ρb, owns ρb = owns ρ1 ∧ (∀ s H C cl fp, GX (Bk X scope s H C cl fp) T B2 (wipeD ρa vs1) tg1 vs1 (en1 q r) ρb) ∧ ∀ s H C cl fp, EX (Bk X scope s H C cl fp) T B2 ρb elt [] ρb (g q r))
    (S : Sim X.K T B ρ σ H) (q : ∀ p xs H', B.H0 p = none → Sim X.K T (B.add p) ρ1 σ H' → Fx W H H' → H' p = some (.lst xs) → p ∉ B.all ρ1 → RpA X.K (msk (p :: B.all ρ1) H') xs (qs.flatMap fun q => (rs q).map (g q)) → Q (.ref p) H') :
    tLc2 wi (gB X T scope tg vs) (tB' X T scope []) (iB X T scope tg1 iter1) (gB X T scope tg1 vs1) (tB' X T scope []) (eB X T scope elt) vs vs1 σ H Q := by
  refine hw σ H _ S fun J H1 S1 f1 wk L nL => ?_
  have nL0 : L ∉ B.all ρ1 := S1.free nL
  have ow : owns (wipeD ρ1 vs) = owns ρ1 := owns_wipe hno
  refine ⟨fun i m H' => m = qs.length - i ∧ i ≤ qs.length ∧ ∃ acc, Sim X.K T (B.blk ρ1 H1 L) (wipeD ρ1 vs) (wipe σ vs) H' ∧ H' L = some (.lst acc) ∧ RpA X.K (msk (L :: B.all ρ1) H') acc ((qs.take i).flatMap fun q => (rs q).map (g q)) ∧ Fx [L] (upd H1 L (.lst [])) H',
    ⟨qs.length, by simp, Nat.zero_le _, [], sim_blk S1 nL hno, upd_same, .nil, Fx.refl _ _⟩, ?_⟩
  rintro i m H' ⟨rfl, hi', acc, S', hL, hacc, hfx⟩
  have allw : ∀ {ρx : Sl}, owns ρx = owns ρ1 → (B.blk ρ1 H1 L).all ρx = L :: B.all ρ1 := fun {ρx} e => by
    show (L :: B.out) ++ owns ρx = L :: (B.out ++ owns ρ1)
    rw [e]; rfl
  have kk : Kp (msk (B.all ρ1) H1) (msk (L :: B.all ρ1) H') := fun a o no e => by
    obtain ⟨z1, z2⟩ := msk_some e
    have ne : a ≠ L := ne_of_none z2 nL
    rw [msk_out (fun z => by
      rcases List.mem_cons.mp z with z | z
      · exact ne z
      · exact z1 z)]
    exact kp_back S1 nL S' a o no (fun z => z1 (List.mem_append_right _ z)) z2
  have held : ∀ a ∈ (L :: B.all ρ1), ∃ o, H' a = some o ∧ mutb o = true := fun a z => by
    rw [← allw ow] at z
    exact S'.held a z
  by_cases hlt : i < qs.length
  · have hqi : qs[i]? = some qs[i] := List.getElem?_eq_getElem hlt
    have hdm : (qs.map en)[i]? = some (en qs[i]) := by rw [List.getElem?_map, hqi]; rfl
    have hlm : i < (qs.map en).length := by rw [List.length_map]; exact hlt
    have etk : (qs.take (i + 1)).flatMap (fun q => (rs q).map (g q)) = (qs.take i).flatMap (fun q => (rs q).map (g q)) ++ (rs qs[i]).map (g qs[i]) := by
      rw [List.take_add_one, hqi, List.flatMap_append]; simp
    refine .inr ⟨wk.go i _ H' kk hlm, fun H2 => ∃ acc, Sim X.K T (B.blk ρ1 H1 L) (wipeD ρ1 vs) (wipe σ vs) H2 ∧ H2 L = some (.lst acc) ∧ RpA X.K (msk (L :: B.all ρ1) H2) acc ((qs.take (i + 1)).flatMap fun q => (rs q).map (g q)) ∧ Fx [L] (upd H1 L (.lst [])) H2,
      fun H2 z => ⟨qs.length - (i + 1), by omega, rfl, hlt, z⟩, fun v H2 y => ?_⟩
    obtain ⟨hH, d, hd', hrp⟩ := wk.yld i _ H' v H2 kk held hlm y
    rw [hdm] at hd'
    cases hd'
    obtain ⟨t1, t2, t3⟩ := tab_keep hH
    have S2 := S'.grow t1 (fun P z => t2 P (S'.tabs P z)) t3
    have hL2 : H2 L = some (.lst acc) := t1 _ _ rfl hL
    have hacc2 : RpA X.K (msk (L :: B.all ρ1) H2) acc ((qs.take i).flatMap fun q => (rs q).map (g q)) := hacc.mono fun a o no e => by
      obtain ⟨z1, z2⟩ := msk_some e
      rw [msk_out z1]; exact t1 a o no z2
    have hfx2 : Fx [L] (upd H1 L (.lst [])) H2 := fun a o no w e => t1 a o no (hfx a o no w e)
    obtain ⟨ρa, ga, gf, g1, g2, g3⟩ := hb qs[i] (List.getElem_mem hlt) (B.blk ρ1 H1 L)
    refine ⟨_, _, en qs[i], ρa, g1, S2, by rw [allw ow]; exact hrp, fun σ2 S3 hwp => ?_⟩
    have hwp2 : wipe σ2 vs = wipe σ vs := by rw [hwp, wipe_wipe]
    refine ⟨hwp2, _, ρa, [], ρa, true, fun s H C cl fp => txs_nil, S3, fun H3 S4 f4 => ?_⟩
    show (if true = true then _ else _)
    rw [if_pos rfl]
    have k4 : Kp H2 H3 := f4.kpN
    refine ⟨_, ρa, _, g2 (B.blk ρ1 H1 L), S4, fun J1 H4 S5 f5 wk1 => ?_⟩
    have k5 : Kp H3 H4 := f5.kpN
    have k25 : Kp H2 H4 := k4.trans k5
    refine ⟨fun j k H => k = (rs qs[i]).length - j ∧ j ≤ (rs qs[i]).length ∧ ∃ acc, Sim X.K T (B.blk ρ1 H1 L) ρa σ2 H ∧ H L = some (.lst acc) ∧ Kp (msk (L :: B.all ρ1) H4) (msk (L :: B.all ρ1) H) ∧ RpA X.K (msk (L :: B.all ρ1) H) acc ((qs.take i).flatMap (fun q => (rs q).map (g q)) ++ ((rs qs[i]).take j).map (g qs[i])) ∧ Fx [L] (upd H1 L (.lst [])) H,
      ⟨(rs qs[i]).length, by simp, Nat.zero_le _, acc, S5, k25 _ _ rfl hL2, Kp.refl _, ?_, fun a o no w e => k25 a o no (hfx2 a o no w e)⟩, ?_⟩
    · simp only [List.take_zero, List.map_nil, List.append_nil]
      exact hacc2.mono fun a o no e => by
        obtain ⟨z1, z2⟩ := msk_some e
        rw [msk_out z1]; exact k25 a o no z2
    · rintro j k H5 ⟨rfl, hj', acc5, S6, hL5, kp5, hacc5, hfx5⟩
      rw [allw ga] at wk1
      have held5 : ∀ a ∈ (L :: B.all ρ1), ∃ o, H5 a = some o ∧ mutb o = true := fun a z => by
        rw [← allw ga] at z
        exact S6.held a z
      by_cases hjt : j < (rs qs[i]).length
      · have hrj : (rs qs[i])[j]? = some (rs qs[i])[j] := List.getElem?_eq_getElem hjt
        have hrm : ((rs qs[i]).map (en1 qs[i]))[j]? = some (en1 qs[i] (rs qs[i])[j]) := by rw [List.getElem?_map, hrj]; rfl
        have hjm : j < ((rs qs[i]).map (en1 qs[i])).length := by rw [List.length_map]; exact hjt
        refine .inr ⟨wk1.go j _ H5 kp5 hjm, fun H => ∃ acc, Sim X.K T (B.blk ρ1 H1 L) ρa σ2 H ∧ H L = some (.lst acc) ∧ Kp (msk (L :: B.all ρ1) H4) (msk (L :: B.all ρ1) H) ∧ RpA X.K (msk (L :: B.all ρ1) H) acc ((qs.take i).flatMap (fun q => (rs q).map (g q)) ++ ((rs qs[i]).take (j + 1)).map (g qs[i])) ∧ Fx [L] (upd H1 L (.lst [])) H,
          fun H z => ⟨(rs qs[i]).length - (j + 1), by omega, rfl, hjt, z⟩, fun w H6 y6 => ?_⟩
        obtain ⟨hH6, d6, hd6, hrp6⟩ := wk1.yld j _ H5 w H6 kp5 held5 hjm y6
        rw [hrm] at hd6
        cases hd6
        obtain ⟨t61, t62, t63⟩ := tab_keep hH6
        have S7 := S6.grow t61 (fun P z => t62 P (S6.tabs P z)) t63
        have Sw := sim_wiped (vs := vs1) S7
        have ow1 : owns (wipeD ρa vs1) = owns ρ1 := by
          refine (owns_wipe ?_).trans ga
          refine List.all_eq_true.mpr fun x hx => ?_
          have hx' := hv x hx
          rcases hq : ρa[x]? with _ | s
          · rfl
          · cases s with
            | own a d =>
              exfalso
              -- an owned slot among the block's own names
              have hm : (wipeD ρ1 vs)[x]? = some .un := wipeD_in hx' (by
                have l1 := gf.length
                rw [wipeD_length] at l1
                rw [← l1]; exact (List.getElem?_eq_some_iff.mp hq).1)
              have m1 : a ∈ owns ρa := mem_owns.mpr ⟨x, d, hq⟩
              rw [ga, ← ow] at m1
              obtain ⟨y, d', ey⟩ := mem_owns.mp m1
              rcases gf.get ey with e | e
              · cases e
              · by_cases xy : x = y
                · subst xy; rw [hm] at ey; cases ey
                · exact hold_data.own_twice hq e xy S6.nodup
            | _ => rfl
        obtain ⟨ρb, gb, g4, g5⟩ := g3 (rs qs[i])[j] (List.getElem_mem hjt) ((B.blk ρ1 H1 L).at (wipeD ρa vs1) H6)
        have all2 : ∀ {ρx : Sl}, owns ρx = owns ρ1 → ((B.blk ρ1 H1 L).at (wipeD ρa vs1) H6).all ρx = L :: B.all ρ1 := fun {ρx} e => by
          show (L :: B.out) ++ owns ρx = L :: (B.out ++ owns ρ1)
          rw [e]; rfl
        refine ⟨_, _, en1 qs[i] (rs qs[i])[j], ρb, g4, rebase Sw, by rw [all2 ow1]; exact hrp6, fun σ3 S8 hw8 => ⟨by rw [hw8, wipe_wipe], _, ρb, [], ρb, true, fun s H C cl fp => txs_nil, S8, fun H7 S9 f9 => ?_⟩⟩
        show (if true = true then _ else _)
        rw [if_pos rfl]
        refine ⟨_, ρb, [], ρb, g qs[i] (rs qs[i])[j], g5, S9, fun z H8 S10 f10 rz => ?_⟩
        have k8 : Kp H6 H8 := (f9.transN f10).kpN
        have SA : Sim X.K T (B.blk ρ1 H1 L) ρa σ2 H8 := S7.grow k8 S10.tabs fun a z => S10.dom a z
        have hL8 : H8 L = some (.lst acc5) := k8 _ _ rfl (t61 _ _ rfl hL5)
        have km8 : Kp (msk (L :: B.all ρ1) H5) (msk (L :: B.all ρ1) H8) := fun a o no e => by
          obtain ⟨z1, z2⟩ := msk_some e
          rw [msk_out z1]; exact k8 a o no (t61 a o no z2)
        have hlenj : (acc5).length < sizeLine := by
          have h1 := hacc5.length
          have h2 : ((qs.take i).flatMap (fun q => (rs q).map (g q)) ++ ((rs qs[i]).take j).map (g qs[i])).length < (qs.flatMap fun q => (rs q).map (g q)).length := by
            have e1 : qs = qs.take i ++ (qs[i] :: qs.drop (i + 1)) := by rw [List.getElem_cons_drop, List.take_append_drop]
            have e2 : (qs.flatMap fun q => (rs q).map (g q)).length = ((qs.take i).flatMap fun q => (rs q).map (g q)).length + ((rs qs[i]).length + ((qs.drop (i + 1)).flatMap fun q => (rs q).map (g q)).length) := by
              conv => lhs; rw [e1]
              rw [List.flatMap_append, List.flatMap_cons, List.length_append, List.length_append, List.length_map]
            rw [e2, List.length_append, List.length_map, List.length_take]
            omega
          omega
        refine ⟨acc5, hL8, hlenj, acc5 ++ [z], ?_, upd_same, ?_, ?_, ?_⟩
        · exact sim_out SA (by show L ∈ L :: B.out; exact List.mem_cons_self) (by show L ∈ L :: owns ρ1; exact List.mem_cons_self) hL8 rfl rfl
        · rw [msk_upd List.mem_cons_self]; exact kp5.trans km8
        · rw [msk_upd List.mem_cons_self, List.take_add_one, hrj]
          have rz2 : Rp X.K (msk (L :: B.all ρ1) H8) z (g qs[i] (rs qs[i])[j]) := by rw [all2 gb] at rz; exact rz
          have := (hacc5.mono km8).snoc rz2
          rw [List.append_assoc] at this
          show RpA _ _ _ (_ ++ ((rs qs[i]).take j ++ [(rs qs[i])[j]]).map (g qs[i]))
          rw [List.map_append]
          exact this
        · intro a o no wn e
          rw [upd_ne (fun q => wn (by rw [q]; exact List.mem_singleton.mpr rfl))]
          exact k8 a o no (t61 a o no (hfx5 a o no wn e))
      · have e : j = (rs qs[i]).length := by omega
        subst e
        refine .inl ⟨wk1.stop _ _ H5 kp5 (by rw [List.length_map]; exact Nat.le_refl _), acc5, ?_, hL5, ?_, hfx5⟩
        · have z := sim_wiped (vs := vs) (S6.fg gf)
          rw [wipeD_wipeD, hwp2] at z
          exact z
        · rw [etk]
          rw [List.take_length] at hacc5
          exact hacc5
  · have e : i = qs.length := by omega
    subst e
    rw [List.take_length] at hacc
    refine .inl ⟨wk.stop _ _ H' kk (by rw [List.length_map]; exact Nat.le_refl _), q L acc H' ?_ (sim_back S1 nL hno (Sh.refl _) S') ?_ hL nL0 hacc⟩
    · exact dom_none S1 nL
    · intro a o no w e
      have e1 := f1 a o no w e
      exact hfx a o no (fun z => ne_of_none e1 nL (by simpa using z)) (by rw [upd_ne (ne_of_none e1 nL)]; exact e1)
end
end Dv

set_option maxRecDepth 100000
namespace Dv
open PySem PySem.Spec PyProof.Rows L2
section
variable {X : Cx} {T : List TQ} {B : Bs} {ρ ρ1 : Sl} {W : List Addr} {pos : Pos} {k : DE} {r : List Stmt}
/-- y = [elt for tg in iter for tg1 in iter1], y a local -/
theorem sx_setLc2 {α β : Type} {elt tg iter tg1 iter1 : Expr} {scope : Scope} {y : Str} {py spos : Pos} (i : Nat) (qs : List α) (en : α → D) (rs : α → List β) (en1 : α → β → D) (g : α → β → D) (own : List (Str × Nat)) (vs1 : List Nat) (hc : X.calm = true) (hN : X.N.Nodup)
    (hi : IX X T B ρ tg iter W ρ1 (qs.map en)) (ok : BlkOk X.N X.env.scope scope own) (hv : ∀ i ∈ vs1, i ∈ own.map (·.2)) (hlen : (qs.flatMap fun q => (rs q).map (g q)).length ≤ sizeLine) (hno : noOwn ρ1 (own.map (·.2)) = true)
    (hb : ∀ q, q ∈ qs → ∀ B', ∃ ρa, owns ρa = owns ρ1 ∧ Fg ρa (wipeD ρ1 (own.map (·.2))) ∧ (∀ s H C cl fp, GX (Bk X scope s H C cl fp) T B' (wipeD ρ1 (own.map (·.2))) tg (own.map (·.2)) (en q) ρa) ∧
      (∀ B2, ∀ s H C cl fp, IX (Bk X scope s H C cl fp) T B2 ρa tg1 iter1 [] ρa ((rs q).map (en1 q))) ∧
      ∀ r, r ∈ rs q → ∀ B2, ∃ ρb, owns ρb = owns ρ1 ∧ (∀ s H C cl fp, GX (Bk X scope s H C cl fp) T B2 (wipeD ρa vs1) tg1 vs1 (en1 q r) ρb) ∧ ∀ s H C cl fp, EX (Bk X scope s H C cl fp) T B2 ρb elt [] ρb (g q r))
    (hr : SXs X T B (ρ1.set i (.dat (.list (qs.flatMap fun q => (rs q).map (g q))))) r k) (hy : X.N[i]? = some y := by rfl) (hyl : X.env.scope.names.lookup y = some .local := by rfl) (hl : i < ρ1.length := by exact Nat.le_of_ble_eq_true rfl)
    (hsw : swapsWith (.ListComp elt [⟨tg, iter, [], 0⟩, ⟨tg1, iter1, [], 0⟩] scope pos) (some (.Name y py)) spos.line X.env = pure true := by rfl)
    (hs : ∀ x, foldedSetIterable iter X.env x = pure x := by intro _; rfl) (hs1 : ∀ env x, foldedSetIterable iter1 env x = pure x := by intro _ _; rfl) :
    SXs X T B ρ (.Assign [.Name y py] (.ListComp elt [⟨tg, iter, [], 0⟩, ⟨tg1, iter1, [], 0⟩] scope pos) spos :: r) k := by
  obtain ⟨wi, hwi, hw⟩ := hi.run
  refine PSs.imp (pss_cons (ps_setLc2 hc hN hy hyl hsw hwi ok hv (g := gB X T scope tg (own.map (·.2))) (tt := tB' X T scope []) (wi1 := iB X T scope tg1 iter1) (g1 := gB X T scope tg1 vs1) (tt1 := tB' X T scope []) (te := eB X T scope elt) ?_ ?_ ?_ ?_ ?_ ?_ hs hs1) hr) fun E σ H ⟨S, q⟩ => ?_
  · exact fun s H C cl fp => ⟨fun pins s' σ H v u Q I rr ⟨B, ρ, d, ρ', h, z⟩ => PG.run (h s _ C cl fp) pins s' σ H v u Q I rr z⟩
  · exact fun s H C cl fp => ⟨fun pins s' σ H Q I ⟨B, ρ, W, ρ', k, h, z⟩ => PTs.run (h s _ C cl fp) pins s' σ H Q I z⟩
  · exact fun s H C cl fp => ⟨fun pins s' σ H R I ⟨B, ρ, ds, h, S, z⟩ => let ⟨wj, hp, hq⟩ := (h s _ C cl fp).run; hp.run pins s' σ H R I (hq σ H R S z)⟩
  · exact fun s H C cl fp => ⟨fun pins s' σ H v u Q I rr ⟨B, ρ, d, ρ', h, z⟩ => PG.run (h s _ C cl fp) pins s' σ H v u Q I rr z⟩
  · exact fun s H C cl fp => ⟨fun pins s' σ H Q I ⟨B, ρ, W, ρ', k, h, z⟩ => PTs.run (h s _ C cl fp) pins s' σ H Q I z⟩
  · exact fun s H C cl fp => ⟨fun pins s' σ H Q I ⟨B, ρ, W, ρ', d, h, z⟩ => (h s _ C cl fp).run.run pins s' σ H Q I z⟩
  · refine lc2_read (iter := iter) (Q := fun x H1 => TSd X.K T B (ρ1.set i (.dat (.list (qs.flatMap fun q => (rs q).map (g q))))) k E (σ.set i (some x)) H1) qs en rs en1 g vs1 hw hv hlen hno hb S fun p xs H' h0 S' f h1 h2 h3 => ?_
    exact ⟨(sim_unadd S').set (fun _ _ z => by cases z) hl ⟨_, rfl, rp_new h1 h2 h3⟩, q⟩
end
end Dv

set_option maxRecDepth 100000
namespace Dv
open PySem PySem.Spec PyProof.Rows L2
/-! ### dicts walked: keys, values, items -/
section
variable {K : PySem.W.Frag} {O : List Addr} {H : Hp} {m : Addr} {od : Obj} {κ : Type} {E : KEn κ} {kvs : List (κ × D)}
theorem wk_keysK {kk : List (Key × V)} (hf : E.fl = true) (h : msk O H m = some (.frz od (.dK kk))) (r : PB K (msk O H) E.fk kk kvs) : Walked K O (kvs.map fun q => E.d q.1) (Itk m od kk) H := by
  have hl := r.len
  have at_ : ∀ {O' : List Addr} {H' : Hp}, Kp (msk O H) (msk O' H') → H' m = some (.frz od (.dK kk)) := fun k => (msk_some (k _ _ rfl h)).2
  refine ⟨fun i O' H' k hi => ⟨at_ k, by rw [List.length_map] at hi; omega⟩, fun i O' H' k hi => ⟨at_ k, by rw [List.length_map] at hi; omega⟩, fun i O' H' v H2 k hO hi y => ?_⟩
  obtain ⟨e, kx, w, e1, rfl⟩ := y
  subst e
  obtain ⟨q, h1, h2, h3⟩ := r.at e1
  refine ⟨.inl rfl, E.d q.1, by rw [List.getElem?_map, h1]; rfl, ?_⟩
  have h2 : kx = E.fk q.1 := h2
  rw [h2, (E.hk hf).1]
  cases E.fk q.1 with
  | inl i => exact .int i
  | inr z => exact .str z
theorem wk_keysT {kk : List (List Key × V)} (hf : E.fl = false) (h : msk O H m = some (.frz od (.dT kk))) (r : PB K (msk O H) E.ft kk kvs) : Walked K O (kvs.map fun q => E.d q.1) (Itkt m od kk) H := by
  have hl := r.len
  have at_ : ∀ {O' : List Addr} {H' : Hp}, Kp (msk O H) (msk O' H') → H' m = some (.frz od (.dT kk)) := fun k => (msk_some (k _ _ rfl h)).2
  refine ⟨fun i O' H' k hi => ⟨at_ k, by rw [List.length_map] at hi; omega⟩, fun i O' H' k hi => ⟨at_ k, by rw [List.length_map] at hi; omega⟩, fun i O' H' v H2 k hO hi y => ?_⟩
  obtain ⟨e, kx, w, t, e1, rfl, ht⟩ := y
  subst e
  obtain ⟨q, h1, h2, h3⟩ := r.at e1
  refine ⟨.inl rfl, E.d q.1, by rw [List.getElem?_map, h1]; rfl, ?_⟩
  have h2 : kx = E.ft q.1 := h2
  rw [(E.ht hf).1]
  subst h2
  refine .tup (xs := (E.ft q.1).map kV) ?_ keys_rp
  have nt : t ∉ O' := fun z => by
    obtain ⟨o, e, no⟩ := hO t z
    rw [ht] at e; cases e; cases no
  show msk O' _ t = _
  rw [msk_out nt]; exact ht
theorem wk_valsK {kk : List (Key × V)} (h : msk O H m = some (.frz od (.dK kk))) (r : PB K (msk O H) E.fk kk kvs) : Walked K O (kvs.map (·.2)) (Itd m od kk) H := by
  have hl := r.len
  have at_ : ∀ {O' : List Addr} {H' : Hp}, Kp (msk O H) (msk O' H') → H' m = some (.frz od (.dK kk)) := fun k => (msk_some (k _ _ rfl h)).2
  refine ⟨fun i O' H' k hi => ⟨at_ k, by rw [List.length_map] at hi; omega⟩, fun i O' H' k hi => ⟨at_ k, by rw [List.length_map] at hi; omega⟩, fun i O' H' v H2 k hO hi y => ?_⟩
  obtain ⟨e, kx, e1⟩ := y
  subst e
  obtain ⟨q, h1, h2, h3⟩ := r.at e1
  exact ⟨.inl rfl, q.2, by rw [List.getElem?_map, h1]; rfl, h3.mono k⟩
theorem wk_itemsK {kk : List (Key × V)} (hf : E.fl = true) (h : msk O H m = some (.frz od (.dK kk))) (r : PB K (msk O H) E.fk kk kvs) : Walked K O (kvs.map fun q => .tuple [E.d q.1, q.2]) (Iti m od kk) H := by
  have hl := r.len
  have at_ : ∀ {O' : List Addr} {H' : Hp}, Kp (msk O H) (msk O' H') → H' m = some (.frz od (.dK kk)) := fun k => (msk_some (k _ _ rfl h)).2
  refine ⟨fun i O' H' k hi => ⟨at_ k, by rw [List.length_map] at hi; omega⟩, fun i O' H' k hi => ⟨at_ k, by rw [List.length_map] at hi; omega⟩, fun i O' H' v H2 k hO hi y => ?_⟩
  obtain ⟨t, kx, w, e1, rfl, ht, rfl⟩ := y
  obtain ⟨q, h1, h2, h3⟩ := r.at e1
  have nt : t ∉ O' := fun z => by
    obtain ⟨o, e, no⟩ := hO t z
    rw [ht] at e; cases e
  have h2 : kx = E.fk q.1 := h2
  have k2 : Kp (msk O H) (msk O' (upd H' t (.tup [kV kx, w]))) := k.trans (kp_new ht)
  refine ⟨.inr ⟨t, _, ht, rfl⟩, .tuple [E.d q.1, q.2], by rw [List.getElem?_map, h1]; rfl, .tup (xs := [kV kx, w]) (by show msk _ _ t = _; rw [msk_out nt, upd_same]) (.cons ?_ (.cons (h3.mono k2) .nil))⟩
  rw [h2, (E.hk hf).1]
  cases E.fk q.1 with
  | inl i => exact .int i
  | inr z => exact .str z
end
section
variable {X : Cx} {T : List TQ} {B : Bs} {ρ ρ1 : Sl} {W : List Addr} {e tg : Expr} {apos cpos : Pos} {κ : Type} {E : KEn κ} {kvs : List (κ × D)}
/-- for k in d -/
theorem ix_keys (h : EX X T B ρ e W ρ1 (dD E kvs)) : IX X T B ρ tg e W ρ1 (kvs.map fun q => E.d q.1) := ⟨⟨_, pi_keys h.run, fun σ H R S q => ⟨S, fun v H' S' f rp => by
  obtain ⟨m, u, od, rfl, hm, hq⟩ := dh_rp rp
  refine ⟨m, od, rfl, ?_⟩
  rcases hq with ⟨e, kk, rfl, hq⟩ | ⟨e, ⟨rfl, rfl⟩ | ⟨n, kk, rfl, hq⟩⟩
  · exact .inl ⟨kk, (msk_some hm).2, q _ H' S' f (wk_keysK e hm hq)⟩
  · refine .inl ⟨[], (msk_some hm).2, q _ H' S' f ⟨fun i O' H2 k hi => absurd hi (Nat.not_lt_zero _), fun i O' H2 k hi => ⟨(msk_some (k _ _ rfl hm)).2, Nat.zero_le _⟩, fun i O' H2 v H3 k hO hi y => absurd hi (Nat.not_lt_zero _)⟩⟩
  · exact .inr ⟨kk, (msk_some hm).2, q _ H' S' f (wk_keysT e hm hq)⟩⟩⟩, h.own, h.sub⟩
/-- for v in d.values(), keys flat -/
theorem ix_vals (h : EX X T B ρ e W ρ1 (dD E kvs)) (hf : E.fl = true := by rfl) (hbase : attributeBase e "values" X.env (eval e X.env) = eval e X.env := by rfl) (hline : (apos.endLine == cpos.line) = true := by rfl) : IX X T B ρ tg (.Call (.Attribute e "values" apos) [] [] cpos) W ρ1 (kvs.map (·.2)) := ⟨⟨_, pi_values h.run hbase hline, fun σ H R S q => ⟨S, fun v H' S' f rp => by
  obtain ⟨m, u, od, rfl, hm, hq⟩ := dh_rp rp
  rcases hq with ⟨e, kk, rfl, hq⟩ | ⟨e, _⟩
  · exact ⟨m, od, kk, rfl, (msk_some hm).2, q _ H' S' f (wk_valsK hm hq)⟩
  · rw [hf] at e; cases e⟩⟩, h.own, h.sub⟩
/-- for k, v in d.items(), keys flat -/
theorem ix_items {elts : List Expr} {kk : Nat} {tpos : Pos} (h : EX X T B ρ e W ρ1 (dD E kvs)) (hf : E.fl = true := by rfl) (hbase : attributeBase e "items" X.env (eval e X.env) = eval e X.env := by rfl) (hline : (apos.endLine == cpos.line) = true := by rfl) : IX X T B ρ (.Tuple elts kk tpos) (.Call (.Attribute e "items" apos) [] [] cpos) W ρ1 (kvs.map fun q => .tuple [E.d q.1, q.2]) := ⟨⟨_, pi_items h.run hbase hline, fun σ H R S q => ⟨S, fun v H' S' f rp => by
  obtain ⟨m, u, od, rfl, hm, hq⟩ := dh_rp rp
  rcases hq with ⟨e, kk, rfl, hq⟩ | ⟨e, _⟩
  · exact ⟨m, od, kk, rfl, (msk_some hm).2, q _ H' S' f (wk_itemsK e hm hq)⟩
  · rw [hf] at e; cases e⟩⟩, h.own, h.sub⟩
end
end Dv

set_option maxRecDepth 100000
namespace Dv
open PySem PySem.Spec PyProof.Rows L2
/-! ## dict comprehensions, keys of any kind -/
section
variable {X : Cx} {pins : List (Addr × Obj)} {σ : L2.St} {H H' : Hp} {s : Shared} {m : Addr} {y v : V} {u r : Value} {E : Value → Shared → Prop} {Q : Unit → Shared → Prop}
theorem d_setT {kk : List (List Key × V)} {k : List Key} {b : Addr} (hu : X.A.units + 1 < cLine) (I : L2.Inv X pins σ H s) (e : H m = some (.dT kk)) (eb : H b = some (.tup (k.map kV))) (hl : kk.length < sizeLine) (rv : RelV v r) (h : ∀ s', L2.Inv X pins σ (upd H m (.dT (putK kk k v))) s' → Q () s') :
    wpAny (model X.prog X.w) X.A (dictSet m (.ref b) r) Q E s := by
  obtain ⟨z, hd, xs, rel, dd⟩ := dt_of I.hok e
  have zx : xs.length ≤ sizeLine := by rw [← Paired.length rel]; exact z
  have z2 : (putK kk k v).length ≤ sizeLine := by have := length_putK kk k v; omega
  refine wpAny_dictSet_heap (hsz := zx) (show X.A.units < cLine by omega) (key_of I.hok eb) dd fun g dg hs => h _ ?_
  obtain ⟨o, es, ep, g1, g2, g3, g4, _, g5⟩ := dg
  refine d_write I (by rw [e]; trivial) hs ⟨o, g1⟩ ⟨z2, hd, _, (rel.put k eb rv).keeps fun c ys ec => ?_, o, es, ep, g1, g2, g3, g4, g5⟩
  rw [upd_ne (ne_of ec e (fun q => nomatch q))]
  exact ec
theorem d_setE (hu : X.A.units + 1 < cLine) (I : L2.Inv X pins σ H s) (g : DPutE H m y v H') (ry : RelV y u) (rv : RelV v r) (h : ∀ s', L2.Inv X pins σ H' s' → Q () s') : wpAny (model X.prog X.w) X.A (dictSet m u r) Q E s := by
  rcases g with (⟨kk, k, e, rfl, l, rfl⟩ | ⟨kk, k, b, e, rfl, eb, l, rfl⟩) | ⟨e0, ⟨kk, k, e, rfl, l, rfl⟩ | ⟨kk, k, b, e, rfl, eb, l, rfl⟩⟩
  · exact d_dictSet I e l ry rv h
  · cases (show u = Value.ref b from ry)
    exact d_setT hu I e eb l rv h
  · rw [upd_same] at e; cases e
  · cases (show u = Value.ref b from ry)
    exact d_setT hu (inv_tagT I e0) e eb l rv h
end
section
variable {X : Cx}
/-- {key: value for tg in iter if ..}: N the new dict -/
def tDcE (wi : TI) (g : TG) (tt : TT) (tk tv : TE) (vs : List Nat) : TE := fun σ H Q => wi σ H fun J H1 => ∀ N, H1 N = none → ∃ W : Nat → Nat → Hp → Prop, (∃ m, W 0 m (upd H1 N (.dK []))) ∧ ∀ i m H, W i m H →
  (J.stop i H ∧ Q (.ref N) H) ∨ (J.go i H ∧ ∃ Nx : Hp → Prop, (∀ H', Nx H' → ∃ m', m' < m ∧ W (i + 1) m' H') ∧ ∀ x H', J.yld i H x H' → g x (wipe σ vs) H' fun σ2 H2 => wipe σ2 vs = wipe σ vs ∧ tt σ2 H2 fun b H3 =>
    if b = true then tk σ2 H3 fun y H4 => tv σ2 H4 fun z H5 => ∃ H6, DPutE H5 N y z H6 ∧ Nx H6 else Nx H3)
theorem pe_dcE {kx vx tg iter : Expr} {ifs : List Expr} {scope : Scope} {own : List (Str × Nat)} {pos : Pos} {wi : TI} {g : TG} {tt : TT} {tk tv : TE} (hu : X.A.units + 1 < cLine) (hc : X.calm = true) (hN : X.N.Nodup) (hi : PI X tg iter wi) (ok : BlkOk X.N X.env.scope scope own)
    (hg : ∀ (s : Shared) (H : Hp) (C : Addr) (cl : List (Str × Addr)) (fp : List Addr), PG (Bk X scope s H C cl fp) tg g) (ht : ∀ (s : Shared) (H : Hp) (C : Addr) (cl : List (Str × Addr)) (fp : List Addr), PTs (Bk X scope s H C cl fp) ifs tt)
    (hk : ∀ (s : Shared) (H : Hp) (C : Addr) (cl : List (Str × Addr)) (fp : List Addr), PE (Bk X scope s H C cl fp) kx tk) (he : ∀ (s : Shared) (H : Hp) (C : Addr) (cl : List (Str × Addr)) (fp : List Addr), PE (Bk X scope s H C cl fp) vx tv) (hs : ∀ x, foldedSetIterable iter X.env x = pure x := by intro _; rfl) :
    PE X (.DictComp kx vx [⟨tg, iter, ifs, 0⟩] scope pos) (tDcE wi g tt tk tv (own.map (·.2))) := ⟨fun pins s0 σ H Q I0 hq => by
  rw [arm_eval_DictComp]
  have free : ∀ q ∈ scope.names, q.2 = .free → ∃ c, X.env.cells.lookup q.1 = some c := fun q hq e => (ok.free q hq e).elim (fun k => I0.ok.has _ (.inl k)) fun k => I0.ok.has _ (.inr k)
  refine wpAny_comprehension_free (use := none) rfl hs (closure_ok free) ok.kind (fun q hq e => by rw [ok.uniq q hq, e]) (thn (hi.run pins s0 σ H _ I0 hq) fun xv sA hA => thn hA fun itv sB hB => ?_)
  obtain ⟨it, fp, tn, J, HB, rfl, IB, TU, stB, fB, q⟩ := hB
  refine wpAny_newObj_type (newEnv_comp ?_)
  -- the new dict
  generalize eN : sB.heap.objs.size = N
  obtain ⟨W, ⟨m0, w0⟩, turn⟩ := q N (IB.hok.fresh (Nat.le_of_eq eN))
  generalize eC : ({ sB with heap := sB.heap.push { cls := .type "dict", data := .dict #[] } } : Shared) = sC
  have hpC : sC.heap = sB.heap.push { cls := .type "dict", data := .dict #[] } := by rw [← eC]
  have IC : L2.Inv X pins σ (upd HB N (.dK [])) sC := by
    rw [← eC]
    refine IB.laid (t' := sB.toks) (fun b o e => Heap.get?_push_of_some _ e) (Nat.le_of_eq eN) ?_
    rw [← eN]; exact dk_empty sB.heap IB.big
  have low : ∀ b ∈ fp, b < sB.heap.objs.size := fun b hb => let ⟨_, e, _⟩ := TU.obj _ _ stB b hb; Heap.lt_size e
  have fC : ∀ b ∈ fp, FpOk X pins (upd HB N (.dK [])) b ∧ b < sC.heap.objs.size := fun b hb => by
    have lb := low b hb
    exact ⟨⟨by rw [upd_ne (by rw [← eN]; exact Nat.ne_of_lt lb)]; exact (fB b hb).1, (fB b hb).2⟩, by rw [hpC, Heap.size_push]; exact Nat.lt_succ_of_lt lb⟩
  have stC : tn 0 sC.heap := TU.keep _ _ _ stB fun b _ o e => by rw [hpC]; exact Heap.get?_push_of_some _ e
  have ID := block_start IC ok hN fC
  generalize eL : cellsFrom (sC.heap.objs.size + 1) scope.names (cloFrom X.env.cells scope.names []) = cl at ID ⊢
  have pg := hg sC (upd HB N (.dK [])) sC.heap.objs.size cl fp
  have pt := ht sC (upd HB N (.dK [])) sC.heap.objs.size cl fp
  have pk := hk sC (upd HB N (.dK [])) sC.heap.objs.size cl fp
  have pv := he sC (upd HB N (.dK [])) sC.heap.objs.size cl fp
  show codeAny _ _ (.compStart (.DictComp kx vx [⟨tg, iter, ifs, 0⟩] scope pos) 0 (.ref it) (.ref N) (compEnvC scope cl sC.heap.objs.size X.env)) (compPost (model X.prog X.w) X.A X.xe none _ (.ref N) sC.heap.objs.size) { sC with heap := pushCells (sC.heap.push { cls := .type "dict", data := .dict #[] }) scope.names }
  have none0 : ∀ b ∈ fp, (upd HB N (.dK [])) b = none := fun b hb => (fC b hb).1.1
  unfold Bk at pg pt pk pv
  generalize eE : compEnvC scope cl sC.heap.objs.size X.env = ce at ID pg pt pk pv ⊢
  have ceL : ce.locals = sC.heap.objs.size := by rw [← eE]; rfl
  generalize eH : upd HB N (.dK []) = HC at IC ID pg pt pk pv w0 none0 fC
  generalize eD : ({ sC with heap := pushCells (sC.heap.push { cls := .type "dict", data := .dict #[] }) scope.names } : Shared) = sD at ID ⊢
  have stD : tn 0 sD.heap := TU.keep _ _ _ stC fun b _ o e => by rw [← eD]; exact pushCells_keeps _ _ _ _ (Heap.get?_push_of_some _ e)
  have fpk : ∀ {τ : L2.St} {G : Hp} {z : Shared}, L2.Inv (X.blk sC HC scope ce fp) [] τ G z → (∀ b ∈ fp, G b = none) → ∀ b ∈ fp, FpOk (X.blk sC HC scope ce fp) [] G b := fun {τ G z} J1 hn b hb =>
    ⟨hn b hb, (J1.ok.exf b hb).1, J1.ok.exfs b hb, .inl hb, fun x c e => (J1.ok.exf b hb).2 x c e, fun p hp => absurd (show p ∈ ([] : List (Addr × Obj)) ++ [] from hp) (by simp)⟩
  have loop : codeAny (model X.prog X.w) X.A (.compLoop (.DictComp kx vx [⟨tg, iter, ifs, 0⟩] scope pos) 0 (.ref it) (.ref N) ce) (compPost (model X.prog X.w) X.A X.xe none (EP X pins σ Q) (.ref N) sC.heap.objs.size) sD := by
    refine compLoop_anyD (fun n z => ∃ i G, L2.Inv (X.blk sC HC scope ce fp) [] (wipe σ (own.map (·.2))) G z ∧ tn i z.heap ∧ (∀ b ∈ fp, G b = none) ∧ W i n G) ?_ m0 ⟨0, HC, ID, stD, none0, w0⟩
    rintro n s5 ⟨i, H5, I5, st5, n5, w5⟩
    rcases turn i n H5 w5 with ⟨stop, qq⟩ | ⟨go, Nx, hNx, step⟩
    · refine thnF (TU.done (X.blk sC HC scope ce fp) rfl rfl rfl hc i [] s5 _ H5 (fun _ _ => False) I5 (fpk I5 n5) st5 stop) fun rr s6 ⟨e6, I6⟩ => ?_
      subst e6
      have I7 : L2.Inv X pins σ H5 s6 := IC.call' (ch := fp) I6.os I6.base I6.hok I6.bare fun b hb => ⟨(fC b hb).1.2.2.2.1, (fC b hb).1.2.1, (fC b hb).1.2.2.2.2.1, (fC b hb).1.2.2.2.2.2⟩
      have nC : H5 sC.heap.objs.size = none := by rw [← ceL]; exact I6.free
      obtain ⟨mm, hn, _⟩ := I6.loc
      have hn : s6.heap.Ns ce.locals mm := hn
      rw [ceL] at hn
      obtain ⟨f0, f1, f2, f3, f4, f5⟩ := IC.fpOk (Nat.le_refl _) nC
      exact ⟨mm, hn, fun g sb => ⟨.ref N, H5, I7.turned (t' := s6.toks) (fun b o hb e => (sb.2 b hb).trans e) f0 f1 f3 f4 f5, rfl, qq⟩⟩
    · refine thnF (TU.item (X.blk sC HC scope ce fp) rfl rfl rfl hc i [] s5 _ H5 (fun _ _ => False) I5 (fpk I5 n5) st5 go) fun rr s6 ⟨u, e6, h6⟩ => ?_
      subst e6
      refine thnF h6 fun _ s7 ⟨x, H7, I7, r7, y7, st7, n7⟩ => ?_
      refine thnF (pg.run _ s7 _ H7 x u _ (I7.pinned (fpk I7 n7) (TU.obj _ _ st7)) r7 (step x H7 y7)) fun _ s8 ⟨σ8, H8, I8, hw8, q8⟩ => ?_
      refine thnF (pt.run _ s8 σ8 H8 _ I8 q8) fun b s9 ⟨H9, I9, q9⟩ => ?_
      have fin : ∀ {z : Shared} {G : Hp}, L2.Inv (X.blk sC HC scope ce fp) ([] ++ pinsAt fp s7.heap) σ8 G z → Nx G → ∃ m, m < n ∧ ∃ i G, L2.Inv (X.blk sC HC scope ce fp) [] (wipe σ (own.map (·.2))) G z ∧ tn i z.heap ∧ (∀ b ∈ fp, G b = none) ∧ W i m G := fun {z G} J1 nx => by
        obtain ⟨m', hm, w'⟩ := hNx G nx
        have pin' : ∀ b ∈ fp, ∀ o, s7.heap.get? b = some o → z.heap.get? b = some o ∧ G b = none := fun b hb o e =>
          let p := J1.pin (b, o) (List.mem_append_right _ (List.mem_append_right _ (mem_pinsAt hb e))); ⟨p.1, p.2.1⟩
        refine ⟨m', hm, i + 1, G, (J1.unpinned (pins := [])).weak (by rw [← hw8, wipe_length]) (fun j v e => ?_), TU.keep _ _ _ st7 fun b hb o e => (pin' b hb o e).1, fun b hb => ?_, w'⟩
        · rw [← hw8] at e; exact (wipe_some e).1
        · obtain ⟨o, e, _⟩ := TU.obj _ _ st7 b hb
          exact (pin' b hb o e).2
      cases b with
      | false => simp only [Bool.false_eq_true, if_false] at q9 ⊢; exact fin I9 q9
      | true =>
        simp only [if_true] at q9 ⊢
        refine thnF (pk.run _ s9 σ8 H9 _ I9 q9) fun zk sa ⟨yk, Ha, Ia, ra, qa⟩ => ?_
        refine thnF (pv.run _ sa σ8 Ha _ Ia qa) fun zv sb ⟨yv, Hb, Ib, rb, Hc, gp, nx⟩ => ?_
        exact d_setE (X := X.blk sC HC scope ce fp) (show X.A.units + 1 < cLine from hu) Ib gp ra rb fun sc Ic => fin Ic nx
  exact codeAny_compStart_dict loop (TU.self X.A 0 _ _ _ stD loop)⟩
end
end Dv

set_option maxRecDepth 100000
namespace Dv
open PySem PySem.Spec PyProof.Rows L2
section
variable {X : Cx} {T : List TQ} {B : Bs} {ρ ρ1 : Sl} {W : List Addr} {pos : Pos} {κ : Type} [DecidableEq κ] {E : KEn κ}
theorem mergeE_snoc (kvs more : List (κ × D)) (q : κ × D) : mergeE kvs (more ++ [q]) = putE (mergeE kvs more) q.1 q.2 := by unfold mergeE; rw [List.foldl_append]; rfl
theorem mergeE_len : ∀ (more kvs : List (κ × D)), (mergeE kvs more).length ≤ kvs.length + more.length
  | [], kvs => Nat.le_refl _
  | p :: more, kvs => by
    have h1 := mergeE_len more (putE kvs p.1 p.2)
    have h2 := putE_len (kvs := kvs) (k := p.1) (d := p.2)
    show (mergeE (putE kvs p.1 p.2) more).length ≤ _
    rw [List.length_cons]; omega
/-- what a turn of a dict comprehension does -/
def TurnD (X : Cx) (T : List TQ) (E : KEn κ) (scope : Scope) (kx vx tg : Expr) (ifs : List Expr) (vs : List Nat) (ρ1 : Sl) (d : D) (o : Option (κ × D)) : Prop :=
  ∀ B', ∃ ρb, owns ρb = owns ρ1 ∧ (∀ s H C cl fp, GX (Bk X scope s H C cl fp) T B' (wipeD ρ1 vs) tg vs d ρb) ∧ (∀ s H C cl fp, TXs (Bk X scope s H C cl fp) T B' ρb ifs [] ρb o.isSome) ∧
    (∀ k y, o = some (k, y) → ∃ ρc ρd, owns ρc = owns ρ1 ∧ owns ρd = owns ρ1 ∧ (∀ s H C cl fp, EX (Bk X scope s H C cl fp) T B' ρb kx [] ρc (E.d k)) ∧ (∀ s H C cl fp, EX (Bk X scope s H C cl fp) T B' ρc vx [] ρd y) ∧ Fg ρd (wipeD ρ1 vs)) ∧ (o = none → Fg ρb (wipeD ρ1 vs))
theorem en_dc {α : Type} {kx vx tg iter : Expr} {ifs : List Expr} {scope : Scope} (qs : List α) (en : α → D) (g : α → Option (κ × D)) (own : List (Str × Nat)) (hu : X.A.units + 1 < cLine) (hc : X.calm = true) (hN : X.N.Nodup)
    (hi : IX X T B ρ tg iter W ρ1 (qs.map en)) (ok : BlkOk X.N X.env.scope scope own) (hlen : qs.length ≤ sizeLine) (hno : noOwn ρ1 (own.map (·.2)) = true)
    (hb : ∀ q, q ∈ qs → TurnD X T E scope kx vx tg ifs (own.map (·.2)) ρ1 (en q) (g q)) (hs : ∀ x, foldedSetIterable iter X.env x = pure x := by intro _; rfl) :
    EN X T B ρ (.DictComp kx vx [⟨tg, iter, ifs, 0⟩] scope pos) W ρ1 (dD E (mergeE [] (qs.filterMap g))) := by
  obtain ⟨wi, hwi, hw⟩ := hi.run
  refine ⟨PE.imp (pe_dcE hu hc hN hwi ok (g := gB X T scope tg (own.map (·.2))) (tt := tB' X T scope ifs) (tk := eB X T scope kx) (tv := eB X T scope vx) ?_ ?_ ?_ ?_ hs) fun σ H Q ⟨S, q⟩ => ?_, hi.own, hi.sub⟩
  · exact fun s H C cl fp => ⟨fun pins s' σ H v u Q I rr ⟨B, ρ, d, ρ', h, z⟩ => PG.run (h s _ C cl fp) pins s' σ H v u Q I rr z⟩
  · exact fun s H C cl fp => ⟨fun pins s' σ H Q I ⟨B, ρ, W, ρ', k, h, z⟩ => PTs.run (h s _ C cl fp) pins s' σ H Q I z⟩
  · exact fun s H C cl fp => ⟨fun pins s' σ H Q I ⟨B, ρ, W, ρ', d, h, z⟩ => (h s _ C cl fp).run.run pins s' σ H Q I z⟩
  · exact fun s H C cl fp => ⟨fun pins s' σ H Q I ⟨B, ρ, W, ρ', d, h, z⟩ => (h s _ C cl fp).run.run pins s' σ H Q I z⟩
  generalize own.map (·.2) = vs at *
  refine hw σ H _ S fun J H1 S1 f1 wk N nN => ?_
  have nN0 : N ∉ B.all ρ1 := S1.free nN
  have ow : owns (wipeD ρ1 vs) = owns ρ1 := owns_wipe hno
  have dh0 : DH X.K (msk (N :: B.all ρ1) (upd H1 N (.dK []))) E (.dK []) ([] : List (κ × D)) := by
    cases hf : E.fl with
    | true => exact .inl ⟨hf, [], rfl, .nil⟩
    | false => exact .inr ⟨hf, .inl ⟨rfl, rfl⟩⟩
  refine ⟨fun i m H' => m = qs.length - i ∧ i ≤ qs.length ∧ ∃ u, Sim X.K T (B.blk ρ1 H1 N (.dK [])) (wipeD ρ1 vs) (wipe σ vs) H' ∧ H' N = some u ∧ DH X.K (msk (N :: B.all ρ1) H') E u (mergeE [] ((qs.take i).filterMap g)) ∧ Fx [N] (upd H1 N (.dK [])) H',
    ⟨qs.length, by simp, Nat.zero_le _, .dK [], sim_blk S1 nN hno, upd_same, dh0, Fx.refl _ _⟩, ?_⟩
  rintro i m H' ⟨rfl, hi', u, S', hN', hdh, hfx⟩
  have allw : ∀ {ρx : Sl}, owns ρx = owns ρ1 → (B.blk ρ1 H1 N (.dK [])).all ρx = N :: B.all ρ1 := fun {ρx} e => by
    show (N :: B.out) ++ owns ρx = N :: (B.out ++ owns ρ1)
    rw [e]; rfl
  have kk : Kp (msk (B.all ρ1) H1) (msk (N :: B.all ρ1) H') := fun a o no e => by
    obtain ⟨z1, z2⟩ := msk_some e
    have ne : a ≠ N := ne_of_none z2 nN
    rw [msk_out (fun z => by
      rcases List.mem_cons.mp z with z | z
      · exact ne z
      · exact z1 z)]
    exact kp_back S1 nN S' a o no (fun z => z1 (List.mem_append_right _ z)) z2
  have held : ∀ a ∈ (N :: B.all ρ1), ∃ o, H' a = some o ∧ mutb o = true := fun a z => by
    rw [← allw ow] at z
    exact S'.held a z
  by_cases hlt : i < qs.length
  · have hqi : qs[i]? = some qs[i] := List.getElem?_eq_getElem hlt
    have hdm : (qs.map en)[i]? = some (en qs[i]) := by rw [List.getElem?_map, hqi]; rfl
    have hlm : i < (qs.map en).length := by rw [List.length_map]; exact hlt
    have etk : (qs.take (i + 1)).filterMap g = (qs.take i).filterMap g ++ (g qs[i]).toList := by
      rw [List.take_add_one, hqi, List.filterMap_append]
      cases hg : g qs[i] <;> simp [hg]
    refine .inr ⟨wk.go i _ H' kk hlm, fun H2 => ∃ u, Sim X.K T (B.blk ρ1 H1 N (.dK [])) (wipeD ρ1 vs) (wipe σ vs) H2 ∧ H2 N = some u ∧ DH X.K (msk (N :: B.all ρ1) H2) E u (mergeE [] ((qs.take (i + 1)).filterMap g)) ∧ Fx [N] (upd H1 N (.dK [])) H2,
      fun H2 z => ⟨qs.length - (i + 1), by omega, rfl, hlt, z⟩, fun v H2 y => ?_⟩
    obtain ⟨hH, d, hd', hrp⟩ := wk.yld i _ H' v H2 kk held hlm y
    rw [hdm] at hd'
    cases hd'
    obtain ⟨t1, t2, t3⟩ := tab_keep hH
    have S2 := S'.grow t1 (fun P z => t2 P (S'.tabs P z)) t3
    have hN2 : H2 N = some u := t1 _ _ (mutb_nt hdh.mut.1) hN'
    have kp2 : Kp (msk (N :: B.all ρ1) H') (msk (N :: B.all ρ1) H2) := fun a o no e => by
      obtain ⟨z1, z2⟩ := msk_some e
      rw [msk_out z1]; exact t1 a o no z2
    have hfx2 : Fx [N] (upd H1 N (.dK [])) H2 := fun a o no w e => t1 a o no (hfx a o no w e)
    obtain ⟨ρb, g0, g1, g2, g3, g4⟩ := hb qs[i] (List.getElem_mem hlt) (B.blk ρ1 H1 N (.dK []))
    refine ⟨_, _, en qs[i], ρb, g1, S2, by rw [allw ow]; exact hrp, fun σ2 S3 hwp => ?_⟩
    have hwp2 : wipe σ2 vs = wipe σ vs := by rw [hwp, wipe_wipe]
    refine ⟨hwp2, _, ρb, [], ρb, _, g2, S3, fun H3 S4 f4 => ?_⟩
    have backS : ∀ {ρc : Sl} {H9 : Hp}, Sim X.K T (B.blk ρ1 H1 N (.dK [])) ρc σ2 H9 → Fg ρc (wipeD ρ1 vs) → Sim X.K T (B.blk ρ1 H1 N (.dK [])) (wipeD ρ1 vs) (wipe σ vs) H9 := fun {ρc H9} S9 fg => by
      have z := sim_wiped (vs := vs) (S9.fg fg)
      rw [wipeD_wipeD, hwp2] at z
      exact z
    have hN3 : H3 N = some u := f4 _ _ (mutb_nt hdh.mut.1) (by simp) hN2
    have hfx3 : Fx [N] (upd H1 N (.dK [])) H3 := fun a o no w e => f4 a o no (by simp) (hfx2 a o no w e)
    have kp3 : Kp (msk (N :: B.all ρ1) H2) (msk (N :: B.all ρ1) H3) := f4.kp fun a z => by cases z
    cases ho : g qs[i] with
    | none =>
      show (if false = true then _ else _)
      rw [if_neg Bool.false_ne_true]
      refine ⟨u, backS S4 (g4 ho), hN3, ?_, hfx3⟩
      rw [etk, ho, Option.toList_none, List.append_nil]
      exact (hdh.mono kp2).mono kp3
    | some ky =>
      obtain ⟨k, y⟩ := ky
      show (if true = true then _ else _)
      rw [if_pos rfl]
      obtain ⟨ρc, ρd, o1, o2, e1, e2, fg⟩ := g3 k y ho
      refine ⟨_, ρb, [], ρc, E.d k, e1, S4, fun vk H4 S5 f5 rk => ?_⟩
      refine ⟨_, ρc, [], ρd, y, e2, S5, fun vv H5 S6 f6 rv => ?_⟩
      have hN5 : H5 N = some u := f6 _ _ (mutb_nt hdh.mut.1) (by simp) (f5 _ _ (mutb_nt hdh.mut.1) (by simp) hN3)
      have kp4 : Kp (msk (N :: B.all ρ1) H3) (msk (N :: B.all ρ1) H4) := f5.kp fun a z => by cases z
      have kp5 : Kp (msk (N :: B.all ρ1) H4) (msk (N :: B.all ρ1) H5) := f6.kp fun a z => by cases z
      rw [allw o1] at rk
      rw [allw o2] at rv
      have hdh5 := (((hdh.mono kp2).mono kp3).mono kp4).mono kp5
      have hlk : (mergeE [] ((qs.take i).filterMap g)).length < sizeLine := by
        have h1 := mergeE_len ((qs.take i).filterMap g) []
        have h2 := List.length_filterMap_le g (qs.take i)
        rw [List.length_take] at h2
        rw [List.length_nil] at h1
        have h3 := Nat.min_le_left i qs.length
        omega
      obtain ⟨u', gp, hdh'⟩ := dh_put (H := H5) (fun x o z => (msk_some z).2) hN5 hdh5 (rk.mono kp5) rv hlk
      refine ⟨_, gp, u', ?_, upd_same, ?_, ?_⟩
      · exact sim_out (backS S6 fg) (by show N ∈ N :: B.out; exact List.mem_cons_self) (by show N ∈ N :: owns ρ1; exact List.mem_cons_self) hN5 hdh.mut.1 hdh'.mut.1
      · rw [etk, ho, Option.toList_some, mergeE_snoc, msk_upd List.mem_cons_self]
        exact hdh'
      · intro a o no wn e
        rw [upd_ne (fun z => wn (by rw [z]; exact List.mem_singleton.mpr rfl))]
        exact f6 a o no (by simp) (f5 a o no (by simp) (hfx3 a o no wn e))
  · have e : i = qs.length := by omega
    subst e
    rw [List.take_length] at hdh
    have fz : Fx W H H' := f1.trans (W2 := []) (fun a o no w e => hfx a o no (fun z => by
      rw [List.mem_singleton.mp z] at e
      rw [nN] at e; cases e) (by rw [upd_ne (ne_of_none e nN)]; exact e)) |>.mono fun a z => by simpa using z
    refine .inl ⟨wk.stop _ _ H' kk (by rw [List.length_map]; exact Nat.le_refl _), ?_⟩
    refine q N u H' (fun _ => Nw.of f1 nN) ?_ (sim_back S1 nN hno (Sh.refl _) S') fz hN' hdh.mut.1 nN0 (hold_dh hN' hdh)
    cases hz : B.H0 N with
    | none => rfl
    | some o => exact absurd nN (S1.dom N (by rw [hz]; exact fun z => by cases z))
end
end Dv

set_option maxRecDepth 100000
namespace Dv
open PySem PySem.Spec PyProof.Rows L2
/-! ### dict(d) -/
section
variable {X : Cx}
def rDictDT (P : Program) (w : World) : List V → Hp → VK → Prop := fun xs H Q => ∃ (a : Addr) (kvs : List (List Key × V)), xs = [.ref a] ∧ Rd H a (.dT kvs) ∧ (kvs.map fun q => (tupleKind (mixKind P w)).hash q.1).Nodup ∧ ∀ p, H p = none → Q (.ref p) (upd H p (.dT kvs))
theorem call_dictDT (hu : X.A.units + 8 < cLine) : CallR X (.type "dict") (rDictDT X.prog X.w) := by
  intro pins s σ H xs us Q I r ⟨a, kvs, ex, hr, hh, q⟩
  subst ex
  obtain ⟨u, eu, rx⟩ := vals1 r
  subst eu
  cases rx
  obtain ⟨z, hd, ys, rel, dd⟩ := dt_rd I.hok hr
  have hl := Paired.length rel
  have hlt : a < s.heap.objs.size := by obtain ⟨o, _, _, ho, _⟩ := id dd; exact Heap.lt_size ho
  have typ : ∀ x ∈ ys, s.TypeIs (.ref x.2.1) "tuple" := fun x hx => by
    obtain ⟨j, hj⟩ := List.mem_iff_getElem?.mp hx
    obtain ⟨kv, hk, e1, e2, _⟩ := DX.pget rel hj
    obtain ⟨_, _, _, o, ho, hc, _⟩ := I.hok _ _ e2
    exact ⟨o, ho, hc⟩
  have hap : (ys.map fun x => (tupleKind (mixKind X.prog X.w)).hash x.1).Nodup := by
    have e : (ys.map fun x => (tupleKind (mixKind X.prog X.w)).hash x.1) = kvs.map fun q => (tupleKind (mixKind X.prog X.w)).hash q.1 := by
      clear dd typ hl hh z hr q
      induction rel with
      | nil => rfl
      | cons r _ ih => rw [List.map_cons, List.map_cons, ih, r.1]
    rw [e]; exact hh
  refine callType_codes (Q₁ := fun obj s₁ => obj = .ref s.heap.objs.size ∧ s₁ = { s with heap := s.heap.push { cls := .type "dict", data := .dict #[] } }) PySem.F.kt_called_dict (PySem.F.kt_typeCall_dict_1 _) PySem.F.entry_dict_init (kt_code_dict_new _ ⟨rfl, rfl⟩) ?_
  rintro obj s₁ ⟨rfl, rfl⟩
  have new0 : (s.heap.push { cls := .type "dict", data := .dict #[] }).DictOfH (tupleKind (mixKind X.prog X.w)) s.heap.objs.size [] := Heap.DictOfH.new s.heap
  have k0 : ∀ b o, s.heap.get? b = some o → (s.heap.push { cls := .type "dict", data := .dict #[] }).get? b = some o := fun b o e => Heap.get?_push_of_some _ e
  have tyN : ({ s with heap := s.heap.push { cls := .type "dict", data := .dict #[] } } : Shared).TypeIs (.ref s.heap.objs.size) "dict" := Heap.DictOfH.typeIs (s := { s with heap := s.heap.push { cls := .type "dict", data := .dict #[] } }) new0
  refine ⟨tyN, PySem.F.args_dict_init_2 _ _, ?_⟩
  unfold Builtin.«dict.__init__»
  refine wpAny_bind ?_
  unfold Builtin.Dict.selfAndRest
  refine wpAny_bind (wpAny_notOrdered_dict tyN ?_)
  show wpAny _ _ (pure (s.heap.objs.size, [Value.ref a])) _ _ _
  refine wpAny_pure ?_
  show wpAny _ _ (Builtin.Dict.updateFrom "dict.__init__" s.heap.objs.size (.ref a) [] .none) _ _ _
  have dd' : (s.heap.push { cls := .type "dict", data := .dict #[] }).DictOfH (tupleKind (mixKind X.prog X.w)) a ys := by
    obtain ⟨o, es, ep, h1, h2, h3, h4, h5, h6⟩ := dd
    exact ⟨o, es, ep, k0 _ _ h1, h2, h3, h4, fun x hx => isk_keep (h5 x hx) fun o' e' => k0 _ _ e', h6⟩
  have nd := dd.nodup
  refine updateFrom_dictH (s := { s with heap := s.heap.push { cls := .type "dict", data := .dict #[] } }) (R := wants (fun r s₂ => r = .none ∧ EP X pins σ Q (.ref s.heap.objs.size) s₂) X.xe) .none (show X.A.units + 1 + 1 < cLine by omega) (Nat.ne_of_gt hlt) hd new0 dd' (.inr ⟨fun x hx => ?_, hap⟩) (by rw [List.length_nil, Nat.zero_add, ← hl]; exact z) fun h' hd' _ hsb => ⟨rfl, ?_⟩
  · obtain ⟨o, ho, hc⟩ := typ x hx
    exact ⟨o, k0 _ _ ho, hc⟩
  · rw [storedAllH_nil_of_nodup _ nd] at hd'
    have kall : ∀ b o, s.heap.get? b = some o → h'.get? b = some o := fun b o e => (hsb.2 b (Nat.ne_of_lt (Heap.lt_size e))).trans (k0 _ _ e)
    have hn := I.hok.fresh (Nat.le_refl s.heap.objs.size)
    have hm : (s.heap.objs.size == sysModules) = false := beq_eq_false_iff_ne.mpr (Nat.ne_of_gt I.big)
    refine ⟨.ref s.heap.objs.size, upd H s.heap.objs.size (.dT kvs), I.laid (t' := s.toks) kall (Nat.le_refl _) ?_, rfl, q _ hn⟩
    obtain ⟨q', es, ep, hq', h2, h3, h4, _, h5⟩ := hd'
    refine ⟨z, hm, _, rel.keeps fun c ys ec => ?_, q', es, ep, hq', h2, h3, h4, h5⟩
    rw [upd_ne (ne_of_none ec hn)]
    exact ec
end
section
variable {X : Cx} {T : List TQ} {B : Bs} {ρ ρ1 : Sl} {W : List Addr} {a : Expr} {pos p : Pos} {κ : Type} {E : KEn κ} {kvs : List (κ × D)}
theorem pb_keyhash {κ β : Type} {K : PySem.W.Frag} {H : Hp} {g : κ → β} (f : β → Int) {kk : List (β × V)} {ds : List (κ × D)} (h : PB K H g kk ds) : (kk.map fun q => f q.1) = ds.map fun q => f (g q.1) := by
  induction h with
  | nil => rfl
  | cons r _ ih => rw [List.map_cons, List.map_cons, ih, r.1]
/-- dict(d) -/
theorem en_copy (hu : X.A.units + 8 < cLine) (hg : Gl X "dict") (hm : X.mg "dict" = none) (ha : EX X T B ρ a W ρ1 (dD E kvs)) (hh : E.fl = false → (kvs.map fun q => (tupleKind (mixKind X.prog X.w)).hash (E.ft q.1)).Nodup) (he : starEach [a] X.env = (false, eval a X.env) :: starEach [] X.env := by rfl) :
    EN X T B ρ (.Call (.Name "dict" p) [a] [] pos) W ρ1 (dD E kvs) := by
  refine ⟨PE.imp (Call1.run (c1t (p := p) (call_dictD.or (call_dictDT hu)) hg hm (by decide +kernel) (he := he)) (pa_cons ha.run pa_nil he)) fun σ H Q ⟨S, q⟩ => ⟨S, fun v H' S' f r => ?_⟩, ha.own, ha.sub⟩
  obtain ⟨m, u, od, rfl, hm, hq⟩ := dh_rp r
  have hm := (msk_some hm).2
  rcases hq with ⟨e, kk, rfl, hq⟩ | ⟨e, ⟨rfl, rfl⟩ | ⟨n, kk, rfl, hq⟩⟩
  · exact .inl ⟨m, kk, rfl, .inr ⟨od, hm⟩, fun np n => en_laid S' f n (.inl ⟨e, _, rfl, hq⟩) q⟩
  · exact .inl ⟨m, [], rfl, .inr ⟨od, hm⟩, fun np n => en_laid S' f n (.inr ⟨e, .inl ⟨rfl, rfl⟩⟩) q⟩
  · refine .inr ⟨m, kk, rfl, .inr ⟨od, hm⟩, ?_, fun np nn => en_laid S' f nn (.inr ⟨e, .inr ⟨n, _, rfl, hq⟩⟩) q⟩
    rw [pb_keyhash _ hq]; exact hh e
end
end Dv

set_option maxRecDepth 100000
namespace Dv
open PySem PySem.Spec PyProof.Rows L2
/-! ## sorted(..) of data that can be compared place by place -/
mutual
theorem reads_there {h : Heap} : ∀ {v : Value} {d : PyData} {as : List Addr}, Reads h v d as → ∀ a ∈ as, ∃ o, h.get? a = some o
  | _, _, _, .none, a, z => by cases z
  | _, _, _, .bool _, a, z => by cases z
  | _, _, _, .int _ _, a, z => by cases z
  | _, _, _, .str _ _, a, z => by cases z
  | _, _, _, .list h1 _ _ r, a, z => by
    rcases List.mem_cons.mp z with rfl | z
    · exact ⟨_, h1⟩
    · exact readsA_there r a z
  | _, _, _, .tuple _ _ _ r, a, z => readsA_there r a z
  | _, _, _, .dict h1 _ _ r1 r2, a, z => by
    rcases List.mem_append.mp z with z | z
    · rcases List.mem_cons.mp z with rfl | z
      · exact ⟨_, h1⟩
      · exact readsA_there r1 a z
    · exact readsA_there r2 a z
theorem readsA_there {h : Heap} : ∀ {v : List Value} {d : List PyData} {as : List Addr}, ReadsAll h v d as → ∀ a ∈ as, ∃ o, h.get? a = some o
  | _, _, _, .nil, a, z => by cases z
  | _, _, _, .cons r1 r2, a, z => by
    rcases List.mem_append.mp z with z | z
    · exact reads_there r1 a z
    · exact readsA_there r2 a z
end
abbrev sortD (ds : List D) : List D := ds.mergeSort (PySem.W.dataLe false D.py)
/-- the values that came out, as the layer's -/
theorem each_out {R : Value → D → Prop} {out : List Value} {es : List D} (h : PySem.W.EachIs R out es) {K : PySem.W.Frag} {H : Hp} (f : ∀ v d, R v d → ∃ x, RelV x v ∧ Rp K H x d) : ∃ xs, Vals xs out ∧ RpA K H xs es := by
  induction h with
  | nil => exact ⟨[], .nil, .nil⟩
  | cons r _ ih =>
    obtain ⟨xs, h1, h2⟩ := ih
    obtain ⟨x, g1, g2⟩ := f _ _ r
    exact ⟨x :: xs, .cons g1 h1, .cons g2 h2⟩
theorem each_of_vals {K : PySem.W.Frag} {H : Hp} : ∀ {xs : List V} {vs : List Value} {ds : List D}, Vals xs vs → RpA K H xs ds → PySem.W.EachIs (fun v d => ∃ x, RelV x v ∧ Rp K H x d) vs ds
  | _, _, _, .nil, .nil => .nil
  | _, _, _, .cons r t, .cons q u => .cons ⟨_, r, q⟩ (each_of_vals t u)
/-- what sorting asks of the data -/
structure Sble (n : Nat) (ds : List D) : Prop where
  alike : PySem.W.AllAlike (ds.map D.py)
  kind : PySem.W.Sortable (ds.map D.py)
  plain : plainA ds = true
  deep : ∀ d ∈ ds, d.py.depth ≤ n
theorem plainA_mem : ∀ {ds : List D}, plainA ds = true → ∀ d ∈ ds, plain d = true
  | d :: ds, h, e, z => by
    have h : (plain d && plainA ds) = true := h
    rw [Bool.and_eq_true] at h
    rcases List.mem_cons.mp z with rfl | z
    · exact h.1
    · exact plainA_mem h.2 e z
section
variable {X : Cx}
def rSortD (K : PySem.W.Frag) (n : Nat) : List V → Hp → VK → Prop := fun vs H Q => ∃ (a : Addr) (xs : List V) (ds : List D) (O : List Addr), vs = [.ref a] ∧ SqL K H a xs ∧ RpA K (msk O H) xs ds ∧ Sble n ds ∧
  ∀ l ys, H l = none → RpA K (msk O H) ys (sortD ds) → ys.length = xs.length → Q (.ref l) (upd H l (.lst ys))
theorem cr_sortD {n : Nat} (hn : X.A.units + 2 + n < cLine) : CallR X (.builtin "sorted") (rSortD X.K n) := by
  intro pins s σ H vs us Q I r ⟨a, xs, ds, O, ex, hq, hr, hb, q⟩
  subst ex
  obtain ⟨u, eu, rx⟩ := vals1 r
  subst eu
  cases rx
  obtain ⟨its, rv, pl, hz⟩ := I.list hq
  have hl : its.length = ds.length := by rw [← rv.length, hr.length]
  rw [rv.length] at hz
  have km : ∀ x d, Rp X.K (msk O H) x d → plain d = true → Dp X.K H x d.py := fun x d h hp => (h.mono (Kp.ofmsk _ _)).dp hp
  have ev := each_of_vals rv hr
  have er : PySem.W.EachIs (fun v d => ∃ as, Reads s.heap v (D.py d) as) its ds := (PySem.W.each_mem ev).mono fun v d ⟨⟨x, h1, h2⟩, hd⟩ => Dp.reads I _ x _ (km x _ h2 (plainA_mem hb.plain d hd)) h1
  refine PySem.W.sorted_data (enc := D.py) pl.isList ev er hb.alike hb.kind (by rw [← hl]; exact hz) (fun d hd => Nat.lt_of_le_of_lt (Nat.add_le_add_left (hb.deep d hd) _) hn) fun out hlen hout => ?_
  obtain ⟨ys, g1, g2⟩ := each_out hout fun v d z => z
  obtain ⟨n', hat⟩ := sortedAll_at s.heap its out.toArray
  have hly : ys.length = out.length := g1.length
  have hn0 : H (s.heap.objs.size + 1) = none := I.hok.fresh (Nat.le_succ _)
  refine ⟨.ref (s.heap.objs.size + 1), upd H (s.heap.objs.size + 1) (.lst ys), I.laid (t' := s.toks) (fun b o e => sortedAll_old e) (Nat.le_succ _) ?_, rfl, q _ ys hn0 g2 (by rw [hly, hlen, ← hr.length])⟩
  exact ⟨by rw [hly, hlen, ← hl]; exact hz, out, n', g1, hat⟩
end
section
variable {X : Cx} {T : List TQ} {B : Bs} {ρ ρ1 : Sl} {W : List Addr} {a : Expr} {ds : List D} {pos p : Pos} {n : Nat}
/-- sorted(a list) -/
theorem eo_sorted (hu : X.A.units + 2 + n < cLine) (hg : Gl X "sorted") (hm : X.mg "sorted" = none) (ha : EL X T B ρ a W ρ1 ds) (hb : Sble n ds) (he : starEach [a] X.env = (false, eval a X.env) :: starEach [] X.env := by rfl) : EO X T B ρ (.Call (.Name "sorted" p) [a] [] pos) W ρ1 (sortD ds) :=
  ⟨PE.imp (Call1.run (c1b (p := p) (cr_sortD hu) hg hm (by decide +kernel) (he := he)) (pa_cons ha.run pa_nil he)) fun σ H Q ⟨S, q⟩ => ⟨S, fun l xs H' S' f r1 r2 => ⟨l, xs, ds, B.all ρ1, rfl, r1, r2, hb, fun np ys nn r hl => q np ys _ (free_H0 S' nn) (sim_add S' nn rfl) (f.transN (Fx.new nn)) upd_same (S'.free nn) (r.mono (kp_more nn))⟩⟩, ha.own, ha.sub⟩
end
end Dv

set_option maxRecDepth 100000
namespace Dv
open PySem PySem.Spec PyProof.Rows L2
/-! ## the items of a dict, keys of any kind, as a list -/
section
variable {X : Cx} {κ : Type} {E : KEn κ} {pins : List (Addr × Obj)} {σ : L2.St} {H : Hp} {s : Shared} {m : Addr} {u : HO} {O : List Addr} {kvs : List (κ × D)}
theorem pairs_at {α : Type} [DecidableEq α] {prog : Program} {w : World} {knd : PySem.KeyKind prog w α} : ∀ {es : List DictEntry} {vs : List (α × Value)}, Pairs knd es vs → ∀ (j : Nat) (en : DictEntry), es[j]? = some en → ∃ p, vs[j]? = some p ∧ knd.is p.1 en.key = true ∧ en.val = p.2
  | _, _, .nil, j, en, h => by simp at h
  | _, _, .cons h1 h2 t, 0, en, h => by cases (Option.some.inj h); exact ⟨_, rfl, h1, h2⟩
  | _, _, .cons h1 h2 t, j + 1, en, h => pairs_at t j en (by simpa using h)
/-- the entries as they lie -/
structure Lies (K : PySem.W.Frag) (E : KEn κ) (h : Heap) (Hm : Hp) (m : Addr) (kvs : List (κ × D)) (es : Array DictEntry) (ep : Nat) : Prop where
  sys : (m == sysModules) = false
  raw : DT.Raw h m es ep
  size : es.size = kvs.length
  le : kvs.length ≤ sizeLine
  each : ∀ (j : Nat) (en : DictEntry), es[j]? = some en → ∃ (q : κ × D) (kx vx : V), kvs[j]? = some q ∧ RelV kx en.key ∧ RelV vx en.val ∧ Rp K Hm kx (E.d q.1) ∧ Rp K Hm vx q.2
theorem pair_len {α : Type} [DecidableEq α] {prog : Program} {w : World} {knd : PySem.KeyKind prog w α} : ∀ {es : List DictEntry} {vs : List (α × Value)}, Pairs knd es vs → es.length = vs.length
  | _, _, .nil => rfl
  | _, _, .cons _ _ t => by rw [List.length_cons, List.length_cons, pair_len t]
theorem rp_key {k : Key} {K : PySem.W.Frag} {Hm : Hp} : Rp K Hm (kV k) (kD k) := by
  cases k with
  | inl i => exact .int i
  | inr z => exact .str z
theorem dh_lies (I : L2.Inv X pins σ H s) (hO : ∀ a ∈ O, ∃ o, H a = some o ∧ mutb o = true) (hm : Rd H m u) (hq : DH X.K (msk O H) E u kvs) : ∃ es ep, Lies X.K E s.heap (msk O H) m kvs es ep := by
  rcases hq with ⟨e, kk, rfl, hq⟩ | ⟨e, ⟨rfl, rfl⟩ | ⟨n, kk, rfl, hq⟩⟩
  · obtain ⟨z, hd, vs, rel, o, es, ep, e1, e2, e3, e4, e5, e6⟩ := dk_rd I.hok hm
    have l1 := pair_len e5
    have l2 := rel.length
    have l3 := hq.len
    refine ⟨es, ep, hd, ⟨o, e1, e2, e3⟩, by rw [← Array.length_toList, l1, ← l2, l3], by rw [← l3]; exact z, fun j en hj => ?_⟩
    obtain ⟨p, h1, h2, h3⟩ := pairs_at e5 j en (by rw [Array.getElem?_toList]; exact hj)
    obtain ⟨kv, g1, g2, g3⟩ := DX.pget rel h1
    obtain ⟨q, f1, f2, f3⟩ := hq.at g1
    have f2 : kv.1 = E.fk q.1 := f2
    refine ⟨q, kV kv.1, kv.2, f1, ?_, by rw [h3]; exact g3, ?_, f3⟩
    · rw [g2]; exact relV_key (show keyIs p.1 en.key = true from h2)
    · rw [f2, (E.hk e).1]; exact rp_key
  · obtain ⟨z, hd, vs, rel, o, es, ep, e1, e2, e3, e4, e5, e6⟩ := dk_rd I.hok hm
    cases rel
    have l1 := pair_len e5
    refine ⟨es, ep, hd, ⟨o, e1, e2, e3⟩, by rw [← Array.length_toList, l1]; rfl, Nat.zero_le _, fun j en hj => ?_⟩
    obtain ⟨p, h1, _⟩ := pairs_at e5 j en (by rw [Array.getElem?_toList]; exact hj)
    simp at h1
  · obtain ⟨z, hd, xs, rel, o, es, ep, e1, e2, e3, e4, e5, e6⟩ := dt_rd I.hok hm
    have l1 : es.size = xs.length := size_of_entries e4
    have l2 := Paired.length rel
    have l3 := hq.len
    refine ⟨es, ep, hd, ⟨o, e1, e2, e3⟩, by rw [l1, ← l2, l3], by rw [← l3]; exact z, fun j en hj => ?_⟩
    rw [entry_at e4 j] at hj
    cases hx : xs[j]? with
    | none => rw [hx] at hj; cases hj
    | some x =>
      rw [hx] at hj
      cases (Option.some.inj hj)
      obtain ⟨kv, g1, g2, g3, g4⟩ := DX.pget rel hx
      obtain ⟨q, f1, f2, f3⟩ := hq.at g1
      have f2 : kv.1 = E.ft q.1 := f2
      refine ⟨q, .ref x.2.1, kv.2, f1, rfl, g4, ?_, f3⟩
      rw [(E.ht e).1]
      have nt : x.2.1 ∉ O := fun z => by
        obtain ⟨o, e, no⟩ := hO _ z
        rw [g3] at e; cases e; cases no
      exact .tup (xs := (E.ft q.1).map kV) (by show msk O H _ = _; rw [msk_out nt, g3, f2]) keys_rp
end
section
variable {X : Cx} {e : Expr} {te : TE} {apos cpos : Pos}
/-- d.items() as a thing -/
def tItemsV (te : TE) : TE := fun σ H Q => te σ H fun x H1 => ∃ m u, x = .ref m ∧ Rd H1 m u ∧ (mutb u = true ∧ ∀ xs, u ≠ .lst xs) ∧ ∀ p, H1 p = none → Q (.ref p) (upd H1 p (DX.itemsO p m))
theorem rd_dict {pins : List (Addr × Obj)} {σ : L2.St} {H : Hp} {s : Shared} {m : Addr} {u : HO} (I : L2.Inv X pins σ H s) (h : Rd H m u) (hu : mutb u = true ∧ ∀ xs, u ≠ .lst xs) : (m == sysModules) = false ∧ ∃ es ep, DT.Raw s.heap m es ep := by
  cases u with
  | dK kk => obtain ⟨z, hd, vs, rel, o, es, ep, e1, e2, e3, _⟩ := dk_rd I.hok h; exact ⟨hd, es, ep, o, e1, e2, e3⟩
  | dT kk => obtain ⟨z, hd, vs, rel, o, es, ep, e1, e2, e3, _⟩ := dt_rd I.hok h; exact ⟨hd, es, ep, o, e1, e2, e3⟩
  | lst xs => exact absurd rfl (hu.2 xs)
  | _ => cases hu.1
theorem pe_itemsV (he : PE X e te) (hbase : attributeBase e "items" X.env (eval e X.env) = eval e X.env := by rfl) (hline : (apos.endLine == cpos.line) = true := by rfl) : PE X (.Call (.Attribute e "items" apos) [] [] cpos) (tItemsV te) := by
  refine ⟨fun pins s σ H Q I h => ?_⟩
  refine wpAny_Call_method (T := "dict") (id := "dict.items") hbase rfl hline PySem.F.plainAttrs_dict PySem.F.slot_dict_items PySem.F.type_dict_items (thn (he.run pins s σ H _ I h) fun uv s1 ⟨x, H1, I1, rx, m, u, ex, hm, hu, q⟩ => ?_)
  subst ex
  obtain rfl : uv = Value.ref m := rx
  obtain ⟨hd, es, ep, raw⟩ := rd_dict I1 hm hu
  refine ⟨raw.typeIs, fun b e => ?_, ?_⟩
  · cases e
    obtain ⟨o, ho, hx, _⟩ := raw
    exact ⟨o, ho, hx.2.1⟩
  · have hf : H1 s1.heap.objs.size = none := I1.hok.fresh (Nat.le_refl _)
    exact Calls.callWith_builtin rfl (PySem.evalArgs_none (DT.callItems (es := es) (ep := ep) hd raw ⟨.ref s1.heap.objs.size, upd H1 s1.heap.objs.size (DX.itemsO s1.heap.objs.size m), I1.laid (t' := s1.toks) (fun b u e => Heap.get?_push_of_some _ e) (Nat.le_refl _) (DX.itemsO_ok (Heap.get?_push_size _ rfl)), rfl, q _ hf⟩))
end
abbrev itD {κ : Type} (E : KEn κ) (kvs : List (κ × D)) : List D := kvs.map fun q => .tuple [E.d q.1, q.2]
section
variable {X : Cx} {κ : Type} {E : KEn κ} {kvs : List (κ × D)}
def rSortV (K : PySem.W.Frag) (E : KEn κ) (kvs : List (κ × D)) : List V → Hp → VK → Prop := fun vs H Q => ∃ (p m : Addr) (u : HO) (O : List Addr), vs = [.ref p] ∧ H p = some (DX.itemsO p m) ∧ Rd H m u ∧ DH K (msk O H) E u kvs ∧ (∀ a ∈ O, ∃ o, H a = some o ∧ mutb o = true) ∧
  ∀ H' l xs, (∀ b o, H b = some o → H' b = some o) → H l = none → H' l = some (.lst xs) → RpA K (msk (l :: O) H') xs (sortD (itD E kvs)) → Q (.ref l) H'
theorem cr_sortV {n : Nat} (hc : X.calm = true) (hn : X.A.units + 2 + n < cLine) (hb : Sble n (itD E kvs)) : CallR X (.builtin "sorted") (rSortV X.K E kvs) := by
  intro pins s σ H vs us Q I r ⟨p, m, u, O, ex, hp, hm, hq, hO, q⟩
  subst ex
  obtain ⟨uu, eu, rx⟩ := vals1 r
  subst eu
  cases rx
  have view : s.heap.IsItemsView p m := (show ObjOk X.prog X.w H s.heap p (DX.itemsO p m) from I.hok p _ hp).1
  obtain ⟨es, ep, L⟩ := dh_lies I hO hm hq
  have hh : X.A.handled = none := I.ok.hd hc
  refine DT.sortedI (es := es) (ep := ep) hh view L.raw (by rw [L.size]; exact L.le) fun h' tk as hk hlt hl hG => ?_
  have nd : as.Nodup := List.Pairwise.imp (fun h => Nat.ne_of_lt h) hG.rise
  have lak : as.length = kvs.length := by rw [hl, L.size]
  have hob : (h'.push { cls := .type "list", data := .seq (as.map Value.ref).toArray }).get? h'.objs.size = some (seqObj "list" (as.map Value.ref).toArray 0) := Heap.get?_push_size _ rfl
  have kb : ∀ b o, s.heap.get? b = some o → (h'.push { cls := .type "list", data := .seq (as.map Value.ref).toArray }).get? b = some o := fun b o e => Heap.get?_push_of_some _ (hk b o e)
  have ka : ∀ b o, h'.get? b = some o → (h'.push { cls := .type "list", data := .seq (as.map Value.ref).toArray }).get? b = some o := fun b o e => Heap.get?_push_of_some _ e
  have ne0 : ∀ b o, h'.get? b = some o → b ≠ h'.objs.size := fun b o e => Nat.ne_of_lt (Heap.lt_size e)
  generalize h'.push { cls := .type "list", data := .seq (as.map Value.ref).toArray } = h2 at hob kb ka ⊢
  -- what each new pair is
  let R : Value → D → Prop := fun v d => ∃ (j : Nat) (a : Addr) (en : DictEntry) (q : κ × D), v = .ref a ∧ as[j]? = some a ∧ es[j]? = some en ∧ kvs[j]? = some q ∧ d = .tuple [E.d q.1, q.2] ∧ h'.get? a = some { cls := .type "tuple", data := .seq #[en.key, en.val] }
  have hR : PySem.W.EachIs R (as.map Value.ref) (itD E kvs) := by
    refine PySem.W.EachIs.of_zip (by rw [List.length_map, List.length_map, lak]) fun z hz => ?_
    obtain ⟨j, hj⟩ := List.mem_iff_getElem?.mp hz
    obtain ⟨g1, g2⟩ := List.getElem?_zip_eq_some.mp hj
    rw [List.getElem?_map] at g1 g2
    cases ha : as[j]? with
    | none => rw [ha] at g1; cases g1
    | some a =>
      cases hkv : kvs[j]? with
      | none => rw [hkv] at g2; cases g2
      | some qq =>
        rw [ha] at g1
        rw [hkv] at g2
        obtain ⟨en, e1, e2⟩ := hG.pairs j a ha
        exact ⟨j, a, en, qq, (Option.some.inj g1).symm, ha, e1, hkv, (Option.some.inj g2).symm, e2⟩
  have er : PySem.W.EachIs (fun v d => ∃ as', Reads h2 v (D.py d) as' ∧ h'.objs.size ∉ as') (as.map Value.ref) (itD E kvs) := (PySem.W.each_mem hR).mono fun v d ⟨⟨j, a, en, qq, e0, e1, e2, e3, e4, e5⟩, hd⟩ => by
    obtain ⟨q', kx, vx, f1, f2, f3, f4, f5⟩ := L.each j en e2
    rw [e3] at f1
    cases f1
    have pl := plainA_mem hb.plain d hd
    rw [e4] at pl
    have pl' : (plain (E.d qq.1) && (plain qq.2 && true)) = true := pl
    rw [Bool.and_true, Bool.and_eq_true] at pl'
    obtain ⟨b1, r1⟩ := Dp.reads I _ kx _ ((f4.mono (Kp.ofmsk _ _)).dp pl'.1) f2
    obtain ⟨b2, r2⟩ := Dp.reads I _ vx _ ((f5.mono (Kp.ofmsk _ _)).dp pl'.2) f3
    rw [e0, e4]
    refine ⟨b1 ++ (b2 ++ []), .tuple (ka _ _ e5) rfl rfl (.cons (PyProof.Rows.Reads.keeps kb r1) (.cons (PyProof.Rows.Reads.keeps kb r2) .nil)), fun z => ?_⟩
    have : ∀ b, b ∈ b1 ++ (b2 ++ []) → ∃ o, s.heap.get? b = some o := fun b hb' => by
      rcases List.mem_append.mp hb' with y | y
      · exact reads_there r1 b y
      · exact reads_there r2 b (by simpa using y)
    obtain ⟨o, ho⟩ := this _ z
    exact ne0 _ _ (hk _ _ ho) rfl
  refine PySem.W.list_sort_data (s := { s with heap := h2, toks := tk }) (enc := D.py) hob hR er hb.alike hb.kind (by rw [List.length_map]; exact L.le) (fun d hd => Nat.lt_of_le_of_lt (Nat.add_le_add_left (hb.deep d hd) _) (by show X.A.units + 1 + 1 + n < cLine; omega)) fun out hlen hout => ?_
  show EP X pins σ Q (.ref h'.objs.size) { s with heap := sortedHeap h2 h'.objs.size (as.map Value.ref) out.toArray, toks := tk }
  have kF : ∀ b o, b ≠ h'.objs.size → h2.get? b = some o → (sortedHeap h2 h'.objs.size (as.map Value.ref) out.toArray).get? b = some o := fun b o hb e => (PyProof.Rows.sortedHeap_old hb (Heap.lt_size e)).trans e
  have kS : ∀ b o, s.heap.get? b = some o → (sortedHeap h2 h'.objs.size (as.map Value.ref) out.toArray).get? b = some o := fun b o e => kF b o (ne0 _ _ (hk b o e)) (kb b o e)
  obtain ⟨eF, heF⟩ := PyProof.Rows.sortedHeap_at (vs := as.map Value.ref) (out := out.toArray) hob
  have I1 : L2.Inv X pins σ H { s with heap := sortedHeap h2 h'.objs.size (as.map Value.ref) out.toArray, toks := tk } := I.kept (t' := tk) kS
  have hn0 : H h'.objs.size = none := I.hok.fresh (Nat.le_of_lt hlt)
  -- the new list's items
  obtain ⟨xs, x1, x2⟩ : ∃ xs : List V, Vals xs out ∧ ∀ x ∈ xs, ∃ a ∈ as, x = .ref a := by
    have : ∀ {vs : List Value} {ds : List D}, PySem.W.EachIs R vs ds → ∃ xs : List V, Vals xs vs ∧ ∀ x ∈ xs, ∃ a ∈ as, x = .ref a := fun {vs ds} h => by
      induction h with
      | nil => exact ⟨[], .nil, fun _ z => by cases z⟩
      | cons r _ ih =>
        obtain ⟨xs, h1, h2⟩ := ih
        obtain ⟨j, a, en, qq, e0, e1, _⟩ := r
        refine ⟨.ref a :: xs, .cons (by rw [e0]; rfl) h1, fun x hx => ?_⟩
        rcases List.mem_cons.mp hx with rfl | hx
        · exact ⟨a, List.mem_of_getElem? e1, rfl⟩
        · exact h2 x hx
    exact this hout
  have hlx : xs.length ≤ sizeLine := by rw [x1.length, hlen, List.length_map]; exact L.le
  have I2 : L2.Inv X pins σ (upd H h'.objs.size (.lst xs)) { s with heap := sortedHeap h2 h'.objs.size (as.map Value.ref) out.toArray, toks := tk } :=
    I1.take (h' := sortedHeap h2 h'.objs.size (as.map Value.ref) out.toArray) (t' := tk) (fun b ob _ e => e) (I.fpOk (Nat.le_of_lt hlt) hn0) ⟨hlx, out, eF, x1, heF⟩
  obtain ⟨H2, I3, g, qt⟩ := DX.takeT (P := fun b vs => ∃ (j : Nat) (en : DictEntry) (qq : κ × D) (kx vx : V), as[j]? = some b ∧ kvs[j]? = some qq ∧ vs = [kx, vx] ∧ Rp X.K (msk O H) kx (E.d qq.1) ∧ Rp X.K (msk O H) vx qq.2) I as _ I2 nd fun b hb => by
    obtain ⟨j, hj⟩ := List.mem_iff_getElem?.mp hb
    obtain ⟨en, e1, e2⟩ := hG.pairs j b hj
    obtain ⟨qq, kx, vx, f1, f2, f3, f4, f5⟩ := L.each j en e1
    have hbl : s.heap.objs.size ≤ b := Nat.le_of_lt (hG.above b hb)
    refine ⟨hbl, ?_, [kx, vx], ⟨j, en, qq, kx, vx, hj, f1, rfl, f4, f5⟩, fun H3 => ⟨(by rw [sizeLine_eq]; show 2 ≤ 16777216; omega), [en.key, en.val], .cons f2 (.cons f3 .nil), ⟨_, kF _ _ (ne0 _ _ e2) (ka _ _ e2), rfl, 0, rfl⟩⟩⟩
    rw [upd_ne (ne0 _ _ e2)]
    exact I.hok.fresh hbl
  have gr : ∀ b o, H b = some o → H2 b = some o := fun b o e => g b o (by rw [upd_ne (ne_of_none e hn0)]; exact e)
  have kp : Kp (msk O H) (msk (h'.objs.size :: O) H2) := fun b o no e => by
    obtain ⟨z1, z2⟩ := msk_some e
    rw [msk_out (fun z => by
      rcases List.mem_cons.mp z with z | z
      · exact ne_of_none z2 hn0 z
      · exact z1 z)]
    exact gr b o z2
  have fin : ∀ {vs : List Value} {ds : List D}, PySem.W.EachIs R vs ds → ∀ {ys : List V}, Vals ys vs → (∀ x ∈ ys, ∃ a ∈ as, x = .ref a) → RpA X.K (msk (h'.objs.size :: O) H2) ys ds := fun {vs ds} h => by
    induction h with
    | nil => intro ys hy _; cases hy; exact .nil
    | cons r _ ih =>
      intro ys hy hx
      cases hy with
      | cons rv t =>
        refine .cons ?_ (ih t fun x hx' => hx x (List.mem_cons_of_mem _ hx'))
        obtain ⟨j, a, en, qq, e0, e1, e2, e3, e4, e5⟩ := r
        obtain ⟨a', ha', ex⟩ := hx _ List.mem_cons_self
        subst ex
        rw [e0] at rv
        cases (show Value.ref a = Value.ref a' from rv)
        obtain ⟨vs', ⟨j', en', q', kx, vx, f1, f2, f3, f4, f5⟩, hH⟩ := qt a ha'
        have ej : j = j' := (List.getElem?_inj (List.getElem?_eq_some_iff.mp e1).1 nd).mp (e1.trans f1.symm)
        subst ej
        rw [e3] at f2
        cases f2
        rw [e4]
        have na : a ∉ h'.objs.size :: O := fun z => by
          rcases List.mem_cons.mp z with z | z
          · exact ne0 _ _ e5 z
          · obtain ⟨o, e, _⟩ := hO a z
            rw [I.hok.fresh (Nat.le_of_lt (hG.above a ha'))] at e; cases e
        exact .tup (xs := [kx, vx]) (by show msk _ H2 a = _; rw [msk_out na, hH, f3]) (.cons (f4.mono kp) (.cons (f5.mono kp) .nil))
  exact ⟨.ref h'.objs.size, H2, I3, rfl, q H2 h'.objs.size xs gr hn0 (g _ _ upd_same) (fin hout x1 x2)⟩
end
section
variable {X : Cx} {T : List TQ} {B : Bs} {ρ ρ1 : Sl} {W : List Addr} {e : Expr} {pos p apos cpos : Pos} {n : Nat} {κ : Type} {E : KEn κ} {kvs : List (κ × D)}
theorem sim_addG {K : PySem.W.Frag} {σ : L2.St} {H H2 : Hp} {L : Addr} {o : HO} (S : Sim K T B ρ σ H) (n : H L = none) (gr : ∀ b o, H b = some o → H2 b = some o) (h : H2 L = some o) (no : mutb o = true) : Sim K T (B.add L) ρ σ H2 := by
  have z := S.grow (fun a o _ e => gr a o e) (fun P hP => TQs.keep gr (S.tabs P hP)) fun a ha => by
    cases q : H a with
    | none => exact absurd q ha
    | some o => rw [gr _ _ q]; exact fun y => by cases y
  refine ⟨S.len, fun i s e => ?_, S.nodup, fun a q y => ?_, fun a q => ?_, z.frame, z.fresh, z.tabs, z.dom⟩
  · refine (S.at_ i s e).mono (fun a o _ q => ?_) fun a d _ ob _ y => gr _ _ y
    obtain ⟨q1, q2⟩ := msk_some q
    have ne := ne_of_none q2 n
    rw [msk_out (fun y => by
      rcases List.mem_cons.mp (show a ∈ L :: (B.out ++ owns ρ) from y) with y | y
      · exact ne y
      · exact q1 y)]
    exact gr _ _ q2
  · rcases List.mem_cons.mp y with y | y
    · obtain ⟨o, e, _⟩ := S.held a (List.mem_append_right _ q)
      exact ne_of_none e n y
    · exact S.disj a q y
  · rcases List.mem_cons.mp q with q | q
    · exact ⟨o, by rw [q]; exact h, no⟩
    · exact z.outs a q
/-- sorted(d.items()) -/
theorem eo_sortedIt (hc : X.calm = true) (hu : X.A.units + 2 + n < cLine) (hg : Gl X "sorted") (hm : X.mg "sorted" = none) (ha : EX X T B ρ e W ρ1 (dD E kvs)) (hb : Sble n (itD E kvs)) (hbase : attributeBase e "items" X.env (eval e X.env) = eval e X.env := by rfl) (hline : (apos.endLine == cpos.line) = true := by rfl)
    (he : starEach [.Call (.Attribute e "items" apos) [] [] cpos] X.env = (false, eval (.Call (.Attribute e "items" apos) [] [] cpos) X.env) :: starEach [] X.env := by rfl) : EO X T B ρ (.Call (.Name "sorted" p) [.Call (.Attribute e "items" apos) [] [] cpos] [] pos) W ρ1 (sortD (itD E kvs)) := by
  refine ⟨PE.imp (Call1.run (c1b (p := p) (cr_sortV hc hu hb) hg hm (by decide +kernel) (he := he)) (pa_cons (pe_itemsV ha.run hbase hline) pa_nil he)) fun σ H Q ⟨S, q⟩ => ⟨S, fun v H' S' f r => ?_⟩, ha.own, ha.sub⟩
  obtain ⟨m, u, od, rfl, hm, hq⟩ := dh_rp r
  have hm := (msk_some hm).2
  have hu' : mutb u = true ∧ ∀ xs, u ≠ .lst xs := by
    rcases hq with ⟨e, kk, rfl, _⟩ | ⟨e, ⟨_, rfl⟩ | ⟨n, kk, rfl, _⟩⟩ <;> exact ⟨rfl, fun _ z => by cases z⟩
  refine ⟨m, u, rfl, .inr ⟨od, hm⟩, hu', fun pv nv => ?_⟩
  have S2 := S'.new (o := DX.itemsO pv m) nv
  have ne : m ≠ pv := ne_of_none hm nv
  refine ⟨pv, m, u, B.all ρ1, rfl, upd_same, .inr ⟨od, by rw [upd_ne ne]; exact hm⟩, hq.mono (kp_new nv), S2.held, fun H2 l xs gr n1 h1 h2 => ?_⟩
  refine q l xs H2 (free_H0 S2 n1) (sim_addG S2 n1 gr h1 rfl) ?_ h1 (S2.free n1) h2
  exact fun a o no w e => gr a o (by rw [upd_ne (ne_of_none (f a o no w e) nv)]; exact f a o no w e)
end
end Dv

set_option maxRecDepth 100000
namespace Dv
open PySem PySem.Spec PyProof.Rows L2
/-! ## *d.values() in a display -/
section
variable {prog : Program} {w : World} {A : Around} {E : Value → Shared → Prop} {s : Shared} {T : String} {r d : Addr} {n : Nat} {P : Nat → Value → Prop} {OK : Heap → Prop}
theorem src_collect {R : List Value → Shared → Prop} (K : PySem.W.KdlSrc prog w T r d n P OK) (hh : A.handled = none) (hok : OK s.heap) (hn : n ≤ sizeLine)
    (h : ∀ h' tk acc, (∀ b o, s.heap.get? b = some o → h'.get? b = some o) → ItemsOf P acc n → R acc.toList { s with heap := h', toks := tk }) : wpAny (model prog w) A (collect (.ref r)) R E s := by
  have hlt := K.there _ hok
  unfold collect
  refine wpAny_bind (wpAny_runValue (codeAny_builtin entry_proto_collect' ?_))
  rw [Around.under_plainId PySem.F.plain_proto_collect _]
  show wpAny _ A.in1 (newList [] >>= fun l => again (.builtin "list.__iadd__" ⟨[l, .ref r], []⟩)) _ _ s
  refine wpAny_bind (wpAny_newObj_type ?_)
  refine wpAny_pure ⟨plainId_quiet PySem.F.plain_list_iadd _, codeAny_builtin entry_list_iadd' ?_⟩
  rw [Around.under_plainId PySem.F.plain_list_iadd _]
  have hS : (s.heap.push { cls := .type "list", data := .seq ([] : List Value).toArray }).get? s.heap.objs.size = some { cls := .type "list", data := .seq #[] } := Heap.get?_push_size _ rfl
  show wpAny _ A.in1 (Builtin.List.listExtendWith (.ref s.heap.objs.size) (.ref r) (.ref s.heap.objs.size)) _ _ _
  have key := PySem.W.kdl_extend (prog := prog) (w := w) (A := A) (s := { s with heap := s.heap.push { cls := .type "list", data := .seq ([] : List Value).toArray } })
    (R := fun (q : Result) (s' : Shared) => ∃ (h' : Heap) (tk : Nat) (acc : Array Value) (c : Nat), q = .ok (.ret (.ref s.heap.objs.size)) ∧ s' = { s with heap := h', toks := tk } ∧ (∀ b o, s.heap.get? b = some o → h'.get? b = some o) ∧
      h'.get? s.heap.objs.size = some { cls := .type "list", dict := none, data := .seq acc c, slots := #[] } ∧ ItemsOf P acc n)
    K hh (K.keep _ _ hok fun b _ o e => Heap.get?_push_of_some _ e) s.heap.objs.size (Nat.ne_of_gt hlt.1) (Nat.ne_of_gt hlt.2) (.ref s.heap.objs.size) 0 hS
    (fun h' tk acc c hk hS' hacc => ⟨h', tk, acc, c, rfl, rfl, fun b o e => hk b o (Nat.ne_of_lt (Heap.lt_size e)) (Heap.get?_push_of_some _ e), hS', hacc⟩) hn
  refine wpAny_mono key (fun fin s' x => ?_) fun e s' x => ?_
  · cases fin with
    | done f =>
      obtain ⟨h', tk, acc, c, e, rfl, hk, hS', hacc⟩ := x
      cases e
      show wpAny _ A (load s.heap.objs.size >>= _) _ _ _
      exact wpAny_bind (wpAny_load hS' (wpAny_pure (h h' tk acc hk hacc)))
    | again c₁ =>
      refine ⟨x.1, codeAny_mono x.2 fun q s₂ y => ?_⟩
      obtain ⟨h', tk, acc, c, rfl, rfl, hk, hS', hacc⟩ := y
      show wpAny _ A (load s.heap.objs.size >>= _) _ _ _
      exact wpAny_bind (wpAny_load hS' (wpAny_pure (h h' tk acc hk hacc)))
  · obtain ⟨_, _, _, _, e', _⟩ := x
    cases e'
end
section
variable {X : Cx} {κ : Type} {E : KEn κ} {kvs : List (κ × D)} {e : Expr} {es : List Expr} {te : TE} {t : TA} {p apos cpos : Pos}
/-- *e.values(): the values, as they lie -/
def tStarV (K : PySem.W.Frag) (E : KEn κ) (kvs : List (κ × D)) (te : TE) (t : TA) : TA := fun σ H Q => te σ H fun x H1 => ∃ m u O, x = V.ref m ∧ Rd H1 m u ∧ DH K (msk O H1) E u kvs ∧ (∀ a ∈ O, ∃ o, H1 a = some o ∧ mutb o = true) ∧ ∀ xs, RpA K (msk O H1) xs (kvs.map (·.2)) → t σ H1 fun ys H2 => Q (xs ++ ys) H2
theorem items_rpa {K : PySem.W.Frag} {h : Heap} {Hm : Hp} {m : Addr} {es : Array DictEntry} {ep : Nat} (L : Lies K E h Hm m kvs es ep) {acc : Array Value} (ha : ItemsOf (fun i v => ∃ hi : i < es.size, v = es[i].val) acc es.size) : ∃ xs, Vals xs acc.toList ∧ RpA K Hm xs (kvs.map (·.2)) := by
  obtain ⟨h1, h2⟩ := ha
  have key : ∀ (vs : List Value) (ks : List (κ × D)) (f : Nat), vs.length = ks.length → (∀ (j : Nat) (v : Value), vs[j]? = some v → ∃ (q : κ × D) (x : V), ks[j]? = some q ∧ RelV x v ∧ Rp K Hm x q.2) → ∃ xs, Vals xs vs ∧ RpA K Hm xs (ks.map (·.2)) := by
    intro vs
    induction vs with
    | nil => intro ks f hl _; cases ks with
      | nil => exact ⟨[], .nil, .nil⟩
      | cons _ _ => cases hl
    | cons v vs ih =>
      intro ks f hl hx
      cases ks with
      | nil => cases hl
      | cons q ks =>
        obtain ⟨xs, g1, g2⟩ := ih ks f (by simpa using hl) fun j v' hj => hx (j + 1) v' (by simpa using hj)
        obtain ⟨q', x, f1, f2, f3⟩ := hx 0 v rfl
        cases (Option.some.inj f1)
        exact ⟨x :: xs, .cons f2 g1, .cons f3 g2⟩
  refine key acc.toList kvs 0 (by rw [Array.length_toList, h1, L.size]) fun j v hj => ?_
  obtain ⟨hi, e⟩ := h2 j v (by rw [← Array.getElem?_toList]; exact hj)
  obtain ⟨q, kx, vx, f1, f2, f3, f4, f5⟩ := L.each j es[j] (Array.getElem?_eq_getElem hi)
  exact ⟨q, vx, f1, by rw [e]; exact f3, f5⟩
theorem pa_starV (hc : X.calm = true) (he : PE X e te) (hr : PA X es t) (hbase : attributeBase e "values" X.env (eval e X.env) = eval e X.env := by rfl) (hline : (apos.endLine == cpos.line) = true := by rfl)
    (hs : starEach (.Starred (.Call (.Attribute e "values" apos) [] [] cpos) p :: es) X.env = (true, eval (.Call (.Attribute e "values" apos) [] [] cpos) X.env) :: starEach es X.env := by rfl) : PA X (.Starred (.Call (.Attribute e "values" apos) [] [] cpos) p :: es) (tStarV X.K E kvs te t) := by
  refine ⟨fun pos pins s σ H Q I h => ?_⟩
  refine PySem.W.items_star ?_ hs
  refine wpAny_Call_method (T := "dict") (id := "dict.values") hbase rfl hline PySem.F.plainAttrs_dict PySem.F.slot_dict_values PySem.F.type_dict_values (thn (he.run pins s σ H _ I h) fun uv s1 ⟨x, H1, I1, rx, m, u, O, ex, hm, hq, hO, q⟩ => ?_)
  subst ex
  obtain rfl : uv = Value.ref m := rx
  obtain ⟨es', ep, L⟩ := dh_lies I1 hO hm hq
  have raw : s1.heap.DictRaw m es' ep := L.raw
  refine ⟨L.raw.typeIs, fun b e => ?_, ?_⟩
  · cases e
    obtain ⟨o, ho, hx, _⟩ := L.raw
    exact ⟨o, ho, hx.2.1⟩
  refine Calls.callWith_builtin rfl (PySem.evalArgs_none ?_)
  refine call_meetsIn PySem.F.slot_dict_values raw.typeIs PySem.F.entry_dict_values (PySem.F.args_dict_values_1 _) (meets_dict_values_raw m L.sys) ⟨⟨es', ep, raw⟩, ?_⟩
  have hv : (s1.heap.push { cls := .type "dict_values", data := .fields #[.ref m] }).IsValuesView s1.heap.objs.size m := ⟨_, Heap.get?_push_size _ rfl, rfl, rfl⟩
  have hT : ({ s1 with heap := s1.heap.push { cls := .type "dict_values", data := .fields #[.ref m] } } : Shared).TypeIs (.ref s1.heap.objs.size) "dict_values" := ⟨_, Heap.get?_push_size _ rfl, rfl⟩
  unfold PySem.W.StarOf notIterableAtAll
  refine wpAny_bind (wpAny_specialOf hT PySem.F.slot_dict_values_iter.lookup (wpAny_pure ⟨rfl, ?_⟩))
  refine src_collect (s := { s1 with heap := s1.heap.push { cls := .type "dict_values", data := .fields #[.ref m] } }) (KdlSrc.rawValues (ep := ep)) (I1.ok.hd hc) ⟨hv, raw.push _⟩ (by rw [L.size]; exact L.le) fun h' tk acc hk hacc => ?_
  obtain ⟨xs, x1, x2⟩ := items_rpa L hacc
  have I2 : L2.Inv X pins σ H1 { s1 with heap := h', toks := tk } := I1.kept (t' := tk) fun b o e => hk b o (Heap.get?_push_of_some _ e)
  exact thn (hr.run pos pins _ σ H1 _ I2 (q xs x2)) fun ws s3 ⟨vs, H3, I3, r3, q3⟩ => ⟨xs ++ vs, H3, I3, x1.append r3, q3⟩
end
section
variable {X : Cx} {T : List TQ} {B : Bs} {ρ ρ1 ρ2 : Sl} {W1 W2 : List Addr} {e : Expr} {es : List Expr} {ds : List D} {p apos cpos : Pos} {κ : Type} {E : KEn κ} {kvs : List (κ × D)}
/-- *d.values(), .. -/
theorem ax_starV (hc : X.calm = true) (h : EX X T B ρ e W1 ρ1 (dD E kvs)) (r : AX X T B ρ1 es W2 ρ2 ds) (hbase : attributeBase e "values" X.env (eval e X.env) = eval e X.env := by rfl) (hline : (apos.endLine == cpos.line) = true := by rfl)
    (hs : starEach (.Starred (.Call (.Attribute e "values" apos) [] [] cpos) p :: es) X.env = (true, eval (.Call (.Attribute e "values" apos) [] [] cpos) X.env) :: starEach es X.env := by rfl) :
    AX X T B ρ (.Starred (.Call (.Attribute e "values" apos) [] [] cpos) p :: es) (W1 ++ W2) ρ2 (kvs.map (·.2) ++ ds) :=
  ⟨PA.imp (pa_starV hc h.run r.run hbase hline hs) fun σ H Q ⟨S, q⟩ => ⟨S, fun x H1 S1 f1 r1 => by
    obtain ⟨m, u, od, rfl, hm, hq⟩ := dh_rp r1
    exact ⟨m, u, B.all ρ1, rfl, .inr ⟨od, (msk_some hm).2⟩, hq, S1.held, fun xs hx => ⟨S1, fun vs H2 S2 f2 rs => q _ H2 S2 (f1.trans f2) (RpA.append (carryA r.own r.sub f2 hx) rs)⟩⟩⟩, r.own.trans h.own, sub_app h.sub h.own r.sub⟩
end
end Dv

set_option maxRecDepth 100000
namespace Dv
open PySem PySem.Spec PyProof.Rows L2
/-! ## == and != of dicts -/
section
variable {prog : Program} {w : World} {K : Type} [DecidableEq K] {knd : HeapKind prog w K} {A : Around} {E : Value → Shared → Prop} {s : Shared}
theorem same_H {nm : String} {a b : Addr} {ka kb : List (K × Addr × Value)} {rs : Nat → Bool} {Q : Bool → Shared → Prop} (hu : knd.room A) (ha : (a == sysModules) = false) (hb : (b == sysModules) = false) (da : s.heap.DictOfH knd a ka) (db : s.heap.DictOfH knd b kb)
    (hits : ∀ (j : Nat) (k : K) (c : Addr) (v : Value), ka[j]? = some (k, c, v) → (rs j = false ∧ ∀ (i : Nat) (p : Addr × Value), kb[i]? ≠ some (k, p)) ∨ ∃ (i : Nat) (d : Addr) (y : Value), kb[i]? = some (k, d, y) ∧ SeqAt.EqAt A s v y (rs j))
    (h : Q (ka.length == kb.length && (List.range' 0 ka.length).all rs) s) : wpAny (model prog w) A (Builtin.Dict.samePairs nm a b) Q E s := by
  obtain ⟨oa, es, ep, hoa, _, hda, hea, hisa, hna⟩ := da
  obtain ⟨ob, es', ep', hob, _, hdb, heb, hisb, hnb⟩ := db
  have la : es.size = ka.length := size_of_entries hea
  have lb : es'.size = kb.length := size_of_entries heb
  rw [← la, ← lb] at h
  unfold Builtin.Dict.samePairs Builtin.Dict.showsAll
  rw [if_neg (by rw [ha]; exact Bool.false_ne_true), if_neg (by rw [hb]; exact Bool.false_ne_true)]
  refine wpAny_bind (wpAny_pure (wpAny_bind (wpAny_pure (wpAny_bind (wpAny_dictEntries hoa hda ?_)))))
  dsimp only
  refine wpAny_bind (wpAny_dictEntries hob hdb ?_)
  by_cases hz : es.size = es'.size
  · have h' : Q ((List.range' 0 es.size).all rs) s := by simpa [hz] using h
    rw [if_neg (by rw [hz]; simp)]
    refine wpAny_bind (wpAny_dictEpoch hoa hda (wpAny_bind ?_))
    rw [Std.Legacy.Range.forIn_eq_forIn_range']
    simp only [Std.Legacy.Range.size, Nat.sub_zero, Nat.add_sub_cancel, Nat.div_one]
    refine wpAny_forIn_list _ (fun rest q s' => s' = s ∧ q = (none, ()) ∧ ∃ i, rest = List.range' i (es.size - i) ∧ i ≤ es.size ∧ (List.range' 0 es.size).all rs = (List.range' i (es.size - i)).all rs) _ ?_ ?_ _ _ ⟨rfl, rfl, 0, by simp, Nat.zero_le _, by simp⟩
    · rintro x rest q s' ⟨rfl, rfl, i, hr, hi, hpre⟩
      have hlt : i < es.size := by
        rcases Nat.lt_or_ge i es.size with g | g
        · exact g
        · rw [Nat.sub_eq_zero_of_le g] at hr; simp at hr
      have e0 : es.size - i = (es.size - (i + 1)) + 1 := by omega
      obtain ⟨rfl, hrest⟩ : x = i ∧ rest = List.range' (i + 1) (es.size - (i + 1)) := by
        rw [e0, List.range'_succ] at hr
        injection hr with g1 g2
        exact ⟨g1, g2⟩
      rw [e0, List.range'_succ, List.all_cons] at hpre
      refine wpAny_bind (wpAny_dictEntries hoa hda ?_)
      rw [Array.getElem?_eq_getElem hlt]
      have hka : ∃ p, ka[x]? = some p := ⟨ka[x]'(by rw [← la]; exact hlt), List.getElem?_eq_getElem _⟩
      obtain ⟨⟨k, c, v⟩, hka⟩ := hka
      have hen : es[x] = entryOfKey knd (k, c, v) := by
        have g := entry_at hea x
        rw [hka, Array.getElem?_eq_getElem hlt] at g
        exact Option.some.inj g
      have hk := hisa _ (List.mem_of_getElem? hka)
      show wpAny _ _ (holding [es[x].key, es[x].val] _ >>= _) _ _ _
      rw [hen]
      refine wpAny_bind (wpAny_holding (wpAny_bind ?_))
      have hit := hits x k c v hka
      refine wpAny_dictFind_heap hu hk hob hdb heb hisb hnb (fun hno => ?_) (fun j p hj => ?_)
      · rcases hit with ⟨e1, _⟩ | ⟨i, d, y, e1, _⟩
        · rw [e1, Bool.false_and] at hpre
          rw [hpre] at h'
          refine wpAny_pure ?_
          show wpAny _ _ (if (!false) = true then _ else _) _ _ _
          rw [if_pos (by decide)]
          exact wpAny_pure (wpAny_pure h')
        · exact absurd e1 (hno _ _)
      · rcases hit with ⟨_, e2⟩ | ⟨i, d, y, e1, e2⟩
        · exact absurd hj (e2 _ _)
        · have eij : j = i := by
            have n1 : (kb.map (·.1))[j]? = some k := by rw [List.getElem?_map, hj]; rfl
            have n2 : (kb.map (·.1))[i]? = some k := by rw [List.getElem?_map, e1]; rfl
            exact (List.getElem?_inj (List.getElem?_eq_some_iff.mp n1).1 hnb).mp (n1.trans n2.symm)
          subst eij
          rw [e1] at hj
          cases hj
          have hjl : j < es'.size := by rw [lb]; exact (List.getElem?_eq_some_iff.mp e1).1
          have hen' : es'[j]? = some (entryOfKey knd (k, d, y)) := by rw [entry_at heb j, e1]; rfl
          refine wpAny_bind (wpAny_dictEntries hob hdb ?_)
          rw [hen']
          refine wpAny_holding (e2 prog w _ _ ?_)
          cases er : rs x with
          | false =>
            rw [er, Bool.false_and] at hpre
            rw [hpre] at h'
            show wpAny _ _ (if (!false) = true then _ else _) _ _ _
            rw [if_pos (by decide)]
            exact wpAny_pure (wpAny_pure h')
          | true =>
            rw [er, Bool.true_and] at hpre
            show wpAny _ _ (if (!true) = true then _ else _) _ _ _
            rw [if_neg (by decide)]
            refine wpAny_bind (wpAny_dictEpoch hoa hda ?_)
            rw [if_neg (by simp)]
            exact wpAny_pure ⟨rfl, rfl, x + 1, hrest, hlt, hpre⟩
    · rintro q s' ⟨rfl, rfl, i, hr, hi, hpre⟩
      have hin : i = es.size := by
        rcases Nat.lt_or_ge i es.size with g | g
        · have e : es.size - i = (es.size - (i + 1)) + 1 := by omega
          rw [e, List.range'_succ] at hr; exact nomatch hr
        · exact Nat.le_antisymm hi g
      subst hin
      rw [Nat.sub_self] at hpre
      rw [hpre] at h'
      exact wpAny_pure h'
  · rw [if_pos (by simpa using hz)]
    have hbf : (es.size == es'.size) = false := by simpa using hz
    rw [hbf, Bool.false_and] at h
    exact wpAny_bind (wpAny_rule (wpAny_pure h))
theorem eq_H {a b : Addr} {ka kb : List (K × Addr × Value)} {rs : Nat → Bool} {Q : Value → Shared → Prop} (hu : knd.room A.in1) (hu2 : A.units < cLine) (ha : (a == sysModules) = false) (hb : (b == sysModules) = false) (da : s.heap.DictOfH knd a ka) (db : s.heap.DictOfH knd b kb)
    (hits : ∀ (j : Nat) (k : K) (c : Addr) (v : Value), ka[j]? = some (k, c, v) → (rs j = false ∧ ∀ (i : Nat) (p : Addr × Value), kb[i]? ≠ some (k, p)) ∨ ∃ (i : Nat) (d : Addr) (y : Value), kb[i]? = some (k, d, y) ∧ SeqAt.EqAt A.in1 s v y (rs j))
    (h : Q (.bool (ka.length == kb.length && (List.range' 0 ka.length).all rs)) s) : wpAny (model prog w) A (compareOp .Eq (.ref a) (.ref b)) Q E s := by
  refine wpAny_richCompare_same_room (op := .Eq) da.typeIs db.typeIs PySem.F.slot_dict_eq (wpAny_call_entry PySem.F.slot_dict_eq da.typeIs PySem.F.entry_dict_eq ?_ (PySem.F.args_dict_eq_2 _ _)) hu2
  show wpAny _ _ (Builtin.Dict.dictSlotArgs "__eq__" ⟨[.ref a, .ref b], []⟩ >>= _) _ _ s
  refine wpAny_bind ?_
  unfold Builtin.Dict.dictSlotArgs
  refine wpAny_bind (wpAny_notOrdered_dict da.typeIs (show wpAny _ _ (pure (Value.ref a, Value.ref b)) _ _ s from wpAny_pure ?_))
  refine wpAny_bind (wpAny_isInstance (T := "dict") db.typeIs PySem.F.sub_dict_dict ?_)
  simp only [Bool.not_true, Bool.false_eq_true, if_false]
  refine wpAny_bind (wpAny_pure (wpAny_bind (wpAny_pure (wpAny_bind (same_H hu ha hb da db hits (wpAny_pure ⟨_, rfl, (fun x => nomatch x), ?_⟩))))))
  simpa using h
theorem ne_H {a b : Addr} {ka kb : List (K × Addr × Value)} {rs : Nat → Bool} {Q : Value → Shared → Prop} (hu : knd.room A.in1) (hu2 : A.units < cLine) (ha : (a == sysModules) = false) (hb : (b == sysModules) = false) (da : s.heap.DictOfH knd a ka) (db : s.heap.DictOfH knd b kb)
    (hits : ∀ (j : Nat) (k : K) (c : Addr) (v : Value), ka[j]? = some (k, c, v) → (rs j = false ∧ ∀ (i : Nat) (p : Addr × Value), kb[i]? ≠ some (k, p)) ∨ ∃ (i : Nat) (d : Addr) (y : Value), kb[i]? = some (k, d, y) ∧ SeqAt.EqAt A.in1 s v y (rs j))
    (h : Q (.bool (!(ka.length == kb.length && (List.range' 0 ka.length).all rs))) s) : wpAny (model prog w) A (compareOp .NotEq (.ref a) (.ref b)) Q E s := by
  refine wpAny_richCompare_same_room (op := .NotEq) da.typeIs db.typeIs PySem.F.slot_dict_ne (wpAny_call_entry PySem.F.slot_dict_ne da.typeIs PySem.F.entry_dict_ne ?_ (PySem.F.args_dict_ne_2 _ _)) hu2
  show wpAny _ _ (Builtin.Dict.dictSlotArgs "__ne__" ⟨[.ref a, .ref b], []⟩ >>= _) _ _ s
  refine wpAny_bind ?_
  unfold Builtin.Dict.dictSlotArgs
  refine wpAny_bind (wpAny_notOrdered_dict da.typeIs (show wpAny _ _ (pure (Value.ref a, Value.ref b)) _ _ s from wpAny_pure ?_))
  refine wpAny_bind (wpAny_isInstance (T := "dict") db.typeIs PySem.F.sub_dict_dict ?_)
  simp only [Bool.not_true, Bool.false_eq_true, if_false]
  refine wpAny_bind (wpAny_pure (wpAny_bind (wpAny_pure (wpAny_bind (same_H hu ha hb da db hits (wpAny_pure ⟨_, rfl, (fun x => nomatch x), ?_⟩))))))
  simpa using h
end
end Dv

set_option maxRecDepth 100000
namespace Dv
open PySem PySem.Spec PyProof.Rows L2
section
variable {κ : Type} [DecidableEq κ]
def hitV (k2 : List (κ × D)) (q : κ × D) : Bool := match lookE k2 q.1 with
  | some d => PyData.eqv q.2.py d.py
  | none => false
/-- two dicts are equal -/
def eqDD (k1 k2 : List (κ × D)) : Bool := k1.length == k2.length && k1.all (hitV k2)
def rsV (k1 k2 : List (κ × D)) (j : Nat) : Bool := match k1[j]? with
  | some q => hitV k2 q
  | none => false
theorem all_rs (k2 : List (κ × D)) : ∀ (k1 : List (κ × D)), (List.range' 0 k1.length).all (rsV k1 k2) = k1.all (hitV k2) := fun k1 => by
  have key : ∀ (l : List (κ × D)) (s : Nat), k1.drop s = l → (List.range' s l.length).all (rsV k1 k2) = l.all (hitV k2) := fun l => by
    induction l with
    | nil => intro s _; rfl
    | cons q l ih =>
      intro s hs
      have h0 : k1[s]? = some q := by rw [← List.head?_drop, hs]; rfl
      have h1 : k1.drop (s + 1) = l := by rw [← List.tail_drop, hs]; rfl
      rw [List.length_cons, List.range'_succ, List.all_cons, List.all_cons, ih (s + 1) h1]
      unfold rsV
      rw [h0]
  exact key k1 0 rfl
theorem lookE_at {kvs : List (κ × D)} {k : κ} {d : D} (h : lookE kvs k = some d) : ∃ i : Nat, kvs[i]? = some (k, d) := by
  unfold lookE at h
  cases hf : kvs.find? (fun q => decide (q.1 = k)) with
  | none => rw [hf] at h; cases h
  | some q =>
    rw [hf] at h
    have e2 : q.2 = d := Option.some.inj h
    have e1 : q.1 = k := by have z := List.find?_some hf; simpa using z
    obtain ⟨i, hi⟩ := List.mem_iff_getElem?.mp (List.mem_of_find?_eq_some hf)
    exact ⟨i, by rw [hi, ← e1, ← e2]⟩
theorem lookE_none {kvs : List (κ × D)} {k : κ} (h : lookE kvs k = none) (i : Nat) (q : κ × D) (hq : kvs[i]? = some q) : q.1 ≠ k := fun e => by
  have hf : kvs.find? (fun q => decide (q.1 = k)) = none := Option.map_eq_none_iff.mp h
  have := List.find?_eq_none.mp hf q (List.mem_of_getElem? hq)
  simp [e] at this
end
section
variable {X : Cx} {κ : Type} [DecidableEq κ] {E : KEn κ} {k1 k2 kvs : List (κ × D)} {pins : List (Addr × Obj)} {σ : L2.St} {H : Hp} {s : Shared} {m : Addr} {u : HO}
theorem dh_H (hf : E.fl = false) (I : L2.Inv X pins σ H s) (hm : Rd H m u) (hq : DH X.K H E u kvs) : (m == sysModules) = false ∧ ∃ xs kk, s.heap.DictOfH (tupleKind (mixKind X.prog X.w)) m xs ∧ KT H kk xs ∧ PB X.K H E.ft kk kvs := by
  rcases hq with ⟨e, _⟩ | ⟨e, ⟨rfl, rfl⟩ | ⟨n, kk, rfl, hq⟩⟩
  · rw [hf] at e; cases e
  · obtain ⟨h1, h2⟩ := emp_dt I hm
    exact ⟨h1, [], [], h2, .nil, .nil⟩
  · obtain ⟨_, hd, xs, rel, dd⟩ := dt_rd I.hok hm
    exact ⟨hd, xs, kk, dd, rel, hq⟩
def rEqT (K : PySem.W.Frag) (E : KEn κ) (n : Bool) (k1 k2 : List (κ × D)) : L2.R2 := fun x y H Q => ∃ m1 u1 m2 u2, x = .ref m1 ∧ y = .ref m2 ∧ Rd H m1 u1 ∧ Rd H m2 u2 ∧ DH K H E u1 k1 ∧ DH K H E u2 k2 ∧ Q (.bl (n ^^ eqDD k1 k2)) H
theorem hits_of {K : PySem.W.Frag} (hX : K = X.K) (hu : X.A.units + 66 < cLine) (f1 : ∀ q ∈ k1, fine q.2 = true) (f2 : ∀ q ∈ k2, fine q.2 = true) (hf : E.fl = false) (I : L2.Inv X pins σ H s) {xs ys : List (List Key × Addr × Value)} {kk ll : List (List Key × V)} (r1 : KT H kk xs) (p1 : PB X.K H E.ft kk k1) (r2 : KT H ll ys) (p2 : PB X.K H E.ft ll k2)
    (j : Nat) (k : List Key) (c : Addr) (v : Value) (hj : xs[j]? = some (k, c, v)) : (rsV k1 k2 j = false ∧ ∀ (i : Nat) (p : Addr × Value), ys[i]? ≠ some (k, p)) ∨ ∃ (i : Nat) (d : Addr) (y : Value), ys[i]? = some (k, d, y) ∧ SeqAt.EqAt X.A.in1 s v y (rsV k1 k2 j) := by
  obtain ⟨kv, g1, g2, g3, g4⟩ := DX.pget r1 hj
  obtain ⟨q, h1, h2, h3⟩ := p1.at g1
  have ek : k = E.ft q.1 := g2.symm.trans h2
  have inj := (E.ht hf).2
  have ers : rsV k1 k2 j = hitV k2 q := by unfold rsV; rw [h1]
  cases hl : lookE k2 q.1 with
  | none =>
    refine .inl ⟨by rw [ers]; unfold hitV; rw [hl], fun i p e => ?_⟩
    obtain ⟨kv2, a1, a2, _⟩ := DX.pget r2 e
    obtain ⟨q2, b1, b2, _⟩ := p2.at a1
    have : E.ft q2.1 = E.ft q.1 := b2.symm.trans (a2.trans ek)
    exact lookE_none hl i q2 b1 (inj _ _ this)
  | some d =>
    obtain ⟨i, hi⟩ := lookE_at hl
    obtain ⟨kv2, a1, a2⟩ := DX.pget p2 hi
    obtain ⟨x2, b1, b2⟩ := paired_get r2 a1
    obtain ⟨c1, c2, c3⟩ := b2
    refine .inr ⟨i, x2.2.1, x2.2.2, ?_, ?_⟩
    · rw [b1, ek]
      have : x2.1 = E.ft q.1 := c1.symm.trans a2.1
      rw [← this]
    · have fq := f1 q (List.mem_of_getElem? h1)
      have fd := f2 _ (List.mem_of_getElem? hi)
      obtain ⟨as1, rd1⟩ := Dp.reads I _ kv.2 v (h3.dp (fine_of fq).1) g4
      obtain ⟨as2, rd2⟩ := Dp.reads I _ kv2.2 x2.2.2 (a2.2.dp (fine_of fd).1) c3
      rw [ers]
      unfold hitV
      rw [hl]
      exact PySem.W.keq_at (A := X.A) rd1 rd2 (fine_of fq).2 (fine_of fd).2 (show X.A.units + 1 + 64 < cLine by omega)
theorem op_eqT (hu : X.A.units + 66 < cLine) (hf : E.fl = false) (f1 : ∀ q ∈ k1, fine q.2 = true) (f2 : ∀ q ∈ k2, fine q.2 = true) : OpR X (compareOp .Eq) (rEqT X.K E false k1 k2) := by
  intro pins s σ H x y v u Q I rx ry ⟨m1, u1, m2, u2, ex, ey, h1, h2, d1, d2, q⟩
  subst ex ey
  cases rx
  cases ry
  obtain ⟨s1, xs, kk, D1, r1, p1⟩ := dh_H hf I h1 d1
  obtain ⟨s2, ys, ll, D2, r2, p2⟩ := dh_H hf I h2 d2
  refine eq_H (rs := rsV k1 k2) (show X.A.units + 1 < cLine by omega) (by omega) s1 s2 D1 D2 (hits_of rfl hu f1 f2 hf I r1 p1 r2 p2) ⟨.bl (eqDD k1 k2), H, I, ?_, by rw [Bool.false_xor] at q; exact q⟩
  show Value.bool _ = Value.bool _
  rw [← Paired.length r1, ← Paired.length r2, p1.len, p2.len, all_rs]; rfl
theorem op_neT (hu : X.A.units + 66 < cLine) (hf : E.fl = false) (f1 : ∀ q ∈ k1, fine q.2 = true) (f2 : ∀ q ∈ k2, fine q.2 = true) : OpR X (compareOp .NotEq) (rEqT X.K E true k1 k2) := by
  intro pins s σ H x y v u Q I rx ry ⟨m1, u1, m2, u2, ex, ey, h1, h2, d1, d2, q⟩
  subst ex ey
  cases rx
  cases ry
  obtain ⟨s1, xs, kk, D1, r1, p1⟩ := dh_H hf I h1 d1
  obtain ⟨s2, ys, ll, D2, r2, p2⟩ := dh_H hf I h2 d2
  refine ne_H (rs := rsV k1 k2) (show X.A.units + 1 < cLine by omega) (by omega) s1 s2 D1 D2 (hits_of rfl hu f1 f2 hf I r1 p1 r2 p2) ⟨.bl (!eqDD k1 k2), H, I, ?_, by rw [Bool.true_xor] at q; exact q⟩
  show Value.bool _ = Value.bool _
  rw [← Paired.length r1, ← Paired.length r2, p1.len, p2.len, all_rs]; rfl
end
section
variable {X : Cx} {T : List TQ} {B : Bs} {ρ ρ1 : Sl} {W : List Addr} {a b : Expr} {pos : Pos} {κ : Type} [DecidableEq κ] {E : KEn κ} {k1 k2 : List (κ × D)}
theorem dh_two {K : PySem.W.Frag} {H : Hp} {x y : V} (r1 : Rp K H x (dD E k1)) (r2 : Rp K H y (dD E k2)) : ∃ m1 u1 m2 u2, x = .ref m1 ∧ y = .ref m2 ∧ Rd H m1 u1 ∧ Rd H m2 u2 ∧ DH K H E u1 k1 ∧ DH K H E u2 k2 := by
  obtain ⟨m1, u1, o1, e1, h1, q1⟩ := dh_rp r1
  obtain ⟨m2, u2, o2, e2, h2, q2⟩ := dh_rp r2
  exact ⟨m1, u1, m2, u2, e1, e2, .inr ⟨o1, h1⟩, .inr ⟨o2, h2⟩, q1, q2⟩
/-- d1 == d2, d1 != d2: dicts that are data, keys tuples -/
theorem tx_eqT (hu : X.A.units + 66 < cLine) (h : R2 X T B ρ a b W ρ1 (dD E k1) (dD E k2)) (f1 : ∀ q ∈ k1, fine q.2 = true) (f2 : ∀ q ∈ k2, fine q.2 = true) (hf : E.fl = false := by rfl) : TX X T B ρ (.Compare a [.Eq] [b] pos) W ρ1 (eqDD k1 k2) :=
  tx_cmp (op_eqT (E := E) hu hf f1 f2) h (nomark _) fun x y H Q r1 r2 q => by
    obtain ⟨m1, u1, m2, u2, h⟩ := dh_two r1 r2
    exact ⟨m1, u1, m2, u2, h.1, h.2.1, h.2.2.1, h.2.2.2.1, h.2.2.2.2.1, h.2.2.2.2.2, by rw [Bool.false_xor]; exact q⟩
theorem tx_neT (hu : X.A.units + 66 < cLine) (h : R2 X T B ρ a b W ρ1 (dD E k1) (dD E k2)) (f1 : ∀ q ∈ k1, fine q.2 = true) (f2 : ∀ q ∈ k2, fine q.2 = true) (hf : E.fl = false := by rfl) : TX X T B ρ (.Compare a [.NotEq] [b] pos) W ρ1 (!eqDD k1 k2) :=
  tx_cmp (op_neT (E := E) hu hf f1 f2) h (nomark _) fun x y H Q r1 r2 q => by
    obtain ⟨m1, u1, m2, u2, h⟩ := dh_two r1 r2
    exact ⟨m1, u1, m2, u2, h.1, h.2.1, h.2.2.1, h.2.2.2.1, h.2.2.2.2.1, h.2.2.2.2.2, by rw [Bool.true_xor]; exact q⟩
end
end Dv

set_option maxRecDepth 100000
namespace PySem
open Sem (wp)
set_option maxHeartbeats 1000000 in
theorem meets_enumOf {v : Value} {o : Obj} {H : Heap → Prop} (B : Begins v o H) :
    Meets (Builtin.«enumerate.__new__» ⟨[.type "enumerate", v], []⟩) (fun _ R s => H s.heap ∧
      R (.ok (.ret (.ref (s.heap.push o).objs.size))) { s with heap := (s.heap.push o).push { cls := .type "enumerate", data := .fields #[.none, .bool false, .ref s.heap.objs.size, rawInt 0, .none, .none] } }) :=
  .of_wp fun prog w A R s h => by
    obtain ⟨hp, g, d, tk, os⟩ := s; obtain ⟨h1, h⟩ := h
    have hsub := sub_enumerate
    have q1 : ∀ {A' : Around} {E : Value → Shared → Prop} {Q : Value → Shared → Prop}, Q (.ref hp.objs.size) ⟨hp.push o, g, d, tk, os⟩ → wpAny (model prog w) A' (pyIter v) Q E ⟨hp, g, d, tk, os⟩ := fun q => B.iter prog w _ _ ⟨hp, g, d, tk, os⟩ _ h1 q
    wp_walk using q1
    refine wpAny_stack_any fun st => wpAny_pure ?_
    split
    · rename_i c _ _ _ _ _
      cases (c == Value.type "enumerate") <;> (wp_walk using q1; exact ⟨_, rfl, h⟩)
    · wp_walk using q1; exact ⟨_, rfl, h⟩
end PySem
namespace Dv
open PySem PySem.Spec PyProof.Rows L2
/-! ## enumerate(tuple) -/
section
variable {prog : Program} {w : World} {A : Around} {E : Value → Shared → Prop} {s : Shared}
theorem call_enumOf {v : Value} {o : Obj} {H : Heap → Prop} {Q : Value → Shared → Prop} (B : Begins v o H) (h1 : H s.heap)
    (h : ∀ h', IsEnum h' (s.heap.objs.size + 1) s.heap.objs.size 0 .none → h'.get? s.heap.objs.size = some o → (∀ b o, s.heap.get? b = some o → h'.get? b = some o) → Q (.ref (s.heap.objs.size + 1)) { s with heap := h' }) :
    wpAny (model prog w) A (call (.type "enumerate") [v]) Q E s := by
  refine callType_new PySem.F.called_enumerate (by decide) (PySem.F.typeCall_enumerate_1 _) (PySem.F.newCall_enumerate_1 _) (fun obj => PySem.F.args_object_init_2 obj _) PySem.F.entry_enumerate_new (meets_enumOf B) ⟨h1, ?_⟩
  have hz : (s.heap.push o).objs.size = s.heap.objs.size + 1 := Heap.size_push ..
  show _ ∧ _
  rw [hz]
  have he : IsEnum ((s.heap.push o).push { cls := .type "enumerate", data := .fields #[.none, .bool false, .ref s.heap.objs.size, rawInt 0, .none, .none] }) (s.heap.objs.size + 1) s.heap.objs.size 0 .none := by
    have := Heap.get?_push_size (s.heap.push o) (o := { cls := .type "enumerate", data := .fields #[.none, .bool false, .ref s.heap.objs.size, rawInt 0, .none, .none] }) rfl
    rw [hz] at this; exact this
  exact ⟨⟨_, he, rfl⟩, h _ he (Heap.get?_push_of_some _ (Heap.get?_push_size _ B.free)) fun b o x => Heap.get?_push_of_some _ (Heap.get?_push_of_some _ x)⟩
end
def Itet (K : PySem.W.Frag) (a : Addr) : It :=
  ⟨fun i H => ∃ (xs : List V) (x : V), SqT K H a xs ∧ xs[i]? = some x, fun i H v H' => ∃ T x, v = .ref T ∧ H T = none ∧ H' = upd H T (.tup [.int (i : Nat), x]) ∧ ∀ xs, SqT K H a xs → xs[i]? = some x, fun i H => ∃ xs : List V, SqT K H a xs ∧ xs.length ≤ i⟩
theorem Draws.tupleAt {prog : Program} {w : World} {A : Around} (hh : A.handled = none) (it t : Addr) (hne : t ≠ it) (items : Array Value) (n : Nat) (hn : items.size ≤ n) :
    Draws prog w A it [it, t] n (fun i v => items[i]? = some v) (fun i h => h.IsTupleIter it t i ∧ h.IsTuple t items ∧ n ≤ i) where
  live := fun _ _ st => let ⟨o, ho, _⟩ := st.1; ⟨o, ho⟩
  frame := fun _ _ _ st hk => ⟨st.1.at fun o e => hk it (by simp) o e, st.2.1.at fun o e => hk t (by simp) o e, st.2.2⟩
  item := fun i s Q E hi st hQ => absurd hi (Nat.not_lt.mpr st.2.2)
  done := fun s Q E st hE => wpAny_nextOf_tuple_end hh st.1 st.2.1 (by simp; omega) hE
theorem turn_enumT {P : Program} {w : World} {K : PySem.W.Frag} {elts : List Expr} {kk : Nat} {tpos : Pos} (a e it : Addr) (hai : a ≠ it) :
    Turn P w K (.Tuple elts kk tpos) (Itet K a) [e, it] e (fun i h => (∃ old, IsEnum h e it ((i : Nat) : Int) old) ∧ h.IsTupleIter it a i ∧ e ≠ it ∧ a ≠ e) where
  mem := by simp
  obj := fun i h st b hb => by
    obtain ⟨⟨old, he⟩, ⟨o, ho, hc, hd⟩, _⟩ := st
    rcases (by simpa using hb : b = e ∨ b = it) with rfl | rfl
    · exact ⟨_, he, fun v q => nomatch q⟩
    · exact ⟨o, ho, fun v q => by rw [hd] at q; cases q⟩
  keep := fun i h h' st k => let ⟨⟨old, he⟩, hi, hne⟩ := st; ⟨⟨old, k e (by simp) _ he⟩, hi.at fun o q => k it (by simp) o q, hne⟩
  item := by
    intro X hP hw hK hc i pins s σ H E I hf st hg
    subst hP hw hK
    obtain ⟨⟨old, he⟩, hit, hne, hae⟩ := st
    obtain ⟨xs, x, hq, hx⟩ := hg
    obtain ⟨its, rv, p, hz⟩ := I.tuple hq
    obtain ⟨u, hu, ru⟩ := rv.get hx
    have hel : e < s.heap.objs.size := Heap.lt_size he
    have hil : it < s.heap.objs.size := by obtain ⟨_, q, _⟩ := hit; exact Heap.lt_size q
    have hea : e ∉ [it, a] := by simp; exact ⟨hne, fun z => hae z.symm⟩
    refine wpAny_pyNext_enum_itemC (Draws.tuple (A := X.A.in1) (I.ok.hd hc) it a hai its.toArray) he ⟨hit, p⟩ (by rw [List.size_toArray]; exact (List.getElem?_eq_some_iff.mp hu).1) hne hea fun u' g tk hP ho hst hT hsz hk => ?_
    have eu : u' = u := by
      have hP : its.toArray[i]? = some u' := hP
      rw [List.getElem?_toArray, hu] at hP
      exact (Option.some.inj hP).symm
    subst eu
    refine ⟨_, rfl, wpAny_letOwnedTupleGo_enum (s := { s with heap := g, toks := tk + 1 }) ho fun g2 he' sb => ?_⟩
    have hT2 : g2.get? s.heap.objs.size = some { cls := .type "tuple", data := .seq #[.int i tk, u'] } := (sb.2 _ (Nat.ne_of_gt hel)).trans hT
    have new : ObjOk X.prog X.w (upd H s.heap.objs.size (.tup [.int (i : Nat), x])) g2 s.heap.objs.size (.tup [.int (i : Nat), x]) := ⟨by show 2 ≤ sizeLine; decide, [.int i tk, u'], .cons ⟨_, rfl⟩ (.cons ru .nil), ⟨_, hT2, rfl, _, rfl⟩⟩
    have I1 : L2.Inv X pins σ (upd H s.heap.objs.size (.tup [.int (i : Nat), x])) { s with heap := g2, toks := tk + 1 } :=
      I.turnedNew (ch := [e, it]) (fun b ob hb q => (sb.2 b (fun z => hb (by simp [z]))).trans (hk b ob (fun z => hb (by simp [z])) (fun z => hb (by simp [z])) q)) hf (Nat.le_refl _) new
    refine ⟨.ref s.heap.objs.size, _, I1, rfl, ⟨_, x, rfl, I.hok.fresh (Nat.le_refl _), rfl, fun ys hy => by rw [I.tuple_inj hy hq]; exact hx⟩, ⟨⟨u', ?_⟩, hst.1.at fun o q => (sb.2 it (Ne.symm hne)).trans q, hne, hae⟩, fun b hb => ?_⟩
    · rw [show ((i + 1 : Nat) : Int) = (i : Int) + 1 by omega]; exact he'
    · have hb' : b < s.heap.objs.size := by
        rcases (by simpa using hb : b = e ∨ b = it) with rfl | rfl
        · exact hel
        · exact hil
      rw [upd_ne (Nat.ne_of_lt hb')]
      exact (hf b hb).1
  done := by
    intro X hP hw hK hc i pins s σ H E I hf st hg
    subst hP hw hK
    obtain ⟨⟨old, he⟩, hit, hne, hae⟩ := st
    obtain ⟨xs, hq, hx⟩ := hg
    obtain ⟨its, rv, p, hz⟩ := I.tuple hq
    obtain ⟨f0, f1, f2, f3, f4, f5⟩ := hf it (by simp)
    have hl := rv.length
    refine wpAny_pyNext_enum_endD (Dv.Draws.tupleAt (A := X.A.in1) (I.ok.hd hc) it a hai its.toArray i (by simp; omega)) he ⟨hit, p, Nat.le_refl _⟩ fun h' eb => ⟨rfl, I.turned (t' := s.toks) (fun b o hb q => eb b o hb q) f0 f1 f3 f4 f5⟩
  self := fun A i s Q E st h => let ⟨⟨_, he⟩, _⟩ := st; wpAny_pyIter_enum he h
def iEnumT (K : PySem.W.Frag) (ta : TA) : TI := fun σ H R => ta σ H fun vs H1 => ∃ a xs, vs = [.ref a] ∧ SqT K H1 a xs ∧ R (Itet K a) H1
theorem pi_enumT {X : Cx} {e : Expr} {ta : TA} {p pos tpos : Pos} {elts : List Expr} {kk : Nat} (hg : Gl X "enumerate") (hm : X.mg "enumerate" = none) (ha : PA X [e] ta) (hs : starEach [e] X.env = [(false, eval e X.env)] := by rfl) :
    PI X (.Tuple elts kk tpos) (.Call (.Name "enumerate" p) [e] [] pos) (iEnumT X.K ta) := by
  refine ⟨fun pins s σ H R I h => ?_⟩
  refine Call_ (ld_blt I hg hm boot_enumerate (PyProof.Rows.callWith_type1 (thn (ha.run pos pins s σ H _ I h) fun us s1 ⟨vs, H1, I1, r1, q1⟩ => ?_) hs rfl))
  obtain ⟨a, xs, ex, hq, q⟩ := q1
  subst ex
  cases r1 with
  | cons r rr =>
    cases rr
    cases r
    obtain ⟨its, rv, p', hz⟩ := I1.tuple hq
    have hal : a < s1.heap.objs.size := by obtain ⟨o, ho, _⟩ := id p'; exact Heap.lt_size ho
    refine call_enumOf (begins_tuple a its.toArray) p' fun h' he hit hk => wpAny_pyIter_enum he ?_
    have I2 : L2.Inv X pins σ H1 { s1 with heap := h' } := I1.kept (t' := s1.toks) hk
    refine ⟨s1.heap.objs.size + 1, [s1.heap.objs.size + 1, s1.heap.objs.size], _, _, H1, rfl, I2, turn_enumT a (s1.heap.objs.size + 1) s1.heap.objs.size (Nat.ne_of_lt hal), ⟨⟨.none, he⟩, ⟨_, hit, rfl, rfl⟩, Nat.succ_ne_self _, Nat.ne_of_lt (Nat.lt_succ_of_lt hal)⟩, fun b hb => ?_, q⟩
    have hle : s1.heap.objs.size ≤ b := by
      rcases (by simpa using hb : b = s1.heap.objs.size + 1 ∨ b = s1.heap.objs.size) with z | z
      · rw [z]; exact Nat.le_add_right _ _
      · rw [z]; exact Nat.le_refl _
    exact I1.fpOk hle (I1.hok.fresh hle)
section
variable {X : Cx} {T : List TQ} {B : Bs} {ρ ρ1 : Sl} {W : List Addr} {e : Expr} {d : D} {ds : List D} {p pos tpos : Pos}
def enumD (ds : List D) : List D := ds.zipIdx.map fun q => .tuple [iD q.2, q.1]
/-- for i, x in enumerate(t), t a tuple of either kind -/
theorem ix_enumT {elts : List Expr} {kk : Nat} (hg : Gl X "enumerate") (hm : X.mg "enumerate" = none) (h : EX X T B ρ e W ρ1 d) (hd : TupD d ds) (hs : starEach [e] X.env = (false, eval e X.env) :: starEach [] X.env := by rfl) : IX X T B ρ (.Tuple elts kk tpos) (.Call (.Name "enumerate" p) [e] [] pos) W ρ1 (enumD ds) := ⟨⟨_, pi_enumT hg hm (pa_cons h.run pa_nil hs) hs, fun σ H R S q => ⟨S, fun v H' S' f rp => by
  have key : ∃ a xs, v = .ref a ∧ (∀ {O' : List Addr} {H2 : Hp}, Kp (msk (B.all ρ1) H') (msk O' H2) → SqT X.K H2 a xs) ∧ RpA X.K (msk (B.all ρ1) H') xs ds := by
    rcases hd with rfl | rfl
    · cases rp with
      | tup h1 h2 => exact ⟨_, _, rfl, fun k => (Kp.ofmsk _ _).sqT (k.tt h1), h2⟩
    · cases rp with
      | ptup h1 h2 => exact ⟨_, _, rfl, fun k => ((h1.mono k).mono fun _ _ _ z => (msk_some z).2).sq, h2⟩
  obtain ⟨a, xs, rfl, hq, hr⟩ := key
  have hl := hr.length
  have le : (enumD ds).length = ds.length := by unfold enumD; rw [List.length_map, List.length_zipIdx]
  refine ⟨a, xs, rfl, hq (Kp.refl _), q _ H' S' f ⟨fun i O' H2 k hi => ⟨xs, xs[i]'(by omega), hq k, List.getElem?_eq_getElem _⟩, fun i O' H2 k hi => ⟨xs, hq k, by omega⟩, fun i O' H2 v H3 k hO hi y => ?_⟩⟩
  obtain ⟨T', x, rfl, hT, rfl, hx⟩ := y
  obtain ⟨d', h1, h2⟩ := hr.get (hx xs (hq k))
  have nT : T' ∉ O' := fun z => by
    obtain ⟨o, e, _⟩ := hO T' z
    rw [hT] at e; cases e
  refine ⟨.inr ⟨T', _, hT, rfl⟩, .tuple [iD i, d'], ?_, .tup (xs := [.int (i : Nat), x]) (by show msk _ _ T' = _; rw [msk_out nT, upd_same]) (.cons (.int _) (.cons ((h2.mono k).mono (kp_new hT)) .nil))⟩
  unfold enumD
  rw [List.getElem?_map, List.getElem?_zipIdx, h1]
  simp⟩⟩, h.own, h.sub⟩
end
end Dv

set_option maxRecDepth 100000
namespace Dv
open PySem PySem.Spec PyProof.Rows L2
section
variable {X : Cx} {T : List TQ} {B : Bs} {ρ ρ1 ρ2 ρ3 : Sl} {W W1 W2 W3 : List Addr} {a b c e : Expr} {d : D} {pos p px : Pos} {k : DE} {r : List Stmt} {x : Str}
/-- dict(a plain tuple of pairs), keys texts, each once -/
theorem en_dictP {kvs : List (Str × D)} (hc : X.calm = true) (hu : X.A.units + 8 < cLine) (hg : Gl X "dict") (hm : X.mg "dict" = none) (ha : EX X T B ρ a W ρ1 (.ptup (kvs.map fun q => .tuple [.str q.1, q.2]))) (hn : (kvs.map (·.1)).Nodup) (he : starEach [a] X.env = (false, eval a X.env) :: starEach [] X.env := by rfl) :
    EN X T B ρ (.Call (.Name "dict" p) [a] [] pos) W ρ1 (.dict (kvD kvs)) := by
  have z := en_dictQ (E := eS) (kvs := kvs) (pos := pos) (p := p) hc hu hg hm ha he
  rw [mergeE_nd hn] at z
  exact z
/-- any dict of pairs, keys each once -/
theorem en_dictLn {κ : Type} [DecidableEq κ] {E : KEn κ} {kvs : List (κ × D)} (hc : X.calm = true) (hu : X.A.units + 8 < cLine) (hg : Gl X "dict") (hm : X.mg "dict" = none) (ha : EL X T B ρ a W ρ1 (kvs.map fun q => .tuple [E.d q.1, q.2])) (hn : (kvs.map (·.1)).Nodup) (he : starEach [a] X.env = (false, eval a X.env) :: starEach [] X.env := by rfl) :
    EN X T B ρ (.Call (.Name "dict" p) [a] [] pos) W ρ1 (dD E kvs) := by
  have z := en_dictL (E := E) (kvs := kvs) (pos := pos) (p := p) hc hu hg hm ha he
  rw [mergeE_nd hn] at z
  exact z
theorem en_dictQn {κ : Type} [DecidableEq κ] {E : KEn κ} {kvs : List (κ × D)} (hc : X.calm = true) (hu : X.A.units + 8 < cLine) (hg : Gl X "dict") (hm : X.mg "dict" = none) (ha : EX X T B ρ a W ρ1 (.ptup (kvs.map fun q => .tuple [E.d q.1, q.2]))) (hn : (kvs.map (·.1)).Nodup) (he : starEach [a] X.env = (false, eval a X.env) :: starEach [] X.env := by rfl) :
    EN X T B ρ (.Call (.Name "dict" p) [a] [] pos) W ρ1 (dD E kvs) := by
  have z := en_dictQ (E := E) (kvs := kvs) (pos := pos) (p := p) hc hu hg hm ha he
  rw [mergeE_nd hn] at z
  exact z
end
end Dv

set_option maxRecDepth 100000
namespace Dv
open PySem PySem.Spec PyProof.Rows L2
section
variable {X : Cx} {T : List TQ} {B : Bs} {ρ ρ1 ρ2 ρ3 : Sl} {W W1 W2 W3 : List Addr} {a b c e : Expr} {d dk dv : D} {pos p px : Pos} {keys : List (Option Expr)} {values : List Expr} {ds : List (D × D)}
theorem EO.to {ds es : List D} (h : EO X T B ρ e W ρ1 ds) (q : ds = es) : EO X T B ρ e W ρ1 es := q ▸ h
theorem IX.to {tg : Expr} {ds es : List D} (h : IX X T B ρ tg e W ρ1 ds) (q : ds = es) : IX X T B ρ tg e W ρ1 es := q ▸ h
/-- x = [e for .. if ..], x a local -/
theorem sx_setLcM {elt tg iter : Expr} {ifs : List Expr} {scope : Scope} {α : Type} {y : Str} {py spos : Pos} {k : DE} {r : List Stmt} (i : Nat) (qs : List α) (en : α → D) (g : α → Option D) (own : List (Str × Nat)) (hc : X.calm = true) (hN : X.N.Nodup)
    (hi : IX X T B ρ tg iter W ρ1 (qs.map en)) (ok : BlkOk X.N X.env.scope scope own) (hlen : qs.length ≤ sizeLine) (hno : noOwn ρ1 (own.map (·.2)) = true)
    (hb : ∀ q, q ∈ qs → ∀ B', ∃ ρb, owns ρb = owns ρ1 ∧ (∀ s H C cl fp, GX (Bk X scope s H C cl fp) T B' (wipeD ρ1 (own.map (·.2))) tg (own.map (·.2)) (en q) ρb) ∧ (∀ s H C cl fp, TXs (Bk X scope s H C cl fp) T B' ρb ifs [] ρb (g q).isSome) ∧
      (∀ y, g q = some y → ∃ ρc, owns ρc = owns ρ1 ∧ (∀ s H C cl fp, EX (Bk X scope s H C cl fp) T B' ρb elt [] ρc y) ∧ Fg ρc (wipeD ρ1 (own.map (·.2)))) ∧ (g q = none → Fg ρb (wipeD ρ1 (own.map (·.2)))))
    (hr : SXs X T B (ρ1.set i (.dat (.list (qs.filterMap g)))) r k) (hy : X.N[i]? = some y := by rfl) (hyl : X.env.scope.names.lookup y = some .local := by rfl) (hl : i < ρ1.length := by exact Nat.le_of_ble_eq_true rfl)
    (hsw : swapsWith (.ListComp elt [⟨tg, iter, ifs, 0⟩] scope pos) (some (.Name y py)) spos.line X.env = pure true := by rfl) (hs : ∀ x, foldedSetIterable iter X.env x = pure x := by intro _; rfl) :
    SXs X T B ρ (.Assign [.Name y py] (.ListComp elt [⟨tg, iter, ifs, 0⟩] scope pos) spos :: r) k := by
  refine sx_setLc (Wc := []) (fun _ : Unit => ρ1) () (fun _ q => ((), g q)) en hc hN hy hyl hsw hi ok hlen (fun _ => Sh.refl _) hno (fun a h => by cases h) (fun s q hq => ⟨fun B' => ?_⟩) hl ?_ hs
  · obtain ⟨ρb, h1, h2, h3, h4, h5⟩ := hb q hq B'
    refine ⟨ρb, [], ρb, h1, h1, (fun a h => by cases h), h2, h3, fun y hy => ?_, h5⟩
    obtain ⟨ρc, k1, k2, k3⟩ := h4 y hy
    exact ⟨[], ρc, (fun a h => by cases h), k1, k2, k3⟩
  · rw [lcF_pure]; exact hr
/-- the pairs of a display -/
inductive RpP (K : PySem.W.Frag) (H : Hp) : List (V × V) → List (D × D) → Prop
  | nil : RpP K H [] []
  | cons {x y : V} {r : List (V × V)} {dx dy : D} {s : List (D × D)} : Rp K H x dx → Rp K H y dy → RpP K H r s → RpP K H ((x, y) :: r) ((dx, dy) :: s)
/-- some reading of the expression -/
def anyE (X : Cx) (T : List TQ) (e : Expr) : TE := fun σ H Q => ∃ B ρ W ρ' d, EX X T B ρ e W ρ' d ∧ TD X.K T B ρ W ρ' d σ H Q
theorem pe_anyE : PE X a (anyE X T a) := ⟨fun pins s σ H Q I ⟨B, ρ, W, ρ', d, h, z⟩ => h.run.run pins s σ H Q I z⟩
def trsA (X : Cx) (T : List TQ) : List (Option Expr) → List Expr → List (TE × TE)
  | some k :: ks, v :: vs => (anyE X T k, anyE X T v) :: trsA X T ks vs
  | _, _ => []
structure DP (X : Cx) (T : List TQ) (B : Bs) (ρ : Sl) (pos : Pos) (keys : List (Option Expr)) (values : List Expr) (W : List Addr) (ρ' : Sl) (ds : List (D × D)) : Prop where
  pp : PPs X pos keys values (trsA X T keys values)
  run : ∀ σ H Q, Sim X.K T B ρ σ H → (∀ ps H', Sim X.K T B ρ' σ H' → Fx W H H' → RpP X.K (msk (B.all ρ') H') ps ds → Q ps H') → tPairs (trsA X T keys values) σ H Q
  own : owns ρ' = owns ρ
  sub : ∀ a ∈ W, a ∈ owns ρ
  all : keys.all (·.isSome) = true
  len : keys.length = values.length ∧ keys.length = ds.length
theorem dp_nil : DP X T B ρ pos [] [] [] ρ [] := ⟨pps_nil, fun σ H Q S q => q [] H S (Fx.refl _ _) .nil, rfl, sub_nil, rfl, rfl, rfl⟩
theorem dp_cons (hk : EX X T B ρ a W1 ρ1 dk) (hv : EX X T B ρ1 b W2 ρ2 dv) (r : DP X T B ρ2 pos keys values W3 ρ3 ds) : DP X T B ρ pos (some a :: keys) (b :: values) (W1 ++ (W2 ++ W3)) ρ3 ((dk, dv) :: ds) := by
  refine ⟨pps_cons pe_anyE pe_anyE r.pp, fun σ H Q S q => ⟨_, _, _, _, _, hk, S, fun x H1 S1 f1 r1 => ⟨_, _, _, _, _, hv, S1, fun y H2 S2 f2 r2 => r.run σ H2 _ S2 fun ps H3 S3 f3 r3 => ?_⟩⟩, r.own.trans (hv.own.trans hk.own), sub_app hk.sub hk.own (sub_app hv.sub hv.own r.sub), ?_, ?_⟩
  · have c1 := carry hv f2 r1
    have kk : Kp (msk (B.all ρ2) H2) (msk (B.all ρ3) H3) := by
      rw [all_of r.own]
      exact f3.kp fun a z => List.mem_append_right _ (r.sub a z)
    exact q _ H3 S3 (f1.trans (f2.trans f3)) (.cons (c1.mono kk) (r2.mono kk) r3)
  · simp [r.all]
  · simp [r.len.1, ← r.len.2]
theorem rpP_flat {K : PySem.W.Frag} {H : Hp} {κ : Type} {E : KEn κ} (hf : E.fl = true) : ∀ {kvs : List (κ × D)} {ps : List (V × V)}, RpP K H ps (prs E kvs) → ∃ kk : List (Key × V), ps = kk.map (fun kv => (kV kv.1, kv.2)) ∧ PB K H E.fk kk kvs
  | [], _, h => by
    generalize hL : prs E ([] : List (κ × D)) = L at h
    cases h with
    | nil => exact ⟨[], rfl, .nil⟩
    | cons _ _ _ => cases hL
  | q :: kvs, _, h => by
    have h : RpP K H _ ((E.d q.1, q.2) :: prs E kvs) := h
    generalize hL : (E.d q.1, q.2) :: prs E kvs = L at h
    cases h with
    | nil => cases hL
    | cons h1 h2 h3 =>
      obtain ⟨e1, e2⟩ := List.cons.inj hL
      have ek := congrArg Prod.fst e1
      have ed := congrArg Prod.snd e1
      dsimp only at ek ed
      subst ed e2 ek
      obtain ⟨kk, g1, g2⟩ := rpP_flat hf h3
      have hx := key_flat hf h1
      exact ⟨(E.fk q.1, _) :: kk, by rw [List.map_cons, ← g1, hx], .cons ⟨rfl, h2⟩ g2⟩
theorem sim_outN {K : PySem.W.Frag} {T : List TQ} {B : Bs} {ρ : Sl} {σ : L2.St} {H : Hp} {a : Addr} {o u : HO} (S : Sim K T B ρ σ H) (ha : a ∈ B.out) (h0 : B.H0 a = none) (hu : H a = some u) (nu : mutb u = true) (no : mutb o = true) : Sim K T B ρ σ (upd H a o) := by
  have hm : a ∈ B.all ρ := List.mem_append_left _ ha
  refine ⟨S.len, fun i s e => ?_, S.nodup, S.disj, fun b z => ?_, fun b p np w e => ?_, S.fresh, fun P z => TQs.old hu nu (S.tabs P z), fun b z => ?_⟩
  · rw [msk_upd hm]
    refine (S.at_ i s e).mono (Kp.refl _) fun b d es ob nob z => ?_
    subst es
    rw [upd_ne (fun y => S.disj b (mem_owns.mpr ⟨i, d, e⟩) (by rw [y]; exact ha))]
    exact z
  · by_cases q : b = a
    · rw [q]; exact ⟨o, upd_same, no⟩
    · rw [upd_ne q]; exact S.outs b z
  · rw [upd_ne (ne_of_none e h0)]; exact S.frame b p np w e
  · by_cases q : b = a
    · rw [q, upd_same]; exact fun y => by cases y
    · rw [upd_ne q]; exact S.dom b z
/-- {k: v, ..}, keys flat -/
theorem en_disp {κ : Type} [DecidableEq κ] (E : KEn κ) (kvs : List (κ × D)) (h : ∀ B', DP X T B' ρ pos keys values W ρ1 (prs E kvs)) (h0 : keys ≠ [] := by exact fun z => by cases z) (h15 : keys.length ≤ 15 := by decide) (hf : E.fl = true := by rfl) : EN X T B ρ (.Dict keys values pos) W ρ1 (dD E (mergeE [] kvs)) := by
  have hh := h B
  refine ⟨PE.imp (pe_disp hh.pp hh.all hh.len.1 h0 h15) fun σ H Q ⟨S, q⟩ => fun np nn => ?_, hh.own, hh.sub⟩
  · refine (h (B.add np)).run σ _ _ (sim_add S nn rfl) fun ps H' S' f r => ?_
    have nW : np ∉ W := fun z => S.free nn (List.mem_append_right _ (hh.sub np z))
    obtain ⟨kk, r1, r2⟩ := rpP_flat hf r
    have hnp : H' np = some (.dK []) := f np _ rfl nW upd_same
    have f0 : Fx W H (upd H' np (.dK (mergeK [] kk))) := fun a o no w e => by
      have ne := ne_of_none e nn
      rw [upd_ne ne]
      exact f a o no w (by rw [upd_ne ne]; exact e)
    have nO : np ∉ B.all ρ1 := by rw [all_of hh.own]; exact S.free nn
    have z0 : B.H0 np = none := free_H0 S nn
    refine ⟨hnp, kk, r1, ?_, ?_⟩
    · have := r2.len
      have := hh.len.2
      rw [prs_len] at this
      omega
    · have S2 := sim_outN S' (a := np) (o := .dK (mergeK [] kk)) List.mem_cons_self z0 hnp rfl rfl
      have r3 : PB X.K (msk (np :: B.all ρ1) (upd H' np (.dK (mergeK [] kk)))) E.fk (mergeK [] kk) (mergeE [] kvs) := by
        rw [msk_upd List.mem_cons_self]
        exact pb_merge (E.hk hf).2 r2 .nil
      exact q np _ _ (fun _ => fun o no w e => by rw [nn] at e; cases e) z0 S2 f0 upd_same rfl nO (hold_dh upd_same (.inl ⟨hf, _, rfl, r3⟩))
end
section
variable {X : Cx} {T : List TQ} {ρ1 ρw ρb ρc ρd : Sl} {scope : Scope} {kx vx tg : Expr} {ifs : List Expr} {vs : List Nat} {dq y : D} {κ : Type} {E : KEn κ} {kk : κ} {g : Option (κ × D)}
/-- a turn of a dict comprehension that gives -/
theorem tDs (hg : g = some (kk, y)) (h1 : ∀ B' s H C cl fp, GX (Bk X scope s H C cl fp) T B' (wipeD ρ1 vs) tg vs dq ρb) (h2 : ∀ B' s H C cl fp, TXs (Bk X scope s H C cl fp) T B' ρb ifs [] ρb true)
    (h3 : ∀ B' s H C cl fp, EX (Bk X scope s H C cl fp) T B' ρb kx [] ρc (E.d kk)) (h4 : ∀ B' s H C cl fp, EX (Bk X scope s H C cl fp) T B' ρc vx [] ρd y) (h5 : Fg ρd (wipeD ρ1 vs)) (o1 : owns ρb = owns ρ1 := by rfl) (o2 : owns ρc = owns ρ1 := by rfl) (o3 : owns ρd = owns ρ1 := by rfl) :
    TurnD X T E scope kx vx tg ifs vs ρ1 dq g := fun B' => by
  subst hg
  exact ⟨ρb, o1, h1 B', h2 B', fun k y' e => by cases e; exact ⟨ρc, ρd, o2, o3, h3 B', h4 B', h5⟩, fun e => by cases e⟩
/-- a turn by its test -/
theorem tDi {c : Bool} (hg : g = if c = true then some (kk, y) else none) (h1 : ∀ B' s H C cl fp, GX (Bk X scope s H C cl fp) T B' (wipeD ρ1 vs) tg vs dq ρb) (h2 : ∀ B' s H C cl fp, TXs (Bk X scope s H C cl fp) T B' ρb ifs [] ρb c)
    (h3 : c = true → ∀ B' s H C cl fp, EX (Bk X scope s H C cl fp) T B' ρb kx [] ρc (E.d kk)) (h4 : c = true → ∀ B' s H C cl fp, EX (Bk X scope s H C cl fp) T B' ρc vx [] ρd y) (h5 : Fg ρd (wipeD ρ1 vs)) (h6 : Fg ρb (wipeD ρ1 vs)) (o1 : owns ρb = owns ρ1 := by rfl) (o2 : owns ρc = owns ρ1 := by rfl) (o3 : owns ρd = owns ρ1 := by rfl) :
    TurnD X T E scope kx vx tg ifs vs ρ1 dq g := fun B' => by
  subst hg
  cases c with
  | true => exact ⟨ρb, o1, h1 B', h2 B', fun k y' e => by cases e; exact ⟨ρc, ρd, o2, o3, h3 rfl B', h4 rfl B', h5⟩, fun e => by cases e⟩
  | false => exact ⟨ρb, o1, h1 B', h2 B', (fun k y' e => by cases e), fun _ => h6⟩
end
section
variable {X : Cx} {T : List TQ} {B : Bs} {ρ ρ1 : Sl} {W : List Addr} {e : Expr} {pos : Pos} {x : Str} {k : DE} {r : List Stmt}
/-- short: x += e, ints -/
theorem au (i : Nat) {pos' : Pos} {m n : Int} (hN : X.N.Nodup) (h0 : ρ[i]? = some (.dat (.int m))) (he : EX X T B ρ e W ρ1 (.int n)) (hr : SXs X T B (ρ1.set i (.dat (.int (m + n)))) r k) (hi : X.N[i]? = some x := by rfl) (hx : Loc X.env.scope x := by first | exact Or.inl rfl | exact Or.inr rfl) (hl : i < ρ1.length := by exact Nat.le_of_ble_eq_true rfl)
    (hf : X.fn x = true ∨ X.env.scope.names.lookup x = some .local := by first | exact .inl rfl | exact .inr rfl) : SXs X T B ρ (.AugAssign (.Name x pos') .Add e pos :: r) k := sx_aug hN hi hx h0 he hl hr fun h => ps_aug hN hi hx h ip_add hf
end
end Dv

set_option maxRecDepth 100000
namespace Dv
open PySem PySem.Spec PyProof.Rows L2
section
variable {X : Cx} {T : List TQ} {B : Bs} {ρ ρ1 ρ2 ρ3 : Sl} {W W1 W2 W3 : List Addr} {a b c e : Expr} {d dk dv d2 : D} {pos p px : Pos} {k : DE} {r : List Stmt}
/-- a new thing, over some reading -/
def anyN (X : Cx) (T : List TQ) (e : Expr) : TE := fun σ H Q => ∃ B ρ W ρ' d, EN X T B ρ e W ρ' d ∧ Sim X.K T B ρ σ H ∧ ∀ p o H', (isDict d = true → Nw W H p) → B.H0 p = none → Sim X.K T (B.add p) ρ' σ H' → Fx W H H' → H' p = some o → mutb o = true → p ∉ B.all ρ' → Hold X.K H' (msk (p :: B.all ρ') H') p d → Q (.ref p) H'
theorem pe_anyN : PE X a (anyN X T a) := ⟨fun pins s σ H Q I ⟨B, ρ, W, ρ', d, h, z⟩ => h.run.run pins s σ H Q I z⟩
/-- x, y = [], a new thing -/
theorem parLN (i j : Nat) {x y : Str} {px py pt : Pos} {kt k2 pt2} (hc : X.calm = true) (hN : X.N.Nodup) (ha : EO X T B ρ a W1 ρ1 []) (hb : ∀ B', EN X T B' ρ1 b W2 ρ2 d2) (hr : ∀ p q, SXs X T B ((ρ2.set i (.own p (.list []))).set j (.own q d2)) r k)
    (hi : X.N[i]? = some x := by rfl) (hj : X.N[j]? = some y := by rfl) (hij : i ≠ j := by decide) (hx : X.env.scope.names.lookup x = some .local := by rfl) (hy : X.env.scope.names.lookup y = some .local := by rfl)
    (hl1 : i < ρ2.length := by exact Nat.le_of_ble_eq_true rfl) (hl2 : j < ρ2.length := by exact Nat.le_of_ble_eq_true rfl)
    (hw : swappedStores [.Tuple [.Name x px, .Name y py] kt pt] (.Tuple [a, b] k2 pt2) X.env = pure (some [x, y]) := by rfl)
    (hs : swapsWithSole [.Tuple [.Name x px, .Name y py] kt pt] (.Tuple [a, b] k2 pt2) pos.line X.env = pure false := by rfl)
    (he : starEach [a, b] X.env = (false, eval a X.env) :: starEach [b] X.env := by rfl) (he2 : starEach [b] X.env = (false, eval b X.env) :: starEach [] X.env := by rfl) :
    SXs X T B ρ (.Assign [.Tuple [.Name x px, .Name y py] kt pt] (.Tuple [a, b] k2 pt2) pos :: r) k := by
  refine PSs.imp (pss_cons (ps_par hc hN hi hj hij hx hy (pa_cons ha.run (pa_cons (pe_anyN (T := T)) pa_nil he2) he) hw hs) (ps_any (T := T) (B := B))) fun E σ H ⟨S, q⟩ => ⟨S, fun p xs H1 h0 S1 f1 h1 h2 h3 => ⟨B.add p, ρ1, W2, ρ2, d2, hb (B.add p), S1, fun p2 o H2 hd g0 S2 f2 g1 gm g2 g3 => ⟨.ref p, .ref p2, rfl, ?_⟩⟩⟩
  have ho := (hb B).own
  have e0 : xs = [] := by cases h3; rfl
  have np : p ∉ W2 := fun z => h2 (List.mem_append_right _ ((hb B).sub p z))
  have e1 : H2 p = some (.lst xs) := f2 p _ rfl np h1
  have S3 := sim_ownN (i := j) S2 g0 g1 g2 g3 hl2
  have hne : p ∉ B.all (ρ2.set j (.own p2 d2)) := fun z => by
    have := S3.disj
    rcases List.mem_append.mp z with z | z
    · exact h2 (List.mem_append_left _ z)
    · exact this p z List.mem_cons_self
  have S4 := sim_ownN (i := i) S3 h0 e1 hne (d := .list []) ⟨xs, e1, by rw [e0]; exact .nil⟩ (by rw [List.length_set]; exact hl1)
  rw [List.set_comm _ _ (Ne.symm hij), List.set_comm _ _ (Ne.symm hij)] at S4
  exact ⟨_, k, hr p p2, S4, q⟩
end
end Dv

set_option maxRecDepth 100000
/-! lists walked where an exception is handled -/
namespace Dv
open PySem PySem.Spec PyProof.Rows L2 L2H HotX
section
variable {prog : Program} {w : World} {A : Around} {E : Value → Shared → Prop} {s : Shared}
/-- the end of a list's iterator, an exception being handled -/
theorem next_list_hot {x1 j : Addr} {m : Nat} {its} {la : Addr} {R : Option Value → Shared → Prop} (hot : HotAt A x1 s.heap) (st : s.heap.IsListIter j la m) (hl : s.heap.IsList la its) (no : its[m]? = none)
    (q : ∀ h', Heap.ExtBut j s.heap h' → R none { s with heap := h' }) : wpAny (model prog w) A (pyNext (.ref j)) R E s := by
  obtain ⟨oj, gj, cj, dj⟩ := id st
  obtain ⟨ol, gl, _, nl, dl⟩ := hl
  obtain ⟨hh, ox, vx, gx, dx, cx⟩ := hot
  have hne : x1 ≠ j := fun e => by
    rw [e, gj] at gx
    have e2 := Option.some.inj gx
    rw [← e2, dj] at dx
    have e3 := Data.fields.inj dx
    rw [← e3] at cx
    cases cx
  unfold pyNext
  refine wpAny_bind (wpAny_attempt (wpAny_callSpecial?_slot (name := Str.ofString "__next__") st.typeIs slot_listiter_next (wpAny_call_entry slot_listiter_next st.typeIs entry_listiter_next ?_ (args_listiter_next _))))
  show wpAny _ _ (field (.ref j) 0 >>= _) _ _ s
  refine wpAny_bind (wpAny_field gj dj (x := .ref la) rfl ?_)
  show wpAny _ _ (if (Value.ref la == Value.none) = true then _ else _) _ _ s
  rw [if_neg (show ¬ ((Value.ref la == Value.none) = true) from Bool.false_ne_true)]
  show wpAny _ _ (field (.ref j) 1 >>= _) _ _ s
  refine wpAny_bind (wpAny_field gj dj (x := .int m 0) rfl ?_)
  show wpAny _ _ (seqItems? (.ref la) >>= _) _ _ s
  refine wpAny_bind (wpAny_seqItems gl dl ?_)
  simp only [Int.toNat_natCast, no]
  refine wpAny_bind (wpAny_rule (wpAny_bind (wpAny_setField gj dj (by simp) ?_)))
  show wpAny _ _ (newExc (.type "StopIteration") [] >>= _) _ _ _
  refine wpAny_bind ?_
  simp only [newExc, newTuple]
  refine wpAny_bind (wpAny_newObj_type ?_ (by size_fits))
  refine wpAny_bind (m := firstArgMember _ _) (wpAny_of_eq (a := Value.none) (by first | rfl | (simp only [firstArgMember]; rfl)) ?_)
  refine wpAny_newObj_type ?_ (by size_fits)
  have g1 := (Heap.get?_update_other s.heap (Obj.mapFields (·.setIfInBounds 0 Value.none)) (Ne.symm hne)).trans gx
  refine raiseNew_hot ⟨hh, ox, vx, Heap.get?_push_of_some _ (Heap.get?_push_of_some _ g1), dx, cx⟩ (Nat.ne_of_lt (Heap.lt_size (Heap.get?_push_of_some _ g1))) (Heap.get?_push_size _ rfl) rfl (by first | (simp; done) | (simp; omega) | (simp only [Array.size_append]; simp; omega)) ?_
  refine wpAny_bind (wpAny_isInstance (T := "StopIteration") (b := true) ⟨_, Heap.get?_update_self _ (Heap.get?_push_size _ rfl) rfl, rfl⟩ isSubtype_stop ?_)
  refine wpAny_pure (q _ fun b o nb e => ?_)
  have g2 := (Heap.get?_update_other s.heap (Obj.mapFields (·.setIfInBounds 0 Value.none)) (Ne.symm nb)).trans e
  rw [Heap.get?_update_other _ _ (Nat.ne_of_gt (Heap.lt_size (Heap.get?_push_of_some _ g2)))]
  exact Heap.get?_push_of_some _ (Heap.get?_push_of_some _ g2)
end
/-- as TurnH, the handled exception told by the heap -/
structure TurnK (P : Program) (w : World) (K : PySem.W.Frag) (tg : Expr) (J : It) (fp : List Addr) (j : Addr) (tn : Nat → Heap → Prop) : Prop where
  obj : ∀ i h, tn i h → ∀ b ∈ fp, ∃ o, h.get? b = some o ∧ ∀ v, o.data ≠ .cell v
  keep : ∀ i h h', tn i h → (∀ b ∈ fp, ∀ o, h.get? b = some o → h'.get? b = some o) → tn i h'
  item : ∀ (Y : Cx), Y.prog = P → Y.w = w → Y.K = K → ∀ (i : Nat) (pins : List (Addr × Obj)) (s : Shared) (σ : L2.St) (H : Hp) (E : Value → Shared → Prop), Inv Y pins σ H s → (∀ b ∈ fp, FpOk Y pins H b) → tn i s.heap → J.go i H →
    wpAny (model P w) Y.A (pyNext (.ref j)) (fun r s1 => ∃ u, r = some u ∧ wpAny (model P w) Y.A (letOwnedTupleGo tg (.ref j) u) (fun _ s2 => ∃ x H', Inv Y pins σ H' s2 ∧ RelV x u ∧ J.yld i H x H' ∧ tn (i + 1) s2.heap ∧ ∀ b ∈ fp, H' b = none) E s1) E s
  done : ∀ (Y : Cx), Y.prog = P → Y.w = w → Y.K = K → ∀ (i : Nat) (pins : List (Addr × Obj)) (s : Shared) (σ : L2.St) (H : Hp) (E : Value → Shared → Prop), (∃ x1, HotAt Y.A x1 s.heap) → Inv Y pins σ H s → (∀ b ∈ fp, FpOk Y pins H b) → tn i s.heap → J.stop i H →
    wpAny (model P w) Y.A (pyNext (.ref j)) (fun r s1 => r = none ∧ Inv Y pins σ H s1) E s
  self : ∀ (A : Around) (i : Nat) (s : Shared) (Q : Value → Shared → Prop) (E : Value → Shared → Prop), tn i s.heap → Q (.ref j) s → wpAny (model P w) A (pyIter (.ref j)) Q E s
theorem turn_listK {P : Program} {w : World} {K : PySem.W.Frag} {tg : Expr} (a j : Addr) : TurnK P w K tg (Itl K a) [j] j (fun i h => h.IsListIter j a i) where
  obj := (turn_list (P := P) (w := w) (K := K) (tg := tg) a j).obj
  keep := (turn_list (P := P) (w := w) (K := K) (tg := tg) a j).keep
  item := by
    intro X e1 e2 e3 i pins s σ H E I fp st go
    subst e1 e2 e3
    obtain ⟨xs, x, sq, at_⟩ := go
    obtain ⟨us, rv, ls, _⟩ := I.list sq
    obtain ⟨u, hu, ru⟩ := rv.get at_
    obtain ⟨n0, n1, n2, n3, n4, n5⟩ := fp j (by simp)
    refine wpAny_pyNext_list_item st ls.isList (x := u) (by simpa using hu) fun h2 st2 sb => ?_
    have I2 : Inv X pins σ H { s with heap := h2 } := I.turned (t' := s.toks) (fun b o nb g => (sb.2 b nb).trans g) n0 n1 n3 n4 n5
    obtain ⟨oj, gj, cj, dj⟩ := id st2
    exact ⟨u, rfl, go_of (s := { s with heap := h2 }) gj cj dj (by decide) ⟨x, H, I2, ru, ⟨rfl, fun ys hy => by rw [I.list_inj hy sq]; exact at_⟩, st2, fun b hb => (fp b hb).1⟩⟩
  done := by
    intro X e1 e2 e3 i pins s σ H E hc I fp st stop
    subst e1 e2 e3
    obtain ⟨xs, sq, hx⟩ := stop
    obtain ⟨us, rv, ls, _⟩ := I.list sq
    obtain ⟨n0, n1, n2, n3, n4, n5⟩ := fp j (by simp)
    obtain ⟨x1, hot⟩ := hc
    have hl := rv.length
    exact next_list_hot hot st ls.isList (by simp; omega) fun h2 eb => ⟨rfl, I.turned (t' := s.toks) (fun b o nb g => eb b o nb g) n0 n1 n3 n4 n5⟩
  self := (turn_list (P := P) (w := w) (K := K) (tg := tg) a j).self
def PIEK (X : Cx) (pins : List (Addr × Obj)) (σ : L2.St) (tg : Expr) (R : It → Hp → Prop) (itv : Value) (s2 : Shared) : Prop :=
  ∃ (j : Addr) (fp : List Addr) (tn : Nat → Heap → Prop) (J : It) (H' : Hp), itv = .ref j ∧ Inv X pins σ H' s2 ∧ TurnK X.prog X.w X.K tg J fp j tn ∧ tn 0 s2.heap ∧ (∀ b ∈ fp, FpOk X pins H' b) ∧ R J H'
structure PIK (X : Cx) (tg iter : Expr) (wi : TI) : Prop where
  run : ∀ (pins : List (Addr × Obj)) (s : Shared) (σ : L2.St) (H : Hp) (R : It → Hp → Prop), Inv X pins σ H s → wi σ H R → wpAny (model X.prog X.w) X.A (eval iter X.env) (fun v s1 => wpAny (model X.prog X.w) X.A (pyIter v) (PIEK X pins σ tg R) X.xe s1) X.xe s
theorem pi_listK {X : Cx} {tg l : Expr} {tl : TE} (hl : PE X l tl) : PIK X tg l (iList X.K tl) := by
  refine ⟨fun pins s σ H R I h => thn (hl.run pins s σ H _ I h) fun v s1 ⟨x, H1, I1, r1, q1⟩ => ?_⟩
  obtain ⟨a, rfl, ⟨xs, sq⟩, q⟩ := q1
  cases r1
  obtain ⟨us, rv, ls, _⟩ := I1.list sq
  refine wpAny_pyIter_list ls.isList ⟨s1.heap.objs.size, [s1.heap.objs.size], _, _, H1, rfl, I1.kept (t' := s1.toks) fun b o g => Heap.get?_push_of_some _ g, turn_listK a _, ⟨_, Heap.get?_push_size _ rfl, rfl, rfl⟩, fun b hb => ?_, q⟩
  obtain rfl : b = s1.heap.objs.size := by simpa using hb
  exact I1.fpOk (Nat.le_refl _) (I1.hok.fresh (Nat.le_refl _))
end Dv

set_option maxRecDepth 100000
/-! a list comprehension where an exception is handled -/
namespace Dv
open PySem PySem.Spec PyProof.Rows L2 L2H HotX
theorem lc_hot {X : Cx} {pins : List (Addr × Obj)} {s : Shared} {σ : L2.St} {H : Hp} {Q : VK} {elt tg iter : Expr} {ifs : List Expr} {scope : Scope} {own : List (Str × Nat)} {pos pos2 : Pos} {wi : TI} {g : TG} {tt : TT} {te : TE} {use : Option (Value → Sem Unit)} {Qf : Value → Shared → Prop}
    (hot : HotC X) (nd : X.N.Nodup) (I : Inv X pins σ H s) (hi : PIK X tg iter wi) (ok : BlkOk X.N X.env.scope scope own)
    (pg' : ∀ (s : Shared) (H : Hp) (C : Addr) (cl : List (Str × Addr)) (fp : List Addr), PG (X.blk s H scope (compEnvC scope cl C X.env) fp) tg g)
    (pt' : ∀ (s : Shared) (H : Hp) (C : Addr) (cl : List (Str × Addr)) (fp : List Addr), PTs (X.blk s H scope (compEnvC scope cl C X.env) fp) ifs tt)
    (pe' : ∀ (s : Shared) (H : Hp) (C : Addr) (cl : List (Str × Addr)) (fp : List Addr), PE (X.blk s H scope (compEnvC scope cl C X.env) fp) elt te)
    (hs : ∀ x, foldedSetIterable iter X.env x = pure x) (h : tLc wi g tt te (own.map (·.2)) σ H Q)
    (back : ∀ D C s' m H', Inv X pins σ H' s' → Q (.ref D) H' → s'.heap.Ns C m → FpOk X pins H' C → compPost (model X.prog X.w) X.A X.xe use Qf (.ref D) C (.ok .next) s') :
    wpAny (model X.prog X.w) X.A (comprehension (.ListComp elt [⟨tg, iter, ifs, 0⟩] scope pos) scope X.env pos2 (newList []) false (eval iter X.env) use) Qf X.xe s := by
  have fr : ∀ y ∈ scope.names, y.2 = .free → ∃ c, X.env.cells.lookup y.1 = some c := fun y hy e => (ok.free y hy e).elim (fun k => I.ok.has _ (.inl k)) (fun k => I.ok.has _ (.inr k))
  refine wpAny_comprehension_free (use := use) rfl hs (closure_ok fr) ok.kind (fun y hy e => by rw [ok.uniq y hy, e]) (thn (hi.run pins s σ H _ I h) fun xv s1 hx => thn hx fun jv s2 h2 => ?_)
  obtain ⟨j, fp, tn, J, H2, rfl, I2, TK, at0, fpo, q⟩ := h2
  refine wpAny_newObj_type (newEnv_comp ?_) (show 0 ≤ sizeLine by decide)
  generalize eD : s2.heap.objs.size = D
  have noD : H2 D = none := I2.hok.fresh (Nat.le_of_eq eD)
  obtain ⟨W, ⟨m0, w0⟩, turn⟩ := q D noD
  generalize e3 : ({ s2 with heap := s2.heap.push { cls := .type "list", data := .seq ([] : List Value).toArray } } : Shared) = s3
  have hp3 : s3.heap = s2.heap.push { cls := .type "list", data := .seq ([] : List Value).toArray } := by rw [← e3]
  have I3 : Inv X pins σ (upd H2 D (.lst [])) s3 := by
    rw [← e3]
    exact I2.laid (t' := s2.toks) (fun b o e => Heap.get?_push_of_some _ e) (Nat.le_of_eq eD) ⟨Nat.zero_le _, [], 0, .nil, by rw [← eD]; exact Heap.get?_push_size _ rfl⟩
  have fo3 : ∀ b ∈ fp, FpOk X pins (upd H2 D (.lst [])) b ∧ b < s3.heap.objs.size := fun b hb => by
    obtain ⟨o, e, _⟩ := TK.obj _ _ at0 b hb
    have lt := Heap.lt_size e
    exact ⟨⟨by rw [upd_ne (by rw [← eD]; exact Nat.ne_of_lt lt)]; exact (fpo b hb).1, (fpo b hb).2⟩, by rw [hp3, Heap.size_push]; exact Nat.lt_succ_of_lt lt⟩
  have at3 : tn 0 s3.heap := TK.keep _ _ _ at0 fun b _ o e => by rw [hp3]; exact Heap.get?_push_of_some _ e
  -- the handled exception stands still through the loop
  obtain ⟨px, ⟨hh, vx, dx, cx⟩, hpx⟩ := hot
  obtain ⟨gx, nx, lx, fx, _⟩ := I3.pin px (List.mem_append_left _ hpx)
  have exf : px.1 ∉ fp := fun z => (fo3 px.1 z).1.2.2.2.2.2 px (List.mem_append_left _ hpx) rfl
  have I4 := block_start I3 ok nd fo3
  generalize upd H2 D (.lst []) = H3 at I3 I4 w0 fo3 nx
  have pg := pg' s3 H3 s3.heap.objs.size (cellsFrom (s3.heap.objs.size + 1) scope.names (cloFrom X.env.cells scope.names [])) fp
  have pt := pt' s3 H3 s3.heap.objs.size (cellsFrom (s3.heap.objs.size + 1) scope.names (cloFrom X.env.cells scope.names [])) fp
  have pe := pe' s3 H3 s3.heap.objs.size (cellsFrom (s3.heap.objs.size + 1) scope.names (cloFrom X.env.cells scope.names [])) fp
  show codeAny _ _ (.compStart (.ListComp elt [⟨tg, iter, ifs, 0⟩] scope pos) 0 (.ref j) (.ref D) (compEnvC scope (cellsFrom (s3.heap.objs.size + 1) scope.names (cloFrom X.env.cells scope.names [])) s3.heap.objs.size X.env)) (compPost (model X.prog X.w) X.A X.xe use Qf (.ref D) s3.heap.objs.size) { s3 with heap := pushCells (s3.heap.push { cls := .type "dict", data := .dict #[] }) scope.names }
  generalize ec : compEnvC scope (cellsFrom (s3.heap.objs.size + 1) scope.names (cloFrom X.env.cells scope.names [])) s3.heap.objs.size X.env = ce at I4 pg pt pe ⊢
  have eL : ce.locals = s3.heap.objs.size := by rw [← ec]; rfl
  generalize e4 : ({ s3 with heap := pushCells (s3.heap.push { cls := .type "dict", data := .dict #[] }) scope.names } : Shared) = s4 at I4 ⊢
  have at4 : tn 0 s4.heap := TK.keep _ _ _ at3 fun b _ o e => by rw [← e4]; exact pushCells_keeps _ _ _ _ (Heap.get?_push_of_some _ e)
  have still : ∀ {σ' : L2.St} {H' : Hp} {s' : Shared}, Inv (X.blk s3 H3 scope ce fp) [] σ' H' s' → (∀ b ∈ fp, H' b = none) → ∀ b ∈ fp, FpOk (X.blk s3 H3 scope ce fp) [] H' b := fun {σ' H' s'} J' no b hb =>
    ⟨no b hb, (J'.ok.exf b hb).1, J'.ok.exfs b hb, .inl hb, fun x c e => (J'.ok.exf b hb).2 x c e, fun p hp => absurd (show p ∈ ([] : List (Addr × Obj)) ++ [] from hp) (by simp)⟩
  have warm : ∀ {σ' : L2.St} {H' : Hp} {s' : Shared}, Inv (X.blk s3 H3 scope ce fp) [] σ' H' s' → ∃ x1, HotAt X.A x1 s'.heap := fun {σ' H' s'} J' => by
    refine ⟨px.1, hh, px.2, vx, ?_, dx, cx⟩
    exact J'.base.keep px.1 px.2 gx nx (fun z => (List.mem_cons.mp (I3.stkSub px.1 z)).elim lx fx) exf
  have loop : codeAny (model X.prog X.w) X.A (.compLoop (.ListComp elt [⟨tg, iter, ifs, 0⟩] scope pos) 0 (.ref j) (.ref D) ce) (compPost (model X.prog X.w) X.A X.xe use Qf (.ref D) s3.heap.objs.size) s4 := by
    refine compLoop_any (fun n s' => ∃ i H', Inv (X.blk s3 H3 scope ce fp) [] (wipe σ (own.map (·.2))) H' s' ∧ tn i s'.heap ∧ (∀ b ∈ fp, H' b = none) ∧ W i n H') ?_ m0 ⟨0, H3, I4, at4, fun b hb => (fo3 b hb).1.1, w0⟩
    rintro n s5 ⟨i, H5, I5, at5, no5, w5⟩
    rcases turn i n H5 w5 with ⟨stop, fin⟩ | ⟨go, Nx, less, step⟩
    · refine thnF (TK.done (X.blk s3 H3 scope ce fp) rfl rfl rfl i [] s5 _ H5 (fun _ _ => False) (warm I5) I5 (still I5 no5) at5 stop) fun r s6 ⟨er, I6⟩ => ?_
      subst er
      have I7 : Inv X pins σ H5 s6 := I3.call' (ch := fp) I6.os I6.base I6.hok I6.bare fun b hb => ⟨(fo3 b hb).1.2.2.2.1, (fo3 b hb).1.2.1, (fo3 b hb).1.2.2.2.2.1, (fo3 b hb).1.2.2.2.2.2⟩
      obtain ⟨m, hn, _⟩ := I6.loc
      have hn : s6.heap.Ns ce.locals m := hn
      have nC : H5 ce.locals = none := I6.free
      rw [eL] at hn nC
      exact back D _ s6 m H5 I7 fin hn (I3.fpOk (Nat.le_refl _) nC)
    · refine thnF (TK.item (X.blk s3 H3 scope ce fp) rfl rfl rfl i [] s5 _ H5 (fun _ _ => False) I5 (still I5 no5) at5 go) fun r s6 ⟨u, er, h6⟩ => ?_
      subst er
      refine thnF h6 fun _ s7 ⟨x, H7, I7, r7, y7, at7, no7⟩ => ?_
      refine thnF (pg.run _ s7 _ H7 x u _ (I7.pinned (still I7 no7) (TK.obj _ _ at7)) r7 (step x H7 y7)) fun _ s8 ⟨σ8, H8, I8, hw8, q8⟩ => ?_
      refine thnF (pt.run _ s8 σ8 H8 _ I8 q8) fun b s9 ⟨H9, I9, q9⟩ => ?_
      have next : ∀ {s' : Shared} {H' : Hp}, Inv (X.blk s3 H3 scope ce fp) ([] ++ pinsAt fp s7.heap) σ8 H' s' → Nx H' → ∃ m, m < n ∧ ∃ i H', Inv (X.blk s3 H3 scope ce fp) [] (wipe σ (own.map (·.2))) H' s' ∧ tn i s'.heap ∧ (∀ b ∈ fp, H' b = none) ∧ W i m H' := fun {s' H'} I' nx' => by
        obtain ⟨m', hm, w'⟩ := less H' nx'
        have pn : ∀ b ∈ fp, ∀ o, s7.heap.get? b = some o → s'.heap.get? b = some o ∧ H' b = none := fun b hb o e => ⟨(I'.pin (b, o) (List.mem_append_right _ (List.mem_append_right _ (mem_pinsAt hb e)))).1, (I'.pin (b, o) (List.mem_append_right _ (List.mem_append_right _ (mem_pinsAt hb e)))).2.1⟩
        refine ⟨m', hm, i + 1, H', (I'.unpinned (pins := [])).weak (by rw [← hw8, wipe_length]) (fun k v e => ?_), TK.keep _ _ _ at7 fun b hb o e => (pn b hb o e).1, fun b hb => ?_, w'⟩
        · rw [← hw8] at e; exact (wipe_some e).1
        · obtain ⟨o, e, _⟩ := TK.obj _ _ at7 b hb
          exact (pn b hb o e).2
      cases b with
      | false =>
        simp only [Bool.false_eq_true, if_false] at q9 ⊢
        exact next I9 q9
      | true =>
        simp only [if_true] at q9 ⊢
        exact thnF (pe.run _ s9 σ8 H9 _ I9 q9) fun z s10 ⟨yv, H10, I10, r10, acc, hD, hz, nx'⟩ => app_ok (X := X.blk s3 H3 scope ce fp) I10 hD hz r10 fun s11 I11 => next I11 nx'
  exact codeAny_compStart_list loop (TK.self X.A 0 _ _ _ at4 loop)
theorem pe_lcK {X : Cx} {elt tg iter : Expr} {ifs : List Expr} {scope : Scope} {own : List (Str × Nat)} {pos : Pos} {wi : TI} {g : TG} {tt : TT} {te : TE} (hot : HotC X) (nd : X.N.Nodup) (hi : PIK X tg iter wi) (ok : BlkOk X.N X.env.scope scope own)
    (pg' : ∀ (s : Shared) (H : Hp) (C : Addr) (cl : List (Str × Addr)) (fp : List Addr), PG (X.blk s H scope (compEnvC scope cl C X.env) fp) tg g)
    (pt' : ∀ (s : Shared) (H : Hp) (C : Addr) (cl : List (Str × Addr)) (fp : List Addr), PTs (X.blk s H scope (compEnvC scope cl C X.env) fp) ifs tt)
    (pe' : ∀ (s : Shared) (H : Hp) (C : Addr) (cl : List (Str × Addr)) (fp : List Addr), PE (X.blk s H scope (compEnvC scope cl C X.env) fp) elt te) (hs : ∀ x, foldedSetIterable iter X.env x = pure x := by intro _; rfl) :
    PE X (.ListComp elt [⟨tg, iter, ifs, 0⟩] scope pos) (tLc wi g tt te (own.map (·.2))) := by
  refine ⟨fun pins s σ H Q I h => ?_⟩
  rw [eval_ListComp]
  refine lc_hot hot nd I hi ok pg' pt' pe' hs h fun D C s' m H' I' q hn f => ⟨m, hn, fun h2 sb => ?_⟩
  obtain ⟨f0, f1, f2, f3, f4, f5⟩ := f
  exact ⟨.ref D, H', I'.turned (t' := s'.toks) (fun b o nb e => (sb.2 b nb).trans e) f0 f1 f3 f4 f5, rfl, q⟩
end Dv

set_option maxRecDepth 100000
/-! a def that is handed the exception that is handled -/
namespace Dv
open PySem PySem.Spec PyProof.Rows L2 L2H HotX
/-- the promise of such a def; Pp: what the exception is -/
structure FnP (P : Program) (w : World) (K : PySem.W.Frag) (mg : Str → Option Value) (base : Heap) (k : Nat) (f : Addr) (fd : FuncData) (ps : List Str) (Pp : Addr × Obj → Prop) (sp : Addr → Sp) : Prop where
  len : ∀ a vs H Q E, sp a vs H Q E → vs.length = ps.length
  run : ∀ (A : Around) (outer : List Env) (s : Shared) (H : Hp) (args : PySem.Args) (us : List Value) (vs : List V) (Q : VK) (E : XK) (p : Addr × Obj), RoomH k A → Hot1 A p → PinOk outer H s p → Pp p → Env0 P w K mg base A outer s H → BindsTo s fd args (ps.zip us) → Vals vs us → sp p.1 vs H Q E →
    codeAny (model P w) A (.call (.ref f) args) (CR CX0 outer P w H s Q E) s
theorem fn_ofP {P : Program} {w : World} {K : PySem.W.Frag} {mg : Str → Option Value} {base : Heap} {k : Nat} {f : Addr} {name qual : Str} {params : Arguments} {body : List Stmt} {scope : Scope} {dV kV doc pm cdv ct oc : Value} {an od : Option Addr} {osl : Array (Option Value)} {N ps : List Str} {Pp : Addr × Obj → Prop} {sp : Addr → Sp}
    (lk : K.lookup f = some ⟨oc, od, .func (PySem.W.fnOf name qual params body scope dV kV doc pm an cdv ct), osl⟩) (hcd : PySem.W.codeIn K cdv qual = true) (S : FnScope N ps scope) (len : ∀ a vs H Q E, sp a vs H Q E → vs.length = ps.length)
    (go : ∀ (A : Around) (outer : List Env) (s : Shared) (H : Hp) (vs : List V) (Q : VK) (E : XK) (p : Addr × Obj), Hot1 A p → Pp p → RoomH k (A.deeper (envOfC qual scope s.heap.objs.size f cdv)) → sp p.1 vs H Q E →
      ∃ t, PSs (cxH CX0 P w K mg base N qual scope f cdv A outer s H E p) body t ∧ t { nx := fun _ H' => Q .non H', rt := Q } (L2.start N vs) H) :
    FnP P w K mg base (k + 1) f (PySem.W.fnOf name qual params body scope dV kV doc pm an cdv ct) ps Pp sp := by
  refine ⟨len, fun A outer s H args us vs Q E p hr hot pok hp e0 bd rv hsp => ?_⟩
  have KX : K.In s.heap := e0.mod.kin.keeps fun b o e => (e0.bs b o e).1
  have nl : s.heap.NoLimit := e0.mod.nolimit.keeps fun b o e => (e0.bs b o e).1
  have kd : ∀ y ∈ ps.zip us, scope.names.lookup y.1 = some .local ∨ (scope.names.lookup y.1 = some .cell ∧ ((cellsFrom (s.heap.objs.size + 1) scope.names []).lookup y.1).isSome = true) := fun y hy =>
    (S.par y.1 (List.of_mem_zip (show (y.1, y.2) ∈ ps.zip us from hy)).1).elim .inl fun q => .inr ⟨q, PySem.W.cellsFrom_some _ _ _ (.inl q)⟩
  refine codeAny_call_function hr.depth (KX _ _ lk) rfl S.co S.gen rfl (PySem.W.codeRec_of KX hcd) (bd _ _ _ _ (wpAny_newFunctionEnv_cells S.kind kd fun env he s1 x => ?_))
  subst he
  refine ⟨nl.keeps x.toInCall.keep, codeAny_func ?_⟩
  obtain ⟨t, ht, hq⟩ := go A outer s H vs Q E p hot hp (hr.deeper _) hsp
  have I : Inv (cxH CX0 P w K mg base N qual scope f cdv A outer s H E p) [] (L2.start N vs) H s1 := inv_startH S pok e0 (len _ _ _ _ _ hsp) rv x
  refine wpAny_mono (ht.run [] s1 (L2.start N vs) H _ I hq) (fun fl s' z => ?_) fun e s' z => z
  cases fl with
  | ret u =>
    obtain ⟨v, σ', H', J, rv', q⟩ := z
    exact ⟨v, H', J.os, J.bare, J.base, J.hok, rv', q⟩
  | next =>
    obtain ⟨σ', H', J, q⟩ := z
    exact ⟨V.non, H', J.os, J.bare, J.base, J.hok, rfl, q⟩
  | brk => exact z.elim fun _ z => z.elim fun _ z => z.2.elim
  | cont => exact z.elim fun _ z => z.elim fun _ z => z.2.elim
section
variable {X : Cx} {k : Nat} {f : Addr} {fd : FuncData} {ps : List Str} {Pp : Addr × Obj → Prop} {sp : Addr → Sp} {x : Str} {q pos : Pos} {e : Expr} {es : List Expr} {t : TA} {p : Addr × Obj}
/-- f(e, ..), called where the exception p is handled -/
theorem pe_callP (F : FnP X.prog X.w X.K X.mg X.base k f fd ps Pp sp) (hr : RoomH k X.A) (hot : Hot1 X.A p) (hp : p ∈ X.pn) (h1 : Pp p) (hg : Gl X x) (hm : X.mg x = some (.ref f)) (hk : PySem.W.keepIn X.K (.ref f) = true) (hb : Binds X.K fd ps [])
    (ha : PA X (e :: es) t) (hdb : (x == ("__debug__" : Str)) = false := by decide) (he : starEach (e :: es) X.env = (false, eval e X.env) :: starEach es X.env := by rfl) (hpl : (backTo pos (starEach es X.env)).any (·.1) = false := by rfl) :
    PE X (.Call (.Name x q) (e :: es) [] pos) (tCallS (sp p.1) (fun _ _ _ _ => False) t) := by
  refine ⟨fun pins s σ H Q I h => ?_⟩
  refine wpAny_Call_Name_kw (ld_glob I hg hm ?_ hdb)
  refine PySem.W.callWith_K (h₀ := X.base) I.ok.mod.kin hk (thn (ha.run pos pins s σ H _ I h) fun us s1 ⟨vs, H1, I1, r, z⟩ => ⟨I1.kIn, ?_⟩) he hpl
  have P1 := I1.pin p (List.mem_append_left _ hp)
  have b := hb s1 us I1.kIn (by rw [List.append_nil, ← r.length]; exact F.len _ _ _ _ _ z)
  rw [List.append_nil] at b
  refine wpAny_call (codeAny_mono (F.run X.A X.stack s1 H1 ⟨us, []⟩ us vs Q _ p hr hot ⟨P1.1, P1.2.1, fun hm => (List.mem_cons.mp (I1.stkSub p.1 hm)).elim P1.2.2.1 P1.2.2.2.1, P1.2.2.2.2⟩ h1 I1.env0 b r z) fun r' s' hq => ?_)
  cases r' with
  | error e => exact False.elim hq
  | ok fl =>
    cases fl with
    | ret u => exact I1.after hq
    | next => exact False.elim hq
    | brk => exact False.elim hq
    | cont => exact False.elim hq
end
/-- isinstance(e, c) of the exception that is pinned -/
theorem call_isP {X : Cx} {D : Addr} {p : Addr × Obj} (C : ExcC X.K D) (hp : p ∈ X.pn) (hz : Zc (.ref D) none p.2) (hf : ∃ vs, p.2.data = .fields vs) : CallR X (.builtin "isinstance") (rIsE X.K D p.1) := by
  intro pins s σ H xs us Q I r ⟨c, cv, b, ex, hcv, hkit, q⟩
  subst ex
  cases r with
  | cons ra rr =>
    cases rr with
    | cons rc rr =>
      cases rr
      cases ra
      obtain rfl := hcv _ rc
      obtain ⟨g1, _⟩ := I.pin p (List.mem_append_left _ hp)
      obtain ⟨vs, hv⟩ := hf
      have J : PySem.W.InstAt s.heap p.1 p.2 D none := by
        obtain ⟨pa, oc, od, oda, osl⟩ := p
        obtain ⟨z1, z2⟩ := hz
        dsimp only at z1 z2 hv g1 ⊢
        subst z1 z2 hv
        exact ⟨g1, rfl, rfl, trivial⟩
      exact PySem.W.kia_one (PySem.W.handS_kitx_exc C.hg C.hk C.hs C.hd C.ha C.hn C.ht C.hm) I.kIn J hkit (fun z => nomatch z) fun tk => ⟨.bl b, H, I.kept (t' := tk) fun _ _ z => z, rfl, q⟩
end Dv

set_option maxRecDepth 100000
/-! data where an exception is handled -/
namespace Dv
open PySem PySem.Spec PyProof.Rows L2 L2H HotX
section
variable {X : Cx} {T : List TQ} {B : Bs} {ρ ρ1 ρ2 : Sl} {W W1 W2 : List Addr} {a b e : Expr} {d : D} {pos apos : Pos}
structure IXK (X : Cx) (T : List TQ) (B : Bs) (ρ : Sl) (tg e : Expr) (W : List Addr) (ρ' : Sl) (ds : List D) : Prop where
  run : ∃ wi, PIK X tg e wi ∧ ∀ σ H R, Sim X.K T B ρ σ H → (∀ J H1, Sim X.K T B ρ' σ H1 → Fx W H H1 → Walked X.K (B.all ρ') ds J H1 → R J H1) → wi σ H R
  own : owns ρ' = owns ρ
  sub : ∀ a ∈ W, a ∈ owns ρ
theorem ix_lK {tg : Expr} {ds : List D} (h : EX X T B ρ e W ρ1 (.list ds)) : IXK X T B ρ tg e W ρ1 ds := ⟨⟨_, pi_listK h.run, fun σ H R S q => ⟨S, fun v H' S' f rp => by
  cases rp with
  | lst h1 h2 => exact ⟨_, rfl, ⟨_, (Kp.ofmsk _ _).sqL h1⟩, q _ H' S' f (walked_list h1 h2)⟩⟩⟩, h.own, h.sub⟩
theorem eo_lcK1 {St α : Type} {elt tg iter : Expr} {ifs : List Expr} {scope : Scope} {qs : List α} {own : List (Str × Nat)} {Wc : List Addr} (ρs : St → Sl) (s0 : St) (step : St → α → St × Option D) (en : α → D) (hot : HotC X) (hN : X.N.Nodup)
    (hi : IXK X T B ρ tg iter W (ρs s0) (qs.map en)) (ok : BlkOk X.N X.env.scope scope own) (hlen : qs.length ≤ sizeLine) (hsh : ∀ s, Sh (ρs s0) (ρs s)) (hno : noOwn (ρs s0) (own.map (·.2)) = true) (hWc : ∀ a ∈ Wc, a ∈ owns (ρs s0))
    (hb : ∀ s d, d ∈ qs → Turn1 X T scope elt tg ifs (own.map (·.2)) Wc (ρs s) (en d) (ρs (step s d).1) (step s d).2) (hs : ∀ x, foldedSetIterable iter X.env x = pure x := by intro _; rfl) :
    EO X T B ρ (.ListComp elt [⟨tg, iter, ifs, 0⟩] scope pos) (W ++ Wc) (ρs (lcF step s0 qs).1) (lcF step s0 qs).2 := by
  obtain ⟨wi, hwi, hw⟩ := hi.run
  refine ⟨PE.imp (pe_lcK hot hN hwi ok (g := gB X T scope tg (own.map (·.2))) (tt := tB' X T scope ifs) (te := eB X T scope elt) ?_ ?_ ?_ hs) fun σ H Q ⟨S, q⟩ => ?_, ((hsh _).owns.trans hi.own), sub_app hi.sub hi.own hWc⟩
  · exact fun s H C cl fp => ⟨fun pins s' σ H v u Q I rr ⟨B, ρ, d, ρ', h, z⟩ => PG.run (h s _ C cl fp) pins s' σ H v u Q I rr z⟩
  · exact fun s H C cl fp => ⟨fun pins s' σ H Q I ⟨B, ρ, W, ρ', k, h, z⟩ => PTs.run (h s _ C cl fp) pins s' σ H Q I z⟩
  · exact fun s H C cl fp => ⟨fun pins s' σ H Q I ⟨B, ρ, W, ρ', d, h, z⟩ => (h s _ C cl fp).run.run pins s' σ H Q I z⟩
  · refine lc_read ρs s0 step en hw hlen hsh hno hWc hb S fun p H' h0 S' f ⟨xs, h1, h2, h3⟩ => q p xs H' h0 S' f h1 ?_ ?_
    · rw [all_of (hsh _).owns]; exact h2
    · rw [all_of (hsh _).owns]; exact h3
theorem eo_lcK {elt tg iter : Expr} {ifs : List Expr} {scope : Scope} {α : Type} (qs : List α) (en : α → D) (g : α → Option D) (own : List (Str × Nat)) (hot : HotC X) (hN : X.N.Nodup)
    (hi : IXK X T B ρ tg iter W ρ1 (qs.map en)) (ok : BlkOk X.N X.env.scope scope own) (hlen : qs.length ≤ sizeLine) (hno : noOwn ρ1 (own.map (·.2)) = true)
    (hb : ∀ q, q ∈ qs → ∀ B', ∃ ρb, owns ρb = owns ρ1 ∧ (∀ s H C cl fp, GX (Bk X scope s H C cl fp) T B' (wipeD ρ1 (own.map (·.2))) tg (own.map (·.2)) (en q) ρb) ∧ (∀ s H C cl fp, TXs (Bk X scope s H C cl fp) T B' ρb ifs [] ρb (g q).isSome) ∧
      (∀ y, g q = some y → ∃ ρc, owns ρc = owns ρ1 ∧ (∀ s H C cl fp, EX (Bk X scope s H C cl fp) T B' ρb elt [] ρc y) ∧ Fg ρc (wipeD ρ1 (own.map (·.2)))) ∧ (g q = none → Fg ρb (wipeD ρ1 (own.map (·.2))))) (hs : ∀ x, foldedSetIterable iter X.env x = pure x := by intro _; rfl) :
    EO X T B ρ (.ListComp elt [⟨tg, iter, ifs, 0⟩] scope pos) W ρ1 (qs.filterMap g) := by
  have z := eo_lcK1 (pos := pos) (Wc := []) (elt := elt) (ifs := ifs) (fun _ : Unit => ρ1) () (fun _ q => ((), g q)) en hot hN hi ok hlen (fun _ => Sh.refl _) hno (fun a h => by cases h) (fun s q hq => ⟨fun B' => by
    obtain ⟨ρb, h1, h2, h3, h4, h5⟩ := hb q hq B'
    refine ⟨ρb, [], ρb, h1, h1, (fun a h => by cases h), h2, h3, fun y hy => ?_, h5⟩
    obtain ⟨ρc, k1, k2, k3⟩ := h4 y hy
    exact ⟨[], ρc, (fun a h => by cases h), k1, k2, k3⟩⟩) hs
  rw [lcF_pure, List.append_nil] at z
  exact z
theorem bools_of {K : PySem.W.Frag} {H : Hp} : ∀ {xs : List V} {bs : List Bool}, RpA K H xs (bs.map .bool) → xs = bs.map .bl
  | [], [], _ => rfl
  | [], _ :: _, h => nomatch h
  | _ :: _, [], h => nomatch h
  | x :: xs, b :: bs, h => by
    cases h with
    | cons h1 h2 => rw [bl_of h1, bools_of h2]; rfl
/-- xs.index(True), xs bools -/
theorem ex_indexB {bs : List Bool} {j : Nat} (ha : EX X T B ρ a W1 ρ1 (.list (bs.map .bool))) (hb : EX X T B ρ1 b W2 ρ2 (.bool true)) (hj : bs[j]? = some true) (hno : ∀ m, m < j → bs[m]? ≠ some true)
    (hp : ∀ {to : TE} {t : TA}, PE X a to → PA X [b] t → PE X (.Call (.Attribute a "index" apos) [b] [] pos) (tBM X.K "list" (rIndex X.K) to t) := by exact fun h g => pe_bm PySem.F.plainAttrs_list PySem.F.slot_list_index PySem.F.type_list_index mt_index h g)
    (he : starEach [b] X.env = (false, eval b X.env) :: starEach [] X.env := by rfl) : EX X T B ρ (.Call (.Attribute a "index" apos) [b] [] pos) (W1 ++ W2) ρ2 (.int (j : Nat)) := by
  refine ⟨PE.imp (hp ha.run (pa_cons hb.run pa_nil he)) fun σ H Q ⟨S, q⟩ => ?_, hb.own.trans ha.own, sub_app ha.sub ha.own hb.sub⟩
  refine ⟨S, fun x H1 S1 f1 r1 => ?_⟩
  have hl : ∃ l xs, x = .ref l ∧ SqL X.K (msk (B.all ρ1) H1) l xs ∧ RpA X.K (msk (B.all ρ1) H1) xs (bs.map .bool) := by
    cases r1 with
    | lst h1 h2 => exact ⟨_, _, rfl, h1, h2⟩
  obtain ⟨l, xs, rfl, h1, h2⟩ := hl
  have hx := bools_of h2
  subst hx
  refine ⟨.inl ⟨rfl, _, (Kp.ofmsk _ _).sqL h1⟩, S1, fun y H2 S2 f2 r2 => ?_⟩
  obtain rfl := bl_of r2
  have kk : Kp (msk (B.all ρ1) H1) (msk (B.all ρ2) H2) := by
    rw [all_of hb.own]
    exact f2.kp fun a z => List.mem_append_right _ (hb.sub a z)
  refine ⟨l, _, _, j, .bl true, rfl, rfl, (Kp.ofmsk _ _).sqL (kk.sqL h1), rfl, ?_, by rw [List.getElem?_map, hj]; rfl, rfl, fun m z hm hz => ?_, q _ H2 S2 (f1.trans f2) (.int _)⟩
  · rw [List.all_map]; exact List.all_eq_true.mpr fun _ _ => rfl
  · rw [List.getElem?_map] at hz
    cases hb' : bs[m]? with
    | none => rw [hb'] at hz; cases hz
    | some c =>
      rw [hb'] at hz
      cases c with
      | true => exact absurd hb' (hno m hm)
      | false => cases hz; rfl
end
end Dv

set_option maxRecDepth 100000
/-! defs that raise, and who catches -/
namespace Dv
open PySem PySem.Spec PyProof.Rows L2 L2H HotX
/-- the promise of a def that raises, its arguments data -/
def PrX (K : PySem.W.Frag) (T : List TQ) (n : Nat) (R : List D → Prop) (cls : Value) : Sp := fun vs H _ E => vs.length = n ∧ ∃ (args : List D) (out : List Addr),
  Args K H (msk out H) (args.map .dat) vs ∧ (∀ a ∈ out, ∃ o, H a = some o ∧ mutb o = true) ∧ (∀ P ∈ T, TQs H P) ∧ R args ∧
  ∀ H', Fx [] H H' → (∀ a, H a ≠ none → H' a ≠ none) → (∀ P ∈ T, TQs H' P) → E cls none H'
section
variable {P : Program} {w : World} {K : PySem.W.Frag} {mg : Str → Option Value} {base : Heap} {x qual : Str} {st : Stmt} {f : Addr} {fd : FuncData} {N ps : List Str} {n : Nat} {T : List TQ}
theorem fn_x (F : Fun K x qual st f fd) (S : FnScope N ps (defScope st)) (R : List D → Prop) (cls : Value)
    (body : ∀ (cdv : Value) (A : Around) (outer : List Env) (s : Shared) (H : Hp) (E : XK) (B : Bs) (args : List D), Room n (A.deeper (envOfC qual (defScope st) s.heap.objs.size f cdv)) → args.length = ps.length → R args → (∀ ρ σ H', Sim K T B ρ σ H' → E cls none H') →
      SXs (cxOf (L2N.CX P w) P w K mg base N qual (defScope st) f cdv A outer s H E) T B (ent N (args.map .dat)) (defBody st) { nx := fun _ => False, rt := fun _ _ => False }) :
    FnOk P w K mg base (L2N.CX P w) (n + 1) f fd ps (PrX K T ps.length R cls) := by
  obtain ⟨oc, od, kV, doc, pm, an, cdv, ct, osl, rfl, lk, hcd⟩ := F.ex
  refine fn_of lk hcd S (fun vs H Q E h => h.1) fun A outer s H vs Q E hr h => ?_
  obtain ⟨hl, args, out, hA, ho, ht, hR, q⟩ := h
  have o0 : owns (args.map Slot.dat) = [] := owns_dats args
  have hA' : Args K H (msk (out ++ owns (args.map Slot.dat)) H) (args.map .dat) vs := by rw [o0, List.append_nil]; exact hA
  have S0 := sim_start (K := K) (T := T) (N := N) hA' (by rw [o0]; exact List.nodup_nil) (by rw [o0]; exact fun a z => by cases z) ho ht
  rw [o0] at S0
  have hb := body cdv A outer s H E ⟨out, [], H⟩ args hr (by have := hA.1; rw [List.length_map] at this; rw [this]; exact hl) hR fun ρ σ H' S' => q H' S'.frame S'.dom S'.tabs
  exact ⟨_, hb, S0, fun _ _ _ z => z.elim, fun _ _ _ _ _ z => z.elim, fun _ _ _ z => z.elim, fun _ _ _ z => z.elim, fun _ _ _ _ _ _ z => z.elim⟩
end
section
variable {X : Cx} {T : List TQ} {B : Bs} {ρ : Sl} {e : Expr} {pos : Pos} {r : List Stmt} {k : DE} {C : Addr} {E : XK}
theorem sx_raise (hc : X.calm = true) (tk : L2N.Takes X (fun cls d _ H => E cls d H)) (he : L2N.PMk X e (fun _ H Q => Q (.ref C) none H)) (hE : ∀ σ H', Sim X.K T B ρ σ H' → E (.ref C) none H') : SXs X T B ρ (.Raise (some e) none pos :: r) k :=
  PSs.imp (pss_cons (L2N.ps_raise hc tk he) (ps_any (T := T) (B := B))) fun D σ H ⟨S, _⟩ => hE σ H S
theorem takesN {X : Cx} : L2N.Takes X (fun _ _ _ _ => False) := fun _ _ x => by
  obtain ⟨_, _, _, _, _, _, _, _, _, _, _, _, _, _, _, _, z⟩ := x
  exact z.elim
end
section
variable {X : Cx} {T : List TQ} {B : Bs} {ρ ρ1 : Sl} {W : List Addr} {f fw D : Addr} {fd fdw : FuncData} {ps : List Str} {x xw xc n : Str} {p1 p2 p3 p4 p5 p6 p7 p8 p9 : Pos} {e : Expr} {es : List Expr} {kk kw i m : Nat} {ds : List Dv.D} {R : List Dv.D → Prop} {k : DE} {r : List Stmt} {c : Value} {Pp : Addr × Obj → Prop} {sp : Addr → Sp} {word : Str}
/-- try: return f(..) / except c as n: return g(n), f raises -/
theorem sx_tryX (F : FnOk X.prog X.w X.K X.mg X.base (L2N.CX X.prog X.w) kk f fd ps (PrX X.K T m R (.ref D))) (hr : Room kk X.A) (hg : Gl X x) (hm : X.mg x = some (.ref f)) (hk : PySem.W.keepIn X.K (.ref f) = true) (hb : Binds X.K fd ps [])
    (ha : ∀ pn xe, AX (X.tr pn xe) T B ρ (e :: es) W ρ1 ds) (hn : ds.length = m) (hR : R ds)
    (G : FnP X.prog X.w X.K X.mg X.base kw fw fdw ["e"] Pp sp) (hrw : RoomH kw X.A) (hgw : Gl X xw) (hmw : X.mg xw = some (.ref fw)) (hkw : PySem.W.keepIn X.K (.ref fw) = true) (hbw : Binds X.K fdw ["e"] [])
    (hPp : ∀ p : Addr × Obj, L2N.Zn (.ref D) none p.2 → (∃ vs, p.2.data = .fields vs) → Pp p)
    (hsp : ∀ a H Q E, (∀ P ∈ T, TQs H P) → (∀ H', Fx [] H H' → (∀ b, H b ≠ none → H' b ≠ none) → (∀ P ∈ T, TQs H' P) → Q (.str word) H') → sp a [.ref a] H Q E)
    (hs : X.stack = X.env :: X.outer) (hf : X.env.frame = some X.env.locals) (hN : X.N.Nodup) (hi : X.N[i]? = some n) (hln : X.env.kindOf n = some .local) (hln2 : X.env.scope.names.lookup n = some .local) (hc : Names X xc c) (hex : PySem.W.exmOne X.K (.ref D) c = some true) (hrt : k.rt (.str word) (ρ1.set i .un)) (hil : i < ρ1.length)
    (hdb : (x == ("__debug__" : Str)) = false := by decide) (he : starEach (e :: es) X.env = (false, eval e X.env) :: starEach es X.env := by rfl) (hpl : (backTo p2 (starEach es X.env)).any (·.1) = false := by rfl)
    (hdw : (xw == ("__debug__" : Str)) = false := by decide) (hnd : (n == ("__debug__" : Str)) = false := by decide) (hnc : (n == ("__classdict__" : Str)) = false := by decide)
    (hew : starEach [.Name n p3] X.env = (false, eval (.Name n p3) X.env) :: starEach [] X.env := by rfl) :
    SXs X T B ρ (.Try [.Return (some (.Call (.Name x p1) (e :: es) [] p2)) p5] [.ExceptHandler (some (.Name xc p6)) (some n) [.Return (some (.Call (.Name xw p4) [.Name n p3] [] p7)) p9] p8] [] [] pos :: r) k := by
  refine PSs.imp (pss_cons (L2N.ps_try_as (i := i) (tb := fun Wx => tRet (tCallS (PrX X.K T m R (.ref D)) (WE Wx) (fun σ H Q => Sim X.K T B ρ σ H ∧ ∀ vs H', Sim X.K T B ρ1 σ H' → Fx W H H' → RpA X.K (msk (B.all ρ1) H') vs ds → Q vs H'))) (ts := fun a cls d => fun Ends σ H => (cls = .ref D ∧ d = none) ∧ tRet (tCallS (sp a) (fun _ _ _ _ => False) (tCons (tVar i) tNil)) Ends σ H) hs hf hN hi hln hc takesN
    (fun Wx pn xe tk _ => pss_one (ps_ret (pe_callS F hr hg hm hk hb (fun σ => L2N.passAt tk σ) (ha pn xe).run hdb he hpl)))
    (fun a oe cls d pn hz hv => ⟨fun pins s σ H Ends I h => ?_⟩)) (ps_any (T := T) (B := B))) fun Ends σ H ⟨S, q1, q2, _⟩ => ?_
  · obtain ⟨⟨rfl, rfl⟩, h⟩ := h
    have hot : Hot1 (X.suite a ((a, oe) :: pn)).A (a, oe) := ⟨rfl, by obtain ⟨vs, e⟩ := hv; exact ⟨vs, e, hz.2.2 vs e⟩⟩
    exact PSs.run (pss_one (ps_ret (pe_callP (X := X.suite a ((a, oe) :: pn)) G ⟨hrw.dp, hrw.un⟩ hot List.mem_cons_self (hPp (a, oe) hz hv) hgw hmw hkw hbw (pa_cons (pe_var hi (.inl hln2) hnd hnc) pa_nil hew) hdw hew))) pins s σ H Ends I h
  · refine ⟨S, fun vs H1 S1 f1 r1 => ⟨by rw [r1.length]; exact hn, ds, B.all ρ1, args_dats r1, S1.held, S1.tabs, hR, fun H2 g1 g2 g3 => ?_⟩⟩
    have S2 := S1.grow g1.kpN g3 g2
    refine ⟨true, hex, fun _ a na => ⟨⟨rfl, rfl⟩, .ref a, by rw [List.getElem?_set_self (by rw [← S1.len]; exact hil)], hsp a H2 _ _ g3 fun H3 k1 k2 k3 => ?_⟩, fun z => by cases z⟩
    exact q2 (.str word) (ρ1.set i .un) σ (.str word) H3 hrt ((S2.grow k1.kpN k3 k2).fg fg_set) (.str _)
end
end Dv

set_option maxRecDepth 100000
namespace Dv
open PySem PySem.Spec PyProof.Rows L2
section
variable {X : Cx} {T : List TQ} {B : Bs} {ρ ρ1 ρ2 ρ3 : Sl} {W W1 W2 W3 : List Addr} {e a b c : Expr} {d d1 d2 d3 : D} {pos : Pos}
/-- a <= b <= c, as a value -/
theorem ex_leLe {i j k : Int} (ha : EX X T B ρ a W1 ρ1 (.int i)) (hb : EX X T B ρ1 b W2 ρ2 (.int j)) (hc : EX X T B ρ2 c [] ρ2 (.int k)) (hm : lastMarks [.LtE, .LtE] [b, c] = false := by with_unfolding_all rfl) :
    EX X T B ρ (.Compare a [.LtE, .LtE] [b, c] pos) (W1 ++ W2) ρ2 (.bool (decide (i ≤ j) && decide (j ≤ k))) := by
  refine ⟨PE.imp (pe_chain op_le op_le ha.run hb.run hc.run hm) fun σ H Q ⟨S, q⟩ => ⟨S, fun x H1 S1 f1 r1 => ⟨S1, fun y H2 S2 f2 r2 => ⟨i, j, int_of r1, int_of r2, decide (i ≤ j), rfl, ?_⟩⟩⟩, hb.own.trans ha.own, sub_app ha.sub ha.own hb.sub⟩
  by_cases h : i ≤ j
  · rw [if_pos (decide_eq_true h)]
    refine ⟨S2, fun z H3 S3 f3 r3 => ⟨j, k, int_of r2, int_of r3, ?_⟩⟩
    rw [decide_eq_true h, Bool.true_and] at q
    exact q _ H3 S3 (((f1.trans f2).trans f3).mono fun a z => by simpa using z) (.bl _)
  · rw [if_neg (by rw [decide_eq_false h]; exact Bool.false_ne_true)]
    rw [decide_eq_false h, Bool.false_and] at q
    exact q _ H2 S2 (f1.trans f2) (.bl _)
end
end Dv

set_option maxRecDepth 100000
/-! *text in a display -/
namespace Dv
open PySem PySem.Spec PyProof.Rows L2
theorem sg_vals {z : Str} {acc : Array Value} (h : ItemsOf (SignAt z) acc z.cps.size) : Vals (z.cps.toList.map fun c => V.str (sg c)) acc.toList := by
  obtain ⟨h1, h2⟩ := h
  have key : ∀ (vs : List Value) (cs : List Nat) (k : Nat), vs.length = cs.length → (∀ (i : Nat) (v : Value), vs[i]? = some v → ∃ c t, cs[i]? = some c ∧ v = .str ⟨#[c]⟩ t) → Vals (cs.map fun c => V.str (sg c)) vs := fun vs => by
    induction vs with
    | nil => intro cs k hl _; cases cs with
      | nil => exact .nil
      | cons _ _ => cases hl
    | cons v vs ih =>
      intro cs k hl hx
      cases cs with
      | nil => cases hl
      | cons c cs =>
        obtain ⟨c', t, e1, e2⟩ := hx 0 v rfl
        cases e1
        exact .cons ⟨t, e2⟩ (ih cs k (Nat.succ.inj hl) fun i u hu => hx (i + 1) u hu)
  refine key _ _ 0 (by rw [Array.length_toList, h1, Array.length_toList]) fun i v hv => ?_
  rw [Array.getElem?_toList] at hv
  obtain ⟨c, t, e1, e2⟩ := h2 i v hv
  exact ⟨c, t, by rw [Array.getElem?_toList]; exact e1, e2⟩
theorem rp_signs {K : PySem.W.Frag} {H : Hp} : ∀ cs : List Nat, RpA K H (cs.map fun c => V.str (sg c)) (cs.map sgD)
  | [] => .nil
  | _ :: cs => .cons (.str _) (rp_signs cs)
section
variable {X : Cx} {es : List Expr} {e : Expr} {te : TE} {t : TA} {p : Pos}
def tStarS (te : TE) (t : TA) : TA := fun σ H Q => te σ H fun x H1 => ∃ z : Str, x = V.str z ∧ z.cps.size ≤ sizeLine ∧ t σ H1 fun ys H2 => Q ((z.cps.toList.map fun c => V.str (sg c)) ++ ys) H2
theorem pa_starS (hc : X.calm = true) (he : PE X e te) (hr : PA X es t) (hs : starEach (.Starred e p :: es) X.env = (true, eval e X.env) :: starEach es X.env := by rfl) : PA X (.Starred e p :: es) (tStarS te t) := by
  refine ⟨fun pos pins s σ H Q I h => PySem.W.items_star (thn (he.run pins s σ H _ I h) fun v s1 ⟨y, H1, I1, ry, z, ey, hz, q⟩ => ?_) hs⟩
  subst ey
  obtain ⟨tk, rfl⟩ := ry
  unfold PySem.W.StarOf notIterableAtAll
  refine wpAny_bind (wpAny_specialOf (T := "str") rfl PySem.F.slot_str_iter.lookup (wpAny_pure ⟨rfl, wpAny_collect_str (I1.ok.hd hc) z tk (fun s' acc k g d o it => ?_) hz⟩))
  have I2 : L2.Inv X pins σ H1 s' := by
    obtain ⟨h', g', d', t', o'⟩ := s'
    cases g; cases d; cases o
    exact I1.kept (t' := t') k
  exact thn (hr.run pos pins _ σ H1 _ I2 q) fun ws s3 ⟨vs, H3, I3, r3, q3⟩ => ⟨_, H3, I3, (sg_vals it).append r3, q3⟩
end
section
variable {X : Cx} {T : List TQ} {B : Bs} {ρ ρ1 ρ2 : Sl} {W1 W2 : List Addr} {e : Expr} {es : List Expr} {ds : List D} {p : Pos}
theorem ax_starS {z : Str} (hc : X.calm = true) (h : EX X T B ρ e W1 ρ1 (.str z)) (r : AX X T B ρ1 es W2 ρ2 ds) (hz : z.cps.size ≤ sizeLine) (hs : starEach (.Starred e p :: es) X.env = (true, eval e X.env) :: starEach es X.env := by rfl) :
    AX X T B ρ (.Starred e p :: es) (W1 ++ W2) ρ2 (z.cps.toList.map sgD ++ ds) :=
  ⟨PA.imp (pa_starS hc h.run r.run hs) fun σ H Q ⟨S, q⟩ => ⟨S, fun x H1 S1 f1 r1 => ⟨z, str_of r1, hz, S1, fun vs H2 S2 f2 rs => q _ H2 S2 (f1.trans f2) (RpA.append (rp_signs _) rs)⟩⟩, r.own.trans h.own, sub_app h.sub h.own r.sub⟩
end
end Dv

set_option maxRecDepth 100000
namespace Dv
open PySem PySem.Spec PyProof.Rows L2
/-! ### dict(zip(xs, ys)), lists or tuples -/
section
variable {prog : Program} {w : World} {A : Around} {E : Value → Shared → Prop} {s : Shared} {z TI TO i1 i2 T : Addr} {fp1 fp2 : List Addr} {n1 n2 i : Nat} {P1 P2 : Nat → Value → Prop} {St1 St2 : Nat → Heap → Prop} {f : Bool} {oT : Obj}
theorem zh_item {Q : Value → Shared → Prop} (S : ZipSep2 z TI TO i1 i2 fp1 fp2) (D1 : Draws prog w A i1 fp1 n1 P1 St1) (D2 : Draws prog w A i2 fp2 n2 P2 St2)
    (hz : IsZipHeld s.heap z TI TO T f) (hT : s.heap.get? T = some oT) (hTI : IsTupOf2 s.heap TI (.ref i1) (.ref i2)) (st1 : St1 i s.heap) (st2 : St2 i s.heap) (l1 : i < n1) (l2 : i < n2)
    (hQ : ∀ x1 x2 h' tk, P1 i x1 → P2 i x2 → IsZipHeld h' z TI TO T true → St1 (i + 1) h' → St2 (i + 1) h' → IsTupOf2 h' s.heap.objs.size x1 x2 → h'.objs.size = s.heap.objs.size + 1 →
      (∀ c o, c ≠ z → c ≠ i1 → c ≠ i2 → s.heap.get? c = some o → h'.get? c = some o) → Q (.ref s.heap.objs.size) { s with heap := h', toks := tk }) :
    wpAny (model prog w) A (Builtin.«zip.__next__» ⟨[.ref z], []⟩) (fun fin s' => ∃ v, fin = .done (.ret v) ∧ Q v s') E s := by
  obtain ⟨hp, g, dr, tk0, os⟩ := s
  show wpAny _ _ (field (.ref z) 2 >>= _) _ _ _
  refine wpAny_bind (wpAny_field hz rfl (x := .bool false) rfl ?_)
  show wpAny _ _ (field (.ref z) 3 >>= _) _ _ _
  refine wpAny_bind (wpAny_field hz rfl (x := .ref TI) rfl ?_)
  refine wpAny_bind (wpAny_seqItems hTI rfl ?_)
  show wpAny _ _ (Builtin.SmallTypes.ownedTupleIsFree (.ref z) >>= _) _ _ _
  refine wpAny_bind (wpAny_tupleHeld_zip hz hT fun g0 z0 k0 => ?_)
  replace k0 : Heap.SameBut z hp g0 := k0
  simp only [Bool.false_eq_true, if_false]
  refine wpAny_bind ?_
  rw [← Array.forIn_toList]
  simp only [List.forIn_cons, List.forIn_nil]
  refine wpAny_bind (wpAny_bind (wpAny_holding ?_))
  show wpAny _ _ (Builtin.SmallTypes.nextOf (.ref i1) >>= _) _ _ ⟨g0, g, dr, tk0, os⟩
  refine wpAny_bind (D1.item i _ _ _ l1 (D1.over st1 k0 S.zf1) fun x1 g1 tk1 y1 st1' k1 => wpAny_pure ?_)
  replace k1 : Heap.SameBut i1 g0 g1 := k1
  refine wpAny_pure ?_
  refine wpAny_bind (wpAny_bind (wpAny_holding ?_))
  show wpAny _ _ (Builtin.SmallTypes.nextOf (.ref i2) >>= _) _ _ ⟨g1, g, dr, tk1, os⟩
  refine wpAny_bind (D2.item i _ _ _ l2 (D2.over (D2.over st2 k0 S.zf2) k1 S.sep1_2) fun x2 g2 tk2 y2 st2' k2 => wpAny_pure ?_)
  replace k2 : Heap.SameBut i2 g1 g2 := k2
  refine wpAny_pure (wpAny_pure ?_)
  show wpAny _ _ (newTuple [x1, x2] >>= _) _ _ ⟨g2, g, dr, tk2, os⟩
  refine wpAny_bind (wpAny_newTuple ?_)
  have hsz : g2.objs.size = hp.objs.size := by rw [k2.1, k1.1, k0.1]
  have hzz : IsZipHeld g2 z TI TO T true := k2.extBut _ _ S.zi2 (k1.extBut _ _ S.zi1 z0)
  have hk : ∀ c o, c ≠ z → c ≠ i1 → c ≠ i2 → hp.get? c = some o → g2.get? c = some o := fun c o c1 c2 c3 e => k2.extBut _ _ c3 (k1.extBut _ _ c2 (k0.extBut _ _ c1 e))
  have up : ∀ c o, g2.get? c = some o → (g2.push { cls := .type "tuple", data := .seq #[x1, x2] }).get? c = some o := fun c o e => Heap.get?_push_of_some _ e
  refine wpAny_pure ⟨_, rfl, ?_⟩
  show Q (.ref g2.objs.size) _
  have hp2 : IsTupOf2 (g2.push { cls := .type "tuple", data := .seq #[x1, x2] }) g2.objs.size x1 x2 := Heap.get?_push_size _ rfl
  have h4 : (g2.push { cls := .type "tuple", data := .seq #[x1, x2] }).objs.size = g2.objs.size + 1 := Heap.size_push ..
  rw [hsz] at hp2 h4 ⊢
  exact hQ x1 x2 _ tk2 y1 y2 (up _ _ hzz) (D1.frame _ _ _ (D1.over st1' k2 S.sep2_1) fun b _ o e => up b o e) (D2.frame _ _ _ st2' fun b _ o e => up b o e) hp2 h4 fun c o c1 c2 c3 e => up c o (hk c o c1 c2 c3 e)
theorem zh_end {Q : PySem.Fin → Shared → Prop} (S : ZipSep2 z TI TO i1 i2 fp1 fp2) (D1 : Draws prog w A i1 fp1 n1 P1 St1) (D2 : Draws prog w A i2 fp2 n2 P2 St2)
    (hz : IsZipHeld s.heap z TI TO T f) (hT : s.heap.get? T = some oT) (hTI : IsTupOf2 s.heap TI (.ref i1) (.ref i2)) (st1 : St1 i s.heap) (st2 : St2 i s.heap) (hl1 : i ≤ n1) (hl2 : i ≤ n2) (hend : i = n1 ∨ i = n2)
    (hE : ∀ h' tk e, (∀ c o, c ≠ z → c ≠ i1 → c ≠ i2 → s.heap.get? c = some o → h'.get? c = some o) → (∃ o, h'.get? e = some o ∧ o.cls = .type "StopIteration") → E (.ref e) { s with heap := h', toks := tk }) :
    wpAny (model prog w) A (Builtin.«zip.__next__» ⟨[.ref z], []⟩) Q E s := by
  obtain ⟨hp, g, dr, tk0, os⟩ := s
  show wpAny _ _ (field (.ref z) 2 >>= _) _ _ _
  refine wpAny_bind (wpAny_field hz rfl (x := .bool false) rfl ?_)
  show wpAny _ _ (field (.ref z) 3 >>= _) _ _ _
  refine wpAny_bind (wpAny_field hz rfl (x := .ref TI) rfl ?_)
  refine wpAny_bind (wpAny_seqItems hTI rfl ?_)
  show wpAny _ _ (Builtin.SmallTypes.ownedTupleIsFree (.ref z) >>= _) _ _ _
  refine wpAny_bind (wpAny_tupleHeld_zip hz hT fun g0 z0 k0 => ?_)
  replace k0 : Heap.SameBut z hp g0 := k0
  simp only [Bool.false_eq_true, if_false]
  refine wpAny_bind ?_
  rw [← Array.forIn_toList]
  simp only [List.forIn_cons, List.forIn_nil]
  refine wpAny_bind (wpAny_bind (wpAny_holding ?_))
  show wpAny _ _ (Builtin.SmallTypes.nextOf (.ref i1) >>= _) _ _ ⟨g0, g, dr, tk0, os⟩
  by_cases hx : i < n1
  · have hn : i = n2 := hend.resolve_left (Nat.ne_of_lt hx)
    refine wpAny_bind (D1.item i _ _ _ hx (D1.over st1 k0 S.zf1) fun x1 g1 tk1 y1 st1' k1 => wpAny_pure ?_)
    replace k1 : Heap.SameBut i1 g0 g1 := k1
    refine wpAny_pure ?_
    refine wpAny_bind (wpAny_bind (wpAny_holding ?_))
    show wpAny _ _ (Builtin.SmallTypes.nextOf (.ref i2) >>= _) _ _ ⟨g1, g, dr, tk1, os⟩
    subst hn
    refine wpAny_bind (D2.done _ _ _ (D2.over (D2.over st2 k0 S.zf2) k1 S.sep1_2) fun g2 e k2 he => ?_)
    exact hE g2 tk1 e (fun c o c1 c2 c3 x => k2 _ _ c3 (k1.extBut _ _ c2 (k0.extBut _ _ c1 x))) he
  · have hn : i = n1 := Nat.le_antisymm hl1 (Nat.le_of_not_lt hx)
    subst hn
    refine wpAny_bind (D1.done _ _ _ (D1.over st1 k0 S.zf1) fun g1 e k1 he => ?_)
    exact hE g1 tk0 e (fun c o c1 c2 _ x => k1 _ _ c2 (k0.extBut _ _ c1 x)) he
theorem zh_next {Q : Option Value → Shared → Prop} (S : ZipSep2 z TI TO i1 i2 fp1 fp2) (D1 : Draws prog w A.in1 i1 fp1 n1 P1 St1) (D2 : Draws prog w A.in1 i2 fp2 n2 P2 St2)
    (hz : IsZipHeld s.heap z TI TO T f) (hT : s.heap.get? T = some oT) (hTI : IsTupOf2 s.heap TI (.ref i1) (.ref i2)) (st1 : St1 i s.heap) (st2 : St2 i s.heap) (l1 : i < n1) (l2 : i < n2)
    (hQ : ∀ x1 x2 h' tk, P1 i x1 → P2 i x2 → IsZipHeld h' z TI TO T true → St1 (i + 1) h' → St2 (i + 1) h' → IsTupOf2 h' s.heap.objs.size x1 x2 → h'.objs.size = s.heap.objs.size + 1 →
      (∀ c o, c ≠ z → c ≠ i1 → c ≠ i2 → s.heap.get? c = some o → h'.get? c = some o) → Q (some (.ref s.heap.objs.size)) { s with heap := h', toks := tk }) :
    wpAny (model prog w) A (pyNext (.ref z)) Q E s := by
  have ty : s.TypeIs (.ref z) "zip" := ⟨_, hz, rfl⟩
  unfold pyNext
  exact wpAny_bind (wpAny_attempt (wpAny_callSpecial?_slot (name := Str.ofString "__next__") ty PySem.F.slot_zip_next
    (wpAny_call_entry PySem.F.slot_zip_next ty PySem.F.entry_zip_next
      (zh_item S D1 D2 hz hT hTI st1 st2 l1 l2 fun x1 x2 h' tk y1 y2 b1 d1 d2 b5 b6 b7 => wpAny_pure (hQ x1 x2 h' tk y1 y2 b1 d1 d2 b5 b6 b7)) (PySem.F.args_zip_next_1 _))))
theorem zh_stop {Q : Option Value → Shared → Prop} (S : ZipSep2 z TI TO i1 i2 fp1 fp2) (D1 : Draws prog w A.in1 i1 fp1 n1 P1 St1) (D2 : Draws prog w A.in1 i2 fp2 n2 P2 St2)
    (hz : IsZipHeld s.heap z TI TO T f) (hT : s.heap.get? T = some oT) (hTI : IsTupOf2 s.heap TI (.ref i1) (.ref i2)) (st1 : St1 i s.heap) (st2 : St2 i s.heap) (hl1 : i ≤ n1) (hl2 : i ≤ n2) (hend : i = n1 ∨ i = n2)
    (hQ : ∀ h' tk, (∀ c o, c ≠ z → c ≠ i1 → c ≠ i2 → s.heap.get? c = some o → h'.get? c = some o) → Q none { s with heap := h', toks := tk }) : wpAny (model prog w) A (pyNext (.ref z)) Q E s := by
  have ty : s.TypeIs (.ref z) "zip" := ⟨_, hz, rfl⟩
  unfold pyNext
  refine wpAny_bind (wpAny_attempt (wpAny_callSpecial?_slot (name := Str.ofString "__next__") ty PySem.F.slot_zip_next
    (wpAny_call_entry PySem.F.slot_zip_next ty PySem.F.entry_zip_next (zh_end S D1 D2 hz hT hTI st1 st2 hl1 hl2 hend fun h' tk e hk he => ?_) (PySem.F.args_zip_next_1 _))))
  obtain ⟨o, ho, hc⟩ := he
  refine wpAny_bind (wpAny_isInstance (T := "StopIteration") (b := true) ⟨o, ho, hc⟩ isSubtype_stop ?_)
  exact wpAny_pure (hQ _ _ hk)
end
/-- a list (true) or a tuple -/
def SqB (b : Bool) (h : Heap) (l : Addr) (xs : Array Value) : Prop := if b = true then h.IsList l xs else h.IsTuple l xs
def ItB (b : Bool) (h : Heap) (it l : Addr) (i : Nat) : Prop := if b = true then h.IsListIter it l i else h.IsTupleIter it l i
def itO (b : Bool) (l : Addr) : Obj := if b = true then { cls := .type "list_iterator", data := .fields #[.ref l, .int 0 0] } else { cls := .type "tuple_iterator", data := .fields #[.ref l, .int 0 0] }
theorem SqB.at {b : Bool} {h h' : Heap} {l : Addr} {xs : Array Value} (x : SqB b h l xs) (k : ∀ o, h.get? l = some o → h'.get? l = some o) : SqB b h' l xs := by
  cases b
  · exact Heap.IsTuple.at (show h.IsTuple l xs from x) k
  · exact Heap.IsList.at (show h.IsList l xs from x) k
theorem ItB.at {b : Bool} {h h' : Heap} {it l : Addr} {i : Nat} (x : ItB b h it l i) (k : ∀ o, h.get? it = some o → h'.get? it = some o) : ItB b h' it l i := by
  cases b
  · exact Heap.IsTupleIter.at (show h.IsTupleIter it l i from x) k
  · exact Heap.IsListIter.at (show h.IsListIter it l i from x) k
theorem ItB.there {b : Bool} {h : Heap} {it l : Addr} {i : Nat} (x : ItB b h it l i) : ∃ o, h.get? it = some o := by
  cases b
  · obtain ⟨o, e, _⟩ := (show h.IsTupleIter it l i from x); exact ⟨o, e⟩
  · obtain ⟨o, e, _⟩ := (show h.IsListIter it l i from x); exact ⟨o, e⟩
theorem SqB.there {b : Bool} {h : Heap} {l : Addr} {xs : Array Value} (x : SqB b h l xs) : ∃ o, h.get? l = some o := by
  cases b
  · obtain ⟨o, e, _⟩ := (show h.IsTuple l xs from x); exact ⟨o, e⟩
  · obtain ⟨o, e, _⟩ := (show h.IsList l xs from x); exact ⟨o, e⟩
theorem begB (b : Bool) (l : Addr) (xs : Array Value) : Begins (.ref l) (itO b l) fun h => SqB b h l xs := by
  cases b
  · exact begins_tuple l xs
  · exact begins_list l xs
theorem itB0 {b : Bool} {h : Heap} {it l : Addr} (e : h.get? it = some (itO b l)) : ItB b h it l 0 := by
  cases b
  · exact ⟨_, e, rfl, rfl⟩
  · exact ⟨_, e, rfl, rfl⟩
theorem drawsB {prog : Program} {w : World} {A : Around} (hh : A.handled = none) (b : Bool) (it l : Addr) (hne : l ≠ it) (xs : Array Value) :
    Draws prog w A it [it, l] xs.size (fun i v => xs[i]? = some v) (fun i h => ItB b h it l i ∧ SqB b h l xs) := by
  cases b
  · exact Draws.tuple hh it l hne xs
  · exact Draws.list hh it l hne xs
theorem sepB {z TI TO i1 i2 l1 l2 : Addr} (D : ZipApart z TI TO i1 i2 l1 l2) : ZipSep2 z TI TO i1 i2 [i1, l1] [i2, l2] where
  TIz := D.TIz
  TOz := D.TOz
  TITO := D.TITO
  TIi1 := D.TIi1
  mem1 := List.mem_cons_self
  zf1 := fun h => by
    have h : z = i1 ∨ z = l1 := by simpa using h
    exact h.elim (fun e => D.i1z e.symm) fun e => D.l1z e.symm
  Tf1 := fun h => by
    have h : TO = i1 ∨ TO = l1 := by simpa using h
    exact h.elim D.TOi1 fun e => D.l1TO e.symm
  TIi2 := D.TIi2
  mem2 := List.mem_cons_self
  zf2 := fun h => by
    have h : z = i2 ∨ z = l2 := by simpa using h
    exact h.elim (fun e => D.i2z e.symm) fun e => D.l2z e.symm
  Tf2 := fun h => by
    have h : TO = i2 ∨ TO = l2 := by simpa using h
    exact h.elim D.TOi2 fun e => D.l2TO e.symm
  sep1_2 := fun h => by
    have h : i1 = i2 ∨ i1 = l2 := by simpa using h
    exact h.elim D.i12 fun e => D.l2i1 e.symm
  sep2_1 := fun h => by
    have h : i2 = i1 ∨ i2 = l1 := by simpa using h
    exact h.elim (fun e => D.i12 e.symm) fun e => D.l1i2 e.symm
section
variable {prog : Program} {w : World}
theorem pairZ (b1 b2 : Bool) (z TI TO i1 i2 l1 l2 : Addr) (D : ZipApart z TI TO i1 i2 l1 l2) (xs ys : Array Value) :
    PairArg prog w "zip" z [z, TI, TO, i1, i2, l1, l2] [z, TO, i1, i2] (min xs.size ys.size) (fun i k v => xs[i]? = some k ∧ ys[i]? = some v)
      (fun h => IsZip h z TI TO .none ∧ IsPair h TI (.ref i1) (.ref i2) ∧ (∃ a b, IsPair h TO a b) ∧ ItB b1 h i1 l1 0 ∧ ItB b2 h i2 l2 0 ∧ SqB b1 h l1 xs ∧ SqB b2 h l2 ys) where
  type := fun s ok => ⟨_, ok.1, rfl⟩
  notDict := by decide
  keep := fun h h' ok hk => by
    obtain ⟨hz, hTI, ⟨a, b, hTO⟩, h1, h2, g1, g2⟩ := ok
    exact ⟨hk _ _ hz, hk _ _ hTI, ⟨a, b, hk _ _ hTO⟩, h1.at fun o e => hk _ o e, h2.at fun o e => hk _ o e, g1.at fun o e => hk _ o e, g2.at fun o e => hk _ o e⟩
  there := fun h ok b hb => by
    obtain ⟨hz, hTI, ⟨a, c, hTO⟩, h1, h2, g1, g2⟩ := ok
    simp only [List.mem_cons, List.not_mem_nil, or_false] at hb
    rcases hb with rfl | rfl | rfl | rfl | rfl | rfl | rfl
    · exact ⟨_, hz⟩
    · exact ⟨_, hTI⟩
    · exact ⟨_, hTO⟩
    · exact h1.there
    · exact h2.there
    · exact g1.there
    · exact g2.there
  sub := fun b hb => by simp at hb ⊢; rcases hb with rfl | rfl | rfl | rfl <;> simp
  noKeys := fun A s Q E hA ok h => getAttrOr_miss_zip ok.1 rfl rfl rfl zip_no_keys (by decide +kernel) hA h
  iter := fun A s d Q E hA ok hd hdf h => by
    obtain ⟨hz, hTI, ⟨a, b, hTO⟩, h1, h2, g1, g2⟩ := ok
    simp only [List.mem_cons, List.not_mem_nil, or_false, not_or] at hdf
    obtain ⟨dz, dTI, dTO, di1, di2, dl1, dl2⟩ := hdf
    have S := sepB D
    have D1 := drawsB (prog := prog) (w := w) (A := A.in1) hA b1 i1 l1 D.l1i1 xs
    have D2 := drawsB (prog := prog) (w := w) (A := A.in1) hA b2 i2 l2 D.l2i2 ys
    refine wpAny_pyIter_zip hz (h z [z, TO, i1, i2] (fun i h => IsPair h TI (.ref i1) (.ref i2) ∧ (ItB b1 h i1 l1 i ∧ SqB b1 h l1 xs) ∧ (ItB b2 h i2 l2 i ∧ SqB b2 h l2 ys) ∧
      ((IsZip h z TI TO .none ∧ ∃ a b, IsPair h TO a b) ∨ ∃ T f oT, IsZipHeld h z TI TO T f ∧ h.get? T = some oT ∧ T ≠ z ∧ T ≠ i1 ∧ T ≠ i2 ∧ T ≠ d)) s.heap s.toks ?_
      ⟨hTI, ⟨h1, g1⟩, ⟨h2, g2⟩, .inl ⟨hz, a, b, hTO⟩⟩ (fun _ _ e => e) fun b hb => .inl hb)
    exact {
      off := fun hm => by
        simp only [List.mem_cons, List.not_mem_nil, or_false] at hm
        rcases hm with e | e | e | e
        · exact dz e
        · exact dTO e
        · exact di1 e
        · exact di2 e
      frame := fun i h₁ h₂ st hk => by
        obtain ⟨hTI, ⟨h1, g1⟩, ⟨h2, g2⟩, hz⟩ := st
        refine ⟨hk _ _ (Ne.symm dTI) hTI, ⟨h1.at fun o e => hk _ o (Ne.symm di1) e, g1.at fun o e => hk _ o (Ne.symm dl1) e⟩, ⟨h2.at fun o e => hk _ o (Ne.symm di2) e, g2.at fun o e => hk _ o (Ne.symm dl2) e⟩, ?_⟩
        rcases hz with ⟨hz, a, b, hTO⟩ | ⟨T, f, oT, hz, hT, r1, r2, r3, r4⟩
        · exact .inl ⟨hk _ _ (Ne.symm dz) hz, a, b, hk _ _ (Ne.symm dTO) hTO⟩
        · exact .inr ⟨T, f, oT, hk _ _ (Ne.symm dz) hz, hk _ _ r4 hT, r1, r2, r3, r4⟩
      item := fun i s₁ Q₁ E₁ hi st hds hQ => by
        obtain ⟨hTI, st1, st2, hz⟩ := st
        have hix : i < xs.size := Nat.lt_of_lt_of_le hi (Nat.min_le_left ..)
        have hiy : i < ys.size := Nat.lt_of_lt_of_le hi (Nat.min_le_right ..)
        have lt : ∀ {c o}, s₁.heap.get? c = some o → s₁.heap.objs.size ≠ c := fun e => Nat.ne_of_gt (Heap.lt_size e)
        have m1 : s₁.heap.objs.size ≠ i1 := let ⟨_, e⟩ := st1.1.there; lt e
        have m2 : s₁.heap.objs.size ≠ i2 := let ⟨_, e⟩ := st2.1.there; lt e
        rcases hz with ⟨hz, a, b, hTO⟩ | ⟨T, f, oT, hz, hT, r1, r2, r3, r4⟩
        · refine wpAny_pyNext_zipD2_item S D1 D2 hz hTI hTO st1 st2 hix hiy fun x1 x2 h' tk y1 y2 a1 a2 a3 a4 a5 a6 hk => ?_
          exact hQ s₁.heap.objs.size _ _ h' tk ⟨y1, y2⟩ (.inl ⟨_, a5, rfl, _, rfl⟩)
            ⟨hk _ _ D.TIz D.TITO D.TIi1 D.TIi2 hTI, a3, a4, .inr ⟨s₁.heap.objs.size, false, _, a1, a5, lt hz, m1, m2, Nat.ne_of_gt hds⟩⟩
            fun c o hc e => hk c o (fun x => hc (by simp [x])) (fun x => hc (by simp [x])) (fun x => hc (by simp [x])) (fun x => hc (by simp [x])) e
        · refine zh_next S D1 D2 hz hT hTI st1 st2 hix hiy fun x1 x2 h' tk y1 y2 a1 a3 a4 a5 a6 hk => ?_
          exact hQ s₁.heap.objs.size _ _ h' tk ⟨y1, y2⟩ (.inl ⟨_, a5, rfl, _, rfl⟩)
            ⟨hk _ _ D.TIz D.TIi1 D.TIi2 hTI, a3, a4, .inr ⟨T, true, oT, a1, hk _ _ r1 r2 r3 hT, r1, r2, r3, r4⟩⟩
            fun c o hc e => hk c o (fun x => hc (by simp [x])) (fun x => hc (by simp [x])) (fun x => hc (by simp [x])) e
      done := fun s₁ Q₁ E₁ st hQ => by
        obtain ⟨hTI, st1, st2, hz⟩ := st
        have hend : min xs.size ys.size = xs.size ∨ min xs.size ys.size = ys.size := by omega
        rcases hz with ⟨hz, a, b, hTO⟩ | ⟨T, f, oT, hz, hT, r1, r2, r3, r4⟩
        · exact wpAny_pyNext_zipD2_end S D1 D2 hz hTI hTO st1 st2 (Nat.min_le_left ..) (Nat.min_le_right ..) hend fun h' tk hk => hQ h' tk fun c o hc e => hk c o (fun x => hc (by simp [x])) (fun x => hc (by simp [x])) (fun x => hc (by simp [x])) (fun x => hc (by simp [x])) e
        · exact zh_stop S D1 D2 hz hT hTI st1 st2 (Nat.min_le_left ..) (Nat.min_le_right ..) hend fun h' tk hk => hQ h' tk fun c o hc e => hk c o (fun x => hc (by simp [x])) (fun x => hc (by simp [x])) (fun x => hc (by simp [x])) e }
end
section
variable {X : Cx}
/-- what a list (true) or a tuple holds -/
def SqV (K : PySem.W.Frag) (b : Bool) (H : Hp) (a : Addr) (xs : List V) : Prop := if b = true then SqL K H a xs else SqT K H a xs
theorem SqV.b {pins : List (Addr × Obj)} {σ : L2.St} {H : Hp} {s : Shared} (I : L2.Inv X pins σ H s) {b : Bool} {a : Addr} {xs : List V} (h : SqV X.K b H a xs) : ∃ its : List Value, Vals xs its ∧ SqB b s.heap a its.toArray ∧ its.length ≤ sizeLine := by
  cases b
  · obtain ⟨its, rv, p, hz⟩ := I.tuple (show SqT X.K H a xs from h)
    exact ⟨its, rv, p, by first | exact hz | (rw [← rv.length]; exact hz)⟩
  · obtain ⟨its, rv, p, hz⟩ := I.list (show SqL X.K H a xs from h)
    exact ⟨its, rv, p.isList, by first | exact hz | (rw [← rv.length]; exact hz)⟩
/-- keys and values at V: the keys flat, or tuples -/
def tDZ (K : PySem.W.Frag) (b1 b2 : Bool) (ta : TA) : TE := fun σ H Q => ta σ H fun vs H1 => ∃ a b xs ys, vs = [.ref a, .ref b] ∧ SqV K b1 H1 a xs ∧ SqV K b2 H1 b ys ∧ xs.length = ys.length ∧
  ((∃ ks : List Key, xs = ks.map kV ∧ ∀ p, H1 p = none → Q (.ref p) (upd H1 p (.dK (mergeK [] (ks.zip ys))))) ∨
   (∃ (bs : List Addr) (ks : List (List Key)), xs = bs.map V.ref ∧ Paired (fun b k => H1 b = some (.tup (k.map kV))) bs ks ∧ ∀ p, H1 p = none → Q (.ref p) (upd H1 p (.dT (mergeT [] (ks.zip ys))))))
theorem kv_zip : ∀ {ks : List Key} {ys : List V} {vs : List Value}, Vals ys vs → KV (ks.zip ys) (ks.zip vs)
  | [], _, _, _ => .nil
  | k :: ks, _, _, .nil => .nil
  | k :: ks, _, _, .cons h t => .cons ⟨rfl, h⟩ (kv_zip t)
theorem kt_zip {H : Hp} : ∀ {bs : List Addr} {ks : List (List Key)} {ys : List V} {vs : List Value}, Paired (fun b k => H b = some (.tup (k.map kV))) bs ks → Vals ys vs → KT H (ks.zip ys) (ks.zip (bs.zip vs))
  | _, _, _, _, .nil, _ => .nil
  | _, _, _, _, .cons _ _, .nil => .nil
  | _, _, _, _, .cons g r, .cons h t => .cons ⟨rfl, g, h⟩ (kt_zip r t)
theorem keys_at {prog : Program} {w : World} : ∀ {ks : List Key} {its : List Value} {i : Nat} {u : Value}, Vals (ks.map kV) its → its[i]? = some u → ∃ k, ks[i]? = some k ∧ keyIs k u = true
  | [], _, i, u, .nil, e => by simp at e
  | k :: ks, _, 0, u, .cons h t, e => by
    cases (Option.some.inj e)
    exact ⟨k, rfl, kV_is (P := prog) (w := w) h⟩
  | k :: ks, _, i + 1, u, .cons h t, e => by
    obtain ⟨k', h1, h2⟩ := keys_at (prog := prog) (w := w) t (by simpa using e)
    exact ⟨k', by simpa using h1, h2⟩
theorem pair_at {α β : Type} {F : α → β → Prop} : ∀ {l1 : List α} {l2 : List β} {i : Nat} {x : α}, Paired F l1 l2 → l1[i]? = some x → ∃ y, l2[i]? = some y ∧ F x y
  | _, _, i, x, .nil, e => by simp at e
  | _, _, 0, x, .cons h t, e => by cases (Option.some.inj e); exact ⟨_, rfl, h⟩
  | _, _, i + 1, x, .cons h t, e => by
    obtain ⟨y, h1, h2⟩ := pair_at t (i := i) (by simpa using e)
    exact ⟨y, by simpa using h1, h2⟩
theorem pe_dictZip {e e2 : Expr} {ta : TA} {p p2 pos zpos : Pos} {b1 b2 : Bool} (hcalm : X.calm = true) (hu : X.A.units + 8 < cLine) (hgd : Gl X "dict") (hmd : X.mg "dict" = none) (hg : Gl X "zip") (hm : X.mg "zip" = none) (ha : PA X [e, e2] ta)
    (hs : starEach [e, e2] X.env = (false, eval e X.env) :: starEach [e2] X.env := by rfl) (hpl : (backTo zpos (starEach [e2] X.env)).any (·.1) = false := by rfl)
    (he : starEach [.Call (.Name "zip" p2) [e, e2] [] zpos] X.env = (false, eval (.Call (.Name "zip" p2) [e, e2] [] zpos) X.env) :: starEach [] X.env := by rfl) :
    PE X (.Call (.Name "dict" p) [.Call (.Name "zip" p2) [e, e2] [] zpos] [] pos) (tDZ X.K b1 b2 ta) := by
  refine ⟨fun pins s σ H Q I h => ?_⟩
  refine Call_ (ld_blt (u := .type "dict") I hgd hmd (by decide +kernel) (PyProof.Rows.callWith_type1 ?_ he (by rfl)))
  rw [he]
  show wpAny _ _ (spliced ((false, eval (.Call (.Name "zip" p2) [e, e2] [] zpos) X.env) :: backTo pos (starEach [] X.env))) _ _ s
  refine Calls.spliced_cons ?_
  refine Call_ (ld_blt I hg hm PyProof.Rows.boot_zip (PyProof.Rows.callWith_type1 (thn (ha.run zpos pins s σ H _ I h) fun us s1 ⟨vs, H1, I1, r1, q1⟩ => ?_) hs hpl))
  obtain ⟨a, b, xs, ys, ex, hqx, hqy, hlen, q1⟩ := q1
  subst ex
  cases r1 with
  | cons r rr =>
    cases rr with
    | cons r' rr =>
      cases rr
      cases r
      cases r'
      obtain ⟨its, rv, p1, hz1⟩ := hqx.b I1
      obtain ⟨its2, rv2, p2', hz2⟩ := hqy.b I1
      obtain ⟨_, e1⟩ := p1.there
      obtain ⟨_, e2⟩ := p2'.there
      have la := Heap.lt_size e1
      have lb := Heap.lt_size e2
      have hl : its.length = its2.length := by have := rv.length; have := rv2.length; omega
      refine zip_begins2 (begB b1 a its.toArray) (begB b2 b its2.toArray) p1 p2' fun h' hz hTI hTO g1 g2 hsz hk => Calls.spliced_nil ?_
      have I2 : L2.Inv X pins σ H1 { s1 with heap := h' } := I1.kept (t' := s1.toks) hk
      have pa := pairZ (prog := X.prog) (w := X.w) b1 b2 _ _ _ _ _ a b (PySem.W.ktu_apart s1.heap.objs.size a b la lb) its.toArray its2.toArray
      have ok : IsZip h' (s1.heap.objs.size + 4) (s1.heap.objs.size + 2) (s1.heap.objs.size + 3) .none ∧ IsPair h' (s1.heap.objs.size + 2) (.ref s1.heap.objs.size) (.ref (s1.heap.objs.size + 1)) ∧ (∃ a b, IsPair h' (s1.heap.objs.size + 3) a b) ∧ ItB b1 h' s1.heap.objs.size a 0 ∧ ItB b2 h' (s1.heap.objs.size + 1) b 0 ∧ SqB b1 h' a its.toArray ∧ SqB b2 h' b its2.toArray :=
        ⟨hz, hTI, ⟨_, _, hTO⟩, itB0 g1, itB0 g2, p1.at fun o e => hk _ o e, p2'.at fun o e => hk _ o e⟩
      have hm' : (h'.objs.size == sysModules) = false := beq_eq_false_iff_ne.mpr (Nat.ne_of_gt I2.big)
      have hn1 : min its.toArray.size its2.toArray.size = its.length := by simp only [List.size_toArray]; omega
      have old : ∀ {h2 : Heap} , (∀ b o, b ∉ [s1.heap.objs.size + 4, s1.heap.objs.size + 3, s1.heap.objs.size, s1.heap.objs.size + 1] → h'.get? b = some o → h2.get? b = some o) → ∀ b o, s1.heap.get? b = some o → h2.get? b = some o := fun k b o e => by
        have hlt : b < s1.heap.objs.size := Heap.lt_size e
        refine k b o (fun hb => ?_) (hk b o e)
        have hb : b = s1.heap.objs.size + 4 ∨ b = s1.heap.objs.size + 3 ∨ b = s1.heap.objs.size ∨ b = s1.heap.objs.size + 1 := by simpa using hb
        have hlt' : (b : Nat) < s1.heap.objs.size := hlt
        rcases hb with z | z | z | z
        · exact absurd hlt' (by rw [z]; exact Nat.not_lt.mpr (Nat.le_add_right _ _))
        · exact absurd hlt' (by rw [z]; exact Nat.not_lt.mpr (Nat.le_add_right _ _))
        · exact absurd hlt' (by rw [z]; exact Nat.lt_irrefl _)
        · exact absurd hlt' (by rw [z]; exact Nat.not_lt.mpr (Nat.le_add_right _ _))
      have hge : s1.heap.objs.size ≤ h'.objs.size := by rw [hsz]; exact Nat.le_add_right _ _
      rcases q1 with ⟨ks, ex, q⟩ | ⟨bs, ks, ex, hp, q⟩
      · subst ex
        have hkl : ks.length = its.length := by have := rv.length; rw [List.length_map] at this; exact this
        refine PySem.call_dict_pairs (knd := mixKind X.prog X.w) (kvs := ks.zip its2) pa (I2.ok.hd hcalm) ok ⟨by rw [hn1, List.length_zip]; omega, fun i key v hr => ?_⟩ (by rw [hn1]; exact hz1) fun h2 tk hd' k => ?_
        · obtain ⟨z1, z2⟩ := hr
          obtain ⟨kk, y1, y2⟩ := keys_at (prog := X.prog) (w := X.w) rv (show its[i]? = some key by simpa using z1)
          exact ⟨kk, by rw [List.getElem?_zip_eq_some]; exact ⟨y1, by simpa using z2⟩, y2⟩
        · have rel := kv_zip (ks := ks) rv2
          have hlen' : (mergeK [] (ks.zip ys)).length ≤ sizeLine := by
            refine Nat.le_trans (length_mergeK _ []) ?_
            rw [List.length_nil, Nat.zero_add, List.length_zip]
            omega
          exact ⟨.ref h'.objs.size, upd H1 h'.objs.size (.dK (mergeK [] (ks.zip ys))), I1.laid (t' := tk) (old k) hge (show ObjOk X.prog X.w _ _ _ (.dK (mergeK [] (ks.zip ys))) from ⟨hlen', hm', merged [] (ks.zip its2), KV.merge rel .nil, hd'⟩), rfl, q _ (I1.hok.fresh hge)⟩
      · subst ex
        have ei := refs_at rv
        subst ei
        have hbk : bs.length = ks.length := Paired.length hp
        rw [List.length_map] at hl hz1 hn1
        refine PySem.call_dict_pairsH (knd := tupleKind (mixKind X.prog X.w)) (ps := ks.zip (bs.zip its2)) pa (I2.ok.hd hcalm) (show X.A.units + 1 + 1 < cLine by omega) ok ⟨by rw [hn1, List.length_zip, List.length_zip]; omega, fun i key v hr => ?_⟩ (fun h2 hk2 x hx => ?_) (by rw [hn1]; exact hz1) fun h2 tk hd' k => ?_
        · obtain ⟨z1, z2⟩ := hr
          have z1 : (bs.map Value.ref)[i]? = some key := by simpa using z1
          rw [List.getElem?_map] at z1
          cases hb : bs[i]? with
          | none => rw [hb] at z1; cases z1
          | some b0 =>
            rw [hb] at z1
            cases z1
            obtain ⟨k0, y1, y2⟩ := pair_at hp hb
            exact ⟨k0, b0, by rw [List.getElem?_zip_eq_some]; exact ⟨y1, by rw [List.getElem?_zip_eq_some]; exact ⟨hb, by simpa using z2⟩⟩, rfl⟩
        · obtain ⟨i, hi⟩ := List.mem_iff_getElem?.mp hx
          rw [List.getElem?_zip_eq_some, List.getElem?_zip_eq_some] at hi
          obtain ⟨k0, y1, y2⟩ := pair_at hp hi.2.1
          rw [hi.1] at y1
          cases y1
          have g3 := key_of I1.hok y2
          obtain ⟨ok3, _, _, hok3, _⟩ := id g3
          exact isk_keep g3 fun o e => old (fun b o' hb e' => hk2 b o' (Nat.ne_of_lt (Heap.lt_size e')) hb e') _ o e
        · have rel := kt_zip hp rv2
          have hlen' : (mergeT [] (ks.zip ys)).length ≤ sizeLine := by
            refine Nat.le_trans (mergeT_len _ []) ?_
            rw [List.length_nil, Nat.zero_add, List.length_zip]
            omega
          have hn := I1.hok.fresh hge
          refine ⟨.ref h'.objs.size, upd H1 h'.objs.size (.dT (mergeT [] (ks.zip ys))), I1.laid (t' := tk) (old k) hge ?_, rfl, q _ hn⟩
          obtain ⟨q', es, ep, hq', h2, h3, h4, _, h5⟩ := hd'
          refine ⟨hlen', hm', _, (KT.merge rel .nil).keeps fun c ys ec => ?_, q', es, ep, hq', h2, h3, h4, h5⟩
          rw [upd_ne (ne_of_none ec hn)]
          exact ec
end
section
variable {X : Cx} {T : List TQ} {B : Bs} {ρ ρ1 ρ2 : Sl} {W W1 W2 : List Addr} {a b : Expr} {pos p p2 zpos : Pos} {κ : Type} [DecidableEq κ] {E : KEn κ} {kvs : List (κ × D)}
theorem flat_ks {K : PySem.W.Frag} {H : Hp} (hf : E.fl = true) : ∀ {ks : List κ} {xs : List V}, RpA K H xs (ks.map E.d) → xs = (ks.map E.fk).map kV
  | [], _, .nil => rfl
  | k :: ks, _, .cons h t => by rw [flat_ks hf t, key_flat hf h]; rfl
theorem tupl_ks {K : PySem.W.Frag} {H : Hp} {O : List Addr} (hf : E.fl = false) : ∀ {ks : List κ} {xs : List V}, RpA K (msk O H) xs (ks.map E.d) → ∃ bs : List Addr, xs = bs.map V.ref ∧ Paired (fun b k => H b = some (.tup (k.map kV))) bs (ks.map E.ft)
  | [], _, .nil => ⟨[], rfl, .nil⟩
  | k :: ks, _, .cons h t => by
    obtain ⟨bs, rfl, h2⟩ := tupl_ks hf t
    obtain ⟨b, rfl, hb⟩ := key_tup hf h
    exact ⟨b :: bs, rfl, .cons (msk_some hb).2 h2⟩
theorem pb_zip {K : PySem.W.Frag} {H : Hp} {β : Type} (g : κ → β) : ∀ {kvs : List (κ × D)} {ys : List V}, RpA K H ys (kvs.map (·.2)) → PB K H g (((kvs.map (·.1)).map g).zip ys) kvs
  | [], _, .nil => .nil
  | q :: kvs, _, .cons h t => .cons ⟨rfl, h⟩ (pb_zip g t)
/-- dict(zip(a list of keys, a tuple of values)), each key once -/
theorem en_dictZ (hc : X.calm = true) (hu : X.A.units + 8 < cLine) (hg : Gl X "dict") (hm : X.mg "dict" = none) (hgz : Gl X "zip") (hmz : X.mg "zip" = none) (ha : EX X T B ρ a W1 ρ1 (.list (kvs.map fun q => E.d q.1))) (hb : EX X T B ρ1 b W2 ρ2 (.tuple (kvs.map (·.2)))) (hn : (kvs.map (·.1)).Nodup)
    (hs : starEach [a, b] X.env = (false, eval a X.env) :: starEach [b] X.env := by rfl) (hs2 : starEach [b] X.env = (false, eval b X.env) :: starEach [] X.env := by rfl) (hpl : (backTo zpos (starEach [b] X.env)).any (·.1) = false := by rfl)
    (he : starEach [.Call (.Name "zip" p2) [a, b] [] zpos] X.env = (false, eval (.Call (.Name "zip" p2) [a, b] [] zpos) X.env) :: starEach [] X.env := by rfl) :
    EN X T B ρ (.Call (.Name "dict" p) [.Call (.Name "zip" p2) [a, b] [] zpos] [] pos) (W1 ++ W2) ρ2 (dD E kvs) := by
  refine ⟨PE.imp (pe_dictZip (b1 := true) (b2 := false) hc hu hg hm hgz hmz (pa_cons ha.run (pa_cons hb.run pa_nil hs2) hs) hs hpl he) fun σ H Q ⟨S, q⟩ => ⟨S, fun x H1 S1 f1 r1 => ⟨S1, fun y H2 S2 f2 r2 => ?_⟩⟩, hb.own.trans ha.own, sub_app ha.sub ha.own hb.sub⟩
  have r1' := carry hb f2 r1
  have mE : kvs.map (fun q => E.d q.1) = (kvs.map (·.1)).map E.d := by rw [List.map_map]; rfl
  cases r1' with
  | lst h1 h2 =>
    cases r2 with
    | tup g1 g2 =>
      refine ⟨_, _, _, _, rfl, (Kp.ofmsk _ _).sqL h1, SqT.of (msk_some g1).2, by rw [h2.length, g2.length, List.length_map, List.length_map], ?_⟩
      rw [mE] at h2
      cases hf : E.fl with
      | true =>
        refine .inl ⟨_, flat_ks hf h2, fun np n => en_laid S2 (f1.trans f2) n (.inl ⟨hf, _, rfl, ?_⟩) q⟩
        have z := pb_merge (E.hk hf).2 (pb_zip E.fk g2) (kk := []) (ds := []) .nil
        rw [mergeE_nd hn] at z
        exact z
      | false =>
        obtain ⟨bs, rfl, hp⟩ := tupl_ks hf h2
        cases kvs with
        | nil =>
          cases hp
          refine .inl ⟨[], rfl, fun np n => en_laid S2 (f1.trans f2) n (.inr ⟨hf, .inl ⟨rfl, rfl⟩⟩) q⟩
        | cons kv kvs =>
          refine .inr ⟨bs, _, rfl, hp, fun np n => en_laid S2 (f1.trans f2) n (.inr ⟨hf, .inr ⟨List.cons_ne_nil _ _, _, rfl, ?_⟩⟩) q⟩
          have z := pb_merge (E.ht hf).2 (pb_zip E.ft g2) (kk := []) (ds := []) .nil
          rw [mergeE_nd hn] at z
          exact z
end
end Dv

set_option maxRecDepth 100000
set_option maxHeartbeats 2000000
namespace Dv
open PySem PySem.Spec PyProof.Rows L2 GxR
/-! ### any, all of a generator expression whose element reads captured names, or compares data -/
section
variable {X : Cx} {pins : List (Addr × Obj)} {σ : L2.St} {H : Hp} {s : Shared}
/-- the element at the i-th: what stood at h1 stands, but for the table and what is walked -/
def ElF (X : Cx) (P : Addr) (scope : Scope) (x : Str) (elt : Expr) (h1 : Heap) (wr : List Addr) (Pf : Nat → Value → Prop) (pb : Nat → Bool) : Prop :=
  ∀ (cenv : Env) (A' : Around) (E' : Value → Shared → Prop) (i : Nat) (v : Value) (s₂ : Shared) (m₂ : Str → Option Value), cenv.scope = scope → cenv.cells = cloFrom X.env.cells scope.names [] → A'.handled = none → A'.units ≤ X.A.units + 8 →
    (∀ b o, b ≠ P → b ∉ wr → h1.get? b = some o → s₂.heap.get? b = some o) → Pf i v → s₂.heap.Ns cenv.locals m₂ → m₂ x = some v → wpAny (model X.prog X.w) A' (eval elt cenv) (fun y s₃ => y = .bool (pb i) ∧ Keeps s₂ s₃) E' s₂
def PSrcF (X : Cx) (P : Addr) (iter elt : Expr) (x : Str) (scope : Scope) (t : TSrc) : Prop := ∀ (pins : List (Addr × Obj)) (s : Shared) (σ : L2.St) (H : Hp) (R : Nat → (Nat → Bool) → Hp → Prop), Inv X pins σ H s → t σ H R →
  wpAny (model X.prog X.w) X.A (eval iter X.env) (fun xv sv => wpAny (model X.prog X.w) X.A (pyIter xv) (fun it s2 => ∃ (s1 : Shared) (H1 : Hp) (h2 : Heap) (t2 : Nat) (ps : Array Value) (Ia : Addr) (fp wr : List Addr) (n : Nat) (Pf : Nat → Value → Prop) (St₀ : Nat → Heap → Prop) (pb : Nat → Bool),
    Inv X pins σ H1 s1 ∧ s2 = { s1 with heap := h2, toks := t2 } ∧ (∀ b o, s1.heap.get? b = some o → h2.get? b = some o) ∧ s1.heap.objs.size ≤ h2.objs.size ∧ H1 P = some (.tbl ps) ∧ TriplesOk ps.toList ∧ it = .ref Ia ∧ (∀ A' : Around, A'.handled = none → Walks X.prog X.w A' Ia fp wr n Pf St₀) ∧ St₀ 0 h2 ∧ (∀ b ∈ fp, b < h2.objs.size) ∧ P ∉ fp ∧ (∀ b ∈ wr, s1.heap.objs.size ≤ b) ∧
    ElF X P scope x elt s1.heap wr Pf pb ∧ R n pb H1) X.xe sv) X.xe s
theorem gen_srcF {c P : Addr} {elt iter : Expr} {x : Str} {px gpos : Pos} {scope : Scope} {te : TSrc} {k : Nat} {Q' : Value → Shared → Prop} {R : Nat → (Nat → Bool) → Hp → Prop}
    (hr : Room k X.A) (TB : GxR.TabB X.base X.mg c P) (hcode : X.env.code = .ref c) (S : GenS X.env scope x) (hi : PSrcF X P iter elt x scope te)
    (hs : ∀ v, genFold iter X.env v = pure v) (I : Inv X pins σ H s) (h : te σ H R)
    (hQ : ∀ n pb H1 g s5, R n pb H1 → ReadyG X pins σ H1 P n pb g s5 → Q' (.ref g) s5) :
    wpAny (model X.prog X.w) X.A (eval (.GeneratorExp elt [⟨.Name x px, iter, [], 0⟩] scope gpos) X.env) Q' X.xe s := by
  refine wpAny_GeneratorExp_walksQD hr.hd S.co (closure_ok S.free) S.cell S.dot S.loc S.kind (by have := hr.dp; omega) ?_ hs
  refine thn (hi pins s σ H R I h) fun xv sv hv => thn hv fun it s2 h2 => ?_
  obtain ⟨s1, H1, hh2, t2, ps, Ia, fp, wr, n, Pf, St₀, pb, I1, rfl, k12, h8, hP, ht, rfl, W, hst, hfp, hPf, hwr, hel, q1⟩ := h2
  have hPs : s1.heap.get? P = some { cls := .none, data := .fields ps } := I1.hok P _ hP
  have hPlt : P < s1.heap.objs.size := Heap.lt_size hPs
  have hP2 : hh2.get? P = some { cls := .none, data := .fields ps } := k12 _ _ hPs
  have cd : PySem.W.CodeHd hh2 c P := TB.code.keeps fun b u e => k12 _ _ (I1.bk b u e)
  have lim2 : hh2.NoLimit := I1.nolimit.keeps k12
  have hcl : cStatics < s1.heap.objs.size := let ⟨_, hns, _⟩ := I1.nolimit; hns.lt
  have cont : ∀ (code : Value) (h3 : Heap) (tk : Nat) (ps' : Array Value), Heap.ExtBut P hh2 h3 → hh2.objs.size ≤ h3.objs.size → h3.get? P = some { cls := .none, data := .fields ps' } → (∃ more, ps' = ps ++ more) → TriplesOk ps'.toList →
      wpAny (model X.prog X.w) X.A (builtinsFor X.env.globals X.env.builtins) (fun bi s₄ =>
        ∃ I fp wr n₀ Pf St₀ pz F, Value.ref Ia = .ref I ∧ (∀ A' : Around, A'.handled = none → Walks X.prog X.w A' I fp wr n₀ Pf St₀) ∧ St₀ 0 s₄.heap ∧ (∀ b ∈ fp, b < s₄.heap.objs.size) ∧ s₄.heap.NoLimit ∧ cStatics ∉ wr ∧
          (∀ href : Heap, (∀ b o, s₄.heap.get? b = some o → href.get? b = some o) →
            QuietGenD X.prog X.w (genEnv scope (cloFrom X.env.cells scope.names []) s₄.heap.objs.size code bi X.env) x [] elt (List.range s₄.heap.objs.size) wr Pf pz F href (X.A.depth + 1) (X.A.units + 8)) ∧
          (∀ a h₅ tk gs, gs.bare = true → s₄.heap.objs.size < a → h₅.objs.size = a + 1 → (∀ b o, s₄.heap.get? b = some o → h₅.get? b = some o) →
            WalksS X.prog X.w X.A.in4 a (a :: s₄.heap.objs.size :: List.range s₄.heap.objs.size) (s₄.heap.objs.size :: wr) (GenOnlyQ s₄.gens.size) (passing pz n₀ 0).length
              (fun j y => ∃ i, (passing pz n₀ 0)[j]? = some i ∧ F i y) (GenAt X.prog X.w X.A.in4 a s₄.gens.size s₄.heap.objs.size (List.range s₄.heap.objs.size) wr pz n₀ F) →
            GenAt X.prog X.w X.A.in4 a s₄.gens.size s₄.heap.objs.size (List.range s₄.heap.objs.size) wr pz n₀ F 0 { s₄ with gens := s₄.gens.push gs, toks := tk, heap := h₅ } →
            Q' (.ref a) { s₄ with gens := s₄.gens.push gs, toks := tk, heap := h₅ })) X.xe { s1 with heap := h3, toks := tk } := by
    intro code h3 tk ps' hx hsz hP3 hmore ht3
    obtain ⟨bm, ob, e1, e2, e3, e4, e5, e6, e7, e8⟩ := TB.bm
    have hcP : cStatics ≠ P := fun e => by
      obtain ⟨_, hns, _⟩ := I1.nolimit
      obtain ⟨o', es, ep, ho, hd, _⟩ := hns
      rw [e, hPs] at ho
      cases ho
      cases hd
    have keep3 : ∀ b u, b ≠ P → s1.heap.get? b = some u → h3.get? b = some u := fun b u hb e => hx b u hb (k12 _ _ e)
    refine wpAny_builtinsFor (m := X.mg) (by rw [I1.ok.glob]; exact ((I1.mod.glob.keeps I1.bk).keeps k12).extBut hx TB.gP) e1 e2 (keep3 _ _ e4 (I1.bk _ _ e5)) e6 e7 e8 ?_
    refine ⟨Ia, fp, wr, n, Pf, St₀, (fun _ => true), (fun i y => y = .bool (pb i)), rfl, W, ?_, fun b hb => Nat.lt_of_lt_of_le (hfp b hb) hsz, lim2.extBut hx hcP, fun z => absurd (hwr _ z) (Nat.not_le.mpr hcl), ?_, ?_⟩
    · exact (W X.A hr.hd).frame _ _ _ hst fun b hb u e => hx b u (fun z => hPf (by rw [← z]; exact hb)) e
    · intro href hhref
      refine ⟨fun A' E' i v s₂ m₂ hA hD hU hPv hn hm hk => ?_, fun A' E' i v s₂ m₂ hA hD hU hPv hp hn hm hk => ?_⟩
      · simp only [List.forIn_nil]
        exact wpAny_pure ⟨rfl, keeps_refl _⟩
      · exact hel _ A' E' i v s₂ m₂ rfl rfl hA hU (fun b o hb hw e => hk b (List.mem_range.mpr (Heap.lt_size (keep3 _ _ hb e))) hw o (hhref _ _ (keep3 _ _ hb e))) hPv hn hm
    · intro g h5 tk5 gs hgb hag hsz5 hk5 W5 hat
      simp only [GxR.passing_true, List.length_range] at W5
      refine hQ n pb H1 g _ q1 ⟨_, _, _, _, _, W5.in4_1, hat, ?_, fun s' hm => ?_⟩
      · intro j y sj Qj Ej hy hQj
        obtain ⟨i, hij, rfl⟩ := hy
        obtain ⟨hj, ej⟩ := List.getElem?_eq_some_iff.mp hij
        rw [List.getElem_range] at ej
        subst ej
        exact wpAny_truthy_bool hQj
      · obtain ⟨more, em⟩ := hmore
        have nwr : ∀ b u, s1.heap.get? b = some u → b ∉ h3.objs.size :: wr := fun b u e hb => by
          have hl := Heap.lt_size e
          rcases List.mem_cons.mp hb with z | z
          · rw [z] at hl
            have h9 : (h3.objs.size : Nat) < s1.heap.objs.size := hl
            omega
          · exact absurd hl (Nat.not_lt.mpr (hwr _ z))
        have J := inv_tab (more := more) (h' := s'.heap) (g' := s'.gens) (d' := s'.drawn) (t' := s'.toks) I1 hP (fun b u hb e => hm.heap b u (nwr b u e) (hk5 b u (keep3 b u hb e)))
          (by rw [← em]; exact hm.heap P _ (nwr P _ hPs) (hk5 P _ hP3)) (AllBare.movedS (I1.bare.push hgb) hm)
        rw [sh_eta s1 s' hm.os] at J
        refine ⟨upd H1 P (.tbl (ps ++ more)), ⟨⟨ps ++ more, upd_same, by rw [← em]; exact ht3⟩, fun b hb => upd_ne hb⟩, J⟩
  refine ⟨lim2, ?_⟩
  cases hf : codeAmong gpos ps.toList with
  | none =>
    refine wpAny_genexprCodeX hcode (cd.code hP2 ht) (cd.tab hP2) hf fun c' h' tk hx hge hlt hco' _ htab' _ => ?_
    obtain ⟨o1, vs, f1, tf, fl, tg, inF, tx, tt, op, _, _, _, _, _, _, _, _, _, htr, _⟩ := hco'
    exact cont _ h' tk _ hx (Nat.le_trans hge (Nat.le_of_lt hlt)) htab'.2 ⟨_, rfl⟩ htr
  | some cv =>
    refine wpAny_genexprCode_hit hcode (cd.code hP2 ht) hf ?_
    exact cont cv hh2 t2 ps (Heap.ExtBut.refl _ _) (Nat.le_refl _) hP2 ⟨#[], by simp⟩ ht
theorem pe_anyF {c P : Addr} {elt iter : Expr} {x : Str} {px p pos gpos : Pos} {scope : Scope} {te : TSrc} {k : Nat}
    (hr : Room k X.A) (hg : Gl X "any") (hm : X.mg "any" = none) (TB : GxR.TabB X.base X.mg c P) (hcode : X.env.code = .ref c) (S : GenS X.env scope x) (hi : PSrcF X P iter elt x scope te)
    (hs : ∀ v, genFold iter X.env v = pure v)
    (he : starEach [.GeneratorExp elt [⟨.Name x px, iter, [], 0⟩] scope gpos] X.env = (false, eval (.GeneratorExp elt [⟨.Name x px, iter, [], 0⟩] scope gpos) X.env) :: starEach [] X.env := by rfl) :
    PE X (.Call (.Name "any" p) [.GeneratorExp elt [⟨.Name x px, iter, [], 0⟩] scope gpos] [] pos) (fun σ H Q => te σ H fun n pb H1 => ∀ H2, Tabbed P H1 H2 → Q (.bl ((List.range n).any pb)) H2) := by
  refine ⟨fun pins s σ H Q I h => ?_⟩
  refine wpAny_Call_Name_kw (ld_blt I hg hm boot_any ?_)
  refine PyProof.Rows.callWith_builtin1 ?_ he (by rfl)
  rw [he]
  show wpAny _ _ (spliced ((false, eval (.GeneratorExp elt [⟨.Name x px, iter, [], 0⟩] scope gpos) X.env) :: backTo pos (starEach [] X.env))) _ _ s
  refine Calls.spliced_cons (gen_srcF (R := fun n pb H1 => ∀ H2, Tabbed P H1 H2 → Q (.bl ((List.range n).any pb)) H2) hr TB hcode S hi hs I h fun n pb H1 g s5 hR hG => ?_)
  obtain ⟨fp, wr, G, F, St, W, hst, htr, hI⟩ := hG
  refine Calls.spliced_nil ?_
  refine call_any_walkS (W.self 0 _ _ _ hst ⟨g, fp, wr, G, _, F, St, _, rfl, W, hst, htr, fun s' hmv => ?_⟩)
  obtain ⟨H2, hT, J⟩ := hI s' hmv
  exact ⟨.bl _, H2, J, rfl, hR H2 hT⟩
theorem pe_allF {c P : Addr} {elt iter : Expr} {x : Str} {px p pos gpos : Pos} {scope : Scope} {te : TSrc} {k : Nat}
    (hr : Room k X.A) (hg : Gl X "all") (hm : X.mg "all" = none) (TB : GxR.TabB X.base X.mg c P) (hcode : X.env.code = .ref c) (S : GenS X.env scope x) (hi : PSrcF X P iter elt x scope te)
    (hs : ∀ v, genFold iter X.env v = pure v)
    (he : starEach [.GeneratorExp elt [⟨.Name x px, iter, [], 0⟩] scope gpos] X.env = (false, eval (.GeneratorExp elt [⟨.Name x px, iter, [], 0⟩] scope gpos) X.env) :: starEach [] X.env := by rfl) :
    PE X (.Call (.Name "all" p) [.GeneratorExp elt [⟨.Name x px, iter, [], 0⟩] scope gpos] [] pos) (fun σ H Q => te σ H fun n pb H1 => ∀ H2, Tabbed P H1 H2 → Q (.bl ((List.range n).all pb)) H2) := by
  refine ⟨fun pins s σ H Q I h => ?_⟩
  refine wpAny_Call_Name_kw (ld_blt I hg hm (u := .builtin "all") (by decide +kernel) ?_)
  refine PyProof.Rows.callWith_builtin1 ?_ he (by rfl)
  rw [he]
  show wpAny _ _ (spliced ((false, eval (.GeneratorExp elt [⟨.Name x px, iter, [], 0⟩] scope gpos) X.env) :: backTo pos (starEach [] X.env))) _ _ s
  refine Calls.spliced_cons (gen_srcF (R := fun n pb H1 => ∀ H2, Tabbed P H1 H2 → Q (.bl ((List.range n).all pb)) H2) hr TB hcode S hi hs I h fun n pb H1 g s5 hR hG => ?_)
  obtain ⟨fp, wr, G, F, St, W, hst, htr, hI⟩ := hG
  refine Calls.spliced_nil ?_
  refine call_all_walkS (W.self 0 _ _ _ hst ⟨g, fp, wr, G, _, F, St, _, rfl, W, hst, htr, fun s' hmv => ?_⟩)
  obtain ⟨H2, hT, J⟩ := hI s' hmv
  exact ⟨.bl _, H2, J, rfl, hR H2 hT⟩

/-! the data read at another heap -/
mutual
theorem reads_keep {h h' : Heap} (k : ∀ b o, o.cls ≠ .none → h.get? b = some o → h'.get? b = some o) : ∀ {v : Value} {d : PyData} {as : List Addr}, Reads h v d as → Reads h' v d as
  | _, _, _, .none => .none
  | _, _, _, .bool b => .bool b
  | _, _, _, .int i t => .int i t
  | _, _, _, .str x t => .str x t
  | _, _, _, .list h1 h2 h3 r => .list (k _ _ (by rw [h2]; exact fun z => by cases z) h1) h2 h3 (readsAll_keep k r)
  | _, _, _, .tuple h1 h2 h3 r => .tuple (k _ _ (by rw [h2]; exact fun z => by cases z) h1) h2 h3 (readsAll_keep k r)
  | _, _, _, .dict h1 h2 h3 r q => .dict (k _ _ (by rw [h2]; exact fun z => by cases z) h1) h2 h3 (readsAll_keep k r) (readsAll_keep k q)
theorem readsAll_keep {h h' : Heap} (k : ∀ b o, o.cls ≠ .none → h.get? b = some o → h'.get? b = some o) : ∀ {v : List Value} {d : List PyData} {as : List Addr}, ReadsAll h v d as → ReadsAll h' v d as
  | _, _, _, .nil => .nil
  | _, _, _, .cons a b => .cons (reads_keep k a) (readsAll_keep k b)
end
theorem readsAll_at {h : Heap} : ∀ {vs : List Value} {ds : List PyData} {as : List Addr} {i : Nat} {v : Value}, ReadsAll h vs ds as → vs[i]? = some v → ∃ d bs, ds[i]? = some d ∧ Reads h v d bs
  | _, _, _, i, v, .nil, e => by simp at e
  | _, _, _, 0, v, .cons a b, e => by cases (Option.some.inj e); exact ⟨_, _, rfl, a⟩
  | _, _, _, i + 1, v, .cons a b, e => by
    obtain ⟨d, bs, h1, h2⟩ := readsAll_at b (i := i) (by simpa using e)
    exact ⟨d, bs, by simpa using h1, h2⟩
/-- the i-th of ds is the first -/
def eq0 (ds : List PyData) (i : Nat) : Bool := PyData.eqv (ds.getD i .none) (ds.getD 0 .none)
def tEq0 (K : PySem.W.Frag) (P : Addr) (i : Nat) : TSrc := fun σ H R => ∃ a vs ds, σ[i]? = some (some (.ref a)) ∧ SqT K H a vs ∧ DpAll K H vs ds ∧ (∀ d ∈ ds, SeqAt.shaped d = true) ∧ TabG H P ∧ R ds.length (eq0 ds) H
theorem psrc_eq0 {P : Addr} {i j : Nat} {x y : Str} {scope : Scope} {p0 p1 p2 p3 p4 p5 : Pos} (hu : X.A.units + 72 < cLine) (hN : X.N[i]? = some y) (hv : Vis X.env.scope y) (hy : X.env.scope.names.lookup y = some .cell) (S : GenS X.env scope x) (hf : scope.names.lookup y = some .free) (hdy : (y == ("__debug__" : Str)) = false := by decide) (hcy : (y == ("__classdict__" : Str)) = false := by decide) (hdx : (x == ("__debug__" : Str)) = false := by decide) :
    PSrcF X P (.Name y p0) (.Compare (.Name x p1) [.Eq] [.Subscript (.Name y p2) (.Constant (.int 0) j p3) p4] p5) x scope (tEq0 X.K P i) := by
  intro pins s σ H R I h
  obtain ⟨a, vs, ds, hs, hq, hd, hsh, ⟨ps, hP, ht⟩, q⟩ := h
  refine thn ((pe_var (pos := p0) hN hv hdy hcy).run pins s σ H (fun v H1 => v = .ref a ∧ H1 = H) I ⟨.ref a, hs, rfl, rfl⟩) fun u s1 ⟨v, H1, I1, rx, ev, eH⟩ => ?_
  subst ev eH
  obtain rfl : u = Value.ref a := rx
  obtain ⟨its, rv, pl, hz⟩ := I1.tuple hq
  obtain ⟨o, ho, hc, n, hdat⟩ := id pl
  have hlt : a < s1.heap.objs.size := Heap.lt_size ho
  have hPlt : P < s1.heap.objs.size := Heap.lt_size (I1.hok P _ hP)
  have hPs : s1.heap.get? P = some { cls := .none, data := .fields ps } := I1.hok P _ hP
  obtain ⟨as, hr⟩ := Dp.readsAll I1 ds vs its hd rv
  have hlen : its.length = ds.length := SeqAt.ReadsAll.length ds its as hr
  obtain ⟨m, hn, hl⟩ := I1.loc
  obtain ⟨u', ru, lk⟩ := hl i y (.ref a) hN hs hv
  obtain rfl : u' = Value.ref a := ru
  obtain ⟨c, hcl, hcell⟩ : ∃ c, X.env.cells.lookup y = some c ∧ s1.heap.IsCell c (some (.ref a)) := by
    rcases lk with ⟨z, _⟩ | ⟨_, z⟩
    · have z : X.env.scope.names.lookup y = some .local := z
      rw [hy] at z; cases z
    · exact z
  have hcP : c ≠ P := fun e => by
    obtain ⟨oc, e1, e2⟩ := hcell
    rw [e, hPs] at e1
    cases e1
    cases e2
  refine wpAny_pyIter_tuple pl ?_
  refine ⟨s1, H1, _, s1.toks, ps, _, [s1.heap.objs.size, a], [s1.heap.objs.size], its.toArray.size, _, _, eq0 ds, I1, rfl, fun b o e => Heap.get?_push_of_some _ e, by rw [Heap.size_push]; exact Nat.le_succ _, hP, ht, rfl, fun A' hA => Walks.tuple hA s1.heap.objs.size a (Nat.ne_of_lt hlt) its.toArray, ⟨⟨_, Heap.get?_push_size _ rfl, rfl, rfl⟩, Heap.IsTuple.at pl fun o e => Heap.get?_push_of_some _ e⟩, ?_, ?_, ?_, ?_, ?_⟩
  · intro b hb
    rw [Heap.size_push]
    rcases (by simpa using hb : b = s1.heap.objs.size ∨ b = a) with rfl | rfl
    · exact Nat.lt_succ_self _
    · exact Nat.lt_succ_of_lt hlt
  · intro hb
    rcases (by simpa using hb : P = s1.heap.objs.size ∨ P = a) with e | e
    · exact Nat.ne_of_lt hPlt e
    · rw [e, ho] at hPs; cases hPs; cases hc
  · intro b hb
    rw [List.mem_singleton.mp hb]; exact Nat.le_refl _
  · intro cenv A' E' k v s₂ m₂ hsc hce hA hU hk hv2 hns hm
    have hkn : ∀ b o, o.cls ≠ .none → s1.heap.get? b = some o → s₂.heap.get? b = some o := fun b o hno e => hk b o (fun z => by rw [z, hPs] at e; cases e; exact hno rfl) (fun z => Nat.lt_irrefl _ (by rw [List.mem_singleton.mp z] at e; exact Heap.lt_size e)) e
    have hi0 : (0 : Nat) < its.length := by
      have hv3 : its[k]? = some v := by simpa using hv2
      have := (List.getElem?_eq_some_iff.mp hv3).1
      omega
    have e0 : its[0]? = some its[0] := List.getElem?_eq_getElem hi0
    have hv3 : its[k]? = some v := by simpa using hv2
    obtain ⟨d0, b0, g1, g2⟩ := readsAll_at hr e0
    obtain ⟨dk, bk, g3, g4⟩ := readsAll_at hr hv3
    have ec : cenv.cells.lookup y = some c := by
      have hmem : (y, NameKind.free) ∈ scope.names := PySem.mem_of_lookup hf
      obtain ⟨c', e'⟩ := mem_lookup (cloFrom_has (cells := X.env.cells) (acc := []) hmem)
      rw [hce, e']
      rcases cloFrom_mem (PySem.mem_of_lookup e') with z | ⟨_, z⟩
      · cases z
      · rw [z, hcl]; rfl
    have kc : s₂.heap.IsCell c (some (.ref a)) := by
      obtain ⟨oc, e1, e2⟩ := hcell
      exact ⟨oc, hk c oc hcP (fun z => Nat.lt_irrefl _ (by rw [List.mem_singleton.mp z] at e1; exact Heap.lt_size e1)) e1, e2⟩
    refine wpAny_Compare1 ?_
    refine wpAny_Name (wpAny_loadName_local (by rw [hsc]; exact S.kind) (show cenv.scope.names.lookup x = some .local by rw [hsc]; exact S.loc) hns hm ?_) hdx
    refine wpAny_Subscript_Constant_late ?_
    refine wpAny_Name (wpAny_loadName_free (by rw [hsc]; exact S.kind) (show cenv.scope.names.lookup y = some .free by rw [hsc]; exact hf) ec kc ?_ hcy) hdy
    refine wpAny_Constant_int ?_
    have ht2 : s₂.heap.IsTuple a its.toArray := Heap.IsTuple.at pl fun o e => by
      rw [ho] at e; cases e
      exact hkn a _ (by rw [hc]; exact fun z => by cases z) ho
    refine ⟨"tuple", _, slot_tuple_getitem.lookup, ht2.typeIs, ?_⟩
    refine PyProof.Rows.getItem_tuple (s := { s₂ with toks := s₂.toks + 1 }) (j := 0) ht2 (by decide) (by decide) ?_ (show its.toArray[0]? = some its[0] by simp) ?_
    · exact seqIndex_of (k := 0) (Int.le_refl 0) (by rw [List.size_toArray]; exact_mod_cast hi0)
    · have r0 := reads_keep hkn g2
      have rk := reads_keep hkn g4
      refine SeqAt.compareEq_shaped (s := { s₂ with toks := s₂.toks + 1 }) rk r0 (hsh _ (List.mem_of_getElem? g3)) (hsh _ (List.mem_of_getElem? g1)) (by omega) ⟨?_, keeps_tok _ _⟩
      unfold eq0
      rw [List.getD_eq_getElem?_getD, List.getD_eq_getElem?_getD, g1, g3]; rfl
  · rw [List.size_toArray, hlen]; exact q
end
section
variable {X : Cx} {T : List TQ} {B : Bs} {ρ : Sl}
theorem pys_get (ds : List D) (i : Nat) : (D.pys ds)[i]? = (ds[i]?).map D.py := by rw [D.pys_map, List.getElem?_map]
theorem all_eq0 (ds : List D) : (List.range ds.length).all (eq0 (D.pys ds)) = ds.all fun d => PyData.eqv d.py (ds.headD .none).py := by
  have h0 : (D.pys ds).getD 0 .none = (ds.headD .none).py := by cases ds <;> rfl
  rw [Bool.eq_iff_iff, List.all_eq_true, List.all_eq_true]
  constructor
  · intro h d hd
    obtain ⟨j, hj, e⟩ := List.getElem_of_mem hd
    have z := h j (List.mem_range.mpr hj)
    unfold eq0 at z
    rw [h0, List.getD_eq_getElem?_getD, pys_get, List.getElem?_eq_getElem hj, e] at z
    exact z
  · intro h j hj
    have hj' := List.mem_range.mp hj
    unfold eq0
    rw [h0, List.getD_eq_getElem?_getD, pys_get, List.getElem?_eq_getElem hj']
    exact h _ (List.getElem_mem hj')
/-- the table has grown, no more -/
theorem sim_tab {K : PySem.W.Frag} {σ : L2.St} {H H2 : Hp} {P : Addr} (S : Sim K T B ρ σ H) (hPT : TQ.tab P ∈ T) (hT : GxR.Tabbed P H H2) : Sim K T B ρ σ H2 ∧ Kp H H2 := by
  have hK : Kp H H2 := fun b o no eb => by
    rw [hT.2 b (fun z => by
      obtain ⟨ps, ep, _⟩ := S.tabs _ hPT
      rw [z, ep] at eb; cases eb; cases no)]
    exact eb
  refine ⟨S.grow hK (fun P' hP' => ?_) fun b hb => ?_, hK⟩
  · cases P' with
    | tab P' =>
      by_cases z : P' = P
      · rw [z]; exact hT.1
      · obtain ⟨ps, ep, t⟩ := S.tabs _ hP'
        exact ⟨ps, by rw [hT.2 P' z]; exact ep, t⟩
    | tup a' xs' => exact hK a' _ rfl (S.tabs _ hP')
  · by_cases z : b = P
    · rw [z]
      obtain ⟨ps, ep, _⟩ := hT.1
      rw [ep]; exact fun y => by cases y
    · rw [hT.2 b z]; exact hb
/-- all(x == y[0] for x in y), y a tuple -/
theorem ex_allEq0 (i : Nat) {c P : Addr} {x y : Str} {scope : Scope} {p0 p1 p2 p3 p4 p5 px p pos gpos : Pos} {j n : Nat} {ds : List D} (hr : Room n X.A) (hg : Gl X "all") (hm : X.mg "all" = none) (TB : GxR.TabB X.base X.mg c P) (hcode : X.env.code = .ref c) (hPT : TQ.tab P ∈ T) (S : GenS X.env scope x)
    (hs0 : ρ[i]? = some (.dat (.tuple ds))) (hN : X.N[i]? = some y) (hv : Vis X.env.scope y) (hy : X.env.scope.names.lookup y = some .cell) (hf : scope.names.lookup y = some .free) (hfine : ∀ d ∈ ds, fine d = true) (hs : ∀ v, genFold (.Name y p0) X.env v = pure v := by intro _; rfl)
    (hdy : (y == ("__debug__" : Str)) = false := by decide) (hcy : (y == ("__classdict__" : Str)) = false := by decide) (hdx : (x == ("__debug__" : Str)) = false := by decide)
    (hst : starEach [.GeneratorExp (.Compare (.Name x p1) [.Eq] [.Subscript (.Name y p2) (.Constant (.int 0) j p3) p4] p5) [⟨.Name x px, .Name y p0, [], 0⟩] scope gpos] X.env = (false, eval (.GeneratorExp (.Compare (.Name x p1) [.Eq] [.Subscript (.Name y p2) (.Constant (.int 0) j p3) p4] p5) [⟨.Name x px, .Name y p0, [], 0⟩] scope gpos) X.env) :: starEach [] X.env := by rfl) :
    EX X T B ρ (.Call (.Name "all" p) [.GeneratorExp (.Compare (.Name x p1) [.Eq] [.Subscript (.Name y p2) (.Constant (.int 0) j p3) p4] p5) [⟨.Name x px, .Name y p0, [], 0⟩] scope gpos] [] pos) [] ρ (.bool (ds.all fun d => PyData.eqv d.py (ds.headD .none).py)) := by
  refine ⟨PE.imp (pe_allF hr hg hm TB hcode S (psrc_eq0 (i := i) (by have := hr.un; omega) hN hv hy S hf hdy hcy hdx) hs hst) fun σ H Q ⟨Sm, q⟩ => ?_, rfl, sub_nil⟩
  obtain ⟨v, q1, q2⟩ := Sm.at_ i _ hs0
  cases q2 with
  | tup h1 h2 =>
    have hpl : plainA ds = true := by
      have : ∀ l : List D, (∀ d ∈ l, fine d = true) → plainA l = true := fun l => by
        induction l with
        | nil => intro _; rfl
        | cons d l ih => intro h; unfold plainA; rw [(fine_of (h d List.mem_cons_self)).1, ih fun x hx => h x (List.mem_cons_of_mem _ hx)]; rfl
      exact this ds hfine
    refine ⟨_, _, D.pys ds, slot_of (K := X.K) (H := H) q1, (Kp.ofmsk _ _).sqT h1, (RpA.mono (Kp.ofmsk _ _) h2).dp hpl, fun d hd => ?_, Sm.tabs _ hPT, fun H2 hT => ?_⟩
    · rw [D.pys_map] at hd
      obtain ⟨d', hd', rfl⟩ := List.mem_map.mp hd
      exact (fine_of (hfine d' hd')).2
    · obtain ⟨S2, hK⟩ := sim_tab Sm hPT hT
      have el : (D.pys ds).length = ds.length := by rw [D.pys_map, List.length_map]
      rw [el, all_eq0]
      exact q _ H2 S2 hK.fx (.bl _)
end
end Dv

set_option maxRecDepth 100000
namespace Dv
open PySem PySem.Spec PyProof.Rows L2
/-! ### slices of lists and of tuples -/
section
variable {prog : Program} {w : World} {A : Around} {E : Value → Shared → Prop} {s : Shared}
theorem adjust_rev (n : Nat) : Builtin.Slice.sliceAdjust none none (-1) (n : Int) = ((n : Int) - 1, -1) := by
  unfold Builtin.Slice.sliceAdjust
  simp
theorem places_rev (n : Nat) : Builtin.Slice.slicePlaces ((n : Int) - 1) (-1) (-1) = n := by
  unfold Builtin.Slice.slicePlaces
  have h1 : ¬ ((-1 : Int) > 0) := by omega
  simp only [h1, if_false]
  by_cases h : (n : Int) - 1 > -1
  · rw [if_pos h, show (-(-1 : Int)) = 1 from rfl, Int.ediv_one]; omega
  · rw [if_neg h]; omega
theorem fm_map {α β : Type} {f : α → Option β} {g : α → β} : ∀ (l : List α), (∀ m ∈ l, f m = some (g m)) → l.filterMap f = l.map g
  | [], _ => rfl
  | a :: l, h => by rw [List.filterMap_cons, h a List.mem_cons_self, List.map_cons, fm_map l fun m hm => h m (List.mem_cons_of_mem _ hm)]
theorem applied_rev {sl : Addr} {vl vu vs : Value} {n : Nat} {Q : Int × Int × Nat → Shared → Prop} (hs : s.heap.IsSliceOf sl vl vu vs) (pl : IsPart vl none) (pu : IsPart vu none) (ps : IsPart vs (some (-1)))
    (h : Q ((n : Int) - 1, -1, n) s) : wpAny (model prog w) A (Builtin.Slice.sliceApplied (.ref sl) (pure (n : Int))) Q E s := by
  obtain ⟨os, hos, hcs, hds⟩ := id hs
  unfold Builtin.Slice.sliceApplied Builtin.Slice.sliceFields
  refine wpAny_bind (wpAny_bind (wpAny_field hos hds (x := vl) rfl (wpAny_bind (wpAny_field hos hds (x := vu) rfl (wpAny_bind (wpAny_field hos hds (x := vs) rfl (wpAny_pure ?_)))))))
  refine wpAny_bind (HT.slicePart_ ps ?_)
  show wpAny _ _ (if ((-1 : Int) == 0) = true then _ else _) _ _ s
  rw [if_neg (by decide)]
  refine wpAny_bind (HT.slicePart_ pl (wpAny_bind (HT.slicePart_ pu (wpAny_bind (wpAny_pure ?_)))))
  show wpAny _ _ (match Builtin.Slice.sliceAdjust none none (-1) (n : Int) with | (lo, hi) => pure (lo, (-1 : Int), Builtin.Slice.slicePlaces lo hi (-1))) _ _ s
  rw [adjust_rev n]
  show wpAny _ _ (pure ((n : Int) - 1, (-1 : Int), Builtin.Slice.slicePlaces ((n : Int) - 1) (-1) (-1))) _ _ s
  rw [places_rev]
  exact wpAny_pure h
theorem getItem_rev {t sl : Addr} {items : Array Value} {vl vu vs : Value} {Q : Value → Shared → Prop} (ht : IsTup s.heap t items) (hs : s.heap.IsSliceOf sl vl vu vs) (pl : IsPart vl none) (pu : IsPart vu none) (ps : IsPart vs (some (-1)))
    (h : Q (.ref s.heap.objs.size) { s with heap := s.heap.push { cls := .type "tuple", data := .seq items.toList.reverse.toArray } })
    (hsz : items.size ≤ sizeLine) : wpAny (model prog w) A (getItem (.ref t) (.ref sl)) Q E s := by
  have hok : sizeOk (.seq items.toList.reverse.toArray) := by
    show items.toList.reverse.toArray.size ≤ sizeLine
    rw [List.size_toArray, List.length_reverse, Array.length_toList]; exact hsz
  obtain ⟨os, hos, hcs, hds⟩ := id hs
  have hTs : s.TypeIs (.ref sl) "slice" := ⟨os, hos, hcs⟩
  unfold getItem
  try with_reducible refine wpAny_holding ?_
  first | refine wpAny_bind (wpAny_pure ?_) | skip
  refine wpAny_bind (wpAny_sequenceKey ht.typeIs (by decide) ?_)
  refine wpAny_bind (wpAny_callSpecial?_slot (name := Str.ofString "__getitem__") ht.typeIs PyProof.Rows.slot_tuple_getitem
    (wpAny_call_entry PyProof.Rows.slot_tuple_getitem ht.typeIs entry_tuple_getitem ?_ (args_tuple_getitem _ _)))
  show wpAny _ _ (Builtin.Tuple.tupleItemsOf (.ref t) >>= _) _ _ s
  refine wpAny_bind (tupleItemsOf_ ht ?_)
  refine wpAny_bind (wpAny_typeOf hTs ?_)
  rw [if_pos (by decide)]
  refine wpAny_bind (applied_rev (n := items.size) hs pl pu ps ?_)
  show wpAny _ _ (if (((items.size : Nat) : Int) - 1 == 0 && (-1 : Int) == 1 && items.size == items.size) = true then _ else _) _ _ s
  rw [if_neg (by simp)]
  have e : ((List.range items.size).filterMap fun (m : Nat) => items[(((items.size : Nat) : Int) - 1 + (m : Int) * -1).toNat]?).toArray = items.toList.reverse.toArray := by
    refine congrArg List.toArray ?_
    rw [fm_map (g := fun m => items.toList.reverse.getD m .none) _ fun m hm => ?_]
    · refine List.ext_getElem? fun i => ?_
      rw [List.getElem?_map]
      by_cases hi : i < items.size
      · rw [List.getElem?_range hi, List.getElem?_eq_getElem (by simpa using hi)]
        simp only [Option.map_some, List.getD_eq_getElem?_getD]
        rw [List.getElem?_eq_getElem (by simpa using hi)]; rfl
      · rw [List.getElem?_eq_none (by simpa using hi), List.getElem?_eq_none (by simpa using hi)]; rfl
    · have hm := List.mem_range.mp hm
      have e : (((items.size : Nat) : Int) - 1 + (m : Int) * -1).toNat = items.size - 1 - m := by omega
      rw [e, List.getD_eq_getElem?_getD, List.getElem?_reverse (by simpa using hm), Array.getElem?_toList]
      rw [Array.length_toList, Array.getElem?_eq_getElem (by omega)]; rfl
  rw [e]
  first
    | exact wpAny_bind (m := Builtin.Tuple.tupleExact _) (wpAny_newObj_type (wpAny_pure ⟨_, rfl, wpAny_pure h⟩) hok)
    | exact wpAny_bind (m := Builtin.Tuple.tupleExact _) (wpAny_newObj_type (wpAny_bind (wpAny_pure (wpAny_pure ⟨_, rfl, wpAny_pure h⟩))) hok)
    | exact wpAny_bind (wpAny_bind (m := Builtin.Tuple.tupleExact _) (wpAny_newObj_type (wpAny_pure (wpAny_pure ⟨_, rfl, wpAny_pure h⟩)) hok))
    | exact wpAny_bind (wpAny_bind (m := Builtin.Tuple.tupleExact _) (wpAny_newObj_type (wpAny_pure ⟨_, rfl, wpAny_pure h⟩) hok))
end
section
variable {X : Cx}
/-- t[::-1] -/
def tRevT (K : PySem.W.Frag) (te : TE) : TE := fun σ H Q => te σ H fun x H1 => ∃ a xs, x = .ref a ∧ SqT K H1 a xs ∧ ∀ p, H1 p = none → Q (.ref p) (upd H1 p (.tup xs.reverse))
theorem pe_revT {e : Expr} {te : TE} {k : Nat} {p1 p2 p3 pos : Pos} (he : PE X e te) : PE X (.Subscript e (.Slice none none (some (.UnaryOp .USub (.Constant (.int 1) k p1) p2)) p3) pos) (tRevT X.K te) := by
  refine ⟨fun pins s σ H Q I h => ?_⟩
  refine Subscript_ (thn (he.run pins s σ H _ I h) fun v s1 ⟨x, H1, I1, r1, q1⟩ => ?_)
  obtain ⟨a, xs, ex, hx, q⟩ := q1
  subst ex
  cases r1
  have hst : PO X (some (.UnaryOp .USub (.Constant (.int 1) k p1) p2)) (tPart (tUn (rU fun i => .int (-i)) (tC (.int 1)))) := po_some (pe_un un_neg pe_int)
  refine wpAny_Slice (thn (po_none.run pins s1 σ H1 (fun o H2 => o = none ∧ H2 = H1) I1 ⟨rfl, rfl⟩) fun vl s2 ⟨l, H2, I2, pl, el, e2⟩ => ?_)
  subst el e2
  refine thn (po_none.run pins s2 σ H2 (fun o H3 => o = none ∧ H3 = H2) I2 ⟨rfl, rfl⟩) fun vu s3 ⟨u, H3, I3, pu, eu, e3⟩ => ?_
  subst eu e3
  refine thn (hst.run pins s3 σ H3 (fun o H4 => o = some (-1) ∧ H4 = H3) I3 ⟨1, rfl, -1, rfl, rfl, rfl⟩) fun vs s4 ⟨o, H4, I4, ps, eo, e4⟩ => ?_
  subst eo e4
  have I5 : Inv X pins σ H4 { s4 with heap := s4.heap.push { cls := .type "slice", data := .fields #[vl, vu, vs] } } := I4.kept (t' := s4.toks) fun b ob q => Heap.get?_push_of_some _ q
  obtain ⟨its, r, ht, hz⟩ := I5.tuple hx
  have hlen := r.length
  show wpAny (model X.prog X.w) X.A (subscriptTail e (.Slice none none (some (.UnaryOp .USub (.Constant (.int 1) k p1) p2)) p3) (.ref a) (.ref s4.heap.objs.size)) (EP X pins σ Q) X.xe { s4 with heap := s4.heap.push { cls := .type "slice", data := .fields #[vl, vu, vs] } }
  refine tail_any (ops := [.ref a, .ref s4.heap.objs.size]) ht.typeIs (slot_tuple_getitem.lookup) ?_ (by with_unfolding_all rfl)
  refine getItem_rev ht (Heap.IsSliceOf.new _ vl vu vs) pl pu ps ?_ (by rw [List.size_toArray]; omega)
  refine ⟨.ref _, _, I5.laid (t' := s4.toks) (o := .tup xs.reverse) (fun b ob q => Heap.get?_push_of_some _ q) (Nat.le_refl _) ?_, rfl, q _ (I5.hok.fresh (Nat.le_refl _))⟩
  exact ⟨by rw [List.length_reverse]; exact hz, _, r.reverse, IsTup.new _ _⟩
end
section
variable {X : Cx} {T : List TQ} {B : Bs} {ρ ρ1 ρ2 : Sl} {W W1 W2 : List Addr} {a b : Expr} {ds : List D} {pos p2 : Pos} {n : Nat}
theorem ex_revT {k : Nat} {p1 p3 p4 : Pos} (h : EX X T B ρ a W ρ1 (.tuple ds)) : EX X T B ρ (.Subscript a (.Slice none none (some (.UnaryOp .USub (.Constant (.int 1) k p1) p3)) p4) pos) W ρ1 (.tuple ds.reverse) :=
  ⟨PE.imp (pe_revT h.run) fun σ H Q ⟨S, q⟩ => ⟨S, fun x H1 S1 f1 r1 => by
    cases r1 with
    | tup h1 h2 => exact ⟨_, _, rfl, SqT.of (msk_some h1).2, fun p np => q _ _ (S1.new np) (f1.transN (Fx.new np)) (.tup (msk_new S1 np) (h2.reverse.mono (kp_new np)))⟩⟩, h.own, h.sub⟩
/-- xs[i:], a list -/
theorem ex_sliceFr (ha : EX X T B ρ a W1 ρ1 (.list ds)) (hb : EX X T B ρ1 b W2 ρ2 (.int (n : Int))) : EX X T B ρ (.Subscript a (.Slice (some b) none none p2) pos) (W1 ++ W2) ρ2 (.list (ds.drop n)) := by
  refine ⟨PE.imp (pe_slice sl_list ha.run (po_to hb) po_none) fun σ H Q ⟨S, q⟩ => ⟨S, fun x H1 S1 f1 r1 => ⟨S1, fun H2 S2 f2 => ?_⟩⟩, hb.own.trans ha.own, sub_app ha.sub ha.own hb.sub⟩
  have r1' := carry hb f2 r1
  cases r1' with
  | lst h1 h2 =>
    rename_i a' xs'
    refine ⟨_, _, rfl, (Kp.ofmsk _ _).sqL h1, fun p np => q _ _ (S2.new np) ((f1.trans f2).transN (Fx.new np)) (.lst (SqL.of (msk_new S2 np)) ?_)⟩
    have z := (cutV_len h2 (some (n : Int)) none).mono (kp_new (o := .lst (cutV xs' (some (n : Int)) none)) np)
    have e : ((ds.drop (HT.sIx ds.length 0 (some (n : Int)))).take (HT.sIx ds.length ds.length none - HT.sIx ds.length 0 (some (n : Int)))) = ds.drop n := by
      rw [HT.sIx_none, HT.sIx_nat]
      by_cases q : n ≤ ds.length
      · rw [Nat.min_eq_left q, List.take_of_length_le (by rw [List.length_drop]; exact Nat.le_refl _)]
      · rw [Nat.min_eq_right (by omega), List.drop_of_length_le (by omega), List.drop_of_length_le (by omega), List.take_nil]
    rw [e] at z
    exact z
theorem cut_all {xs : List V} {lo hi : Option Int} (h : HT.sIx xs.length 0 lo = 0 ∧ HT.sIx xs.length xs.length hi = xs.length) : cutV xs lo hi = xs := by
  unfold cutV
  rw [h.1, h.2, List.drop_zero, Nat.sub_zero, List.take_length]
/-- t[lo:hi], a tuple -/
theorem tup_cut {K : PySem.W.Frag} {σ : L2.St} {H H2 : Hp} {W : List Addr} {a' : Addr} {xs : List V} {es : List D} {lo hi : Option Int} {Q : V → Hp → Prop} (S2 : Sim K T B ρ2 σ H2) (f : Fx W H H2) (h1 : Tt (msk (B.all ρ2) H2) a' xs) (h2 : RpA K (msk (B.all ρ2) H2) xs ds) (he : (ds.drop (HT.sIx ds.length 0 lo)).take (HT.sIx ds.length ds.length hi - HT.sIx ds.length 0 lo) = es)
    (q : ∀ v H', Sim K T B ρ2 σ H' → Fx W H H' → Rp K (msk (B.all ρ2) H') v (.tuple es) → Q v H') : rSlA K (.ref a') lo hi H2 Q := by
  refine ⟨_, xs, rfl, SqT.of (msk_some h1).2, fun hw => q _ H2 S2 f ?_, fun _ p np => q _ _ (S2.new np) (f.transN (Fx.new np)) ?_⟩
  · have z := cutV_len h2 lo hi
    rw [cut_all hw, he] at z
    exact .tup h1 z
  · have z := (cutV_len h2 lo hi).mono (kp_new (o := .tup (cutV xs lo hi)) np)
    rw [he] at z
    exact .tup (msk_new S2 np) z
theorem ex_sliceToT (ha : EX X T B ρ a W1 ρ1 (.tuple ds)) (hb : EX X T B ρ1 b W2 ρ2 (.int (n : Int))) : EX X T B ρ (.Subscript a (.Slice none (some b) none p2) pos) (W1 ++ W2) ρ2 (.tuple (ds.take n)) := by
  refine ⟨PE.imp (pe_slice sl_tupA ha.run po_none (po_to hb)) fun σ H Q ⟨S, q⟩ => ⟨S, fun x H1 S1 f1 r1 => ⟨S1, fun H2 S2 f2 => ?_⟩⟩, hb.own.trans ha.own, sub_app ha.sub ha.own hb.sub⟩
  have r1' := carry hb f2 r1
  cases r1' with
  | tup h1 h2 =>
    refine tup_cut S2 (f1.trans f2) h1 h2 ?_ q
    rw [HT.sIx_none, HT.sIx_nat, List.drop_zero, Nat.sub_zero]
    by_cases q : n ≤ ds.length
    · rw [Nat.min_eq_left q]
    · rw [Nat.min_eq_right (by omega), List.take_length, List.take_of_length_le (by omega)]
theorem ex_sliceFrT (ha : EX X T B ρ a W1 ρ1 (.tuple ds)) (hb : EX X T B ρ1 b W2 ρ2 (.int (n : Int))) : EX X T B ρ (.Subscript a (.Slice (some b) none none p2) pos) (W1 ++ W2) ρ2 (.tuple (ds.drop n)) := by
  refine ⟨PE.imp (pe_slice sl_tupA ha.run (po_to hb) po_none) fun σ H Q ⟨S, q⟩ => ⟨S, fun x H1 S1 f1 r1 => ⟨S1, fun H2 S2 f2 => ?_⟩⟩, hb.own.trans ha.own, sub_app ha.sub ha.own hb.sub⟩
  have r1' := carry hb f2 r1
  cases r1' with
  | tup h1 h2 =>
    refine tup_cut S2 (f1.trans f2) h1 h2 ?_ q
    rw [HT.sIx_none, HT.sIx_nat]
    by_cases q : n ≤ ds.length
    · rw [Nat.min_eq_left q, List.take_of_length_le (by rw [List.length_drop]; exact Nat.le_refl _)]
    · rw [Nat.min_eq_right (by omega), List.drop_of_length_le (by omega), List.drop_of_length_le (by omega), List.take_nil]
end
end Dv

set_option maxRecDepth 100000
namespace Dv
open PySem PySem.Spec PyProof.Rows L2
section
variable {X : Cx} {T : List TQ} {B : Bs} {ρ ρ1 ρ2 : Sl} {W W1 W2 : List Addr} {a b : Expr} {pos p p2 : Pos}
/-- a, a + 1, .., b - 1 -/
def rgI (a b : Int) : List Int := (List.range (b - a).toNat).map fun i : Nat => a + (i : Int)
theorem rgI_len (a b : Int) : (rgI a b).length = (b - a).toNat := by unfold rgI; rw [List.length_map, List.length_range]
theorem rgV_rp {K : PySem.W.Frag} {H : Hp} (a b : Int) : RpA K H (rgV a b) ((rgI a b).map .int) := by
  have e : rgV a b = (rgI a b).map V.int := by unfold rgV rgI; rw [List.map_map]; rfl
  rw [e]
  exact RpA.of_ints _
/-- list(range(a, b)) -/
theorem eo_listRg2 {i j : Int} (hc : X.calm = true) (hg : Gl X "list") (hm : X.mg "list" = none) (hg2 : Gl X "range") (hm2 : X.mg "range" = none) (ha : EX X T B ρ a W1 ρ1 (.int i)) (hb : EX X T B ρ1 b W2 ρ2 (.int j)) (ho : RgOk i j)
    (na : starEach [a, b] X.env = (false, eval a X.env) :: starEach [b] X.env := by rfl) (nb : starEach [b] X.env = (false, eval b X.env) :: starEach [] X.env := by rfl) (hpl : (backTo p2 (starEach [b] X.env)).any (·.1) = false := by rfl)
    (ne : starEach [.Call (.Name "range" p) [a, b] [] p2] X.env = (false, eval (.Call (.Name "range" p) [a, b] [] p2) X.env) :: starEach [] X.env := by rfl) {q : Pos} :
    EO X T B ρ (.Call (.Name "list" q) [.Call (.Name "range" p) [a, b] [] p2] [] pos) (W1 ++ W2) ρ2 ((rgI i j).map .int) := by
  refine ⟨PE.imp (pe_listRg hc hg hm (prg_2 hg2 hm2 ha.run hb.run na nb hpl) ne) fun σ H Q ⟨S, q⟩ => ⟨S, fun v H1 S1 f1 r1 => ⟨S1, fun w H2 S2 f2 r2 => ?_⟩⟩, hb.own.trans ha.own, sub_app ha.sub ha.own hb.sub⟩
  exact ⟨i, j, int_of r1, int_of r2, ho, fun p np => q p _ _ (free_H0 S2 np) (sim_add S2 np rfl) ((f1.trans f2).transN (Fx.new np)) upd_same (S2.free np) (rgV_rp i j)⟩
/-- list(range(a)) -/
theorem eo_listRg1 {j : Int} (hc : X.calm = true) (hg : Gl X "list") (hm : X.mg "list" = none) (hg2 : Gl X "range") (hm2 : X.mg "range" = none) (ha : EX X T B ρ a W ρ1 (.int j)) (ho : RgOk 0 j)
    (na : starEach [a] X.env = (false, eval a X.env) :: starEach [] X.env := by rfl)
    (ne : starEach [.Call (.Name "range" p) [a] [] p2] X.env = (false, eval (.Call (.Name "range" p) [a] [] p2) X.env) :: starEach [] X.env := by rfl) {q : Pos} :
    EO X T B ρ (.Call (.Name "list" q) [.Call (.Name "range" p) [a] [] p2] [] pos) W ρ1 ((rgI 0 j).map .int) := by
  refine ⟨PE.imp (pe_listRg hc hg hm (prg_1 hg2 hm2 ha.run na) ne) fun σ H Q ⟨S, q⟩ => ⟨S, fun v H1 S1 f1 r1 => ?_⟩, ha.own, ha.sub⟩
  exact ⟨j, int_of r1, ho, fun p np => q p _ _ (free_H0 S1 np) (sim_add S1 np rfl) (f1.transN (Fx.new np)) upd_same (S1.free np) (rgV_rp 0 j)⟩
theorem tx_notB {i j : Bool} (h : R2 X T B ρ a b W ρ1 (.bool i) (.bool j)) : TX X T B ρ (.Compare a [.IsNot] [b] pos) W ρ1 (!decide (i = j)) :=
  tx_cmp op_notBl h (nomark _) (fun x y H Q r1 r2 q => ⟨i, j, bl_of r1, bl_of r2, q⟩)
/-- a sign not in a text -/
theorem tx_notIn1 {c : Nat} {z : Str} (h : R2 X T B ρ a b W ρ1 (.str ⟨#[c]⟩) (.str z)) (hm : behindInMarks .NotIn b = false := by rfl) : TX X T B ρ (.Compare a [.NotIn] [b] pos) W ρ1 (!decide (c ∈ z.cps.toList)) :=
  tx_cmp op_notIn_sign h hm (fun x y H Q r1 r2 q => ⟨c, z, str_of r1, str_of r2, q⟩)
end
end Dv

set_option maxRecDepth 100000
namespace Dv
open PySem PySem.Spec PyProof.Rows L2
/-! ### the number of generators never falls -/
theorem runs_gens {M : Model} {Γ : PySem.Ctx} {p : Pos} {t : Sem _root_.PySem.Fin} {fs : List Frame} {s s' : Shared} {e : End} (h : Runs M Γ p t fs s e s') : s.gens.size ≤ s'.gens.size := by
  induction h <;> (try simp only [Shared.setGen, Array.size_setIfInBounds, Array.size_push] at *) <;> omega
theorem set_gens (s : Shared) (g : Nat) (x : GenState) : (s.setGen g x).gens.size = s.gens.size := by simp [Shared.setGen]
theorem wakes_gens {M : Model} {Γ : PySem.Ctx} {p : Pos} {g : Nat} {r : Resume} {s s' : Shared} {res : GenResult} (h : Wakes M Γ p g r s res s') : s.gens.size ≤ s'.gens.size := by
  have run : ∀ {Γ' : PySem.Ctx} {p' : Pos} {t' : Sem _root_.PySem.Fin} {fs' : List Frame} {e' : End} {u : Shared} {x : GenState}, Runs M Γ' p' t' fs' (s.setGen g .running) e' u → s.gens.size ≤ (u.setGen g x).gens.size := fun hr => by
    rw [set_gens]
    have z := runs_gens hr
    rw [set_gens] at z
    exact z
  unfold Wakes at h
  split at h
  · exact h.elim
  · split at h
    · obtain ⟨e₁, s₁, hr, _, _, rfl⟩ := h; exact run hr
    · rw [h.2]; first | exact Nat.le_refl _ | exact Nat.le_of_eq (set_gens _ _ _).symm
    · rw [h.2]; first | exact Nat.le_refl _ | exact Nat.le_of_eq (set_gens _ _ _).symm
  · obtain ⟨e₁, s₁, hr, _, _, rfl⟩ := h; exact run hr
  · rw [h.2]; exact Nat.le_refl _
  · rw [h.2]; exact Nat.le_refl _
theorem sem_gens {α : Type} (M : Model) (Γ : PySem.Ctx) (n : Nat) (t : Sem α) : ∀ (Q : α → Pos → Shared → Prop) (E : Value → Pos → Shared → Prop) (p : Pos) (s : Shared), n ≤ s.gens.size → Sem.wp M Γ t Q E p s →
    Sem.wp M Γ t (fun a p' s' => n ≤ s'.gens.size ∧ Q a p' s') (fun e p' s' => n ≤ s'.gens.size ∧ E e p' s') p s := by
  induction t with
  | pure a => exact fun Q E p s hn h => ⟨hn, h⟩
  | raise e => exact fun Q E p s hn h => ⟨hn, h⟩
  | unsupported _ => exact fun Q E p s _ h => h
  | finish _ => exact fun Q E p s _ h => h
  | rule _ k ih => exact fun Q E p s hn h => ih () Q E p s hn h
  | «at» p' k ih => exact fun Q E p s hn h => ih () Q E p' s hn h
  | load a _ k ih => exact fun Q E p s hn ⟨o, ho, h⟩ => ⟨o, ho, ih o Q E p s hn h⟩
  | update a _ f k ih => exact fun Q E p s hn h => ⟨h.1, ih () Q E p _ hn h.2⟩
  | loadIfAlive a k ih => exact fun Q E p s hn h => ih _ Q E p s hn h
  | point _ k ih => exact fun Q E p s hn h => ih () Q E p s hn h
  | register _ _ => exact fun Q E p s _ h => h
  | alloc o k ih => exact fun Q E p s hn h => ih _ Q E p _ hn h
  | fresh k ih => exact fun Q E p s hn h => ih _ Q E p _ hn h
  | ask k ih => exact fun Q E p s hn h => ih _ Q E p s hn h
  | choose src m k ih => exact fun Q E p s hn h => ⟨h.1, ih _ Q E p _ hn h.2⟩
  | os q _ k ih => exact fun Q E p s hn h => ih _ Q E p _ hn h
  | call c hd _ _ k ih => exact fun Q E p s hn ⟨r, s', hr, h⟩ => ⟨r, s', hr, ih r Q E p s' (Nat.le_trans hn (runs_gens hr)) h⟩
  | handled own k ih => exact fun Q E p s hn h => ih _ Q E p s hn h
  | genState g k ih => exact fun Q E p s hn ⟨st, hs, h⟩ => ⟨st, hs, ih _ Q E p s hn h⟩
  | newGen c k ih => exact fun Q E p s hn h => ih _ Q E p _ (by rw [Array.size_push]; omega) h
  | resume g r _ k ih => exact fun Q E p s hn ⟨res, s', hw, h⟩ => ⟨res, s', hw, ih res Q E p s' (Nat.le_trans hn (wakes_gens hw)) h⟩
  | yield _ _ _ _ => exact fun Q E p s _ h => h
  | stack k ih => exact fun Q E p s hn h => ih _ Q E p s hn h
  | fork _ _ => exact fun Q E p s _ h => h
  | thread k ih => exact fun Q E p s hn h => ih _ Q E p s hn h
  | await _ _ _ _ _ => exact fun Q E p s _ h => h
theorem wp_gens {α : Type} {M : Model} {A : Around} {s : Shared} {t : Sem α} {Q : α → Shared → Prop} {E : Value → Shared → Prop}
    (h : wpAny M A t (fun a s' => s.gens.size ≤ s'.gens.size → Q a s') (fun e s' => s.gens.size ≤ s'.gens.size → E e s') s) : wpAny M A t Q E s :=
  wpAny_mono (Q := fun a s' => s.gens.size ≤ s'.gens.size ∧ (s.gens.size ≤ s'.gens.size → Q a s')) (E := fun e s' => s.gens.size ≤ s'.gens.size ∧ (s.gens.size ≤ s'.gens.size → E e s'))
    (fun Γ p hΓ => sem_gens M Γ _ t _ _ p s (Nat.le_refl _) (h Γ p hΓ)) (fun _ _ x => x.2 x.1) (fun _ _ x => x.2 x.1)
/-- the number of generators says nothing to what is held -/
theorem inv_gens {X : Cx} {pins : List (Addr × Obj)} {σ : L2.St} {H : Hp} {s : Shared} (I : Inv X pins σ H s) {g' : Array GenState} (hg : AllBare g') : Inv X pins σ H { s with gens := g' } :=
  ⟨I.ok, I.os, hg, I.base, I.loc, I.cell, I.free, I.freeC, I.pin, I.hok, I.len⟩
end Dv

set_option maxRecDepth 100000
set_option maxHeartbeats 1000000
namespace Dv
open PySem PySem.Spec PyProof.Rows L2 GxR
/-! ### the frame of a generator expression, as a context of its own -/
abbrev gEnv (X : Cx) (scope : Scope) (C : Addr) (code : Value) : Env := genEnv scope (cloFrom X.env.cells scope.names []) C code builtinsNs X.env
/-- the context of a turn: s, H stand ahead of the frame's making, the walked thing's records at fp -/
abbrev Gk (X : Cx) (e : Expr) (scope : Scope) (s : Shared) (H : Hp) (C : Addr) (code : Value) (it : Addr) (fp : List Addr) : Cx :=
  { X with A := X.A.in1.in1.over (.compLoop e 0 (.ref it) .none (gEnv X scope C code)) [], s_0 := s, H_0 := H, env := gEnv X scope C code, outer := X.stack, stack := gEnv X scope C code :: X.stack, ex := fp, fn := fun _ => false, calm := true, pn := [], xe := fun _ _ => False }
section
variable {X : Cx} {pins : List (Addr × Obj)} {σ : L2.St} {H : Hp} {s : Shared} {elt tg iter : Expr} {ifs : List Expr} {scope : Scope} {gpos : Pos}
abbrev gX (elt tg iter : Expr) (ifs : List Expr) (scope : Scope) (gpos : Pos) : Expr := .GeneratorExp elt [⟨tg, iter, ifs, 0⟩] scope gpos
theorem over_frames {A : Around} {l : List Env} {it acc : Value} {env : Env} (h : A.frames = some l) : (A.over (.compLoop (gX elt tg iter ifs scope gpos) 0 it acc env) []).frames = some (env :: l) := by
  show pushEnvs [env] (pushEnvs [] A.frames) = _
  rw [h]; rfl
theorem over_depth {A : Around} {it acc : Value} {env : Env} : (A.over (.compLoop (gX elt tg iter ifs scope gpos) 0 it acc env) []).depth = A.depth + 1 := rfl
theorem over_units {A : Around} {it acc : Value} {env : Env} : (A.over (.compLoop (gX elt tg iter ifs scope gpos) 0 it acc env) []).units = A.units + 3 := rfl
theorem room_gk {k : Nat} {C it : Addr} {code : Value} {fp : List Addr} (r : Room (k + 1) X.A) : Room k (Gk X (gX elt tg iter ifs scope gpos) scope s H C code it fp).A :=
  ⟨r.hd, by have := r.dp; show X.A.depth + 1 + 3 * k + 5 < _; omega, by have := r.un; show X.A.units + 1 + 1 + 3 + 16 * k + 200 < _; omega⟩
/-- the generator's scope: no name of its own is captured -/
structure GenB (scope : Scope) : Prop where
  co : scope.isCoroutine = false
  cell : ∀ y ∈ scope.names, y.2 ≠ .cell
  dot : scope.names.lookup (".0" : Str) = some NameKind.local
theorem gen_start {own : List (Str × Nat)} {code : Value} {it : Addr} {fp : List Addr} {h' : Heap} {g' : Array GenState} {tk : Nat} {m0 : Str → Option Value} (I : Inv X pins σ H s) (hd : X.A.handled = none) (ok : BlkOk X.N X.env.scope scope own) (G : GenB scope) (hN : X.N.Nodup) (hfp : ∀ b ∈ fp, FpOk X pins H b ∧ b < s.heap.objs.size)
    (hns : h'.Ns s.heap.objs.size m0) (kp : ∀ b o, s.heap.get? b = some o → h'.get? b = some o) (hg : AllBare g') :
    Inv (Gk X (gX elt tg iter ifs scope gpos) scope s H s.heap.objs.size code it fp) [] (wipe σ (own.map (·.2))) H { s with heap := h', gens := g', toks := tk } := by
  have hfree : ∀ y ∈ scope.names, y.2 = .free → ∃ c, X.env.cells.lookup y.1 = some c := fun y hy e => by
    rcases ok.free y hy e with k | k
    · exact I.ok.has _ (.inl k)
    · exact I.ok.has _ (.inr k)
  have mem : ∀ {y c}, (cloFrom X.env.cells scope.names []).lookup y = some c → X.env.cells.lookup y = some c ∧ c < s.heap.objs.size := fun {y c} e => by
    rcases cloFrom_mem (PySem.mem_of_lookup e) with hm | ⟨h1, rfl⟩
    · cases hm
    · obtain ⟨c, hc⟩ := hfree _ h1 rfl
      rw [hc]
      obtain ⟨w, z⟩ := I.cell _ _ hc
      exact ⟨rfl, z.lt⟩
  have look : ∀ {y}, scope.names.lookup y = some .free → ∃ c, (cloFrom X.env.cells scope.names []).lookup y = some c ∧ X.env.cells.lookup y = some c := fun {y} hl => by
    obtain ⟨c', e'⟩ := mem_lookup (cloFrom_has (cells := X.env.cells) (acc := []) (PySem.mem_of_lookup hl))
    exact ⟨c', e', (mem e').1⟩
  have nocell : ∀ {y}, scope.names.lookup y ≠ some .cell := fun {y} h => G.cell _ (PySem.mem_of_lookup h) rfl
  have okB : (Gk X (gX elt tg iter ifs scope gpos) scope s H s.heap.objs.size code it fp).Ok := by
    refine ⟨I.ok.mod, ok.kind, I.ok.glob, rfl, Nat.le_refl _, fun y z c e1 e2 => ?_, fun y hy => ?_, fun y c z e => absurd z (by simp), fun _ => hd, over_frames I.ok.frames, .inr ⟨rfl, rfl⟩, fun b hb => ⟨?_, fun y c e z => ?_⟩, I.bs, Nat.le_trans I.ok.bsz I.sz, fun b o e hb => ?_, fun b hb z => ?_, I.stack, I.stkFree⟩
    · exact I.ok.inj y z c (mem e1).1 (mem e2).1
    · rcases hy with hy | hy
      · exact absurd (show scope.names.lookup y = some .cell from hy) nocell
      · have hy : scope.names.lookup y = some .free := hy
        obtain ⟨c, h1, _⟩ := look hy
        exact ⟨c, h1⟩
    · exact Nat.ne_of_lt (hfp b hb).2
    · exact (hfp b hb).1.2.2.2.2.1 y c (mem e).1 z
    · rcases (hfp b hb).1.2.2.2.1 with z | z
      · exact I.ok.noex b o e z
      · exact absurd (Nat.lt_of_lt_of_le (Heap.lt_size e) (Nat.le_trans I.ok.bsz z)) (Nat.lt_irrefl _)
    · rcases List.mem_cons.mp (I.stkSub b z) with z | z
      · exact (hfp b hb).1.2.1 z
      · exact (hfp b hb).1.2.2.1 z
  refine ⟨okB, rfl, hg, Un.kept kp, ⟨m0, hns, fun i y av e1 e2 e3 => ?_⟩, fun y c e => ?_, I.hok.fresh (Nat.le_refl _), fun y c e => I.freeC y c (mem e).1, fun p hp => absurd (show p ∈ ([] : List (Addr × Obj)) ++ [] from hp) (by simp), I.hok.kept kp, by rw [wipe_length]; exact I.len⟩
  · obtain ⟨e2, hne⟩ := wipe_some e2
    have e3 : Vis scope y := e3
    have own' : ¬ (scope.names.lookup y = some .local) := fun e => by
      rcases ok.own _ (PySem.mem_of_lookup e) (.inl rfl) with e' | e'
      · obtain ⟨p, hp, hpy⟩ := List.mem_map.mp e'
        have e3 := ok.ix p hp
        have : p.1 = y := hpy
        rw [this] at e3
        exact hne (List.mem_map.mpr ⟨p, hp, nodup_ix hN e3 e1⟩)
      · exact e' (List.mem_of_getElem? e1)
    have hfr : scope.names.lookup y = some .free := by
      rcases e3 with e3 | e3 | e3
      · exact absurd e3 own'
      · exact absurd rfl (G.cell _ (PySem.mem_of_lookup e3))
      · exact e3
    obtain ⟨m, hn, hl⟩ := I.loc
    have hvis : Vis X.env.scope y := (ok.free _ (PySem.mem_of_lookup hfr) rfl).elim (fun k => .inr (.inl k)) (fun k => .inr (.inr k))
    obtain ⟨w, r, q⟩ := hl i y av e1 e2 hvis
    refine ⟨w, r, .inr ⟨.inr hfr, ?_⟩⟩
    obtain ⟨c, h1, h2⟩ := look hfr
    rcases q with ⟨k, _⟩ | ⟨_, c', e', z⟩
    · have k : X.env.scope.names.lookup y = some .local := k
      rcases ok.free _ (PySem.mem_of_lookup hfr) rfl with k' | k' <;> rw [show X.env.scope.names.lookup y = _ from k'] at k <;> cases k
    · rw [h2] at e'; cases e'
      exact ⟨c, h1, z.keeps kp⟩
  · obtain ⟨w, z⟩ := I.cell y c (mem e).1
    exact ⟨w, z.keeps kp⟩
end
end Dv

set_option maxRecDepth 100000
set_option maxHeartbeats 1000000
namespace Dv
open PySem PySem.Spec PyProof.Rows L2 GxR
/-! ### a generator's turns -/
/-- ahead of turn i, m the measure (below n) -/
def Rdy (X' : Cx) (pa : List (Addr × Obj)) (σ0 : L2.St) (fp : List Addr) (tn : Nat → Heap → Prop) (W : Nat → Nat → Hp → Prop) (n : Nat) (s : Shared) : Prop :=
  ∃ i m H, m < n ∧ Inv X' pa σ0 H s ∧ tn i s.heap ∧ (∀ b ∈ fp, H b = none) ∧ W i m H
/-- an end -/
def GEnd (X' : Cx) (pa : List (Addr × Obj)) (Qb : Hp → Prop) (s : Shared) : Prop := ∃ σ H, Inv X' pa σ H s ∧ Qb H
def gY (X' : Cx) (pa : List (Addr × Obj)) (σ0 : L2.St) (fp : List Addr) (tn : Nat → Heap → Prop) (W : Nat → Nat → Hp → Prop) (stop : Bool) (QS : Hp → Prop) : Protocol := fun n _ v s kap =>
  ∃ k, v = .bool k ∧ (k = stop → GEnd X' pa QS s) ∧ (k ≠ stop → Rdy X' pa σ0 fp tn W n s ∧ ∀ s'', Rdy X' pa σ0 fp tn W n s'' → kap (.send .none) s'')
def gR (X' : Cx) (pa : List (Addr × Obj)) (QE : Hp → Prop) : GenEnd := fun _ _ r s => r = .ok .next ∧ GEnd X' pa QE s
/-- what a generator's turns want; QE: at its end, QS: at an element that ends the walk -/
def tTurns (J : It) (g : TG) (tt : TT) (te : TE) (vs : List Nat) (σ : L2.St) (stop : Bool) (QE QS : Hp → Prop) (W : Nat → Nat → Hp → Prop) : Prop := ∀ i m H, W i m H →
  (J.stop i H ∧ QE H) ∨ (J.go i H ∧ ∃ Nx : Hp → Prop, (∀ H', Nx H' → ∃ m', m' < m ∧ W (i + 1) m' H') ∧ ∀ x H', J.yld i H x H' → g x (wipe σ vs) H' fun σ2 H2 => wipe σ2 vs = wipe σ vs ∧ tt σ2 H2 fun b H3 =>
    if b = true then te σ2 H3 fun y H4 => ∃ k, y = .bl k ∧ (k = stop → QS H4) ∧ (k ≠ stop → Nx H4) else Nx H3)
section
variable {X : Cx} {pins : List (Addr × Obj)} {σ : L2.St} {H : Hp} {s : Shared} {elt tg iter : Expr} {ifs : List Expr} {scope : Scope} {gpos : Pos}
theorem gen_loop {s4 : Shared} {H4 : Hp} {C it : Addr} {code : Value} {fp : List Addr} {pa : List (Addr × Obj)} {J : It} {tn : Nat → Heap → Prop} {g : TG} {tt : TT} {te : TE} {vs : List Nat} {stop : Bool} {QE QS : Hp → Prop} {W : Nat → Nat → Hp → Prop}
    (hco : scope.isCoroutine = false) (T : Turn X.prog X.w X.K tg J fp it tn)
    (hg : PG (Gk X (gX elt tg iter ifs scope gpos) scope s4 H4 C code it fp) tg g) (ht : PTs (Gk X (gX elt tg iter ifs scope gpos) scope s4 H4 C code it fp) ifs tt) (he : PE (Gk X (gX elt tg iter ifs scope gpos) scope s4 H4 C code it fp) elt te)
    (turn : tTurns J g tt te vs σ stop QE QS W) (hpa : ∀ p ∈ pa, p.1 ∉ fp) :
    ∀ (n m i : Nat) (s₀ s : Shared) (H : Hp), m < n → Inv (Gk X (gX elt tg iter ifs scope gpos) scope s4 H4 C code it fp) pa (wipe σ vs) H s → tn i s.heap → (∀ b ∈ fp, H b = none) → W i m H →
      Seg (model X.prog X.w) X.A.in1.in1 (gR (Gk X (gX elt tg iter ifs scope gpos) scope s4 H4 C code it fp) pa QE) (gY (Gk X (gX elt tg iter ifs scope gpos) scope s4 H4 C code it fp) pa (wipe σ vs) fp tn W stop QS) n s₀
        (.compLoop (gX elt tg iter ifs scope gpos) 0 (.ref it) .none (gEnv X scope C code)) ((model X.prog X.w).den (.compLoop (gX elt tg iter ifs scope gpos) 0 (.ref it) .none (gEnv X scope C code))) [] s := by
  intro n
  induction n with
  | zero => exact fun m i s₀ s H hmn => absurd hmn (Nat.not_lt_zero m)
  | succ n ihn =>
  intro m
  induction m using Nat.strongRecOn with
  | _ m ih =>
  intro i s₀ s H hmn I st fr w
  have stat : ∀ {σ' : L2.St} {H' : Hp} {s' : Shared}, Inv (Gk X (gX elt tg iter ifs scope gpos) scope s4 H4 C code it fp) pa σ' H' s' → (∀ b ∈ fp, H' b = none) → ∀ b ∈ fp, FpOk (Gk X (gX elt tg iter ifs scope gpos) scope s4 H4 C code it fp) pa H' b := fun {σ' H' s'} I' hn b hb =>
    ⟨hn b hb, (I'.ok.exf b hb).1, I'.ok.exfs b hb, .inl hb, fun x c e => (I'.ok.exf b hb).2 x c e, fun p hp z => hpa p hp (z ▸ hb)⟩
  show Seg _ _ _ _ _ s₀ _ ((compTurn (gX elt tg iter ifs scope gpos) 0 (.ref it) .none (gEnv X scope C code)).onRaise (leaving (gEnv X scope C code))) [] s
  rw [compTurn_gen, Sem.onRaise_eq_wrap]
  refine seg_bind_wrap (wpAny_standAt ?_)
  rcases turn i m H w with ⟨hs, qq⟩ | ⟨go, Nx, hNx, step⟩
  · refine seg_bind_wrap (thnF (T.done (Gk X (gX elt tg iter ifs scope gpos) scope s4 H4 C code it fp) rfl rfl rfl rfl i pa s _ H (fun _ _ => False) I (stat I fr) st hs) fun r s6 ⟨hr, I6⟩ => ?_)
    subst hr
    exact seg_end (.ok .next) ⟨rfl, _, H, I6, qq⟩
  · refine seg_bind_wrap (thnF (T.item (Gk X (gX elt tg iter ifs scope gpos) scope s4 H4 C code it fp) rfl rfl rfl rfl i pa s _ H (fun _ _ => False) I (stat I fr) st go) fun r s6 ⟨u, hr, h6⟩ => ?_)
    subst hr
    refine seg_bind_wrap (thnF h6 fun _ s7 ⟨x, H7, I7, r7, y7, st7, n7⟩ => ?_)
    have I7' := I7.pinned (stat I7 n7) (T.obj _ _ st7)
    refine seg_bind_wrap (thnF (hg.run _ s7 _ H7 x u _ I7' r7 (step x H7 y7)) fun _ s8 ⟨σ8, H8, I8, hw8, q8⟩ => ?_)
    refine seg_bind_wrap (thnF (ht.run _ s8 σ8 H8 _ I8 q8) fun b s9 ⟨H9, I9, q9⟩ => ?_)
    have fin : ∀ {s' : Shared} {H' : Hp}, Inv (Gk X (gX elt tg iter ifs scope gpos) scope s4 H4 C code it fp) (pa ++ pinsAt fp s7.heap) σ8 H' s' → Nx H' → ∃ m', m' < m ∧ Inv (Gk X (gX elt tg iter ifs scope gpos) scope s4 H4 C code it fp) pa (wipe σ vs) H' s' ∧ tn (i + 1) s'.heap ∧ (∀ b ∈ fp, H' b = none) ∧ W (i + 1) m' H' := fun {s' H'} I' nx => by
      obtain ⟨m', hm, w'⟩ := hNx H' nx
      have pin' : ∀ b ∈ fp, ∀ o, s7.heap.get? b = some o → s'.heap.get? b = some o ∧ H' b = none := fun b hb o e =>
        let z := I'.pin (b, o) (List.mem_append_right _ (List.mem_append_right _ (mem_pinsAt hb e)))
        ⟨z.1, z.2.1⟩
      have hl : (wipe σ vs).length = σ8.length := by rw [← hw8, wipe_length]
      refine ⟨m', hm, I'.unpinned.weak hl (fun j v e => ?_), T.keep _ _ _ st7 fun b hb o e => (pin' b hb o e).1, fun b hb => ?_, w'⟩
      · rw [← hw8] at e
        exact (wipe_some e).1
      · obtain ⟨o, e, _⟩ := T.obj _ _ st7 b hb
        exact (pin' b hb o e).2
    cases b with
    | false =>
      simp only [Bool.false_eq_true, if_false] at q9 ⊢
      obtain ⟨m', hm', I', st', fr', w'⟩ := fin I9 q9
      exact seg_again rfl (ih m' hm' (i + 1) s₀ _ _ (by omega) I' st' fr' w')
    | true =>
      simp only [if_true] at q9 ⊢
      have hy : ∀ v, yieldOut (gEnv X scope C code) v = yieldValue v := fun v => by
        have h : (gEnv X scope C code).scope.isCoroutine = false := hco
        simp only [yieldOut, h, Bool.false_eq_true, if_false]
      simp only [hy]
      rw [Sem.bind_eq_wrap', Sem.bind_eq_wrap', Sem.wrap_wrap, Sem.wrap_wrap]
      refine seg_wrap (thnF (he.run _ s9 σ8 H9 _ I9 q9) fun z s10 ⟨yv, H10, I10, r10, k, ek, q1, q2⟩ => ?_)
      subst ek
      have ez : z = .bool k := r10
      subst ez
      refine seg_at (seg_yield rfl rfl rfl ⟨k, rfl, fun e => ⟨σ8, H10, I10.unpinned, q1 e⟩, fun e => ?_⟩)
      obtain ⟨m', hm', I', st', fr', w'⟩ := fin I10 (q2 e)
      refine ⟨⟨i + 1, m', H10, by omega, I', st', fr', w'⟩, fun s'' ⟨i2, m2, H2, h1, h2, h3, h4, h5⟩ => ?_⟩
      exact seg_again rfl (ihn m2 i2 s'' s'' H2 h1 h2 h3 h4 h5)
theorem gen_startS {s4 : Shared} {H4 : Hp} {C it : Addr} {code : Value} {fp : List Addr} {pa : List (Addr × Obj)} {J : It} {tn : Nat → Heap → Prop} {g : TG} {tt : TT} {te : TE} {vs : List Nat} {stop : Bool} {QE QS : Hp → Prop} {W : Nat → Nat → Hp → Prop}
    (hco : scope.isCoroutine = false) (T : Turn X.prog X.w X.K tg J fp it tn)
    (hg : PG (Gk X (gX elt tg iter ifs scope gpos) scope s4 H4 C code it fp) tg g) (ht : PTs (Gk X (gX elt tg iter ifs scope gpos) scope s4 H4 C code it fp) ifs tt) (he : PE (Gk X (gX elt tg iter ifs scope gpos) scope s4 H4 C code it fp) elt te)
    (turn : tTurns J g tt te vs σ stop QE QS W) (hpa : ∀ p ∈ pa, p.1 ∉ fp) (n : Nat) (s₀ s : Shared) (R : Rdy (Gk X (gX elt tg iter ifs scope gpos) scope s4 H4 C code it fp) pa (wipe σ vs) fp tn W n s) :
      Seg (model X.prog X.w) X.A.in1.in1 (gR (Gk X (gX elt tg iter ifs scope gpos) scope s4 H4 C code it fp) pa QE) (gY (Gk X (gX elt tg iter ifs scope gpos) scope s4 H4 C code it fp) pa (wipe σ vs) fp tn W stop QS) n s₀
        (.compStart (gX elt tg iter ifs scope gpos) 0 (.ref it) .none (gEnv X scope C code)) ((model X.prog X.w).den (.compStart (gX elt tg iter ifs scope gpos) 0 (.ref it) .none (gEnv X scope C code))) [] s := by
  obtain ⟨i, m, H, h1, h2, h3, h4, h5⟩ := R
  have loop := gen_loop (C := C) (code := code) (iter := iter) (gpos := gpos) hco T hg ht he turn hpa n m i s₀ s H h1 h2 h3 h4 h5
  show Seg _ _ _ _ _ s₀ _ ((compStart (gX elt tg iter ifs scope gpos) 0 (.ref it) .none (gEnv X scope C code)).onRaise (leaving (gEnv X scope C code))) [] s
  unfold compStart
  rw [Sem.onRaise_eq_wrap]
  show Seg _ _ _ _ _ s₀ _ ((ask >>= _).wrap _ _ _ _) [] s
  refine seg_bind_wrap (wpAny_askSetting ?_)
  split
  · exact seg_again rfl loop
  · first
      | exact seg_bind_wrap (wpAny_rule (seg_bind_wrap (wpAny_standAt (seg_bind_wrap (T.self _ i s _ _ h3 (seg_again rfl loop))))))
      | (refine seg_bind_wrap (wpAny_rule ?_); show Seg _ _ _ _ _ s₀ _ ((standAt iter.pos >>= _).wrap _ _ _ _) [] s; exact seg_bind_wrap (wpAny_standAt (seg_bind_wrap (T.self _ i s _ _ h3 (seg_again rfl loop)))))

/-- the generator object at a, its state at g, ready for at most n elements -/
def GRdy (X X' : Cx) (a : Addr) (ga : Nat) (oa : Obj) (σ0 : L2.St) (fp : List Addr) (tn : Nat → Heap → Prop) (W : Nat → Nat → Hp → Prop) (stop : Bool) (QE QS : Hp → Prop) (n : Nat) (s : Shared) : Prop :=
  Rdy X' [(a, oa)] σ0 fp tn W n s ∧ ∃ gs, s.gens[ga]? = some gs ∧ gs.bare = true ∧ ∀ s'', Rdy X' [(a, oa)] σ0 fp tn W n s'' →
    gs.Goes (model X.prog X.w) X.A.in1.in1 (gR X' [(a, oa)] QE) (gY X' [(a, oa)] σ0 fp tn W stop QS) n (.send .none) s''
theorem bare_set {s : Shared} {g : Nat} {x : GenState} (h : AllBare s.gens) (hx : x.bare = true) : AllBare (s.setGen g x).gens := by
  intro y hy
  show y.bare = true
  have hy : y ∈ s.gens.setIfInBounds g x := hy
  obtain ⟨i, hi, rfl⟩ := Array.mem_iff_getElem.mp hy
  have hi' : i < s.gens.size := by simpa using hi
  rw [Array.getElem_setIfInBounds hi']
  split
  · exact hx
  · exact h _ (Array.getElem_mem _)
theorem Rdy.set {X' : Cx} {pa : List (Addr × Obj)} {σ0 : L2.St} {fp : List Addr} {tn : Nat → Heap → Prop} {W : Nat → Nat → Hp → Prop} {n : Nat} {s : Shared} (r : Rdy X' pa σ0 fp tn W n s) {g : Nat} {x : GenState} (hx : x.bare = true) : Rdy X' pa σ0 fp tn W n (s.setGen g x) := by
  obtain ⟨i, m, H, h1, h2, h3, h4, h5⟩ := r
  exact ⟨i, m, H, h1, inv_gens h2 (bare_set h2.bare hx), h3, h4, h5⟩
theorem GEnd.set {X' : Cx} {pa : List (Addr × Obj)} {Qb : Hp → Prop} {s : Shared} (r : GEnd X' pa Qb s) {g : Nat} {x : GenState} (hx : x.bare = true) : GEnd X' pa Qb (s.setGen g x) := by
  obtain ⟨σ', H, h2, q⟩ := r
  exact ⟨σ', H, inv_gens h2 (bare_set h2.bare hx), q⟩
theorem gen_next {X' : Cx} {a : Addr} {ga : Nat} {oa : Obj} {nm qn : Value} {σ0 : L2.St} {fp : List Addr} {tn : Nat → Heap → Prop} {W : Nat → Nat → Hp → Prop} {stop : Bool} {QE QS : Hp → Prop} {n : Nat} {Q : Option Value → Shared → Prop} {E : Value → Shared → Prop}
    (hh : X.A.handled = none) (hroom : X.A.depth < recursionLimit) (ho : oa = { cls := .type "generator", data := .fields #[.int ga 0, nm, qn] }) (r : GRdy X X' a ga oa σ0 fp tn W stop QE QS n s)
    (h1 : ∀ s', GEnd X' [(a, oa)] QE s' → Q none s') (h2 : ∀ s', GEnd X' [(a, oa)] QS s' → Q (some (.bool stop)) s') (h3 : ∀ n' s', n' < n → GRdy X X' a ga oa σ0 fp tn W stop QE QS n' s' → Q (some (.bool (!stop))) s') :
    wpAny (model X.prog X.w) X.A.in1 (pyNext (.ref a)) Q E s := by
  obtain ⟨r0, gs, hgs, hb, hgo⟩ := r
  obtain ⟨i, m, H, hm, I, _⟩ := id r0
  have ea : s.heap.get? a = some oa := (I.pin (a, oa) (List.mem_append_right _ (by simp))).1
  have hlt : ga < s.gens.size := by
    rcases Nat.lt_or_ge ga s.gens.size with h | h
    · exact h
    · rw [Array.getElem?_eq_none h] at hgs; cases hgs
  obtain ⟨n, rfl⟩ : ∃ k, n = k + 1 := ⟨n - 1, by omega⟩
  refine wp_gens ?_
  refine wpAny_pyNext_genexpQ (A := X.A.in1) (P := fun _ _ s₁ => GEnd X' [(a, oa)] QE s₁) hh I.nolimit hroom ⟨oa, nm, qn, ea, by rw [ho], by rw [ho], by rw [ho]⟩ hgs (hgo _ (r0.set rfl)) (fun v s₁ gs' hbare hv => ?_) (fun s₁ hp h' hk => ?_)
  · obtain ⟨k, rfl, q1, q2⟩ := hv
    intro hsz
    rw [set_gens] at hsz
    by_cases e : k = stop
    · subst e
      exact h2 _ ((q1 rfl).set hbare)
    · have ek : k = !stop := by cases k <;> cases stop <;> first | rfl | exact absurd rfl e
      subst ek
      obtain ⟨q3, q4⟩ := q2 e
      have hlt2 : ga < s₁.gens.size := Nat.lt_of_lt_of_le hlt hsz
      exact h3 n _ (Nat.lt_succ_self n) ⟨q3.set hbare, gs', by simp [Shared.setGen, hlt2], hbare, q4⟩
  · intro _
    obtain ⟨σ', H', I', q⟩ := GEnd.set (g := ga) (x := .finished) hp rfl
    exact h1 _ ⟨σ', H', I'.kept (t' := _) hk, q⟩
end
end Dv

set_option maxRecDepth 100000
set_option maxHeartbeats 1000000
namespace Dv
open PySem PySem.Spec PyProof.Rows L2 GxR
section
variable {X X' : Cx} {pins : List (Addr × Obj)} {σ : L2.St} {H : Hp} {s : Shared} {elt tg iter : Expr} {ifs : List Expr} {scope : Scope} {gpos : Pos}
theorem all_loop {a : Addr} {ga : Nat} {oa : Obj} {nm qn : Value} {σ0 : L2.St} {fp : List Addr} {tn : Nat → Heap → Prop} {W : Nat → Nat → Hp → Prop} {QE QS : Hp → Prop} {R : Result → Shared → Prop}
    (hh : X.A.handled = none) (hroom : X.A.depth < recursionLimit) (ho : oa = { cls := .type "generator", data := .fields #[.int ga 0, nm, qn] })
    (h1 : ∀ s', GEnd X' [(a, oa)] QE s' → R (.ok (.ret (.bool true))) s') (h2 : ∀ s', GEnd X' [(a, oa)] QS s' → R (.ok (.ret (.bool false))) s') :
    ∀ (n : Nat) (s : Shared), GRdy X X' a ga oa σ0 fp tn W false QE QS n s → codeAny (model X.prog X.w) X.A (.builtin "all.loop" ⟨[.ref a], []⟩) R s := by
  intro n
  induction n using Nat.strongRecOn with
  | _ n ih =>
  intro s r
  refine codeAny_builtin F.entry_all_loop ?_
  rw [Around.under_plainId F.plain_all_loop _]
  show wpAny _ X.A.in1 (pyNext (.ref a) >>= _) _ _ s
  refine wpAny_bind (gen_next hh hroom ho r (fun s' e => ?_) (fun s' e => ?_) fun n' s' hn r' => ?_)
  · exact wpAny_bind (wpAny_rule (wpAny_pure (h1 s' e)))
  · refine wpAny_bind (wpAny_holding (wpAny_truthy_bool (wpAny_bind (wpAny_letGo ?_))))
    simp only [Bool.false_eq_true, if_false]
    exact wpAny_bind (wpAny_rule (wpAny_pure (h2 s' e)))
  · refine wpAny_bind (wpAny_holding (wpAny_truthy_bool (wpAny_bind (wpAny_letGo ?_))))
    simp only [Bool.not_false, if_true]
    exact wpAny_pure ⟨plainId_quiet F.plain_all_loop _, ih n' hn s' r'⟩
theorem any_loop {a : Addr} {ga : Nat} {oa : Obj} {nm qn : Value} {σ0 : L2.St} {fp : List Addr} {tn : Nat → Heap → Prop} {W : Nat → Nat → Hp → Prop} {QE QS : Hp → Prop} {R : Result → Shared → Prop}
    (hh : X.A.handled = none) (hroom : X.A.depth < recursionLimit) (ho : oa = { cls := .type "generator", data := .fields #[.int ga 0, nm, qn] })
    (h1 : ∀ s', GEnd X' [(a, oa)] QE s' → R (.ok (.ret (.bool false))) s') (h2 : ∀ s', GEnd X' [(a, oa)] QS s' → R (.ok (.ret (.bool true))) s') :
    ∀ (n : Nat) (s : Shared), GRdy X X' a ga oa σ0 fp tn W true QE QS n s → codeAny (model X.prog X.w) X.A (.builtin "any.loop" ⟨[.ref a], []⟩) R s := by
  intro n
  induction n using Nat.strongRecOn with
  | _ n ih =>
  intro s r
  refine codeAny_builtin F.entry_any_loop ?_
  rw [Around.under_plainId F.plain_any_loop _]
  show wpAny _ X.A.in1 (pyNext (.ref a) >>= _) _ _ s
  refine wpAny_bind (gen_next hh hroom ho r (fun s' e => ?_) (fun s' e => ?_) fun n' s' hn r' => ?_)
  · exact wpAny_bind (wpAny_rule (wpAny_pure (h1 s' e)))
  · refine wpAny_bind (wpAny_holding (wpAny_truthy_bool (wpAny_bind (wpAny_letGo ?_))))
    simp only [if_true]
    exact wpAny_bind (wpAny_rule (wpAny_pure (h2 s' e)))
  · refine wpAny_bind (wpAny_holding (wpAny_truthy_bool (wpAny_bind (wpAny_letGo ?_))))
    simp only [Bool.not_true, Bool.false_eq_true, if_false]
    exact wpAny_pure ⟨plainId_quiet F.plain_any_loop _, ih n' hn s' r'⟩
/-- a generator expression as a value, ready for its walk -/
theorem gen_make {c P : Addr} {wi : TI} {g : TG} {tt : TT} {te : TE} {own : List (Str × Nat)} {k : Nat} {stop : Bool} {QE QS : Hp → Prop} {Q' : Value → Shared → Prop}
    (hr : Room k X.A) (TB : GxR.TabB X.base X.mg c P) (hcode : X.env.code = .ref c) (ok : BlkOk X.N X.env.scope scope own) (G : GenB scope) (hN : X.N.Nodup) (hi : PI X tg iter wi)
    (hg : ∀ s H C code it fp, PG (Gk X (gX elt tg iter ifs scope gpos) scope s H C code it fp) tg g) (ht : ∀ s H C code it fp, PTs (Gk X (gX elt tg iter ifs scope gpos) scope s H C code it fp) ifs tt) (he : ∀ s H C code it fp, PE (Gk X (gX elt tg iter ifs scope gpos) scope s H C code it fp) elt te)
    (hs : ∀ v, genFold iter X.env v = pure v) (I : Inv X pins σ H s)
    (h : wi σ H fun J H1 => TabG H1 P ∧ ∀ H2, Tabbed P H1 H2 → ∃ (W : Nat → Nat → Hp → Prop) (m : Nat), W 0 m H2 ∧ tTurns J g tt te (own.map (·.2)) σ stop QE QS W)
    (hQ : ∀ a s5 X' ga oa nm qn σ0 fp tn W n, oa = ({ cls := .type "generator", data := .fields #[.int (ga : Nat) 0, nm, qn] } : Obj) → GRdy X X' a ga oa σ0 fp tn W stop QE QS n s5 → (∀ Qb s', GEnd X' [(a, oa)] Qb s' → ∃ H', Inv X pins σ H' s' ∧ Qb H') → Q' (.ref a) s5) :
    wpAny (model X.prog X.w) X.A (eval (gX elt tg iter ifs scope gpos) X.env) Q' X.xe s := by
  have hfree : ∀ y ∈ scope.names, y.2 = .free → ∃ c, X.env.cells.lookup y.1 = some c := fun y hy e => by
    rcases ok.free y hy e with k | k
    · exact I.ok.has _ (.inl k)
    · exact I.ok.has _ (.inr k)
  refine wpAny_GeneratorExp_make G.co (closure_ok hfree) G.cell G.dot ok.kind hr.depth ?_ hs
  refine thn (hi.run pins s σ H _ I h) fun xv s1 h1 => thn h1 fun itv s2 h2 => ?_
  obtain ⟨it, fp, tn, J, H1, rfl, I2, T, st2, f2, ⟨ps, hP, htr⟩, q⟩ := h2
  have hP2 : s2.heap.get? P = some { cls := .none, data := .fields ps } := I2.hok P _ hP
  have cd : PySem.W.CodeHd s2.heap c P := TB.code.keeps I2.bk
  have lt : ∀ b ∈ fp, b < s2.heap.objs.size := fun b hb => let ⟨_, e, _⟩ := T.obj _ _ st2 b hb; Heap.lt_size e
  have neP : ∀ b ∈ fp, b ≠ P := fun b hb z => by
    have e := (f2 b hb).1
    rw [z, hP] at e; cases e
  have cont : ∀ (code : Value) (h3 : Heap) (tk : Nat) (H3 : Hp), Inv X pins σ H3 { s2 with heap := h3, toks := tk } → Tabbed P H1 H3 → Heap.ExtBut P s2.heap h3 → s2.heap.objs.size ≤ h3.objs.size →
      wpAny (model X.prog X.w) X.A (builtinsFor X.env.globals X.env.builtins) (fun bi s₄ => ∀ h', h'.Ns s₄.heap.objs.size (fun y => if y = ".0" then some (.ref it) else none) → Heap.SameBut s₄.heap.objs.size (s₄.heap.push { cls := .type "frame", data := .dict #[] }) h' →
          Q' (.ref h'.objs.size) { s₄ with
            gens := s₄.gens.push (.fresh (.compStart (gX elt tg iter ifs scope gpos) 0 (.ref it) .none (genEnv scope (cloFrom X.env.cells scope.names []) s₄.heap.objs.size code bi X.env))),
            toks := s₄.toks + 1 + 1 + 1,
            heap := h'.push { cls := .type "generator", data := .fields #[.int s₄.gens.size 0, .str "<genexpr>" (s₄.toks + 1), .str (X.env.qual ++ "<genexpr>") (s₄.toks + 1 + 1)] } }) X.xe { s2 with heap := h3, toks := tk } := by
    intro code h3 tk H3 I4 hT hx hsz
    obtain ⟨bm, ob, e1, e2, e3, e4, e5, e6, e7, e8⟩ := TB.bm
    refine wpAny_builtinsFor (m := X.mg) (by rw [I4.ok.glob]; exact I4.mod.glob.keeps I4.bk) e1 e2 (I4.bk _ _ e5) e6 e7 e8 ?_
    generalize hs4 : ({ s2 with heap := h3, toks := tk } : Shared) = s4 at I4 ⊢
    intro h' hn' hs'
    obtain ⟨W, m, w0, turn⟩ := q H3 hT
    have keep' : ∀ b o, s4.heap.get? b = some o → h'.get? b = some o := fun b o e => hs'.extBut b o (Nat.ne_of_lt (Heap.lt_size e)) (Heap.get?_push_of_some _ e)
    have hsz' : h'.objs.size = s4.heap.objs.size + 1 := by rw [hs'.1, Heap.size_push]
    have f4 : ∀ b ∈ fp, FpOk X pins H3 b ∧ b < s4.heap.objs.size := fun b hb => by
      refine ⟨⟨(hT.2 b (neP b hb)).trans (f2 b hb).1, (f2 b hb).2⟩, ?_⟩
      rw [← hs4]; exact Nat.lt_of_lt_of_le (lt b hb) hsz
    have st5 : tn 0 (h'.push { cls := .type "generator", data := .fields #[.int s4.gens.size 0, .str "<genexpr>" (s4.toks + 1), .str (X.env.qual ++ "<genexpr>") (s4.toks + 1 + 1)] }) := T.keep _ _ _ st2 fun b hb o e => Heap.get?_push_of_some _ (keep' b o (by rw [← hs4]; exact hx b o (neP b hb) e))
    have I5 := gen_start (elt := elt) (tg := tg) (iter := iter) (ifs := ifs) (gpos := gpos) (code := code) (it := it) (tk := s4.toks + 1 + 1 + 1) (g' := s4.gens.push (.fresh (.compStart (gX elt tg iter ifs scope gpos) 0 (.ref it) .none (gEnv X scope s4.heap.objs.size code))))
      I4 hr.hd ok G hN f4 (hn'.push { cls := .type "generator", data := .fields #[.int s4.gens.size 0, .str "<genexpr>" (s4.toks + 1), .str (X.env.qual ++ "<genexpr>") (s4.toks + 1 + 1)] }) (fun b o e => Heap.get?_push_of_some _ (keep' b o e)) (I4.bare.push rfl)
    have nH : H3 h'.objs.size = none := I4.hok.fresh (by omega)
    have I6 := I5.pins_of (pins' := [(h'.objs.size, { cls := .type "generator", data := .fields #[.int s4.gens.size 0, .str "<genexpr>" (s4.toks + 1), .str (X.env.qual ++ "<genexpr>") (s4.toks + 1 + 1)] })]) fun p hp => by
      have e := List.mem_singleton.mp hp
      subst e
      refine ⟨Heap.get?_push_size _ rfl, nH, ?_, fun z => ?_, fun v z => by cases z⟩
      · show h'.objs.size ≠ s4.heap.objs.size
        omega
      · rcases List.mem_cons.mp (I4.stkSub _ z) with z | z
        · have hl : X.env.locals < s4.heap.objs.size := I4.lt
          have z' : h'.objs.size = X.env.locals := z
          have hl2 : h'.objs.size < s4.heap.objs.size := by rw [z']; exact hl
          omega
        · exact I4.nofs (show s4.heap.objs.size ≤ h'.objs.size by omega) z
    have npa : ∀ p ∈ [(h'.objs.size, ({ cls := .type "generator", data := .fields #[.int s4.gens.size 0, .str "<genexpr>" (s4.toks + 1), .str (X.env.qual ++ "<genexpr>") (s4.toks + 1 + 1)] } : Obj))], p.1 ∉ fp := fun p hp z => by
      have e := List.mem_singleton.mp hp
      subst e
      have hl := (f4 _ z).2
      have hl : h'.objs.size < s4.heap.objs.size := hl
      omega
    refine hQ h'.objs.size _ _ s4.gens.size _ _ _ (wipe σ (own.map (·.2))) fp tn W (m + 1) rfl ⟨⟨0, m, H3, Nat.lt_succ_self m, I6, st5, fun b hb => (f4 b hb).1.1, w0⟩, _, Array.getElem?_push_size .., rfl, fun s'' r => ⟨rfl, ?_⟩⟩ fun Qb s' ⟨σ', H', J', qb⟩ => ?_
    · exact gen_startS G.co T (hg _ _ _ _ _ _) (ht _ _ _ _ _ _) (he _ _ _ _ _ _) turn npa _ s'' s'' r
    · exact ⟨H', I4.call' (ch := fp) J'.os J'.base J'.hok J'.bare fun b hb => ⟨(f4 b hb).1.2.2.2.1, (f4 b hb).1.2.1, (f4 b hb).1.2.2.2.2.1, (f4 b hb).1.2.2.2.2.2⟩, qb⟩
  refine ⟨I2.nolimit, ?_⟩
  cases hf : codeAmong gpos ps.toList with
  | none =>
    refine wpAny_genexprCodeX hcode (cd.code hP2 htr) (cd.tab hP2) hf fun c' h' tk hx hge hlt hco' _ htab' _ => ?_
    obtain ⟨o1, vs, f1, tf, fl, tg', inF, tx, tt', op, _, _, _, _, _, _, _, _, _, htr', _⟩ := hco'
    have J := inv_tab (more := #[rawInt gpos.line, rawInt gpos.col, .ref c']) (h' := h') (g' := s2.gens) (d' := s2.drawn) (t' := tk) I2 hP (fun b o hb e => hx b o hb e) htab'.2 I2.bare
    exact cont _ h' tk _ J ⟨⟨_, upd_same, htr'⟩, fun b hb => upd_ne hb⟩ hx (Nat.le_trans hge (Nat.le_of_lt hlt))
  | some cv =>
    refine wpAny_genexprCode_hit hcode (cd.code hP2 htr) hf ?_
    exact cont cv s2.heap s2.toks H1 I2 ⟨⟨ps, hP, htr⟩, fun _ _ => rfl⟩ (Heap.ExtBut.refl _ _) (Nat.le_refl _)
end
end Dv

set_option maxRecDepth 100000
set_option maxHeartbeats 1000000
namespace Dv
open PySem PySem.Spec PyProof.Rows L2 GxR
def tGen (P : Addr) (wi : TI) (g : TG) (tt : TT) (te : TE) (vs : List Nat) (stop : Bool) : TE := fun σ H Q => wi σ H fun J H1 => TabG H1 P ∧ ∀ H2, Tabbed P H1 H2 →
  ∃ (W : Nat → Nat → Hp → Prop) (m : Nat), W 0 m H2 ∧ tTurns J g tt te vs σ stop (fun H' => Q (.bl (!stop)) H') (fun H' => Q (.bl stop) H') W
section
variable {X : Cx} {elt tg iter : Expr} {ifs : List Expr} {scope : Scope} {gpos p pos : Pos} {c P : Addr} {wi : TI} {g : TG} {tt : TT} {te : TE} {own : List (Str × Nat)} {k : Nat}
theorem pe_allB (hr : Room k X.A) (hgl : Gl X "all") (hm : X.mg "all" = none) (TB : GxR.TabB X.base X.mg c P) (hcode : X.env.code = .ref c) (ok : BlkOk X.N X.env.scope scope own) (G : GenB scope) (hN : X.N.Nodup) (hi : PI X tg iter wi)
    (hg : ∀ s H C code it fp, PG (Gk X (gX elt tg iter ifs scope gpos) scope s H C code it fp) tg g) (ht : ∀ s H C code it fp, PTs (Gk X (gX elt tg iter ifs scope gpos) scope s H C code it fp) ifs tt) (he : ∀ s H C code it fp, PE (Gk X (gX elt tg iter ifs scope gpos) scope s H C code it fp) elt te)
    (hs : ∀ v, genFold iter X.env v = pure v) (hst : starEach [gX elt tg iter ifs scope gpos] X.env = (false, eval (gX elt tg iter ifs scope gpos) X.env) :: starEach [] X.env := by rfl) :
    PE X (.Call (.Name "all" p) [gX elt tg iter ifs scope gpos] [] pos) (tGen P wi g tt te (own.map (·.2)) false) := by
  refine ⟨fun pins s σ H Q I h => ?_⟩
  refine wpAny_Call_Name_kw (ld_blt I hgl hm (u := .builtin "all") (by decide +kernel) ?_)
  refine PyProof.Rows.callWith_builtin1 ?_ hst (by rfl)
  rw [hst]
  show wpAny _ _ (spliced ((false, eval (gX elt tg iter ifs scope gpos) X.env) :: backTo pos (starEach [] X.env))) _ _ s
  refine Calls.spliced_cons (gen_make (stop := false) (QE := fun H' => Q (.bl true) H') (QS := fun H' => Q (.bl false) H') hr TB hcode ok G hN hi hg ht he hs I h fun a s5 X' ga oa nm qn σ0 fp tn W n ho r back => ?_)
  refine Calls.spliced_nil ?_
  obtain ⟨⟨i, m, H5, hm5, I5, _⟩, _⟩ := id r
  have ea : s5.heap.get? a = some oa := (I5.pin (a, oa) (List.mem_append_right _ (by simp))).1
  refine call_function_tree F.kind_all F.plain_all F.entry_all (F.args_all1 _) ?_
  unfold Builtin.«all»
  refine wpAny_bind (m := oneArg "all" _) (wpAny_pure ?_)
  refine wpAny_bind (wpAny_pyIter_gen ⟨oa, nm, qn, ea, by rw [ho], by rw [ho], by rw [ho]⟩ ?_)
  refine wpAny_pure ⟨plainId_quiet F.plain_all_loop _, all_loop hr.hd hr.depth ho (fun s' e => ?_) (fun s' e => ?_) n s5 r⟩
  · obtain ⟨H', I', q⟩ := back _ s' e
    exact ⟨.bl true, H', I', rfl, q⟩
  · obtain ⟨H', I', q⟩ := back _ s' e
    exact ⟨.bl false, H', I', rfl, q⟩
theorem pe_anyB (hr : Room k X.A) (hgl : Gl X "any") (hm : X.mg "any" = none) (TB : GxR.TabB X.base X.mg c P) (hcode : X.env.code = .ref c) (ok : BlkOk X.N X.env.scope scope own) (G : GenB scope) (hN : X.N.Nodup) (hi : PI X tg iter wi)
    (hg : ∀ s H C code it fp, PG (Gk X (gX elt tg iter ifs scope gpos) scope s H C code it fp) tg g) (ht : ∀ s H C code it fp, PTs (Gk X (gX elt tg iter ifs scope gpos) scope s H C code it fp) ifs tt) (he : ∀ s H C code it fp, PE (Gk X (gX elt tg iter ifs scope gpos) scope s H C code it fp) elt te)
    (hs : ∀ v, genFold iter X.env v = pure v) (hst : starEach [gX elt tg iter ifs scope gpos] X.env = (false, eval (gX elt tg iter ifs scope gpos) X.env) :: starEach [] X.env := by rfl) :
    PE X (.Call (.Name "any" p) [gX elt tg iter ifs scope gpos] [] pos) (tGen P wi g tt te (own.map (·.2)) true) := by
  refine ⟨fun pins s σ H Q I h => ?_⟩
  refine wpAny_Call_Name_kw (ld_blt I hgl hm boot_any ?_)
  refine PyProof.Rows.callWith_builtin1 ?_ hst (by rfl)
  rw [hst]
  show wpAny _ _ (spliced ((false, eval (gX elt tg iter ifs scope gpos) X.env) :: backTo pos (starEach [] X.env))) _ _ s
  refine Calls.spliced_cons (gen_make (stop := true) (QE := fun H' => Q (.bl false) H') (QS := fun H' => Q (.bl true) H') hr TB hcode ok G hN hi hg ht he hs I h fun a s5 X' ga oa nm qn σ0 fp tn W n ho r back => ?_)
  refine Calls.spliced_nil ?_
  obtain ⟨⟨i, m, H5, hm5, I5, _⟩, _⟩ := id r
  have ea : s5.heap.get? a = some oa := (I5.pin (a, oa) (List.mem_append_right _ (by simp))).1
  refine call_function_tree F.kind_any F.plain_any F.entry_any (F.args_any1 _) ?_
  unfold Builtin.«any»
  refine wpAny_bind (m := oneArg "any" _) (wpAny_pure ?_)
  refine wpAny_bind (wpAny_pyIter_gen ⟨oa, nm, qn, ea, by rw [ho], by rw [ho], by rw [ho]⟩ ?_)
  refine wpAny_pure ⟨plainId_quiet F.plain_any_loop _, any_loop hr.hd hr.depth ho (fun s' e => ?_) (fun s' e => ?_) n s5 r⟩
  · obtain ⟨H', I', q⟩ := back _ s' e
    exact ⟨.bl false, H', I', rfl, q⟩
  · obtain ⟨H', I', q⟩ := back _ s' e
    exact ⟨.bl true, H', I', rfl, q⟩
end
/-! ### over data -/
theorem sim_grow2 {K : PySem.W.Frag} {T : List TQ} {B : Bs} {ρ : Sl} {σ : L2.St} {H H' : Hp} (S : Sim K T B ρ σ H) (k : Kp H H') (t : ∀ P ∈ T, TQs H' P) (hd : ∀ a, B.H0 a ≠ none → H' a ≠ none) : Sim K T B ρ σ H' where
  len := S.len
  at_ := fun i s e => by
    have q := S.at_ i s e
    have km : Kp (msk (B.all ρ) H) (msk (B.all ρ) H') := fun a o n z => by
      obtain ⟨z1, z2⟩ := msk_some z
      rw [msk_out z1]; exact k a o n z2
    cases s with
    | un => trivial
    | dat d => obtain ⟨x, q1, q2⟩ := q; exact ⟨x, q1, q2.mono km⟩
    | own a d => exact ⟨q.1, q.2.mono km fun o n z => k a o n z⟩
  nodup := S.nodup
  disj := S.disj
  outs := fun a h => let ⟨o, e, n⟩ := S.outs a h; ⟨o, k a o (mutb_nt n) e, n⟩
  frame := fun a o n w e => k a o n (S.frame a o n w e)
  fresh := S.fresh
  tabs := t
  dom := hd
section
variable {X : Cx} {T : List TQ} {B : Bs} {ρ ρ1 : Sl} {W : List Addr} {elt tg iter : Expr} {scope : Scope} {gpos p pos : Pos} {c P : Addr} {own : List (Str × Nat)} {n : Nat}
def gG (X : Cx) (T : List TQ) (B : Bs) (e : Expr) (scope : Scope) (tg : Expr) (vs : List Nat) : TG := fun v σ H Q => ∃ ρ d ρ', (∀ s H C code it fp, GX (Gk X e scope s H C code it fp) T B ρ tg vs d ρ') ∧ Sim X.K T B ρ σ H ∧ Rp X.K (msk (B.all ρ) H) v d ∧ ∀ σ', Sim X.K T B ρ' σ' H → wipe σ' vs = wipe σ vs → Q σ' H
def eG (X : Cx) (T : List TQ) (B : Bs) (g : Expr) (scope : Scope) (e : Expr) : TE := fun σ H Q => ∃ ρ W ρ' d, (∀ s H C code it fp, EX (Gk X g scope s H C code it fp) T B ρ e W ρ' d) ∧ TD X.K T B ρ W ρ' d σ H Q
/-- what a turn of a generator does: k the element -/
structure GT (X : Cx) (T : List TQ) (B : Bs) (e : Expr) (scope : Scope) (tg elt : Expr) (vs : List Nat) (ρw : Sl) (d : D) (k : Bool) : Prop where
  go : ∃ ρb ρc, owns ρb = owns ρw ∧ owns ρc = owns ρw ∧ (∀ s H C code it fp, GX (Gk X e scope s H C code it fp) T B ρw tg vs d ρb) ∧ (∀ s H C code it fp, EX (Gk X e scope s H C code it fp) T B ρb elt [] ρc (.bool k)) ∧ Fg ρc ρw
theorem gen_read {α : Type} {e : Expr} {vs : List Nat} {wi : TI} {stop : Bool} (qs : List α) (en : α → D) (f : α → Bool)
    (hw : ∀ σ H R, Sim X.K T B ρ σ H → (∀ J H1, Sim X.K T B ρ1 σ H1 → Fx W H H1 → Walked X.K (B.all ρ1) (qs.map en) J H1 → R J H1) → wi σ H R)
    (hPT : TQ.tab P ∈ T) (hno : noOwn ρ1 vs = true)
    (hb : ∀ (i : Nat) (q : α), qs[i]? = some q → (∀ (j : Nat) (r : α), j < i → qs[j]? = some r → f r = !stop) → GT X T B e scope tg elt vs (wipeD ρ1 vs) (en q) (f q))
    {σ : L2.St} {H : Hp} {Q : VK} (S : Sim X.K T B ρ σ H) (q : ∀ v H', Sim X.K T B ρ1 σ H' → Fx W H H' → Rp X.K (msk (B.all ρ1) H') v (.bool ((qs.any fun x => f x == stop) ^^ !stop)) → Q v H') :
    tGen P wi (gG X T B e scope tg vs) tYes (eG X T B e scope elt) vs stop σ H Q := by
  refine hw σ H _ S fun J H1 S1 f1 wk => ⟨S1.tabs _ hPT, fun H2 hT => ?_⟩
  obtain ⟨S2, k2⟩ := sim_tab S1 hPT hT
  have ow : owns (wipeD ρ1 vs) = owns ρ1 := owns_wipe hno
  have eall : B.all (wipeD ρ1 vs) = B.all ρ1 := all_of ow
  -- the end, from the state of a turn
  have fin : ∀ {ρ' : Sl} {σ' : L2.St} {H' : Hp}, Sim X.K T B ρ' σ' H' → Kp H2 H' → ∀ k, k = ((qs.any fun x => f x == stop) ^^ !stop) → Q (.bl k) H' := fun {ρ' σ' H'} S' k' k ek => by
    subst ek
    exact q _ H' (sim_grow2 S2 k' S'.tabs S'.dom) (f1.transN (k2.trans k').fx) (.bl _)
  refine ⟨fun i m H' => m = qs.length - i ∧ i ≤ qs.length ∧ (∀ j r, j < i → qs[j]? = some r → f r = !stop) ∧ Sim X.K T B (wipeD ρ1 vs) (wipe σ vs) H' ∧ Kp H2 H', qs.length, ⟨by simp, Nat.zero_le _, fun j r h => absurd h (Nat.not_lt_zero j), sim_wiped S2, Kp.refl _⟩, ?_⟩
  rintro i m H' ⟨rfl, hi', hf, S', k'⟩
  have kk : Kp (msk (B.all ρ1) H1) (msk (B.all ρ1) H') := fun a o no e => by
    obtain ⟨z1, z2⟩ := msk_some e
    rw [msk_out z1]
    exact (k2.trans k') a o no z2
  have held : ∀ a ∈ B.all ρ1, ∃ o, H' a = some o ∧ mutb o = true := fun a z => by
    rw [← eall] at z
    exact S'.held a z
  by_cases hlt : i < qs.length
  · have hdi : qs[i]? = some qs[i] := List.getElem?_eq_getElem hlt
    have hdm : (qs.map en)[i]? = some (en qs[i]) := by rw [List.getElem?_map, hdi]; rfl
    have hlm : i < (qs.map en).length := by rw [List.length_map]; exact hlt
    have hf' : f qs[i] = (!stop) → ∀ (j : Nat) (r : α), j < i + 1 → qs[j]? = some r → f r = !stop := fun z1 j r hj e => by
      by_cases ej : j = i
      · rw [ej, hdi] at e
        cases e
        exact z1
      · exact hf j r (by omega) e
    refine .inr ⟨wk.go i _ H' kk hlm, fun H3 => f qs[i] = (!stop) ∧ Sim X.K T B (wipeD ρ1 vs) (wipe σ vs) H3 ∧ Kp H2 H3, fun H3 ⟨z1, z2, z3⟩ => ⟨qs.length - (i + 1), by omega, rfl, hlt, hf' z1, z2, z3⟩, ?_⟩
    intro v H3 y
    obtain ⟨hH, d, hd', hrp⟩ := wk.yld i _ H' v H3 kk held hlm y
    rw [hdm] at hd'
    cases hd'
    obtain ⟨t1, t2, t3⟩ := tab_keep hH
    have S3 := S'.grow t1 (fun P z => t2 P (S'.tabs P z)) t3
    obtain ⟨ρb, ρc, g0, g00, g1, g5, g6⟩ := (hb i qs[i] hdi hf).go
    refine ⟨_, en qs[i], ρb, g1, S3, by rw [eall]; exact hrp, fun σ2 S4 hwp => ?_⟩
    have hwp2 : wipe σ2 vs = wipe σ vs := by rw [hwp, wipe_wipe]
    refine ⟨hwp2, ?_⟩
    simp only [tYes, if_true]
    refine ⟨ρb, [], ρc, _, g5, S4, fun w H4 S5 f5 rw_ => ⟨f qs[i], bl_of rw_, fun ek => ?_, fun nk => ?_⟩⟩
    · refine fin S5 ((k'.trans t1).trans f5.kpN) stop ?_
      have : (qs.any fun x => f x == stop) = true := List.any_eq_true.mpr ⟨qs[i], List.getElem_mem hlt, by rw [ek]; exact beq_self_eq_true _⟩
      rw [this]; cases stop <;> rfl
    · refine ⟨by cases h : f qs[i] <;> cases stop <;> first | rfl | (rw [h] at nk; exact absurd rfl nk), ?_, (k'.trans t1).trans f5.kpN⟩
      have z := sim_wiped (vs := vs) (S5.fg g6)
      rw [wipeD_wipeD, hwp2] at z
      exact z
  · have e : i = qs.length := by omega
    subst e
    refine .inl ⟨wk.stop _ _ H' kk (by rw [List.length_map]; exact Nat.le_refl _), fin S' k' _ ?_⟩
    have : (qs.any fun x => f x == stop) = false := by
      rw [List.any_eq_false]
      intro x hx
      obtain ⟨j, hj, ex⟩ := List.getElem_of_mem hx
      rw [hf j x hj (by rw [List.getElem?_eq_getElem hj, ex])]
      cases stop <;> simp
    rw [this]; cases stop <;> rfl
/-- all(elt for tg in iter) -/
theorem ex_allG {α : Type} (qs : List α) (en : α → D) (f : α → Bool) (own : List (Str × Nat)) (hr : Room n X.A) (hgl : Gl X "all") (hm : X.mg "all" = none) (TB : GxR.TabB X.base X.mg c P) (hcode : X.env.code = .ref c) (hPT : TQ.tab P ∈ T) (hN : X.N.Nodup)
    (hi : IX X T B ρ tg iter W ρ1 (qs.map en)) (ok : BlkOk X.N X.env.scope scope own) (G : GenB scope) (hno : noOwn ρ1 (own.map (·.2)) = true)
    (hb : ∀ (i : Nat) (q : α), qs[i]? = some q → (∀ (j : Nat) (r : α), j < i → qs[j]? = some r → f r = true) → GT X T B (gX elt tg iter [] scope gpos) scope tg elt (own.map (·.2)) (wipeD ρ1 (own.map (·.2))) (en q) (f q))
    (hs : ∀ v, genFold iter X.env v = pure v := by intro _; rfl) (hst : starEach [gX elt tg iter [] scope gpos] X.env = (false, eval (gX elt tg iter [] scope gpos) X.env) :: starEach [] X.env := by rfl) :
    EX X T B ρ (.Call (.Name "all" p) [.GeneratorExp elt [⟨tg, iter, [], 0⟩] scope gpos] [] pos) W ρ1 (.bool (qs.all f)) := by
  obtain ⟨wi, hwi, hw⟩ := hi.run
  refine ⟨PE.imp (pe_allB hr hgl hm TB hcode ok G hN hwi (g := gG X T B (gX elt tg iter [] scope gpos) scope tg (own.map (·.2))) (tt := tYes) (te := eG X T B (gX elt tg iter [] scope gpos) scope elt)
    (fun s H C code it fp => ⟨fun pins s' σ H v u Q I rr ⟨ρ, d, ρ', h, z⟩ => PG.run (h s _ C code it fp) pins s' σ H v u Q I rr z⟩) (fun s H C code it fp => pts_nil) (fun s H C code it fp => ⟨fun pins s' σ H Q I ⟨ρ, W, ρ', d, h, z⟩ => (h s _ C code it fp).run.run pins s' σ H Q I z⟩) hs hst) fun σ H Q ⟨S, q⟩ => ?_, hi.own, hi.sub⟩
  refine gen_read (stop := false) qs en f hw hPT hno (fun i q h1 h2 => hb i q h1 fun j r h3 h4 => by simpa using h2 j r h3 h4) S fun v H' S' f' r => q v H' S' f' ?_
  have e : ((qs.any fun x => f x == false) ^^ !false) = qs.all f := by
    rw [List.all_eq_not_any_not]
    have : (fun x => f x == false) = fun x => !f x := by funext x; cases f x <;> rfl
    rw [this]; cases (qs.any fun x => !f x) <;> rfl
  rw [← e]; exact r
/-- any(elt for tg in iter) -/
theorem ex_anyG {α : Type} (qs : List α) (en : α → D) (f : α → Bool) (own : List (Str × Nat)) (hr : Room n X.A) (hgl : Gl X "any") (hm : X.mg "any" = none) (TB : GxR.TabB X.base X.mg c P) (hcode : X.env.code = .ref c) (hPT : TQ.tab P ∈ T) (hN : X.N.Nodup)
    (hi : IX X T B ρ tg iter W ρ1 (qs.map en)) (ok : BlkOk X.N X.env.scope scope own) (G : GenB scope) (hno : noOwn ρ1 (own.map (·.2)) = true)
    (hb : ∀ (i : Nat) (q : α), qs[i]? = some q → (∀ (j : Nat) (r : α), j < i → qs[j]? = some r → f r = false) → GT X T B (gX elt tg iter [] scope gpos) scope tg elt (own.map (·.2)) (wipeD ρ1 (own.map (·.2))) (en q) (f q))
    (hs : ∀ v, genFold iter X.env v = pure v := by intro _; rfl) (hst : starEach [gX elt tg iter [] scope gpos] X.env = (false, eval (gX elt tg iter [] scope gpos) X.env) :: starEach [] X.env := by rfl) :
    EX X T B ρ (.Call (.Name "any" p) [.GeneratorExp elt [⟨tg, iter, [], 0⟩] scope gpos] [] pos) W ρ1 (.bool (qs.any f)) := by
  obtain ⟨wi, hwi, hw⟩ := hi.run
  refine ⟨PE.imp (pe_anyB hr hgl hm TB hcode ok G hN hwi (g := gG X T B (gX elt tg iter [] scope gpos) scope tg (own.map (·.2))) (tt := tYes) (te := eG X T B (gX elt tg iter [] scope gpos) scope elt)
    (fun s H C code it fp => ⟨fun pins s' σ H v u Q I rr ⟨ρ, d, ρ', h, z⟩ => PG.run (h s _ C code it fp) pins s' σ H v u Q I rr z⟩) (fun s H C code it fp => pts_nil) (fun s H C code it fp => ⟨fun pins s' σ H Q I ⟨ρ, W, ρ', d, h, z⟩ => (h s _ C code it fp).run.run pins s' σ H Q I z⟩) hs hst) fun σ H Q ⟨S, q⟩ => ?_, hi.own, hi.sub⟩
  refine gen_read (stop := true) qs en f hw hPT hno (fun i q h1 h2 => hb i q h1 fun j r h3 h4 => by simpa using h2 j r h3 h4) S fun v H' S' f' r => q v H' S' f' ?_
  have e : ((qs.any fun x => f x == true) ^^ !true) = qs.any f := by
    have : (fun x => f x == true) = f := by funext x; cases f x <;> rfl
    rw [this]; cases (qs.any f) <;> rfl
  rw [← e]; exact r
end
end Dv

set_option maxRecDepth 100000
namespace K04
open PySem PySem.Spec PyProof.Rows L2 Dv
def topS (i : Nat) : Stmt := PySem.Challenge.pw_arraysaligned_k04_whole_axes_and_arrays.main.body.getD i (.Pass ⟨0, 0, 0, 0⟩)
abbrev sAlike : Stmt := topS 33
theorem scAlike : FnScope ["found", "due", "k"] ["found", "due"] (defScope sAlike) := ⟨rfl, rfl, rfl, by decide +kernel, rfl, by decide +kernel, by decide +kernel⟩
section
variable {P : Program} {w : World} {K : PySem.W.Frag} {mg : Str → Option Value} {base : Heap} {T : List TQ}
theorem ok_alike1 {f : Addr} {fd : FuncData} {n m : Nat} (F : Fun K "_law_alike" "_law_alike" sAlike f fd) (mf : mg "_law_alike" = some (.ref f)) (b : Binds K fd ["found", "due"] []) (mi : mg "isinstance" = none) (ml : mg "list" = none) (mt : mg "tuple" = none) (mb : mg "bool" = none) (mint : mg "int" = none) (mst : mg "str" = none) (mlen : mg "len" = none) (mr : mg "range" = none)
    (ih : n = 0 ∨ ∃ n', n = n' + 1 ∧ FnOk P w K mg base CX0 m f fd ["found", "due"] (PrD K T 2 (RAlike n'))) : FnOk P w K mg base CX0 (m + 1) f fd ["found", "due"] (PrD K T 2 (RAlike n)) := by
  refine fn_d F scAlike (RAlike n) fun cdv A outer s H E B args d args' hr hl he sh hR => ?_
  obtain ⟨x, y, rfl, hxy, hx, rfl, rfl⟩ := hR
  have seqs : ∀ ds : List D, (y = .list ds ∨ y = .tuple ds ∨ y = .ptup ds) → ds.length ≤ 10000 ∧ ∃ n', FnOk P w K mg base CX0 m f fd ["found", "due"] (PrD K T 2 (RAlike n')) ∧ ∀ z ∈ ds, okD n' z = true := fun ds hd => by
    rcases ih with rfl | ⟨n', rfl, hf⟩
    · rcases hd with rfl | rfl | rfl <;> cases hx
    · have h2 : (decide (ds.length ≤ 10000) && ds.all (okD n')) = true := by rcases hd with rfl | rfl | rfl <;> simpa [okD] using hx
      rw [Bool.and_eq_true] at h2
      exact ⟨of_decide_eq_true h2.1, n', hf, fun z hz => List.all_eq_true.mp h2.2 z hz⟩
  cases y with
  | none =>
    obtain rfl : x = .none := by cases x <;> first | (cases hxy; rfl) | cases hxy
    refine sx_ifR (kb := false) (TX.to (WX.t (wx_or (isiT "list" mi ml (nm 1)) (fun _ => wx_or1 (isiT "tuple" mi mt (nm 1))))) rfl) (fun h => by cases h) (fun _ => ?_)
    exact sx_ifR (kb := true) (TX.to (tx_isN (r2 (nm 1) ex_non)) rfl) (fun _ => sx_ret (ex_isN (r2 (nm 0) ex_non)) ⟨rfl, back0 (args := [_, _])⟩) (fun h => by cases h)
  | bool i =>
    obtain rfl : x = .bool i := by cases x <;> first | (cases hxy; rfl) | cases hxy
    refine sx_ifR (kb := false) (TX.to (WX.t (wx_or (isiT "list" mi ml (nm 1)) (fun _ => wx_or1 (isiT "tuple" mi mt (nm 1))))) rfl) (fun h => by cases h) (fun _ => ?_)
    refine sx_ifR (kb := false) (TX.to (tx_isN (r2 (nm 1) ex_non)) rfl) (fun h => by cases h) (fun _ => ?_)
    refine sx_ifR (kb := true) (TX.to (WX.t (wx_or (isiT "bool" mi mb (nm 1)) (fun _ => wx_or1 (isiT "bool" mi mb (nm 0))))) rfl) (fun _ => ?_) (fun h => by cases h)
    exact sx_ret (EX.to (ex_and (isi "bool" mi mb (nm 0)) (fun _ => ex_and (isi "bool" mi mb (nm 1)) (fun _ => ex_one (ex_eqB (r2 (nm 0) (nm 1)))))) (by rw [decide_eq_true rfl]; rfl)) ⟨rfl, back0 (args := [_, _])⟩
  | int i =>
    obtain rfl : x = .int i := by cases x <;> first | (cases hxy; rfl) | cases hxy
    refine sx_ifR (kb := false) (TX.to (WX.t (wx_or (isiT "list" mi ml (nm 1)) (fun _ => wx_or1 (isiT "tuple" mi mt (nm 1))))) rfl) (fun h => by cases h) (fun _ => ?_)
    refine sx_ifR (kb := false) (TX.to (tx_isN (r2 (nm 1) ex_non)) rfl) (fun h => by cases h) (fun _ => ?_)
    refine sx_ifR (kb := false) (TX.to (WX.t (wx_or (isiT "bool" mi mb (nm 1)) (fun _ => wx_or1 (isiT "bool" mi mb (nm 0))))) rfl) (fun h => by cases h) (fun _ => ?_)
    refine sx_ifR (kb := true) (TX.to (isiT "int" mi mint (nm 1)) rfl) (fun _ => ?_) (fun h => by cases h)
    exact sx_ret (EX.to (ex_and (isi "int" mi mint (nm 0)) (fun _ => ex_one (ex_eqI (r2 (nm 0) (nm 1))))) (by rw [decide_eq_true rfl]; rfl)) ⟨rfl, back0 (args := [_, _])⟩
  | str i =>
    obtain rfl : x = .str i := by cases x <;> first | (cases hxy; rfl) | cases hxy
    refine sx_ifR (kb := false) (TX.to (WX.t (wx_or (isiT "list" mi ml (nm 1)) (fun _ => wx_or1 (isiT "tuple" mi mt (nm 1))))) rfl) (fun h => by cases h) (fun _ => ?_)
    refine sx_ifR (kb := false) (TX.to (tx_isN (r2 (nm 1) ex_non)) rfl) (fun h => by cases h) (fun _ => ?_)
    refine sx_ifR (kb := false) (TX.to (WX.t (wx_or (isiT "bool" mi mb (nm 1)) (fun _ => wx_or1 (isiT "bool" mi mb (nm 0))))) rfl) (fun h => by cases h) (fun _ => ?_)
    refine sx_ifR (kb := false) (TX.to (isiT "int" mi mint (nm 1)) rfl) (fun h => by cases h) (fun _ => ?_)
    exact sx_ret (EX.to (ex_and (isi "str" mi mst (nm 0)) (fun _ => ex_one (ex_eqS (r2 (nm 0) (nm 1))))) (by rw [decide_eq_true rfl]; rfl)) ⟨rfl, back0 (args := [_, _])⟩
  | list ds =>
    obtain ⟨hlen, n', hf, hok⟩ := seqs ds (.inl rfl)
    obtain ⟨xs, rfl, hxs⟩ : ∃ xs, x = .list xs ∧ D.pys xs = D.pys ds := by
      cases x with
      | list xs => exact ⟨xs, rfl, PyData.list.inj hxy⟩
      | _ => cases hxy
    obtain ⟨hln, hat⟩ := pys_at hxs
    refine sx_ifR (kb := true) (TX.to (WX.t (wx_or (isiT "list" mi ml (nm 1)) (fun _ => wx_or1 (isiT "tuple" mi mt (nm 1))))) rfl) (fun _ => ?_) (fun h => by cases h)
    refine sx_ifR (kb := false) (TX.to (WX.t (wx_or (tx_neB (r2 (isi "list" mi ml (nm 0)) (isi "list" mi ml (nm 1)))) (fun _ => wx_or1 (TX.w (tx_neB (r2 (isi "tuple" mi mt (nm 0)) (isi "tuple" mi mt (nm 1)))) rfl)))) rfl) (fun h => by cases h) (fun _ => ?_)
    refine sx_ret (EX.to (ex_and (ex_eqI (r2 (ex_lenL rfl mlen (EX.l (nm 0))) (ex_lenL rfl mlen (EX.l (nm 1))))) (fun _ => ex_one (EX.w (ex_eqE (hu_of hr) (r2 (EO.ex (eo_lcM (List.range ds.length) iD (fun _ => none) [("k", 2)] rfl scAlike.nd (ix_n rfl mr (ex_lenL rfl mlen (EX.l (nm 1))) (by omega)) (blk rfl (by rfl)) (by rw [List.length_range]; exact Nat.le_trans hlen (by decide)) rfl (fun k hk B' => ?_))) (ex_lst ax_nil (by decide)))) rfl))) ?_) ⟨rfl, back0 (args := [_, _])⟩
    · have hk' := List.mem_range.mp hk
      obtain ⟨y, hy⟩ : ∃ y, ds[k]? = some y := ⟨_, List.getElem?_eq_getElem hk'⟩
      obtain ⟨z, hz⟩ : ∃ z, xs[k]? = some z := ⟨_, List.getElem?_eq_getElem (by rw [hln]; exact hk')⟩
      exact tN rfl (fun s H C cl fp => gn 2 scAlike.nd) (fun s H C cl fp => txs_one (TX.w (TX.to (tx_not (tx_val (ex_call hf hr rfl mf F.kp b (ax_cons (ex_ixL (nm 0) (nm 2) (Dv.atI_nat hz) (fun _ _ => rfl)) (ax_cons (ex_ixL (nm 1) (nm 2) (Dv.atI_nat hy) (fun _ _ => rfl)) ax_nil)) rfl ⟨z, y, rfl, hat k z y hz hy, hok y (List.mem_of_getElem? hy), rfl, rfl⟩) (fun _ => rfl))) rfl) rfl)) (.same (.same (.un .nil)))
    · rw [hln, decide_eq_true rfl, show (List.range ds.length).filterMap (fun _ => (none : Option D)) = [] from List.filterMap_eq_nil_iff.mpr fun _ _ => rfl]; rfl
  | tuple ds =>
    obtain ⟨hlen, n', hf, hok⟩ := seqs ds (.inr (.inl rfl))
    obtain ⟨xs, hxt, hxs⟩ : ∃ xs, TupD x xs ∧ D.pys xs = D.pys ds := by
      cases x with
      | tuple xs => exact ⟨xs, .inl rfl, PyData.tuple.inj hxy⟩
      | ptup xs => exact ⟨xs, .inr rfl, PyData.tuple.inj hxy⟩
      | _ => cases hxy
    have e1 : isiD x "list" = false := by rcases hxt with rfl | rfl <;> rfl
    have e2 : isiD x "tuple" = true := by rcases hxt with rfl | rfl <;> rfl
    have nd0 : isDict x = false := by rcases hxt with rfl | rfl <;> rfl
    obtain ⟨hln, hat⟩ := pys_at hxs
    refine sx_ifR (kb := true) (TX.to (WX.t (wx_or (isiT "list" mi ml (nm 1)) (fun _ => wx_or1 (isiT "tuple" mi mt (nm 1))))) rfl) (fun _ => ?_) (fun h => by cases h)
    refine sx_ifR (kb := false) (TX.to (WX.t (wx_or (tx_neB (r2 (isi "list" mi ml (nm 0)) (isi "list" mi ml (nm 1)))) (fun _ => wx_or1 (TX.w (tx_neB (r2 (isi "tuple" mi mt (nm 0)) (isi "tuple" mi mt (nm 1)))) rfl)))) (by rw [e1, e2]; rfl)) (fun h => by cases h) (fun _ => ?_)
    refine sx_ret (EX.to (ex_and (ex_eqI (r2 (ex_lenQ rfl mlen (nm 0) hxt) (ex_lenQ rfl mlen (nm 1) (.inl rfl)))) (fun _ => ex_one (EX.w (ex_eqE (hu_of hr) (r2 (EO.ex (eo_lcM (List.range ds.length) iD (fun _ => none) [("k", 2)] rfl scAlike.nd (ix_n rfl mr (ex_lenQ rfl mlen (nm 1) (.inl rfl)) (by omega)) (blk rfl (by rfl)) (by rw [List.length_range]; exact Nat.le_trans hlen (by decide)) rfl (fun k hk B' => ?_))) (ex_lst ax_nil (by decide)))) rfl))) ?_) ⟨rfl, back0 (args := [_, _])⟩
    · have hk' := List.mem_range.mp hk
      obtain ⟨y, hy⟩ : ∃ y, ds[k]? = some y := ⟨_, List.getElem?_eq_getElem hk'⟩
      obtain ⟨z, hz⟩ : ∃ z, xs[k]? = some z := ⟨_, List.getElem?_eq_getElem (by rw [hln]; exact hk')⟩
      exact tN rfl (fun s H C cl fp => gn 2 scAlike.nd) (fun s H C cl fp => txs_one (TX.w (TX.to (tx_not (tx_val (ex_call hf hr rfl mf F.kp b (ax_cons (ex_ixQ (nm 0) hxt (nm 2) (Dv.atI_nat hz) (fun _ _ => rfl)) (ax_cons (ex_ixQ (nm 1) (.inl rfl) (nm 2) (Dv.atI_nat hy) (fun _ _ => rfl)) ax_nil)) rfl ⟨z, y, rfl, hat k z y hz hy, hok y (List.mem_of_getElem? hy), rfl, rfl⟩) (fun _ => rfl))) rfl) rfl)) (.same (.same (.un .nil)))
    · rw [hln, decide_eq_true rfl, show (List.range ds.length).filterMap (fun _ => (none : Option D)) = [] from List.filterMap_eq_nil_iff.mpr fun _ _ => rfl]; rfl
  | ptup ds =>
    obtain ⟨hlen, n', hf, hok⟩ := seqs ds (.inr (.inr rfl))
    obtain ⟨xs, hxt, hxs⟩ : ∃ xs, TupD x xs ∧ D.pys xs = D.pys ds := by
      cases x with
      | tuple xs => exact ⟨xs, .inl rfl, PyData.tuple.inj hxy⟩
      | ptup xs => exact ⟨xs, .inr rfl, PyData.tuple.inj hxy⟩
      | _ => cases hxy
    have e1 : isiD x "list" = false := by rcases hxt with rfl | rfl <;> rfl
    have e2 : isiD x "tuple" = true := by rcases hxt with rfl | rfl <;> rfl
    have nd0 : isDict x = false := by rcases hxt with rfl | rfl <;> rfl
    obtain ⟨hln, hat⟩ := pys_at hxs
    refine sx_ifR (kb := true) (TX.to (WX.t (wx_or (isiT "list" mi ml (nm 1)) (fun _ => wx_or1 (isiT "tuple" mi mt (nm 1))))) rfl) (fun _ => ?_) (fun h => by cases h)
    refine sx_ifR (kb := false) (TX.to (WX.t (wx_or (tx_neB (r2 (isi "list" mi ml (nm 0)) (isi "list" mi ml (nm 1)))) (fun _ => wx_or1 (TX.w (tx_neB (r2 (isi "tuple" mi mt (nm 0)) (isi "tuple" mi mt (nm 1)))) rfl)))) (by rw [e1, e2]; rfl)) (fun h => by cases h) (fun _ => ?_)
    refine sx_ret (EX.to (ex_and (ex_eqI (r2 (ex_lenQ rfl mlen (nm 0) hxt) (ex_lenQ rfl mlen (nm 1) (.inr rfl)))) (fun _ => ex_one (EX.w (ex_eqE (hu_of hr) (r2 (EO.ex (eo_lcM (List.range ds.length) iD (fun _ => none) [("k", 2)] rfl scAlike.nd (ix_n rfl mr (ex_lenQ rfl mlen (nm 1) (.inr rfl)) (by omega)) (blk rfl (by rfl)) (by rw [List.length_range]; exact Nat.le_trans hlen (by decide)) rfl (fun k hk B' => ?_))) (ex_lst ax_nil (by decide)))) rfl))) ?_) ⟨rfl, back0 (args := [_, _])⟩
    · have hk' := List.mem_range.mp hk
      obtain ⟨y, hy⟩ : ∃ y, ds[k]? = some y := ⟨_, List.getElem?_eq_getElem hk'⟩
      obtain ⟨z, hz⟩ : ∃ z, xs[k]? = some z := ⟨_, List.getElem?_eq_getElem (by rw [hln]; exact hk')⟩
      exact tN rfl (fun s H C cl fp => gn 2 scAlike.nd) (fun s H C cl fp => txs_one (TX.w (TX.to (tx_not (tx_val (ex_call hf hr rfl mf F.kp b (ax_cons (ex_ixQ (nm 0) hxt (nm 2) (Dv.atI_nat hz) (fun _ _ => rfl)) (ax_cons (ex_ixQ (nm 1) (.inr rfl) (nm 2) (Dv.atI_nat hy) (fun _ _ => rfl)) ax_nil)) rfl ⟨z, y, rfl, hat k z y hz hy, hok y (List.mem_of_getElem? hy), rfl, rfl⟩) (fun _ => rfl))) rfl) rfl)) (.same (.same (.un .nil)))
    · rw [hln, decide_eq_true rfl, show (List.range ds.length).filterMap (fun _ => (none : Option D)) = [] from List.filterMap_eq_nil_iff.mpr fun _ _ => rfl]; rfl
  | dict ds => cases n <;> cases hx
/-- .. at any depth -/
theorem ok_alike {f : Addr} {fd : FuncData} (F : Fun K "_law_alike" "_law_alike" sAlike f fd) (mf : mg "_law_alike" = some (.ref f)) (b : Binds K fd ["found", "due"] []) (mi : mg "isinstance" = none) (ml : mg "list" = none) (mt : mg "tuple" = none) (mb : mg "bool" = none) (mint : mg "int" = none) (mst : mg "str" = none) (mlen : mg "len" = none) (mr : mg "range" = none) :
    ∀ n m, FnOk P w K mg base CX0 (m + n + 1) f fd ["found", "due"] (PrD K T 2 (RAlike n))
  | 0, m => ok_alike1 F mf b mi ml mt mb mint mst mlen mr (.inl rfl)
  | n + 1, m => ok_alike1 (m := m + n + 1) F mf b mi ml mt mb mint mst mlen mr (.inr ⟨n, rfl, ok_alike F mf b mi ml mt mb mint mst mlen mr n m⟩)
end
end K04

set_option maxRecDepth 100000
namespace K04
open PySem PySem.Spec PyProof.Rows L2 Dv
abbrev sNum : Stmt := topS 9
theorem scNum : FnScope ["value", "least", "most"] ["value", "least", "most"] (defScope sNum) := ⟨rfl, rfl, rfl, by decide +kernel, rfl, by decide +kernel, by decide +kernel⟩
def numV (lo hi : Int) : D → Bool
  | .int i => decide (lo ≤ i) && decide (i ≤ hi)
  | _ => false
def RNum : Sl → D → Sl → Prop := fun args d args' => ∃ (x : D) (lo hi : Int), args = [.dat x, .dat (.int lo), .dat (.int hi)] ∧ isDict x = false ∧ d = .bool (numV lo hi x) ∧ args' = args
section
variable {P : Program} {w : World} {K : PySem.W.Frag} {mg : Str → Option Value} {base : Heap} {T : List TQ}
theorem ok_num {f : Addr} {fd : FuncData} {n : Nat} (F : Fun K "is_number" "is_number" sNum f fd) (mi : mg "isinstance" = none) (mint : mg "int" = none) (mb : mg "bool" = none) : FnOk P w K mg base CX0 (n + 1) f fd ["value", "least", "most"] (PrD K T 3 RNum) := by
  refine fn_d F scNum RNum fun cdv A outer s H E B args d args' hr hl he sh hR => ?_
  obtain ⟨x, lo, hi, rfl, nd, rfl, rfl⟩ := hR
  refine sx_ret (EX.to (ex_and (k2 := !isiD x "bool" && numV lo hi x) (isi "int" mi mint (nm 0)) (fun h => ex_and (k2 := numV lo hi x) (ex_not (isi "bool" mi mb (nm 0))) (fun h2 => ex_one ?_))) ?_) ⟨rfl, back0 (args := [_, _, _])⟩
  · cases x with
    | int i => exact EX.w (ex_leLe (nm 1) (nm 0) (nm 2)) rfl
    | bool b => exact absurd (show (!true) = true from h2) (by decide)
    | _ => exact absurd (show false = true from h) (by decide)
  · cases x <;> first | (cases nd; done) | (simp [isiD, isiS, tyD, numV])
end
end K04

set_option maxRecDepth 100000
namespace Dv
open PySem PySem.Spec PyProof.Rows L2
section
variable {X : Cx} {T : List TQ} {B : Bs} {ρ ρ1 ρ2 : Sl} {W W1 W2 : List Addr} {a b : Expr} {d : D} {pos p : Pos}
/-- text < text -/
theorem ex_ltS {x y : Str} (h : R2 X T B ρ a b W ρ1 (.str x) (.str y)) : EX X T B ρ (.Compare a [.Lt] [b] pos) W ρ1 (.bool (decide (x.cps.toList < y.cps.toList))) :=
  ex_cmp op_lt_str h (nomark _) (fun u v H Q r1 r2 q => ⟨x, y, str_of r1, str_of r2, q⟩) fun _ => .bl _
/-- sign in text, as a value -/
theorem ex_in1 {c : Nat} {z : Str} (h : R2 X T B ρ a b W ρ1 (.str ⟨#[c]⟩) (.str z)) (hm : behindInMarks .In b = false := by rfl) : EX X T B ρ (.Compare a [.In] [b] pos) W ρ1 (.bool (decide (c ∈ z.cps.toList))) :=
  ex_cmp op_in_sign h hm (fun x y H Q r1 r2 q => ⟨c, z, str_of r1, str_of r2, q⟩) fun _ => .bl _
theorem tx_in1 {c : Nat} {z : Str} (h : R2 X T B ρ a b W ρ1 (.str ⟨#[c]⟩) (.str z)) (hm : behindInMarks .In b = false := by rfl) : TX X T B ρ (.Compare a [.In] [b] pos) W ρ1 (decide (c ∈ z.cps.toList)) :=
  tx_cmp op_in_sign h hm (fun x y H Q r1 r2 q => ⟨c, z, str_of r1, str_of r2, q⟩)
/-- a turn of a generator -/
theorem gT {e tg elt : Expr} {scope : Scope} {vs : List Nat} {ρw ρb ρc : Sl} {k : Bool} (h1 : ∀ s H C code it fp, GX (Gk X e scope s H C code it fp) T B ρw tg vs d ρb) (h2 : ∀ s H C code it fp, EX (Gk X e scope s H C code it fp) T B ρb elt [] ρc (.bool k)) (h3 : Fg ρc ρw)
    (o1 : owns ρb = owns ρw := by rfl) (o2 : owns ρc = owns ρw := by rfl) : GT X T B e scope tg elt vs ρw d k := ⟨⟨ρb, ρc, o1, o2, h1, h2, h3⟩⟩
theorem ix_id {tg e : Expr} {ds : List D} (h : IX X T B ρ tg e W ρ1 ds) : IX X T B ρ tg e W ρ1 (ds.map id) := by rw [List.map_id]; exact h
/-- range(1, n) -/
theorem ix_n1 {tg : Expr} {c : Expr} {n : Nat} (hg : Gl X "range") (hm : X.mg "range" = none) (hc : EX X T B ρ c [] ρ (.int 1)) (hb : EX X T B ρ b W ρ1 (.int (n : Nat))) (hn : n ≤ 1000000) (hs : starEach [c, b] X.env = [(false, eval c X.env), (false, eval b X.env)] := by rfl) (hs2 : starEach [b] X.env = [(false, eval b X.env)] := by rfl) :
    IX X T B ρ tg (.Call (.Name "range" p) [c, b] [] pos) W ρ1 ((List.range (n - 1)).map fun i : Nat => .int (1 + (i : Int))) := by
  have z := ix_r2 (tg := tg) (p := p) (pos := pos) hg hm hc hb ⟨by omega, by omega, by omega, by omega⟩ hs hs2
  have e : ((n : Int) - 1).toNat = n - 1 := by omega
  rw [e] at z
  exact z
end
end Dv

set_option maxRecDepth 100000
namespace K04
open PySem PySem.Spec PyProof.Rows L2 Dv
abbrev sAxis : Stmt := topS 17
abbrev sAxes : Stmt := topS 18
theorem scAxis : FnScope ["value"] ["value"] (defScope sAxis) := ⟨rfl, rfl, rfl, by decide +kernel, rfl, by decide +kernel, by decide +kernel⟩
theorem scAxes : FnScope ["value", "one", "at"] ["value"] (defScope sAxes) := ⟨rfl, rfl, rfl, by decide +kernel, rfl, by decide +kernel, by decide +kernel⟩
def letters : List Nat := (List.range 26).map (· + 97)
abbrev abc : Str := "abcdefghijklmnopqrstuvwxyz"
theorem abc_is : abc.cps.toList = letters := by decide +kernel
def axV (c : Nat) : Bool := decide (c ∈ letters)
/-- is_axis -/
def axisV : D → Bool
  | .str z => match z.cps.toList with
    | [c] => axV c
    | _ => false
  | _ => false
def ascV : List Nat → Bool
  | a :: b :: r => decide (a < b) && ascV (b :: r)
  | _ => true
/-- are_axes -/
def axesV : D → Bool
  | .str z => z.cps.toList.all axV && ascV z.cps.toList
  | _ => false
/-- no text is long -/
def SmallS (d : D) : Prop := ∀ z, d = .str z → z.cps.toList.length ≤ 100
def RAxis : Sl → D → Sl → Prop := fun args d args' => ∃ x : D, args = [.dat x] ∧ isDict x = false ∧ SmallS x ∧ d = .bool (axisV x) ∧ args' = args
def RAxes : Sl → D → Sl → Prop := fun args d args' => ∃ x : D, args = [.dat x] ∧ isDict x = false ∧ SmallS x ∧ d = .bool (axesV x) ∧ args' = args
theorem asc_range : ∀ (l : List Nat), ascV l = (List.range (l.length - 1)).all fun i => decide (l.getD i 0 < l.getD (i + 1) 0)
  | [] => rfl
  | [a] => rfl
  | a :: b :: r => by
    unfold ascV
    rw [asc_range (b :: r)]
    show _ = (List.range (r.length + 1)).all _
    rw [List.range_succ_eq_map, List.all_cons, List.all_map]
    rfl
theorem _root_.Dv.atI_to {α : Type} {xs : List α} {i : Int} {j : Nat} {x : α} (e : i = (j : Int)) (h : xs[j]? = some x) : atI xs i = some x := by rw [e]; exact Dv.atI_nat h
section
variable {P : Program} {w : World} {K : PySem.W.Frag} {mg : Str → Option Value} {base : Heap} {T : List TQ}
theorem ok_axis {f : Addr} {fd : FuncData} {n : Nat} {t : Tok} (F : Fun K "is_axis" "is_axis" sAxis f fd) (mi : mg "isinstance" = none) (mst : mg "str" = none) (ml : mg "len" = none) (mL : mg "LETTERS" = some (.str abc t)) : FnOk P w K mg base CX0 (n + 1) f fd ["value"] (PrD K T 1 RAxis) := by
  refine fn_d F scAxis RAxis fun cdv A outer s H E B args d args' hr hl he sh hR => ?_
  obtain ⟨x, rfl, nd, sm, rfl, rfl⟩ := hR
  have hz : sizeLine = 16777216 := rfl
  cases x with
  | str z =>
    have sm := sm z rfl
    have hzl : z.length ≤ sizeLine := by show z.cps.size ≤ _; rw [← Array.length_toList]; omega
    have hzz : (z.length : Int) = z.cps.toList.length := by show ((z.cps.size : Nat) : Int) = _; rw [← Array.length_toList]
    refine sx_ret (EX.to (ex_and (k2 := decide (z.cps.toList.length = 1) && axisV (.str z)) (isi "str" mi mst (nm 0)) (fun _ => ex_and (k1 := decide (z.cps.toList.length = 1)) (k2 := axisV (.str z)) (EX.to (ex_eqI (r2 (ex_lenS (by rfl) ml (nm 0) hzl) ex_int)) ?_) (fun h => ex_one ?_))) ?_) ⟨rfl, back0 (args := [_])⟩
    · rw [hzz]; exact congrArg D.bool (decide_eq_decide.mpr (by omega))
    · have h : z.cps.toList.length = 1 := of_decide_eq_true h
      obtain ⟨c, ec⟩ := List.length_eq_one_iff.mp h
      have ez : z = ⟨#[c]⟩ := by
        cases z with | mk cps => exact congrArg Str.mk (by rw [← Array.toArray_toList (xs := cps), ec])
      subst ez
      exact EX.to (ex_in1 (r2 (nm 0) (ex_gstr (by rfl) mL))) (by rw [abc_is]; rfl)
    · show D.bool (true && _) = _
      rw [Bool.true_and]
      refine congrArg D.bool ?_
      show (_ && (match z.cps.toList with | [c] => axV c | _ => false)) = (match z.cps.toList with | [c] => axV c | _ => false)
      cases h : z.cps.toList with
      | nil => rfl
      | cons c r => cases r <;> simp
  | dict _ => cases nd
  | _ => exact sx_ret (EX.to (ex_and (k2 := false) (isi "str" mi mst (nm 0)) (fun h => by cases h)) rfl) ⟨rfl, back0 (args := [_])⟩
theorem ok_axes {f fa : Addr} {fd fda : FuncData} {n : Nat} {c0 P' : Addr} (F : FunC K "are_axes" "are_axes" sAxes f fd (.ref c0)) (TB : GxR.TabB base mg c0 P') (hP : TQ.tab P' ∈ T) (mi : mg "isinstance" = none) (mst : mg "str" = none) (ml : mg "len" = none) (mr : mg "range" = none) (mall : mg "all" = none)
    (ha : FnOk P w K mg base CX0 n fa fda ["value"] (PrD K T 1 RAxis)) (ma : mg "is_axis" = some (.ref fa)) (ka : PySem.W.keepIn K (.ref fa) = true) (ba : Binds K fda ["value"] []) : FnOk P w K mg base CX0 (n + 2) f fd ["value"] (PrD K T 1 RAxes) := by
  refine fn_dC F scAxes RAxes fun A outer s H E B args d args' hr hl he sh hR => ?_
  obtain ⟨x, rfl, nd, sm, rfl, rfl⟩ := hR
  have hz : sizeLine = 16777216 := rfl
  cases x with
  | str z =>
    have sm := sm z rfl
    have hzl : z.length ≤ sizeLine := by show z.cps.size ≤ _; rw [← Array.length_toList]; omega
    have hzz : (z.length : Int) = z.cps.toList.length := by show ((z.cps.size : Nat) : Int) = _; rw [← Array.length_toList]
    refine sx_ifR (kb := !z.cps.toList.all axV) (TX.to (WX.t (wx_or (tx_not (isiT "str" mi mst (nm 0))) (fun _ => wx_or1 (tx_not (tx_val (ex_allG z.cps.toList sgD axV [("one", 1)] hr rfl mall TB rfl hP scAxes.nd (ix_s (nm 0)) (blk rfl (by rfl)) ⟨rfl, by decide +kernel, rfl⟩ rfl (fun i q hq hb => ?_)) (fun _ => rfl)))))) rfl) (fun h => ?_) (fun h => ?_)
    · exact gT (fun s H C code it fp => gn 1 scAxes.nd) (fun s H C code it fp => EX.to (ex_call ha (room_gk hr) rfl ma ka ba (ax_cons (nm 1) ax_nil) rfl ⟨sgD q, rfl, rfl, fun z ez => by cases ez; exact Nat.le_of_ble_eq_true rfl, rfl, rfl⟩) rfl) (.same (.un (.same .nil)))
    · refine sx_ret ex_bl ⟨?_, back0 (args := [_])⟩
      have h : z.cps.toList.all axV = false := by simpa using h
      show D.bool false = D.bool (z.cps.toList.all axV && ascV z.cps.toList)
      rw [h]; rfl
    · have h : z.cps.toList.all axV = true := by simpa using h
      have gD : ∀ j : Nat, j < z.cps.toList.length → z.cps.toList[j]? = some (z.cps.toList.getD j 0) := fun j hj => by rw [List.getD_eq_getElem?_getD, List.getElem?_eq_getElem hj]; rfl
      refine sx_ret (EX.to (ex_allG (List.range (z.cps.toList.length - 1)) (fun i : Nat => .int (1 + (i : Int))) (fun i => decide (z.cps.toList.getD i 0 < z.cps.toList.getD (i + 1) 0)) [("at", 2)] hr rfl mall TB rfl hP scAxes.nd (ix_n1 rfl mr ex_int (EX.to (ex_lenS rfl ml (nm 0) hzl) (congrArg D.int hzz)) (by omega)) (blk rfl (by rfl)) ⟨rfl, by decide +kernel, rfl⟩ rfl (fun i q hq hb => ?_)) ?_) ⟨rfl, back0 (args := [_])⟩
      · obtain ⟨hi, eq⟩ := List.getElem?_eq_some_iff.mp hq
        rw [List.length_range] at hi
        rw [List.getElem_range] at eq
        subst eq
        have g0 := gD i (by omega)
        have g1 := gD (i + 1) (by omega)
        exact gT (fun s H C code it fp => gn 2 scAxes.nd) (fun s H C code it fp => EX.to (ex_ltS (r2 (ex_ixS (nm 0) (ex_sub (nm 2) ex_int) hzl (Dv.atI_to (by omega) g0) (fun _ _ => rfl)) (ex_ixS (nm 0) (nm 2) hzl (Dv.atI_to (by omega) g1) (fun _ _ => rfl)))) (congrArg D.bool (decide_eq_decide.mpr (by simp [List.cons_lt_cons_iff])))) (.same (.same (.un .nil)))
      · rw [← asc_range]
        show _ = D.bool (z.cps.toList.all axV && ascV z.cps.toList)
        rw [h]; rfl
  | dict _ => cases nd
  | _ => exact sx_ifR (kb := true) (TX.to (WX.t (wx_or (k2 := true) (tx_not (isiT "str" mi mst (nm 0))) (fun h => by cases h))) rfl) (fun _ => sx_ret ex_bl ⟨rfl, back0 (args := [_])⟩) (fun h => by cases h)
end
end K04

set_option maxRecDepth 100000
namespace K04
open PySem PySem.Spec PyProof.Rows L2 Dv
abbrev sLens : Stmt := topS 19
abbrev lensN : List Str := ["value", "one", "axis", "long", "at"]
theorem scLens : FnScope lensN ["value"] (defScope sLens) := ⟨rfl, rfl, rfl, by decide +kernel, rfl, by decide +kernel, by decide +kernel⟩
/-- the items of a tuple -/
def tupL : D → Option (List D)
  | .tuple ds => some ds
  | .ptup ds => some ds
  | _ => none
def pair2 : D → Bool
  | .tuple l => decide (l.length = 2)
  | _ => false
/-- an axis and a length -/
def okPair : D → Bool
  | .tuple [k, v] => axisV k && numV 0 9 v
  | _ => false
def keyOf : D → List Nat
  | .tuple (.str z :: _) => z.cps.toList
  | _ => []
def ascL (ds : List D) : Bool := (List.range (ds.length - 1)).all fun i => decide (keyOf (ds.getD i .none) < keyOf (ds.getD (i + 1) .none))
/-- are_lengths -/
def lensV (x : D) : Bool := match tupL x with
  | some ds => ds.all pair2 && (ds.all okPair && ascL ds)
  | none => false
/-- no dict, no long text within; a pair is followed -/
def Item1 (d : D) : Prop := isDict d = false ∧ SmallS d
def Item2 (d : D) : Prop := isDict d = false ∧ (∀ l, d ≠ .ptup l) ∧ ∀ l, d = .tuple l → ∀ y ∈ l, Item1 y
def LensOk (x : D) : Prop := isDict x = false ∧ ∀ ds, tupL x = some ds → ds.length ≤ 100 ∧ ∀ d ∈ ds, Item2 d
def RLens : Sl → D → Sl → Prop := fun args d args' => ∃ x : D, args = [.dat x] ∧ LensOk x ∧ d = .bool (lensV x) ∧ args' = args
theorem tupL_q {x : D} {ds : List D} (h : tupL x = some ds) : TupD x ds := by
  cases x with
  | tuple l => cases h; exact .inl rfl
  | ptup l => cases h; exact .inr rfl
  | _ => cases h
theorem tupL_isi {x : D} : isiD x "tuple" = (tupL x).isSome := by cases x <;> rfl
theorem pair2_of {d : D} (h : pair2 d = true) : ∃ a b, d = .tuple [a, b] := by
  cases d with
  | tuple l =>
    have h : l.length = 2 := of_decide_eq_true h
    match l, h with
    | [a, b], _ => exact ⟨a, b, rfl⟩
  | _ => cases h
theorem okPair_of {d : D} (h : okPair d = true) : ∃ (c : Nat) (v : D), d = .tuple [.str ⟨#[c]⟩, v] ∧ axV c = true ∧ numV 0 9 v = true := by
  match d, h with
  | .tuple [k, v], h =>
    have h : (axisV k && numV 0 9 v) = true := h
    rw [Bool.and_eq_true] at h
    obtain ⟨h1, h2⟩ := h
    cases k with
    | str z =>
      have h1 : (match z.cps.toList with | [c] => axV c | _ => false) = true := h1
      cases e : z.cps.toList with
      | nil => rw [e] at h1; cases h1
      | cons c r =>
        cases r with
        | nil =>
          rw [e] at h1
          refine ⟨c, v, ?_, h1, h2⟩
          have : z = ⟨#[c]⟩ := by
            cases z with | mk cps => exact congrArg Str.mk (by rw [← Array.toArray_toList (xs := cps), e])
          rw [this]
        | cons _ _ => rw [e] at h1; cases h1
    | _ => cases h1
section
variable {P : Program} {w : World} {K : PySem.W.Frag} {mg : Str → Option Value} {base : Heap} {T : List TQ}
theorem ok_lens {f fa fn : Addr} {fd fda fdn : FuncData} {n : Nat} {c0 P' : Addr} {t : Tok} (F : FunC K "are_lengths" "are_lengths" sLens f fd (.ref c0)) (TB : GxR.TabB base mg c0 P') (hP : TQ.tab P' ∈ T) (mi : mg "isinstance" = none) (mt : mg "tuple" = none) (ml : mg "len" = none) (mr : mg "range" = none) (mall : mg "all" = none) (mM : mg "MOST_LENGTH" = some (.int 9 t))
    (ha : FnOk P w K mg base CX0 n fa fda ["value"] (PrD K T 1 RAxis)) (ma : mg "is_axis" = some (.ref fa)) (ka : PySem.W.keepIn K (.ref fa) = true) (ba : Binds K fda ["value"] [])
    (hn : FnOk P w K mg base CX0 n fn fdn ["value", "least", "most"] (PrD K T 3 RNum)) (mn : mg "is_number" = some (.ref fn)) (kn : PySem.W.keepIn K (.ref fn) = true) (bn : Binds K fdn ["value", "least", "most"] []) : FnOk P w K mg base CX0 (n + 2) f fd ["value"] (PrD K T 1 RLens) := by
  refine fn_dC F scLens RLens fun A outer s H E B args d args' hr hl he sh hR => ?_
  obtain ⟨x, rfl, ⟨nd, hx⟩, rfl, rfl⟩ := hR
  have hz : sizeLine = 16777216 := rfl
  cases hu : tupL x with
  | none =>
    have e : isiD x "tuple" = false := by rw [tupL_isi, hu]; rfl
    refine sx_ifR (kb := true) (TX.to (WX.t (wx_or (k2 := true) (tx_not (isiT "tuple" mi mt (nm 0))) (fun h => by rw [e] at h; cases h))) (by rw [e]; rfl)) (fun _ => sx_ret ex_bl ⟨?_, back0 (args := [_])⟩) (fun h => by cases h)
    unfold lensV; rw [hu]
  | some ds =>
    obtain ⟨hlen, hds⟩ := hx ds hu
    have hq := tupL_q hu
    have e : isiD x "tuple" = true := by rw [tupL_isi, hu]; rfl
    have ev : lensV x = (ds.all pair2 && (ds.all okPair && ascL ds)) := by unfold lensV; rw [hu]
    rw [ev]
    refine sx_ifR (kb := !ds.all pair2) (TX.to (WX.t (wx_or (k2 := !ds.all pair2) (tx_not (isiT "tuple" mi mt (nm 0))) (fun _ => wx_or1 (tx_not (tx_val (ex_allG ds id pair2 [("one", 1)] hr (by rfl) mall TB (by rfl) hP scLens.nd (ix_id (ix_q (nm 0) hq)) (blk rfl (by rfl)) ⟨rfl, by decide +kernel, rfl⟩ rfl (fun i q hq hb => ?_)) (fun _ => rfl)))))) (by rw [e]; rfl)) (fun h => ?_) (fun h => ?_)
    · have hi := hds q (List.mem_of_getElem? hq)
      have ndq := hi.1
      refine gT (fun s H C code it fp => gn 1 scLens.nd) (fun s H C code it fp => EX.to (ex_and (k2 := pair2 q) (isi "tuple" mi mt (nm 1) (nd := ndq)) (fun h => ex_one ?_)) ?_) (.same (.un (.same (.same (.same .nil)))))
      · cases q with
        | tuple l => exact EX.to (ex_eqI (r2 (ex_lenT (by rfl) ml (nm 1)) ex_int)) (congrArg D.bool (decide_eq_decide.mpr (by omega)))
        | ptup l => exact absurd rfl (hi.2.1 l)
        | _ => cases h
      · cases q <;> rfl
    · refine sx_ret ex_bl ⟨?_, back0 (args := [_])⟩
      have h : ds.all pair2 = false := by simpa using h
      rw [h]; rfl
    have h2 : ds.all pair2 = true := by simpa using h
    refine sx_ifR (kb := !ds.all okPair) (TX.to (tx_not (tx_val (ex_allG ds id okPair [("axis", 2), ("long", 3)] hr (by rfl) mall TB (by rfl) hP scLens.nd (ix_id (ix_q (nm 0) hq)) (blk rfl (by rfl)) ⟨rfl, by decide +kernel, rfl⟩ rfl (fun i q hq hb => ?_)) (fun _ => rfl))) rfl) (fun h => ?_) (fun h => ?_)
    · have hqm := List.mem_of_getElem? hq
      have hi := hds q hqm
      obtain ⟨k, v, rfl⟩ := pair2_of (List.all_eq_true.mp h2 q hqm)
      have hk := hi.2.2 _ rfl k List.mem_cons_self
      have hv := hi.2.2 _ rfl v (List.mem_cons_of_mem _ List.mem_cons_self)
      exact gT (fun s H C code it fp => gx_tup (vs := [2, 3]) rfl (gxs_cons (gn 2 scLens.nd) (gxs_cons (gn 3 scLens.nd) gxs_nil sub_set) sub_set) rfl)
        (fun s H C code it fp => ex_and (k2 := numV 0 9 v) (ex_call ha (room_gk hr) rfl ma ka ba (ax_cons (nm 2) ax_nil) rfl ⟨k, rfl, hk.1, hk.2, rfl, rfl⟩) (fun h => ex_one (ex_call hn (room_gk hr) rfl mn kn bn (ax_cons (nm 3) (ax_cons ex_int (ax_cons (ex_gint (by rfl) mM) ax_nil))) rfl ⟨v, 0, 9, rfl, hv.1, rfl, rfl⟩))) (.same (.same (.un (.un (.same .nil)))))
    · refine sx_ret ex_bl ⟨?_, back0 (args := [_])⟩
      have h : ds.all okPair = false := by simpa using h
      rw [h, h2]; rfl
    have h3 : ds.all okPair = true := by simpa using h
    refine sx_ret (EX.to (ex_allG (List.range (ds.length - 1)) (fun i : Nat => .int (1 + (i : Int))) (fun i => decide (keyOf (ds.getD i .none) < keyOf (ds.getD (i + 1) .none))) [("at", 4)] hr rfl mall TB rfl hP scLens.nd (ix_n1 rfl mr ex_int (ex_lenQ rfl ml (nm 0) hq) (by omega)) (blk rfl (by rfl)) ⟨rfl, by decide +kernel, rfl⟩ rfl (fun i q hq' hb => ?_)) ?_) ⟨rfl, back0 (args := [_])⟩
    · obtain ⟨hi, eq⟩ := List.getElem?_eq_some_iff.mp hq'
      rw [List.length_range] at hi
      rw [List.getElem_range] at eq
      subst eq
      have gD : ∀ j : Nat, j < ds.length → ∃ (c : Nat) (v : D), ds[j]? = some (.tuple [.str ⟨#[c]⟩, v]) ∧ keyOf (ds.getD j .none) = [c] := fun j hj => by
        obtain ⟨c, v, ec, _⟩ := okPair_of (List.all_eq_true.mp h3 ds[j] (List.getElem_mem hj))
        have e1 : ds[j]? = some (.tuple [.str ⟨#[c]⟩, v]) := by rw [List.getElem?_eq_getElem hj, ec]
        exact ⟨c, v, e1, by rw [List.getD_eq_getElem?_getD, e1]; rfl⟩
      obtain ⟨c1, v1, g0, k0⟩ := gD i (by omega)
      obtain ⟨c2, v2, g1, k1⟩ := gD (i + 1) (by omega)
      exact gT (fun s H C code it fp => gn 4 scLens.nd) (fun s H C code it fp => EX.to (ex_ltS (r2 (ex_ixT (ex_ixQ (nm 0) hq (ex_sub (nm 4) ex_int) (Dv.atI_to (by omega) g0) (fun _ _ => rfl)) ex_int Dv.atI_z (fun _ _ => rfl)) (ex_ixT (ex_ixQ (nm 0) hq (nm 4) (Dv.atI_to (by omega) g1) (fun _ _ => rfl)) ex_int Dv.atI_z (fun _ _ => rfl)))) (by rw [k0, k1])) (.same (.same (.same (.same (.un .nil)))))
    · rw [h2, h3]; rfl
end
end K04

set_option maxRecDepth 100000
namespace K04
open PySem PySem.Spec PyProof.Rows L2 Dv
abbrev sExact : Stmt := topS 11
abbrev sValue : Stmt := topS 24
theorem scExact : FnScope ["value", "part", "whole", "one"] ["value"] (defScope sExact) := ⟨rfl, rfl, rfl, by decide +kernel, rfl, by decide +kernel, by decide +kernel⟩
theorem scValue : FnScope ["value"] ["value"] (defScope sValue) := ⟨rfl, rfl, rfl, by decide +kernel, rfl, by decide +kernel, by decide +kernel⟩
def isI : D → Bool
  | .int _ => true
  | _ => false
/-- is_exact -/
def exactV : D → Bool
  | .tuple [.int p, .int q] => decide (1 ≤ q) && decide (Nat.gcd p.natAbs q.natAbs = 1)
  | _ => false
def great : Int := 10 ^ 60
/-- is_value -/
def valueV : D → Bool
  | .tuple [.int p, .int q] => decide (1 ≤ q) && (decide (Nat.gcd p.natAbs q.natAbs = 1) && (decide ((p.natAbs : Int) ≤ great) && decide (q ≤ great)))
  | _ => false
/-- a tuple is followed, its items are no dicts -/
def ValOk (d : D) : Prop := isDict d = false ∧ (∀ l, d ≠ .ptup l) ∧ ∀ l, d = .tuple l → ∀ y ∈ l, isDict y = false
def RExact : Sl → D → Sl → Prop := fun args d args' => ∃ x : D, args = [.dat x] ∧ ValOk x ∧ d = .bool (exactV x) ∧ args' = args
def RValue : Sl → D → Sl → Prop := fun args d args' => ∃ x : D, args = [.dat x] ∧ ValOk x ∧ d = .bool (valueV x) ∧ args' = args
theorem exact_len {l : List D} (h : l.length ≠ 2) : exactV (.tuple l) = false := by
  unfold exactV
  split
  · rename_i e; cases e; exact absurd rfl h
  · rfl
theorem exact_of {x : D} (h : exactV x = true) : ∃ p q : Int, x = .tuple [.int p, .int q] ∧ 1 ≤ q ∧ Nat.gcd p.natAbs q.natAbs = 1 := by
  unfold exactV at h
  split at h
  · rename_i p q
    rw [Bool.and_eq_true] at h
    exact ⟨p, q, rfl, of_decide_eq_true h.1, of_decide_eq_true h.2⟩
  · cases h
theorem value_of (x : D) : valueV x = (exactV x && (match x with | .tuple [.int p, .int q] => decide ((p.natAbs : Int) ≤ great) && decide (q ≤ great) | _ => false)) := by
  unfold valueV exactV
  split
  · rw [Bool.and_assoc]
  · rfl
section
variable {P : Program} {w : World} {K : PySem.W.Frag} {mg : Str → Option Value} {base : Heap} {T : List TQ}
theorem ok_exact {f : Addr} {fd : FuncData} {n : Nat} (F : Fun K "is_exact" "is_exact" sExact f fd) (mi : mg "isinstance" = none) (mt : mg "tuple" = none) (mint : mg "int" = none) (mb : mg "bool" = none) (ml : mg "len" = none) (mg' : mg "gcd" = some (.builtin "math.gcd")) : FnOk P w K mg base CX0 (n + 1) f fd ["value"] (PrD K T 1 RExact) := by
  refine fn_d F scExact RExact fun cdv A outer s H E B args d args' hr hl he sh hR => ?_
  obtain ⟨x, rfl, ⟨nd, np, hx⟩, rfl, rfl⟩ := hR
  cases x with
  | dict _ => cases nd
  | ptup l => exact absurd rfl (np l)
  | tuple l =>
    have hx := hx l rfl
    refine sx_ifR (kb := !decide (l.length = 2)) (TX.to (WX.t (wx_or (k2 := !decide (l.length = 2)) (tx_not (isiT "tuple" mi mt (nm 0))) (fun _ => wx_or1 (TX.to (tx_neI (r2 (ex_lenT (by rfl) ml (nm 0)) ex_int)) (congrArg (!·) (decide_eq_decide.mpr (by omega))))))) rfl) (fun h => ?_) (fun h => ?_)
    · refine sx_ret ex_bl ⟨?_, back0 (args := [_])⟩
      have h : l.length ≠ 2 := by simpa using h
      rw [exact_len h]
    have h : l.length = 2 := by simpa using h
    match l, h with
    | [a, b], _ =>
    have na := hx a List.mem_cons_self
    have nb := hx b (List.mem_cons_of_mem _ List.mem_cons_self)
    refine sx_asg (vs := [1, 2]) (nm 0) (gx_tup (vs := [1, 2]) rfl (gxs_cons (gn 1 scExact.nd) (gxs_cons (gn 2 scExact.nd) gxs_nil sub_set) sub_set) rfl) ?_
    refine sx_forI (ds := [a, b]) [3] (fun _ : Unit => [.dat (.tuple [a, b]), .dat a, .dat b, .un]) (fun j _ => ∀ i, i < j → isI ([a, b].getD i .none) = true) (fun _ => isI a = true ∧ isI b = true) () PassesOwn.never rfl
      (ix_t (nm 0)) (.same (.same (.same (.un .nil)))) (fun i h => absurd h (Nat.not_lt_zero i)) (fun B' j s d hd hJ => ?_) (fun s hJ => ⟨hJ 0 (Nat.lt_of_lt_of_eq (show 0 < 2 by decide) rfl), hJ 1 (Nat.lt_of_lt_of_eq (show 1 < 2 by decide) rfl)⟩) (fun s hJ => ?_)
    · have hdm := List.mem_of_getElem? hd
      have ndd := hx d hdm
      have egd : [a, b].getD j .none = d := by rw [List.getD_eq_getElem?_getD, hd]; rfl
      refine ⟨_, gn 3 scExact.nd, ?_⟩
      refine sx_ifR (kb := !isI d) (TX.to (WX.t (wx_or (k2 := isiD d "bool") (tx_not (isiT "int" mi mint (nm 3) (nd := ndd))) (fun _ => wx_or1 (isiT "bool" mi mb (nm 3) (nd := ndd))))) ?_) (fun hn => ?_) (fun hn => ?_)
      · cases d <;> rfl
      · refine sx_ret ex_bl ⟨?_, back0 (args := [_])⟩
        cases he2 : exactV (.tuple [a, b]) with
        | false => rfl
        | true =>
          obtain ⟨p, q, e, _⟩ := exact_of he2
          cases e
          rcases List.mem_cons.mp hdm with rfl | hdm
          · cases hn
          · rw [List.mem_singleton.mp hdm] at hn; cases hn
      · refine sx_nil ⟨(), fun i hi => ?_, .same (.same (.same (.un .nil)))⟩
        by_cases e : i = j
        · rw [e, egd]; simpa using hn
        · exact hJ i (by omega)
    · cases a with
      | int p =>
        cases b with
        | int q => exact sx_ret (ex_and (k2 := decide (Nat.gcd p.natAbs q.natAbs = 1)) (ex_ge (r2 (nm 2) ex_int)) (fun _ => ex_one (EX.to (ex_eqI (r2 (ex_gcd (by rfl) mg' (nm 1) (nm 2)) ex_int)) (congrArg D.bool (decide_eq_decide.mpr (by omega)))))) ⟨rfl, back0 (args := [_])⟩
        | _ => exact absurd (show false = true from hJ.2) (by decide)
      | _ => exact absurd (show false = true from hJ.1) (by decide)
  | _ => exact sx_ifR (kb := true) (TX.to (WX.t (wx_or (k2 := true) (tx_not (isiT "tuple" mi mt (nm 0))) (fun h => by cases h))) rfl) (fun _ => sx_ret ex_bl ⟨rfl, back0 (args := [_])⟩) (fun h => by cases h)
theorem ok_value {f fe : Addr} {fd fde : FuncData} {n : Nat} {t : Tok} (F : Fun K "is_value" "is_value" sValue f fd) (mab : mg "abs" = none) (mM : mg "MOST_FIGURE" = some (.int great t))
    (hE : FnOk P w K mg base CX0 n fe fde ["value"] (PrD K T 1 RExact)) (me : mg "is_exact" = some (.ref fe)) (ke : PySem.W.keepIn K (.ref fe) = true) (be : Binds K fde ["value"] []) : FnOk P w K mg base CX0 (n + 1) f fd ["value"] (PrD K T 1 RValue) := by
  refine fn_d F scValue RValue fun cdv A outer s H E B args d args' hr hl he sh hR => ?_
  obtain ⟨x, rfl, vo, rfl, rfl⟩ := hR
  rw [value_of]
  refine sx_ret (ex_and (k2 := _) (ex_call hE hr rfl me ke be (ax_cons (nm 0) ax_nil) rfl ⟨x, rfl, vo, rfl, rfl⟩) (fun h => ?_)) ⟨rfl, back0 (args := [_])⟩
  obtain ⟨p, q, rfl, _⟩ := exact_of h
  exact ex_and (k2 := decide (q ≤ great)) (ex_le (r2 (ex_abs (by rfl) mab (ex_ixT (nm 0) ex_int Dv.atI_z (fun _ _ => rfl))) (ex_gint (by rfl) mM))) (fun _ => ex_one (ex_le (r2 (ex_ixT (nm 0) ex_int (Dv.atI_to (j := 1) rfl rfl) (fun _ _ => rfl)) (ex_gint (by rfl) mM))))
end
end K04

set_option maxRecDepth 100000
namespace K04
open PySem PySem.Spec PyProof.Rows L2 Dv
abbrev sDraws : Stmt := topS 31
abbrev sTake : Stmt := topS 32
theorem scDraws : FnScope ["script", "draws", "spot", "number", "first", "k", "seed"] ["script"] (defScope sDraws) := ⟨rfl, rfl, rfl, by decide +kernel, rfl, by decide +kernel, by decide +kernel⟩
theorem scTake : FnScope ["draws", "bound"] ["draws", "bound"] (defScope sTake) := ⟨rfl, rfl, rfl, by decide +kernel, rfl, by decide +kernel, by decide +kernel⟩
/-- draws: the next one first -/
def enc (ns : List Int) : D := .list (ns.reverse.map .int)
def takeV : List Int → Int → Int
  | [], _ => 0
  | n :: _, b => n % b
def takeR : List Int → List Int
  | [] => []
  | _ :: r => r
def RTake : Sl → D → Sl → Prop := fun args d args' => ∃ l ns b, args = [.own l (enc ns), .dat (.int b)] ∧ 0 < b ∧ d = .int (takeV ns b) ∧ args' = [.own l (enc (takeR ns)), .dat (.int b)]
section
variable {P : Program} {w : World} {K : PySem.W.Frag} {mg : Str → Option Value} {base : Heap} {T : List TQ}
theorem ok_take {f : Addr} {fd : FuncData} {n : Nat} (F : Fun K "_law_take" "_law_take" sTake f fd) (ml : mg "len" = none) (mi : mg "int" = none) : FnOk P w K mg base CX0 (n + 1) f fd ["draws", "bound"] (PrD K T 2 RTake) := by
  refine fn_d F scTake RTake fun cdv A outer s H E B args d args' hr hl he sh hR => ?_
  obtain ⟨l, ns, b, rfl, hb, rfl, rfl⟩ := hR
  refine sx_ifR (tx_eqI (r2 (ex_lenL rfl ml (ol 0)) ex_int)) (fun h => ?_) (fun h => ?_)
  · have e : ns = [] := by
      have := of_decide_eq_true h
      simpa using this
    subst e
    exact sx_ret ex_int ⟨rfl, back1 (args := [_]) rfl⟩
  · cases ns with
    | nil => exact absurd h (by decide)
    | cons m r =>
      have e : enc (m :: r) = .list (r.reverse.map .int ++ [.int m]) := by unfold enc; rw [List.reverse_cons, List.map_append]; rfl
      rw [e]
      exact sx_ret (ex_mod (ex_intI rfl mi (pop 0 rfl)) (nm 1) hb) ⟨rfl, back1 (args := [_]) rfl⟩
/-- the names of _law_draws -/
def dsl (sc : List Int) (l : Addr) (p : List Int × Slot × Slot × Slot) : Sl := [.dat (.list (sc.map .int)), .own l (.list (p.1.map .int)), .un, p.2.1, p.2.2.1, .un, p.2.2.2]
theorem dsl_fg {sc : List Int} {l : Addr} {acc : List Int} {s2 s3 s4 s5 s6 t1 t2 t3 : Slot} (h3 : t1 = .un ∨ t1 = s3) (h4 : t2 = .un ∨ t2 = s4) (h6 : t3 = .un ∨ t3 = s6) :
    Fg [.dat (.list (sc.map .int)), .own l (.list (acc.map .int)), s2, s3, s4, s5, s6] (dsl sc l (acc, t1, t2, t3)) := by
  refine .same (.same (.un ?_))
  rcases h3 with rfl | rfl <;> rcases h4 with rfl | rfl <;> rcases h6 with rfl | rfl <;> first | exact .un (.un (.un (.un .nil))) | exact .un (.un (.un (.same .nil))) | exact .un (.same (.un (.un .nil))) | exact .un (.same (.un (.same .nil))) | exact .same (.un (.un (.un .nil))) | exact .same (.un (.un (.same .nil))) | exact .same (.same (.un (.un .nil))) | exact .same (.same (.un (.same .nil)))
theorem ok_draws {f : Addr} {fd : FuncData} {n : Nat} (F : Fun K "_law_draws" "_law_draws" sDraws f fd) (ml : mg "len" = none) (mi : mg "int" = none) (ma : mg "abs" = none) (mr : mg "range" = none) (mli : mg "list" = none) (mre : mg "reversed" = none) :
    FnOk P w K mg base CX0 (n + 1) f fd ["script"] (PrC K T 1 (fun ds => ∃ sc : List Int, ds = [.list (sc.map .int)] ∧ sc.length ≤ 63) (fun ds => ∃ ns : List Int, ds = ns.reverse.map .int)) := by
  refine fn_c F scDraws _ _ fun cdv A outer s H E B args hr hl he hR => ?_
  obtain ⟨sc, rfl, hsc⟩ := hR
  refine stO 1 scDraws.nd (eo_lst ax_nil (by decide)) fun l => ?_
  refine sx_forI [2] (dsl sc l) (fun i p => p.1.length ≤ 62 * i ∧ p.2 = (.un, .un, .un)) (fun p => p.1.length ≤ 3906 ∧ p.2 = (.un, .un, .un)) ([], .un, .un, .un) PassesOwn.never rfl (ix_l (nm 0)) (Fg.refl _) ⟨Nat.le_refl _, rfl⟩ (fun B' i p d hd hJ => ?_) (fun p h => ?_) (fun p hJ => ?_)
  · obtain ⟨acc, q⟩ := p
    obtain ⟨h1, rfl⟩ : acc.length ≤ 62 * i ∧ q = _ := hJ
    have hi : i < 63 := by
      have z := (List.getElem?_eq_some_iff.mp hd).1
      rw [List.length_map] at z; omega
    have hz : sizeLine = 16777216 := rfl
    rw [List.getElem?_map] at hd
    obtain ⟨m, hm⟩ : ∃ m : Int, d = .int m := by
      cases q : sc[i]? with
      | none => rw [q] at hd; cases hd
      | some m => rw [q] at hd; exact ⟨m, (Option.some.inj hd).symm⟩
    subst hm
    refine ⟨_, gn 2 scDraws.nd, ?_⟩
    refine st 3 scDraws.nd (ex_abs rfl ma (nm 2)) ?_
    refine sx_ifI (dsl sc l) (fun p => p.1.length ≤ acc.length + 2 ∧ ∃ z : Int, p.2 = (.dat (.int z), .un, .un)) (tx_lt (r2 (nm 3) (ex_pow ex_int ex_int ⟨by decide, by decide, by decide⟩))) (fun hlt => ?_) (fun hlt => ?_) (fun p hJ => ?_)
    · have hlt := of_decide_eq_true hlt
      refine st 4 scDraws.nd (ex_mod (ex_intI rfl mi (ex_add (ex_mul (nm 3) ex_int (.inr (by decide))) ex_int)) ex_int (by decide)) ?_
      refine sx_expr (app 1 rfl (ex_mod (ex_intI rfl mi (ex_add (ex_mul (nm 4) ex_int (.inr (by decide))) (nm 3))) ex_int (by decide)) rfl (by simp only [List.length_map]; omega)) ?_
      refine sx_expr (app 1 rfl (ex_mod (ex_intI rfl mi (ex_add (nm 4) (ex_fdiv (nm 3) ex_int ⟨by decide, by decide⟩))) ex_int (by decide)) rfl (by simp; omega)) ?_
      refine st 3 scDraws.nd ex_int (sx_nil ?_)
      rw [set_int, set_int]
      exact ⟨(_, _, _, _), ⟨by simp, _, rfl⟩, dsl_fg (.inr rfl) (.inl rfl) (.inl rfl)⟩
    · exact sx_nil ⟨(acc, _, _, _), ⟨by simp, _, rfl⟩, dsl_fg (.inr rfl) (.inl rfl) (.inl rfl)⟩
    · obtain ⟨acc1, q⟩ := p
      obtain ⟨h2, z, rfl⟩ : acc1.length ≤ acc.length + 2 ∧ ∃ z : Int, q = _ := hJ
      refine sx_forI [5] (dsl sc l) (fun i p => p.1.length ≤ acc1.length + i ∧ ∃ z : Int, p.2 = (.dat (.int z), .un, .un)) (fun p => p.1.length ≤ acc1.length + 60 ∧ ∃ z : Int, p.2 = (.dat (.int z), .un, .un)) (acc1, _, _, _) PassesOwn.never rfl (ix_r1 rfl mr ex_int (by decide)) (Fg.refl _) ⟨Nat.le_refl _, _, rfl⟩ (fun B' j p d hd hJ => ?_) (fun p h => ?_) (fun p hJ => ?_)
      · obtain ⟨acc2, q⟩ := p
        obtain ⟨h3, y, rfl⟩ : acc2.length ≤ acc1.length + j ∧ ∃ z : Int, q = _ := hJ
        have hj : j < 60 := (List.getElem?_eq_some_iff.mp hd).1
        refine ⟨_, gn 5 scDraws.nd, ?_⟩
        refine sx_ifI (dsl sc l) (fun p => p.1.length ≤ acc1.length + (j + 1) ∧ ∃ z : Int, p.2 = (.dat (.int z), .un, .un)) (tx_gt (r2 (nm 3) ex_int)) (fun hlt => ?_) (fun hlt => ?_) (fun p hJ => ?_)
        · refine sx_expr (app 1 rfl (ex_mod (ex_intI rfl mi (nm 3)) ex_int (by decide)) rfl (by simp only [List.length_map]; omega)) ?_
          refine st 3 scDraws.nd (ex_fdiv (nm 3) ex_int ⟨by decide, by decide⟩) (sx_nil ?_)
          rw [set_int]
          exact ⟨(_, _, _, _), ⟨by simp; omega, _, rfl⟩, dsl_fg (.inr rfl) (.inl rfl) (.inl rfl)⟩
        · exact sx_nil ⟨(acc2, _, _, _), ⟨by show acc2.length ≤ _; omega, _, rfl⟩, dsl_fg (.inr rfl) (.inl rfl) (.inl rfl)⟩
        · exact sx_nil ⟨p, hJ, Fg.refl _⟩
      · exact h
      · obtain ⟨acc2, q⟩ := p
        obtain ⟨h3, y, rfl⟩ : acc2.length ≤ acc1.length + 60 ∧ ∃ z : Int, q = _ := hJ
        exact sx_nil ⟨(acc2, .un, .un, .un), ⟨by show acc2.length ≤ _; omega, rfl⟩, dsl_fg (.inl rfl) (.inl rfl) (.inl rfl)⟩
  · refine ⟨Nat.le_trans h.1 ?_, h.2⟩
    rw [List.length_map]; omega
  · obtain ⟨acc, q⟩ := p
    obtain ⟨h1, rfl⟩ : acc.length ≤ 3906 ∧ q = _ := hJ
    refine st 6 scDraws.nd ex_int ?_
    refine sx_ifI (dsl sc l) (fun p => p.1 = acc ∧ ∃ z : Int, p.2 = (.un, .un, .dat (.int z))) (tx_gt (r2 (ex_lenL rfl ml (nm 0).l) ex_int)) (fun hlt => ?_) (fun hlt => ?_) (fun p hJ => ?_)
    · cases sc with
      | nil => exact absurd hlt (by decide)
      | cons m r =>
        refine st 6 scDraws.nd (ex_add ex_int (ex_abs rfl ma (ex_ixL (nm 0) ex_int atI_z (fun _ _ => rfl)))) (sx_nil ?_)
        exact ⟨(acc, _, _, _), ⟨rfl, _, rfl⟩, dsl_fg (.inl rfl) (.inl rfl) (.inr rfl)⟩
    · exact sx_nil ⟨(acc, _, _, _), ⟨rfl, _, rfl⟩, dsl_fg (.inl rfl) (.inl rfl) (.inr rfl)⟩
    · obtain ⟨acc1, q⟩ := p
      obtain ⟨rfl, z, rfl⟩ : acc1 = acc ∧ ∃ z : Int, q = _ := hJ
      have hz : sizeLine = 16777216 := rfl
      refine sx_forI [5] (dsl sc l) (fun i p => p.1.length ≤ acc1.length + i ∧ ∃ z : Int, p.2 = (.un, .un, .dat (.int z))) (fun p => True ∧ ∃ z : Int, p.2 = (.un, .un, .dat (.int z))) (acc1, _, _, _) PassesOwn.never rfl (ix_r1 rfl mr ex_int (by decide)) (Fg.refl _) ⟨Nat.le_refl _, _, rfl⟩ (fun B' j p d hd hJ => ?_) (fun p h => ⟨trivial, h.2⟩) (fun p hJ => ?_)
      · obtain ⟨acc2, q⟩ := p
        obtain ⟨h3, y, rfl⟩ : acc2.length ≤ acc1.length + j ∧ ∃ z : Int, q = _ := hJ
        have hj : j < 900 := by
          have z := (List.getElem?_eq_some_iff.mp hd).1
          rw [rng_length] at z; exact z
        refine ⟨_, gn 5 scDraws.nd, ?_⟩
        refine st 6 scDraws.nd (ex_mod (ex_intI rfl mi (ex_add (ex_mul (nm 6) ex_int (.inr (by decide))) ex_int)) ex_int (by decide)) ?_
        refine sx_expr (app 1 rfl (ex_fdiv (nm 6) ex_int ⟨by decide, by decide⟩) rfl (by simp only [List.length_map]; omega)) (sx_nil ?_)
        rw [set_int]
        exact ⟨(_, _, _, _), ⟨by simp; omega, _, rfl⟩, dsl_fg (.inl rfl) (.inl rfl) (.inr rfl)⟩
      · obtain ⟨acc2, q⟩ := p
        obtain ⟨_, y, rfl⟩ : True ∧ ∃ z : Int, q = _ := hJ
        exact sx_retF (eo_listRev rfl rfl mli rfl mre (ol 1)) ⟨acc2, by rw [List.map_reverse]⟩
end
end K04

set_option maxRecDepth 100000
namespace K04
open PySem PySem.Spec PyProof.Rows L2 Dv
abbrev sMade : Stmt := topS 36
theorem scMade : FnScope ["part", "whole", "one", "other", "sign"] ["part", "whole"] (defScope sMade) := ⟨rfl, rfl, rfl, by decide +kernel, rfl, by decide +kernel, by decide +kernel⟩
/-- a fraction -/
abbrev Fr := Int × Int
def frD (q : Fr) : D := .tuple [.int q.1, .int q.2]
def sgn (w : Int) : Int := if 0 < w then 1 else -1
def madeV (p w : Int) : Fr := (sgn w * p / (Nat.gcd p.natAbs w.natAbs : Nat), sgn w * w / (Nat.gcd p.natAbs w.natAbs : Nat))
def RMade : Sl → D → Sl → Prop := fun args d args' => ∃ p w : Int, args = [.dat (.int p), .dat (.int w)] ∧ w ≠ 0 ∧ w.natAbs < 1073741824 ∧ d = frD (madeV p w) ∧ args' = args
abbrev isFr (d : D) (q : Fr) : Prop := TupD d [.int q.1, .int q.2]
theorem hu8 {A : Around} {k : Nat} (hr : Room k A) : A.units + 8 < cLine := by have := hr.un; omega
section
variable {P : Program} {w : World} {K : PySem.W.Frag} {mg : Str → Option Value} {base : Heap} {T : List TQ}
theorem ok_made {f : Addr} {fd : FuncData} {n : Nat} (F : Fun K "_law_made" "_law_made" sMade f fd) (ma : mg "abs" = none) : FnOk P w K mg base CX0 (n + 1) f fd ["part", "whole"] (PrD K T 2 RMade) := by
  refine fn_d F scMade RMade fun cdv A outer s H E B args d args' hr hl he sh hR => ?_
  obtain ⟨p, q, rfl, hq, hq2, rfl, rfl⟩ := hR
  have hg0 : 0 < Nat.gcd p.natAbs q.natAbs := Nat.gcd_pos_of_pos_right _ (by omega)
  have hg1 : Nat.gcd p.natAbs q.natAbs < 1073741824 := Nat.lt_of_le_of_lt (Nat.gcd_le_right _ (by omega)) hq2
  unfold madeV
  generalize hG : Nat.gcd p.natAbs q.natAbs = G at *
  refine pr2 2 3 rfl scMade.nd (ex_abs rfl ma (nm 0)) (ex_abs rfl ma (nm 1)) ?_
  refine sx_while PassesOwn.never (fun m ρ' => ∃ a b : Nat, m = b ∧ Nat.gcd a b = G ∧ ρ' = [.dat (.int p), .dat (.int q), .dat (.int a), .dat (.int b), .un]) (fun ρ' => ρ' = [.dat (.int p), .dat (.int q), .dat (.int (G : Nat)), .dat (.int 0), .un]) q.natAbs ⟨_, _, rfl, hG, rfl⟩ (fun m ρ' h => ?_) (fun ρ' h => ?_)
  · obtain ⟨a, b, rfl, hg, rfl⟩ := h
    refine ⟨_, _, _, tx_gt (r2 (nm 3) ex_int), fun h => ?_, fun h => ?_⟩
    · have hb : (0 : Int) < (m : Nat) := of_decide_eq_true h
      refine pr2 2 3 rfl scMade.nd (nm 3) (ex_mod (nm 2) (nm 3) hb) (sx_nil ?_)
      refine ⟨a % m, Nat.mod_lt _ (by omega), m, a % m, rfl, ?_, rfl⟩
      rw [← hg, Nat.gcd_comm m, Nat.gcd_comm a]; exact (Nat.gcd_rec m a).symm
    · have hb : ¬ (0 : Int) < (m : Nat) := of_decide_eq_false h
      obtain rfl : m = 0 := by omega
      rw [Nat.gcd_zero_right] at hg
      subst hg
      rfl
  · subst h
    refine st 4 scMade.nd (ex_ifS (d := .int (sgn q)) (tx_gt (r2 (nm 1) ex_int)) (fun h => EX.to ex_int (by unfold sgn; rw [if_pos (of_decide_eq_true h)])) (fun h => EX.to (ex_neg ex_int) (by unfold sgn; rw [if_neg (of_decide_eq_false h)]))) ?_
    have hs : CMul (sgn q) p := .inl (by unfold sgn; split <;> decide)
    have hs2 : CMul (sgn q) q := .inl (by unfold sgn; split <;> decide)
    exact sx_ret (ex_tup (ax_cons (ex_fdiv (ex_mul (nm 4) (nm 0) hs) (nm 2) ⟨by omega, by omega⟩) (ax_cons (ex_fdiv (ex_mul (nm 4) (nm 1) hs2) (nm 2) ⟨by omega, by omega⟩) ax_nil)) (show (2 : Nat) ≤ sizeLine by decide)) ⟨rfl, back0 (args := [_, _])⟩
end
end K04

set_option maxRecDepth 100000
namespace K04
open PySem PySem.Spec PyProof.Rows L2 Dv
abbrev sIdx : Stmt := topS 38
theorem scIdx : FnScope ["known", "axes", "found", "axis", "later", "row", "one"] ["known", "axes"] (defScope sIdx) := ⟨rfl, rfl, rfl, by decide +kernel, rfl, by decide +kernel, by decide +kernel⟩
abbrev Row := List Int
def rowD (r : Row) : D := .tuple (r.map .int)
def more (n : Nat) (r : Row) : List Row := (List.range n).map fun i : Nat => r ++ [(i : Int)]
def stepV (n : Nat) (found : List Row) : List Row := found.foldl (fun later row => later ++ more n row) []
def indicesV (ln : Nat → Nat) (cs : List Nat) : List Row := cs.foldl (fun found c => stepV (ln c) found) [[]]
theorem step_ok (n k : Nat) : ∀ (found later : List Row), (∀ r ∈ found, r.length = k) → (∀ r ∈ later, r.length = k + 1) →
    (found.foldl (fun later row => later ++ more n row) later).length = later.length + found.length * n ∧ ∀ r ∈ found.foldl (fun later row => later ++ more n row) later, r.length = k + 1
  | [], later, _, h2 => ⟨by simp, h2⟩
  | r :: f, later, h1, h2 => by
    have h3 : ∀ x ∈ later ++ more n r, x.length = k + 1 := fun x hx => by
      rcases List.mem_append.mp hx with hx | hx
      · exact h2 x hx
      · obtain ⟨i, _, rfl⟩ := List.mem_map.mp hx
        rw [List.length_append, h1 r List.mem_cons_self]; rfl
    obtain ⟨a, b⟩ := step_ok n k f (later ++ more n r) (fun x hx => h1 x (List.mem_cons_of_mem _ hx)) h3
    refine ⟨?_, b⟩
    rw [List.foldl_cons, a, List.length_append, List.length_cons, Nat.add_mul]
    unfold more
    rw [List.length_map, List.length_range]; omega
theorem fm_some {α β : Type} (g : α → β) (l : List α) : l.filterMap (fun q => some (g q)) = l.map g := by
  induction l with
  | nil => rfl
  | cons a r ih => rw [List.filterMap_cons, ih]; rfl
/-- what known tells of the axes -/
structure Kn (kvs : List (Str × D)) (ln : Nat → Nat) (cs : List Nat) : Prop where
  look : ∀ c ∈ cs, lookD kvs (sg c) = some (iD (ln c))
  le : ∀ c ∈ cs, ln c ≤ 10
  few : cs.length ≤ 5
def RIdx : Sl → D → Sl → Prop := fun args d args' => ∃ kvs ln, ∃ axes : Str, args = [.dat (.dict (kvD kvs)), .dat (.str axes)] ∧ Kn kvs ln axes.cps.toList ∧ d = .list ((indicesV ln axes.cps.toList).map rowD) ∧ args' = args
section
variable {P : Program} {w : World} {K : PySem.W.Frag} {mg : Str → Option Value} {base : Heap} {T : List TQ}
theorem ok_idx {f : Addr} {fd : FuncData} {n : Nat} (F : Fun K "_law_indices" "_law_indices" sIdx f fd) (mr : mg "range" = none) : FnOk P w K mg base CX0 (n + 1) f fd ["known", "axes"] (PrD K T 2 RIdx) := by
  refine fn_d F scIdx RIdx fun cdv A outer s H E B args d args' hr hl he sh hR => ?_
  obtain ⟨kvs, ln, axes, rfl, kn, rfl, rfl⟩ := hR
  have hz : sizeLine = 16777216 := rfl
  unfold indicesV
  refine st 2 scIdx.nd (ex_lst (ax_cons (ex_tup ax_nil (by decide)) ax_nil) (show (1 : Nat) ≤ sizeLine by decide)) ?_
  refine sx_forM axes.cps.toList sgD [3] (fun found : List Row => [.dat (.dict (kvD kvs)), .dat (.str axes), .dat (.list (found.map rowD)), .un, .un, .un, .un]) [[]] (fun found c => stepV (ln c) found) (fun i found => found.length ≤ 10 ^ i ∧ ∀ r ∈ found, r.length = i) PassesOwn.never rfl
    (ix_s (nm 1)) (Fg.refl _) ⟨by decide, fun r hr => by rw [List.mem_singleton.mp hr]; rfl⟩ (fun B' i found c hc hJ => ?_) (fun hJ => ?_)
  · have hc' := List.mem_of_getElem? hc
    have hn := kn.le c hc'
    have hi : i < 5 := Nat.lt_of_lt_of_le (List.getElem?_eq_some_iff.mp hc).1 kn.few
    obtain ⟨hJ1, hJ2⟩ := hJ
    have so := step_ok (ln c) i found [] hJ2 (fun r hr => by cases hr)
    have hpw : found.length * 10 ≤ 10 ^ (i + 1) := by rw [Nat.pow_succ]; exact Nat.mul_le_mul_right _ hJ1
    have hp3 : 10 ^ (i + 1) ≤ 100000 := Nat.pow_le_pow_right (by decide) (show i + 1 ≤ 5 by omega)
    refine ⟨⟨?_, so.2⟩, _, gn 3 scIdx.nd, ?_⟩
    · show (found.foldl _ []).length ≤ _
      rw [so.1, List.length_nil, Nat.zero_add]
      exact Nat.le_trans (Nat.mul_le_mul_left _ hn) hpw
    · refine st 4 scIdx.nd (ex_lst ax_nil (by decide)) ?_
      refine sx_forM found rowD [5] (fun later : List Row => [.dat (.dict (kvD kvs)), .dat (.str axes), .dat (.list (found.map rowD)), .dat (sgD c), .dat (.list (later.map rowD)), .un, .un]) [] (fun later row => later ++ more (ln c) row) (fun j later => later.length ≤ 10 * j) PassesOwn.never rfl
        (ix_l (nm 2)) (Fg.refl _) (Nat.le_refl _) (fun B' j later row hrow hJ => ?_) (fun hJ => ?_)
      · have hj : j < found.length := (List.getElem?_eq_some_iff.mp hrow).1
        have hrl := hJ2 row (List.mem_of_getElem? hrow)
        have hml : (more (ln c) row).length = ln c := by unfold more; rw [List.length_map, List.length_range]
        refine ⟨by rw [List.length_append, hml]; omega, _, gn 5 scIdx.nd, ?_⟩
        refine st 4 scIdx.nd (EO.ex (eo_cat (ys := (more (ln c) row).map rowD) (nm 4) (EX.to (EO.ex (eo_lcM (List.range (ln c)) iD (fun i => some (rowD (row ++ [(i : Int)]))) [("one", 6)] rfl scIdx.nd
          (ix_n rfl mr (ex_dgetS (hu_of hr) (nm 0) (nm 3) (kn.look c hc')) (by omega)) (blk rfl (by rfl)) (by rw [List.length_range]; omega) rfl (fun q hq B' => ?_))) ?_) ?_)) (sx_nil ?_)
        · refine tM rfl (fun s H C cl fp => gn 6 scIdx.nd) (fun s H C cl fp => txs_nil) (fun s H C cl fp => EX.to (ex_catT (nm 5) (ex_tup (ax_cons (nm 6) ax_nil) (show (1 : Nat) ≤ sizeLine by decide)) ?_) ?_) (.same (.same (.same (.same (.same (.same (.un .nil)))))))
          · simp only [List.length_map, List.length_cons, List.length_nil]; omega
          · unfold rowD; rw [List.map_append]; rfl
        · rw [fm_some]; unfold more; rw [List.map_map]; rfl
        · simp only [List.length_map, hml]; omega
        · simp only [List.map_append]
          exact .same (.same (.same (.same (.same (.un (.un .nil))))))
      · refine st 2 scIdx.nd (nm 4) (sx_nil ?_)
        exact .same (.same (.same (.un (.un (.un (.un .nil))))))
  · exact sx_ret (nm 2) ⟨rfl, back0 (args := [_, _])⟩
end
end K04

set_option maxRecDepth 100000
namespace K04
open PySem PySem.Spec PyProof.Rows L2 Dv
abbrev sCount : Stmt := topS 22
theorem scCount : FnScope ["lengths", "axes", "known", "found", "axis"] ["lengths", "axes"] (defScope sCount) := ⟨rfl, rfl, rfl, by decide +kernel, rfl, by decide +kernel, by decide +kernel⟩
def pairsD (kvs : List (Str × D)) : List D := kvs.map fun q => .tuple [.str q.1, q.2]
def countV (ln : Nat → Nat) (cs : List Nat) : Int := cs.foldl (fun t c => t * ((ln c : Nat) : Int)) 1
def RCount : Sl → D → Sl → Prop := fun args d args' => ∃ kvs ln, ∃ axes : Str, args = [.dat (.ptup (pairsD kvs)), .dat (.str axes)] ∧ (kvs.map (·.1)).Nodup ∧ Kn kvs ln axes.cps.toList ∧ d = .int (countV ln axes.cps.toList) ∧ args' = args
section
variable {P : Program} {w : World} {K : PySem.W.Frag} {mg : Str → Option Value} {base : Heap} {T : List TQ}
theorem ok_count {f : Addr} {fd : FuncData} {n : Nat} (F : Fun K "count_cells" "count_cells" sCount f fd) (md : mg "dict" = none) : FnOk P w K mg base CX0 (n + 1) f fd ["lengths", "axes"] (PrD K T 2 RCount) := by
  refine fn_d F scCount RCount fun cdv A outer s H E B args d args' hr hl he sh hR => ?_
  obtain ⟨kvs, ln, axes, rfl, hnd, kn, rfl, rfl⟩ := hR
  refine st 2 scCount.nd (EN.ex (en_dictP rfl (hu8 hr) rfl md (nm 0) hnd)) ?_
  refine st 3 scCount.nd ex_int ?_
  unfold countV
  refine sx_forM axes.cps.toList sgD [4] (fun t : Int => [.dat (.ptup (pairsD kvs)), .dat (.str axes), .dat (.dict (kvD kvs)), .dat (.int t), .un]) 1 (fun t c => t * ((ln c : Nat) : Int)) (fun _ _ => True) PassesOwn.never rfl
    (ix_s (nm 1)) (Fg.refl _) trivial (fun B' i t c hc hJ => ⟨trivial, _, gn 4 scCount.nd, ?_⟩) (fun hJ => ?_)
  · have hc' := List.mem_of_getElem? hc
    have hn := kn.le c hc'
    refine st 3 scCount.nd (ex_mul (nm 3) (ex_dgetS (hu_of hr) (nm 2) (nm 4) (kn.look c hc')) (.inr ⟨by omega, by omega⟩)) (sx_nil ?_)
    exact .same (.same (.same (.same (.un .nil))))
  · exact sx_ret (nm 3) ⟨rfl, back0 (args := [_, _])⟩
end
end K04

set_option maxRecDepth 100000
namespace Dv
open PySem PySem.Spec PyProof.Rows L2
section
variable {X : Cx} {T : List TQ} {B : Bs} {ρ ρ1 ρ2 : Sl} {W W1 W2 : List Addr} {a b : Expr} {d : D} {pos p : Pos} {κ : Type} [DecidableEq κ] {E : KEn κ} {kvs : List (κ × D)} {k : κ}
/-- key in dict, as a value -/
theorem ex_din (hu : X.A.units + 1 < cLine) (ha : EX X T B ρ a W1 ρ1 (E.d k)) (hb : EX X T B ρ1 b W2 ρ2 (dD E kvs)) (hm : behindInMarks .In b = false := by rfl) : EX X T B ρ (.Compare a [.In] [b] pos) (W1 ++ W2) ρ2 (.bool (lookE kvs k).isSome) := by
  refine ⟨PE.imp (pe_cmp (pc_inE hu ha.run hb.run) hm) fun σ H Q ⟨S, q⟩ => ⟨S, fun x H1 S1 f1 r1 => ⟨S1, fun y H2 S2 f2 r2 => ?_⟩⟩, hb.own.trans ha.own, sub_app ha.sub ha.own hb.sub⟩
  obtain ⟨m, u, od, rfl, hm, hq⟩ := dh_rp r2
  obtain ⟨o, g, h⟩ := dh_get (H := H2) (fun x o z => (msk_some z).2) (.inr ⟨od, (msk_some hm).2⟩) hq (carry hb f2 r1)
  exact ⟨m, o, rfl, g, by rw [Bool.false_xor, some_eq h]; exact q _ H2 S2 (f1.trans f2) (.bl _)⟩
end
end Dv

set_option maxRecDepth 100000
namespace K04
open PySem PySem.Spec PyProof.Rows L2 Dv
abbrev sArr : Stmt := topS 25
abbrev arrN : List Str := ["lengths", "value", "known", "axis", "one"]
theorem scArr : FnScope arrN ["lengths", "value"] (defScope sArr) := ⟨rfl, rfl, rfl, by decide +kernel, rfl, by decide +kernel, by decide +kernel⟩
/-- lengths: names once, small numbers -/
structure KvOk (kvs : List (Str × D)) : Prop where
  nd : (kvs.map (·.1)).Nodup
  nat : ∀ q ∈ kvs, ∃ n : Nat, n ≤ 10 ∧ q.2 = iD n
def lnK (kvs : List (Str × D)) (c : Nat) : Nat := match lookD kvs (sg c) with
  | some (.int i) => i.toNat
  | _ => 0
def inK (kvs : List (Str × D)) (c : Nat) : Bool := (lookD kvs (sg c)).isSome
theorem kn_of {kvs : List (Str × D)} {cs : List Nat} (ko : KvOk kvs) (h : cs.all (inK kvs) = true) (hl : cs.length ≤ 5) : Kn kvs (lnK kvs) cs := by
  have key : ∀ c ∈ cs, ∃ n : Nat, n ≤ 10 ∧ lookD kvs (sg c) = some (iD n) := fun c hc => by
    have z := List.all_eq_true.mp h c hc
    obtain ⟨d, hd⟩ := Option.isSome_iff_exists.mp z
    have hd' := hd
    unfold lookD at hd
    obtain ⟨q, hq, e⟩ := Option.map_eq_some_iff.mp hd
    obtain ⟨n, h1, h2⟩ := ko.nat q (List.mem_of_find?_eq_some hq)
    exact ⟨n, h1, by rw [hd', ← e, h2]⟩
  have ln : ∀ c n, lookD kvs (sg c) = some (iD n) → lnK kvs c = n := fun c n e => by
    unfold lnK; rw [e]; exact Int.toNat_natCast n
  exact ⟨fun c hc => by
    obtain ⟨n, _, e⟩ := key c hc
    rw [ln c n e]; exact e, fun c hc => by
    obtain ⟨n, h1, e⟩ := key c hc
    rw [ln c n e]; exact h1, hl⟩
/-- is_array -/
def arrB (kvs : List (Str × D)) : D → Bool
  | .tuple [a, b] => axesV a && (match a, b with
    | .str z, .tuple cs => z.cps.toList.all (inK kvs) && (decide (countV (lnK kvs) z.cps.toList ≤ 2000) && (decide (((cs.length : Nat) : Int) = countV (lnK kvs) z.cps.toList) && cs.all valueV))
    | _, _ => false)
  | _ => false
def ArrOk (x : D) : Prop := isDict x = false ∧ (∀ l, x ≠ .ptup l) ∧ ∀ l, x = .tuple l → (∀ y ∈ l, isDict y = false ∧ SmallS y ∧ (∀ m, y ≠ .ptup m) ∧ ∀ m, y = .tuple m → m.length ≤ 10000 ∧ ∀ v ∈ m, ValOk v) ∧ ∀ z, l.head? = some (.str z) → z.cps.toList.length ≤ 5
def RArr : Sl → D → Sl → Prop := fun args d args' => ∃ kvs x, args = [.dat (.ptup (pairsD kvs)), .dat x] ∧ KvOk kvs ∧ ArrOk x ∧ d = .bool (arrB kvs x) ∧ args' = args
theorem axes_str {a : D} (h : axesV a = true) : ∃ z, a = .str z := by cases a with | str z => exact ⟨z, rfl⟩ | _ => cases h
theorem arr_len {kvs : List (Str × D)} {l : List D} (h : l.length ≠ 2) : arrB kvs (.tuple l) = false := by
  unfold arrB
  split
  · rename_i e; cases e; exact absurd rfl h
  · rfl
section
variable {P : Program} {w : World} {K : PySem.W.Frag} {mg : Str → Option Value} {base : Heap} {T : List TQ}
theorem ok_arr {f fa fc fv : Addr} {fd fda fdc fdv : FuncData} {n : Nat} {c0 P' : Addr} {t : Tok} (F : FunC K "is_array" "is_array" sArr f fd (.ref c0)) (TB : GxR.TabB base mg c0 P') (hP : TQ.tab P' ∈ T) (mi : mg "isinstance" = none) (mt : mg "tuple" = none) (ml : mg "len" = none) (mall : mg "all" = none) (md : mg "dict" = none) (mM : mg "MOST_CELLS" = some (.int 2000 t))
    (ha : FnOk P w K mg base CX0 n fa fda ["value"] (PrD K T 1 RAxes)) (ma : mg "are_axes" = some (.ref fa)) (ka : PySem.W.keepIn K (.ref fa) = true) (ba : Binds K fda ["value"] [])
    (hc : FnOk P w K mg base CX0 n fc fdc ["lengths", "axes"] (PrD K T 2 RCount)) (mc : mg "count_cells" = some (.ref fc)) (kc : PySem.W.keepIn K (.ref fc) = true) (bc : Binds K fdc ["lengths", "axes"] [])
    (hv : FnOk P w K mg base CX0 n fv fdv ["value"] (PrD K T 1 RValue)) (mv : mg "is_value" = some (.ref fv)) (kv : PySem.W.keepIn K (.ref fv) = true) (bv : Binds K fdv ["value"] []) : FnOk P w K mg base CX0 (n + 2) f fd ["lengths", "value"] (PrD K T 2 RArr) := by
  refine fn_dC F scArr RArr fun A outer s H E B args d args' hr hl he sh hR => ?_
  obtain ⟨kvs, x, rfl, ko, ⟨nd, np, hx⟩, rfl, rfl⟩ := hR
  have hz : sizeLine = 16777216 := rfl
  have hr1 := hr.mono (Nat.le_succ n)
  cases x with
  | dict _ => cases nd
  | ptup l => exact absurd rfl (np l)
  | tuple l =>
    obtain ⟨hx, hfew⟩ := hx l rfl
    by_cases h2 : ¬ l.length = 2
    · refine sx_ifR (kb := true) (TX.to (WX.t (wx_or (k2 := true) (tx_not (isiT "tuple" mi mt (nm 1))) (fun _ => wx_or (k1 := true) (k2 := true) (TX.to (tx_neI (r2 (ex_lenT (by rfl) ml (nm 1)) ex_int)) (by simpa using (by omega : ¬ (l.length : Int) = 2))) (fun h => by cases h)))) rfl) (fun _ => sx_ret ex_bl ⟨?_, back0 (args := [_, _])⟩) (fun h => by cases h)
      rw [arr_len h2]
    match l, Decidable.not_not.mp h2 with
    | [a, b], _ =>
    obtain ⟨na, sa, pa, _⟩ := hx a List.mem_cons_self
    obtain ⟨nb, _, pb, hbm⟩ := hx b (List.mem_cons_of_mem _ List.mem_cons_self)
    refine sx_ifR (kb := !axesV a || !isiD b "tuple") (TX.to (WX.t (wx_or (k2 := false || (!axesV a || !isiD b "tuple")) (tx_not (isiT "tuple" mi mt (nm 1))) (fun _ => wx_or (k1 := false) (k2 := !axesV a || !isiD b "tuple") (TX.to (tx_neI (r2 (ex_lenT (by rfl) ml (nm 1)) ex_int)) rfl)
      (fun _ => wx_or (k2 := !isiD b "tuple") (tx_not (tx_val (ex_call ha hr1 rfl ma ka ba (ax_cons (ex_ixT (nm 1) ex_int Dv.atI_z (fun _ _ => rfl)) ax_nil) rfl ⟨a, rfl, na, sa, rfl, rfl⟩) (fun _ => rfl))) (fun _ => wx_or1 (tx_not (isiT "tuple" mi mt (ex_ixT (nm 1) ex_int (Dv.atI_to (j := 1) rfl rfl) (fun _ _ => rfl)) (nd := nb)))))))) rfl) (fun h => ?_) (fun h => ?_)
    · refine sx_ret ex_bl ⟨?_, back0 (args := [_, _])⟩
      show D.bool false = D.bool (axesV a && _)
      cases hax : axesV a with
      | false => rfl
      | true =>
        rw [hax] at h
        obtain ⟨z, rfl⟩ := axes_str hax
        cases b with
        | tuple _ => cases h
        | ptup m => exact absurd rfl (pb m)
        | _ => rfl
    have hax : axesV a = true := by cases hq : axesV a with | true => rfl | false => rw [hq] at h; cases h
    rw [hax] at h
    obtain ⟨z, rfl⟩ := axes_str hax
    cases b with
    | ptup m => exact absurd rfl (pb m)
    | tuple cs =>
      obtain ⟨hcl, hcv⟩ := hbm cs rfl
      have hz5 := hfew z rfl
      have hzl : z.length ≤ sizeLine := by show z.cps.size ≤ _; rw [← Array.length_toList]; omega
      refine st 2 scArr.nd (EN.ex (en_dictP rfl (hu8 hr) rfl md (nm 0) ko.nd)) ?_
      have e : arrB kvs (.tuple [.str z, .tuple cs]) = (z.cps.toList.all (inK kvs) && (decide (countV (lnK kvs) z.cps.toList ≤ 2000) && (decide (((cs.length : Nat) : Int) = countV (lnK kvs) z.cps.toList) && cs.all valueV))) := by
        show (axesV (.str z) && _) = _
        rw [hax]; rfl
      rw [e]
      have kn : z.cps.toList.all (inK kvs) = true → Kn kvs (lnK kvs) z.cps.toList := fun hall => kn_of ko hall hz5
      refine sx_ifR (kb := !z.cps.toList.all (inK kvs) || !decide (countV (lnK kvs) z.cps.toList ≤ 2000)) (TX.to (WX.t (wx_or (k2 := !decide (countV (lnK kvs) z.cps.toList ≤ 2000)) (tx_not (tx_val (ex_allG z.cps.toList sgD (inK kvs) [("axis", 3)] hr (by rfl) mall TB (by rfl) hP scArr.nd (ix_s (ex_ixT (nm 1) ex_int Dv.atI_z (fun _ _ => rfl))) (blk rfl (by rfl)) ⟨rfl, by decide +kernel, rfl⟩ rfl (fun i q hq hb => gT (fun s H C code it fp => gn 3 scArr.nd)
          (fun s H C code it fp => ex_din (E := eS) (hu_of (room_gk hr)) (nm 3) (nm 2)) (.same (.same (.same (.un (.same .nil))))))) (fun _ => rfl)))
          (fun hall => wx_or1 (TX.to (tx_gt (r2 (ex_call hc hr1 (by rfl) mc kc bc (ax_cons (nm 0) (ax_cons (ex_ixT (nm 1) ex_int Dv.atI_z (fun _ _ => rfl)) ax_nil)) rfl ⟨kvs, lnK kvs, z, rfl, ko.nd, kn (by simpa using hall), rfl, rfl⟩) (ex_gint (by rfl) mM))) ?_)))) rfl) (fun h => ?_) (fun h => ?_)
      · rw [← decide_not]; exact decide_eq_decide.mpr (by omega)
      · refine sx_ret ex_bl ⟨?_, back0 (args := [_, _])⟩
        cases h1 : z.cps.toList.all (inK kvs) with
        | false => rfl
        | true =>
          rw [h1] at h
          cases h3 : decide (countV (lnK kvs) z.cps.toList ≤ 2000) with
          | false => rfl
          | true => rw [h3] at h; cases h
      have hall : z.cps.toList.all (inK kvs) = true := by cases hq : z.cps.toList.all (inK kvs) with | true => rfl | false => rw [hq] at h; cases h
      have hco : decide (countV (lnK kvs) z.cps.toList ≤ 2000) = true := by cases hq : decide (countV (lnK kvs) z.cps.toList ≤ 2000) with | true => rfl | false => rw [hq, hall] at h; cases h
      refine sx_ret (EX.to (ex_and (k2 := cs.all valueV) (ex_eqI (r2 (ex_lenT (by rfl) ml (ex_ixT (nm 1) ex_int (Dv.atI_to (j := 1) rfl rfl) (fun _ _ => rfl))) (ex_call hc hr1 (by rfl) mc kc bc (ax_cons (nm 0) (ax_cons (ex_ixT (nm 1) ex_int Dv.atI_z (fun _ _ => rfl)) ax_nil)) rfl ⟨kvs, lnK kvs, z, rfl, ko.nd, kn hall, rfl, rfl⟩)))
        (fun _ => ex_one (ex_allG cs id valueV [("one", 4)] hr (by rfl) mall TB (by rfl) hP scArr.nd (ix_id (ix_t (ex_ixT (nm 1) ex_int (Dv.atI_to (j := 1) rfl rfl) (fun _ _ => rfl)))) (blk rfl (by rfl)) ⟨rfl, by decide +kernel, rfl⟩ rfl (fun i q hq hb => gT (fun s H C code it fp => gn 4 scArr.nd)
          (fun s H C code it fp => ex_call hv (room_gk hr) rfl mv kv bv (ax_cons (nm 4) ax_nil) rfl ⟨q, rfl, hcv q (List.mem_of_getElem? hq), rfl, rfl⟩) (.same (.same (.same (.same (.un .nil)))))))) ) ?_) ⟨rfl, back0 (args := [_, _])⟩
      rw [hall, hco]; rfl
    | _ => cases h
  | _ => exact sx_ifR (kb := true) (TX.to (WX.t (wx_or (k2 := true) (tx_not (isiT "tuple" mi mt (nm 1))) (fun h => by cases h))) rfl) (fun _ => sx_ret ex_bl ⟨rfl, back0 (args := [_, _])⟩) (fun h => by cases h)
end
end K04

set_option maxRecDepth 100000
namespace K04
open PySem PySem.Spec PyProof.Rows L2 Dv
abbrev sInd : Stmt := topS 23
theorem scInd : FnScope ["lengths", "axes", "known", "found", "axis", "row", "one"] ["lengths", "axes"] (defScope sInd) := ⟨rfl, rfl, rfl, by decide +kernel, rfl, by decide +kernel, by decide +kernel⟩
theorem step_flat (n : Nat) : ∀ (found later : List Row), found.foldl (fun later row => later ++ more n row) later = later ++ found.flatMap (more n)
  | [], later => by simp
  | r :: f, later => by rw [List.foldl_cons, step_flat n f, List.flatMap_cons, List.append_assoc]
theorem stepV_flat (n : Nat) (found : List Row) : stepV n found = found.flatMap (more n) := by unfold stepV; rw [step_flat]; rfl
def RInd : Sl → D → Sl → Prop := fun args d args' => ∃ kvs ln, ∃ axes : Str, args = [.dat (.ptup (pairsD kvs)), .dat (.str axes)] ∧ (kvs.map (·.1)).Nodup ∧ Kn kvs ln axes.cps.toList ∧ countV ln axes.cps.toList ≤ 2000 ∧ d = .list ((indicesV ln axes.cps.toList).map rowD) ∧ args' = args
section
variable {P : Program} {w : World} {K : PySem.W.Frag} {mg : Str → Option Value} {base : Heap} {T : List TQ}
theorem ok_ind {f fc : Addr} {fd fdc : FuncData} {n : Nat} {t : Tok} (F : Fun K "indices" "indices" sInd f fd) (md : mg "dict" = none) (mr : mg "range" = none) (mM : mg "MOST_CELLS" = some (.int 2000 t))
    (hc : FnOk P w K mg base CX0 n fc fdc ["lengths", "axes"] (PrD K T 2 RCount)) (mc : mg "count_cells" = some (.ref fc)) (kc : PySem.W.keepIn K (.ref fc) = true) (bc : Binds K fdc ["lengths", "axes"] []) : FnOk P w K mg base CX0 (n + 1) f fd ["lengths", "axes"] (PrD K T 2 RInd) := by
  refine fn_d F scInd RInd fun cdv A outer s H E B args d args' hr hl he sh hR => ?_
  obtain ⟨kvs, ln, axes, rfl, hnd, kn, hco, rfl, rfl⟩ := hR
  have hz : sizeLine = 16777216 := rfl
  refine sx_ifR (tx_gt (r2 (ex_call hc hr rfl mc kc bc (ax_cons (nm 0) (ax_cons (nm 1) ax_nil)) rfl ⟨kvs, ln, axes, rfl, hnd, kn, rfl, rfl⟩) (ex_gint rfl mM))) (fun h => absurd (of_decide_eq_true h) (by omega)) (fun _ => ?_)
  refine st 2 scInd.nd (EN.ex (en_dictP rfl (hu8 hr) rfl md (nm 0) hnd)) ?_
  refine st 3 scInd.nd (ex_lst (ax_cons (ex_tup ax_nil (by decide)) ax_nil) (show (1 : Nat) ≤ sizeLine by decide)) ?_
  unfold indicesV
  refine sx_forM axes.cps.toList sgD [4] (fun found : List Row => [.dat (.ptup (pairsD kvs)), .dat (.str axes), .dat (.dict (kvD kvs)), .dat (.list (found.map rowD)), .un, .un, .un]) [[]] (fun found c => stepV (ln c) found) (fun i found => found.length ≤ 10 ^ i ∧ ∀ r ∈ found, r.length = i) PassesOwn.never rfl
    (ix_s (nm 1)) (Fg.refl _) ⟨by decide, fun r hr => by rw [List.mem_singleton.mp hr]; rfl⟩ (fun B' i found c hc hJ => ?_) (fun hJ => sx_ret (nm 3) ⟨rfl, back0 (args := [_, _])⟩)
  have hc' := List.mem_of_getElem? hc
  have hn := kn.le c hc'
  have hi : i < 5 := Nat.lt_of_lt_of_le (List.getElem?_eq_some_iff.mp hc).1 kn.few
  obtain ⟨hJ1, hJ2⟩ := hJ
  have so := step_ok (ln c) i found [] hJ2 (fun r hr => by cases hr)
  have hpw : found.length * 10 ≤ 10 ^ (i + 1) := by rw [Nat.pow_succ]; exact Nat.mul_le_mul_right _ hJ1
  have hp3 : 10 ^ (i + 1) ≤ 100000 := Nat.pow_le_pow_right (by decide) (show i + 1 ≤ 5 by omega)
  have hle : (stepV (ln c) found).length ≤ 10 ^ (i + 1) := by
    show (found.foldl _ []).length ≤ _
    rw [so.1, List.length_nil, Nat.zero_add]
    exact Nat.le_trans (Nat.mul_le_mul_left _ hn) hpw
  have hfl : (found.flatMap fun r => (List.range (ln c)).map fun i : Nat => rowD (r ++ [(i : Int)])) = (stepV (ln c) found).map rowD := by
    rw [stepV_flat, List.map_flatMap]; unfold more; simp only [List.map_map]; rfl
  refine ⟨⟨hle, so.2⟩, _, gn 4 scInd.nd, ?_⟩
  refine sx_setLc2 3 found rowD (fun _ => List.range (ln c)) (fun _ => iD) (fun r i => rowD (r ++ [(i : Int)])) [("row", 5), ("one", 6)] [6] rfl scInd.nd (ix_l (nm 3)) (blk rfl (by rfl)) (by decide) (by rw [hfl, List.length_map]; omega) rfl (fun r hr' B2 => ?_) (by rw [hfl]; exact sx_nil (.same (.same (.same (.same (.un (.un (.un .nil))))))))
  · refine ⟨[.dat (.ptup (pairsD kvs)), .dat (.str axes), .dat (.dict (kvD kvs)), .dat (.list (found.map rowD)), .dat (sgD c), .dat (rowD r), .un], rfl, ?_, fun s H C cl fp => ?_, fun B3 s H C cl fp => ?_, fun j hj B3 => ⟨[.dat (.ptup (pairsD kvs)), .dat (.str axes), .dat (.dict (kvD kvs)), .dat (.list (found.map rowD)), .dat (sgD c), .dat (rowD r), .dat (iD j)], rfl, fun s H C cl fp => ?_, fun s H C cl fp => ?_⟩⟩
    · exact .same (.same (.same (.same (.same (.un (.same .nil))))))
    · exact gn 5 scInd.nd
    · exact ix_n rfl mr (ex_dgetS (hu_of hr) (nm 2) (nm 4) (kn.look c hc')) (by omega)
    · exact gn 6 scInd.nd
    · refine EX.to (ex_tup (ax_star (nm 5) (.inl rfl) (ax_cons (nm 6) ax_nil)) ?_) ?_
      · have := hJ2 r hr'
        simp only [List.length_append, List.length_map, List.length_cons, List.length_nil]; omega
      · unfold rowD; rw [List.map_append]; rfl
end
end K04

set_option maxRecDepth 100000
namespace K04
open PySem PySem.Spec PyProof.Rows L2 Dv L2H HotX
abbrev sWord : Stmt := topS 35
theorem scWord : FnScope ["e", "kinds", "one"] ["e"] (defScope sWord) := ⟨rfl, rfl, rfl, by decide +kernel, rfl, by decide +kernel, by decide +kernel⟩
def words : List Str := ["range", "form", "none", "refused", "much"]
/-- what _law_word tells of the handled exception at a -/
def SpW (T : List TQ) (word : Str) (a : Addr) : Sp := fun vs H Q _ => vs = [.ref a] ∧ (∀ P ∈ T, TQs H P) ∧ ∀ H', Fx [] H H' → (∀ b, H b ≠ none → H' b ≠ none) → (∀ P ∈ T, TQs H' P) → Q (.str word) H'
/-- the classes that it asks for; D: the exception's own -/
structure WordC (K : PySem.W.Frag) (mg : Str → Option Value) (D C1 C2 C3 C4 C5 : Addr) (b1 b2 b3 b4 b5 : Bool) : Prop where
  ex : ExcC K D
  m1 : mg "OutOfRange" = some (.ref C1)
  m2 : mg "Malformed" = some (.ref C2)
  m3 : mg "NotThere" = some (.ref C3)
  m4 : mg "Refused" = some (.ref C4)
  m5 : mg "TooMuch" = some (.ref C5)
  k1 : PySem.W.kitOne K (.ref D) (.ref C1) = some b1
  k2 : PySem.W.kitOne K (.ref D) (.ref C2) = some b2
  k3 : PySem.W.kitOne K (.ref D) (.ref C3) = some b3
  k4 : PySem.W.kitOne K (.ref D) (.ref C4) = some b4
  k5 : PySem.W.kitOne K (.ref D) (.ref C5) = some b5
def IsE (D : Addr) (p : Addr × Obj) : Prop := Zc (.ref D) none p.2 ∧ ∃ vs, p.2.data = .fields vs
section
variable {P : Program} {w : World} {K : PySem.W.Frag} {mg : Str → Option Value} {base : Heap} {T : List TQ}
theorem ok_word {f D C1 C2 C3 C4 C5 : Addr} {fd : FuncData} {n : Nat} {b1 b2 b3 b4 b5 : Bool} {j : Nat} {word : Str} (F : Fun K "_law_word" "_law_word" sWord f fd) (C : WordC K mg D C1 C2 C3 C4 C5 b1 b2 b3 b4 b5) (mi : mg "isinstance" = none) (ml : mg "len" = none)
    (hj : [b1, b2, b3, b4, b5][j]? = some true) (hno : ∀ m, m < j → [b1, b2, b3, b4, b5][m]? ≠ some true) (hone : ([b1, b2, b3, b4, b5].filter id).length = 1) (hw : words[j]? = some word) :
    FnP P w K mg base (n + 1) f fd ["e"] (IsE D) (SpW T word) := by
  obtain ⟨oc, od, kV, doc, pm, an, cdv, ct, osl, rfl, lk, hcd⟩ := F.ex
  refine fn_ofP lk hcd scWord (fun a vs H Q E h => by rw [h.1]; rfl) fun A outer s H vs Q E p hot hp hr hsp => ?_
  obtain ⟨rfl, hT, q⟩ := hsp
  obtain ⟨hz, hf⟩ := hp
  have hotC : HotC (cxH CX0 P w K mg base ["e", "kinds", "one"] "_law_word" (defScope sWord) f cdv A outer s H E p) := ⟨p, hot, List.mem_singleton.mpr rfl⟩
  have hm : p ∈ (cxH CX0 P w K mg base ["e", "kinds", "one"] "_law_word" (defScope sWord) f cdv A outer s H E p).pn := List.mem_singleton.mpr rfl
  have isr := call_isP (X := cxH CX0 P w K mg base ["e", "kinds", "one"] "_law_word" (defScope sWord) f cdv A outer s H E p) C.ex hm hz hf
  refine ⟨_, pss_cons (ps_set (i := 1) scWord.nd rfl (.inl rfl) (pe_lst (pa_cons (pe_callB isr (by rfl) mi (by decide +kernel) (pa_cons (pe_var (i := 0) rfl (.inl rfl)) (pa_cons (pe_glob (v := .ref C1) (by rfl) C.m1 rfl) pa_nil)))
    (pa_cons (pe_callB isr (by rfl) mi (by decide +kernel) (pa_cons (pe_var (i := 0) rfl (.inl rfl)) (pa_cons (pe_glob (v := .ref C2) (by rfl) C.m2 rfl) pa_nil)))
    (pa_cons (pe_callB isr (by rfl) mi (by decide +kernel) (pa_cons (pe_var (i := 0) rfl (.inl rfl)) (pa_cons (pe_glob (v := .ref C3) (by rfl) C.m3 rfl) pa_nil)))
    (pa_cons (pe_callB isr (by rfl) mi (by decide +kernel) (pa_cons (pe_var (i := 0) rfl (.inl rfl)) (pa_cons (pe_glob (v := .ref C4) (by rfl) C.m4 rfl) pa_nil)))
    (pa_cons (pe_callB isr (by rfl) mi (by decide +kernel) (pa_cons (pe_var (i := 0) rfl (.inl rfl)) (pa_cons (pe_glob (v := .ref C5) (by rfl) C.m5 rfl) pa_nil))) pa_nil))))))) (ps_any (T := T) (B := ⟨[], [], H⟩)), ?_⟩
  refine ⟨.ref p.1, rfl, .ref C1, .ref C1, b1, rfl, fun u h => h, C.k1, .ref p.1, rfl, .ref C2, .ref C2, b2, rfl, fun u h => h, C.k2, .ref p.1, rfl, .ref C3, .ref C3, b3, rfl, fun u h => h, C.k3, .ref p.1, rfl, .ref C4, .ref C4, b4, rfl, fun u h => h, C.k4, .ref p.1, rfl, .ref C5, .ref C5, b5, rfl, fun u h => h, C.k5, (show (5 : Nat) ≤ sizeLine by decide), fun l nl => ?_⟩
  have hw2 : ([.str "range", .str "form", .str "none", .str "refused", .str "much"] : List Dv.D)[j]? = some (.str word) := by
    show (words.map Dv.D.str)[j]? = _
    rw [List.getElem?_map, hw]; rfl
  have S0 : Sim K T ⟨[], [], H⟩ [.un, .un, .un] (L2.start ["e", "kinds", "one"] [.ref p.1]) H := sim_start (K := K) (N := ["e", "kinds", "one"]) (vs := [.ref p.1]) (args := [.un]) (out := []) ⟨rfl, fun i s' e => by
    cases i with
    | zero => cases e; trivial
    | succ i => cases e⟩ List.nodup_nil (fun a h => by cases h) (fun a h => by cases h) hT
  have S1 := sim_add (L := l) (o := .lst [.bl b1, .bl b2, .bl b3, .bl b4, .bl b5]) S0 nl rfl
  have S2 := sim_own (i := 1) (ds := [b1, b2, b3, b4, b5].map Dv.D.bool) S1 nl upd_same (by simp [Bs.all, owns]) (.cons (.bl _) (.cons (.bl _) (.cons (.bl _) (.cons (.bl _) (.cons (.bl _) .nil))))) (show 1 < 3 by decide)
  refine ⟨_, { nx := fun _ => False, rt := fun d _ => d = .str word }, ?_, S2, (fun _ _ _ z => z.elim), (fun d ρ' σ' v H' e S' r => ?_), (fun _ _ _ z => z.elim), (fun _ _ _ z => z.elim), fun _ _ _ _ _ _ z => z.elim⟩
  · refine sx_freeze (i := 1) rfl ?_
    refine sx_ifR (kb := false) (TX.to (tx_neI (r2 (ex_lenL (by rfl) ml (EX.l (EO.ex (eo_lcK [b1, b2, b3, b4, b5] Dv.D.bool (fun b => if b = true then some (.bool b) else none) [("one", 2)] hotC scWord.nd (ix_lK (nm 1)) (blk rfl (by rfl)) (show (5 : Nat) ≤ sizeLine by decide) rfl (fun b hb B' => ?_))))) ex_int)) ?_) (fun h => by cases h) (fun _ => ?_)
    · exact tI (c := b) (fun s H C cl fp => gn 2 scWord.nd) (fun s H C cl fp => txs_one (tx_val (nm 2) (fun _ => rfl))) (fun h s H C cl fp => nm 2) (.un (.same (.un .nil))) (.un (.same (.un .nil)))
    · have : (([b1, b2, b3, b4, b5].filterMap fun b => if b = true then some (Dv.D.bool b) else none).length) = 1 := by
        rw [← hone]
        cases b1 <;> cases b2 <;> cases b3 <;> cases b4 <;> cases b5 <;> rfl
      rw [this]; rfl
    · exact sx_ret (EX.to (ex_ixL (ex_lst (ax_cons ex_str (ax_cons ex_str (ax_cons ex_str (ax_cons ex_str (ax_cons ex_str ax_nil))))) (show (5 : Nat) ≤ sizeLine by decide)) (ex_indexB (j := j) (nm 1) ex_bl hj hno) (Dv.atI_nat hw2) (fun _ _ => rfl)) rfl) rfl
  · subst e
    rw [str_of r]
    exact q H' S'.frame S'.dom S'.tabs
end
end K04

set_option maxRecDepth 100000
namespace Dv
open PySem PySem.Spec PyProof.Rows L2 L2H HotX
section
variable {X : Cx} {T : List TQ} {B : Bs} {ρ ρ1 : Sl} {W : List Addr} {f fw D : Addr} {fd fdw : FuncData} {ps : List Str} {x xw xc n : Str} {p1 p2 p3 p4 p5 p6 p7 p8 p9 : Pos} {e : Expr} {es : List Expr} {kk kw i m : Nat} {ds : List Dv.D} {R : List Dv.D → Prop} {k : DE} {r : List Stmt} {c : Value} {Pp : Addr × Obj → Prop} {sp : Addr → Sp} {word : Str}
/-- try: return len(f(..)) / except c as n: return g(n), f raises -/
theorem sx_tryXL {p10 p11 : Pos} (F : FnOk X.prog X.w X.K X.mg X.base (L2N.CX X.prog X.w) kk f fd ps (PrX X.K T m R (.ref D))) (hr : Room kk X.A) (hg : Gl X x) (hm : X.mg x = some (.ref f)) (hk : PySem.W.keepIn X.K (.ref f) = true) (hb : Binds X.K fd ps [])
    (ha : ∀ pn xe, AX (X.tr pn xe) T B ρ (e :: es) W ρ1 ds) (hn : ds.length = m) (hR : R ds)
    (G : FnP X.prog X.w X.K X.mg X.base kw fw fdw ["e"] Pp sp) (hrw : RoomH kw X.A) (hgw : Gl X xw) (hmw : X.mg xw = some (.ref fw)) (hkw : PySem.W.keepIn X.K (.ref fw) = true) (hbw : Binds X.K fdw ["e"] [])
    (hPp : ∀ p : Addr × Obj, L2N.Zn (.ref D) none p.2 → (∃ vs, p.2.data = .fields vs) → Pp p)
    (hsp : ∀ a H Q E, (∀ P ∈ T, TQs H P) → (∀ H', Fx [] H H' → (∀ b, H b ≠ none → H' b ≠ none) → (∀ P ∈ T, TQs H' P) → Q (.str word) H') → sp a [.ref a] H Q E)
    (hs : X.stack = X.env :: X.outer) (hf : X.env.frame = some X.env.locals) (hN : X.N.Nodup) (hi : X.N[i]? = some n) (hln : X.env.kindOf n = some .local) (hln2 : X.env.scope.names.lookup n = some .local) (hc : Names X xc c) (hex : PySem.W.exmOne X.K (.ref D) c = some true) (hrt : k.rt (.str word) (ρ1.set i .un)) (hil : i < ρ1.length)
    (hdb : (x == ("__debug__" : Str)) = false := by decide) (he : starEach (e :: es) X.env = (false, eval e X.env) :: starEach es X.env := by rfl) (hpl : (backTo p2 (starEach es X.env)).any (·.1) = false := by rfl)
    (hdw : (xw == ("__debug__" : Str)) = false := by decide) (hnd : (n == ("__debug__" : Str)) = false := by decide) (hnc : (n == ("__classdict__" : Str)) = false := by decide)
    (hgl : Gl X "len") (hml : X.mg "len" = none) (hew : starEach [.Name n p3] X.env = (false, eval (.Name n p3) X.env) :: starEach [] X.env := by rfl) :
    SXs X T B ρ (.Try [.Return (some (.Call (.Name "len" p10) [.Call (.Name x p1) (e :: es) [] p2] [] p11)) p5] [.ExceptHandler (some (.Name xc p6)) (some n) [.Return (some (.Call (.Name xw p4) [.Name n p3] [] p7)) p9] p8] [] [] pos :: r) k := by
  refine PSs.imp (pss_cons (L2N.ps_try_as (i := i) (tb := fun Wx => tRet (tCB (fun xs H Q => ∃ p ys, xs = [.ref p] ∧ (SqL X.K H p ys ∨ SqT X.K H p ys) ∧ Q (.int ys.length) H) (tCons (tCallS (PrX X.K T m R (.ref D)) (WE Wx) (fun σ H Q => Sim X.K T B ρ σ H ∧ ∀ vs H', Sim X.K T B ρ1 σ H' → Fx W H H' → RpA X.K (msk (B.all ρ1) H') vs ds → Q vs H')) tNil))) (ts := fun a cls d => fun Ends σ H => (cls = .ref D ∧ d = none) ∧ tRet (tCallS (sp a) (fun _ _ _ _ => False) (tCons (tVar i) tNil)) Ends σ H) hs hf hN hi hln hc takesN
    (fun Wx pn xe tk _ => pss_one (ps_ret (pe_callB (call_len_seq (X := X.tr pn xe)) hgl hml boot_len (pa_cons (pe_callS F hr hg hm hk hb (fun σ => L2N.passAt tk σ) (ha pn xe).run hdb he hpl) pa_nil))))
    (fun a oe cls d pn hz hv => ⟨fun pins s σ H Ends I h => ?_⟩)) (ps_any (T := T) (B := B))) fun Ends σ H ⟨S, q1, q2, _⟩ => ?_
  · obtain ⟨⟨rfl, rfl⟩, h⟩ := h
    have hot : Hot1 (X.suite a ((a, oe) :: pn)).A (a, oe) := ⟨rfl, by obtain ⟨vs, e⟩ := hv; exact ⟨vs, e, hz.2.2 vs e⟩⟩
    exact PSs.run (pss_one (ps_ret (pe_callP (X := X.suite a ((a, oe) :: pn)) G ⟨hrw.dp, hrw.un⟩ hot List.mem_cons_self (hPp (a, oe) hz hv) hgw hmw hkw hbw (pa_cons (pe_var hi (.inl hln2) hnd hnc) pa_nil hew) hdw hew))) pins s σ H Ends I h
  · refine ⟨S, fun vs H1 S1 f1 r1 => ⟨by rw [r1.length]; exact hn, ds, B.all ρ1, args_dats r1, S1.held, S1.tabs, hR, fun H2 g1 g2 g3 => ?_⟩⟩
    have S2 := S1.grow g1.kpN g3 g2
    refine ⟨true, hex, fun _ a na => ⟨⟨rfl, rfl⟩, .ref a, by rw [List.getElem?_set_self (by rw [← S1.len]; exact hil)], hsp a H2 _ _ g3 fun H3 k1 k2 k3 => ?_⟩, fun z => by cases z⟩
    exact q2 (.str word) (ρ1.set i .un) σ (.str word) H3 hrt ((S2.grow k1.kpN k3 k2).fg fg_set) (.str _)
end
end Dv

set_option maxRecDepth 100000
set_option maxHeartbeats 4000000
namespace Dv
open PySem PySem.Spec PyProof.Rows L2
/-! ### a tuple known whole; a tuple repeated -/
def tTupP (t : TA) : TE := fun σ H Q => t σ H fun xs H1 => xs.length ≤ sizeLine ∧ ∀ (p : Addr) (o : Obj), o.cls = .type "tuple" → o.dict = none → (∃ its n, o.data = .seq its n) → H1 p = none → Q (.ref p) (upd H1 p (.frz o (.tup xs)))
theorem pe_tupP {X : Cx} {es : List Expr} {t : TA} {pos : Pos} {x1} (h : PA X es t) : PE X (.Tuple es x1 pos) (tTupP t) := by
  refine ⟨fun pins s σ H Q I hq => ?_⟩
  refine wpAny_Tuple_spliced (thn (h.run pos pins s σ H _ I hq) fun us s1 ⟨xs, H1, I1, r, z, q⟩ => ⟨by rw [← r.length]; exact z, ?_⟩)
  have hf : H1 s1.heap.objs.size = none := I1.hok.fresh (Nat.le_refl _)
  have hnew : (s1.heap.push { cls := .type "tuple", data := .seq us.toArray }).get? s1.heap.objs.size = some { cls := .type "tuple", data := .seq us.toArray } := Heap.get?_push_size _ rfl
  exact ⟨.ref s1.heap.objs.size, _, I1.laid (t' := s1.toks) (o := .frz { cls := .type "tuple", data := .seq us.toArray } (.tup xs)) (fun b u e => Heap.get?_push_of_some _ e) (Nat.le_refl _) ⟨hnew, z, us, r, _, hnew, rfl, _, rfl⟩, rfl, q _ _ rfl rfl ⟨_, _, rfl⟩ hf⟩
section
variable {X : Cx} {T : List TQ} {B : Bs} {ρ ρ1 ρ2 : Sl} {W W1 W2 : List Addr} {a b : Expr} {d : D} {pos p : Pos}
/-- a written tuple, known whole -/
theorem ex_tupP {es : List Expr} {ds : List D} {x1} (h : AX X T B ρ es W ρ1 ds) (hl : ds.length ≤ sizeLine) : EX X T B ρ (.Tuple es x1 pos) W ρ1 (.ptup ds) :=
  ⟨PE.imp (pe_tupP h.run) fun σ H Q ⟨S, q⟩ => ⟨S, fun vs H1 S1 f1 r1 => ⟨by rw [r1.length]; exact hl, fun p o h1 h2 ⟨its, n, h3⟩ np => q _ _ (S1.new np) (f1.transN (Fx.new np)) (.ptup ⟨o, its, n, h1, h2, h3, .inl (msk_new S1 np)⟩ (r1.mono (kp_new np)))⟩⟩, h.own, h.sub⟩
end
theorem tuple_mul0 (l : Addr) (items : Array Value) (n : Nat) (dd : Option Addr) (sl : Array (Option Value)) (x : Int) (u : Tok) (c0 : (decide (x < -(2 ^ 63)) || decide (x ≥ 2 ^ 63)) = false) (c1 : (items.isEmpty || x == 1) = false) (c2 : (decide (x ≤ 0) || items.isEmpty) = true) :
    Meets (Builtin.«tuple.__mul__» ⟨[.ref l, .int x u], []⟩) (fun _ R s => s.heap.get? l = some { cls := .type "tuple", dict := dd, data := .seq items n, slots := sl } ∧
      R (.ok (.ret (Value.ref s.heap.objs.size))) { s with heap := s.heap.push { cls := Value.type "tuple", data := Data.seq #[] }, toks := s.toks }) :=
  .of_wp fun prog w A R s h => by
    obtain ⟨hp, g, d, tk, os⟩ := s
    obtain ⟨hl, h⟩ := h
    have f1 := AutoSeq1.idx_int
    wp_walk using wpAny_loadPart' hl
    repeat (first
      | (refine wpAny_ite_false (decide_eq_false (by rw [c0]; exact Bool.false_ne_true)) ?_; wp_walk using wpAny_loadPart' hl)
      | (refine wpAny_ite_false (decide_eq_false (by rw [c1]; exact Bool.false_ne_true)) ?_; wp_walk using wpAny_loadPart' hl)
      | (refine wpAny_ite_true (decide_eq_true c2) ?_; wp_walk using wpAny_loadPart' hl))
    exact ⟨_, rfl, h⟩
theorem tuple_mul1 (l : Addr) (items : Array Value) (n : Nat) (dd : Option Addr) (sl : Array (Option Value)) (x : Int) (u : Tok) (c0 : (decide (x < -(2 ^ 63)) || decide (x ≥ 2 ^ 63)) = false) (c1 : (items.isEmpty || x == 1) = true) :
    Meets (Builtin.«tuple.__mul__» ⟨[.ref l, .int x u], []⟩) (fun _ R s => s.heap.get? l = some { cls := .type "tuple", dict := dd, data := .seq items n, slots := sl } ∧
      R (.ok (.ret (Value.ref l))) s) :=
  .of_wp fun prog w A R s h => by
    obtain ⟨hp, g, d, tk, os⟩ := s
    obtain ⟨hl, h⟩ := h
    have f1 := AutoSeq1.idx_int
    wp_walk using wpAny_loadPart' hl
    repeat (first
      | (refine wpAny_ite_false (decide_eq_false (by rw [c0]; exact Bool.false_ne_true)) ?_; wp_walk using wpAny_loadPart' hl)
      | (refine wpAny_ite_true (decide_eq_true c1) ?_; wp_walk using wpAny_loadPart' hl))
    exact ⟨_, rfl, h⟩
def rRep1 (K : PySem.W.Frag) : L2.R2 := fun x y H Q => ∃ l k z, x = .ref l ∧ y = .int k ∧ SqT K H l [z] ∧ 0 ≤ k ∧ k ≤ 5000 ∧ (k = 1 → Q (.ref l) H) ∧ (k ≠ 1 → ∀ p, H p = none → Q (.ref p) (upd H p (.tup (List.replicate k.toNat z))))
theorem op_rep1 {X : Cx} : OpR X (binaryOp .Mult) (rRep1 X.K) := by
  intro pins s σ H x y v u Q I rx ry h
  obtain ⟨l, k, z, rfl, rfl, hT, h1, h2, q1, q2⟩ := h
  cases rx
  obtain ⟨t, rfl⟩ := ry
  obtain ⟨its, r, ⟨⟨cls, dd, data, sl⟩, ho, hc, n, hd⟩, hs⟩ := I.tuple hT
  simp only at hc hd
  subst hc hd
  obtain ⟨w0, rfl⟩ : ∃ w0, its = [w0] := by
    cases r with
    | cons a b => cases b; exact ⟨_, rfl⟩
  have c0 : (decide (k < -(2 ^ 63)) || decide (k ≥ 2 ^ 63)) = false := by
    rw [decide_eq_false (by omega), decide_eq_false (by omega)] <;> rfl
  have road : ∀ {Q' : Value → Shared → Prop}, wpAny (model X.prog X.w) X.A (call (.builtin "tuple.__mul__") [.ref l, .int k t]) Q' X.xe s → wpAny (model X.prog X.w) X.A (binaryOp .Mult (.ref l) (.int k t)) Q' X.xe s := fun hc =>
    wpAny_binaryOp_repeat_ref (T := "tuple") (U := "int") (by decide) ⟨_, ho, rfl⟩ (fun s' => typeIs_int s' k t) noFill_tuple_mul F.fills_int_mul F.slot_int_rmul repeat_tuple F.slot_int_index.lookup
      (call_meets F.slot_int_rmul (typeIs_int s k t) F.entry_int_rmul (F.args_int_rmul_2 _ _) (int_rmul_tuple k t l [w0].toArray n dd sl) ⟨ho, rfl, ⟨_, ho, rfl⟩, hc⟩)
  refine road ?_
  by_cases e1 : k = 1
  · subst e1
    exact call_meets F.slot_tuple_mul ⟨_, ho, rfl⟩ F.entry_tuple_mul (F.args_tuple_mul_2 _ _) (tuple_mul1 l [w0].toArray n dd sl 1 t c0 rfl) ⟨ho, ⟨.ref l, H, I, rfl, q1 rfl⟩⟩
  have c1 : ([w0].toArray.isEmpty || k == 1) = false := beq_eq_false_iff_ne.mpr e1
  have q2 := q2 e1 s.heap.objs.size (I.hok.fresh (Nat.le_refl _))
  by_cases e0 : k = 0
  · subst e0
    refine call_meets F.slot_tuple_mul ⟨_, ho, rfl⟩ F.entry_tuple_mul (F.args_tuple_mul_2 _ _) (tuple_mul0 l [w0].toArray n dd sl 0 t c0 c1 rfl) ⟨ho, ?_⟩
    exact ⟨.ref s.heap.objs.size, _, I.laid (t' := s.toks) (o := .tup []) (fun b ob q => Heap.get?_push_of_some _ q) (Nat.le_refl _) ⟨Nat.zero_le _, [], .nil, IsTup.new _ _⟩, rfl, q2⟩
  have c2 : (decide (k ≤ 0) || [w0].toArray.isEmpty) = false := by
    rw [decide_eq_false (by omega)]; rfl
  have c4 : Builtin.Tuple.tupleTooMany ((([w0].toArray.size : Nat) : Int) * k) = false := by
    unfold Builtin.Tuple.tupleTooMany
    rw [sizeLine_eq]
    exact decide_eq_false (by show ¬ ((1 : Nat) : Int) * k > _; omega)
  have ef : ∀ {α : Type} (a : α) (m : Nat), (List.replicate m [a]).flatten = List.replicate m a := fun {α} a m => by
    induction m with
    | zero => rfl
    | succ m ih => rw [List.replicate_succ, List.flatten_cons, ih]; rfl
  refine call_meets F.slot_tuple_mul ⟨_, ho, rfl⟩ F.entry_tuple_mul (F.args_tuple_mul_2 _ _) (tuple_mulW l [w0].toArray n dd sl k t c0 c1 c2 (by show ¬ ((1 : Nat) : Int) * k > _; omega) c4 (by rw [size_rep, List.size_toArray, ef, List.length_replicate, sizeLine_eq]; omega)) ⟨ho, ?_⟩
  rw [size_rep]
  have rr := r.rep k.toNat
  rw [ef, ef] at rr
  refine ⟨.ref s.heap.objs.size, _, I.laid (t' := s.toks) (o := .tup (List.replicate k.toNat z)) (fun b ob q => Heap.get?_push_of_some _ q) (Nat.le_refl _) ?_, rfl, q2⟩
  exact ⟨by rw [List.length_replicate, sizeLine_eq]; omega, _, rr, by rw [ef]; exact IsTup.new _ _⟩
section
variable {X : Cx} {T : List TQ} {B : Bs} {ρ ρ1 ρ2 : Sl} {W W1 W2 : List Addr} {a b : Expr} {d : D} {pos p : Pos}
theorem rpa_rep {K : PySem.W.Frag} {H : Hp} {v : V} {d : D} (r : Rp K H v d) : ∀ n : Nat, RpA K H (List.replicate n v) (List.replicate n d)
  | 0 => .nil
  | n + 1 => .cons r (rpa_rep r n)
/-- (x,) * n -/
theorem ex_rep {n : Nat} (ha : EX X T B ρ a W1 ρ1 (.tuple [d])) (hb : EX X T B ρ1 b W2 ρ2 (.int (n : Nat))) (hn : n ≤ 5000) : EX X T B ρ (.BinOp a .Mult b pos) (W1 ++ W2) ρ2 (.tuple (List.replicate n d)) := by
  refine ⟨PE.imp (pe_op op_rep1 ha.run hb.run) fun σ H Q ⟨S, q⟩ => ⟨S, fun x H1 S1 f1 r1 => ⟨S1, fun y H2 S2 f2 r2 => ?_⟩⟩, hb.own.trans ha.own, sub_app ha.sub ha.own hb.sub⟩
  have r1' := carry hb f2 r1
  have ey := int_of r2
  subst ey
  have r1c := r1'
  cases r1' with
  | tup h1 h2 =>
    cases h2 with
    | cons h3 h4 =>
      cases h4
      refine ⟨_, _, _, rfl, rfl, SqT.of (msk_some h1).2, by omega, by omega, fun e => ?_, fun e p np => ?_⟩
      · have : n = 1 := by omega
        subst this
        exact q _ H2 S2 (f1.trans f2) r1c
      · rw [Int.toNat_natCast]
        exact q _ _ (S2.new np) ((f1.trans f2).transN (Fx.new np)) (.tup (msk_new S2 np) ((rpa_rep h3 n).mono (kp_new np)))
end
end Dv

set_option maxRecDepth 100000
namespace Dv
open PySem PySem.Spec PyProof.Rows L2
section
variable {X : Cx} {T : List TQ} {B : Bs} {ρ : Sl} {body : List Stmt} {h₀ : ExceptHandler} {hs : List ExceptHandler} {pos : Pos} {r : List Stmt} {k : DE}
/-- try: body / except ..: .., where body hands back -/
theorem sx_try0 (h : SXs X.nox T B ρ body { k with nx := fun _ => False }) : SXs X T B ρ (.Try body (h₀ :: hs) [] [] pos :: r) k :=
  sx_cons (fun _ => False) (ps_try_thru0 h) (fun _ z => z.elim)
end
end Dv
namespace K04
open PySem PySem.Spec PyProof.Rows L2 Dv
theorem idx_ok (ln : Nat → Nat) : ∀ (cs : List Nat) (found : List Row) (k : Nat), (∀ c ∈ cs, ln c ≤ 10) → found.length ≤ 10 ^ k → (∀ r ∈ found, r.length = k) → (cs.foldl (fun found c => stepV (ln c) found) found).length ≤ 10 ^ (k + cs.length) ∧ ∀ r ∈ cs.foldl (fun found c => stepV (ln c) found) found, r.length = k + cs.length
  | [], found, k, _, h1, h2 => ⟨h1, h2⟩
  | c :: cs, found, k, hle, h1, h2 => by
    obtain ⟨a, b⟩ := step_ok (ln c) k found [] h2 (fun r hr => by cases hr)
    have hn := hle c List.mem_cons_self
    have hl : (stepV (ln c) found).length ≤ 10 ^ (k + 1) := by
      show (found.foldl _ []).length ≤ _
      rw [a, List.length_nil, Nat.zero_add, Nat.pow_succ]
      exact Nat.mul_le_mul h1 hn
    obtain ⟨e1, e2⟩ := idx_ok ln cs (stepV (ln c) found) (k + 1) (fun x hx => hle x (List.mem_cons_of_mem _ hx)) hl b
    rw [List.length_cons, show k + (cs.length + 1) = k + 1 + cs.length by omega]
    exact ⟨e1, e2⟩
theorem Kn.rows {kvs : List (Str × D)} {ln : Nat → Nat} {cs : List Nat} (kn : Kn kvs ln cs) : (indicesV ln cs).length ≤ 100000 ∧ ∀ r ∈ indicesV ln cs, r.length = cs.length := by
  obtain ⟨a, b⟩ := idx_ok ln cs [[]] 0 kn.le (by decide) (fun r hr => by rw [List.mem_singleton.mp hr]; rfl)
  rw [Nat.zero_add] at a b
  exact ⟨Nat.le_trans a (Nat.pow_le_pow_right (by decide) (show cs.length ≤ 5 from kn.few)), b⟩
/-- a class of the module, to be raised -/
structure ExcO (K : PySem.W.Frag) (mg : Str → Option Value) (x : Str) (C : Addr) : Prop where
  mg : mg x = some (.ref C)
  kp : PySem.W.keepIn K (.ref C) = true
  ex : PySem.W.excIn K C [.type "ValueError", .type "Exception", .type "BaseException", .type "object"] "ValueError.__new__" = true
  su : PySem.W.subIn K (.ref C) (.type "BaseException") = some true
  ty : PySem.W.typeIn K (.ref C) = some (.type "type")
def RIndX : List D → Prop := fun args => ∃ kvs ln, ∃ axes : Str, args = [.ptup (pairsD kvs), .str axes] ∧ (kvs.map (·.1)).Nodup ∧ Kn kvs ln axes.cps.toList ∧ ¬ countV ln axes.cps.toList ≤ 2000
abbrev sTold : Stmt := topS 37
abbrev sSame : Stmt := topS 29
abbrev sCell : Stmt := topS 27
abbrev sPlace : Stmt := topS 26
theorem scTold : FnScope ["lengths", "axes", "e"] ["lengths", "axes"] (defScope sTold) := ⟨rfl, rfl, rfl, by decide +kernel, rfl, by decide +kernel, by decide +kernel⟩
theorem scSame : FnScope ["lengths", "axes", "value"] ["lengths", "axes", "value"] (defScope sSame) := ⟨rfl, rfl, rfl, by decide +kernel, rfl, by decide +kernel, by decide +kernel⟩
theorem scCell : FnScope ["lengths", "array", "index"] ["lengths", "array", "index"] (defScope sCell) := ⟨rfl, rfl, rfl, by decide +kernel, rfl, by decide +kernel, by decide +kernel⟩
theorem scPlace : FnScope ["lengths", "axes", "index", "known", "found", "axis"] ["lengths", "axes", "index"] (defScope sPlace) := ⟨rfl, rfl, rfl, by decide +kernel, rfl, by decide +kernel, by decide +kernel⟩
def toldV (ln : Nat → Nat) (cs : List Nat) : D := if countV ln cs ≤ 2000 then .int ((indicesV ln cs).length : Nat) else .str "much"
def RTold : Sl → D → Sl → Prop := fun args d args' => ∃ kvs ln, ∃ axes : Str, args = [.dat (.ptup (pairsD kvs)), .dat (.str axes)] ∧ (kvs.map (·.1)).Nodup ∧ Kn kvs ln axes.cps.toList ∧ d = toldV ln axes.cps.toList ∧ args' = args
def RSame : Sl → D → Sl → Prop := fun args d args' => ∃ kvs ln, ∃ (axes : Str) (v : D), args = [.dat (.ptup (pairsD kvs)), .dat (.str axes), .dat v] ∧ (kvs.map (·.1)).Nodup ∧ Kn kvs ln axes.cps.toList ∧ countV ln axes.cps.toList ≤ 2000 ∧ (indicesV ln axes.cps.toList).length ≤ 5000 ∧
  d = .tuple [.str axes, .tuple (List.replicate (indicesV ln axes.cps.toList).length v)] ∧ args' = args
/-- the place of a cell; ix the index's number of an axis -/
def placeV (ln ix : Nat → Nat) (cs : List Nat) : Nat := cs.foldl (fun t c => t * ln c + ix c) 0
structure IxOk (idx : List (Str × D)) (ix : Nat → Nat) (cs : List Nat) : Prop where
  look : ∀ c ∈ cs, lookD idx (sg c) = some (iD (ix c))
  le : ∀ c ∈ cs, ix c ≤ 10
def RPlace : Sl → D → Sl → Prop := fun args d args' => ∃ kvs ln idx ix, ∃ axes : Str, args = [.dat (.ptup (pairsD kvs)), .dat (.str axes), .dat (.dict (kvD idx))] ∧ (kvs.map (·.1)).Nodup ∧ Kn kvs ln axes.cps.toList ∧ IxOk idx ix axes.cps.toList ∧ d = iD (placeV ln ix axes.cps.toList) ∧ args' = args
def RCell : Sl → D → Sl → Prop := fun args d args' => ∃ kvs ln idx ix, ∃ (axes : Str) (cs : List D), args = [.dat (.ptup (pairsD kvs)), .dat (.tuple [.str axes, .tuple cs]), .dat (.dict (kvD idx))] ∧ (kvs.map (·.1)).Nodup ∧ Kn kvs ln axes.cps.toList ∧ IxOk idx ix axes.cps.toList ∧ cs[placeV ln ix axes.cps.toList]? = some d ∧ args' = args
section
variable {P : Program} {w : World} {K : PySem.W.Frag} {mg : Str → Option Value} {base : Heap} {T : List TQ}
theorem ok_indX {f fc C : Addr} {fd fdc : FuncData} {n : Nat} {t : Tok} (F : Fun K "indices" "indices" sInd f fd) (M : ExcO K mg "TooMuch" C) (mM : mg "MOST_CELLS" = some (.int 2000 t))
    (hc : FnOk P w K mg base CX0 n fc fdc ["lengths", "axes"] (PrD K T 2 RCount)) (mc : mg "count_cells" = some (.ref fc)) (kc : PySem.W.keepIn K (.ref fc) = true) (bc : Binds K fdc ["lengths", "axes"] []) : FnOk P w K mg base (L2N.CX P w) (n + 1) f fd ["lengths", "axes"] (PrX K T 2 RIndX (.ref C)) := by
  refine fn_x F scInd RIndX (.ref C) fun cdv A outer s H E B args hr hl hR hE => ?_
  obtain ⟨kvs, ln, axes, rfl, hnd, kn, hco⟩ := hR
  refine sx_ifR (kb := true) (TX.to (tx_gt (r2 (ex_call hc hr (by rfl) mc kc bc (ax_cons (nm 0) (ax_cons (nm 1) ax_nil)) rfl ⟨kvs, ln, axes, rfl, hnd, kn, rfl, rfl⟩) (ex_gint (by rfl) mM))) (decide_eq_true (by omega))) (fun _ => ?_) (fun h => by cases h)
  exact sx_raise (E := E) rfl (L2N.takes_of rfl rfl rfl rfl) (L2N.pmk_own PySem.F.excBase_ValueError M.ex M.mg M.kp (raises_own M.su M.ty) rfl) fun σ H' S => hE _ σ H' S
theorem ok_told {f fi fw C CE : Addr} {fd fdi fdw : FuncData} {n : Nat} (F : Fun K "_law_told" "_law_told" sTold f fd) (ml : mg "len" = none)
    (hi : FnOk P w K mg base CX0 n fi fdi ["lengths", "axes"] (PrD K T 2 RInd)) (hx : FnOk P w K mg base (L2N.CX P w) n fi fdi ["lengths", "axes"] (PrX K T 2 RIndX (.ref C))) (mi : mg "indices" = some (.ref fi)) (ki : PySem.W.keepIn K (.ref fi) = true) (bi : Binds K fdi ["lengths", "axes"] [])
    (G : FnP P w K mg base n fw fdw ["e"] (IsE C) (SpW T "much")) (mw : mg "_law_word" = some (.ref fw)) (kw : PySem.W.keepIn K (.ref fw) = true) (bw : Binds K fdw ["e"] [])
    (mE : mg "ArrayError" = some (.ref CE)) (hex : PySem.W.exmOne K (.ref C) (.ref CE) = some true) : FnOk P w K mg base CX0 (n + 1) f fd ["lengths", "axes"] (PrD K T 2 RTold) := by
  refine fn_d F scTold RTold fun cdv A outer s H E B args d args' hr hl he sh hR => ?_
  obtain ⟨kvs, ln, axes, rfl, hnd, kn, rfl, rfl⟩ := hR
  unfold toldV
  by_cases hco : countV ln axes.cps.toList ≤ 2000
  · rw [if_pos hco]
    exact sx_try0 (sx_ret (EX.to (ex_lenL (by rfl) ml (EX.l (ex_call hi hr (by rfl) mi ki bi (ax_cons (nm 0) (ax_cons (nm 1) ax_nil)) rfl ⟨kvs, ln, axes, rfl, hnd, kn, hco, rfl, rfl⟩))) (by rw [List.length_map])) ⟨rfl, back0 (args := [_, _])⟩)
  · rw [if_neg hco]
    exact sx_tryXL (i := 2) hx hr rfl mi ki bi (fun pn xe => ax_cons (nm 0) (ax_cons (nm 1) ax_nil)) rfl ⟨kvs, ln, axes, rfl, hnd, kn, hco⟩
      G (L2H.roomH_of hr) rfl mw kw bw (fun p hz hf => ⟨hz.zc, hf⟩) (fun a H Q E hT q => ⟨rfl, hT, q⟩) rfl rfl scTold.nd rfl rfl rfl ⟨rfl, by decide, .inl mE⟩ hex ⟨rfl, back0 (args := [_, _])⟩ (by exact Nat.le_of_ble_eq_true rfl) (hgl := rfl) (hml := ml)
theorem ok_same {f fi : Addr} {fd fdi : FuncData} {n : Nat} (F : Fun K "same_all" "same_all" sSame f fd) (ml : mg "len" = none)
    (hi : FnOk P w K mg base CX0 n fi fdi ["lengths", "axes"] (PrD K T 2 RInd)) (mi : mg "indices" = some (.ref fi)) (ki : PySem.W.keepIn K (.ref fi) = true) (bi : Binds K fdi ["lengths", "axes"] []) : FnOk P w K mg base CX0 (n + 1) f fd ["lengths", "axes", "value"] (PrD K T 3 RSame) := by
  refine fn_d F scSame RSame fun cdv A outer s H E B args d args' hr hl he sh hR => ?_
  obtain ⟨kvs, ln, axes, v, rfl, hnd, kn, hco, hlen, rfl, rfl⟩ := hR
  exact sx_ret (ex_tup (ax_cons (nm 1) (ax_cons (ex_rep (ex_tup (ax_cons (nm 2) ax_nil) (show (1 : Nat) ≤ sizeLine by decide)) (EX.to (ex_lenL (by rfl) ml (EX.l (ex_call hi hr (by rfl) mi ki bi (ax_cons (nm 0) (ax_cons (nm 1) ax_nil)) rfl ⟨kvs, ln, axes, rfl, hnd, kn, hco, rfl, rfl⟩))) (by rw [List.length_map])) hlen) ax_nil)) (show (2 : Nat) ≤ sizeLine by decide)) ⟨rfl, back0 (args := [_, _, _])⟩
theorem ok_place {f : Addr} {fd : FuncData} {n : Nat} (F : Fun K "place_of" "place_of" sPlace f fd) (md : mg "dict" = none) : FnOk P w K mg base CX0 (n + 1) f fd ["lengths", "axes", "index"] (PrD K T 3 RPlace) := by
  refine fn_d F scPlace RPlace fun cdv A outer s H E B args d args' hr hl he sh hR => ?_
  obtain ⟨kvs, ln, idx, ix, axes, rfl, hnd, kn, io, rfl, rfl⟩ := hR
  refine st 3 scPlace.nd (EN.ex (en_dictP rfl (hu8 hr) rfl md (nm 0) hnd)) ?_
  refine st 4 scPlace.nd ex_int ?_
  unfold placeV
  refine sx_forM axes.cps.toList sgD [5] (fun t : Nat => [.dat (.ptup (pairsD kvs)), .dat (.str axes), .dat (.dict (kvD idx)), .dat (.dict (kvD kvs)), .dat (iD t), .un]) 0 (fun t c => t * ln c + ix c) (fun _ _ => True) PassesOwn.never rfl
    (ix_s (nm 1)) (Fg.refl _) trivial (fun B' i t c hc hJ => ⟨trivial, _, gn 5 scPlace.nd, ?_⟩) (fun hJ => ?_)
  · have hc' := List.mem_of_getElem? hc
    have hn := kn.le c hc'
    refine st (d := iD (t * ln c + ix c)) 4 scPlace.nd (EX.to (ex_add (ex_mul (nm 4) (ex_dgetS (hu_of hr) (nm 3) (nm 5) (kn.look c hc')) (.inr ⟨by omega, by omega⟩)) (ex_dgetS (hu_of hr) (nm 2) (nm 5) (io.look c hc'))) ?_) (sx_nil ?_)
    · show D.int _ = D.int _
      rw [Int.natCast_add, Int.natCast_mul]
    · exact .same (.same (.same (.same (.same (.un .nil)))))
  · exact sx_ret (nm 4) ⟨rfl, back0 (args := [_, _, _])⟩
theorem ok_cell {f fp : Addr} {fd fdp : FuncData} {n : Nat} (F : Fun K "cell" "cell" sCell f fd)
    (hp : FnOk P w K mg base CX0 n fp fdp ["lengths", "axes", "index"] (PrD K T 3 RPlace)) (mp : mg "place_of" = some (.ref fp)) (kp : PySem.W.keepIn K (.ref fp) = true) (bp : Binds K fdp ["lengths", "axes", "index"] []) : FnOk P w K mg base CX0 (n + 1) f fd ["lengths", "array", "index"] (PrD K T 3 RCell) := by
  refine fn_d F scCell RCell fun cdv A outer s H E B args d args' hr hl he sh hR => ?_
  obtain ⟨kvs, ln, idx, ix, axes, cs, rfl, hnd, kn, io, hd, rfl⟩ := hR
  exact sx_ret (ex_ixT (ex_ixT (nm 1) ex_int (Dv.atI_to (j := 1) rfl rfl) (fun _ _ => rfl)) (ex_call hp hr (by rfl) mp kp bp (ax_cons (nm 0) (ax_cons (ex_ixT (nm 1) ex_int Dv.atI_z (fun _ _ => rfl)) (ax_cons (nm 2) ax_nil))) rfl ⟨kvs, ln, idx, ix, axes, rfl, hnd, kn, io, rfl, rfl⟩) (Dv.atI_nat hd) (fun _ _ => rfl)) ⟨rfl, back0 (args := [_, _, _])⟩
end
end K04

set_option maxRecDepth 100000
namespace K04
open PySem PySem.Spec PyProof.Rows L2 Dv
abbrev sFrom : Stmt := topS 28
theorem scFrom : FnScope ["lengths", "axes", "cells", "index"] ["lengths", "axes", "cells"] (defScope sFrom) := ⟨rfl, rfl, rfl, by decide +kernel, rfl, by decide +kernel, by decide +kernel⟩
abbrev Tab := List (Row × D)
abbrev noD : D := .ptup [.int 0, .int 1]
def gt (t : Tab) (r : Row) : D := (lookE t r).getD noD
/-- an array: its axes, and its cells in the order of its rows -/
def arrD (axes : Str) (rows : List Row) (cells : Tab) : D := .tuple [.str axes, .tuple (rows.map (gt cells))]
def RFrom : Sl → D → Sl → Prop := fun args d args' => ∃ kvs ln, ∃ (axes : Str) (cells : Tab), args = [.dat (.ptup (pairsD kvs)), .dat (.str axes), .dat (dD eR cells)] ∧ (kvs.map (·.1)).Nodup ∧ Kn kvs ln axes.cps.toList ∧ countV ln axes.cps.toList ≤ 2000 ∧
  (∀ r ∈ indicesV ln axes.cps.toList, (lookE cells r).isSome = true) ∧ d = arrD axes (indicesV ln axes.cps.toList) cells ∧ args' = args
section
variable {P : Program} {w : World} {K : PySem.W.Frag} {mg : Str → Option Value} {base : Heap} {T : List TQ}
theorem gt_some {t : Tab} {r : Row} (h : (lookE t r).isSome = true) : lookE t r = some (gt t r) := by
  unfold gt
  cases e : lookE t r with
  | none => rw [e] at h; cases h
  | some d => rfl
theorem fm_all {α : Type} (h : α → D) (l : List α) : l.filterMap (fun q => some (h q)) = l.map h := by
  induction l with
  | nil => rfl
  | cons a r ih => rw [List.filterMap_cons, List.map_cons, ih]
theorem ok_from {f fi : Addr} {fd fdi : FuncData} {n : Nat} (F : Fun K "from_dict" "from_dict" sFrom f fd) (mt : mg "tuple" = none)
    (hi : FnOk P w K mg base CX0 n fi fdi ["lengths", "axes"] (PrD K T 2 RInd)) (mi : mg "indices" = some (.ref fi)) (ki : PySem.W.keepIn K (.ref fi) = true) (bi : Binds K fdi ["lengths", "axes"] []) :
    FnOk P w K mg base CX0 (n + 1) f fd ["lengths", "axes", "cells"] (PrD K T 3 RFrom) := by
  refine fn_d F scFrom RFrom fun cdv A outer s H E B args d args' hr hl he sh hR => ?_
  obtain ⟨kvs, ln, axes, cells, rfl, hnd, kn, hco, hall, rfl, rfl⟩ := hR
  have hz : sizeLine = 16777216 := rfl
  have hlen := kn.rows.1
  refine sx_ret (ex_tup (ax_cons (nm 1) (ax_cons (ex_tupleL rfl mt (EX.l (EX.to (EO.ex (eo_lcM (indicesV ln axes.cps.toList) rowD (fun r => some (gt cells r)) [("index", 3)] rfl scFrom.nd (ix_l (ex_call hi hr rfl mi ki bi (ax_cons (nm 0) (ax_cons (nm 1) ax_nil)) rfl ⟨kvs, ln, axes, rfl, hnd, kn, hco, rfl, rfl⟩)) (blk rfl (by rfl)) (by omega) rfl (fun r hr' B' => ?_))) ?_))) ax_nil)) (show (2 : Nat) ≤ sizeLine by decide)) ⟨rfl, back0 (args := [_, _, _])⟩
  · exact tM rfl (fun s H C cl fp => gn 3 scFrom.nd) (fun s H C cl fp => txs_nil) (fun s H C cl fp => ex_dget (E := eR) (k := r) (hu_of hr) (nm 2) (nm 3) (gt_some (hall r hr'))) (.same (.same (.same (.un .nil))))
  · rw [fm_all]
end
end K04

set_option maxRecDepth 100000
set_option maxHeartbeats 2000000
namespace Dv
open PySem PySem.Spec PyProof.Rows L2
/-! ### sets of texts that can be walked -/
def txtOf (e : Int × Value) : Str := match e.2 with
  | .str k _ => k
  | _ => Str.empty
def TxE (w : World) (e : Int × Value) : Prop := ∃ k tk, e.2 = Value.str k tk ∧ e.1 = hashStr w k
def TxS (w : World) (h : Heap) (a : Addr) (S : Str → Bool) (n : Nat) : Prop :=
  ∃ o es ep t, h.get? a = some o ∧ o.ExactSet ∧ o.data = .set es ep t ∧ (∀ e ∈ es.toList, TxE w e) ∧ (es.toList.map txtOf).Nodup ∧ (∀ k, S k = true ↔ k ∈ es.toList.map txtOf) ∧
    es.size < scanBound ∧ t.fits es.size = true ∧ es.size = n ∧ Ris t.place.toList ∧ (w.params.followText "set-order" = true ∨ t.led = true)
section
variable {P : Program} {w : World} {h h' : Heap} {a : Addr} {S : Str → Bool} {n : Nat}
theorem TxS.at (R : TxS w h a S n) (k : ∀ o, h.get? a = some o → h'.get? a = some o) : TxS w h' a S n :=
  let ⟨o, es, ep, t, ho, r⟩ := R
  ⟨o, es, ep, t, k o ho, r⟩
theorem txk_is (k : Str) (tk : Tok) : (PySem.strKind P w).is k (.str k tk) = true := PySem.strKind_is _ _ _ _
theorem txe_is {e : Int × Value} (g : TxE w e) (k : Str) : (PySem.strKind P w).is k e.2 = true ↔ txtOf e = k := by
  obtain ⟨k0, tk, h1, _⟩ := g
  unfold txtOf
  rw [h1]
  constructor
  · intro z
    obtain ⟨t, e⟩ := Value.isStrOf_shape (x := k) (v := .str k0 tk) z
    cases e
    rfl
  · rintro rfl
    exact txk_is (P := P) (w := w) k0 tk
theorem txe_elems {l : List (Int × Value)} (g : ∀ e ∈ l, TxE w e) : ElemsOf (PySem.strKind P w) l := fun e he => by
  obtain ⟨k, tk, h1, h2⟩ := g e he
  exact ⟨⟨k, by rw [h1]; exact txk_is k tk, h2⟩, by rw [h1] <;> rfl⟩
theorem txe_mem {l : List (Int × Value)} (g : ∀ e ∈ l, TxE w e) (k : Str) : k ∈ l.map txtOf ↔ ∃ e ∈ l, (PySem.strKind P w).is k e.2 = true :=
  List.mem_map.trans ⟨fun ⟨e, he, q⟩ => ⟨e, he, (txe_is (g e he) k).2 q⟩, fun ⟨e, he, q⟩ => ⟨e, he, (txe_is (g e he) k).1 q⟩⟩
end
section
variable {P : Program} {w : World} {A : Around} {E : Value → Shared → Prop} {s : Shared} {a : Addr} {S : Str → Bool} {n : Nat}
theorem txs_tail {g : Bool → Sem Unit} (hg : ∀ (b : Bool) (s₁ : Shared) (Q' : Unit → Shared → Prop), Q' () s₁ → wpAny (model P w) A (g b) Q' E s₁)
    {o : Obj} {es : Array (Int × Value)} {ep : Nat} {t : SetTable} (ho : s.heap.get? a = some o) (hex : o.ExactSet) (hd : o.data = .set es ep t)
    {es1 : Array (Int × Value)} {t2 : SetTable} {S' : Str → Bool} (g1 : ∀ e ∈ es1.toList, TxE w e) (nd1 : (es1.toList.map txtOf).Nodup) (m1 : ∀ k, S' k = true ↔ k ∈ es1.toList.map txtOf)
    (hb1 : es1.size < scanBound) (hf2 : t2.fits es1.size = true) (hr : Ris t2.place.toList) (hl : w.params.followText "set-order" = true ∨ t2.led = true) {wasDummy : Bool} {R : Option Bool → Shared → Prop}
    (hR : ∀ h', Heap.SameBut a s.heap h' → TxS w h' a S' es1.size → R (some true) { s with heap := h' }) :
    wpAny (model P w) A (do
        storeSet a es1 t2
        if (!wasDummy && t2.tooFull) = true then do
            g (relayAll t2 es1 (SetTable.grown es1.size)).2.2
            storeSet a (relayAll t2 es1 (SetTable.grown es1.size)).1 (relayAll t2 es1 (SetTable.grown es1.size)).2.1
            pure (some true)
          else pure (some true)) R E s := by
  refine wpAny_bind (wpAny_storeSet_of ho hd ?_ (fits_of_scanBound hb1))
  have ho1 := store_at (es' := es1) (t' := t2) ho hd
  have sb1 := Heap.SameBut.update s.heap a (Obj.putSet es1 t2)
  split
  · have pm := relayAll_perm t2 es1 (SetTable.grown es1.size)
    have hf3 := relayAll_fits t2 es1 (SetTable.grown es1.size)
    have hr3 := relayAll_ris t2 es1 (SetTable.grown es1.size)
    have hl3 := relayAll_led t2 es1 (SetTable.grown es1.size)
    generalize relayAll t2 es1 (SetTable.grown es1.size) = Z at pm hf3 hr3 hl3 ⊢
    obtain ⟨es2, t3, gave⟩ := Z
    dsimp only at pm hf3 hr3 hl3 ⊢
    have hsz : es2.size = es1.size := by rw [← Array.length_toList, pm.length_eq, Array.length_toList]
    have hb2 : es2.size < scanBound := by rw [hsz]; exact hb1
    refine wpAny_bind (hg _ _ _ ?_)
    refine wpAny_bind (wpAny_storeSet_of ho1 rfl ?_ (fits_of_scanBound hb2))
    have ho2 := store_at (es' := es2) (t' := t3) ho1 rfl
    refine wpAny_pure (hR _ (sb1.trans (Heap.SameBut.update _ a _)) ?_)
    exact ⟨_, es2, _, t3, ho2, hex, rfl, fun e he => g1 e (pm.mem_iff.mp he), (pm.map txtOf).nodup_iff.mpr nd1, fun k => (m1 k).trans (pm.map txtOf).mem_iff.symm, hb2, hf3, hsz, hr3,
      hl.imp id fun z => by rw [hl3]; exact z⟩
  · exact wpAny_pure (hR _ sb1 ⟨_, es1, _, t2, ho1, hex, rfl, g1, nd1, m1, hb1, hf2, rfl, hr, hl⟩)
theorem txs_add {k : Str} {tk : Tok} {Q : Bool → Shared → Prop} (R : TxS w s.heap a S n) (room : n + 1 < scanBound)
    (hQ : ∀ h', Heap.SameBut a s.heap h' → TxS w h' a (fun j => S j || decide (j = k)) (if S k = true then n else n + 1) → Q (!S k) { s with heap := h' }) :
    wpAny (model P w) A (setAddHashed a (.str k tk) ((PySem.strKind P w).hash k)) Q E s := by
  obtain ⟨o, es, ep, t, ho, hex, hd, g, nd, hm, hb, hf, hn, hr, hl⟩ := R
  have hkey : (PySem.strKind P w).is k (.str k tk) = true := txk_is k tk
  have hsc : (Value.str k tk).scannable = true := rfl
  have hel : ElemsOf (PySem.strKind P w) es.toList := txe_elems g
  unfold setAddHashed setAddHashedIn
  refine wpAny_holding (wpAny_bind (wpAny_setState_of ho hd hf ?_))
  dsimp only
  rw [byScan_of hsc hb hel]
  simp only [↓reduceIte]
  unfold setAddByScan
  refine wpAny_bind ?_
  refine wpAny_bind (wpAny_rule ?_)
  refine wpAny_bind (wpAny_setScan_of hkey ho hd hf hel ?_)
  cases hfi : List.findIdx? (fun e => (PySem.strKind P w).is k e.2) es.toList with
  | some j =>
    dsimp only
    obtain ⟨hj, pj, _⟩ := List.findIdx?_eq_some_iff_getElem.mp hfi
    have hSk : S k = true := (hm k).2 ((txe_mem (P := P) (w := w) g k).2 ⟨es.toList[j], List.getElem_mem hj, pj⟩)
    refine wpAny_pure (wpAny_pure ?_)
    have q := hQ s.heap (Heap.SameBut.refl a s.heap) ⟨o, es, ep, t, ho, hex, hd, g, nd, fun i => by
      rw [Bool.or_eq_true, decide_eq_true_eq, ← hm i]
      exact ⟨fun z => z.elim id (fun e => e ▸ hSk), .inl⟩, hb, hf, by rw [if_pos hSk]; exact hn, hr, hl⟩
    rw [hSk] at q
    exact q
  | none =>
    dsimp only
    have hnk : k ∉ es.toList.map txtOf := fun z => by
      obtain ⟨e, he, q⟩ := (txe_mem (P := P) (w := w) g k).1 z
      have c := List.findIdx?_eq_none_iff.mp hfi e he
      rw [q] at c
      cases c
    have hSk : S k = false := by
      cases q : S k with
      | false => rfl
      | true => exact absurd ((hm k).1 q) hnk
    have hgw : ∀ (b : Bool) {s₁ : Shared} {Q' : Unit → Shared → Prop}, Q' () s₁ → wpAny (model P w) A (match b with | true => rule "set.scan.the-table-gave-way" | false => pure ()) Q' E s₁ :=
      fun b s₁ Q' q => by cases b <;> first | exact wpAny_pure q | exact wpAny_rule q
    have pm := layNew_perm t es ((PySem.strKind P w).hash k) (.str k tk)
    have hf1 := layNew_fits t es ((PySem.strKind P w).hash k) (.str k tk)
    have hr1 := layNew_ris t es ((PySem.strKind P w).hash k) (.str k tk) hr
    have hl1 := layNew_led t es ((PySem.strKind P w).hash k) (.str k tk)
    generalize layNew t es ((PySem.strKind P w).hash k) (.str k tk) = Z at pm hf1 hr1 hl1 ⊢
    obtain ⟨es1, t1, wasDummy, gave⟩ := Z
    dsimp only at pm hf1 hr1 hl1 ⊢
    rw [Array.toList_push] at pm
    have pc : es1.toList.Perm (((PySem.strKind P w).hash k, Value.str k tk) :: es.toList) := pm.trans (List.perm_append_singleton _ _)
    have pk : (es1.toList.map txtOf).Perm (k :: es.toList.map txtOf) := pc.map txtOf
    have g1 : ∀ e ∈ es1.toList, TxE w e := fun e he => by
      rcases List.mem_cons.mp (pc.mem_iff.mp he) with z | z
      · rw [z]; exact ⟨k, tk, rfl, rfl⟩
      · exact g e z
    have nd1 : (es1.toList.map txtOf).Nodup := pk.nodup_iff.mpr (List.nodup_cons.mpr ⟨hnk, nd⟩)
    have m1 : ∀ i, (S i || decide (i = k)) = true ↔ i ∈ es1.toList.map txtOf := fun i => by
      rw [Bool.or_eq_true, decide_eq_true_eq, hm i, pk.mem_iff, List.mem_cons]
      exact Or.comm
    have hsz : es1.size = n + 1 := by rw [← Array.length_toList, pc.length_eq, List.length_cons, Array.length_toList, hn]
    have hb1 : es1.size < scanBound := by rw [hsz]; exact room
    have hled : w.params.followText "set-order" = true ∨ t1.led = true := hl.imp id fun z => by rw [hl1]; exact z
    have fin : ∀ h', Heap.SameBut a s.heap h' → TxS w h' a (fun j => S j || decide (j = k)) es1.size → Q true { s with heap := h' } := fun h' sb r => by
      have q := hQ h' sb
      rw [hSk] at q
      rw [hsz] at r
      exact q r
    refine wpAny_bind (hgw _ ?_)
    split
    · refine wpAny_bind ?_
      rw [hashByValue_scannable 8 hsc]
      refine wpAny_pure ?_
      refine txs_tail ?_ ho hex hd g1 nd1 m1 hb1 ?_ ?_ ?_ ?_
      · intro b s₁ Q' q; cases b <;> first | exact wpAny_pure q | exact wpAny_rule q
      · first | (split <;> first | exact hf1 | exact SetTable.fits_plain_off hf1) | exact hf1
      · first | (split <;> exact hr1) | exact hr1
      · first | (split <;> exact hled) | exact hled
      · intro h' sb r; dsimp only; exact wpAny_pure (fin h' sb r)
    · refine wpAny_bind (wpAny_pure ?_)
      simp only [↓reduceIte]
      refine txs_tail ?_ ho hex hd g1 nd1 m1 hb1 hf1 hr1 hled ?_
      · intro b s₁ Q' q; cases b <;> first | exact wpAny_pure q | exact wpAny_rule q
      · intro h' sb r; dsimp only; exact wpAny_pure (fin h' sb r)
end
end Dv

set_option maxRecDepth 100000
set_option maxHeartbeats 3200000
namespace Dv
open PySem PySem.Spec PyProof.Rows L2
theorem TxS.congr {w : World} {h : Heap} {a : Addr} {S S' : Str → Bool} {n : Nat} (R : TxS w h a S n) (e : ∀ k, S' k = S k) : TxS w h a S' n := by
  have q : S' = S := funext e
  rw [q]; exact R
theorem txs_new {w : World} {h : Heap} {a : Addr} {ns : List Str} (ho : h.get? a = some { cls := .type "set", dict := none, data := .set #[] 0 (.fresh 0 0 (!w.params.followText "set-order")) }) : TxS w h a (fun j => decide (j ∈ ns.take 0)) 0 :=
  ⟨_, #[], 0, _, ho, ⟨rfl, rfl, rfl⟩, rfl, (fun e he => by simp at he), (by simp), (fun k => by simp), (by decide), (by rfl), rfl, List.Pairwise.nil, by
    show _ ∨ (!w.params.followText "set-order") = true
    cases w.params.followText "set-order"
    · exact .inr rfl
    · exact .inl rfl⟩
section
variable {P : Program} {w : World} {A : Around} {E : Value → Shared → Prop} {s : Shared}
theorem txs_update {I : Addr} {fp wr : List Addr} {G : Array GenState → Array GenState → Prop} {n : Nat} {Pv : Nat → Value → Prop} {St : Nat → Shared → Prop} {R : Result → Shared → Prop}
    (W : WalksS P w A.in1 I fp wr G n Pv St) (S : Addr) (hSf : S ∉ fp) (ns : List Str) (hn : n = ns.length) (hb : ns.length + 1 < scanBound) (hval : ∀ i v, Pv i v → ∃ k t, ns[i]? = some k ∧ v = .str k t) :
    ∀ (k i : Nat) (s : Shared), n - i = k → i ≤ n → St i s → (∃ c, c ≤ i ∧ TxS w s.heap S (fun j => decide (j ∈ ns.take i)) c) →
      (∀ s' c, Moved (S :: wr) G s s' → c ≤ n → TxS w s'.heap S (fun j => decide (j ∈ ns)) c → R (.ok (.ret .none)) s') →
      codeAny (model P w) A (.builtin "set.update.loop" ⟨[.ref S, .ref I], []⟩) R s := by
  have hSw : S ∉ wr := fun h => hSf (W.sub _ h)
  have hsub : ∀ b ∈ wr, b ∈ S :: wr := fun b hb => List.mem_cons_of_mem _ hb
  intro k
  induction k with
  | zero =>
    intro i s hk' hi hst ⟨c, hc, hS⟩ hR
    have hin : i = n := by omega
    subst hin
    refine codeAny_builtin PyProof.Rows.F.entry_set_update_loop ?_
    rw [Around.under_plainId PyProof.Rows.F.plain_set_update_loop _]
    show wpAny _ A.in1 (pyNext (.ref I) >>= _) _ _ s
    refine wpAny_bind (W.done s _ _ hst fun s' hm => ?_)
    show wpAny _ A.in1 (ret Value.none) _ _ s'
    have e : ns.take i = ns := List.take_of_length_le (by omega)
    rw [e] at hS
    exact wpAny_pure (hR s' c (hm.mono hsub) hc (hS.at fun o e => hm.heap S o hSw e))
  | succ k ih =>
    intro i s hk' hi hst ⟨c, hc, hS⟩ hR
    have hlt : i < n := by omega
    refine codeAny_builtin PyProof.Rows.F.entry_set_update_loop ?_
    rw [Around.under_plainId PyProof.Rows.F.plain_set_update_loop _]
    show wpAny _ A.in1 (pyNext (.ref I) >>= _) _ _ s
    refine wpAny_bind (W.item i s _ _ hlt hst fun v s' hP hst' hm => ?_)
    obtain ⟨z, t, hz, rfl⟩ := hval i v hP
    have hS' : TxS w s'.heap S (fun j => decide (j ∈ ns.take i)) c := hS.at fun o e => hm.heap S o hSw e
    show wpAny _ A.in1 (holding [Value.str z t] (setAdd S (.str z t)) >>= _) _ _ s'
    refine wpAny_bind (wpAny_holding ?_)
    unfold setAdd
    refine wpAny_holding ?_
    refine wpAny_bind ((PySem.strKind P w).pyHash (k := z) (PySem.strKind_is _ _ _ _) ?_)
    refine txs_add (s := { s' with toks := s'.toks + 1 }) hS' (by omega) fun h' hsb hS2 => ?_
    have hS3 : TxS w h' S (fun j => decide (j ∈ ns.take (i + 1))) (if decide (z ∈ ns.take i) = true then c else c + 1) := hS2.congr fun j => by
      rw [List.take_add_one, hz]
      simp [List.mem_append]
    have hc3 : (if decide (z ∈ ns.take i) = true then c else c + 1) ≤ i + 1 := by
      split <;> omega
    refine wpAny_pure ⟨plainId_quiet PyProof.Rows.F.plain_set_update_loop _, ih (i + 1) _ (by omega) hlt (W.frame _ s' _ _ hst' (Nat.le_succ _) fun b hb o e => ?_) ⟨_, hc3, hS3⟩ fun s'' c2 hm'' hc'' hS'' => ?_⟩
    · rw [hsb.2 b (fun h : b = S => hSf (by rw [← h]; exact hb))]; exact e
    · refine hR s'' c2 (Moved.trans W.gtrans ((hm.mono hsub).then_heap (Nat.le_succ _) fun b o hb e => ?_) hm'') hc'' hS''
      rw [hsb.2 b (fun h : b = S => hb (by rw [h]; exact List.mem_cons_self))]; exact e
theorem call_set_str {x : Str} {tx : Tok} {Q : Value → Shared → Prop} (hh : A.handled = none) (hb : x.cps.size + 1 < scanBound)
    (h : ∀ (h' : Heap) (tk c : Nat), TxS w h' s.heap.objs.size (fun j => decide (j ∈ x.cps.toList.map sg)) c → c ≤ x.cps.size → (∀ b o, s.heap.get? b = some o → h'.get? b = some o) → Q (.ref s.heap.objs.size) { s with heap := h', toks := tk }) :
    wpAny (model P w) A (call (.type "set") [.str x tx]) Q E s := by
  obtain ⟨c, tl, hmro⟩ := F.called_set.mro
  have hmade := F.called_set.made
  have hsub := F.called_set.sub
  refine wpAny_call (codeAny_of_tree ?_)
  show wpAny _ _ (callAny (.type "set") _) _ _ _
  refine wpAny_pure ⟨Code.quiet_builtin _ (by decide +kernel), codeAny_builtin F.entry_type_call ?_⟩
  rw [Around.under_plain (weight_type_call_type "set" [.str x tx] []) rfl]
  have h1 := F.called_set.notType
  have h2 := F.called_set.canCreate
  have hct := F.typeCall_set_1 (.str x tx)
  repeat (any_goals (first | assumption | wp_step))

  refine codeAny_mono (code_set_led1 (.str x tx) (E := E) (Q₁ := fun obj s₁ => obj = .ref s.heap.objs.size ∧ s₁ = { s with heap := s.heap.push { cls := .type "set", dict := none, data := .set #[] 0 (.fresh 0 0 (!w.params.followText "set-order")) } }) ⟨rfl, rfl⟩) fun r s₁ hr => ?_
  cases r with
  | error e => exact hr
  | ok fl =>
    cases fl with
    | ret obj =>
      obtain ⟨rfl, rfl⟩ := hr
      have hS : (s.heap.push { cls := .type "set", dict := none, data := .set #[] 0 (.fresh 0 0 (!w.params.followText "set-order")) }).get? s.heap.objs.size = some { cls := .type "set", dict := none, data := .set #[] 0 (.fresh 0 0 (!w.params.followText "set-order")) } := Heap.get?_push_size _ rfl
      have hT : Shared.TypeIs { s with heap := s.heap.push { cls := .type "set", dict := none, data := .set #[] 0 (.fresh 0 0 (!w.params.followText "set-order")) } } (.ref s.heap.objs.size) "set" := ⟨_, hS, rfl⟩
      have hli := F.called_set.init.lookup
      have hbi := F.called_set.init.bind (.ref s.heap.objs.size)
      repeat (any_goals (first | assumption | wp_step))

      refine codeAny_mono (codeAny_call_builtin (R := wants (fun r s₂ => r = .none ∧ ∃ h' tk c, s₂ = { s with heap := h', toks := tk } ∧ TxS w h' s.heap.objs.size (fun j => decide (j ∈ x.cps.toList.map sg)) c ∧ c ≤ x.cps.size ∧
          (∀ b o, s.heap.get? b = some o → h'.get? b = some o)) E) F.called_set.init.plain F.entry_set_init (check_set_init_1 hT ?_)) fun r₂ s₂ hr₂ => ?_
      · have hsls := PySem.F.sub_str_set
        have hslf := PySem.F.sub_str_frozenset
        have hne : (Value.type "str" == Value.type "dict") = false := by decide
        unfold Builtin.«set.__init__» noKeywords Builtin.Frozenset.updateFrom
        generalize hPI : pyIter = PI
        wp_walk
        subst hPI

        refine wpAny_pyIter_str fun o St W hst => ?_
        refine wpAny_bind (wpAny_runValue ?_)
        have hh3 : A.in1.in1.in1.handled = none := by simp [hh]
        have hSf : s.heap.objs.size ∉ [(s.heap.push { cls := .type "set", dict := none, data := .set #[] 0 (.fresh 0 0 (!w.params.followText "set-order")) }).objs.size] := by
          rw [Heap.size_push]; simp only [List.mem_singleton]
          exact Nat.ne_of_lt (Nat.lt_succ_self _)
        have hval : ∀ (i : Nat) (v : Value), SignAt x i v → ∃ k t, (x.cps.toList.map sg)[i]? = some k ∧ v = .str k t := fun i v ⟨c, u, hc, e⟩ => ⟨sg c, u, by rw [List.getElem?_map, Array.getElem?_toList, hc]; rfl, e⟩
        refine txs_update ((W _ hh3).toS) s.heap.objs.size
          hSf (x.cps.toList.map sg) (by rw [List.length_map, Array.length_toList]) (by rw [List.length_map, Array.length_toList]; exact hb) hval (x.cps.size - 0) 0 _ (by omega) (Nat.zero_le _)
          hst ?hS0 ?hR
        case hS0 =>
          exact ⟨0, Nat.le_refl 0, txs_new (Heap.get?_push_of_some _ hS)⟩
        case hR =>
          intro s' c' hm hc' hS'
          obtain ⟨h', g2, d', tk', os'⟩ := s'
          have eg : g2 = s.gens := hm.gens
          have ed : d' = s.drawn := hm.drawn
          have eo : os' = s.os := hm.os
          subst eg; subst ed; subst eo
          show wpAny _ _ _ _ _ _
          refine wpAny_pure ?_
          show wpAny _ _ (ret Value.none) _ _ _
          refine wpAny_pure ⟨rfl, h', tk', c', rfl, hS', hc', fun b o e => ?_⟩
          have hb0 : b < s.heap.objs.size := Heap.lt_size e
          have hb1 : b ≠ s.heap.objs.size := Nat.ne_of_lt hb0
          have hb2 : b ≠ (s.heap.push { cls := .type "set", dict := none, data := .set #[] 0 (.fresh 0 0 (!w.params.followText "set-order")) }).objs.size := by
            rw [Heap.size_push]; exact Nat.ne_of_lt (Nat.lt_succ_of_lt hb0)
          exact hm.heap b o (by simp only [List.mem_cons, List.mem_singleton, List.not_mem_nil, or_false, not_or]; exact ⟨hb1, hb2⟩) (Heap.get?_push_of_some _ (Heap.get?_push_of_some _ e))

      · cases r₂ with
        | error e => exact hr₂
        | ok fl₂ =>
          cases fl₂ with
          | ret r =>
            obtain ⟨rfl, h', tk, c', rfl, hS', hc', hk'⟩ := hr₂
            repeat (any_goals (first | assumption | wp_step))
            exact h _ _ _ hS' hc' hk'
          | _ => exact hr₂.elim
    | _ => exact hr.elim
end
end Dv

set_option maxRecDepth 100000
set_option maxHeartbeats 2000000
namespace Dv
open PySem PySem.Spec PyProof.Rows L2
section
variable {P : Program} {w : World} {A : Around} {E : Value → Shared → Prop} {s : Shared} {a : Addr} {S : Str → Bool} {n : Nat}
theorem strs_of : ∀ (l : List Value), (∀ v ∈ l, ∃ k tk, v = Value.str k tk) → StrsAre l (l.map PyProof.Rows.strOf)
  | [], _ => .nil
  | v :: l, h => by
    obtain ⟨k, tk, rfl⟩ := h v List.mem_cons_self
    exact .cons k tk (strs_of l fun u hu => h u (List.mem_cons_of_mem _ hu))
theorem sorted_txs {Q : Value → Shared → Prop} (R : TxS w s.heap a S n) (hh : A.handled = none)
    (hQ : ∀ s' p (out : Array Value) (c : Nat) (ss : List Str), (∀ b o, s.heap.get? b = some o → s'.heap.get? b = some o) → s'.gens = s.gens → s'.os = s.os → s.heap.objs.size ≤ p →
      s'.heap.get? p = some (seqObj "list" out c) → StrsAre out.toList ss → sortedS ss = true → ss.Nodup → (∀ k, k ∈ ss ↔ S k = true) → ss.length = n → Q (.ref p) s') :
    wpAny (model P w) A (call (.builtin "sorted") [.ref a]) Q E s := by
  obtain ⟨o, es, ep, t, ho, hex, hd, g, nd, hm, hb, hf, hn, hr, hl⟩ := R
  refine Calls.call_function_entry kind_sorted plain_sorted entry_sorted (args_sorted1 _) ?_
  unfold Builtin.«sorted»
  refine wpAny_bind (m := checkCount "sorted" 1 1 _) (wpAny_pure ?_)
  refine wpAny_bind (collect_set (A := A.in1) hh ⟨o, ho, hex.1, hd⟩ hf hb hr hl fun s1 vs k1 hz g1 o1 pm => ?_)
  have hvl : vs.length = n := by rw [pm.length_eq, List.length_map, Array.length_toList]; exact hn
  have hall : ∀ v ∈ vs, ∃ k tk, v = Value.str k tk := fun v hv => by
    obtain ⟨e, he, q⟩ := List.mem_map.mp (pm.mem_iff.mp hv)
    obtain ⟨k, tk, h1, _⟩ := g e he
    exact ⟨k, tk, by rw [← q]; exact h1⟩
  have hI : StrsAre vs (vs.map PyProof.Rows.strOf) := strs_of vs hall
  have pk : (vs.map PyProof.Rows.strOf).Perm (es.toList.map txtOf) := by
    have q := pm.map PyProof.Rows.strOf
    rw [List.map_map] at q
    refine q.trans (List.Perm.of_eq (List.map_congr_left fun e he => ?_))
    obtain ⟨k, tk, h1, _⟩ := g e he
    show PyProof.Rows.strOf e.2 = txtOf e
    unfold txtOf
    rw [h1]; rfl
  have hsl : vs.length ≤ sizeLine := by
    rw [hvl, ← hn, sizeLine_eq]
    unfold scanBound at hb
    omega
  refine wpAny_bind (wpAny_newList ?_ hsl)
  have hoL : (s1.heap.push (seqObj "list" vs.toArray 0)).get? s1.heap.objs.size = some (seqObj "list" vs.toArray 0) := Heap.get?_push_size _ rfl
  refine wpAny_bind (wpAny_holding (wpAny_call_entry slot_list_sort ⟨_, hoL, rfl⟩ entry_list_sort (list_sort_treeKAny strKind_oneLt hoL hI.keysOf (fun v₁ v₂ rest e => keyKind_strs (by rw [← e]; exact hI)) hsl fun st' hp hs => ⟨_, rfl, ?_⟩) (args_list_sort _)))
  obtain ⟨ss, a1, a2, a3⟩ := sorted_out_str hI hp hs
  obtain ⟨c, hc⟩ := sortedHeap_at (vs := vs) (out := (arrOf st').map (·.2)) hoL
  have pn : ss.Perm (es.toList.map txtOf) := a2.trans pk
  refine wpAny_pure ⟨_, rfl, hQ _ s1.heap.objs.size _ c ss (fun b u e => ?_) g1 o1 hz hc a1 a3 (pn.nodup_iff.mpr nd) (fun k => by rw [pn.mem_iff, ← hm k]) ?_⟩
  · have q := k1 b u e
    have hlt := Heap.lt_size q
    show (sortedHeap (s1.heap.push (seqObj "list" vs.toArray 0)) s1.heap.objs.size vs _).get? b = some u
    rw [sortedHeap_old (Nat.ne_of_lt hlt) (by rw [size_push']; exact Nat.lt_succ_of_lt hlt)]
    exact Heap.get?_push_of_some _ q
  · rw [pn.length_eq, List.length_map, Array.length_toList]; exact hn
end
/-- the set of texts at a -/
def TxO (w : World) (a : Addr) (S : Str → Bool) (n : Nat) : HO := .ext fun h => TxS w h a S n
def rSetS (w : World) : List V → Hp → VK → Prop := fun xs H Q => ∃ x : Str, xs = [.str x] ∧ x.cps.size < 1000 ∧ ∀ p c, H p = none → c ≤ x.cps.size → Q (.ref p) (upd H p (TxO w p (fun j => decide (j ∈ x.cps.toList.map sg)) c))
def rSortTx (w : World) : List V → Hp → VK → Prop := fun xs H Q => ∃ (a : Addr) (S : Str → Bool) (n : Nat), xs = [.ref a] ∧ H a = some (TxO w a S n) ∧ n < 1000 ∧
  ∀ (ss : List Str) (p : Addr), sortedS ss = true → ss.Nodup → (∀ k, k ∈ ss ↔ S k = true) → ss.length = n → H p = none → Q (.ref p) (upd H p (.lst (ss.map V.str)))
section
variable {X : Cx}
theorem cr_setS (hc : X.calm = true) : CallR X (.type "set") (rSetS X.w) := by
  intro pins s σ H xs us Q I r h
  obtain ⟨x, rfl, hx, q⟩ := h
  obtain ⟨u, rfl, t, rfl⟩ := vals1 r
  have hn : H s.heap.objs.size = none := I.hok.fresh (Nat.le_refl _)
  refine call_set_str (P := X.prog) (w := X.w) (I.ok.hd hc) (by unfold scanBound; omega) fun h' tk c R hcl k => ?_
  refine ⟨.ref s.heap.objs.size, upd H s.heap.objs.size (TxO X.w s.heap.objs.size _ c), I.laid (t' := tk) k (Nat.le_refl _) ?_, rfl, q _ c hn hcl⟩
  have ⟨o, _, _, _, ho, _⟩ := R
  exact ⟨R, ⟨o, ho⟩, fun h1 h2 p k => TxS.at p k⟩
theorem cr_sortTx (hc : X.calm = true) : CallR X (.builtin "sorted") (rSortTx X.w) := by
  intro pins s σ H vs us Q I r h
  obtain ⟨a, S, n, rfl, ha, hn, q⟩ := h
  have R : TxS X.w s.heap a S n := (I.hok a _ ha).1
  rw [Vals.ref1 r]
  refine sorted_txs R (I.ok.hd hc) fun s' p out c ss k g o hp hg hi h1 h2 h3 h4 => ?_
  have hlen : (ss.map V.str).length ≤ sizeLine := by rw [List.length_map, h4, sizeLine_eq]; omega
  have hnp : H p = none := I.hok.fresh hp
  have J : Inv X pins σ (upd H p (.lst (ss.map V.str))) { s with heap := s'.heap, gens := s'.gens, drawn := s'.drawn, toks := s'.toks } :=
    I.call (ch := []) (Un.laid k hp hnp) (I.hok.laid k hp ⟨hlen, out.toList, c, vals_of_strs hi, hg⟩) (by rw [g]; exact I.bare) (fun _ z => nomatch z)
  have e : s' = { s with heap := s'.heap, gens := s'.gens, drawn := s'.drawn, toks := s'.toks } := by
    cases s'
    cases s
    cases o
    rfl
  rw [e]
  exact ⟨.ref p, _, J, rfl, q ss p h1 h2 h3 h4 hnp⟩
end
section
variable {X : Cx} {T : List TQ} {B : Bs} {ρ ρ1 : Sl} {W : List Addr} {a : Expr} {pos pos2 p p2 : Pos}
/-- sorted(set(a text)) -/
theorem eo_sortSet {z : Str} {ys : List Str} (hc : X.calm = true) (hg : Gl X "sorted") (hm : X.mg "sorted" = none) (hg2 : Gl X "set") (hm2 : X.mg "set" = none) (ha : EX X T B ρ a W ρ1 (.str z)) (hz : z.cps.size < 1000)
    (hy : ∀ ss : List Str, sortedS ss = true → ss.Nodup → (∀ k, k ∈ ss ↔ k ∈ z.cps.toList.map sg) → ss = ys)
    (he : starEach [.Call (.Name "set" p2) [a] [] pos2] X.env = (false, eval (.Call (.Name "set" p2) [a] [] pos2) X.env) :: starEach [] X.env := by rfl) (he2 : starEach [a] X.env = (false, eval a X.env) :: starEach [] X.env := by rfl) :
    EO X T B ρ (.Call (.Name "sorted" p) [.Call (.Name "set" p2) [a] [] pos2] [] pos) W ρ1 (ys.map .str) :=
  ⟨PE.imp (Call1.run (c1b (p := p) (cr_sortTx hc) hg hm (by decide +kernel) (he := he)) (pa_cons (Call1.run (c1t (p := p2) (cr_setS hc) hg2 hm2 (by decide +kernel) (he := he2)) (pa_cons ha.run pa_nil he2)) pa_nil he)) fun σ H Q ⟨S, q⟩ => ⟨S, fun v H' S' f r1 => ⟨z, by rw [str_of r1], hz, fun p0 c n0 hcl => ⟨p0, _, c, rfl, upd_same, by omega, fun ss p1 h1 h2 h3 h4 n1 => by
    have e : ss = ys := hy ss h1 h2 fun k => (h3 k).trans (by simp)
    subst e
    have S2 := S'.new (o := TxO X.w p0 (fun j => decide (j ∈ z.cps.toList.map sg)) c) n0
    exact q p1 _ _ (free_H0 S2 n1) (sim_add S2 n1 rfl) ((f.transN (Fx.new n0)).transN (Fx.new n1)) upd_same (S2.free n1) (RpA.of_strs _)⟩⟩⟩, ha.own, ha.sub⟩
end
end Dv

set_option maxRecDepth 100000
set_option maxHeartbeats 2000000
namespace Dv
open PySem PySem.Spec PyProof.Rows L2
/-! ### a token is out -/
def SXsT (X : Cx) (T : List TQ) (B : Bs) (ρ : Sl) (st : List Stmt) (k : DE) : Prop := PSsT X st (TSd X.K T B ρ k)
theorem execs_one (st : Stmt) (env : Env) : execs [st] env = exec st env := by
  show (exec st env >>= fun f => match f with | .next => (pure .next : Sem Flow) | f => pure f) = exec st env
  have : (fun f : Flow => match f with | .next => (pure .next : Sem Flow) | f => pure f) = pure := by
    funext f; cases f <;> rfl
  rw [this, bind_pure]
section
variable {X : Cx} {T : List TQ} {B : Bs} {ρ ρ1 : Sl} {W : List Addr} {e : Expr} {d : D} {pos : Pos} {k : DE} {st : Stmt} {r : List Stmt}
theorem PSsT.imp {t t' : TS} (h : PSsT X r t) (i : ∀ E σ H, t' E σ H → t E σ H) : PSsT X r t' := fun pins s σ H D h0 I q => h pins s σ H D h0 I (i _ _ _ q)
theorem SXs.t (h : SXs X T B ρ r k) : SXsT X T B ρ r k := PSsT.of h
/-- one statement, then the rest with a token out -/
theorem sxT_cons (M : Sl → Prop) (h : SXs X T B ρ [st] { k with nx := M }) (hr : ∀ ρ', M ρ' → SXsT X T B ρ' r k) : SXsT X T B ρ (st :: r) k := by
  have h1 : PST X st (TSd X.K T B ρ { k with nx := M }) := fun pins s σ H D _ I q => by
    have z := PSs.run h pins s σ H D I q
    rw [execs_one] at z
    exact z
  have h2 : PSsT X r (fun E σ H => ∃ ρ', M ρ' ∧ TSd X.K T B ρ' k E σ H) := fun pins s σ H D h0 I ⟨ρ', m, q⟩ => hr ρ' m pins s σ H D h0 I q
  exact PSsT.imp (psst_cons h1 h2) fun E σ H ⟨S, q1, q2, q3, q4, q5⟩ => ⟨S, fun ρ' σ' H' m S' => ⟨ρ', m, S', q1, q2, q3, q4, q5⟩, q2, q3, q4, q5⟩
end
section
variable {X : Cx} {pins : List (Addr × Obj)} {σ : L2.St} {H : Hp} {s : Shared}
/-- a captured name is stored: its cell is written -/
theorem inv_cell {i : Nat} {x : Str} {v : V} {u : Value} {c : Addr} {h' : Heap} (I : Inv X pins σ H s) (hN : X.N.Nodup) (hi : X.N[i]? = some x) (hk : X.env.kindOf x = some .cell) (hfn : X.fn x = true) (hc : X.env.cells.lookup x = some c) (r : RelV v u)
    (hc' : h'.IsCell c (some u)) (hs : Heap.SameBut c s.heap h') : Inv X pins (σ.set i (some v)) H { s with heap := h' } := by
  obtain ⟨m, hn, hl⟩ := id I.loc
  have hiσ : i < σ.length := by rw [I.len]; exact (List.getElem?_eq_some_iff.mp hi).1
  obtain ⟨w', z⟩ := I.cell x c hc
  obtain ⟨oc, hoc, hocd⟩ := id z
  have far : ∀ b o, X.s_0.heap.get? b = some o → b ≠ c := fun b o e => Nat.ne_of_lt (Nat.lt_of_lt_of_le (Heap.lt_size e) (I.ok.cab x c hfn hc))
  have nH : H c = none := I.freeC x c hc
  refine ⟨I.ok, I.os, I.bare, ⟨fun b o e n hb hx => (hs.2 b (far b o e)).trans (I.base.keep b o e n hb hx), fun b o e n hb hx => ?_, I.base.free, fun b o e hx => ?_, I.base.tups, I.base.frzs, I.base.tbls⟩, ⟨m, hn.sameBut hs (Ne.symm (I.cne x c hc)), fun j y v' e1 e2 e3 => ?_⟩, fun y c' e => ?_, I.free, I.freeC, fun p hp => ?_, ?_, by simpa using I.len⟩
  · obtain ⟨sl, e1⟩ := I.base.slot b o e n hb hx
    exact ⟨sl, (hs.2 b (far b o e)).trans e1⟩
  · obtain ⟨o', e1⟩ := I.base.there b o e hx
    exact ⟨o', (hs.2 b (far b o e)).trans e1⟩
  · by_cases hj : j = i
    · subst hj
      rw [hi] at e1; cases e1
      rw [List.getElem?_set_self hiσ] at e2
      cases e2
      exact ⟨u, r, .inr ⟨.inl hk, c, hc, hc'⟩⟩
    · rw [List.getElem?_set_ne (Ne.symm hj)] at e2
      obtain ⟨u', r', q⟩ := hl j y v' e1 e2 e3
      refine ⟨u', r', ?_⟩
      rcases q with q | ⟨k, c2, e, z2⟩
      · exact .inl q
      · refine .inr ⟨k, c2, e, z2.sameBut hs ?_⟩
        rintro rfl
        exact hj (nodup_ix hN e1 (I.ok.inj _ _ _ e hc ▸ hi))
  · by_cases hcc : c' = c
    · subst hcc; exact ⟨_, hc'⟩
    · obtain ⟨w2, z2⟩ := I.cell y c' e
      exact ⟨w2, z2.sameBut hs hcc⟩
  · obtain ⟨e, n, ne, nf, d⟩ := I.pin p hp
    refine ⟨(hs.2 p.1 ?_).trans e, n, ne, nf, d⟩
    intro q
    rw [q, hoc] at e
    have q' : oc = p.2 := Option.some.inj e
    exact d w' (by rw [← q']; exact hocd)
  · intro b ob e
    refine (I.hok b ob e).stay (fun d w2 hd q => (hs.2 d ?_).trans q) (fun _ q => q) fun _ _ q => q
    rintro rfl
    rcases hd with rfl | hd
    · rw [nH] at e; cases e
    · rw [nH] at hd; cases hd
/-- a name of the def is stored: a token is out -/
theorem store_T {M : Model} {A : Around} {E : Value → Shared → Prop} {i : Nat} {x : Str} {v : V} {u : Value} {Q : Unit → Shared → Prop} (I : Inv X pins σ H s) (hN : X.N.Nodup) (hi : X.N[i]? = some x) (hk : X.env.scope.names.lookup x = some .local) (r : RelV v u)
    (h : ∀ s', 1 ≤ s'.toks → Inv X pins (σ.set i (some v)) H s' → Q () s') : wpAny M A (storeName X.env x u) Q E s := by
  obtain ⟨m, hn, hl⟩ := id I.loc
  have hiσ : i < σ.length := by rw [I.len]; exact (List.getElem?_eq_some_iff.mp hi).1
  have hcls : (X.env.scope.kind == .class || (X.env.scope.kind == .module && X.env.locals != X.env.globals)) = false := by rw [I.ok.kind]; rfl
  have far : ∀ b o, X.s_0.heap.get? b = some o → b ≠ X.env.locals := fun b o e => Nat.ne_of_lt (Nat.lt_of_lt_of_le (Heap.lt_size e) I.ok.above)
  refine wpAny_storeName_local hk hn (fun h' hn' hs => ?_) hcls
  refine h _ (Nat.succ_le_succ (Nat.zero_le _)) ⟨I.ok, I.os, I.bare, ⟨fun b o e n hb hx => (hs.2 b (far b o e)).trans (I.base.keep b o e n hb hx), fun b o e n hb hx => ?_, I.base.free, fun b o e hx => ?_, I.base.tups, I.base.frzs, I.base.tbls⟩, ⟨_, hn', fun j y v' e1 e2 e3 => ?_⟩, fun y c e => ?_, I.free, I.freeC, fun p hp => ?_, ?_, by simpa using I.len⟩
  · obtain ⟨sl, e1⟩ := I.base.slot b o e n hb hx
    exact ⟨sl, (hs.2 b (far b o e)).trans e1⟩
  · obtain ⟨o', e1⟩ := I.base.there b o e hx
    exact ⟨o', (hs.2 b (far b o e)).trans e1⟩
  · by_cases hj : j = i
    · subst hj
      rw [hi] at e1; cases e1
      rw [List.getElem?_set_self hiσ] at e2
      cases e2
      exact ⟨u, r, .inl ⟨hk, by simp⟩⟩
    · rw [List.getElem?_set_ne (Ne.symm hj)] at e2
      obtain ⟨u', r', q⟩ := hl j y v' e1 e2 e3
      refine ⟨u', r', ?_⟩
      rcases q with ⟨k, e⟩ | ⟨k, c, e, z⟩
      · refine .inl ⟨k, ?_⟩
        have : y ≠ x := fun e => hj (nodup_ix hN e1 (e ▸ hi))
        simp [this, e]
      · exact .inr ⟨k, c, e, z.sameBut hs (I.cne y c e)⟩
  · obtain ⟨w', z⟩ := I.cell y c e
    exact ⟨w', z.sameBut hs (I.cne y c e)⟩
  · obtain ⟨e, n, ne, nf, d⟩ := I.pin p hp
    exact ⟨(hs.2 p.1 ne).trans e, n, ne, nf, d⟩
  · obtain ⟨oL, _, _, hoL, _⟩ := id hn
    intro b ob e
    refine (I.hok b ob e).stay (fun d w2 hd q => (hs.2 d ?_).trans q) (fun _ q => q) fun _ _ q => q
    rintro rfl
    rcases hd with rfl | hd
    · rw [I.free] at e; cases e
    · rw [I.free] at hd; cases hd
end
section
variable {X : Cx} {T : List TQ} {B : Bs} {ρ ρ1 : Sl} {W : List Addr} {e : Expr} {d : D} {pos : Pos} {k : DE} {st : Stmt} {r : List Stmt} {x : Str}
/-- x = e, x the def's own: behind it a token is out -/
theorem sx_setT (i : Nat) {pos' : Pos} (hN : X.N.Nodup) (he : EX X T B ρ e W ρ1 d) (hr : SXsT X T B (ρ1.set i (.dat d)) r k) (hi : X.N[i]? = some x := by rfl) (hk : X.env.scope.names.lookup x = some .local := by rfl) (hl : i < ρ1.length := by exact Nat.le_of_ble_eq_true rfl)
    (hs : swapsWith e (some (.Name x pos')) pos.line X.env = pure false := by rfl) : SXs X T B ρ (.Assign [.Name x pos'] e pos :: r) k := by
  refine ⟨fun pins s σ H D I ⟨S, q⟩ => ?_⟩
  refine wpAny_execs_cons (wpAny_Assign_Name (thn (he.run.run pins s σ H (fun v H1 => ∃ σ', σ' = σ.set i (some v) ∧ TSd X.K T B (ρ1.set i (.dat d)) k D σ' H1) I ⟨S, fun v H1 S1 f1 rp => ⟨_, rfl, S1.set (fun _ _ z => by cases z) hl ⟨v, rfl, rp⟩, q⟩⟩) fun u s1 ⟨v, H1, I1, rv, σ', es, q1⟩ => ?_) hs)
  subst es
  exact store_T I1 hN hi hk rv fun s2 h0 I2 => hr pins s2 _ H1 D h0 I2 q1
end
end Dv

set_option maxRecDepth 100000
set_option maxHeartbeats 2000000
namespace Dv
open PySem PySem.Spec PyProof.Rows L2
/-- an ending of nothing but no exception -/
theorem lc_none {X : Cx} {T : List TQ} {B : Bs} {ρ : Sl} {pins : List (Addr × Obj)} {σ : L2.St} {H : Hp} {s : Shared} {z x : Str} {ix : Nat} {elt iter test : Expr} {scope : Scope} {px pos : Pos}
    (hc : X.calm = true) (hN : X.N.Nodup) (I : Inv X pins σ H s) (S : Sim X.K T B ρ σ H) (h0 : 1 ≤ s.toks) (hit : EX X T B ρ iter [] ρ (.str z)) (hasc : z.cps.all (· < 128) = true) (ok : BlkOk X.N X.env.scope scope [(x, ix)]) (hx : scope.names.lookup x = some .cell) (hno : noOwn ρ [ix] = true) (hil : ix < ρ.length)
    (htest : ∀ s3 H3 C cl fp pins' c t s8 H8, c ∈ z.cps.toList → t ≠ 0 → t < s8.toks → Inv (Bk X scope s3 H3 C cl fp) pins' ((wipe σ [ix]).set ix (some (.str (sg c)))) H8 s8 → Sim X.K T B ((wipeD ρ [ix]).set ix (.dat (sgD c))) ((wipe σ [ix]).set ix (some (.str (sg c)))) H8 →
      (∃ c0, (Bk X scope s3 H3 C cl fp).env.cells.lookup x = some c0 ∧ s8.heap.IsCell c0 (some (.str (sg c) t))) →
      wpAny (model X.prog X.w) X.A (isTrue test (Bk X scope s3 H3 C cl fp).env (eval test (Bk X scope s3 H3 C cl fp).env)) (fun b s9 => b = false ∧ ∃ H9, Inv (Bk X scope s3 H3 C cl fp) pins' ((wipe σ [ix]).set ix (some (.str (sg c)))) H9 s9 ∧
        Sim X.K T B ((wipeD ρ [ix]).set ix (.dat (sgD c))) ((wipe σ [ix]).set ix (some (.str (sg c)))) H9 ∧ Fx [] H8 H9) (fun _ _ => False) s8)
    (hs : ∀ x, foldedSetIterable iter X.env x = pure x) :
    wpAny (model X.prog X.w) X.A (eval (.ListComp elt [⟨.Name x px, iter, [test], 0⟩] scope pos) X.env) (fun v s' => ∃ D H', v = .ref D ∧ Inv X pins σ H' s' ∧ H' D = some (.lst []) ∧ Sim X.K T B ρ σ H' ∧ Fx [] H H') X.xe s := by
  have hfree : ∀ y ∈ scope.names, y.2 = .free → ∃ c, X.env.cells.lookup y.1 = some c := fun y hy e => by
    rcases ok.free y hy e with k | k
    · exact I.ok.has _ (.inl k)
    · exact I.ok.has _ (.inr k)
  rw [eval_ListComp]
  refine wpAny_comprehension_free (use := none) rfl hs (closure_ok hfree) ok.kind (fun y hy e => by rw [ok.uniq y hy, e])
    (wpAny_mono (PySem.wpAny_toks (hit.run.run pins s σ H (fun v H1 => v = .str z ∧ Sim X.K T B ρ σ H1 ∧ Fx [] H H1) I ⟨S, fun v H1 S1 f1 r1 => ⟨str_of r1, S1, f1⟩⟩)) (fun xv s1 hx1 => ?_) fun _ _ z => z.2)
  obtain ⟨hk1, v, H1, I1, rv, rfl, S1, f1⟩ := hx1
  obtain ⟨t0, rfl⟩ := rv
  have h01 : 1 ≤ s1.toks := Nat.le_trans h0 hk1
  refine wpAny_pyIter_ascii hasc ?_
  generalize hitE : s1.heap.objs.size = it
  generalize hs2 : ({ s1 with heap := s1.heap.push { cls := .type "str_ascii_iterator", data := .fields #[.str z t0, .int 0 0] } } : Shared) = s2
  have h2h : s2.heap = s1.heap.push { cls := .type "str_ascii_iterator", data := .fields #[.str z t0, .int 0 0] } := by rw [← hs2]
  have I2 : Inv X pins σ H1 s2 := by rw [← hs2]; exact I1.kept (t' := s1.toks) fun b o e => Heap.get?_push_of_some _ e
  have st2 : s2.heap.IsStrIter it "str_ascii_iterator" z t0 0 := by rw [h2h, ← hitE]; exact ⟨_, Heap.get?_push_size _ rfl, rfl, rfl⟩
  have n2 : H1 it = none := I1.hok.fresh (Nat.le_of_eq hitE)
  have f2 : FpOk X pins H1 it := I1.fpOk (Nat.le_of_eq hitE) n2
  have h02 : 1 ≤ s2.toks := by rw [← hs2]; exact h01
  refine wpAny_newObj_type (newEnv_comp ?_) (by show 0 ≤ sizeLine; decide)
  generalize hD : s2.heap.objs.size = D
  have hDn : H1 D = none := I2.hok.fresh (Nat.le_of_eq hD)
  have sz2 : s2.heap.objs.size = it + 1 := by rw [h2h, Heap.size_push, hitE]
  have itD : it ≠ D := by rw [← hD, sz2]; exact Nat.ne_of_lt (Nat.lt_succ_self it)
  generalize hs3 : ({ s2 with heap := s2.heap.push { cls := .type "list", data := .seq ([] : List Value).toArray } } : Shared) = s3
  have h3 : s3.heap = s2.heap.push { cls := .type "list", data := .seq ([] : List Value).toArray } := by rw [← hs3]
  have I3 : Inv X pins σ (upd H1 D (.lst [])) s3 := by
    rw [← hs3]
    refine I2.laid (t' := s2.toks) (fun b o e => Heap.get?_push_of_some _ e) (Nat.le_of_eq hD) ⟨Nat.zero_le _, [], 0, .nil, ?_⟩
    rw [← hD]
    exact Heap.get?_push_size _ rfl
  have f3 : ∀ b ∈ [it], FpOk X pins (upd H1 D (.lst [])) b ∧ b < s3.heap.objs.size := fun b hb => by
    have e := List.mem_singleton.mp hb
    subst e
    refine ⟨⟨by rw [upd_ne itD]; exact n2, f2.2⟩, ?_⟩
    rw [h3, Heap.size_push, sz2]
    exact Nat.lt_succ_of_lt (Nat.lt_succ_self b)
  have st3 : s3.heap.IsStrIter it "str_ascii_iterator" z t0 0 := by
    obtain ⟨o, e, r⟩ := st2
    exact ⟨o, by rw [h3]; exact Heap.get?_push_of_some _ e, r⟩
  have h03 : 1 ≤ s3.toks := by rw [← hs3]; exact h02
  have S3 : Sim X.K T B ρ σ (upd H1 D (.lst [])) := S1.new hDn
  have I4 := block_start I3 ok hN f3
  show codeAny _ _ (.compStart (.ListComp elt [⟨.Name x px, iter, [test], 0⟩] scope pos) 0 (.ref it) (.ref D) (compEnvC scope (cellsFrom (s3.heap.objs.size + 1) scope.names (cloFrom X.env.cells scope.names [])) s3.heap.objs.size X.env)) (compPost (model X.prog X.w) X.A X.xe none _ (.ref D) s3.heap.objs.size) { s3 with heap := pushCells (s3.heap.push { cls := .type "dict", data := .dict #[] }) scope.names }
  have ht := htest s3 (upd H1 D (.lst [])) s3.heap.objs.size (cellsFrom (s3.heap.objs.size + 1) scope.names (cloFrom X.env.cells scope.names [])) [it]
  have cL0 : (compEnvC scope (cellsFrom (s3.heap.objs.size + 1) scope.names (cloFrom X.env.cells scope.names [])) s3.heap.objs.size X.env).locals = s3.heap.objs.size := rfl
  have kx0 : (compEnvC scope (cellsFrom (s3.heap.objs.size + 1) scope.names (cloFrom X.env.cells scope.names [])) s3.heap.objs.size X.env).kindOf x = some .cell := lookup_relS_keep (by decide) hx
  have kf0 : (compEnvC scope (cellsFrom (s3.heap.objs.size + 1) scope.names (cloFrom X.env.cells scope.names [])) s3.heap.objs.size X.env).scope.kind = .function := ok.kind
  generalize hce : compEnvC scope (cellsFrom (s3.heap.objs.size + 1) scope.names (cloFrom X.env.cells scope.names [])) s3.heap.objs.size X.env = ce at I4 cL0 kx0 kf0 ⊢
  generalize hH3 : upd H1 D (.lst []) = H3 at I3 I4 f3 ht S3
  have hD3 : H3 D = some (.lst []) := by rw [← hH3]; exact upd_same
  have f13 : Fx [] H H3 := by rw [← hH3]; exact f1.transN (Fx.new hDn)
  have n3 : H3 it = none := (f3 it (by simp)).1.1
  generalize hs4 : ({ s3 with heap := pushCells (s3.heap.push { cls := .type "dict", data := .dict #[] }) scope.names } : Shared) = s4 at I4 ⊢
  have st4 : s4.heap.IsStrIter it "str_ascii_iterator" z t0 0 := by
    obtain ⟨o, e, r⟩ := st3
    exact ⟨o, by rw [← hs4]; exact pushCells_keeps _ _ _ _ (Heap.get?_push_of_some _ e), r⟩
  have h04 : 1 ≤ s4.toks := by rw [← hs4]; exact h03
  have Sw : Sim X.K T B (wipeD ρ [ix]) (wipe σ [ix]) H3 := sim_wiped S3
  have loop : codeAny (model X.prog X.w) X.A (.compLoop (.ListComp elt [⟨.Name x px, iter, [test], 0⟩] scope pos) 0 (.ref it) (.ref D) ce) (compPost (model X.prog X.w) X.A X.xe none (fun v s' => ∃ D H', v = .ref D ∧ Inv X pins σ H' s' ∧ H' D = some (.lst []) ∧ Sim X.K T B ρ σ H' ∧ Fx [] H H') (.ref D) s3.heap.objs.size) s4 := by
    refine compLoop_any (fun n s' => ∃ i H', n = z.cps.size - i ∧ 1 ≤ s'.toks ∧ Inv (X.blk s3 H3 scope ce [it]) [] (wipe σ [ix]) H' s' ∧ s'.heap.IsStrIter it "str_ascii_iterator" z t0 i ∧ H' it = none ∧ Sim X.K T B (wipeD ρ [ix]) (wipe σ [ix]) H' ∧ Fx [] H3 H') ?_ z.cps.size ⟨0, H3, (by simp), h04, I4, st4, n3, Sw, Fx.refl _ _⟩
    rintro n s5 ⟨i, H5, rfl, h05, I5, st5, n5, S5, f5⟩
    have fpo : ∀ b ∈ [it], FpOk (X.blk s3 H3 scope ce [it]) [] H5 b := fun b hb => by
      have e := List.mem_singleton.mp hb
      subst e
      exact ⟨n5, (I5.ok.exf b hb).1, I5.ok.exfs b hb, .inl hb, fun y c e => (I5.ok.exf b hb).2 y c e, fun p hp => absurd (show p ∈ ([] : List (Addr × Obj)) ++ [] from hp) (by simp)⟩
    obtain ⟨g0, g1, g2, g3, g4, g5⟩ := fpo it (by simp)
    by_cases hlt : i < z.cps.size
    · have hci : z.cps[i]? = some z.cps[i] := Array.getElem?_eq_getElem hlt
      have hcm : z.cps[i] ∈ z.cps.toList := by simp
      refine wpAny_pyNext_ascii_item st5 hci fun h6 st6 sb6 => ?_
      have I6 : Inv (X.blk s3 H3 scope ce [it]) [] (wipe σ [ix]) H5 { s5 with heap := h6, toks := s5.toks + 1 } := I5.turned (fun b o hb e => (sb6.2 b hb).trans e) g0 g1 g3 g4 g5
      obtain ⟨oi, e6, c6, d6⟩ := id st6
      refine go_of (s := { s5 with heap := h6, toks := s5.toks + 1 }) e6 c6 d6 (by decide) ?_
      have I6p := I6.pinned (fp := [it]) (fun b hb => by
        have e := List.mem_singleton.mp hb
        subst e
        exact ⟨g0, g1, g2, g3, g4, g5⟩) (fun b hb => by
        have e := List.mem_singleton.mp hb
        subst e
        exact ⟨oi, e6, fun v q => by rw [d6] at q; cases q⟩)
      -- the name is stored
      have hkx : (X.blk s3 H3 scope ce [it]).env.kindOf x = some .cell := kx0
      have hfn : (X.blk s3 H3 scope ce [it]).fn x = true := by
        show (scope.names.lookup x == some NameKind.cell) = true
        rw [hx]; rfl
      obtain ⟨c0, hc0⟩ := I6p.ok.has x (.inl hkx)
      obtain ⟨w0, z0⟩ := I6p.cell x c0 hc0
      have hix : (X.blk s3 H3 scope ce [it]).N[ix]? = some x := ok.ix (x, ix) (by simp)
      refine wpAny_assign_Name (wpAny_storeName_cell kf0 hkx hc0 z0 fun h7 hc7 sb7 => ?_)
      have I7 := inv_cell (v := .str (sg z.cps[i])) I6p hN hix hkx hfn hc0 ⟨s5.toks, rfl⟩ hc7 sb7
      have hilw : ix < (wipeD ρ [ix]).length := by rw [wipeD_length]; exact hil
      have S7 : Sim X.K T B ((wipeD ρ [ix]).set ix (.dat (sgD z.cps[i]))) ((wipe σ [ix]).set ix (some (.str (sg z.cps[i])))) H5 := S5.set (i := ix) (v := .str (sg z.cps[i])) (s := .dat (sgD z.cps[i])) (fun _ _ y => by cases y) hilw ⟨_, rfl, .str _⟩
      subst hce
      refine wpAny_tests_one ?_
      refine wpAny_mono (PySem.wpAny_toks (ht _ z.cps[i] s5.toks _ H5 hcm (Nat.ne_of_gt h05) (Nat.lt_succ_self _) I7 S7 ⟨c0, hc0, hc7⟩)) (fun b s9 hb => ?_) fun _ _ q => False.elim q.2
      obtain ⟨hk9, rfl, H9, I9, S9, f9⟩ := hb
      have hk9 : s5.toks + 1 ≤ s9.toks := hk9
      simp only [Bool.false_eq_true, if_false]
      have pin9 := I9.pin (it, oi) (List.mem_append_right _ (List.mem_append_right _ (mem_pinsAt (by simp) e6)))
      refine ⟨z.cps.size - (i + 1), by omega, i + 1, H9, rfl, by omega, (I9.unpinned (pins := [])).weak (by rw [List.length_set]) (fun j v e => ?_), ⟨oi, pin9.1, c6, d6⟩, pin9.2.1, ?_, f5.transN f9⟩
      · by_cases ej : ix = j
        · subst ej
          exact absurd List.mem_cons_self (wipe_some e).2
        · rw [List.getElem?_set_ne ej]; exact e
      · have q := sim_wiped (vs := [ix]) S9
        have e1 : wipeD ((wipeD ρ [ix]).set ix (.dat (sgD z.cps[i]))) [ix] = wipeD ρ [ix] := by
          show ((wipeD ρ [ix]).set ix _).set ix .un = _
          rw [List.set_set]
          show (ρ.set ix .un).set ix .un = ρ.set ix .un
          rw [List.set_set]
        have e2 : wipe ((wipe σ [ix]).set ix (some (.str (sg z.cps[i])))) [ix] = wipe σ [ix] := by
          show ((wipe σ [ix]).set ix _).set ix none = _
          rw [List.set_set]
          show (σ.set ix none).set ix none = σ.set ix none
          rw [List.set_set]
        rw [e1, e2] at q
        exact q
    · refine wpAny_pyNext_ascii_end (by exact I5.ok.hd hc) st5 (Array.getElem?_eq_none (by omega)) fun h6 eb => ?_
      have I6 : Inv (X.blk s3 H3 scope ce [it]) [] (wipe σ [ix]) H5 { s5 with heap := h6 } := I5.turned (t' := s5.toks) (fun b o hb e => eb b o hb e) g0 g1 g3 g4 g5
      have I7 : Inv X pins σ H5 { s5 with heap := h6 } := I3.call' (ch := [it]) I6.os I6.base I6.hok I6.bare fun b hb => ⟨(f3 b hb).1.2.2.2.1, (f3 b hb).1.2.1, (f3 b hb).1.2.2.2.2.1, (f3 b hb).1.2.2.2.2.2⟩
      have nC : H5 s3.heap.objs.size = none := by
        have q : H5 ce.locals = none := I6.free
        rw [cL0] at q
        exact q
      obtain ⟨m, hn, _⟩ := I6.loc
      have hn : h6.Ns ce.locals m := hn
      rw [cL0] at hn
      refine ⟨m, hn, fun h'' sb => ?_⟩
      obtain ⟨k0, k1, k2, k3, k4, k5⟩ := I3.fpOk (H' := H5) (Nat.le_refl _) nC
      exact ⟨D, H5, rfl, I7.turned (t' := s5.toks) (fun b o hb e => (sb.2 b hb).trans e) k0 k1 k3 k4 k5, f5 D _ rfl (by simp) hD3, sim_grow2 S3 f5.kpN S5.tabs S5.dom, f13.transN f5⟩
  exact codeAny_compStart_list loop (wpAny_pyIter_striter_ascii st4 loop)
end Dv

set_option maxRecDepth 100000
set_option maxHeartbeats 2000000
namespace Dv
open PySem PySem.Spec PyProof.Rows L2
/-! ### def f(text, sign): return text.replace(sign, '') -/
/-- its promise, of raw arguments -/
def WoRun (P : Program) (w : World) (K : PySem.W.Frag) (mg : Str → Option Value) (base : Heap) (k : Nat) (f : Addr) : Prop :=
  ∀ (CX : CXT) (A : Around) (outer : List Env) (s : Shared) (H : Hp) (x : Str) (c : Nat) (tx t : Tok) (Q : VK) (E : XK), Room k A → Env0 P w K mg base A outer s H → t ≠ 0 → t < s.toks → x.length ≤ 1000 →
    Q (.str (Txt.replace x (sg c) "")) H → codeAny (model P w) A (.call (.ref f) ⟨[.str x tx, .str (sg c) t], []⟩) (CR CX outer P w H s Q E) s
theorem wo_run {P : Program} {w : World} {K : PySem.W.Frag} {mg : Str → Option Value} {base : Heap} {k : Nat} {f : Addr} {name qual : Str} {params : Arguments} {scope : Scope} {dV kV doc pm cdv ct oc : Value} {an od : Option Addr}
    {osl : Array (Option Value)} {N : List Str} {p1 p2 p3 apos cpos rpos : Pos} {j : Nat} {a0 a1 : Str} {body : List Stmt} (hbd : body = [.Return (some (.Call (.Attribute (.Name a0 p1) "replace" apos) [.Name a1 p2, .Constant (.str "") j p3] [] cpos)) rpos])
    (lk : K.lookup f = some ⟨oc, od, .func (PySem.W.fnOf name qual params body scope dV kV doc pm an cdv ct), osl⟩) (hcd : PySem.W.codeIn K cdv qual = true) (S : FnScope N [a0, a1] scope)
    (hb : Binds K (PySem.W.fnOf name qual params body scope dV kV doc pm an cdv ct) [a0, a1] [])
    (h0 : scope.names.lookup a0 = some .local) (h1 : scope.names.lookup a1 = some .local)
    (d0 : (a0 == ("__debug__" : Str)) = false) (d1 : (a1 == ("__debug__" : Str)) = false) (hline : (apos.endLine == cpos.line) = true) : WoRun P w K mg base (k + 1) f := by
  intro CX A outer s H x c tx t Q E hr e0 ht htk hxl q
  subst hbd
  have KX : K.In s.heap := e0.mod.kin.keeps fun b o e => (e0.bs b o e).1
  have lim : s.heap.NoLimit := e0.mod.nolimit.keeps fun b o e => (e0.bs b o e).1
  have hkind : ∀ v ∈ [a0, a1].zip [Value.str x tx, .str (sg c) t], scope.names.lookup v.1 = some .local ∨ (scope.names.lookup v.1 = some .cell ∧ ((cellsFrom (s.heap.objs.size + 1) scope.names []).lookup v.1).isSome = true) := fun ⟨n, v⟩ hy => by
    rcases S.par n (List.of_mem_zip hy).1 with q | q
    · exact .inl q
    · exact .inr ⟨q, PySem.W.cellsFrom_some _ _ _ (.inl q)⟩
  refine codeAny_call_function hr.depth (KX _ _ lk) rfl S.co S.gen rfl (PySem.W.codeRec_of KX hcd) ((show BindsTo s _ ⟨[.str x tx, .str (sg c) t], []⟩ ([a0, a1].zip [Value.str x tx, .str (sg c) t]) from hb s [.str x tx, .str (sg c) t] KX rfl) _ _ _ _ ?_)
  refine PySem.wpAny_with_toks (n := s.toks) (Nat.le_refl _) (wpAny_newFunctionEnv_cells S.kind hkind fun env he s1 xx hk1 => ?_)
  subst he
  refine ⟨lim.keeps xx.toInCall.keep, codeAny_func ?_⟩
  have rv : Vals [V.str x, .str (sg c)] [Value.str x tx, .str (sg c) t] := .cons ⟨tx, rfl⟩ (.cons ⟨t, rfl⟩ .nil)
  have I : Inv (cxOf CX P w K mg base N qual scope f cdv A outer s H E) [] (start N [.str x, .str (sg c)]) H s1 := inv_start S hr.hd e0 rfl rv xx
  have hn := xx.toInCall.ns
  have nd : [a0, a1].Nodup := by
    have e : [a0, a1] = N.take 2 := S.pre.symm
    rw [e]
    exact S.nd.sublist (List.take_sublist _ _)
  have m0 := bindL_get (kindOf := (envOfC qual scope s.heap.objs.size f cdv).kindOf) (x := a0) (v := Value.str x tx) (P := [a0, a1]) (vs := [.str x tx, .str (sg c) t]) (i := 0) (m := fun _ => none) nd rfl rfl h0
  have m1 := bindL_get (kindOf := (envOfC qual scope s.heap.objs.size f cdv).kindOf) (x := a1) (v := Value.str (sg c) t) (P := [a0, a1]) (vs := [.str x tx, .str (sg c) t]) (i := 1) (m := fun _ => none) nd rfl rfl h1
  have fin : ∀ {σ' : L2.St} {H' : Hp} {v : V} {r : Value} {s' : Shared}, Inv (cxOf CX P w K mg base N qual scope f cdv A outer s H E) [] σ' H' s' → RelV v r → Q v H' → CE outer P w H s Q r s' :=
    fun {σ' H' v r s'} J rv q => ⟨v, H', J.os, J.bare, J.base, J.hok, rv, q⟩
  refine wpAny_execs_cons (wpAny_Return_some (PySem.Call_method2 rfl rfl hline (wpAny_Name (wpAny_loadName_local S.kind h0 hn m0 ?_) d0)))
  refine ⟨"str", _, F.plainAttrs_str, F.slot_str_replace, F.type_str_replace, typeIs_str _ _ _, (fun _ e => nomatch e), Calls.callWith_builtin rfl (Calls.evalArgs_plain (Calls.spliced_cons ?_))⟩
  refine wpAny_Name (wpAny_loadName_local S.kind h1 hn m1 ?_) d1
  refine Calls.spliced_cons (Calls.Constant_str ?_)
  refine Calls.spliced_nil ?_
  have hyz : (sg c == ("" : Str)) = false := by
    refine beq_eq_false_iff_ne.mpr fun e => ?_
    have := congrArg (fun y : Str => y.cps.toList.length) e
    cases this
  have hb16 : x.length + (x.length + 1) * ("" : Str).length ≤ 16777216 := by
    show x.length + (x.length + 1) * 0 ≤ 16777216
    omega
  have hp0 : 0 < t := Nat.pos_of_ne_zero ht
  have hp1 : t < s1.toks := Nat.lt_of_lt_of_le htk hk1
  exact PySem.SC.replace (s := { s1 with toks := s1.toks + 1 }) ht (Nat.ne_of_gt (Nat.lt_trans hp0 hp1)) (Nat.ne_of_lt hp1) hyz hb16 fun t' k => fin (v := V.str (Txt.replace x (sg c) "")) (r := Value.str (Txt.replace x (sg c) "") t') (I.tok k) ⟨t', rfl⟩ q
section
variable {X : Cx} {T : List TQ} {B : Bs} {ρ : Sl} {pins : List (Addr × Obj)} {σ : L2.St} {H : Hp} {s : Shared} {k : Nat} {f : Addr}
/-- f(text, sign) != e, both alike; the sign's object known -/
theorem wo_test {fx xa xo z : Str} {c ia : Nat} {t : Tok} {c0 : Addr} {pf p1 p2 pos cpos : Pos} {e : Expr} {E : Value → Shared → Prop} (R : WoRun X.prog X.w X.K X.mg X.base k f) (hr : Room k X.A) (hgl : Gl X fx) (hm : X.mg fx = some (.ref f)) (hk : PySem.W.keepIn X.K (.ref f) = true)
    (I : Inv X pins σ H s) (S : Sim X.K T B ρ σ H) (ht0 : t ≠ 0) (ht1 : t < s.toks) (hz : z.length ≤ 1000) (ha : ρ[ia]? = some (.dat (.str z))) (hNa : X.N[ia]? = some xa) (hva : Vis X.env.scope xa) (hko : X.env.kindOf xo = some .cell) (hc0 : X.env.cells.lookup xo = some c0) (hcell : s.heap.IsCell c0 (some (.str (sg c) t)))
    (rhs : EX X T B ρ e [] ρ (.str (Txt.replace z (sg c) ""))) (hxe : X.xe = fun _ _ => False) (hdf : (fx == ("__debug__" : Str)) = false := by decide) (hda : (xa == ("__debug__" : Str)) = false := by decide) (hca : (xa == ("__classdict__" : Str)) = false := by decide) (hdo : (xo == ("__debug__" : Str)) = false := by decide) :
    wpAny (model X.prog X.w) X.A (isTrue (.Compare (.Call (.Name fx pf) [.Name xa p1, .Name xo p2] [] pos) [.NotEq] [e] cpos) X.env (eval (.Compare (.Call (.Name fx pf) [.Name xa p1, .Name xo p2] [] pos) [.NotEq] [e] cpos) X.env)) (fun b s9 => b = false ∧ ∃ H9, Inv X pins σ H9 s9 ∧ Sim X.K T B ρ σ H9 ∧ Fx [] H H9) (fun _ _ => False) s := by
  refine wpAny_isTrue_Compare1 ?_ (nomark _)
  obtain ⟨va, q1, q2⟩ := S.at_ ia _ ha
  have hσa : σ[ia]? = some (some (.str z)) := by
    have := slot_of (K := X.K) (H := H) q1
    rw [this, str_of q2]
  refine wpAny_Call_Name_kw (ld_glob I hgl hm ?_ hdf)
  refine PySem.W.callWith_K (h₀ := X.base) I.ok.mod.kin hk ?_ rfl rfl
  show wpAny _ _ (spliced ((false, eval (.Name xa p1) X.env) :: backTo pos (starEach [.Name xo p2] X.env))) _ _ s
  refine Calls.spliced_cons (raw_name hNa hva I hσa (fun v r => ?_) hda hca)
  obtain ⟨tx, rfl⟩ := r
  show wpAny _ _ (spliced ((false, eval (.Name xo p2) X.env) :: backTo pos (starEach [] X.env))) _ _ _
  refine Calls.spliced_cons (wpAny_Name (wpAny_loadName_cell I.ok.kind hko hc0 hcell ?_) hdo)
  refine Calls.spliced_nil ?_
  refine ⟨I.kIn, wpAny_call (codeAny_mono (R (fun _ _ _ _ _ _ => False) X.A X.stack s H z c tx t (fun v H' => v = .str (Txt.replace z (sg c) "") ∧ H' = H) (fun _ _ _ => False) hr I.env0 ht0 ht1 hz ⟨rfl, rfl⟩) fun r s' hq => ?_)⟩
  cases r with
  | error e => exact hq.elim
  | ok fl =>
    cases fl with
    | ret u =>
      obtain ⟨v, H1, I1, rv, ev, eH⟩ := I.after hq
      subst ev eH
      have hx2 : ∀ {α : Type} {t' : Sem α} {Q' : α → Shared → Prop} {s' : Shared}, wpAny (model X.prog X.w) X.A t' Q' X.xe s' → wpAny (model X.prog X.w) X.A t' Q' (fun _ _ => False) s' := fun h => by rw [hxe] at h; exact h
      refine hx2 (thn (rhs.run.run pins s' σ H1 (fun v2 H2 => v2 = .str (Txt.replace z (sg c) "") ∧ Sim X.K T B ρ σ H2 ∧ Fx [] H1 H2) I1 ⟨S, fun v2 H2 S2 f2 r2 => ⟨str_of r2, S2, f2⟩⟩) fun u2 s2 ⟨v2, H2, I2, rv2, ev2, S2, f2⟩ => ?_)
      subst ev2
      refine hx2 (thn (op_ne pins s2 σ H2 _ _ u u2 (fun b H3 => b = .bl false ∧ H3 = H2) I2 rv rv2 ⟨rfl, by simp⟩) fun w3 s3 ⟨b, H3, I3, rb, eb, eH⟩ => ?_)
      subst eb eH
      have rb : w3 = .bool false := rb
      subst rb
      exact wpAny_truthy_bool ⟨rfl, H3, I3, S2, f2⟩
    | next => exact hq.elim
    | brk => exact hq.elim
    | cont => exact hq.elim
/-- if [.. of a text, none passing] != []: .. -/
theorem sxT_none {x z : Str} {ix : Nat} {elt iter test : Expr} {scope : Scope} {px pos p3 p4 p5 : Pos} {body r : List Stmt} {kd : DE} {n : Nat} (hr : Room n X.A) (hc : X.calm = true) (hN : X.N.Nodup) (hit : EX X T B ρ iter [] ρ (.str z)) (hasc : z.cps.all (· < 128) = true) (ok : BlkOk X.N X.env.scope scope [(x, ix)]) (hx : scope.names.lookup x = some .cell) (hno : noOwn ρ [ix] = true) (hil : ix < ρ.length)
    (htest : ∀ (σ : L2.St) s3 H3 C cl fp pins' c t s8 H8, c ∈ z.cps.toList → t ≠ 0 → t < s8.toks → Inv (Bk X scope s3 H3 C cl fp) pins' ((wipe σ [ix]).set ix (some (.str (sg c)))) H8 s8 → Sim X.K T B ((wipeD ρ [ix]).set ix (.dat (sgD c))) ((wipe σ [ix]).set ix (some (.str (sg c)))) H8 →
      (∃ c0, (Bk X scope s3 H3 C cl fp).env.cells.lookup x = some c0 ∧ s8.heap.IsCell c0 (some (.str (sg c) t))) →
      wpAny (model X.prog X.w) X.A (isTrue test (Bk X scope s3 H3 C cl fp).env (eval test (Bk X scope s3 H3 C cl fp).env)) (fun b s9 => b = false ∧ ∃ H9, Inv (Bk X scope s3 H3 C cl fp) pins' ((wipe σ [ix]).set ix (some (.str (sg c)))) H9 s9 ∧
        Sim X.K T B ((wipeD ρ [ix]).set ix (.dat (sgD c))) ((wipe σ [ix]).set ix (some (.str (sg c)))) H9 ∧ Fx [] H8 H9) (fun _ _ => False) s8)
    (hrest : SXs X T B ρ r kd) (hs : ∀ x, foldedSetIterable iter X.env x = pure x := by intro _; rfl) :
    SXsT X T B ρ (.If (.Compare (.ListComp elt [⟨.Name x px, iter, [test], 0⟩] scope pos) [.NotEq] [.List [] p3] p4) body [] p5 :: r) kd := by
  intro pins s σ H D h0 I ⟨S, q⟩
  refine wpAny_execs_cons (wpAny_If (wpAny_isTrue_Compare1 (thn (lc_none (elt := elt) (px := px) (pos := pos) hc hN I S h0 hit hasc ok hx hno hil (htest σ) hs) fun v s1 h1 => ?_) (nomark _)))
  obtain ⟨L, H1, ev, I1, hL, S1, f1⟩ := h1
  subst ev
  have hl : EX X T B ρ (.List [] p3) [] ρ (.list []) := ex_lst ax_nil (Nat.zero_le _)
  refine thn (hl.run.run pins s1 σ H1 (fun v2 H2 => Rp X.K (msk (B.all ρ) H2) v2 (.list []) ∧ Sim X.K T B ρ σ H2 ∧ Fx [] H1 H2) I1 ⟨S1, fun v2 H2 S2 f2 r2 => ⟨r2, S2, f2⟩⟩) fun u2 s2 ⟨v2, H2, I2, rv2, r2, S2, f2⟩ => ?_
  cases r2 with
  | lst g1 g2 =>
    cases g2
    have hL2 : H2 L = some (.lst []) := f2 L _ rfl (by simp) hL
    have hr64 := hr.un
    refine thn (op_neE (by omega) pins s2 σ H2 (.ref L) _ (.ref L) u2 (fun b H3 => b = .bl false ∧ H3 = H2) I2 rfl rv2 ⟨L, _, [], rfl, rfl, SqL.of hL2, (Kp.ofmsk _ _).sqL g1, rfl, rfl⟩) fun w3 s3 ⟨b, H3, I3, rb, eb, eH⟩ => ?_
    subst eb eH
    have rb : w3 = .bool false := rb
    subst rb
    refine wpAny_truthy_bool ?_
    simp only [Bool.false_eq_true, if_false]
    exact wpAny_execs_nil (hrest.run pins s3 σ H3 D I3 ⟨S2, q⟩)
end
end Dv

set_option maxRecDepth 100000
set_option maxHeartbeats 1000000
namespace K04
open PySem PySem.Spec PyProof.Rows L2 Dv
abbrev sJoined : Stmt := topS 20
abbrev sWo : Stmt := topS 21
theorem scJoined : FnScope ["one", "other"] ["one", "other"] (defScope sJoined) := ⟨rfl, rfl, rfl, by decide +kernel, rfl, by decide +kernel, by decide +kernel⟩
theorem scWo : FnScope ["axes", "axis"] ["axes", "axis"] (defScope sWo) := ⟨rfl, rfl, rfl, by decide +kernel, rfl, by decide +kernel, by decide +kernel⟩
theorem asc_eq : ∀ {l m : List Nat}, l.Pairwise (· < ·) → m.Pairwise (· < ·) → (∀ x, x ∈ l ↔ x ∈ m) → l = m
  | [], [], _, _, _ => rfl
  | [], b :: m, _, _, h => absurd ((h b).mpr List.mem_cons_self) (by simp)
  | a :: l, [], _, _, h => absurd ((h a).mp List.mem_cons_self) (by simp)
  | a :: l, b :: m, h1, h2, h => by
    obtain ⟨g1, g2⟩ := List.pairwise_cons.mp h1
    obtain ⟨g3, g4⟩ := List.pairwise_cons.mp h2
    have e : a = b := by
      rcases List.mem_cons.mp ((h a).mp List.mem_cons_self) with e | e
      · exact e
      · rcases List.mem_cons.mp ((h b).mpr List.mem_cons_self) with q | q
        · exact q.symm
        · exact absurd (Nat.lt_trans (g3 a e) (g1 b q)) (Nat.lt_irrefl _)
    subst e
    refine congrArg (a :: ·) (asc_eq g2 g4 fun x => ⟨fun hx => ?_, fun hx => ?_⟩)
    · rcases List.mem_cons.mp ((h x).mp (List.mem_cons_of_mem _ hx)) with e | e
      · rw [e] at hx; exact absurd (g1 a hx) (Nat.lt_irrefl _)
      · exact e
    · rcases List.mem_cons.mp ((h x).mpr (List.mem_cons_of_mem _ hx)) with e | e
      · rw [e] at hx; exact absurd (g3 a hx) (Nat.lt_irrefl _)
      · exact e
theorem rising_pw : ∀ (l : List Nat) (p : Nat), risingS (sg p) (l.map sg) = true → (p :: l).Pairwise (· ≤ ·)
  | [], p, _ => List.pairwise_cons.mpr ⟨(fun _ h => by cases h), List.Pairwise.nil⟩
  | x :: l, p, h => by
    have h : (!ltCps [x] [p] && risingS (sg x) (l.map sg)) = true := h
    rw [Bool.and_eq_true] at h
    have ih := rising_pw l x h.2
    have hx : p ≤ x := by
      have z : ltCps [x] [p] = false := by simpa using h.1
      have z2 : (decide (x < p) || (x == p && false)) = false := z
      rw [Bool.and_false, Bool.or_false] at z2
      have := of_decide_eq_false z2
      omega
    refine List.pairwise_cons.mpr ⟨fun y hy => ?_, ih⟩
    rcases List.mem_cons.mp hy with rfl | hy
    · exact hx
    · exact Nat.le_trans hx ((List.pairwise_cons.mp ih).1 y hy)
theorem sorted_uniq {lx : List Nat} (hlx : lx.Pairwise (· < ·)) {ss : List Str} (h1 : sortedS ss = true) (h2 : ss.Nodup) (h3 : ∀ k, k ∈ ss ↔ k ∈ lx.map sg) : ss = lx.map sg := by
  have e : ss = (ss.map fun k : Str => k.cps.toList.headD 0).map sg := by
    rw [List.map_map]
    refine (List.map_id ss).symm.trans (List.map_congr_left fun k hk => ?_)
    obtain ⟨c, _, rfl⟩ := List.mem_map.mp ((h3 k).mp hk)
    rfl
  generalize (ss.map fun k : Str => k.cps.toList.headD 0) = cs at e
  subst e
  have hinj : ∀ a b : Nat, sg a = sg b → a = b := fun a b e => by
    have := congrArg (fun y : Str => y.cps.toList) e
    exact (List.cons.inj this).1
  have hn : cs.Nodup := (List.pairwise_map.mp h2).imp fun h e => h (congrArg sg e)
  have hle : cs.Pairwise (· ≤ ·) := by
    cases cs with
    | nil => exact List.Pairwise.nil
    | cons c r => exact rising_pw r c h1
  have hlt : cs.Pairwise (· < ·) := (List.pairwise_and_iff.mpr ⟨hle, hn⟩).imp fun ⟨a, b⟩ => Nat.lt_of_le_of_ne a b
  have hm : ∀ c, c ∈ cs ↔ c ∈ lx := fun c => by
    have z := h3 (sg c)
    constructor
    · intro hc
      obtain ⟨d, hd, e⟩ := List.mem_map.mp (z.mp (List.mem_map_of_mem hc))
      exact hinj _ _ e ▸ hd
    · intro hc
      obtain ⟨d, hd, e⟩ := List.mem_map.mp (z.mpr (List.mem_map_of_mem hc))
      exact hinj _ _ e ▸ hd
  rw [asc_eq hlt hlx hm]
def five : List Nat := [97, 105, 106, 107, 122]
/-- the letters of both, in their order -/
def joinV (cs ds : List Nat) : List Nat := five.filter fun c => decide (c ∈ cs ++ ds)
theorem five_asc : five.Pairwise (· < ·) := by decide
def RJoined : Sl → D → Sl → Prop := fun args d args' => ∃ x y : Str, args = [.dat (.str x), .dat (.str y)] ∧ (∀ c ∈ x.cps.toList ++ y.cps.toList, c ∈ five) ∧ x.cps.toList.length ≤ 5 ∧ y.cps.toList.length ≤ 5 ∧ d = .str (Txt.join "" ((joinV x.cps.toList y.cps.toList).map sg)) ∧ args' = args
theorem join_len (l : List Nat) (h : l.length ≤ 5) : ((l.map sg).map (·.length)).sum + (l.map sg).length * ("" : Str).length ≤ 16777216 := by
  have e : ((l.map sg).map (·.length)).sum = l.length := by
    rw [List.map_map]
    clear h
    induction l with
    | nil => rfl
    | cons a r ih => rw [List.map_cons, List.sum_cons, ih, List.length_cons]; show 1 + r.length = _; omega
  rw [e]
  show l.length + _ * 0 ≤ _
  omega
theorem joinV_len (cs ds : List Nat) : (joinV cs ds).length ≤ 5 := (List.filter_sublist (p := fun c => decide (c ∈ cs ++ ds)) (l := five)).length_le
section
variable {P : Program} {w : World} {K : PySem.W.Frag} {mg : Str → Option Value} {base : Heap} {T : List TQ}
theorem ok_joined {f : Addr} {fd : FuncData} {n : Nat} (F : Fun K "joined" "joined" sJoined f fd) (ms : mg "sorted" = none) (mst : mg "set" = none) : FnOk P w K mg base CX0 (n + 1) f fd ["one", "other"] (PrD K T 2 RJoined) := by
  refine fn_d F scJoined RJoined fun cdv A outer s H E B args d args' hr hl he sh hR => ?_
  obtain ⟨x, y, rfl, hm, hx, hy, rfl, rfl⟩ := hR
  have hsx : (x ++ y).cps.toList = x.cps.toList ++ y.cps.toList := by show (x.cps ++ y.cps).toList = _; simp
  have hlx : x.length + y.length ≤ sizeLine := by
    show x.cps.size + y.cps.size ≤ 16777216
    rw [← Array.length_toList, ← Array.length_toList]; omega
  refine sx_ret (ex_join ex_str (EX.l (EO.ex (eo_sortSet rfl (by rfl) ms (by rfl) mst (ex_addS (nm 0) (nm 1) hlx) (by show (x ++ y).cps.size < 1000; rw [← Array.length_toList, hsx, List.length_append]; omega) (ys := (joinV x.cps.toList y.cps.toList).map sg) fun ss h1 h2 h3 => ?_))) (join_len _ (joinV_len _ _))) ⟨rfl, back0 (args := [_, _])⟩
  refine sorted_uniq (five_asc.sublist List.filter_sublist) h1 h2 fun k => (h3 k).trans ?_
  rw [hsx]
  have e : ∀ c, c ∈ joinV x.cps.toList y.cps.toList ↔ c ∈ x.cps.toList ++ y.cps.toList := fun c => by
    unfold joinV
    rw [List.mem_filter]
    exact ⟨fun z => of_decide_eq_true z.2, fun z => ⟨hm c z, decide_eq_true z⟩⟩
  rw [List.mem_map, List.mem_map]
  exact ⟨fun ⟨c, hc, e2⟩ => ⟨c, (e c).mpr hc, e2⟩, fun ⟨c, hc, e2⟩ => ⟨c, (e c).mp hc, e2⟩⟩
theorem ok_wo {f : Addr} {fd : FuncData} {n : Nat} (F : Fun K "without" "without" sWo f fd) (b : Binds K fd ["axes", "axis"] []) : WoRun P w K mg base (n + 1) f := by
  obtain ⟨oc, od, kV, doc, pm, an, cdv, ct, osl, rfl, lk, hcd⟩ := F.ex
  exact wo_run (a0 := "axes") (a1 := "axis") rfl lk hcd scWo b rfl rfl (by decide) (by decide) rfl
end
end K04

set_option maxRecDepth 100000
set_option maxHeartbeats 1000000
namespace K04
open PySem PySem.Spec PyProof.Rows L2 Dv
def subsOf : List Nat → List (List Nat)
  | [] => [[]]
  | a :: r => subsOf r ++ (subsOf r).map (a :: ·)
theorem sub_mem {ys xs : List Nat} (h : ys.Sublist xs) : ys ∈ subsOf xs := by
  induction h with
  | slnil => exact List.mem_singleton.mpr rfl
  | cons a _ ih => exact List.mem_append_left _ ih
  | cons_cons a _ ih => exact List.mem_append_right _ (List.mem_map_of_mem ih)
theorem join_all : ∀ cs ∈ subsOf five, (Txt.join "" (cs.map sg)).cps.toList = cs := by decide +kernel
theorem wo_all : ∀ cs ∈ subsOf five, ∀ c ∈ cs, Txt.replace (Txt.join "" (cs.map sg)) (sg c) "" = Txt.join "" ((cs.filter fun x => !decide (x = c)).map sg) := by decide +kernel
theorem axes_all : ∀ cs ∈ subsOf five, cs.all axV = true ∧ ascV cs = true := by decide +kernel
theorem val_all : ∀ i ∈ List.range 99, ∀ j ∈ List.range 9, valueV (frD (madeV ((i : Int) - 49) (1 + (j : Int)))) = true := by decide +kernel
theorem asc_all : ∀ cs ∈ subsOf five, (Txt.join "" (cs.map sg)).cps.all (· < 128) = true := by decide +kernel
theorem take_rng (ns : List Int) {b : Int} (hb : 0 < b) : 0 ≤ takeV ns b ∧ takeV ns b < b := by
  cases ns with
  | nil => exact ⟨Int.le_refl _, hb⟩
  | cons n r => exact ⟨Int.emod_nonneg _ (by omega), Int.emod_lt_of_pos _ hb⟩
/-! ### letters and axes -/
def pickStep (b : Int) (c : Int → Bool) (ns : List Int) (x : Nat) : List Int × Option D := (takeR ns, if c (takeV ns b) = true then some (sgD x) else none)
theorem pick_ok (b : Int) (c : Int → Bool) : ∀ (xs : List Nat) (ns : List Int), ∃ ys : List Nat, ys.Sublist xs ∧ (lcF (pickStep b c) ns xs).2 = ys.map sgD
  | [], ns => ⟨[], .slnil, rfl⟩
  | x :: xs, ns => by
    obtain ⟨ys, h1, h2⟩ := pick_ok b c xs (takeR ns)
    by_cases z : c (takeV ns b) = true
    · refine ⟨x :: ys, h1.cons₂ x, ?_⟩
      show (if c (takeV ns b) = true then some (sgD x) else none).toList ++ (lcF (pickStep b c) (takeR ns) xs).2 = _
      rw [if_pos z, h2]; rfl
    · refine ⟨ys, h1.cons x, ?_⟩
      show (if c (takeV ns b) = true then some (sgD x) else none).toList ++ (lcF (pickStep b c) (takeR ns) xs).2 = _
      rw [if_neg z, h2]; rfl
/-! ### lengths -/
def b35 (v : Int) : Int := if v = 0 then 3 else 5
def lenStep (ns : List Int) (c : Nat) : List Int × Option D := (takeR (takeR ns), some (.tuple [sgD c, .int (takeV (takeR ns) (b35 (takeV ns 2)))]))
theorem b35_ok (v : Int) : 0 < b35 v ∧ b35 v ≤ 5 := by unfold b35; split <;> omega
def kvsOf (ln : Nat → Nat) (cs : List Nat) : List (Str × D) := cs.map fun c => (sg c, iD (ln c))
theorem len_ok : ∀ (cs : List Nat) (ns : List Int), cs.Nodup → ∃ ln : Nat → Nat, (∀ c, ln c ≤ 4) ∧ (lcF lenStep ns cs).2 = pairsD (kvsOf ln cs)
  | [], ns, _ => ⟨fun _ => 0, fun _ => Nat.zero_le _, rfl⟩
  | c :: cs, ns, h => by
    rw [List.nodup_cons] at h
    obtain ⟨ln, h1, h2⟩ := len_ok cs (takeR (takeR ns)) h.2
    have t0 := b35_ok (takeV ns 2)
    have t := take_rng (takeR ns) t0.1
    refine ⟨fun x => if x = c then (takeV (takeR ns) (b35 (takeV ns 2))).toNat else ln x, fun x => ?_, ?_⟩
    · dsimp only
      split
      · omega
      · exact h1 x
    · show [_] ++ (lcF lenStep (takeR (takeR ns)) cs).2 = _
      rw [h2]
      unfold pairsD kvsOf
      rw [List.map_cons, List.map_cons, List.map_map, List.map_map]
      dsimp only
      rw [if_pos rfl]
      have e : iD (takeV (takeR ns) (b35 (takeV ns 2))).toNat = .int (takeV (takeR ns) (b35 (takeV ns 2))) := congrArg D.int (by omega)
      rw [e]
      show _ :: _ = _ :: _
      refine congrArg (_ :: ·) (List.map_congr_left fun x hx => ?_)
      show D.tuple [.str (sg x), iD (ln x)] = .tuple [.str (sg x), iD (if x = c then (takeV (takeR ns) (b35 (takeV ns 2))).toNat else ln x)]
      rw [if_neg fun e : x = c => h.1 (e ▸ hx)]
theorem sg_inj {a b : Nat} (e : sg a = sg b) : a = b := by
  have := congrArg (fun s : Str => s.cps.toList) e
  simpa [sg] using this
theorem kvs_look (ln : Nat → Nat) : ∀ {cs : List Nat} {c : Nat}, c ∈ cs → lookD (kvsOf ln cs) (sg c) = some (iD (ln c))
  | x :: cs, c, h => by
    unfold lookD kvsOf
    rw [List.map_cons, List.find?_cons]
    by_cases e : sg x = sg c
    · rw [decide_eq_true e, sg_inj e]; rfl
    · rw [decide_eq_false e]
      rcases List.mem_cons.mp h with h | h
      · exact absurd (by rw [h]) e
      · exact kvs_look ln h
theorem kvs_none {ln : Nat → Nat} : ∀ {cs : List Nat} {c : Nat}, c ∉ cs → lookD (kvsOf ln cs) (sg c) = none
  | [], c, _ => rfl
  | x :: cs, c, h => by
    unfold lookD kvsOf
    rw [List.map_cons, List.find?_cons, decide_eq_false fun e => h (by rw [← sg_inj e]; exact List.mem_cons_self)]
    exact kvs_none fun z => h (List.mem_cons_of_mem _ z)
theorem kvs_kn {ln : Nat → Nat} {cs ax : List Nat} (hs : ax.Sublist cs) (h3 : ax.length ≤ 5) (h6 : ∀ c, ln c ≤ 9) : Kn (kvsOf ln cs) ln ax := ⟨fun c hc => kvs_look ln (hs.subset hc), fun c _ => Nat.le_trans (h6 c) (by decide), h3⟩
theorem kvs_nd {ln : Nat → Nat} {cs : List Nat} (h : cs.Nodup) : ((kvsOf ln cs).map (·.1)).Nodup := by
  have e : (kvsOf ln cs).map (·.1) = cs.map sg := by unfold kvsOf; rw [List.map_map]; rfl
  rw [e]
  exact List.pairwise_map.mpr (h.imp fun hne e => hne (sg_inj e))
theorem kvs_ok {ln : Nat → Nat} {cs : List Nat} (h : cs.Nodup) (h6 : ∀ c, ln c ≤ 9) : KvOk (kvsOf ln cs) := ⟨kvs_nd h, fun q hq => by
  obtain ⟨c, _, rfl⟩ := List.mem_map.mp hq
  exact ⟨ln c, Nat.le_trans (h6 c) (by decide), rfl⟩⟩
/-! ### rows -/
theorem count_len (ln : Nat → Nat) : ∀ (cs : List Nat) (found : List Row) (k : Nat), (∀ r ∈ found, r.length = k) → cs.foldl (fun t c => t * ((ln c : Nat) : Int)) (found.length : Nat) = ((cs.foldl (fun found c => stepV (ln c) found) found).length : Nat)
  | [], found, _, _ => rfl
  | c :: cs, found, k, h => by
    obtain ⟨a, b⟩ := step_ok (ln c) k found [] h (fun r hr => by cases hr)
    have := count_len ln cs (stepV (ln c) found) (k + 1) b
    rw [List.foldl_cons, List.foldl_cons, ← this]
    refine congrArg (fun t => cs.foldl (fun t c => t * ((ln c : Nat) : Int)) t) ?_
    show _ = (((found.foldl _ []).length : Nat) : Int)
    rw [a, List.length_nil, Nat.zero_add, Int.natCast_mul]
theorem count_rows (ln : Nat → Nat) (cs : List Nat) : countV ln cs = ((indicesV ln cs).length : Nat) := count_len ln cs [[]] 0 (fun r hr => by rw [List.mem_singleton.mp hr]; rfl)
theorem rows_le (ln : Nat → Nat) (b : Nat) (hb : ∀ c, ln c ≤ b) : ∀ (cs : List Nat) (found : List Row) (k : Nat), (∀ r ∈ found, r.length = k) → (cs.foldl (fun found c => stepV (ln c) found) found).length ≤ found.length * b ^ cs.length
  | [], found, _, _ => by simp
  | c :: cs, found, k, h => by
    obtain ⟨a, z⟩ := step_ok (ln c) k found [] h (fun r hr => by cases hr)
    refine Nat.le_trans (rows_le ln b hb cs (stepV (ln c) found) (k + 1) z) ?_
    have e : (stepV (ln c) found).length = found.length * ln c := by
      show (found.foldl _ []).length = _
      rw [a, List.length_nil, Nat.zero_add]
    rw [e, List.length_cons, Nat.pow_succ, Nat.mul_assoc, Nat.mul_comm (b ^ cs.length) b]
    exact Nat.mul_le_mul_left _ (Nat.mul_le_mul_right _ (hb c))
theorem rows_1024 {ln : Nat → Nat} (hb : ∀ c, ln c ≤ 4) {cs : List Nat} (h : cs.length ≤ 5) : (indicesV ln cs).length ≤ 1024 := by
  have := rows_le ln 4 hb cs [[]] 0 (fun r hr => by rw [List.mem_singleton.mp hr]; rfl)
  refine Nat.le_trans this ?_
  show 1 * 4 ^ cs.length ≤ 1024
  rw [Nat.one_mul]
  exact Nat.pow_le_pow_right (by decide) h
end K04

set_option maxRecDepth 100000
set_option maxHeartbeats 1000000
namespace K04
open PySem PySem.Spec PyProof.Rows L2 Dv
theorem stepV_flat' (n : Nat) (found : List Row) : stepV n found = found.flatMap (more n) := stepV_flat n found
theorem pairs_of (ln : Nat → Nat) (cs : List Nat) : pairsD (kvsOf ln cs) = cs.map fun c => D.tuple [.str (sg c), iD (ln c)] := by
  unfold pairsD kvsOf; rw [List.map_map]; rfl
theorem lens_true {ln : Nat → Nat} (h4 : ∀ c, ln c ≤ 9) {cs : List Nat} (h : cs.all axV = true ∧ ascV cs = true) : lensV (.ptup (pairsD (kvsOf ln cs))) = true := by
  show ((pairsD (kvsOf ln cs)).all pair2 && ((pairsD (kvsOf ln cs)).all okPair && ascL (pairsD (kvsOf ln cs)))) = true
  rw [pairs_of]
  have e1 : (cs.map fun c => D.tuple [.str (sg c), iD (ln c)]).all pair2 = true := by
    rw [List.all_map, List.all_eq_true]
    exact fun c _ => rfl
  have e2 : (cs.map fun c => D.tuple [.str (sg c), iD (ln c)]).all okPair = true := by
    rw [List.all_map, List.all_eq_true]
    intro c hc
    show (axV c && (decide ((0 : Int) ≤ (ln c : Nat)) && decide (((ln c : Nat) : Int) ≤ 9))) = true
    have := h4 c
    rw [List.all_eq_true.mp h.1 c hc, decide_eq_true (by omega), decide_eq_true (by omega)]; rfl
  have e3 : ascL (cs.map fun c => D.tuple [.str (sg c), iD (ln c)]) = ascV cs := by
    rw [asc_range]
    unfold ascL
    rw [List.length_map]
    have gk : ∀ i, i < cs.length → keyOf ((cs.map fun c => D.tuple [.str (sg c), iD (ln c)]).getD i .none) = [cs.getD i 0] := fun i hi => by
      rw [List.getD_eq_getElem?_getD, List.getElem?_map, List.getElem?_eq_getElem hi, List.getD_eq_getElem?_getD, List.getElem?_eq_getElem hi]; rfl
    rw [Bool.eq_iff_iff, List.all_eq_true, List.all_eq_true]
    have key : ∀ i, i ∈ List.range (cs.length - 1) → (decide (keyOf ((cs.map fun c => D.tuple [.str (sg c), iD (ln c)]).getD i .none) < keyOf ((cs.map fun c => D.tuple [.str (sg c), iD (ln c)]).getD (i + 1) .none)) = decide (cs.getD i 0 < cs.getD (i + 1) 0)) := fun i hi => by
      have := List.mem_range.mp hi
      rw [gk i (by omega), gk (i + 1) (by omega)]
      exact decide_eq_decide.mpr (by simp [List.cons_lt_cons_iff])
    exact ⟨fun g i hi => by rw [← key i hi]; exact g i hi, fun g i hi => by rw [key i hi]; exact g i hi⟩
  rw [e1, e2, e3, h.2]; rfl
theorem joinV_eq {cs ax ot : List Nat} (hc : cs.Sublist five) (ha : ax.Sublist cs) (ho : ot.Sublist cs) : joinV ax ot = cs.filter fun c => decide (c ∈ ax) || decide (c ∈ ot) := by
  refine asc_eq (five_asc.sublist List.filter_sublist) ((five_asc.sublist hc).sublist List.filter_sublist) fun x => ?_
  unfold joinV
  rw [List.mem_filter, List.mem_filter]
  simp only [List.mem_append, decide_eq_true_eq, Bool.or_eq_true]
  exact ⟨fun ⟨_, z⟩ => ⟨z.elim (fun y => ha.subset y) (fun y => ho.subset y), z⟩, fun ⟨y, z⟩ => ⟨hc.subset y, z⟩⟩
/-! ### the place of a row -/
theorem flat_get (n : Nat) : ∀ (found : List Row) (p' : Nat) (r' : Row), (found.flatMap (more n))[p']? = some r' → ∃ p r d, found[p]? = some r ∧ d < n ∧ p' = p * n + d ∧ r' = r ++ [(d : Int)]
  | [], p', r', h => by simp at h
  | r :: f, p', r', h => by
    have hl : (more n r).length = n := by unfold more; rw [List.length_map, List.length_range]
    rw [List.flatMap_cons] at h
    by_cases hp : p' < n
    · rw [List.getElem?_append_left (by omega)] at h
      unfold more at h
      rw [List.getElem?_map, List.getElem?_range hp] at h
      cases h
      exact ⟨0, r, p', rfl, hp, by omega, rfl⟩
    · rw [List.getElem?_append_right (by omega), hl] at h
      obtain ⟨p, r1, d, h1, h2, h3, h4⟩ := flat_get n f _ _ h
      exact ⟨p + 1, r1, d, h1, h2, by rw [Nat.add_mul]; omega, h4⟩
def digV (ln : Nat → Nat) (t : Nat) (q : Nat × Int) : Nat := t * ln q.1 + q.2.toNat
theorem row_at (ln : Nat → Nat) : ∀ (cs : List Nat) (found : List Row) (i : Nat) (row : Row), (cs.foldl (fun found c => stepV (ln c) found) found)[i]? = some row →
    ∃ (p : Nat) (r ds : Row), found[p]? = some r ∧ row = r ++ ds ∧ ds.length = cs.length ∧ (∀ q ∈ cs.zip ds, 0 ≤ q.2 ∧ q.2 < (ln q.1 : Nat)) ∧ i = (cs.zip ds).foldl (digV ln) p
  | [], found, i, row, h => ⟨i, row, [], h, by simp, rfl, (fun _ hd => by cases hd), rfl⟩
  | c :: cs, found, i, row, h => by
    obtain ⟨p', r', ds, h1, h2, h3, h4, h5⟩ := row_at ln cs (stepV (ln c) found) i row h
    rw [stepV_flat] at h1
    obtain ⟨p, r, d, g1, g2, g3, g4⟩ := flat_get (ln c) found p' r' h1
    refine ⟨p, r, (d : Int) :: ds, g1, by rw [h2, g4, List.append_assoc]; rfl, by rw [List.length_cons, h3, List.length_cons], fun q hq => ?_, ?_⟩
    · rw [List.zip_cons_cons] at hq
      rcases List.mem_cons.mp hq with rfl | hq
      · show (0 : Int) ≤ (d : Nat) ∧ ((d : Nat) : Int) < (ln c : Nat)
        omega
      · exact h4 q hq
    · rw [List.zip_cons_cons, List.foldl_cons]
      have e : digV ln p (c, (d : Int)) = p' := by
        rw [g3]; unfold digV; rw [Int.toNat_natCast]
      rw [e, h5]
/-- an index: its pairs -/
def idxOf (cs : List Nat) (row : Row) : List (Str × D) := (cs.zip row).map fun q => (sg q.1, .int q.2)
def ixOf (cs : List Nat) (row : Row) (c : Nat) : Nat := (((cs.zip row).lookup c).getD 0).toNat
theorem zip_look : ∀ {cs : List Nat} {row : Row}, row.length = cs.length → cs.Nodup → ∀ q ∈ cs.zip row, (cs.zip row).lookup q.1 = some q.2
  | [], row, _, _, q, hq => by simp at hq
  | c :: cs, [], h, _, q, hq => by simp at hq
  | c :: cs, d :: row, h, hn, q, hq => by
    rw [List.zip_cons_cons] at hq ⊢
    obtain ⟨n1, n2⟩ := List.nodup_cons.mp hn
    rw [List.lookup_cons]
    rcases List.mem_cons.mp hq with rfl | hq
    · simp
    · have hc : q.1 ∈ cs := (List.of_mem_zip hq).1
      have hb : (q.1 == c) = false := beq_eq_false_iff_ne.mpr fun e => n1 (e ▸ hc)
      rw [hb]
      exact zip_look (by simpa using h) n2 q hq
theorem fold_zip (ln ix : Nat → Nat) : ∀ (cs : List Nat) (row : Row) (p : Nat), row.length = cs.length → (∀ q ∈ cs.zip row, ix q.1 = q.2.toNat) → (cs.zip row).foldl (digV ln) p = cs.foldl (fun t c => t * ln c + ix c) p
  | [], row, p, _, _ => by simp
  | c :: cs, [], p, h, _ => by simp at h
  | c :: cs, d :: row, p, h, hq => by
    rw [List.zip_cons_cons, List.foldl_cons, List.foldl_cons]
    have e : ix c = d.toNat := hq (c, d) (by rw [List.zip_cons_cons]; exact List.mem_cons_self)
    rw [fold_zip ln ix cs row _ (by simpa using h) fun q z => hq q (by rw [List.zip_cons_cons]; exact List.mem_cons_of_mem _ z)]
    unfold digV
    rw [e]
theorem place_row {ln : Nat → Nat} {cs : List Nat} (hn : cs.Nodup) {i : Nat} {row : Row} (h : (indicesV ln cs)[i]? = some row) :
    row.length = cs.length ∧ placeV ln (ixOf cs row) cs = i ∧ ∀ q ∈ cs.zip row, 0 ≤ q.2 ∧ q.2 < (ln q.1 : Nat) := by
  obtain ⟨p, r, ds, h1, h2, h3, h4, h5⟩ := row_at ln cs [[]] i row h
  obtain ⟨hp, er⟩ := List.getElem?_eq_some_iff.mp h1
  have hp0 : p = 0 := by
    have : p < 1 := hp
    omega
  subst hp0
  have er : r = [] := er.symm
  subst er
  have e : row = ds := h2
  subst e
  refine ⟨h3, ?_, h4⟩
  rw [h5]
  unfold placeV
  refine (fold_zip ln (ixOf cs row) cs row 0 h3 fun q hq => ?_).symm
  unfold ixOf
  rw [zip_look h3 hn q hq]; rfl
theorem lookD_map {α : Type} (f : α → Str × D) : ∀ {l : List α} {x : Str} {d : D}, (l.map fun q => (f q).1).Nodup → (∃ q ∈ l, f q = (x, d)) → lookD (l.map f) x = some d
  | [], x, d, _, ⟨q, hq, _⟩ => by cases hq
  | a :: l, x, d, hn, ⟨q, hq, e⟩ => by
    obtain ⟨n1, n2⟩ := List.nodup_cons.mp hn
    unfold lookD
    rw [List.map_cons, List.find?_cons]
    rcases List.mem_cons.mp hq with rfl | hq
    · rw [e, decide_eq_true rfl]; rfl
    · have hb : decide ((f a).1 = x) = false := decide_eq_false fun z => n1 (List.mem_map.mpr ⟨q, hq, by show (f q).1 = (f a).1; rw [e]; exact z.symm⟩)
      rw [hb]
      exact lookD_map f n2 ⟨q, hq, e⟩
theorem idx_nd {cs : List Nat} (hn : cs.Nodup) (row : Row) : ((cs.zip row).map fun q => sg q.1).Nodup := by
  have e : ((cs.zip row).map fun q => sg q.1) = ((cs.zip row).map Prod.fst).map sg := by rw [List.map_map]; rfl
  rw [e]
  have hs : ((cs.zip row).map Prod.fst).Sublist cs := by
    clear e
    induction cs generalizing row with
    | nil => simp
    | cons c cs ih =>
      cases row with
      | nil => simp
      | cons d row =>
        rw [List.zip_cons_cons, List.map_cons]
        exact (ih (List.nodup_cons.mp hn).2 row).cons_cons c
  exact List.pairwise_map.mpr ((hn.sublist hs).imp fun hne e => hne (sg_inj e))
theorem zip_has : ∀ {cs : List Nat} {row : Row}, row.length = cs.length → ∀ c ∈ cs, ∃ d, (c, d) ∈ cs.zip row
  | [], _, _, c, hc => by cases hc
  | a :: cs, [], h, c, hc => by simp at h
  | a :: cs, d :: row, h, c, hc => by
    rw [List.zip_cons_cons]
    rcases List.mem_cons.mp hc with rfl | hc
    · exact ⟨d, List.mem_cons_self⟩
    · obtain ⟨d', hd⟩ := zip_has (by simpa using h) c hc
      exact ⟨d', List.mem_cons_of_mem _ hd⟩
/-- what a dict that bears the index tells of the axes -/
theorem ix_ok {cs : List Nat} {row : Row} (hn : cs.Nodup) (hl : row.length = cs.length) (hb : ∀ q ∈ cs.zip row, 0 ≤ q.2 ∧ q.2 < 10) {idx : List (Str × D)} (hi : ∀ q ∈ cs.zip row, lookD idx (sg q.1) = some (.int q.2)) : IxOk idx (ixOf cs row) cs := by
  have key : ∀ c ∈ cs, ∃ d, (c, d) ∈ cs.zip row ∧ ixOf cs row c = d.toNat := fun c hc => by
    obtain ⟨d, hd⟩ := zip_has hl c hc
    refine ⟨d, hd, ?_⟩
    unfold ixOf
    rw [zip_look hl hn (c, d) hd]; rfl
  refine ⟨fun c hc => ?_, fun c hc => ?_⟩
  · obtain ⟨d, hd, e⟩ := key c hc
    have hb := hb _ hd
    have hb : (0 : Int) ≤ d ∧ d < 10 := hb
    rw [hi _ hd, e]
    exact congrArg (fun z => some (D.int z)) (by omega)
  · obtain ⟨d, hd, e⟩ := key c hc
    have hb := hb _ hd
    have hb : (0 : Int) ≤ d ∧ d < 10 := hb
    rw [e]; omega
theorem ix_idx {cs : List Nat} {row : Row} (hn : cs.Nodup) : ∀ q ∈ cs.zip row, lookD (idxOf cs row) (sg q.1) = some (.int q.2) := fun q hq => lookD_map _ (idx_nd hn row) ⟨q, hq, rfl⟩
end K04

set_option maxRecDepth 100000
set_option maxHeartbeats 1000000
namespace K04
open PySem PySem.Spec PyProof.Rows L2 Dv
abbrev sSays : Stmt := topS 34
theorem scSays : FnScope ["told", "due"] ["told", "due"] (defScope sSays) := ⟨rfl, rfl, rfl, by decide +kernel, rfl, by decide +kernel, by decide +kernel⟩
def RSays : Sl → D → Sl → Prop := fun args d args' => ∃ a b : Bool, args = [.dat (.bool a), .dat (.bool b)] ∧ d = .bool (decide (a = b)) ∧ args' = args
section
variable {P : Program} {w : World} {K : PySem.W.Frag} {mg : Str → Option Value} {base : Heap} {T : List TQ}
theorem ok_says {f : Addr} {fd : FuncData} {n : Nat} (F : Fun K "_law_says" "_law_says" sSays f fd) (mi : mg "isinstance" = none) (mb : mg "bool" = none) : FnOk P w K mg base CX0 (n + 1) f fd ["told", "due"] (PrD K T 2 RSays) := by
  refine fn_d F scSays RSays fun cdv A outer s H E B args d args' hr hl he sh hR => ?_
  obtain ⟨a, b, rfl, rfl, rfl⟩ := hR
  exact sx_ret (EX.to (ex_and (k2 := decide (a = b)) (isi "bool" mi mb (nm 0)) (fun h => ex_one (ex_eqB (r2 (nm 0) (nm 1))))) rfl) ⟨rfl, back0 (args := [_, _])⟩
end
/-! ### calls -/
structure Cal (P : Program) (w : World) (K : PySem.W.Frag) (mg : Str → Option Value) (base : Heap) (n : Nat) (x : Str) (ps : List Str) (sp : Sp) (f : Addr) (fd : FuncData) : Prop where
  ok : FnOk P w K mg base CX0 n f fd ps sp
  mg : mg x = some (.ref f)
  kp : PySem.W.keepIn K (.ref f) = true
  bs : Binds K fd ps []
structure Cs (P : Program) (w : World) (K : PySem.W.Frag) (mg : Str → Option Value) (base : Heap) (T : List TQ) (n : Nat) : Prop where
  tk : ∃ f fd, Cal P w K mg base n "_law_take" ["draws", "bound"] (PrD K T 2 RTake) f fd
  made : ∃ f fd, Cal P w K mg base n "_law_made" ["part", "whole"] (PrD K T 2 RMade) f fd
  idx : ∃ f fd, Cal P w K mg base n "_law_indices" ["known", "axes"] (PrD K T 2 RIdx) f fd
  says : ∃ f fd, Cal P w K mg base n "_law_says" ["told", "due"] (PrD K T 2 RSays) f fd
  told : ∃ f fd, Cal P w K mg base n "_law_told" ["lengths", "axes"] (PrD K T 2 RTold) f fd
  al : ∀ d, d ≤ 5 → ∃ f fd, Cal P w K mg base n "_law_alike" ["found", "due"] (PrD K T 2 (RAlike d)) f fd
  axis : ∃ f fd, Cal P w K mg base n "is_axis" ["value"] (PrD K T 1 RAxis) f fd
  axes : ∃ f fd, Cal P w K mg base n "are_axes" ["value"] (PrD K T 1 RAxes) f fd
  lens : ∃ f fd, Cal P w K mg base n "are_lengths" ["value"] (PrD K T 1 RLens) f fd
  value : ∃ f fd, Cal P w K mg base n "is_value" ["value"] (PrD K T 1 RValue) f fd
  arr : ∃ f fd, Cal P w K mg base n "is_array" ["lengths", "value"] (PrD K T 2 RArr) f fd
  count : ∃ f fd, Cal P w K mg base n "count_cells" ["lengths", "axes"] (PrD K T 2 RCount) f fd
  ind : ∃ f fd, Cal P w K mg base n "indices" ["lengths", "axes"] (PrD K T 2 RInd) f fd
  same : ∃ f fd, Cal P w K mg base n "same_all" ["lengths", "axes", "value"] (PrD K T 3 RSame) f fd
  cell : ∃ f fd, Cal P w K mg base n "cell" ["lengths", "array", "index"] (PrD K T 3 RCell) f fd
  from_ : ∃ f fd, Cal P w K mg base n "from_dict" ["lengths", "axes", "cells"] (PrD K T 3 RFrom) f fd
  joined : ∃ f fd, Cal P w K mg base n "joined" ["one", "other"] (PrD K T 2 RJoined) f fd
  wo : ∃ f, WoRun P w K mg base n f ∧ mg "without" = some (.ref f) ∧ PySem.W.keepIn K (.ref f) = true
  md : mg "dict" = none
  mt : mg "tuple" = none
  ml : mg "list" = none
  mr : mg "range" = none
  mlen : mg "len" = none
  mint : mg "int" = none
theorem tkE {X : Cx} {T : List TQ} {n : Nat} {ft : Addr} {fdt : FuncData} {B : Bs} {ρ ρ1 : Sl} {W : List Addr} {l : Addr} {ns ns1 : List Int} {b : Int} {e : Expr} {px pos p : Pos} (i : Nat) (t : Cal X.prog X.w X.K X.mg X.base n "_law_take" ["draws", "bound"] (PrD X.K T 2 RTake) ft fdt) (hr : Room n X.A) (hb : 0 < b) (ha : EX X T B ρ e W ρ1 (.int b))
    (h0 : ρ[i]? = some (.own l (enc ns)) := by rfl) (h1 : ρ1[i]? = some (.own l (enc ns1)) := by rfl) (hg : Gl X "_law_take" := by rfl) (hN : X.N[i]? = some ("draws" : Str) := by rfl) (hv : Vis X.env.scope "draws" := by first | exact Or.inl rfl | exact Or.inr (Or.inl rfl) | exact Or.inr (Or.inr rfl))
    (he : starEach [.Name "draws" px, e] X.env = (false, eval (.Name "draws" px) X.env) :: starEach [e] X.env := by rfl) (hpl : (backTo pos (starEach [e] X.env)).any (·.1) = false := by rfl) (he2 : starEach [e] X.env = (false, eval e X.env) :: starEach [] X.env := by rfl) :
    EX X T B ρ (.Call (.Name "_law_take" p) [.Name "draws" px, e] [] pos) (W ++ [l]) (ρ1.set i (.own l (enc (takeR ns1)))) (.int (takeV ns1 b)) := by
  have z := ex_callO (pos := pos) (p := p) (px1 := px) t.ok hr hg t.mg t.kp t.bs hN hv h0 (ax_cons ha ax_nil he2) h1 rfl (o2 := enc (takeR ns1)) (d := .int (takeV ns1 b)) ⟨l, ns1, b, rfl, hb, rfl, rfl⟩ (by decide) (by decide) (by decide) he hpl
  rw [List.append_nil] at z
  exact z
theorem tk {X : Cx} {T : List TQ} {n : Nat} {ft : Addr} {fdt : FuncData} {B : Bs} {ρ : Sl} {l : Addr} {ns : List Int} {b : Int} {px pc pos p : Pos} {j} (i : Nat) (t : Cal X.prog X.w X.K X.mg X.base n "_law_take" ["draws", "bound"] (PrD X.K T 2 RTake) ft fdt) (hr : Room n X.A) (hb : 0 < b) (h0 : ρ[i]? = some (.own l (enc ns)) := by rfl) (hg : Gl X "_law_take" := by rfl) (hN : X.N[i]? = some ("draws" : Str) := by rfl) (hv : Vis X.env.scope "draws" := by first | exact Or.inl rfl | exact Or.inr (Or.inl rfl) | exact Or.inr (Or.inr rfl))
    (he : starEach [.Name "draws" px, .Constant (.int b) j pc] X.env = (false, eval (.Name "draws" px) X.env) :: starEach [.Constant (.int b) j pc] X.env := by rfl) (hpl : (backTo pos (starEach [.Constant (.int b) j pc] X.env)).any (·.1) = false := by rfl) (he2 : starEach [.Constant (.int b) j pc] X.env = (false, eval (.Constant (.int b) j pc) X.env) :: starEach [] X.env := by rfl) :
    EX X T B ρ (.Call (.Name "_law_take" p) [.Name "draws" px, .Constant (.int b) j pc] [] pos) [l] (ρ.set i (.own l (enc (takeR ns)))) (.int (takeV ns b)) := tkE i t hr hb ex_int h0 h0 hg hN hv he hpl he2
abbrev sLaw : Stmt := topS 39
abbrev lawN : List Str := ["script", "draws", "one", "letters", "lengths", "known", "axes", "other", "rows", "two", "cells", "row", "array", "k", "index", "more", "big", "odd", "cell_of", "value", "wrong", "great", "right"]
theorem scLaw : FnScope lawN ["script"] (defScope sLaw) := ⟨rfl, rfl, rfl, by decide +kernel, rfl, by decide +kernel, by decide +kernel⟩
def RLaw : Sl → D → Sl → Prop := fun args d args' => ∃ sc : List Int, args = [.dat (.list (sc.map .int))] ∧ sc.length ≤ 63 ∧ d = .bool true ∧ args' = args
abbrev lawX (P : Program) (w : World) (K : PySem.W.Frag) (mg : Str → Option Value) (base : Heap) (f : Addr) (cdv : Value) (A : Around) (outer : List Env) (s : Shared) (H : Hp) (E : XK) : Cx := (cxOf CX0 P w K mg base lawN "law" (defScope sLaw) f cdv A outer s H E).nox
abbrev lawK (sc : List Int) : DE := { nx := fun ρ => D.bool true = .none ∧ Back [.dat (.list (sc.map .int))] ρ, rt := fun d' ρ => d' = .bool true ∧ Back [.dat (.list (sc.map .int))] ρ }
/-- the names of law -/
def lS (sc : List Int) (l : Addr) (ns : List Int) (le lg kn ax ot ro ce ar bi od wr gr ri : Slot) : Sl :=
  [.dat (.list (sc.map .int)), .own l (enc ns), .un, le, lg, kn, ax, ot, ro, .un, ce, .un, ar, .un, .un, .un, bi, od, .un, .un, wr, gr, ri]
theorem hu2 {A : Around} {k : Nat} (hr : Room k A) : A.units + 1 < cLine := by have := hr.un; omega
/-! ### literals -/
def bigK : List (Str × D) := [("a", iD 9), ("b", iD 9), ("c", iD 9), ("d", iD 3)]
def bigL (c : Nat) : Nat := if c = 100 then 3 else 9
theorem big_kn {cs : List Nat} (h : cs = [97, 98, 99] ∨ cs = [97, 98, 99, 100]) : Kn bigK bigL cs := by
  refine ⟨fun c hc => ?_, fun c _ => by unfold bigL; split <;> decide, by rcases h with rfl | rfl <;> decide⟩
  have hc : c = 97 ∨ c = 98 ∨ c = 99 ∨ c = 100 := by
    rcases h with rfl | rfl <;> simp only [List.mem_cons, List.not_mem_nil, or_false] at hc <;> omega
  rcases hc with rfl | rfl | rfl | rfl <;> rfl
theorem big_told1 : toldV bigL ("abc" : Str).cps.toList = .int 729 := by
  have e : countV bigL ("abc" : Str).cps.toList = 729 := by decide
  unfold toldV
  rw [if_pos (by rw [e]; decide), ← count_rows, e]
theorem big_told2 : toldV bigL ("abcd" : Str).cps.toList = .str "much" := by
  have e : countV bigL ("abcd" : Str).cps.toList = 2187 := by decide
  unfold toldV
  rw [if_neg (by rw [e]; decide)]
theorem big_ko : KvOk bigK := ⟨by decide, fun q hq => by
  simp only [bigK, List.mem_cons, List.not_mem_nil, or_false] at hq
  rcases hq with rfl | rfl | rfl | rfl
  · exact ⟨9, by decide, rfl⟩
  · exact ⟨9, by decide, rfl⟩
  · exact ⟨9, by decide, rfl⟩
  · exact ⟨3, by decide, rfl⟩⟩
theorem big_arr (cs : List D) : arrB bigK (.tuple [.str "abcd", .tuple cs]) = false := by
  have e : decide (countV (lnK bigK) ("abcd" : Str).cps.toList ≤ 2000) = false := by decide
  show (axesV (.str "abcd") && (("abcd" : Str).cps.toList.all (inK bigK) && (decide (countV (lnK bigK) ("abcd" : Str).cps.toList ≤ 2000) && (decide (((cs.length : Nat) : Int) = countV (lnK bigK) ("abcd" : Str).cps.toList) && cs.all valueV)))) = false
  rw [e]
  simp
end K04

set_option maxRecDepth 100000
set_option maxHeartbeats 1000000
namespace K04
open PySem PySem.Spec PyProof.Rows L2 Dv
/-! ### what will not do -/
abbrev v01 : D := .tuple [.int 0, .int 1]
def oddA (axes : Str) (cells : List D) (rows : List Row) : List D :=
  [.none, .list [.str axes, .tuple cells], .tuple [.str axes], .tuple [.str axes, .tuple cells, .int 1], .tuple [.str axes, .list cells], .tuple [.str axes, .tuple (cells ++ [v01])], .tuple [.str "q", .tuple [v01]], .tuple [.str "ji", .tuple []],
    .tuple [.str axes, .tuple (rows.map (fun _ => D.none) ++ List.replicate (if rows.isEmpty then 1 else 0) .none)]]
theorem lnK_kvs {ln : Nat → Nat} {cs : List Nat} {c : Nat} (h : c ∈ cs) : lnK (kvsOf ln cs) c = ln c := by
  unfold lnK; rw [kvs_look ln h]; exact Int.toNat_natCast _
theorem count_congr {f g : Nat → Nat} : ∀ (cs : List Nat) (t : Int), (∀ c ∈ cs, f c = g c) → cs.foldl (fun t c => t * ((f c : Nat) : Int)) t = cs.foldl (fun t c => t * ((g c : Nat) : Int)) t
  | [], t, _ => rfl
  | c :: cs, t, h => by
    rw [List.foldl_cons, List.foldl_cons, h c List.mem_cons_self]
    exact count_congr cs _ fun q hq => h q (List.mem_cons_of_mem _ hq)
theorem count_kvs {ln : Nat → Nat} {cs ax : List Nat} (h : ax.Sublist cs) : countV (lnK (kvsOf ln cs)) ax = ((indicesV ln ax).length : Nat) := by
  rw [← count_rows]
  exact count_congr ax 1 fun c hc => lnK_kvs (h.subset hc)
theorem arrB_str (kvs : List (Str × D)) (z : Str) (cs : List D) : arrB kvs (.tuple [.str z, .tuple cs]) = (axesV (.str z) && (z.cps.toList.all (inK kvs) && (decide (countV (lnK kvs) z.cps.toList ≤ 2000) && (decide (((cs.length : Nat) : Int) = countV (lnK kvs) z.cps.toList) && cs.all valueV)))) := rfl
theorem ok_v {d : D} (h : ∃ a b : D, d = .tuple [a, b] ∧ isDict a = false ∧ isDict b = false) : ValOk d := by
  obtain ⟨a, b, rfl, h1, h2⟩ := h
  refine ⟨rfl, (fun l e => by cases e), fun l e y hy => ?_⟩
  cases e
  simp only [List.mem_cons, List.not_mem_nil, or_false] at hy
  rcases hy with rfl | rfl
  · exact h1
  · exact h2
theorem smallS_of {d : D} (h : ∀ z, d ≠ .str z) : SmallS d := fun z e => absurd e (h z)
theorem ok_01 : ValOk v01 := ok_v ⟨_, _, rfl, rfl, rfl⟩
theorem ok_no : ValOk .none := ⟨rfl, (fun l e => by cases e), fun l e => by cases e⟩
/-- (text, cells) -/
theorem arr_ok2 {z : Str} {cs : List D} (hz : z.cps.toList.length ≤ 5) (hl : cs.length ≤ 10000) (hv : ∀ v ∈ cs, ValOk v) : ArrOk (.tuple [.str z, .tuple cs]) := by
  refine ⟨rfl, (fun l e => by cases e), fun l e => ?_⟩
  cases e
  refine ⟨fun y hy => ?_, fun z' e => ?_⟩
  · simp only [List.mem_cons, List.not_mem_nil, or_false] at hy
    rcases hy with rfl | rfl
    · exact ⟨rfl, fun z' e => by cases e; omega, (fun m e => by cases e), fun m e => by cases e⟩
    · exact ⟨rfl, (fun z' e => by cases e), (fun m e => by cases e), fun m e => by cases e; exact ⟨hl, hv⟩⟩
  · cases e; exact hz
theorem odd_ok {axes : Str} {cells : List D} {rows : List Row} (ha : axes.cps.toList.length ≤ 5) (hl : cells.length ≤ 1024) (hr : rows.length ≤ 1024) (hv : ∀ v ∈ cells, ValOk v) : ∀ d ∈ oddA axes cells rows, ArrOk d := by
  have h01 : ∀ v ∈ ([v01] : List D), ValOk v := fun v hv => by rw [List.mem_singleton.mp hv]; exact ok_01
  intro d hd
  simp only [oddA, List.mem_cons, List.not_mem_nil, or_false] at hd
  rcases hd with rfl | rfl | rfl | rfl | rfl | rfl | rfl | rfl | rfl
  · exact ⟨rfl, (fun l e => by cases e), fun l e => by cases e⟩
  · exact ⟨rfl, (fun l e => by cases e), fun l e => by cases e⟩
  · refine ⟨rfl, (fun l e => by cases e), fun l e => ?_⟩
    cases e
    refine ⟨fun y hy => ?_, fun z' e => by cases e; exact ha⟩
    rw [List.mem_singleton.mp hy]
    exact ⟨rfl, fun z' e => by cases e; omega, (fun m e => by cases e), fun m e => by cases e⟩
  · refine ⟨rfl, (fun l e => by cases e), fun l e => ?_⟩
    cases e
    refine ⟨fun y hy => ?_, fun z' e => by cases e; exact ha⟩
    simp only [List.mem_cons, List.not_mem_nil, or_false] at hy
    rcases hy with rfl | rfl | rfl
    · exact ⟨rfl, fun z' e => by cases e; omega, (fun m e => by cases e), fun m e => by cases e⟩
    · exact ⟨rfl, (fun z' e => by cases e), (fun m e => by cases e), fun m e => by cases e; exact ⟨by omega, hv⟩⟩
    · exact ⟨rfl, (fun z' e => by cases e), (fun m e => by cases e), fun m e => by cases e⟩
  · refine ⟨rfl, (fun l e => by cases e), fun l e => ?_⟩
    cases e
    refine ⟨fun y hy => ?_, fun z' e => by cases e; exact ha⟩
    simp only [List.mem_cons, List.not_mem_nil, or_false] at hy
    rcases hy with rfl | rfl
    · exact ⟨rfl, fun z' e => by cases e; omega, (fun m e => by cases e), fun m e => by cases e⟩
    · exact ⟨rfl, (fun z' e => by cases e), (fun m e => by cases e), fun m e => by cases e⟩
  · exact arr_ok2 ha (by rw [List.length_append]; simp; omega) fun v hv' => (List.mem_append.mp hv').elim (hv v) (h01 v)
  · exact arr_ok2 (by decide) (by decide) h01
  · exact arr_ok2 (by decide) (by decide) fun v hv => by cases hv
  · refine arr_ok2 ha (by rw [List.length_append, List.length_map, List.length_replicate]; split <;> omega) fun v hv' => ?_
    rcases List.mem_append.mp hv' with h | h
    · obtain ⟨_, _, rfl⟩ := List.mem_map.mp h; exact ok_no
    · rw [List.eq_of_mem_replicate h]; exact ok_no
theorem odd_no {ln : Nat → Nat} {cs ax : List Nat} {axes : Str} {cells : List D} (hc : cs.Sublist five) (hs : ax.Sublist cs) (hax : axes.cps.toList = ax) (hl : cells.length = (indicesV ln ax).length) : ∀ d ∈ oddA axes cells (indicesV ln ax), arrB (kvsOf ln cs) d = false := by
  have hco := count_kvs (ln := ln) hs
  intro d hd
  simp only [oddA, List.mem_cons, List.not_mem_nil, or_false] at hd
  rcases hd with rfl | rfl | rfl | rfl | rfl | rfl | rfl | rfl | rfl
  · rfl
  · rfl
  · rfl
  · rfl
  · show (axesV (.str axes) && false) = false
    rw [Bool.and_false]
  · rw [arrB_str, hax, hco, decide_eq_false (p := (((cells ++ [v01]).length : Nat) : Int) = _) (by rw [List.length_append, hl]; show ¬ (((indicesV ln ax).length + 1 : Nat) : Int) = _; omega)]
    simp
  · rw [arrB_str]
    have : ("q" : Str).cps.toList.all (inK (kvsOf ln cs)) = false := by
      have e : inK (kvsOf ln cs) 113 = false := by
        unfold inK
        rw [kvs_none fun h => absurd (hc.subset h) (by decide)]; rfl
      show (inK (kvsOf ln cs) 113 && true) = false
      rw [e]; rfl
    rw [this]; simp
  · rw [arrB_str, show axesV (.str "ji") = false by decide]; rfl
  · rw [arrB_str]
    have : ((indicesV ln ax).map (fun _ => D.none) ++ List.replicate (if (indicesV ln ax).isEmpty then 1 else 0) D.none).all valueV = false := by
      cases indicesV ln ax with
      | nil => rfl
      | cons r rs => rfl
    rw [this]; simp
def wrongL : List D := [.none, .list [.tuple [.str "a", .int 1]], .tuple [.tuple [.str "a"]], .tuple [.tuple [.str "a", .int 10]], .tuple [.tuple [.str "a", .int (-1)]], .tuple [.tuple [.str "a", .bool true]], .tuple [.tuple [.str "b", .int 1], .tuple [.str "a", .int 1]],
  .tuple [.tuple [.str "a", .int 1], .tuple [.str "a", .int 2]], .tuple [.tuple [.str "ab", .int 1]], .tuple [.list [.str "a", .int 1]]]
theorem wrong_no : ∀ d ∈ wrongL, lensV d = false := by decide
theorem wrong_ok : ∀ d ∈ wrongL, LensOk d := by
  have i1s : ∀ z : Str, z.cps.toList.length ≤ 100 → Item1 (.str z) := fun z h => ⟨rfl, fun z' e => by cases e; exact h⟩
  have i1i : ∀ i : Int, Item1 (.int i) := fun i => ⟨rfl, fun z' e => by cases e⟩
  have i1b : ∀ i : Bool, Item1 (.bool i) := fun i => ⟨rfl, fun z' e => by cases e⟩
  have two : ∀ a b : D, Item1 a → Item1 b → Item2 (.tuple [a, b]) := fun a b h1 h2 => ⟨rfl, (fun l e => by cases e), fun l e y hy => by
    cases e
    simp only [List.mem_cons, List.not_mem_nil, or_false] at hy
    rcases hy with rfl | rfl
    · exact h1
    · exact h2⟩
  have one : ∀ ds : List D, ds.length ≤ 100 → (∀ d ∈ ds, Item2 d) → LensOk (.tuple ds) := fun ds h1 h2 => ⟨rfl, fun ds' e => by cases e; exact ⟨h1, h2⟩⟩
  have s1 : ∀ a : D, Item2 a → ∀ d ∈ [a], Item2 d := fun a h d hd => by rw [List.mem_singleton.mp hd]; exact h
  have s2 : ∀ a b : D, Item2 a → Item2 b → ∀ d ∈ [a, b], Item2 d := fun a b h1 h2 d hd => by
    simp only [List.mem_cons, List.not_mem_nil, or_false] at hd
    rcases hd with rfl | rfl
    · exact h1
    · exact h2
  intro d hd
  simp only [wrongL, List.mem_cons, List.not_mem_nil, or_false] at hd
  rcases hd with rfl | rfl | rfl | rfl | rfl | rfl | rfl | rfl | rfl | rfl
  · exact ⟨rfl, fun ds e => by cases e⟩
  · exact ⟨rfl, fun ds e => by cases e⟩
  · refine one _ (by decide) (s1 _ ⟨rfl, (fun l e => by cases e), fun l e y hy => ?_⟩)
    cases e
    rw [List.mem_singleton.mp hy]
    exact i1s _ (by decide)
  · exact one _ (by decide) (s1 _ (two _ _ (i1s _ (by decide)) (i1i _)))
  · exact one _ (by decide) (s1 _ (two _ _ (i1s _ (by decide)) (i1i _)))
  · exact one _ (by decide) (s1 _ (two _ _ (i1s _ (by decide)) (i1b _)))
  · exact one _ (by decide) (s2 _ _ (two _ _ (i1s _ (by decide)) (i1i _)) (two _ _ (i1s _ (by decide)) (i1i _)))
  · exact one _ (by decide) (s2 _ _ (two _ _ (i1s _ (by decide)) (i1i _)) (two _ _ (i1s _ (by decide)) (i1i _)))
  · exact one _ (by decide) (s1 _ (two _ _ (i1s _ (by decide)) (i1i _)))
  · exact one _ (by decide) (s1 _ ⟨rfl, (fun l e => by cases e), fun l e => by cases e⟩)
def axisL : List D := [.str "", .str "A", .str "ab", .str "1", .none, .int 5, .tuple [.str "a"]]
def axesL : List D := [.str "ba", .str "aa", .str "aB", .str "a b", .none, .int 5, .tuple [.str "a"]]
theorem axisL_no : ∀ d ∈ axisL, axisV d = false ∧ isDict d = false := by decide
theorem axesL_no : ∀ d ∈ axesL, axesV d = false ∧ isDict d = false := by decide
theorem small_L : ∀ d ∈ axisL ++ axesL, SmallS d := by
  intro d hd
  simp only [axisL, axesL, List.cons_append, List.nil_append, List.mem_cons, List.not_mem_nil, or_false] at hd
  rcases hd with rfl | rfl | rfl | rfl | rfl | rfl | rfl | rfl | rfl | rfl | rfl | rfl | rfl | rfl <;> exact fun z e => by first | (cases e; decide) | cases e
def rightL : List D := [.tuple [.int 0, .int 1], .tuple [.int (-3), .int 7], .tuple [.int great, .int 1], .tuple [.int 1, .int great]]
def badL : List D := [.none, .int 1, .tuple [.int 1, .int 0], .tuple [.int 2, .int 4], .tuple [.int (great + 1), .int 1], .tuple [.int 1, .int (great + 1)], .tuple [.bool true, .int 1], .tuple [.int 1], .list [.int 1, .int 2]]
theorem right_yes : ∀ d ∈ rightL, valueV d = true := by decide +kernel
theorem bad_no : ∀ d ∈ badL, valueV d = false := by decide +kernel
theorem vals_ok : ∀ d ∈ rightL ++ badL, ValOk d := by
  intro d hd
  simp only [rightL, badL, List.cons_append, List.nil_append, List.mem_cons, List.not_mem_nil, or_false] at hd
  rcases hd with rfl | rfl | rfl | rfl | rfl | rfl | rfl | rfl | rfl | rfl | rfl | rfl | rfl <;> first
    | exact ok_v ⟨_, _, rfl, rfl, rfl⟩
    | (refine ⟨rfl, (fun l e => by cases e), fun l e y hy => ?_⟩; first | (cases e; done) | (cases e; rw [List.mem_singleton.mp hy]; rfl))
end K04

set_option maxRecDepth 100000
set_option maxHeartbeats 1000000
namespace K04
open PySem PySem.Spec PyProof.Rows L2 Dv
theorem fm_no {α : Type} (l : List α) : l.filterMap (fun _ => (none : Option D)) = [] := List.filterMap_eq_nil_iff.mpr fun _ _ => rfl
theorem ok_rep (axes : Str) {n : Nat} (h : n ≤ 10000) : okD 3 (.tuple [.str axes, .tuple (List.replicate n (.tuple [.int 3, .int 2]))]) = true := by
  show (decide (2 ≤ 10000) && (okD 2 (.str axes) && (okD 2 (.tuple (List.replicate n (.tuple [.int 3, .int 2]))) && true))) = true
  have : okD 2 (.tuple (List.replicate n (.tuple [.int 3, .int 2]))) = true := by
    show (decide ((List.replicate n (D.tuple [.int 3, .int 2])).length ≤ 10000) && (List.replicate n (D.tuple [.int 3, .int 2])).all (okD 1)) = true
    rw [decide_eq_true (by rw [List.length_replicate]; exact h), Bool.true_and, List.all_eq_true]
    intro d hd
    rw [List.eq_of_mem_replicate hd]; rfl
  rw [this]; rfl
section
variable {X : Cx} {T : List TQ} {B : Bs} {ρ ρ1 : Sl} {W : List Addr} {a b : Expr} {pos : Pos}
theorem tx_isB {i j : Bool} (h : R2 X T B ρ a b W ρ1 (.bool i) (.bool j)) : TX X T B ρ (.Compare a [.Is] [b] pos) W ρ1 (decide (i = j)) :=
  tx_cmp op_isBl h (nomark _) (fun x y H Q r1 r2 q => ⟨i, j, bl_of r1, bl_of r2, q⟩)
end
section
variable {P : Program} {w : World} {K : PySem.W.Frag} {mg : Str → Option Value} {base : Heap} {T : List TQ}
/-- from same_all on -/
theorem law_tail {f : Addr} {cdv : Value} {A : Around} {outer : List Env} {s : Shared} {H : Hp} {E : XK} {B : Bs} {n : Nat} (hr : Room n (A.deeper (envOfC "law" (defScope sLaw) s.heap.objs.size f cdv))) (C : Cs P w K mg base T n)
    {sc : List Int} {l : Addr} {cs : List Nat} {ln : Nat → Nat} {axes : Str} {cells : Tab} (hc : cs.Sublist five) (hs : axes.cps.toList.Sublist cs) (h4 : ∀ c, ln c ≤ 4) (hv : ∀ v ∈ (indicesV ln axes.cps.toList).map (gt cells), ValOk v) (ns0 : List Int) :
    SXs (lawX P w K mg base f cdv A outer s H E) T B (lS sc l ns0 .un (.dat (.ptup (pairsD (kvsOf ln cs)))) .un (.dat (.str axes)) .un (.dat (.list ((indicesV ln axes.cps.toList).map rowD))) .un (.dat (arrD axes (indicesV ln axes.cps.toList) cells)) .un .un .un .un .un) ((defBody sLaw).drop 15) (lawK sc) := by
  obtain ⟨_, _, cs'⟩ := C.says
  obtain ⟨_, _, cto⟩ := C.told
  obtain ⟨_, _, ca3⟩ := C.al 3 (by decide)
  obtain ⟨_, _, cax⟩ := C.axis
  obtain ⟨_, _, caxs⟩ := C.axes
  obtain ⟨_, _, cle⟩ := C.lens
  obtain ⟨_, _, cva⟩ := C.value
  obtain ⟨_, _, car⟩ := C.arr
  obtain ⟨_, _, csa⟩ := C.same
  have hz : sizeLine = 16777216 := rfl
  have hnd : cs.Nodup := (five_asc.imp fun h e => by omega).sublist hc
  have hl5 : axes.cps.toList.length ≤ 5 := Nat.le_trans (hs.trans hc).length_le (by decide)
  have h9 : ∀ c, ln c ≤ 9 := fun c => Nat.le_trans (h4 c) (by decide)
  have kn := kvs_kn (ln := ln) hs hl5 h9
  have ko := kvs_ok (ln := ln) hnd h9
  have hnk := ko.nd
  have hrl := rows_1024 h4 hl5
  have hco : countV ln axes.cps.toList ≤ 2000 := by rw [count_rows]; omega
  have hoddN := odd_no (ln := ln) (cells := (indicesV ln axes.cps.toList).map (gt cells)) hc hs rfl (List.length_map ..)
  have hoddO := odd_ok (axes := axes) (cells := (indicesV ln axes.cps.toList).map (gt cells)) (rows := indicesV ln axes.cps.toList) hl5 (by rw [List.length_map]; exact hrl) hrl hv
  generalize kvsOf ln cs = kvs at *
  refine sx_ifR (kb := false) (TX.w (TX.to (tx_not (tx_val (ex_call ca3.ok hr rfl ca3.mg ca3.kp ca3.bs (ax_cons (ex_call csa.ok hr rfl csa.mg csa.kp csa.bs (ax_cons (nm 4) (ax_cons (nm 6) (ax_cons (ex_tup (ax_cons ex_int (ax_cons ex_int ax_nil)) (show (2 : Nat) ≤ sizeLine by decide)) ax_nil))) rfl ⟨kvs, ln, axes, .tuple [.int 3, .int 2], rfl, hnk, kn, hco, by omega, rfl, rfl⟩)
    (ax_cons (ex_tup (ax_cons (nm 6) (ax_cons (ex_rep (n := (indicesV ln axes.cps.toList).length) (ex_tup (ax_cons (ex_tup (ax_cons ex_int (ax_cons ex_int ax_nil)) (show (2 : Nat) ≤ sizeLine by decide)) ax_nil) (show (1 : Nat) ≤ sizeLine by decide)) (EX.to (ex_lenL (by rfl) C.mlen (EX.l (nm 8))) (by rw [List.length_map])) (by omega)) ax_nil)) (show (2 : Nat) ≤ sizeLine by decide)) ax_nil)) rfl ⟨_, _, rfl, rfl, ok_rep axes (by omega), rfl, rfl⟩) (fun _ => rfl))) rfl) rfl) (fun h => by cases h) (fun _ => ?_)
  refine st 16 scLaw.nd (EX.to (ex_tupP (ax_cons (ex_tup (ax_cons ex_str (ax_cons ex_int ax_nil)) (show (2 : Nat) ≤ sizeLine by decide)) (ax_cons (ex_tup (ax_cons ex_str (ax_cons ex_int ax_nil)) (show (2 : Nat) ≤ sizeLine by decide)) (ax_cons (ex_tup (ax_cons ex_str (ax_cons ex_int ax_nil)) (show (2 : Nat) ≤ sizeLine by decide)) (ax_cons (ex_tup (ax_cons ex_str (ax_cons ex_int ax_nil)) (show (2 : Nat) ≤ sizeLine by decide)) ax_nil)))) (show (4 : Nat) ≤ sizeLine by decide)) (show _ = D.ptup (pairsD bigK) by rfl)) ?_
  refine sx_ifR (kb := false) (WX.t (wx_or (k1 := false) (k2 := false || false) (TX.to (tx_neI (i := 729) (r2 (EX.to (ex_call cto.ok hr (by rfl) cto.mg cto.kp cto.bs (ax_cons (nm 16) (ax_cons ex_str ax_nil)) rfl ⟨bigK, bigL, "abc", rfl, big_ko.nd, big_kn (.inl rfl), rfl, rfl⟩) big_told1) ex_int)) rfl)
    (fun _ => wx_or (k1 := false) (k2 := false) (TX.to (tx_neS (i := "much") (r2 (EX.to (ex_call cto.ok hr (by rfl) cto.mg cto.kp cto.bs (ax_cons (nm 16) (ax_cons ex_str ax_nil)) rfl ⟨bigK, bigL, "abcd", rfl, big_ko.nd, big_kn (.inr rfl), rfl, rfl⟩) big_told2) ex_str)) rfl)
    (fun _ => wx_or1 (TX.w (TX.to (tx_notB (i := false) (r2 (EX.to (ex_call car.ok hr (by rfl) car.mg car.kp car.bs (ax_cons (nm 16) (ax_cons (ex_tup (ax_cons ex_str (ax_cons (ex_rep (n := 2187) (ex_tup (ax_cons (ex_tup (ax_cons ex_int (ax_cons ex_int ax_nil)) (show (2 : Nat) ≤ sizeLine by decide)) ax_nil) (show (1 : Nat) ≤ sizeLine by decide)) ex_int (by decide)) ax_nil)) (show (2 : Nat) ≤ sizeLine by decide)) ax_nil)) rfl
      ⟨bigK, .tuple [.str "abcd", .tuple (List.replicate 2187 v01)], rfl, big_ko, arr_ok2 (by decide) (by rw [List.length_replicate]; decide) (fun v hv => by rw [List.eq_of_mem_replicate hv]; exact ok_01), rfl, rfl⟩) (by rw [big_arr])) ex_bl)) rfl) rfl))))) (fun h => by cases h) (fun _ => ?_)
  refine st 17 scLaw.nd (ex_lst (ax_cons ex_non (ax_cons (ex_listT rfl C.ml (nm 12)) (ax_cons (ex_tup (ax_cons (nm 6) ax_nil) (show (1 : Nat) ≤ sizeLine by decide)) (ax_cons (ex_catT (nm 12) (ex_tup (ax_cons ex_int ax_nil) (show (1 : Nat) ≤ sizeLine by decide)) (by exact Nat.le_of_ble_eq_true rfl)) (ax_cons (ex_tup (ax_cons (nm 6) (ax_cons (ex_listT rfl C.ml (ex_ixT (nm 12) ex_int (Dv.atI_nat (i := 1) rfl) (fun _ _ => rfl))) ax_nil)) (show (2 : Nat) ≤ sizeLine by decide)) (ax_cons (ex_tup (ax_cons (nm 6) (ax_cons (ex_catT (ex_ixT (nm 12) ex_int (Dv.atI_nat (i := 1) rfl) (fun _ _ => rfl)) (ex_tup (ax_cons (ex_tup (ax_cons ex_int (ax_cons ex_int ax_nil)) (show (2 : Nat) ≤ sizeLine by decide)) ax_nil) (show (1 : Nat) ≤ sizeLine by decide)) (by rw [List.length_map]; show _ + 1 ≤ _; omega)) ax_nil)) (show (2 : Nat) ≤ sizeLine by decide)) (ax_cons (ex_tup (ax_cons ex_str (ax_cons (ex_tup (ax_cons (ex_tup (ax_cons ex_int (ax_cons ex_int ax_nil)) (show (2 : Nat) ≤ sizeLine by decide)) ax_nil) (show (1 : Nat) ≤ sizeLine by decide)) ax_nil)) (show (2 : Nat) ≤ sizeLine by decide)) (ax_cons (ex_tup (ax_cons ex_str (ax_cons (ex_tup ax_nil (Nat.zero_le _)) ax_nil)) (show (2 : Nat) ≤ sizeLine by decide)) ax_nil)))))))) (show (8 : Nat) ≤ sizeLine by decide)) ?_
  refine st (d := .list (oddA axes ((indicesV ln axes.cps.toList).map (gt cells)) (indicesV ln axes.cps.toList))) 17 scLaw.nd (EX.to (EO.ex (eo_cat (nm 17) (ex_lst (ax_cons (ex_tup (ax_cons (nm 6) (ax_cons (ex_catT (ds := (indicesV ln axes.cps.toList).map fun _ => D.none) (ex_tupleL rfl C.mt (EX.l (EX.to (EO.ex (eo_lcM (indicesV ln axes.cps.toList) rowD (fun _ => some .none) [("cell_of", 18)] rfl scLaw.nd (ix_l (nm 8)) (blk rfl (by rfl)) (by omega) rfl (fun q hq B' => ?_))) ?_))) (ex_rep (n := if (indicesV ln axes.cps.toList).isEmpty then 1 else 0) (ex_tup (ax_cons ex_non ax_nil) (show (1 : Nat) ≤ sizeLine by decide)) (EX.to (ex_intB (by rfl) C.mint (ex_eqE (hu2 hr) (r2 (nm 8) (ex_lst ax_nil (by decide))))) ?_) (by split <;> omega)) (by rw [List.length_map, List.length_replicate]; split <;> omega)) ax_nil)) (show (2 : Nat) ≤ sizeLine by decide)) ax_nil) (show (1 : Nat) ≤ sizeLine by decide)) (by exact Nat.le_of_ble_eq_true rfl))) ?_) ?_
  · exact tM rfl (fun s H C' cl fp => gn 18 scLaw.nd) (fun s H C' cl fp => txs_nil) (fun s H C' cl fp => ex_non) (by repeat (first | exact Fg.nil | refine Fg.same ?_ | refine Fg.un ?_))
  · rw [fm_some]
  · rw [List.isEmpty_map]; cases (indicesV ln axes.cps.toList).isEmpty <;> rfl
  · rfl
  refine sx_ifR (kb := false) (TX.w (TX.to (tx_neE (hu2 hr) (r2 (EO.ex (eo_lcM (oddA axes ((indicesV ln axes.cps.toList).map (gt cells)) (indicesV ln axes.cps.toList)) id (fun _ => none) [("value", 19)] rfl scLaw.nd (ix_l (EX.to (nm 17) (by rw [List.map_id]))) (blk rfl (by rfl)) (show (9 : Nat) ≤ sizeLine by decide) rfl (fun q hq B' => ?_))) (ex_lst ax_nil (by decide)))) (by rw [fm_no]; rfl)) rfl) (fun h => by cases h) (fun _ => ?_)
  · have h1 := hoddN q hq
    have h2 := hoddO q hq
    exact tN rfl (fun s H C' cl fp => gn 19 scLaw.nd) (fun s H C' cl fp => (txs_one (TX.w (TX.to (tx_not (tx_val (ex_call cs'.ok hr rfl cs'.mg cs'.kp cs'.bs (ax_cons (EX.to (ex_call car.ok hr (by rfl) car.mg car.kp car.bs (ax_cons (nm 4) (ax_cons (nm 19) ax_nil)) rfl ⟨kvs, q, rfl, ko, h2, rfl, rfl⟩) (by rw [h1])) (ax_cons ex_bl ax_nil)) rfl ⟨false, false, rfl, rfl, rfl⟩) (fun _ => rfl))) rfl) rfl))) (by repeat (first | exact Fg.nil | refine Fg.same ?_ | refine Fg.un ?_))
  refine sx_ifR (kb := false) (WX.t (wx_or (k1 := false) (k2 := false) (TX.to (tx_neE (hu2 hr) (r2 (EO.ex (eo_lcM ([.str "a", .str "z"] : List D) id (fun _ => none) [("one", 2)] rfl scLaw.nd (ix_l (EX.to (ex_lst (ax_cons ex_str (ax_cons ex_str ax_nil)) (show (2 : Nat) ≤ sizeLine by decide)) (by rfl))) (blk rfl (by rfl)) (show (2 : Nat) ≤ sizeLine by decide) rfl (fun q hq B' => ?_))) (ex_lst ax_nil (by decide)))) (by rw [fm_no]; rfl)) (fun _ => wx_or1 (TX.w (TX.to (tx_neE (hu2 hr) (r2 (EO.ex (eo_lcM axisL id (fun _ => none) [("one", 2)] rfl scLaw.nd (ix_l (EX.to (ex_lst (ax_cons ex_str (ax_cons ex_str (ax_cons ex_str (ax_cons ex_str (ax_cons ex_non (ax_cons ex_int (ax_cons (ex_tup (ax_cons ex_str ax_nil) (show (1 : Nat) ≤ sizeLine by decide)) ax_nil))))))) (show (7 : Nat) ≤ sizeLine by decide)) (by rfl))) (blk rfl (by rfl)) (show (7 : Nat) ≤ sizeLine by decide) rfl (fun q hq B' => ?_))) (ex_lst ax_nil (by decide)))) (by rw [fm_no]; rfl)) rfl)))) (fun h => by cases h) (fun _ => ?_)
  · have h1 : axisV q = true ∧ isDict q = false ∧ SmallS q := by
      simp only [List.mem_cons, List.not_mem_nil, or_false] at hq
      rcases hq with rfl | rfl <;> exact ⟨by decide, rfl, fun z e => by cases e; decide⟩
    obtain ⟨h1, h2, h3⟩ := h1
    exact tN rfl (fun s H C' cl fp => gn 2 scLaw.nd) (fun s H C' cl fp => txs_one (TX.w (TX.to (tx_notB (r2 (EX.to (ex_call cax.ok hr (by rfl) cax.mg cax.kp cax.bs (ax_cons (nm 2) ax_nil) rfl ⟨q, rfl, h2, h3, rfl, rfl⟩) (by rw [h1])) ex_bl)) rfl) rfl)) (by repeat (first | exact Fg.nil | refine Fg.same ?_ | refine Fg.un ?_))
  · obtain ⟨h1, h2⟩ := axisL_no q hq
    have h3 := small_L q (List.mem_append_left _ hq)
    exact tN rfl (fun s H C' cl fp => gn 2 scLaw.nd) (fun s H C' cl fp => txs_one (TX.w (TX.to (tx_notB (r2 (EX.to (ex_call cax.ok hr (by rfl) cax.mg cax.kp cax.bs (ax_cons (nm 2) ax_nil) rfl ⟨q, rfl, h2, h3, rfl, rfl⟩) (by rw [h1])) ex_bl)) rfl) rfl)) (by repeat (first | exact Fg.nil | refine Fg.same ?_ | refine Fg.un ?_))
  refine sx_ifR (kb := false) (WX.t (wx_or (k1 := false) (k2 := false) (TX.w (TX.to (tx_notB (i := true) (r2 (EX.to (ex_call caxs.ok hr (by rfl) caxs.mg caxs.kp caxs.bs (ax_cons ex_str ax_nil) rfl ⟨.str "", rfl, rfl, fun z e => by cases e; decide, rfl, rfl⟩) (by rfl)) ex_bl)) rfl) rfl) (fun _ => wx_or1 (TX.w (TX.to (tx_neE (hu2 hr) (r2 (EO.ex (eo_lcM axesL id (fun _ => none) [("one", 2)] rfl scLaw.nd (ix_l (EX.to (ex_lst (ax_cons ex_str (ax_cons ex_str (ax_cons ex_str (ax_cons ex_str (ax_cons ex_non (ax_cons ex_int (ax_cons (ex_tup (ax_cons ex_str ax_nil) (show (1 : Nat) ≤ sizeLine by decide)) ax_nil))))))) (show (7 : Nat) ≤ sizeLine by decide)) (by rfl))) (blk rfl (by rfl)) (show (7 : Nat) ≤ sizeLine by decide) rfl (fun q hq B' => ?_))) (ex_lst ax_nil (by decide)))) (by rw [fm_no]; rfl)) rfl)))) (fun h => by cases h) (fun _ => ?_)
  · obtain ⟨h1, h2⟩ := axesL_no q hq
    have h3 := small_L q (List.mem_append_right _ hq)
    exact tN rfl (fun s H C' cl fp => gn 2 scLaw.nd) (fun s H C' cl fp => txs_one (TX.w (TX.to (tx_notB (r2 (EX.to (ex_call caxs.ok hr (by rfl) caxs.mg caxs.kp caxs.bs (ax_cons (nm 2) ax_nil) rfl ⟨q, rfl, h2, h3, rfl, rfl⟩) (by rw [h1])) ex_bl)) rfl) rfl)) (by repeat (first | exact Fg.nil | refine Fg.same ?_ | refine Fg.un ?_))
  refine st (d := .list wrongL) 20 scLaw.nd (EX.to (ex_lst (ax_cons ex_non (ax_cons (ex_lst (ax_cons (ex_tup (ax_cons ex_str (ax_cons ex_int ax_nil)) (show (2 : Nat) ≤ sizeLine by decide)) ax_nil) (show (1 : Nat) ≤ sizeLine by decide)) (ax_cons (ex_tup (ax_cons (ex_tup (ax_cons ex_str ax_nil) (show (1 : Nat) ≤ sizeLine by decide)) ax_nil) (show (1 : Nat) ≤ sizeLine by decide)) (ax_cons (ex_tup (ax_cons (ex_tup (ax_cons ex_str (ax_cons ex_int ax_nil)) (show (2 : Nat) ≤ sizeLine by decide)) ax_nil) (show (1 : Nat) ≤ sizeLine by decide)) (ax_cons (ex_tup (ax_cons (ex_tup (ax_cons ex_str (ax_cons (EX.to (ex_neg ex_int) (by rfl)) ax_nil)) (show (2 : Nat) ≤ sizeLine by decide)) ax_nil) (show (1 : Nat) ≤ sizeLine by decide)) (ax_cons (ex_tup (ax_cons (ex_tup (ax_cons ex_str (ax_cons ex_bl ax_nil)) (show (2 : Nat) ≤ sizeLine by decide)) ax_nil) (show (1 : Nat) ≤ sizeLine by decide)) (ax_cons (ex_tup (ax_cons (ex_tup (ax_cons ex_str (ax_cons ex_int ax_nil)) (show (2 : Nat) ≤ sizeLine by decide)) (ax_cons (ex_tup (ax_cons ex_str (ax_cons ex_int ax_nil)) (show (2 : Nat) ≤ sizeLine by decide)) ax_nil)) (show (2 : Nat) ≤ sizeLine by decide)) (ax_cons (ex_tup (ax_cons (ex_tup (ax_cons ex_str (ax_cons ex_int ax_nil)) (show (2 : Nat) ≤ sizeLine by decide)) (ax_cons (ex_tup (ax_cons ex_str (ax_cons ex_int ax_nil)) (show (2 : Nat) ≤ sizeLine by decide)) ax_nil)) (show (2 : Nat) ≤ sizeLine by decide)) (ax_cons (ex_tup (ax_cons (ex_tup (ax_cons ex_str (ax_cons ex_int ax_nil)) (show (2 : Nat) ≤ sizeLine by decide)) ax_nil) (show (1 : Nat) ≤ sizeLine by decide)) (ax_cons (ex_tup (ax_cons (ex_lst (ax_cons ex_str (ax_cons ex_int ax_nil)) (show (2 : Nat) ≤ sizeLine by decide)) ax_nil) (show (1 : Nat) ≤ sizeLine by decide)) ax_nil)))))))))) (show (10 : Nat) ≤ sizeLine by decide)) (by rfl)) ?_
  refine sx_ifR (kb := false) (TX.w (TX.to (tx_neE (hu2 hr) (r2 (EO.ex (eo_lcM wrongL id (fun _ => none) [("value", 19)] rfl scLaw.nd (ix_l (EX.to (nm 20) (by rfl))) (blk rfl (by rfl)) (show (10 : Nat) ≤ sizeLine by decide) rfl (fun q hq B' => ?_))) (ex_lst ax_nil (by decide)))) (by rw [fm_no]; rfl)) rfl) (fun h => by cases h) (fun _ => ?_)
  · have h1 := wrong_no q hq
    have h2 := wrong_ok q hq
    exact tN rfl (fun s H C' cl fp => gn 19 scLaw.nd) (fun s H C' cl fp => (txs_one (TX.w (TX.to (tx_not (tx_val (ex_call cs'.ok hr rfl cs'.mg cs'.kp cs'.bs (ax_cons (EX.to (ex_call cle.ok hr (by rfl) cle.mg cle.kp cle.bs (ax_cons (nm 19) ax_nil) rfl ⟨q, rfl, h2, rfl, rfl⟩) (by rw [h1])) (ax_cons ex_bl ax_nil)) rfl ⟨false, false, rfl, rfl, rfl⟩) (fun _ => rfl))) rfl) rfl))) (by repeat (first | exact Fg.nil | refine Fg.same ?_ | refine Fg.un ?_))
  refine st (d := .int great) 21 scLaw.nd (EX.to (ex_pow ex_int ex_int ⟨by decide, by decide⟩) (by rfl)) ?_
  refine sx_setLcM 22 rightL id (fun d => some d) [("value", 19)] rfl scLaw.nd (ix_l (EX.to (ex_lst (ax_cons (ex_tup (ax_cons ex_int (ax_cons ex_int ax_nil)) (show (2 : Nat) ≤ sizeLine by decide)) (ax_cons (ex_tup (ax_cons (EX.to (ex_neg ex_int) (by rfl)) (ax_cons ex_int ax_nil)) (show (2 : Nat) ≤ sizeLine by decide)) (ax_cons (ex_tup (ax_cons (nm 21) (ax_cons ex_int ax_nil)) (show (2 : Nat) ≤ sizeLine by decide)) (ax_cons (ex_tup (ax_cons ex_int (ax_cons (nm 21) ax_nil)) (show (2 : Nat) ≤ sizeLine by decide)) ax_nil)))) (show (4 : Nat) ≤ sizeLine by decide)) (by rfl))) (blk rfl (by rfl)) (show (4 : Nat) ≤ sizeLine by decide) rfl (fun q hq B' => ?_) ?_
  · have h1 := right_yes q hq
    have h2 := vals_ok q (List.mem_append_left _ hq)
    exact tM rfl (fun s H C' cl fp => gn 19 scLaw.nd) (fun s H C' cl fp => txs_one (TX.w (TX.to (tx_isB (i := true) (r2 (EX.to (ex_call cva.ok hr (by rfl) cva.mg cva.kp cva.bs (ax_cons (nm 19) ax_nil) rfl ⟨q, rfl, h2, rfl, rfl⟩) (by rw [h1])) ex_bl)) rfl) rfl)) (fun s H C' cl fp => nm 19) (by repeat (first | exact Fg.nil | refine Fg.same ?_ | refine Fg.un ?_))
  refine sx_ret (EX.to (ex_and (k2 := true) (ex_eqI (i := 4) (r2 (EX.to (ex_lenL (by rfl) C.mlen (EX.l (nm 22))) (by rfl)) ex_int)) (fun _ => ex_one (EX.to (ex_eqE (hu2 hr) (r2 (EO.ex (eo_lcM badL id (fun _ => none) [("value", 19)] rfl scLaw.nd (ix_l (EX.to (ex_lst (ax_cons ex_non (ax_cons ex_int (ax_cons (ex_tup (ax_cons ex_int (ax_cons ex_int ax_nil)) (show (2 : Nat) ≤ sizeLine by decide)) (ax_cons (ex_tup (ax_cons ex_int (ax_cons ex_int ax_nil)) (show (2 : Nat) ≤ sizeLine by decide)) (ax_cons (ex_tup (ax_cons (ex_add (nm 21) ex_int) (ax_cons ex_int ax_nil)) (show (2 : Nat) ≤ sizeLine by decide)) (ax_cons (ex_tup (ax_cons ex_int (ax_cons (ex_add (nm 21) ex_int) ax_nil)) (show (2 : Nat) ≤ sizeLine by decide)) (ax_cons (ex_tup (ax_cons ex_bl (ax_cons ex_int ax_nil)) (show (2 : Nat) ≤ sizeLine by decide)) (ax_cons (ex_tup (ax_cons ex_int ax_nil) (show (1 : Nat) ≤ sizeLine by decide)) (ax_cons (ex_lst (ax_cons ex_int (ax_cons ex_int ax_nil)) (show (2 : Nat) ≤ sizeLine by decide)) ax_nil))))))))) (show (9 : Nat) ≤ sizeLine by decide)) (by rfl))) (blk rfl (by rfl)) (show (9 : Nat) ≤ sizeLine by decide) rfl (fun q hq B' => ?_))) (ex_lst ax_nil (by decide)))) (by rw [fm_no]; rfl)))) (by rfl)) ⟨rfl, back0 (args := [_])⟩
  · have h1 := bad_no q hq
    have h2 := vals_ok q (List.mem_append_right _ hq)
    exact tN rfl (fun s H C' cl fp => gn 19 scLaw.nd) (fun s H C' cl fp => txs_one (TX.w (TX.to (tx_notB (r2 (EX.to (ex_call cva.ok hr (by rfl) cva.mg cva.kp cva.bs (ax_cons (nm 19) ax_nil) rfl ⟨q, rfl, h2, rfl, rfl⟩) (by rw [h1])) ex_bl)) rfl) rfl)) (by repeat (first | exact Fg.nil | refine Fg.same ?_ | refine Fg.un ?_))
end
end K04

set_option maxRecDepth 100000
set_option maxHeartbeats 1000000
namespace K04
open PySem PySem.Spec PyProof.Rows L2 Dv
theorem tS {X : Cx} {T : List TQ} {B' : Bs} {ρ1 ρw ρw' ρb : Sl} {Wc : List Addr} {scope : Scope} {tg elt : Expr} {ifs : List Expr} {vs : List Nat} {dq : D} (h1 : ∀ s H C cl fp, GX (Bk X scope s H C cl fp) T B' ρw tg vs dq ρb) (h2 : ∀ s H C cl fp, TXs (Bk X scope s H C cl fp) T B' ρb ifs [] ρb false) (h5 : Fg ρb ρw')
    (o1 : owns ρb = owns ρ1 := by rfl) : ∃ ρb Wt ρt, owns ρb = owns ρ1 ∧ owns ρt = owns ρ1 ∧ (∀ a ∈ Wt, a ∈ Wc) ∧ (∀ s H C cl fp, GX (Bk X scope s H C cl fp) T B' ρw tg vs dq ρb) ∧ (∀ s H C cl fp, TXs (Bk X scope s H C cl fp) T B' ρb ifs Wt ρt (none : Option D).isSome) ∧
      (∀ z, (none : Option D) = some z → ∃ W ρc, (∀ a ∈ W, a ∈ Wc) ∧ owns ρc = owns ρ1 ∧ (∀ s H C cl fp, EX (Bk X scope s H C cl fp) T B' ρt elt W ρc z) ∧ Fg ρc ρw') ∧ ((none : Option D) = none → Fg ρt ρw') :=
  ⟨ρb, [], ρb, o1, o1, (fun a h => by cases h), h1, h2, (fun z hz => by cases hz), fun _ => h5⟩
/-! ### an index, and one with more axes -/
theorem idx_range {ax : List Nat} {row : Row} (hl : row.length = ax.length) : (List.range ax.length).map (fun k => D.tuple [sgD (ax.getD k 0), .int (row.getD k 0)]) = (idxOf ax row).map fun q => .tuple [.str q.1, q.2] := by
  unfold idxOf
  rw [List.map_map]
  apply List.ext_getElem
  · rw [List.length_map, List.length_range, List.length_map, List.length_zip]; omega
  · intro i h1 h2
    rw [List.length_map, List.length_range] at h1
    rw [List.getElem_map, List.getElem_map, List.getElem_range, List.getElem_zip]
    have e1 : ax.getD i 0 = ax[i] := by rw [List.getD_eq_getElem?_getD, List.getElem?_eq_getElem h1]; rfl
    have e2 : row.getD i 0 = row[i] := by rw [List.getD_eq_getElem?_getD, List.getElem?_eq_getElem (by omega)]; rfl
    rw [e1, e2]; rfl
theorem idx_fst {ax : List Nat} {row : Row} (hl : row.length = ax.length) : (idxOf ax row).map (·.1) = ax.map sg := by
  unfold idxOf
  rw [List.map_map]
  apply List.ext_getElem
  · rw [List.length_map, List.length_map, List.length_zip]; omega
  · intro i h1 h2
    rw [List.getElem_map, List.getElem_map, List.getElem_zip]; rfl
theorem idx_nd2 {ax : List Nat} {row : Row} (hn : ax.Nodup) (hl : row.length = ax.length) : ((idxOf ax row).map (·.1)).Nodup := by
  rw [idx_fst hl]
  exact List.pairwise_map.mpr (hn.imp fun hne e => hne (sg_inj e))
def moreStep (ax : List Nat) (ns : List Int) (c : Nat) : List Int × Option D := if c ∈ ax then (ns, none) else (takeR ns, some (.tuple [sgD c, .int (takeV ns 9)]))
theorem more_kvs (ax : List Nat) : ∀ (xs : List Nat) (ns : List Int), ∃ kvs : List (Str × D), (lcF (moreStep ax) ns xs).2 = (kvs.map fun q => D.tuple [.str q.1, q.2]) ∧ kvs.map (·.1) = (xs.filter fun c => !decide (c ∈ ax)).map sg
  | [], ns => ⟨[], rfl, rfl⟩
  | x :: xs, ns => by
    by_cases h : x ∈ ax
    · obtain ⟨kvs, h1, h2⟩ := more_kvs ax xs ns
      refine ⟨kvs, ?_, ?_⟩
      · show (moreStep ax ns x).2.toList ++ (lcF (moreStep ax) (moreStep ax ns x).1 xs).2 = _
        rw [show moreStep ax ns x = (ns, none) from if_pos h]
        exact h1
      · rw [List.filter_cons_of_neg (by simp [h])]; exact h2
    · obtain ⟨kvs, h1, h2⟩ := more_kvs ax xs (takeR ns)
      refine ⟨(sg x, .int (takeV ns 9)) :: kvs, ?_, ?_⟩
      · show (moreStep ax ns x).2.toList ++ (lcF (moreStep ax) (moreStep ax ns x).1 xs).2 = _
        rw [show moreStep ax ns x = (takeR ns, some (.tuple [sgD x, .int (takeV ns 9)])) from if_neg h]
        show _ :: (lcF (moreStep ax) (takeR ns) xs).2 = _
        rw [h1]; rfl
      · rw [List.filter_cons_of_pos (by simp [h]), List.map_cons, List.map_cons, h2]
theorem look_app {x : Str} : ∀ {k1 k2 : List (Str × D)}, x ∉ k1.map (·.1) → lookD (k1 ++ k2) x = lookD k2 x
  | [], k2, _ => rfl
  | q :: k1, k2, h => by
    rw [List.map_cons, List.mem_cons, not_or] at h
    have e : decide (q.1 = x) = false := decide_eq_false fun e => h.1 e.symm
    unfold lookD
    rw [List.cons_append, List.find?_cons, e]
    exact look_app h.2
theorem more_nd {ax : List Nat} {row : Row} {k1 : List (Str × D)} (hn : ax.Nodup) (hl : row.length = ax.length) (h1 : k1.map (·.1) = (five.filter fun c => !decide (c ∈ ax)).map sg) : ((k1 ++ idxOf ax row).map (·.1)).Nodup := by
  rw [List.map_append, h1, idx_fst hl, ← List.map_append]
  have hn5 : five.Nodup := by decide
  have : (five.filter (fun c => !decide (c ∈ ax)) ++ ax).Nodup := List.nodup_append.mpr ⟨hn5.sublist List.filter_sublist, hn, fun a ha b hb e => by
    subst e
    have := (List.mem_filter.mp ha).2
    simp [hb] at this⟩
  exact List.pairwise_map.mpr (this.imp fun hne e => hne (sg_inj e))
theorem more_look {ax : List Nat} {row : Row} {k1 : List (Str × D)} (h1 : k1.map (·.1) = (five.filter fun c => !decide (c ∈ ax)).map sg) {c : Nat} (hc : c ∈ ax) : lookD (k1 ++ idxOf ax row) (sg c) = lookD (idxOf ax row) (sg c) := by
  refine look_app fun h => ?_
  rw [h1] at h
  obtain ⟨c', h2, h3⟩ := List.mem_map.mp h
  have := (List.mem_filter.mp h2).2
  rw [sg_inj h3] at this
  simp [hc] at this
/-- the names in the order of the rows, looked at -/
theorem idx_keys {ax : List Nat} {row : Row} (hn : ax.Nodup) (hl : row.length = ax.length) : (idxOf ax row).filterMap (fun q => some (D.tuple [.str q.1, (lookD (idxOf ax row) q.1).getD .none])) = (idxOf ax row).map fun q => .tuple [.str q.1, q.2] := by
  rw [fm_all]
  refine List.map_congr_left fun q hq => ?_
  unfold idxOf at hq
  obtain ⟨p, hp, rfl⟩ := List.mem_map.mp hq
  rw [ix_idx hn p hp]; rfl
theorem ok_two {d : D} (h : okD 1 d = true) : okD 2 (.list [d, d]) = true := by
  show (decide (2 ≤ 10000) && (okD 1 d && (okD 1 d && true))) = true
  rw [h]; rfl
section
variable {P : Program} {w : World} {K : PySem.W.Frag} {mg : Str → Option Value} {base : Heap} {T : List TQ}
/-- from the loop over the rows on -/
theorem law_rows {f : Addr} {cdv : Value} {A : Around} {outer : List Env} {s : Shared} {H : Hp} {E : XK} {B : Bs} {n : Nat} (hr : Room n (A.deeper (envOfC "law" (defScope sLaw) s.heap.objs.size f cdv))) (C : Cs P w K mg base T n)
    {sc : List Int} {l : Addr} {cs : List Nat} {ln : Nat → Nat} {axes : Str} {cells : Tab} (hc : cs.Sublist five) (hs : axes.cps.toList.Sublist cs) (h4 : ∀ c, ln c ≤ 4) (hv : ∀ v ∈ (indicesV ln axes.cps.toList).map (gt cells), ValOk v ∧ okD 1 v = true) (hky : ∀ r ∈ indicesV ln axes.cps.toList, (lookE cells r).isSome = true) (ns0 : List Int) :
    SXs (lawX P w K mg base f cdv A outer s H E) T B (lS sc l ns0 .un (.dat (.ptup (pairsD (kvsOf ln cs)))) .un (.dat (.str axes)) .un (.dat (.list ((indicesV ln axes.cps.toList).map rowD))) (.dat (dD eR cells)) (.dat (arrD axes (indicesV ln axes.cps.toList) cells)) .un .un .un .un .un) ((defBody sLaw).drop 14) (lawK sc) := by
  obtain ⟨_, _, ct⟩ := C.tk
  obtain ⟨_, _, ca2⟩ := C.al 2 (by decide)
  obtain ⟨_, _, cce⟩ := C.cell
  have hz : sizeLine = 16777216 := rfl
  have hnd : cs.Nodup := (five_asc.imp fun h e => by omega).sublist hc
  have hna : axes.cps.toList.Nodup := hnd.sublist hs
  have hl5 : axes.cps.toList.length ≤ 5 := Nat.le_trans (hs.trans hc).length_le (by decide)
  have h9 : ∀ c, ln c ≤ 9 := fun c => Nat.le_trans (h4 c) (by decide)
  have kn := kvs_kn (ln := ln) hs hl5 h9
  have ko := kvs_ok (ln := ln) hnd h9
  have hnk := ko.nd
  refine sx_forI [11] (fun ns => lS sc l ns .un (.dat (.ptup (pairsD (kvsOf ln cs)))) .un (.dat (.str axes)) .un (.dat (.list ((indicesV ln axes.cps.toList).map rowD))) (.dat (dD eR cells)) (.dat (arrD axes (indicesV ln axes.cps.toList) cells)) .un .un .un .un .un) (fun _ _ => True) (fun _ => True) ns0 PassesOwn.never rfl
    (ix_l (ex_sliceTo (n := 20) (nm 8) ex_int)) (by repeat (first | exact Fg.nil | refine Fg.same ?_ | refine Fg.un ?_)) trivial (fun B1 i1 ns d hd _ => ?_) (fun _ _ => trivial) (fun ns _ => ?_)
  rotate_left
  · exact SXs.fg (law_tail hr C hc hs h4 (fun v h => (hv v h).1) ns) (by repeat (first | exact Fg.nil | refine Fg.same ?_ | refine Fg.un ?_))
  rw [List.getElem?_take] at hd
  split at hd
  rotate_left
  · cases hd
  rw [List.getElem?_map] at hd
  cases hst : (indicesV ln axes.cps.toList)[i1]? with
  | none => rw [hst] at hd; cases hd
  | some row =>
    rw [hst] at hd
    cases (Option.some.inj hd)
    have hrm := List.mem_of_getElem? hst
    obtain ⟨hl, hpl, hb⟩ := place_row hna hst
    have hb10 : ∀ q ∈ axes.cps.toList.zip row, 0 ≤ q.2 ∧ q.2 < 10 := fun q hq => by
      have h1 := hb q hq
      have h2 := h4 q.1
      omega
    have hcell : ((indicesV ln axes.cps.toList).map (gt cells))[placeV ln (ixOf axes.cps.toList row) axes.cps.toList]? = some (gt cells row) := by
      rw [hpl, List.getElem?_map, hst]; rfl
    have hlk := gt_some (hky row hrm)
    refine ⟨_, gn 11 scLaw.nd, ?_⟩
    have hzl : axes.length ≤ sizeLine := by
      show axes.cps.size ≤ sizeLine
      rw [← Array.length_toList]; omega
    have io := ix_ok (idx := idxOf axes.cps.toList row) hna hl hb10 (ix_idx hna)
    refine st (d := .dict (kvD (idxOf axes.cps.toList row))) 14 scLaw.nd (EX.to (EN.ex (en_dictLn (E := eS) (kvs := idxOf axes.cps.toList row) rfl (hu8 hr) (by rfl) C.md (EX.l (EX.to (EO.ex (eo_lcM (List.range axes.cps.toList.length) iD (fun k => some (.tuple [sgD (axes.cps.toList.getD k 0), .int (row.getD k 0)])) [("k", 13)] rfl scLaw.nd (ix_n (by rfl) C.mr (EX.to (ex_lenS (by rfl) C.mlen (nm 6) hzl) (by rfl)) (by omega)) (blk rfl (by rfl)) (by rw [List.length_range]; omega) rfl (fun k hk B' => ?_))) ?_)) (idx_nd2 hna hl))) (by rfl)) ?_
    · have hk' := List.mem_range.mp hk
      exact tM rfl (fun s H C' cl fp => gn 13 scLaw.nd) (fun s H C' cl fp => txs_nil) (fun s H C' cl fp => ex_tup (ax_cons (ex_ixS (nm 6) (nm 13) hzl (Dv.atI_nat (by rw [List.getD_eq_getElem?_getD, List.getElem?_eq_getElem hk']; rfl)) (fun _ _ => rfl)) (ax_cons (ex_ixT (nm 11) (nm 13) (Dv.atI_nat (by rw [List.getElem?_map, List.getD_eq_getElem?_getD, List.getElem?_eq_getElem (by omega)]; rfl)) (fun _ _ => rfl)) ax_nil)) (show (2 : Nat) ≤ sizeLine by decide))
        (by repeat (first | exact Fg.nil | refine Fg.same ?_ | refine Fg.un ?_))
    · rw [fm_some]
      exact congrArg D.list (idx_range hl)
    obtain ⟨k1, hk1, hk2⟩ := more_kvs axes.cps.toList five ns
    have io2 := ix_ok (idx := k1 ++ idxOf axes.cps.toList row) hna hl hb10 (fun q hq => by rw [more_look hk2 (List.of_mem_zip hq).1]; exact ix_idx hna q hq)
    have hk1l : k1.length ≤ 5 := by
      have := congrArg List.length hk2
      rw [List.length_map, List.length_map] at this
      rw [this]
      exact List.filter_sublist.length_le
    have hil : (idxOf axes.cps.toList row).length ≤ 5 := by
      unfold idxOf
      rw [List.length_map, List.length_zip]; omega
    refine st (d := .dict (kvD (k1 ++ idxOf axes.cps.toList row))) 15 scLaw.nd (EX.to (EN.ex (en_dictLn (E := eS) (kvs := k1 ++ idxOf axes.cps.toList row) rfl (hu8 hr) (by rfl) C.md (EX.l (EX.to (EO.ex (eo_cat (xs := k1.map fun q => D.tuple [.str q.1, q.2]) (ys := (idxOf axes.cps.toList row).map fun q => D.tuple [.str q.1, q.2])
      (EX.to (EO.ex (eo_lc (fun ns => lS sc l ns .un (.dat (.ptup (pairsD (kvsOf ln cs)))) .un (.dat (.str axes)) .un (.dat (.list ((indicesV ln axes.cps.toList).map rowD))) (.dat (dD eR cells)) (.dat (arrD axes (indicesV ln axes.cps.toList) cells)) .un .un .un .un .un |>.set 11 (.dat (rowD row)) |>.set 14 (.dat (.dict (kvD (idxOf axes.cps.toList row))))) ns (moreStep axes.cps.toList) sgD (own := [("one", 2)]) (Wc := [l]) (qs := five) rfl scLaw.nd (ix_s (z := ⟨#[97, 105, 106, 107, 122]⟩) ex_str) (blk rfl (by rfl)) (by decide) (fun s => .same (.own (Sh.refl _))) rfl (fun a ha => ha) (fun ns c hc => ⟨fun B' => ?_⟩))) (congrArg D.list hk1))
      (EX.to (EO.ex (eo_lcM (idxOf axes.cps.toList row) (fun q => .str q.1) (fun q => some (.tuple [.str q.1, (lookD (idxOf axes.cps.toList row) q.1).getD .none])) [("one", 2)] rfl scLaw.nd (ix_keys (E := eS) (nm 14)) (blk rfl (by rfl)) (by omega) rfl (fun q hq B' => ?_))) (congrArg D.list (idx_keys hna hl))) ?_)) ?_)) (more_nd hna hl hk2))) (by rfl)) ?_
    · by_cases h : c ∈ axes.cps.toList
      · rw [show moreStep axes.cps.toList ns c = (ns, none) from if_pos h]
        exact tS (fun s H C' cl fp => gn 2 scLaw.nd) (fun s H C' cl fp => txs_one (TX.w (TX.to (tx_notIn1 (c := c) (r2 (nm 2) (nm 6))) (by rw [decide_eq_true h]; rfl)) rfl)) (by repeat (first | exact Fg.nil | refine Fg.same ?_ | refine Fg.un ?_))
      · rw [show moreStep axes.cps.toList ns c = (takeR ns, some (.tuple [sgD c, .int (takeV ns 9)])) from if_neg h]
        exact tW (fun s H C' cl fp => gn 2 scLaw.nd) (fun s H C' cl fp => txs_one (TX.w (TX.to (tx_notIn1 (c := c) (r2 (nm 2) (nm 6))) (by rw [decide_eq_false h]; rfl)) rfl)) (fun s H C' cl fp => ex_tup (ax_cons (nm 2) (ax_cons (tk 1 ct hr (by decide)) ax_nil)) (show (2 : Nat) ≤ sizeLine by decide)) (by repeat (first | exact Fg.nil | refine Fg.same ?_ | refine Fg.un ?_)) (fun a ha => by simpa using ha)
    · have hlq : lookD (idxOf axes.cps.toList row) q.1 = some ((lookD (idxOf axes.cps.toList row) q.1).getD .none) := by
        have hq' := hq
        unfold idxOf at hq'
        obtain ⟨p, hp, rfl⟩ := List.mem_map.mp hq'
        rw [ix_idx hna p hp]; rfl
      exact tM rfl (fun s H C' cl fp => gn 2 scLaw.nd) (fun s H C' cl fp => txs_nil) (fun s H C' cl fp => ex_tup (ax_cons (nm 2) (ax_cons (ex_dgetS (hu_of hr) (nm 14) (nm 2) hlq) ax_nil)) (show (2 : Nat) ≤ sizeLine by decide)) (by repeat (first | exact Fg.nil | refine Fg.same ?_ | refine Fg.un ?_))
    · rw [List.length_map, List.length_map]; omega
    · rw [List.map_append]; rfl
    have hg1 := (hv _ (List.mem_map_of_mem hrm)).2
    refine sx_ifR (kb := false) (TX.w (TX.to (tx_not (tx_val (ex_call ca2.ok hr (by rfl) ca2.mg ca2.kp ca2.bs (ax_cons (ex_lst (ax_cons (ex_call cce.ok hr (by rfl) cce.mg cce.kp cce.bs (ax_cons (nm 4) (ax_cons (nm 12) (ax_cons (nm 14) ax_nil))) rfl ⟨kvsOf ln cs, ln, idxOf axes.cps.toList row, ixOf axes.cps.toList row, axes, (indicesV ln axes.cps.toList).map (gt cells), rfl, hnk, kn, io, hcell, rfl⟩)
      (ax_cons (ex_call cce.ok hr (by rfl) cce.mg cce.kp cce.bs (ax_cons (nm 4) (ax_cons (nm 12) (ax_cons (nm 15) ax_nil))) rfl ⟨kvsOf ln cs, ln, k1 ++ idxOf axes.cps.toList row, ixOf axes.cps.toList row, axes, (indicesV ln axes.cps.toList).map (gt cells), rfl, hnk, kn, io2, hcell, rfl⟩) ax_nil)) (show (2 : Nat) ≤ sizeLine by decide))
      (ax_cons (ex_lst (ax_cons (ex_dget (E := eR) (k := row) (hu_of hr) (nm 10) (nm 11) hlk) (ax_cons (ex_dget (E := eR) (k := row) (hu_of hr) (nm 10) (nm 11) hlk) ax_nil)) (show (2 : Nat) ≤ sizeLine by decide)) ax_nil)) rfl ⟨_, _, rfl, rfl, ok_two hg1, rfl, rfl⟩) (fun _ => rfl))) rfl) rfl) (fun h => by cases h) (fun _ => sx_nil ⟨_, trivial, by repeat (first | exact Fg.nil | refine Fg.same ?_ | refine Fg.un ?_)⟩)
end
end K04

set_option maxRecDepth 100000
set_option maxHeartbeats 1000000
namespace K04
open PySem PySem.Spec PyProof.Rows L2 Dv
theorem rows_nd {ln : Nat → Nat} {cs : List Nat} (hn : cs.Nodup) : (indicesV ln cs).Nodup := by
  refine List.pairwise_iff_getElem.mpr fun i j hi hj hij e => ?_
  have h1 := (place_row hn (List.getElem?_eq_getElem hi)).2.1
  have h2 := (place_row hn (List.getElem?_eq_getElem hj)).2.1
  rw [e] at h1
  omega
theorem look_mem {κ : Type} [DecidableEq κ] {kvs : List (κ × D)} {k : κ} {d : D} (h : lookE kvs k = some d) : (k, d) ∈ kvs := by
  unfold lookE at h
  obtain ⟨q, hq, e⟩ := Option.map_eq_some_iff.mp h
  have h1 := List.find?_some hq
  have h2 := List.mem_of_find?_eq_some hq
  have : q.1 = k := by simpa using h1
  rw [← this, ← e]
  exact h2
theorem look_isSome {κ : Type} [DecidableEq κ] {kvs : List (κ × D)} {k : κ} : (lookE kvs k).isSome = true ↔ k ∈ kvs.map (·.1) := by
  unfold lookE
  rw [Option.isSome_map, List.find?_isSome]
  constructor
  · rintro ⟨q, hq, e⟩
    exact List.mem_map.mpr ⟨q, hq, by simpa using e⟩
  · intro h
    obtain ⟨q, hq, e⟩ := List.mem_map.mp h
    exact ⟨q, hq, by simpa using e⟩
def cellStep (ns : List Int) (r : Row) : List Int × Option D := (takeR (takeR ns), some (.tuple [rowD r, frD (madeV (takeV ns 99 - 49) (1 + takeV (takeR ns) 9))]))
/-- a cell's value -/
def GoodV (d : D) : Prop := (∃ a b : Int, d = .tuple [.int a, .int b]) ∧ valueV d = true
theorem cell_ok : ∀ (rs : List Row) (ns : List Int), ∃ cells : Tab, (lcF cellStep ns rs).2 = (cells.map fun q => .tuple [eR.d q.1, q.2]) ∧ cells.map (·.1) = rs ∧ ∀ q ∈ cells, GoodV q.2
  | [], ns => ⟨[], rfl, rfl, fun _ h => by cases h⟩
  | r :: rs, ns => by
    obtain ⟨cells, h1, h2, h3⟩ := cell_ok rs (takeR (takeR ns))
    have t1 := take_rng ns (b := 99) (by decide)
    have t2 := take_rng (takeR ns) (b := 9) (by decide)
    have hv := val_all (takeV ns 99).toNat (List.mem_range.mpr (by omega)) (takeV (takeR ns) 9).toNat (List.mem_range.mpr (by omega))
    rw [show (((takeV ns 99).toNat : Nat) : Int) = takeV ns 99 by omega, show (((takeV (takeR ns) 9).toNat : Nat) : Int) = takeV (takeR ns) 9 by omega] at hv
    refine ⟨(r, frD (madeV (takeV ns 99 - 49) (1 + takeV (takeR ns) 9))) :: cells, ?_, by rw [List.map_cons, h2], fun q hq => ?_⟩
    · show [_] ++ (lcF cellStep (takeR (takeR ns)) rs).2 = _
      rw [h1]; rfl
    · rcases List.mem_cons.mp hq with rfl | hq
      · exact ⟨⟨_, _, rfl⟩, hv⟩
      · exact h3 q hq
theorem good_ok {d : D} (h : GoodV d) : ValOk d ∧ okD 1 d = true := by
  obtain ⟨⟨a, b, rfl⟩, _⟩ := h
  exact ⟨ok_v ⟨_, _, rfl, rfl, rfl⟩, rfl⟩
theorem ok_arrD {axes : Str} {cv : List D} (h : ∀ v ∈ cv, okD 1 v = true) (hl : cv.length ≤ 10000) : okD 3 (.tuple [.str axes, .tuple cv]) = true := by
  show (decide (2 ≤ 10000) && (okD 2 (.str axes) && (okD 2 (.tuple cv) && true))) = true
  have : okD 2 (.tuple cv) = true := by
    show (decide (cv.length ≤ 10000) && cv.all (okD 1)) = true
    rw [decide_eq_true hl, Bool.true_and, List.all_eq_true]
    exact h
  rw [this]; rfl
section
variable {P : Program} {w : World} {K : PySem.W.Frag} {mg : Str → Option Value} {base : Heap} {T : List TQ}
/-- from the cells on -/
theorem law_cells {f : Addr} {cdv : Value} {A : Around} {outer : List Env} {s : Shared} {H : Hp} {E : XK} {B : Bs} {n : Nat} (hr : Room n (A.deeper (envOfC "law" (defScope sLaw) s.heap.objs.size f cdv))) (C : Cs P w K mg base T n)
    {sc : List Int} {l : Addr} {cs : List Nat} {ln : Nat → Nat} {axes : Str} (hc : cs.Sublist five) (hs : axes.cps.toList.Sublist cs) (h4 : ∀ c, ln c ≤ 4) (ns0 : List Int) :
    SXs (lawX P w K mg base f cdv A outer s H E) T B (lS sc l ns0 .un (.dat (.ptup (pairsD (kvsOf ln cs)))) .un (.dat (.str axes)) .un (.dat (.list ((indicesV ln axes.cps.toList).map rowD))) .un .un .un .un .un .un .un) ((defBody sLaw).drop 11) (lawK sc) := by
  obtain ⟨_, _, ct⟩ := C.tk
  obtain ⟨_, _, cm⟩ := C.made
  obtain ⟨_, _, cs'⟩ := C.says
  obtain ⟨_, _, ca3⟩ := C.al 3 (by decide)
  obtain ⟨_, _, car⟩ := C.arr
  obtain ⟨_, _, cfr⟩ := C.from_
  have hz : sizeLine = 16777216 := rfl
  have hnd : cs.Nodup := (five_asc.imp fun h e => by omega).sublist hc
  have hna : axes.cps.toList.Nodup := hnd.sublist hs
  have hl5 : axes.cps.toList.length ≤ 5 := Nat.le_trans (hs.trans hc).length_le (by decide)
  have h9 : ∀ c, ln c ≤ 9 := fun c => Nat.le_trans (h4 c) (by decide)
  have kn := kvs_kn (ln := ln) hs hl5 h9
  have ko := kvs_ok (ln := ln) hnd h9
  have hnk := ko.nd
  have hrl := rows_1024 h4 hl5
  have hco : countV ln axes.cps.toList ≤ 2000 := by rw [count_rows]; omega
  have hrn := rows_nd (ln := ln) hna
  obtain ⟨cells, hce, hck, hcg⟩ := cell_ok (indicesV ln axes.cps.toList) ns0
  have hky : ∀ r ∈ indicesV ln axes.cps.toList, (lookE cells r).isSome = true := fun r hr' => look_isSome.mpr (by rw [hck]; exact hr')
  have hgood : ∀ v ∈ (indicesV ln axes.cps.toList).map (gt cells), GoodV v := fun v hv => by
    obtain ⟨r, hr', rfl⟩ := List.mem_map.mp hv
    exact hcg _ (look_mem (gt_some (hky r hr')))
  refine st 10 scLaw.nd (EN.ex (en_dictLn (E := eR) (kvs := cells) rfl (hu8 hr) rfl C.md (EX.l (EX.to (EO.ex (eo_lc (fun ns => lS sc l ns .un (.dat (.ptup (pairsD (kvsOf ln cs)))) .un (.dat (.str axes)) .un (.dat (.list ((indicesV ln axes.cps.toList).map rowD))) .un .un .un .un .un .un .un) ns0 cellStep rowD (own := [("row", 11)]) (Wc := [l]) rfl scLaw.nd (ix_l (nm 8)) (blk rfl (by rfl)) (by omega) (fun s => .same (.own (Sh.refl _))) rfl (fun a ha => ha) (fun ns c hc => ⟨fun B' => ?_⟩))) (congrArg D.list hce))) (by rw [hck]; exact hrn))) ?_
  · refine tW (fun s H C cl fp => gn 11 scLaw.nd) (fun s H C cl fp => txs_nil) (fun s H C cl fp => ex_tup (ax_cons (nm 11) (ax_cons (ex_call cm.ok hr rfl cm.mg cm.kp cm.bs (ax_cons (ex_sub (tk 1 ct hr (by decide)) ex_int) (ax_cons (ex_add ex_int (tk 1 ct hr (by decide))) ax_nil)) rfl ⟨_, _, rfl, ?_, ?_, rfl, rfl⟩) ax_nil)) (show (2 : Nat) ≤ sizeLine by decide))
        (by repeat (first | exact Fg.nil | refine Fg.same ?_ | refine Fg.un ?_)) (fun a ha => by simpa using ha)
    · have := take_rng (takeR ns) (b := 9) (by decide); omega
    · have := take_rng (takeR ns) (b := 9) (by decide); omega
  generalize (lcF cellStep ns0 (indicesV ln axes.cps.toList)).1 = ns1
  refine st (d := arrD axes (indicesV ln axes.cps.toList) cells) 12 scLaw.nd (EX.to (ex_tup (ax_cons (nm 6) (ax_cons (ex_tupleL (by rfl) C.mt (EX.l (EX.to (EO.ex (eo_lcM (indicesV ln axes.cps.toList) rowD (fun r => some (gt cells r)) [("row", 11)] rfl scLaw.nd (ix_l (nm 8)) (blk rfl (by rfl)) (by omega) rfl (fun r hr' B3 => ?_))) (d1 := .list ((indicesV ln axes.cps.toList).map (gt cells))) ?_))) ax_nil)) (show (2 : Nat) ≤ sizeLine by decide)) (by rfl)) ?_
  · exact tM rfl (fun s H C' cl fp => gn 11 scLaw.nd) (fun s H C' cl fp => txs_nil) (fun s H C' cl fp => ex_dget (E := eR) (k := r) (hu_of hr) (nm 10) (nm 11) (gt_some (hky r hr')))
      (by repeat (first | exact Fg.nil | refine Fg.same ?_ | refine Fg.un ?_))
  · rw [fm_all]
  have harr : arrB (kvsOf ln cs) (arrD axes (indicesV ln axes.cps.toList) cells) = true := by
    have hsub := sub_mem (hs.trans hc)
    unfold arrD
    rw [arrB_str, count_kvs hs]
    have e1 : axesV (.str axes) = true := by
      have := axes_all _ hsub
      show (axes.cps.toList.all axV && ascV axes.cps.toList) = true
      rw [this.1, this.2]; rfl
    have e2 : axes.cps.toList.all (inK (kvsOf ln cs)) = true := List.all_eq_true.mpr fun c hc' => by
      unfold inK
      rw [kvs_look ln (hs.subset hc')]; rfl
    have e3 : ((indicesV ln axes.cps.toList).map (gt cells)).all valueV = true := List.all_eq_true.mpr fun v hv => (hgood v hv).2
    rw [e1, e2, e3, decide_eq_true (by omega), decide_eq_true (by rw [List.length_map])]; rfl
  refine sx_ifR (kb := false) (WX.t (wx_or (k1 := false) (k2 := false) (TX.w (TX.to (tx_not (tx_val (ex_call cs'.ok hr (by rfl) cs'.mg cs'.kp cs'.bs (ax_cons (EX.to (ex_call car.ok hr (by rfl) car.mg car.kp car.bs (ax_cons (nm 4) (ax_cons (nm 12) ax_nil)) rfl
      ⟨kvsOf ln cs, arrD axes (indicesV ln axes.cps.toList) cells, rfl, ko, arr_ok2 hl5 (by rw [List.length_map]; omega) (fun v hv => (good_ok (hgood v hv)).1), rfl, rfl⟩) (by rw [harr])) (ax_cons ex_bl ax_nil)) rfl ⟨true, true, rfl, rfl, rfl⟩) (fun _ => rfl))) rfl) rfl)
    (fun _ => wx_or1 (TX.w (TX.to (tx_not (tx_val (ex_call ca3.ok hr (by rfl) ca3.mg ca3.kp ca3.bs (ax_cons (ex_call cfr.ok hr (by rfl) cfr.mg cfr.kp cfr.bs (ax_cons (nm 4) (ax_cons (nm 6) (ax_cons (nm 10) ax_nil))) rfl ⟨kvsOf ln cs, ln, axes, cells, rfl, hnk, kn, hco, hky, rfl, rfl⟩) (ax_cons (nm 12) ax_nil)) rfl
      ⟨_, _, rfl, rfl, ok_arrD (fun v hv => (good_ok (hgood v hv)).2) (by rw [List.length_map]; omega), rfl, rfl⟩) (fun _ => rfl))) rfl) rfl)))) (fun h => by cases h) (fun _ => ?_)
  exact SXs.fg (law_rows hr C hc hs h4 (fun v hv => good_ok (hgood v hv)) hky ns1) (by repeat (first | exact Fg.nil | refine Fg.same ?_ | refine Fg.un ?_))
end
end K04

set_option maxRecDepth 100000
set_option maxHeartbeats 1000000
namespace K04
open PySem PySem.Spec PyProof.Rows L2 Dv
theorem lens_ok {ln : Nat → Nat} {cs : List Nat} (h : cs.length ≤ 5) : LensOk (.ptup (pairsD (kvsOf ln cs))) := by
  refine ⟨rfl, fun ds e => ?_⟩
  cases e
  refine ⟨by rw [pairs_of, List.length_map]; omega, fun d hd => ?_⟩
  rw [pairs_of] at hd
  obtain ⟨c, _, rfl⟩ := List.mem_map.mp hd
  refine ⟨rfl, (fun l e => by cases e), fun l e y hy => ?_⟩
  cases e
  simp only [List.mem_cons, List.not_mem_nil, or_false] at hy
  rcases hy with rfl | rfl
  · exact ⟨rfl, fun z e => by cases e; show 1 ≤ 100; decide⟩
  · exact ⟨rfl, fun z e => by cases e⟩
theorem ok_rows {rows : List Row} {m : Int} (h1 : rows.length ≤ 10000) (h2 : ∀ r ∈ rows, r.length ≤ 100) : okD 3 (.list [.list (rows.map rowD), .int m]) = true := by
  have h : okD 2 (.list (rows.map rowD)) = true := by
    show (decide ((rows.map rowD).length ≤ 10000) && (rows.map rowD).all (okD 1)) = true
    rw [decide_eq_true (by rw [List.length_map]; omega), Bool.true_and, List.all_eq_true]
    intro d hd
    obtain ⟨r, hr, rfl⟩ := List.mem_map.mp hd
    have := h2 r hr
    show (decide ((r.map D.int).length ≤ 10000) && (r.map D.int).all (okD 0)) = true
    rw [decide_eq_true (by rw [List.length_map]; omega), Bool.true_and, List.all_eq_true]
    intro d hd
    obtain ⟨i, _, rfl⟩ := List.mem_map.mp hd
    rfl
  show (decide (2 ≤ 10000) && (okD 2 (.list (rows.map rowD)) && (okD 2 (.int m) && true))) = true
  rw [h]; rfl
theorem fm_if {cs : List Nat} (p : Nat → Bool) : cs.filterMap (fun c => if p c = true then some (sgD c) else none) = (cs.filter p).map sgD := by
  induction cs with
  | nil => rfl
  | cons c cs ih =>
    rw [List.filterMap_cons]
    cases h : p c with
    | true => rw [List.filter_cons_of_pos h, List.map_cons, ← ih]; rfl
    | false => rw [List.filter_cons_of_neg (by rw [h]; exact Bool.false_ne_true), ← ih]; rfl
theorem sg_ne (x c : Nat) : (!decide (sg x = sg c)) = !decide (x = c) := by
  by_cases h : x = c
  · subst h; simp
  · rw [decide_eq_false h, decide_eq_false fun e => h (sg_inj e)]
theorem sgs (l : List Nat) : l.map sgD = (l.map sg).map .str := by rw [List.map_map]; rfl
section
variable {P : Program} {w : World} {K : PySem.W.Frag} {mg : Str → Option Value} {base : Heap} {T : List TQ}
/-- from known on -/
theorem law_known {f : Addr} {cdv : Value} {A : Around} {outer : List Env} {s : Shared} {H : Hp} {E : XK} {B : Bs} {n : Nat} (hr : Room n (A.deeper (envOfC "law" (defScope sLaw) s.heap.objs.size f cdv))) (C : Cs P w K mg base T n)
    {sc : List Int} {l : Addr} {cs : List Nat} {ln : Nat → Nat} (hc : cs.Sublist five) (h4 : ∀ c, ln c ≤ 4) (ns3 : List Int) :
    SXs (lawX P w K mg base f cdv A outer s H E) T B (lS sc l ns3 (.dat (.list (cs.map sgD))) (.dat (.ptup (pairsD (kvsOf ln cs)))) .un .un .un .un .un .un .un .un .un .un .un) ((defBody sLaw).drop 3) (lawK sc) := by
  obtain ⟨_, _, ct⟩ := C.tk
  obtain ⟨_, _, cs'⟩ := C.says
  obtain ⟨_, _, cix⟩ := C.idx
  obtain ⟨_, _, ca1⟩ := C.al 1 (by decide)
  obtain ⟨_, _, ca3⟩ := C.al 3 (by decide)
  obtain ⟨_, _, cle⟩ := C.lens
  obtain ⟨_, _, cax⟩ := C.axes
  obtain ⟨_, _, cin⟩ := C.ind
  obtain ⟨_, _, cco⟩ := C.count
  obtain ⟨_, _, cjo⟩ := C.joined
  obtain ⟨fw, wr, mw, kw⟩ := C.wo
  have hz : sizeLine = 16777216 := rfl
  have hl0 : cs.length ≤ 5 := hc.length_le
  have hnd : cs.Nodup := (five_asc.imp fun h e => by omega).sublist hc
  have h9 : ∀ c, ln c ≤ 9 := fun c => Nat.le_trans (h4 c) (by decide)
  have ko := kvs_ok (ln := ln) hnd h9
  have hnk := ko.nd
  have hlt := lens_true h9 (axes_all cs (sub_mem hc))
  obtain ⟨ax, hs, hax⟩ := pick_ok 2 (fun v => decide (v = 0)) cs ns3
  generalize hns4 : (lcF (pickStep 2 (fun v => decide (v = 0))) ns3 cs).1 = ns4
  obtain ⟨ot, ho, hot⟩ := pick_ok 2 (fun v => decide (v = 0)) cs ns4
  generalize hns5 : (lcF (pickStep 2 (fun v => decide (v = 0))) ns4 cs).1 = ns5
  have haj := join_all ax (sub_mem (hs.trans hc))
  have hoj := join_all ot (sub_mem (ho.trans hc))
  have hal : ax.length ≤ 5 := Nat.le_trans hs.length_le hl0
  have hol : ot.length ≤ 5 := Nat.le_trans ho.length_le hl0
  refine sx_setT 5 scLaw.nd (EN.ex (en_dictP (kvs := kvsOf ln cs) rfl (hu8 hr) rfl C.md (nm 4) hnk)) ?_
  refine sxT_cons (fun ρ' => ρ' = lS sc l ns3 (.dat (.list (cs.map sgD))) (.dat (.ptup (pairsD (kvsOf ln cs)))) (.dat (.dict (kvD (kvsOf ln cs)))) .un .un .un .un .un .un .un .un .un .un) ?_ (fun ρ' e => ?_)
  · refine sx_ifR (kb := false) (TX.w (TX.to (tx_not (tx_val (ex_call cs'.ok hr (by rfl) cs'.mg cs'.kp cs'.bs (ax_cons (EX.to (ex_call cle.ok hr (by rfl) cle.mg cle.kp cle.bs (ax_cons (nm 4) ax_nil) rfl ⟨.ptup (pairsD (kvsOf ln cs)), rfl, lens_ok hl0, rfl, rfl⟩) (by rw [hlt])) (ax_cons ex_bl ax_nil)) rfl ⟨true, true, rfl, rfl, rfl⟩) (fun _ => rfl))) rfl) rfl) (fun h => by cases h) (fun _ => sx_nil rfl)
  subst e
  refine sxT_cons (fun ρ' => ρ' = lS sc l ns4 (.dat (.list (cs.map sgD))) (.dat (.ptup (pairsD (kvsOf ln cs)))) (.dat (.dict (kvD (kvsOf ln cs)))) (.dat (.str (Txt.join "" (ax.map sg)))) .un .un .un .un .un .un .un .un .un) ?_ (fun ρ' e => ?_)
  · refine st 6 scLaw.nd (ex_join (ys := ax.map sg) ex_str (EX.l (EX.to (EO.ex (eo_lc (fun ns => lS sc l ns (.dat (.list (cs.map sgD))) (.dat (.ptup (pairsD (kvsOf ln cs)))) (.dat (.dict (kvD (kvsOf ln cs)))) .un .un .un .un .un .un .un .un .un .un) ns3 (pickStep 2 (fun v => decide (v = 0))) sgD (own := [("one", 2)]) (Wc := [l]) rfl scLaw.nd (ix_l (nm 3)) (blk rfl (by rfl)) (by omega) (fun s => .same (.own (Sh.refl _))) rfl (fun a ha => ha) (fun ns c hc => ⟨fun B' => ?_⟩))) ?_)) (join_len ax hal)) (sx_nil (by rw [hns4]; rfl))
    · exact tD (c := decide (takeV ns 2 = 0)) (fun s H C cl fp => gn 2 scLaw.nd) (fun s H C cl fp => txs_one (tx_eqI (r2 (tk 1 ct hr (by decide)) ex_int))) (fun s H C cl fp => nm 2)
        (by repeat (first | exact Fg.nil | refine Fg.same ?_ | refine Fg.un ?_)) (by repeat (first | exact Fg.nil | refine Fg.same ?_ | refine Fg.un ?_)) (fun a ha => by cases ha) (fun a ha => by simpa using ha)
    · rw [hax, sgs]
  subst e
  refine sxT_cons (fun ρ' => ρ' = lS sc l ns5 (.dat (.list (cs.map sgD))) (.dat (.ptup (pairsD (kvsOf ln cs)))) (.dat (.dict (kvD (kvsOf ln cs)))) (.dat (.str (Txt.join "" (ax.map sg)))) (.dat (.str (Txt.join "" (ot.map sg)))) .un .un .un .un .un .un .un .un) ?_ (fun ρ' e => ?_)
  · refine st 7 scLaw.nd (ex_join (ys := ot.map sg) ex_str (EX.l (EX.to (EO.ex (eo_lc (fun ns => lS sc l ns (.dat (.list (cs.map sgD))) (.dat (.ptup (pairsD (kvsOf ln cs)))) (.dat (.dict (kvD (kvsOf ln cs)))) (.dat (.str (Txt.join "" (ax.map sg)))) .un .un .un .un .un .un .un .un .un) ns4 (pickStep 2 (fun v => decide (v = 0))) sgD (own := [("one", 2)]) (Wc := [l]) rfl scLaw.nd (ix_l (nm 3)) (blk rfl (by rfl)) (by omega) (fun s => .same (.own (Sh.refl _))) rfl (fun a ha => ha) (fun ns c hc => ⟨fun B' => ?_⟩))) ?_)) (join_len ot hol)) (sx_nil (by rw [hns5]; rfl))
    · exact tD (c := decide (takeV ns 2 = 0)) (fun s H C cl fp => gn 2 scLaw.nd) (fun s H C cl fp => txs_one (tx_eqI (r2 (tk 1 ct hr (by decide)) ex_int))) (fun s H C cl fp => nm 2)
        (by repeat (first | exact Fg.nil | refine Fg.same ?_ | refine Fg.un ?_)) (by repeat (first | exact Fg.nil | refine Fg.same ?_ | refine Fg.un ?_)) (fun a ha => by cases ha) (fun a ha => by simpa using ha)
    · rw [hot, sgs]
  subst e
  have hasc := asc_all ax (sub_mem (hs.trans hc))
  have hwo := wo_all ax (sub_mem (hs.trans hc))
  generalize hze : Txt.join "" (ax.map sg) = axes at haj hasc hwo ⊢
  generalize Txt.join "" (ot.map sg) = other at hoj ⊢
  subst haj hoj
  have kn := kvs_kn (ln := ln) hs hal h9
  have hrl := rows_1024 h4 hal
  have hco : countV ln axes.cps.toList ≤ 2000 := by rw [count_rows]; omega
  refine sxT_cons (fun ρ' => ρ' = lS sc l ns5 (.dat (.list (cs.map sgD))) (.dat (.ptup (pairsD (kvsOf ln cs)))) (.dat (.dict (kvD (kvsOf ln cs)))) (.dat (.str axes)) (.dat (.str other)) (.dat (.list ((indicesV ln axes.cps.toList).map rowD))) .un .un .un .un .un .un .un) ?_ (fun ρ' e => ?_)
  · exact st 8 scLaw.nd (ex_call cix.ok hr rfl cix.mg cix.kp cix.bs (ax_cons (nm 5) (ax_cons (nm 6) ax_nil)) rfl ⟨kvsOf ln cs, ln, axes, rfl, kn, rfl, rfl⟩) (sx_nil rfl)
  subst e
  have hax : axesV (.str axes) = true := by
    have := axes_all _ (sub_mem (hs.trans hc))
    show (axes.cps.toList.all axV && ascV axes.cps.toList) = true
    rw [this.1, this.2]; rfl
  refine sxT_cons (fun ρ' => ρ' = lS sc l ns5 (.dat (.list (cs.map sgD))) (.dat (.ptup (pairsD (kvsOf ln cs)))) (.dat (.dict (kvD (kvsOf ln cs)))) (.dat (.str axes)) (.dat (.str other)) (.dat (.list ((indicesV ln axes.cps.toList).map rowD))) .un .un .un .un .un .un .un) ?_ (fun ρ' e => ?_)
  · refine sx_ifR (kb := false) (WX.t (wx_or (k1 := false) (k2 := false) (TX.w (TX.to (tx_not (tx_val (ex_call cs'.ok hr (by rfl) cs'.mg cs'.kp cs'.bs (ax_cons (EX.to (ex_call cax.ok hr (by rfl) cax.mg cax.kp cax.bs (ax_cons (nm 6) ax_nil) rfl ⟨.str axes, rfl, rfl, fun z e => by cases e; omega, rfl, rfl⟩) (by rw [hax])) (ax_cons ex_bl ax_nil)) rfl ⟨true, true, rfl, rfl, rfl⟩) (fun _ => rfl))) rfl) rfl)
      (fun _ => wx_or1 (TX.w (TX.to (tx_not (tx_val (ex_call ca3.ok hr (by rfl) ca3.mg ca3.kp ca3.bs (ax_cons (ex_lst (ax_cons (ex_call cin.ok hr (by rfl) cin.mg cin.kp cin.bs (ax_cons (nm 4) (ax_cons (nm 6) ax_nil)) rfl ⟨kvsOf ln cs, ln, axes, rfl, hnk, kn, hco, rfl, rfl⟩) (ax_cons (EX.to (ex_call cco.ok hr (by rfl) cco.mg cco.kp cco.bs (ax_cons (nm 4) (ax_cons (nm 6) ax_nil)) rfl ⟨kvsOf ln cs, ln, axes, rfl, hnk, kn, rfl, rfl⟩) (by rw [count_rows])) ax_nil)) (show (2 : Nat) ≤ sizeLine by decide))
        (ax_cons (ex_lst (ax_cons (nm 8) (ax_cons (EX.to (ex_lenL (by rfl) C.mlen (EX.l (nm 8))) (by rw [List.length_map])) ax_nil)) (show (2 : Nat) ≤ sizeLine by decide)) ax_nil)) rfl ⟨_, _, rfl, rfl, ok_rows (by omega) (fun r hr' => by rw [kn.rows.2 r hr']; omega), rfl, rfl⟩) (fun _ => rfl))) rfl) rfl)))) (fun h => by cases h) (fun _ => sx_nil rfl)
  subst e
  refine sxT_cons (fun ρ' => ρ' = lS sc l ns5 (.dat (.list (cs.map sgD))) (.dat (.ptup (pairsD (kvsOf ln cs)))) (.dat (.dict (kvD (kvsOf ln cs)))) (.dat (.str axes)) (.dat (.str other)) (.dat (.list ((indicesV ln axes.cps.toList).map rowD))) .un .un .un .un .un .un .un) ?_ (fun ρ' e => ?_)
  · have hjl := joinV_len axes.cps.toList other.cps.toList
    refine sx_ifR (kb := false) (TX.w (TX.to (tx_not (tx_val (ex_call ca1.ok hr (by rfl) ca1.mg ca1.kp ca1.bs (ax_cons (ex_call cjo.ok hr (by rfl) cjo.mg cjo.kp cjo.bs (ax_cons (nm 6) (ax_cons (nm 7) ax_nil)) rfl ⟨axes, other, rfl, fun c hc' => (List.mem_append.mp hc').elim (fun z => (hs.trans hc).subset z) (fun z => (ho.trans hc).subset z), hal, hol, rfl, rfl⟩)
      (ax_cons (ex_join (ys := (joinV axes.cps.toList other.cps.toList).map sg) ex_str (EX.l (EX.to (EO.ex (eo_lcM cs sgD (fun c => if (decide (c ∈ axes.cps.toList) || decide (c ∈ other.cps.toList)) = true then some (sgD c) else none) [("one", 2)] rfl scLaw.nd (ix_l (nm 3)) (blk rfl (by rfl)) (by omega) rfl (fun c hc' B' => ?_))) ?_)) (join_len _ hjl)) ax_nil)) rfl ⟨_, _, rfl, rfl, rfl, rfl, rfl⟩) (fun _ => rfl))) rfl) rfl) (fun h => by cases h) (fun _ => sx_nil rfl)
    · exact tI (fun s H C' cl fp => gn 2 scLaw.nd) (fun s H C' cl fp => txs_one (TX.w (WX.t (wx_or (tx_in1 (c := c) (r2 (nm 2) (nm 6))) (fun _ => wx_or1 (TX.w (tx_in1 (c := c) (r2 (nm 2) (nm 7))) rfl)))) rfl)) (fun h s H C' cl fp => nm 2) (by repeat (first | exact Fg.nil | refine Fg.same ?_ | refine Fg.un ?_)) (by repeat (first | exact Fg.nil | refine Fg.same ?_ | refine Fg.un ?_))
    · rw [fm_if, joinV_eq hc hs ho, sgs]
  subst e
  refine sxT_none (x := "one") (ix := 2) (z := axes) hr rfl scLaw.nd (nm 6) hasc (blk rfl (by rfl)) rfl rfl (by exact Nat.le_of_ble_eq_true rfl) (fun σ s3 H3 C' cl fp pins' c t s8 H8 hc' ht0 ht1 I8 S8 hcell => ?_) (SXs.fg (law_cells hr C hc hs h4 ns5) (by repeat (first | exact Fg.nil | refine Fg.same ?_ | refine Fg.un ?_)))
  obtain ⟨c0, hc0, hcl⟩ := hcell
  refine wo_test (E := fun _ _ => False) (X := Bk _ _ s3 H3 C' cl fp) (ia := 6) (z := axes) (c := c) (c0 := c0) (t := t) wr hr rfl mw kw I8 S8 ht0 ht1 ?_ (by rfl) (by rfl) (by first | exact Or.inl rfl | exact Or.inr (Or.inl rfl) | exact Or.inr (Or.inr rfl)) (by rfl) hc0 hcl ?_ (by rfl)
  · show axes.cps.size ≤ 1000
    rw [← Array.length_toList]; omega
  · rw [hwo c hc']
    refine ex_join (ys := (axes.cps.toList.filter fun x => !decide (x = c)).map sg) ex_str (EX.l (EX.to (EO.ex (eo_lcM axes.cps.toList sgD (fun x => if (!decide (x = c)) = true then some (sgD x) else none) [("two", 9)] rfl scLaw.nd (ix_s (nm 6)) (blk rfl (by rfl)) (by omega) rfl (fun x hx' B' => ?_))) ?_)) (join_len _ (Nat.le_trans List.filter_sublist.length_le hal))
    · exact tI (fun s H C' cl fp => gn 9 scLaw.nd) (fun s H C' cl fp => txs_one (TX.w (TX.to (tx_neS (r2 (nm 9) (nm 2))) (sg_ne x c)) rfl)) (fun h s H C' cl fp => nm 9) (by repeat (first | exact Fg.nil | refine Fg.same ?_ | refine Fg.un ?_)) (by repeat (first | exact Fg.nil | refine Fg.same ?_ | refine Fg.un ?_))
    · rw [fm_if, sgs]
end
end K04

set_option maxRecDepth 100000
set_option maxHeartbeats 1000000
namespace K04
open PySem PySem.Spec PyProof.Rows L2 Dv
theorem at35 {v : Int} (h : 0 ≤ v ∧ v < 2) : atI [D.int 3, D.int 5] v = some (.int (b35 v)) := by
  have : v = 0 ∨ v = 1 := by omega
  rcases this with e | e <;> subst e <;> rfl
section
variable {P : Program} {w : World} {K : PySem.W.Frag} {mg : Str → Option Value} {base : Heap} {T : List TQ}
theorem ok_law {f fdr : Addr} {fd fdd : FuncData} {n : Nat} (F : Fun K "law" "law" sLaw f fd) (C : Cs P w K mg base T n)
    (cd : Cal P w K mg base n "_law_draws" ["script"] (PrC K T 1 (fun ds => ∃ sc : List Int, ds = [.list (sc.map .int)] ∧ sc.length ≤ 63) (fun ds => ∃ ns : List Int, ds = ns.reverse.map .int)) fdr fdd) :
    FnOk P w K mg base CX0 (n + 1) f fd ["script"] (PrD K T 1 RLaw) := by
  refine fn_d F scLaw RLaw fun cdv A outer s H E B args d args' hr hl he sh hR => ?_
  obtain ⟨sc, rfl, hsc, rfl, rfl⟩ := hR
  obtain ⟨_, _, ct⟩ := C.tk
  have hz : sizeLine = 16777216 := rfl
  refine sx_setC (i := 1) cd.ok hr rfl cd.mg cd.kp cd.bs (ax_cons (nm 0) ax_nil) rfl ⟨sc, rfl, hsc⟩ scLaw.nd (fun out l hG => ?_)
  obtain ⟨ns1, rfl⟩ := hG
  refine sx_setLc (i := 3) (fun ns => lS sc l ns .un .un .un .un .un .un .un .un .un .un .un .un .un) ns1 (pickStep 3 (fun v => decide (0 < v))) (en := sgD) (own := [("one", 2)]) (Wc := [l]) (qs := five) rfl scLaw.nd rfl rfl rfl (ix_s (z := ⟨#[97, 105, 106, 107, 122]⟩) ex_str) (blk rfl (by rfl)) (by decide) (fun s => .same (.own (Sh.refl _))) rfl (fun a ha => ha) (fun ns c hc => ⟨fun B' => ?_⟩) (by exact Nat.le_of_ble_eq_true rfl) ?_
  · exact tD (c := decide (0 < takeV ns 3)) (fun s H C cl fp => gn 2 scLaw.nd) (fun s H C cl fp => txs_one (tx_gt (r2 (tk 1 ct hr (by decide)) ex_int))) (fun s H C cl fp => nm 2)
        (by repeat (first | exact Fg.nil | refine Fg.same ?_ | refine Fg.un ?_)) (by repeat (first | exact Fg.nil | refine Fg.same ?_ | refine Fg.un ?_)) (fun a ha => by cases ha) (fun a ha => by simpa using ha)
  obtain ⟨cs, hsub, hcs⟩ := pick_ok 3 (fun v => decide (0 < v)) five ns1
  rw [hcs]
  generalize (lcF (pickStep 3 (fun v => decide (0 < v))) ns1 five).1 = ns2
  have hl5 : cs.length ≤ 5 := hsub.length_le
  have hnd : cs.Nodup := (five_asc.imp fun h e => by omega).sublist hsub
  obtain ⟨ln, h4, hln⟩ := len_ok cs ns2 hnd
  refine st 4 scLaw.nd (ex_tupleP rfl C.mt (EX.l (EO.ex (eo_lc (fun ns => lS sc l ns (.dat (.list (cs.map sgD))) .un .un .un .un .un .un .un .un .un .un .un .un) ns2 lenStep sgD (own := [("one", 2)]) (Wc := [l]) rfl scLaw.nd (ix_l (nm 3)) (blk rfl (by rfl)) (by omega) (fun s => .same (.own (Sh.refl _))) rfl (fun a ha => ha) (fun ns c hc => ⟨fun B' => ?_⟩))))) ?_
  · exact tW (fun s H C cl fp => gn 2 scLaw.nd) (fun s H C cl fp => txs_nil) (fun s H C cl fp => ex_tup (ax_cons (nm 2) (ax_cons (tkE (ns1 := takeR ns) 1 ct hr (b35_ok _).1 (ex_ixL (ex_lst (ax_cons ex_int (ax_cons ex_int ax_nil)) (show (2 : Nat) ≤ sizeLine by decide)) (tk 1 ct hr (by decide)) (at35 (take_rng ns (by decide))) (fun _ _ => rfl))) ax_nil)) (show (2 : Nat) ≤ sizeLine by decide))
        (by repeat (first | exact Fg.nil | refine Fg.same ?_ | refine Fg.un ?_)) (fun a ha => by simpa using ha)
  rw [hln]
  generalize (lcF lenStep ns2 cs).1 = ns3
  exact SXs.fg (law_known hr C hsub h4 ns3) (by repeat (first | exact Fg.nil | refine Fg.same ?_ | refine Fg.un ?_))
end
end K04

set_option maxRecDepth 100000
set_option pp.maxSteps 300
namespace K04
open PySem PySem.Spec PyProof.Rows L2 Dv
theorem kit_self {K : PySem.W.Frag} {D : Addr} : PySem.W.kitOne K (.ref D) (.ref D) = some true := if_pos (beq_self_eq_true _)
theorem kit_ref {K : PySem.W.Frag} {D C : Addr} {b : Bool} (hn : D ≠ C) (hd : PySem.W.hasDictIn K C = true) (ht : PySem.W.typeIn K (.ref C) = some (.type "type")) (hs : PySem.W.subIn K (.ref D) (.ref C) = some b) : PySem.W.kitOne K (.ref D) (.ref C) = some b := by
  obtain ⟨cd, hc, _⟩ := PySem.W.any_some hd
  have e2 : ((PySem.W.clsIn K C).isSome && PySem.W.typeIn K (.ref C) == some (.type "type")) = true := by rw [hc, ht] <;> rfl
  unfold PySem.W.kitOne
  rw [if_neg (fun z => hn (by have := eq_of_beq z; injection this))]
  show (if ((PySem.W.clsIn K C).isSome && PySem.W.typeIn K (.ref C) == some (.type "type")) = true then PySem.W.subIn K (.ref D) (.ref C) else none) = some b
  rw [if_pos e2]
  exact hs
/-! ### what the top has written; the law's own head -/
/-! ### what the top has written; the law's own head -/
theorem codeHd_tab {q : Program} {loose : List Str} {mean : ExcName → Option Value} {mg mb : Str → Option Value} {h : Heap} {K : PySem.W.Frag} {x : Str} {d : DefRec} {f c P : Addr} {fd : FuncData} {oc oc' : Value} {od od' : Option Addr} {sl sl' : Array (Option Value)} {vs : Array Value}
    (T : Top q loose mean mg mb h) (X : K.In h) (hr : (recsOf q).find? (fun e => e.name == x) = some d) (a : PySem.W.nsIn K mainGlobals x = some (some (.ref f))) (l : K.lookup f = some ⟨oc, od, .func fd, sl⟩) (e : fd.code = .ref c) (lc : K.lookup c = some ⟨oc', od', .fields vs, sl'⟩) (hv : vs[11]? = some (.ref P)) : PySem.W.CodeHd h c P ∧ h.get? P = some { cls := .none, data := .fields #[] } := by
  refine PySem.W.tab_of T X hr ?_
  unfold PySem.W.tabIn
  rw [a]
  dsimp only
  rw [l]
  dsimp only
  rw [e]
  dsimp only
  rw [lc]
  dsimp only
  rw [hv]
theorem all_mk {q : Program} {loose : List Str} {mean : ExcName → Option Value} {mb : Str → Option Value} {w : World} {K : PySem.W.Frag} {h : Heap} {mg : Str → Option Value} {fa : Addr} (X : K.In h) (T : Top q loose mean mg mb h) (G : h.Ns mainGlobals mg) (hfa : mg "law" = some (.ref fa))
    {f1 : Addr} {od1 an1 : Option Addr} {sl1 : Array (Option Value)} {oc1 kV1 dc1 pm1 ct1 : Value} {cd1 : Value}
    {f2 : Addr} {od2 an2 : Option Addr} {sl2 : Array (Option Value)} {oc2 kV2 dc2 pm2 ct2 : Value} {cd2 : Value}
    {f3 : Addr} {od3 an3 : Option Addr} {sl3 : Array (Option Value)} {oc3 kV3 dc3 pm3 ct3 : Value} {cd3 : Value}
    {f4 : Addr} {od4 an4 : Option Addr} {sl4 : Array (Option Value)} {oc4 kV4 dc4 pm4 ct4 : Value} {c4 P4 : Addr} {ob4 : Value} {ox4 : Option Addr} {sy4 : Array (Option Value)} {vs4 : Array Value} {dr4 : DefRec}
    {f5 : Addr} {od5 an5 : Option Addr} {sl5 : Array (Option Value)} {oc5 kV5 dc5 pm5 ct5 : Value} {c5 P5 : Addr} {ob5 : Value} {ox5 : Option Addr} {sy5 : Array (Option Value)} {vs5 : Array Value} {dr5 : DefRec}
    {f6 : Addr} {od6 an6 : Option Addr} {sl6 : Array (Option Value)} {oc6 kV6 dc6 pm6 ct6 : Value} {cd6 : Value}
    {f7 : Addr} {od7 an7 : Option Addr} {sl7 : Array (Option Value)} {oc7 kV7 dc7 pm7 ct7 : Value} {cd7 : Value}
    {f8 : Addr} {od8 an8 : Option Addr} {sl8 : Array (Option Value)} {oc8 kV8 dc8 pm8 ct8 : Value} {cd8 : Value}
    {f9 : Addr} {od9 an9 : Option Addr} {sl9 : Array (Option Value)} {oc9 kV9 dc9 pm9 ct9 : Value} {cd9 : Value}
    {f10 : Addr} {od10 an10 : Option Addr} {sl10 : Array (Option Value)} {oc10 kV10 dc10 pm10 ct10 : Value} {cd10 : Value}
    {f11 : Addr} {od11 an11 : Option Addr} {sl11 : Array (Option Value)} {oc11 kV11 dc11 pm11 ct11 : Value} {c11 P11 : Addr} {ob11 : Value} {ox11 : Option Addr} {sy11 : Array (Option Value)} {vs11 : Array Value} {dr11 : DefRec}
    {f12 : Addr} {od12 an12 : Option Addr} {sl12 : Array (Option Value)} {oc12 kV12 dc12 pm12 ct12 : Value} {cd12 : Value}
    {f13 : Addr} {od13 an13 : Option Addr} {sl13 : Array (Option Value)} {oc13 kV13 dc13 pm13 ct13 : Value} {cd13 : Value}
    {f14 : Addr} {od14 an14 : Option Addr} {sl14 : Array (Option Value)} {oc14 kV14 dc14 pm14 ct14 : Value} {cd14 : Value}
    {f15 : Addr} {od15 an15 : Option Addr} {sl15 : Array (Option Value)} {oc15 kV15 dc15 pm15 ct15 : Value} {cd15 : Value}
    {f16 : Addr} {od16 an16 : Option Addr} {sl16 : Array (Option Value)} {oc16 kV16 dc16 pm16 ct16 : Value} {cd16 : Value}
    {f17 : Addr} {od17 an17 : Option Addr} {sl17 : Array (Option Value)} {oc17 kV17 dc17 pm17 ct17 : Value} {cd17 : Value}
    {f18 : Addr} {od18 an18 : Option Addr} {sl18 : Array (Option Value)} {oc18 kV18 dc18 pm18 ct18 : Value} {cd18 : Value}
    {f19 : Addr} {od19 an19 : Option Addr} {sl19 : Array (Option Value)} {oc19 kV19 dc19 pm19 ct19 : Value} {cd19 : Value}
    {f20 : Addr} {od20 an20 : Option Addr} {sl20 : Array (Option Value)} {oc20 kV20 dc20 pm20 ct20 : Value} {cd20 : Value}
    {f21 : Addr} {od21 an21 : Option Addr} {sl21 : Array (Option Value)} {oc21 kV21 dc21 pm21 ct21 : Value} {cd21 : Value}
    {f22 : Addr} {od22 an22 : Option Addr} {sl22 : Array (Option Value)} {oc22 kV22 dc22 pm22 ct22 : Value} {cd22 : Value}
    {f23 : Addr} {od23 an23 : Option Addr} {sl23 : Array (Option Value)} {oc23 kV23 dc23 pm23 ct23 : Value} {cd23 : Value}
    {f24 : Addr} {od24 an24 : Option Addr} {sl24 : Array (Option Value)} {oc24 kV24 dc24 pm24 ct24 : Value} {cd24 : Value}
    {tL tM tC tF : Tok} {C1 C2 C3 C4 C5 CE : Addr}
    (a1 : PySem.W.nsIn K mainGlobals "is_number" = some (some (.ref f1)))
    (l1 : K.lookup f1 = some ⟨oc1, od1, .func (PySem.W.fnOf "is_number" "is_number" (defArgs (topS 9)) (defBody (topS 9)) (defScope (topS 9)) .none kV1 dc1 pm1 an1 cd1 ct1), sl1⟩)
    (c1 : PySem.W.codeIn K cd1 "is_number" = true)
    (k1 : PySem.W.keepIn K (.ref f1) = true)
    (a2 : PySem.W.nsIn K mainGlobals "is_exact" = some (some (.ref f2)))
    (l2 : K.lookup f2 = some ⟨oc2, od2, .func (PySem.W.fnOf "is_exact" "is_exact" (defArgs (topS 11)) (defBody (topS 11)) (defScope (topS 11)) .none kV2 dc2 pm2 an2 cd2 ct2), sl2⟩)
    (c2 : PySem.W.codeIn K cd2 "is_exact" = true)
    (k2 : PySem.W.keepIn K (.ref f2) = true)
    (a3 : PySem.W.nsIn K mainGlobals "is_axis" = some (some (.ref f3)))
    (l3 : K.lookup f3 = some ⟨oc3, od3, .func (PySem.W.fnOf "is_axis" "is_axis" (defArgs (topS 17)) (defBody (topS 17)) (defScope (topS 17)) .none kV3 dc3 pm3 an3 cd3 ct3), sl3⟩)
    (c3 : PySem.W.codeIn K cd3 "is_axis" = true)
    (k3 : PySem.W.keepIn K (.ref f3) = true)
    (a4 : PySem.W.nsIn K mainGlobals "are_axes" = some (some (.ref f4)))
    (l4 : K.lookup f4 = some ⟨oc4, od4, .func (PySem.W.fnOf "are_axes" "are_axes" (defArgs (topS 18)) (defBody (topS 18)) (defScope (topS 18)) .none kV4 dc4 pm4 an4 (.ref c4) ct4), sl4⟩)
    (cc4 : PySem.W.codeIn K (.ref c4) "are_axes" = true)
    (k4 : PySem.W.keepIn K (.ref f4) = true)
    (lc4 : K.lookup c4 = some ⟨ob4, ox4, .fields vs4, sy4⟩)
    (hv4 : vs4[11]? = some (.ref P4))
    (hn4 : K.lookup P4 = none)
    (hr4 : (recsOf q).find? (fun e => e.name == ("are_axes" : Str)) = some dr4)
    (a5 : PySem.W.nsIn K mainGlobals "are_lengths" = some (some (.ref f5)))
    (l5 : K.lookup f5 = some ⟨oc5, od5, .func (PySem.W.fnOf "are_lengths" "are_lengths" (defArgs (topS 19)) (defBody (topS 19)) (defScope (topS 19)) .none kV5 dc5 pm5 an5 (.ref c5) ct5), sl5⟩)
    (cc5 : PySem.W.codeIn K (.ref c5) "are_lengths" = true)
    (k5 : PySem.W.keepIn K (.ref f5) = true)
    (lc5 : K.lookup c5 = some ⟨ob5, ox5, .fields vs5, sy5⟩)
    (hv5 : vs5[11]? = some (.ref P5))
    (hn5 : K.lookup P5 = none)
    (hr5 : (recsOf q).find? (fun e => e.name == ("are_lengths" : Str)) = some dr5)
    (a6 : PySem.W.nsIn K mainGlobals "joined" = some (some (.ref f6)))
    (l6 : K.lookup f6 = some ⟨oc6, od6, .func (PySem.W.fnOf "joined" "joined" (defArgs (topS 20)) (defBody (topS 20)) (defScope (topS 20)) .none kV6 dc6 pm6 an6 cd6 ct6), sl6⟩)
    (c6 : PySem.W.codeIn K cd6 "joined" = true)
    (k6 : PySem.W.keepIn K (.ref f6) = true)
    (a7 : PySem.W.nsIn K mainGlobals "without" = some (some (.ref f7)))
    (l7 : K.lookup f7 = some ⟨oc7, od7, .func (PySem.W.fnOf "without" "without" (defArgs (topS 21)) (defBody (topS 21)) (defScope (topS 21)) .none kV7 dc7 pm7 an7 cd7 ct7), sl7⟩)
    (c7 : PySem.W.codeIn K cd7 "without" = true)
    (k7 : PySem.W.keepIn K (.ref f7) = true)
    (a8 : PySem.W.nsIn K mainGlobals "count_cells" = some (some (.ref f8)))
    (l8 : K.lookup f8 = some ⟨oc8, od8, .func (PySem.W.fnOf "count_cells" "count_cells" (defArgs (topS 22)) (defBody (topS 22)) (defScope (topS 22)) .none kV8 dc8 pm8 an8 cd8 ct8), sl8⟩)
    (c8 : PySem.W.codeIn K cd8 "count_cells" = true)
    (k8 : PySem.W.keepIn K (.ref f8) = true)
    (a9 : PySem.W.nsIn K mainGlobals "indices" = some (some (.ref f9)))
    (l9 : K.lookup f9 = some ⟨oc9, od9, .func (PySem.W.fnOf "indices" "indices" (defArgs (topS 23)) (defBody (topS 23)) (defScope (topS 23)) .none kV9 dc9 pm9 an9 cd9 ct9), sl9⟩)
    (c9 : PySem.W.codeIn K cd9 "indices" = true)
    (k9 : PySem.W.keepIn K (.ref f9) = true)
    (a10 : PySem.W.nsIn K mainGlobals "is_value" = some (some (.ref f10)))
    (l10 : K.lookup f10 = some ⟨oc10, od10, .func (PySem.W.fnOf "is_value" "is_value" (defArgs (topS 24)) (defBody (topS 24)) (defScope (topS 24)) .none kV10 dc10 pm10 an10 cd10 ct10), sl10⟩)
    (c10 : PySem.W.codeIn K cd10 "is_value" = true)
    (k10 : PySem.W.keepIn K (.ref f10) = true)
    (a11 : PySem.W.nsIn K mainGlobals "is_array" = some (some (.ref f11)))
    (l11 : K.lookup f11 = some ⟨oc11, od11, .func (PySem.W.fnOf "is_array" "is_array" (defArgs (topS 25)) (defBody (topS 25)) (defScope (topS 25)) .none kV11 dc11 pm11 an11 (.ref c11) ct11), sl11⟩)
    (cc11 : PySem.W.codeIn K (.ref c11) "is_array" = true)
    (k11 : PySem.W.keepIn K (.ref f11) = true)
    (lc11 : K.lookup c11 = some ⟨ob11, ox11, .fields vs11, sy11⟩)
    (hv11 : vs11[11]? = some (.ref P11))
    (hn11 : K.lookup P11 = none)
    (hr11 : (recsOf q).find? (fun e => e.name == ("is_array" : Str)) = some dr11)
    (a12 : PySem.W.nsIn K mainGlobals "place_of" = some (some (.ref f12)))
    (l12 : K.lookup f12 = some ⟨oc12, od12, .func (PySem.W.fnOf "place_of" "place_of" (defArgs (topS 26)) (defBody (topS 26)) (defScope (topS 26)) .none kV12 dc12 pm12 an12 cd12 ct12), sl12⟩)
    (c12 : PySem.W.codeIn K cd12 "place_of" = true)
    (k12 : PySem.W.keepIn K (.ref f12) = true)
    (a13 : PySem.W.nsIn K mainGlobals "cell" = some (some (.ref f13)))
    (l13 : K.lookup f13 = some ⟨oc13, od13, .func (PySem.W.fnOf "cell" "cell" (defArgs (topS 27)) (defBody (topS 27)) (defScope (topS 27)) .none kV13 dc13 pm13 an13 cd13 ct13), sl13⟩)
    (c13 : PySem.W.codeIn K cd13 "cell" = true)
    (k13 : PySem.W.keepIn K (.ref f13) = true)
    (a14 : PySem.W.nsIn K mainGlobals "from_dict" = some (some (.ref f14)))
    (l14 : K.lookup f14 = some ⟨oc14, od14, .func (PySem.W.fnOf "from_dict" "from_dict" (defArgs (topS 28)) (defBody (topS 28)) (defScope (topS 28)) .none kV14 dc14 pm14 an14 cd14 ct14), sl14⟩)
    (c14 : PySem.W.codeIn K cd14 "from_dict" = true)
    (k14 : PySem.W.keepIn K (.ref f14) = true)
    (a15 : PySem.W.nsIn K mainGlobals "same_all" = some (some (.ref f15)))
    (l15 : K.lookup f15 = some ⟨oc15, od15, .func (PySem.W.fnOf "same_all" "same_all" (defArgs (topS 29)) (defBody (topS 29)) (defScope (topS 29)) .none kV15 dc15 pm15 an15 cd15 ct15), sl15⟩)
    (c15 : PySem.W.codeIn K cd15 "same_all" = true)
    (k15 : PySem.W.keepIn K (.ref f15) = true)
    (a16 : PySem.W.nsIn K mainGlobals "_law_draws" = some (some (.ref f16)))
    (l16 : K.lookup f16 = some ⟨oc16, od16, .func (PySem.W.fnOf "_law_draws" "_law_draws" (defArgs (topS 31)) (defBody (topS 31)) (defScope (topS 31)) .none kV16 dc16 pm16 an16 cd16 ct16), sl16⟩)
    (c16 : PySem.W.codeIn K cd16 "_law_draws" = true)
    (k16 : PySem.W.keepIn K (.ref f16) = true)
    (a17 : PySem.W.nsIn K mainGlobals "_law_take" = some (some (.ref f17)))
    (l17 : K.lookup f17 = some ⟨oc17, od17, .func (PySem.W.fnOf "_law_take" "_law_take" (defArgs (topS 32)) (defBody (topS 32)) (defScope (topS 32)) .none kV17 dc17 pm17 an17 cd17 ct17), sl17⟩)
    (c17 : PySem.W.codeIn K cd17 "_law_take" = true)
    (k17 : PySem.W.keepIn K (.ref f17) = true)
    (a18 : PySem.W.nsIn K mainGlobals "_law_alike" = some (some (.ref f18)))
    (l18 : K.lookup f18 = some ⟨oc18, od18, .func (PySem.W.fnOf "_law_alike" "_law_alike" (defArgs (topS 33)) (defBody (topS 33)) (defScope (topS 33)) .none kV18 dc18 pm18 an18 cd18 ct18), sl18⟩)
    (c18 : PySem.W.codeIn K cd18 "_law_alike" = true)
    (k18 : PySem.W.keepIn K (.ref f18) = true)
    (a19 : PySem.W.nsIn K mainGlobals "_law_says" = some (some (.ref f19)))
    (l19 : K.lookup f19 = some ⟨oc19, od19, .func (PySem.W.fnOf "_law_says" "_law_says" (defArgs (topS 34)) (defBody (topS 34)) (defScope (topS 34)) .none kV19 dc19 pm19 an19 cd19 ct19), sl19⟩)
    (c19 : PySem.W.codeIn K cd19 "_law_says" = true)
    (k19 : PySem.W.keepIn K (.ref f19) = true)
    (a20 : PySem.W.nsIn K mainGlobals "_law_word" = some (some (.ref f20)))
    (l20 : K.lookup f20 = some ⟨oc20, od20, .func (PySem.W.fnOf "_law_word" "_law_word" (defArgs (topS 35)) (defBody (topS 35)) (defScope (topS 35)) .none kV20 dc20 pm20 an20 cd20 ct20), sl20⟩)
    (c20 : PySem.W.codeIn K cd20 "_law_word" = true)
    (k20 : PySem.W.keepIn K (.ref f20) = true)
    (a21 : PySem.W.nsIn K mainGlobals "_law_made" = some (some (.ref f21)))
    (l21 : K.lookup f21 = some ⟨oc21, od21, .func (PySem.W.fnOf "_law_made" "_law_made" (defArgs (topS 36)) (defBody (topS 36)) (defScope (topS 36)) .none kV21 dc21 pm21 an21 cd21 ct21), sl21⟩)
    (c21 : PySem.W.codeIn K cd21 "_law_made" = true)
    (k21 : PySem.W.keepIn K (.ref f21) = true)
    (a22 : PySem.W.nsIn K mainGlobals "_law_told" = some (some (.ref f22)))
    (l22 : K.lookup f22 = some ⟨oc22, od22, .func (PySem.W.fnOf "_law_told" "_law_told" (defArgs (topS 37)) (defBody (topS 37)) (defScope (topS 37)) .none kV22 dc22 pm22 an22 cd22 ct22), sl22⟩)
    (c22 : PySem.W.codeIn K cd22 "_law_told" = true)
    (k22 : PySem.W.keepIn K (.ref f22) = true)
    (a23 : PySem.W.nsIn K mainGlobals "_law_indices" = some (some (.ref f23)))
    (l23 : K.lookup f23 = some ⟨oc23, od23, .func (PySem.W.fnOf "_law_indices" "_law_indices" (defArgs (topS 38)) (defBody (topS 38)) (defScope (topS 38)) .none kV23 dc23 pm23 an23 cd23 ct23), sl23⟩)
    (c23 : PySem.W.codeIn K cd23 "_law_indices" = true)
    (k23 : PySem.W.keepIn K (.ref f23) = true)
    (a24 : PySem.W.nsIn K mainGlobals "law" = some (some (.ref f24)))
    (l24 : K.lookup f24 = some ⟨oc24, od24, .func (PySem.W.fnOf "law" "law" (defArgs (topS 39)) (defBody (topS 39)) (defScope (topS 39)) .none kV24 dc24 pm24 an24 cd24 ct24), sl24⟩)
    (c24 : PySem.W.codeIn K cd24 "law" = true)
    (k24 : PySem.W.keepIn K (.ref f24) = true)
    (z_len : PySem.W.nsIn K mainGlobals "len" = some none)
    (z_int : PySem.W.nsIn K mainGlobals "int" = some none)
    (z_abs : PySem.W.nsIn K mainGlobals "abs" = some none)
    (z_range : PySem.W.nsIn K mainGlobals "range" = some none)
    (z_list : PySem.W.nsIn K mainGlobals "list" = some none)
    (z_reversed : PySem.W.nsIn K mainGlobals "reversed" = some none)
    (z_sorted : PySem.W.nsIn K mainGlobals "sorted" = some none)
    (z_set : PySem.W.nsIn K mainGlobals "set" = some none)
    (z_dict : PySem.W.nsIn K mainGlobals "dict" = some none)
    (z_isinstance : PySem.W.nsIn K mainGlobals "isinstance" = some none)
    (z_bool : PySem.W.nsIn K mainGlobals "bool" = some none)
    (z_tuple : PySem.W.nsIn K mainGlobals "tuple" = some none)
    (z_str : PySem.W.nsIn K mainGlobals "str" = some none)
    (z_all : PySem.W.nsIn K mainGlobals "all" = some none)
    (z_gcd : PySem.W.nsIn K mainGlobals "gcd" = some (some (.builtin "math.gcd")))
    (z_LETTERS : PySem.W.nsIn K mainGlobals "LETTERS" = some (some (.str "abcdefghijklmnopqrstuvwxyz" tL)))
    (z_MOST_LENGTH : PySem.W.nsIn K mainGlobals "MOST_LENGTH" = some (some (.int 9 tM)))
    (z_MOST_CELLS : PySem.W.nsIn K mainGlobals "MOST_CELLS" = some (some (.int 2000 tC)))
    (z_MOST_FIGURE : PySem.W.nsIn K mainGlobals "MOST_FIGURE" = some (some (.int 1000000000000000000000000000000000000000000000000000000000000 tF)))
    (z_OutOfRange : PySem.W.nsIn K mainGlobals "OutOfRange" = some (some (.ref C1)))
    (z_Malformed : PySem.W.nsIn K mainGlobals "Malformed" = some (some (.ref C2)))
    (z_NotThere : PySem.W.nsIn K mainGlobals "NotThere" = some (some (.ref C3)))
    (z_Refused : PySem.W.nsIn K mainGlobals "Refused" = some (some (.ref C4)))
    (z_TooMuch : PySem.W.nsIn K mainGlobals "TooMuch" = some (some (.ref C5)))
    (z_ArrayError : PySem.W.nsIn K mainGlobals "ArrayError" = some (some (.ref CE)))
    (kX : PySem.W.keepIn K (.ref C5) = true)
    (xX : PySem.W.excIn K C5 [.type "ValueError", .type "Exception", .type "BaseException", .type "object"] "ValueError.__new__" = true)
    (sX : PySem.W.subIn K (.ref C5) (.type "BaseException") = some true)
    (yX : PySem.W.typeIn K (.ref C5) = some (.type "type"))
    (e1 : PySem.W.findIn K (.ref C5) "__getattribute__" = some (some (.builtin "BaseException.__getattribute__")))
    (e2 : PySem.W.findIn K (.ref C5) "__getattr__" = some none)
    (e3 : PySem.W.subIn K (.ref C5) (.type "BaseException") = some true)
    (e4 : PySem.W.hasDictIn K C5 = true)
    (e5 : PySem.W.findIn K (.ref C5) "__class__" = some (some (.builtin "object.__class__")))
    (e6 : PySem.W.specialIn K (.builtin "object.__class__") "__get__" = some (some (.builtin "getset_descriptor.__get__")))
    (e7 : PySem.W.takesIn K (.builtin "object.__class__") = some true)
    (e8 : PySem.W.mroIn K C5 (.type "object") = some true)
    (d1 : PySem.W.hasDictIn K C1 = true)
    (y1 : PySem.W.typeIn K (.ref C1) = some (.type "type"))
    (u1 : PySem.W.subIn K (.ref C5) (.ref C1) = some false)
    (v1 : C5 ≠ C1)
    (d2 : PySem.W.hasDictIn K C2 = true)
    (y2 : PySem.W.typeIn K (.ref C2) = some (.type "type"))
    (u2 : PySem.W.subIn K (.ref C5) (.ref C2) = some false)
    (v2 : C5 ≠ C2)
    (d3 : PySem.W.hasDictIn K C3 = true)
    (y3 : PySem.W.typeIn K (.ref C3) = some (.type "type"))
    (u3 : PySem.W.subIn K (.ref C5) (.ref C3) = some false)
    (v3 : C5 ≠ C3)
    (d4 : PySem.W.hasDictIn K C4 = true)
    (y4 : PySem.W.typeIn K (.ref C4) = some (.type "type"))
    (u4 : PySem.W.subIn K (.ref C5) (.ref C4) = some false)
    (v4 : C5 ≠ C4)
    (dE : PySem.W.hasDictIn K CE = true)
    (yE : PySem.W.typeIn K (.ref CE) = some (.type "type"))
    (uE : PySem.W.subIn K (.ref C5) (.ref CE) = some true)
    (sE : PySem.W.subIn K (.ref CE) (.type "BaseException") = some true)
    : LamX.LawAtS PySem.Challenge.rw_arraysaligned_k04_whole_axes_and_arrays w K CX0 7 63 "script" mg fa h := by
  have e := hfa.symm.trans (PySem.W.mg_of X G a24)
  cases e
  have m1 := PySem.W.mg_of X G a1
  have F1 := fun_mk (st := topS 9) l1 c1 k1
  have b1 := F1.binds (ps := ["value", "least", "most"]) fun _ _ _ _ _ _ us hl => match us, hl with | [_, _, _], _ => rfl
  have m2 := PySem.W.mg_of X G a2
  have F2 := fun_mk (st := topS 11) l2 c2 k2
  have b2 := F2.binds (ps := ["value"]) fun _ _ _ _ _ _ us hl => match us, hl with | [_], _ => rfl
  have m3 := PySem.W.mg_of X G a3
  have F3 := fun_mk (st := topS 17) l3 c3 k3
  have b3 := F3.binds (ps := ["value"]) fun _ _ _ _ _ _ us hl => match us, hl with | [_], _ => rfl
  have m4 := PySem.W.mg_of X G a4
  have F4 : FunC K "are_axes" "are_axes" (topS 18) f4 _ (.ref c4) := ⟨⟨_, _, _, _, _, _, _, _, rfl, l4, cc4⟩, k4⟩
  have b4 := F4.f.binds (ps := ["value"]) fun _ _ _ _ _ _ us hl => match us, hl with | [_], _ => rfl
  have t4 := codeHd_tab T X hr4 a4 l4 rfl lc4 hv4
  have m5 := PySem.W.mg_of X G a5
  have F5 : FunC K "are_lengths" "are_lengths" (topS 19) f5 _ (.ref c5) := ⟨⟨_, _, _, _, _, _, _, _, rfl, l5, cc5⟩, k5⟩
  have b5 := F5.f.binds (ps := ["value"]) fun _ _ _ _ _ _ us hl => match us, hl with | [_], _ => rfl
  have t5 := codeHd_tab T X hr5 a5 l5 rfl lc5 hv5
  have m6 := PySem.W.mg_of X G a6
  have F6 := fun_mk (st := topS 20) l6 c6 k6
  have b6 := F6.binds (ps := ["one", "other"]) fun _ _ _ _ _ _ us hl => match us, hl with | [_, _], _ => rfl
  have m7 := PySem.W.mg_of X G a7
  have F7 := fun_mk (st := topS 21) l7 c7 k7
  have b7 := F7.binds (ps := ["axes", "axis"]) fun _ _ _ _ _ _ us hl => match us, hl with | [_, _], _ => rfl
  have m8 := PySem.W.mg_of X G a8
  have F8 := fun_mk (st := topS 22) l8 c8 k8
  have b8 := F8.binds (ps := ["lengths", "axes"]) fun _ _ _ _ _ _ us hl => match us, hl with | [_, _], _ => rfl
  have m9 := PySem.W.mg_of X G a9
  have F9 := fun_mk (st := topS 23) l9 c9 k9
  have b9 := F9.binds (ps := ["lengths", "axes"]) fun _ _ _ _ _ _ us hl => match us, hl with | [_, _], _ => rfl
  have m10 := PySem.W.mg_of X G a10
  have F10 := fun_mk (st := topS 24) l10 c10 k10
  have b10 := F10.binds (ps := ["value"]) fun _ _ _ _ _ _ us hl => match us, hl with | [_], _ => rfl
  have m11 := PySem.W.mg_of X G a11
  have F11 : FunC K "is_array" "is_array" (topS 25) f11 _ (.ref c11) := ⟨⟨_, _, _, _, _, _, _, _, rfl, l11, cc11⟩, k11⟩
  have b11 := F11.f.binds (ps := ["lengths", "value"]) fun _ _ _ _ _ _ us hl => match us, hl with | [_, _], _ => rfl
  have t11 := codeHd_tab T X hr11 a11 l11 rfl lc11 hv11
  have m12 := PySem.W.mg_of X G a12
  have F12 := fun_mk (st := topS 26) l12 c12 k12
  have b12 := F12.binds (ps := ["lengths", "axes", "index"]) fun _ _ _ _ _ _ us hl => match us, hl with | [_, _, _], _ => rfl
  have m13 := PySem.W.mg_of X G a13
  have F13 := fun_mk (st := topS 27) l13 c13 k13
  have b13 := F13.binds (ps := ["lengths", "array", "index"]) fun _ _ _ _ _ _ us hl => match us, hl with | [_, _, _], _ => rfl
  have m14 := PySem.W.mg_of X G a14
  have F14 := fun_mk (st := topS 28) l14 c14 k14
  have b14 := F14.binds (ps := ["lengths", "axes", "cells"]) fun _ _ _ _ _ _ us hl => match us, hl with | [_, _, _], _ => rfl
  have m15 := PySem.W.mg_of X G a15
  have F15 := fun_mk (st := topS 29) l15 c15 k15
  have b15 := F15.binds (ps := ["lengths", "axes", "value"]) fun _ _ _ _ _ _ us hl => match us, hl with | [_, _, _], _ => rfl
  have m16 := PySem.W.mg_of X G a16
  have F16 := fun_mk (st := topS 31) l16 c16 k16
  have b16 := F16.binds (ps := ["script"]) fun _ _ _ _ _ _ us hl => match us, hl with | [_], _ => rfl
  have m17 := PySem.W.mg_of X G a17
  have F17 := fun_mk (st := topS 32) l17 c17 k17
  have b17 := F17.binds (ps := ["draws", "bound"]) fun _ _ _ _ _ _ us hl => match us, hl with | [_, _], _ => rfl
  have m18 := PySem.W.mg_of X G a18
  have F18 := fun_mk (st := topS 33) l18 c18 k18
  have b18 := F18.binds (ps := ["found", "due"]) fun _ _ _ _ _ _ us hl => match us, hl with | [_, _], _ => rfl
  have m19 := PySem.W.mg_of X G a19
  have F19 := fun_mk (st := topS 34) l19 c19 k19
  have b19 := F19.binds (ps := ["told", "due"]) fun _ _ _ _ _ _ us hl => match us, hl with | [_, _], _ => rfl
  have m20 := PySem.W.mg_of X G a20
  have F20 := fun_mk (st := topS 35) l20 c20 k20
  have b20 := F20.binds (ps := ["e"]) fun _ _ _ _ _ _ us hl => match us, hl with | [_], _ => rfl
  have m21 := PySem.W.mg_of X G a21
  have F21 := fun_mk (st := topS 36) l21 c21 k21
  have b21 := F21.binds (ps := ["part", "whole"]) fun _ _ _ _ _ _ us hl => match us, hl with | [_, _], _ => rfl
  have m22 := PySem.W.mg_of X G a22
  have F22 := fun_mk (st := topS 37) l22 c22 k22
  have b22 := F22.binds (ps := ["lengths", "axes"]) fun _ _ _ _ _ _ us hl => match us, hl with | [_, _], _ => rfl
  have m23 := PySem.W.mg_of X G a23
  have F23 := fun_mk (st := topS 38) l23 c23 k23
  have b23 := F23.binds (ps := ["known", "axes"]) fun _ _ _ _ _ _ us hl => match us, hl with | [_, _], _ => rfl
  have m24 := PySem.W.mg_of X G a24
  have F24 := fun_mk (st := topS 39) l24 c24 k24
  have b24 := F24.binds (ps := ["script"]) fun _ _ _ _ _ _ us hl => match us, hl with | [_], _ => rfl
  have n_len := PySem.W.mg_none_of X G z_len
  have n_int := PySem.W.mg_none_of X G z_int
  have n_abs := PySem.W.mg_none_of X G z_abs
  have n_range := PySem.W.mg_none_of X G z_range
  have n_list := PySem.W.mg_none_of X G z_list
  have n_reversed := PySem.W.mg_none_of X G z_reversed
  have n_sorted := PySem.W.mg_none_of X G z_sorted
  have n_set := PySem.W.mg_none_of X G z_set
  have n_dict := PySem.W.mg_none_of X G z_dict
  have n_isinstance := PySem.W.mg_none_of X G z_isinstance
  have n_bool := PySem.W.mg_none_of X G z_bool
  have n_tuple := PySem.W.mg_none_of X G z_tuple
  have n_str := PySem.W.mg_none_of X G z_str
  have n_all := PySem.W.mg_none_of X G z_all
  have n_gcd := PySem.W.mg_of X G z_gcd
  have n_LETTERS := PySem.W.mg_of X G z_LETTERS
  have n_MOST_LENGTH := PySem.W.mg_of X G z_MOST_LENGTH
  have n_MOST_CELLS := PySem.W.mg_of X G z_MOST_CELLS
  have n_MOST_FIGURE := PySem.W.mg_of X G z_MOST_FIGURE
  have n_OutOfRange := PySem.W.mg_of X G z_OutOfRange
  have n_Malformed := PySem.W.mg_of X G z_Malformed
  have n_NotThere := PySem.W.mg_of X G z_NotThere
  have n_Refused := PySem.W.mg_of X G z_Refused
  have n_TooMuch := PySem.W.mg_of X G z_TooMuch
  have n_ArrayError := PySem.W.mg_of X G z_ArrayError
  refine ⟨PySem.W.fnOf "law" "law" (defArgs (topS 39)) (defBody (topS 39)) (defScope (topS 39)) .none kV24 dc24 pm24 an24 cd24 ct24, [(c4, P4), (c5, P5), (c11, P11)], PrD K [TQ.tab P4, TQ.tab P5, TQ.tab P11] 1 RLaw, (List.forall_mem_cons.mpr ⟨t4.2, (List.forall_mem_cons.mpr ⟨t5.2, (List.forall_mem_cons.mpr ⟨t11.2, (fun _ hp => by cases hp)⟩)⟩)⟩), (List.forall_mem_cons.mpr ⟨hn4, (List.forall_mem_cons.mpr ⟨hn5, (List.forall_mem_cons.mpr ⟨hn11, (fun _ hp => by cases hp)⟩)⟩)⟩), (List.forall_mem_cons.mpr ⟨t4.1, (List.forall_mem_cons.mpr ⟨t5.1, (List.forall_mem_cons.mpr ⟨t11.1, (fun _ hp => by cases hp)⟩)⟩)⟩), fun s v => .of_eq rfl, fun H a ns hl _ hT hS => ?_, fun base KB GB hTB => ?_⟩
  · refine ⟨rfl, [.dat (.list (ns.map .int))], [], .bool true, [.dat (.list (ns.map .int))], args_dats (ds := [.list (ns.map .int)]) (.cons (.lst (Kp.sqL (fun b o _ z => z) (show SqL K (msk [] H) a (ns.map V.int) by rw [show msk [] H = H from funext fun b => msk_out (by simp)]; exact hS)) (RpA.of_ints ns)) .nil), List.nodup_nil, (fun a h => by cases h), (fun a h => by cases h), ?_, Sh.refl _, ⟨ns, rfl, hl, rfl, rfl⟩, fun v H' _ _ _ _ r => bl_of r⟩
    intro P hP
    have key : ∀ p ∈ ([(c4, P4), (c5, P5), (c11, P11)] : List (Addr × Addr)), GxR.TabG H p.2 := fun p hp => ⟨#[], hT p hp, trivial⟩
    have hP : P ∈ ([(c4, P4), (c5, P5), (c11, P11)] : List (Addr × Addr)).map (fun p => TQ.tab p.2) := hP
    obtain ⟨p, hp, rfl⟩ := List.mem_map.mp hP
    exact key p hp
  · have tb4 := hTB (c4, P4) List.mem_cons_self
    have TB4 : GxR.TabB base mg c4 P4 := ⟨tb4.code, tb4.bm, tb4.gP⟩
    have tb5 := hTB (c5, P5) (List.mem_cons_of_mem _ List.mem_cons_self)
    have TB5 : GxR.TabB base mg c5 P5 := ⟨tb5.code, tb5.bm, tb5.gP⟩
    have tb11 := hTB (c11, P11) (List.mem_cons_of_mem _ (List.mem_cons_of_mem _ List.mem_cons_self))
    have TB11 : GxR.TabB base mg c11 P11 := ⟨tb11.code, tb11.bm, tb11.gP⟩
    exact ok_law (n := 6) F24 ⟨⟨_, _, ok_take F17 n_len n_int, m17, k17, b17⟩, ⟨_, _, ok_made F21 n_abs, m21, k21, b21⟩, ⟨_, _, ok_idx F23 n_range, m23, k23, b23⟩, ⟨_, _, ok_says F19 n_isinstance n_bool, m19, k19, b19⟩, ⟨_, _, (ok_told F22 n_len (ok_ind F9 n_dict n_range n_MOST_CELLS (ok_count F8 n_dict) m8 k8 b8) (ok_indX F9 ⟨n_TooMuch, kX, xX, sX, yX⟩ n_MOST_CELLS (ok_count F8 n_dict) m8 k8 b8) m9 k9 b9 (ok_word (j := 4) F20 ⟨⟨e1, e2, e3, e4, e5, e6, e7, e8⟩, n_OutOfRange, n_Malformed, n_NotThere, n_Refused, n_TooMuch, kit_ref v1 d1 y1 u1, kit_ref v2 d2 y2 u2, kit_ref v3 d3 y3 u3, kit_ref v4 d4 y4 u4, kit_self⟩ n_isinstance n_len rfl (by decide) rfl rfl) m20 k20 b20 n_ArrayError (PySem.W.exm_ref sE dE yE uE)), m22, k22, b22⟩, fun d hd => ⟨_, _, (by have z := ok_alike (P := PySem.Challenge.rw_arraysaligned_k04_whole_axes_and_arrays.prog) (w := w) (base := base) (T := [TQ.tab P4, TQ.tab P5, TQ.tab P11]) F18 m18 b18 n_isinstance n_list n_tuple n_bool n_int n_str n_len n_range d (5 - d); rwa [show 5 - d + d + 1 = 6 by omega] at z), m18, k18, b18⟩, ⟨_, _, (ok_axis F3 n_isinstance n_str n_len n_LETTERS), m3, k3, b3⟩, ⟨_, _, (ok_axes F4 TB4 List.mem_cons_self n_isinstance n_str n_len n_range n_all (ok_axis F3 n_isinstance n_str n_len n_LETTERS) m3 k3 b3), m4, k4, b4⟩, ⟨_, _, (ok_lens F5 TB5 (List.mem_cons_of_mem _ List.mem_cons_self) n_isinstance n_tuple n_len n_range n_all n_MOST_LENGTH (ok_axis F3 n_isinstance n_str n_len n_LETTERS) m3 k3 b3 (ok_num F1 n_isinstance n_int n_bool) m1 k1 b1), m5, k5, b5⟩, ⟨_, _, (ok_value F10 n_abs (show mg "MOST_FIGURE" = some (.int great tF) from n_MOST_FIGURE) (ok_exact F2 n_isinstance n_tuple n_int n_bool n_len n_gcd) m2 k2 b2), m10, k10, b10⟩, ⟨_, _, (ok_arr F11 TB11 (List.mem_cons_of_mem _ (List.mem_cons_of_mem _ List.mem_cons_self)) n_isinstance n_tuple n_len n_all n_dict n_MOST_CELLS (ok_axes F4 TB4 List.mem_cons_self n_isinstance n_str n_len n_range n_all (ok_axis F3 n_isinstance n_str n_len n_LETTERS) m3 k3 b3) m4 k4 b4 (ok_count F8 n_dict) m8 k8 b8 (ok_value F10 n_abs (show mg "MOST_FIGURE" = some (.int great tF) from n_MOST_FIGURE) (ok_exact F2 n_isinstance n_tuple n_int n_bool n_len n_gcd) m2 k2 b2) m10 k10 b10), m11, k11, b11⟩, ⟨_, _, (ok_count F8 n_dict), m8, k8, b8⟩, ⟨_, _, (ok_ind F9 n_dict n_range n_MOST_CELLS (ok_count F8 n_dict) m8 k8 b8), m9, k9, b9⟩, ⟨_, _, (ok_same F15 n_len (ok_ind F9 n_dict n_range n_MOST_CELLS (ok_count F8 n_dict) m8 k8 b8) m9 k9 b9), m15, k15, b15⟩, ⟨_, _, (ok_cell F13 (ok_place F12 n_dict) m12 k12 b12), m13, k13, b13⟩, ⟨_, _, (ok_from F14 n_tuple (ok_ind F9 n_dict n_range n_MOST_CELLS (ok_count F8 n_dict) m8 k8 b8) m9 k9 b9), m14, k14, b14⟩, ⟨_, _, (ok_joined F6 n_sorted n_set), m6, k6, b6⟩, ⟨_, ok_wo F7 b7, m7, k7⟩, n_dict, n_tuple, n_list, n_range, n_len, n_int⟩ ⟨ok_draws F16 n_len n_int n_abs n_range n_list n_reversed, m16, k16, b16⟩
end K04
namespace Dv
open PySem PySem.Spec PyProof.Rows L2 LamX
theorem walk_ofTT {l : PySem.W.OpenLaw} {n k : Nat} {q : Program} {loose : List Str} {XP : (Str → Option Value) → Heap → Prop} {YP : World → Heap → Prop} {d : DefRec} {K : Params → PySem.W.Frag} {CX : World → CXT} {x : Str}
    (hn : l.most = some n) (hn2 : n ≤ sizeLine) (hdf : d.params.defaults = []) (hr : Room k callerA) (hY : ∀ (w : World) (h : Heap), YP w h → (K w.params).In h)
    (F : ∀ (w : World) (mg mb : Str → Option Value) (mean : ExcName → Option Value) (fa : Addr) (h : Heap), (K w.params).In h → Top q (PySem.W.looseW q loose) mean mg mb h → h.Ns mainGlobals mg → mg d.name = some (.ref fa) → LamX.LawAtS l w (K w.params) (CX w) k n x mg fa h)
    (hCX : ∀ (w : World) (H : Hp) (s : Shared) (e : Value) (s' : Shared), CX w [] H s (fun _ _ _ => False) e s' → False) : PySem.W.WalkO q loose XP YP l.row.toRowW d [] (fun f vs => PySem.call f vs) := by
  refine Att.attach_callB hn hdf fun w s₀ s₁ mg mb fa o pm cd doc a vs ns G Y ho hd hcd hmg hobj hints hlen hbits hg => ?_
  have KX := hY w _ Y
  obtain ⟨fd, cs, sp, hT, nT, C, hb, hsp, hF⟩ := F w mg mb _ fa _ KX G.T G.T.g hmg
  exact law_callTs KX G.T.g G.T.b G.T.builtins G.T.nolimit hg hT nT C G.T.bmain hobj hints (Nat.le_trans hlen hn2) hr hF hb (fun H hH hS => hsp H a ns hlen hbits hH hS) fun H e s' => hCX w H s₁ e s'
end Dv
open PySem PySem.W PyProof.Rows
set_option maxHeartbeats 0 in
theorem PySem.Challenge.cw_arraysaligned_k04_whole_axes_and_arrays_holds : PySem.Challenge.rw_arraysaligned_k04_whole_axes_and_arrays.Holds := by
  w_on; o_law; k_head; (case hw => w_witness2)
  k_fill
  refine Dv.walk_ofTT (l := PySem.Challenge.rw_arraysaligned_k04_whole_axes_and_arrays) (n := 63) (k := 7) (x := "script") (CX := fun _ => L2.CX0) rfl (by decide) rfl ⟨rfl, by decide, by decide⟩ (fun w h Y => PySem.W.kIn_of Y) ?F (fun _ _ _ _ _ h => h)
  case F =>
    intro w mg mb mean fa h KX T G hmg
    refine' K04.all_mk KX T G hmg ?a1 ?l1 ?c1 ?k1 ?a2 ?l2 ?c2 ?k2 ?a3 ?l3 ?c3 ?k3 ?a4 ?l4 ?cc4 ?k4 ?lc4 ?hv4 ?hn4 ?hr4 ?a5 ?l5 ?cc5 ?k5 ?lc5 ?hv5 ?hn5 ?hr5 ?a6 ?l6 ?c6 ?k6 ?a7 ?l7 ?c7 ?k7 ?a8 ?l8 ?c8 ?k8 ?a9 ?l9 ?c9 ?k9 ?a10 ?l10 ?c10 ?k10 ?a11 ?l11 ?cc11 ?k11 ?lc11 ?hv11 ?hn11 ?hr11 ?a12 ?l12 ?c12 ?k12 ?a13 ?l13 ?c13 ?k13 ?a14 ?l14 ?c14 ?k14 ?a15 ?l15 ?c15 ?k15 ?a16 ?l16 ?c16 ?k16 ?a17 ?l17 ?c17 ?k17 ?a18 ?l18 ?c18 ?k18 ?a19 ?l19 ?c19 ?k19 ?a20 ?l20 ?c20 ?k20 ?a21 ?l21 ?c21 ?k21 ?a22 ?l22 ?c22 ?k22 ?a23 ?l23 ?c23 ?k23 ?a24 ?l24 ?c24 ?k24 ?z_len ?z_int ?z_abs ?z_range ?z_list ?z_reversed ?z_sorted ?z_set ?z_dict ?z_isinstance ?z_bool ?z_tuple ?z_str ?z_all ?z_gcd ?z_LETTERS ?z_MOST_LENGTH ?z_MOST_CELLS ?z_MOST_FIGURE ?z_OutOfRange ?z_Malformed ?z_NotThere ?z_Refused ?z_TooMuch ?z_ArrayError ?kX ?xX ?sX ?yX ?e1 ?e2 ?e3 ?e4 ?e5 ?e6 ?e7 ?e8 ?d1 ?y1 ?u1 ?v1 ?d2 ?y2 ?u2 ?v2 ?d3 ?y3 ?u3 ?v3 ?d4 ?y4 ?u4 ?v4 ?dE ?yE ?uE ?sE
    (case a1 => k_is); (case l1 => k_is); (case c1 => k_is); (case k1 => k_is); (case a2 => k_is); (case l2 => k_is)
    (case c2 => k_is); (case k2 => k_is); (case a3 => k_is); (case l3 => k_is); (case c3 => k_is); (case k3 => k_is)
    (case a4 => k_is); (case l4 => k_is); (case cc4 => k_is); (case k4 => k_is); (case lc4 => k_is); (case hv4 => rfl)
    (case hn4 => kernel_rfl); (case hr4 => rfl); (case a5 => k_is); (case l5 => k_is); (case cc5 => k_is); (case k5 => k_is)
    (case lc5 => k_is); (case hv5 => rfl); (case hn5 => kernel_rfl); (case hr5 => rfl); (case a6 => k_is); (case l6 => k_is)
    (case c6 => k_is); (case k6 => k_is); (case a7 => k_is); (case l7 => k_is); (case c7 => k_is); (case k7 => k_is)
    (case a8 => k_is); (case l8 => k_is); (case c8 => k_is); (case k8 => k_is); (case a9 => k_is); (case l9 => k_is)
    (case c9 => k_is); (case k9 => k_is); (case a10 => k_is); (case l10 => k_is); (case c10 => k_is); (case k10 => k_is)
    (case a11 => k_is); (case l11 => k_is); (case cc11 => k_is); (case k11 => k_is); (case lc11 => k_is); (case hv11 => rfl)
    (case hn11 => kernel_rfl); (case hr11 => rfl); (case a12 => k_is); (case l12 => k_is); (case c12 => k_is); (case k12 => k_is)
    (case a13 => k_is); (case l13 => k_is); (case c13 => k_is); (case k13 => k_is); (case a14 => k_is); (case l14 => k_is)
    (case c14 => k_is); (case k14 => k_is); (case a15 => k_is); (case l15 => k_is); (case c15 => k_is); (case k15 => k_is)
    (case a16 => k_is); (case l16 => k_is); (case c16 => k_is); (case k16 => k_is); (case a17 => k_is); (case l17 => k_is)
    (case c17 => k_is); (case k17 => k_is); (case a18 => k_is); (case l18 => k_is); (case c18 => k_is); (case k18 => k_is)
    (case a19 => k_is); (case l19 => k_is); (case c19 => k_is); (case k19 => k_is); (case a20 => k_is); (case l20 => k_is)
    (case c20 => k_is); (case k20 => k_is); (case a21 => k_is); (case l21 => k_is); (case c21 => k_is); (case k21 => k_is)
    (case a22 => k_is); (case l22 => k_is); (case c22 => k_is); (case k22 => k_is); (case a23 => k_is); (case l23 => k_is)
    (case c23 => k_is); (case k23 => k_is); (case a24 => k_is); (case l24 => k_is); (case c24 => k_is); (case k24 => k_is)
    (case z_len => k_is); (case z_int => k_is); (case z_abs => k_is); (case z_range => k_is); (case z_list => k_is); (case z_reversed => k_is)
    (case z_sorted => k_is); (case z_set => k_is); (case z_dict => k_is); (case z_isinstance => k_is); (case z_bool => k_is); (case z_tuple => k_is)
    (case z_str => k_is); (case z_all => k_is); (case z_gcd => k_is); (case z_LETTERS => k_is); (case z_MOST_LENGTH => k_is); (case z_MOST_CELLS => k_is)
    (case z_MOST_FIGURE => k_is); (case z_OutOfRange => k_is); (case z_Malformed => k_is); (case z_NotThere => k_is); (case z_Refused => k_is); (case z_TooMuch => k_is)
    (case z_ArrayError => k_is); (case kX => k_is); (case xX => first | kernel_rfl | k_exc); (case sX => k_is); (case yX => k_is); (case e1 => k_is)
    (case e2 => k_is); (case e3 => k_is); (case e4 => k_is); (case e5 => k_is); (case e6 => k_is); (case e7 => k_is)
    (case e8 => k_is); (case d1 => k_is); (case y1 => k_is); (case u1 => k_is); (case v1 => decide); (case d2 => k_is)
    (case y2 => k_is); (case u2 => k_is); (case v2 => decide); (case d3 => k_is); (case y3 => k_is); (case u3 => k_is)
    (case v3 => decide); (case d4 => k_is); (case y4 => k_is); (case u4 => k_is); (case v4 => decide); (case dE => k_is)
    (case yE => k_is); (case uE => k_is); (case sE => k_is)

