import PyProof.Rows.All
import Wide.All
import OpenK.AllK
import Wide.FinOn
import HandS.ForMost
import HandS.ForExc
import HandS.Deep
import HandS.IsInst
import HandS.TupAny
import HandS.TupMul
import HandS.Style
import HandS.Walk
import HandS.RevRange
import HandS.Wide
import KE.GoesMore
import HandS.SortRule
import HandS.SortInts
import HandS.ExcIs
import HandS.ExcField
import HandS.ExcInit
import HandS.ExcOwn
import HandS.WordsExc
import PyProof.LongRange
import KE.KExcIs
import KE.BitLaws
import PySem.Challenge.RW_pegdiscs_k07_ways_told
set_option Elab.async false
set_option linter.all false
set_option maxRecDepth 100000
set_option maxHeartbeats 4000000
/-! Pd: the readings of HandS, told over data alone: an environment of data in place of slots and addresses. -/
namespace Pd
open PySem PySem.Spec PyProof.Rows L2

/-! ### heaps -/
def Ex (H H' : Hp) : Prop := ∀ a o, H a = some o → H' a = some o
theorem Ex.refl (H : Hp) : Ex H H := fun _ _ h => h
theorem Ex.trans {H H1 H2 : Hp} (a : Ex H H1) (b : Ex H1 H2) : Ex H H2 := fun x o h => b x o (a x o h)
theorem Ex.new {H : Hp} {p : Addr} {o : HO} (h : H p = none) : Ex H (upd H p o) := fun a u e => by
  rw [upd_ne (ne_of_none e h)]
  exact e
theorem Ex.upd2 {G H : Hp} {p : Addr} {o : HO} (e : Ex G H) : Ex (upd G p o) (upd H p o) := fun a u q => by
  unfold upd at q ⊢
  split
  · rename_i h
    rw [if_pos h] at q
    exact q
  · rename_i h
    rw [if_neg h] at q
    exact e a u q
theorem Ex.mut {G H : Hp} {p : Addr} {o : HO} (e : Ex G H) (h : G p = none) : Ex G (upd H p o) := fun a u ha => by
  rw [upd_ne (ne_of_none ha h)]
  exact e a u ha
theorem Ex.free {G H : Hp} {p : Addr} (e : Ex G H) (h : H p = none) : G p = none := by
  cases q : G p with
  | none => rfl
  | some o =>
    rw [e p o q] at h
    cases h
theorem rd_ex {H H' : Hp} {a : Addr} {u : HO} (e : Ex H H') (h : Rd H a u) : Rd H' a u := by
  rcases h with h | ⟨o, h⟩
  · exact Or.inl (e a _ h)
  · exact Or.inr ⟨o, e a _ h⟩
theorem sqL_ex {K : PySem.W.Frag} {H H' : Hp} {a : Addr} {xs : List V} (e : Ex H H') (h : SqL K H a xs) : SqL K H' a xs := by
  rcases h with h | h
  · exact Or.inl (rd_ex e h)
  · exact Or.inr h
theorem sqT_ex {K : PySem.W.Frag} {H H' : Hp} {a : Addr} {xs : List V} (e : Ex H H') (h : SqT K H a xs) : SqT K H' a xs := by
  rcases h with h | h
  · exact Or.inl (rd_ex e h)
  · exact Or.inr h

/-- from (G, H) to (G', H'): G what is known and stands, H all that is tracked; what is new in G' was not in H -/
structure Run (G H G' H' : Hp) : Prop where
  g : Ex G G'
  h : Ex G' H'
  k : Ex H H'
  f : ∀ a o, G' a = some o → G a = none → H a = none
theorem Run.refl {G H : Hp} (e : Ex G H) : Run G H G H := ⟨Ex.refl G, e, Ex.refl H, fun a o h n => by rw [h] at n; cases n⟩
theorem Run.trans {G H G1 H1 G2 H2 : Hp} (a : Run G H G1 H1) (b : Run G1 H1 G2 H2) : Run G H G2 H2 :=
  ⟨a.g.trans b.g, b.h, a.k.trans b.k, fun x o h n => by
    cases q : G1 x with
    | none => exact a.k.free (b.f x o h q)
    | some u => exact a.f x u q n⟩
/-- a new object, known -/
theorem Run.new {G H : Hp} {p : Addr} {o : HO} (e : Ex G H) (n : H p = none) : Run G H (upd G p o) (upd H p o) :=
  ⟨Ex.new (e.free n), e.upd2, Ex.new n, fun a u h q => by
    by_cases z : a = p
    · rw [z]
      exact n
    · rw [upd_ne z, q] at h
      cases h⟩
/-- a new object, not known (as yet) -/
theorem Run.newg {G H : Hp} {p : Addr} {o : HO} (e : Ex G H) (n : H p = none) : Run G H G (upd H p o) :=
  ⟨Ex.refl G, e.mut (e.free n), Ex.new n, fun a u h q => by rw [h] at q; cases q⟩
theorem Run.own {G H G' H' : Hp} {p : Addr} {o : HO} (r : Run G H G' H') (gp : G p = none) (hp : H p = some o) : G' p = none ∧ H' p = some o := by
  refine ⟨?_, r.k p o hp⟩
  cases q : G' p with
  | none => rfl
  | some u =>
    have z := r.f p u q gp
    rw [hp] at z
    cases z
/-- what is not known and new since the beginning is changed -/
theorem Run.mut {G0 H0 G H : Hp} {p : Addr} {o : HO} (r : Run G0 H0 G H) (gp : G p = none) (hp : H0 p = none) : Run G0 H0 G (upd H p o) :=
  ⟨r.g, r.h.mut gp, r.k.mut hp, r.f⟩
/-- what is new since the beginning, and stands in H, comes to be known -/
theorem Run.know {G0 H0 G H : Hp} {p : Addr} {o : HO} (r : Run G0 H0 G H) (gp : G p = none) (hp : H0 p = none) (e : H p = some o) : Run G0 H0 (upd G p o) H :=
  ⟨r.g.trans (Ex.new gp), fun a u h => by
    by_cases z : a = p
    · rw [z, upd_same] at h
      rw [z, e]
      exact h
    · rw [upd_ne z] at h
      exact r.h a u h, r.k, fun a u h n => by
    by_cases z : a = p
    · rw [z]
      exact hp
    · rw [upd_ne z] at h
      exact r.f a u h n⟩
theorem Run.from {G0 G1 H0 G H : Hp} (r : Run G1 H0 G H) (e : Ex G0 G1) (f : ∀ a o, G1 a = some o → G0 a = none → H0 a = none) : Run G0 H0 G H :=
  ⟨e.trans r.g, r.h, r.k, fun a o h n => by
    cases q : G1 a with
    | none => exact r.f a o h q
    | some u => exact f a u q n⟩

/-! ### values that are data -/
/-- an exception that is held, its class cls, its dict d -/
def exT (cls : Value) (d : Option Addr) (a : Addr) : HO := .ext fun h => ∃ (oe : Obj) (vs : Array Value), h.get? a = some oe ∧ Zc cls d oe ∧ oe.data = .fields vs
/-- its field -/
inductive ExF (H : Hp) : Option Addr → PyData → Prop
  | non : ExF H none (.tuple [])
  | atI {dd : Addr} {i : Int} : H dd = some (.xd [("at", .int i)]) → ExF H (some dd) (.tuple [.int i])
  | atN {dd : Addr} : H dd = some (.xd [("at", .non)]) → ExF H (some dd) (.tuple [.none])
/-- the script -/
abbrev dScr (ns : List Int) : PyData := .dict [(.none, .list (ns.map PyData.int))]
/-- an error of the class at C, its field f -/
abbrev dExc (C : Addr) (f : PyData) : PyData := .dict [(.int (C : Int), f)]
abbrev dEmp : PyData := .dict []
/-- a built-in class, an own one (or a def) at C -/
abbrev dTy (n : String) : PyData := .dict [(.bool false, .list (n.toList.map fun ch => PyData.int (ch.toNat : Int)))]
abbrev dCls (C : Addr) : PyData := .dict [(.bool true, .int (C : Int))]
mutual
inductive Rp (K : PySem.W.Frag) (H : Hp) : V → PyData → Prop
  | non : Rp K H .non .none
  | bl (b : Bool) : Rp K H (.bl b) (.bool b)
  | int (i : Int) : Rp K H (.int i) (.int i)
  | str (x : Str) : Rp K H (.str x) (.str x)
  | lst {a : Addr} {xs : List V} {ds : List PyData} : H a = some (.lst xs) → RpAll K H xs ds → Rp K H (.ref a) (.list ds)
  | tup {a : Addr} {xs : List V} {ds : List PyData} : H a = some (.tup xs) → RpAll K H xs ds → Rp K H (.ref a) (.tuple ds)
  | emp {a : Addr} : H a = some (.dK []) → Rp K H (.ref a) dEmp
  | scr {a : Addr} {ns : List Int} : SqL K H a (ns.map V.int) → Rp K H (.ref a) (dScr ns)
  | exc {a C : Addr} {d : Option Addr} {f : PyData} : H a = some (exT (.ref C) d a) → ExF H d f → Rp K H (.ref a) (dExc C f)
  | ty (n : String) : Rp K H (.ty n) (dTy n)
  | cls (C : Addr) : Rp K H (.ref C) (dCls C)
inductive RpAll (K : PySem.W.Frag) (H : Hp) : List V → List PyData → Prop
  | nil : RpAll K H [] []
  | cons {v : V} {vs : List V} {d : PyData} {ds : List PyData} : Rp K H v d → RpAll K H vs ds → RpAll K H (v :: vs) (d :: ds)
end
section
variable {K : PySem.W.Frag} {G H H' : Hp} {v : V} {d : PyData} {vs us : List V} {ds es : List PyData}
theorem ExF.ex {o : Option Addr} (e : Ex H H') : ExF H o d → ExF H' o d
  | .non => .non
  | .atI h => .atI (e _ _ h)
  | .atN h => .atN (e _ _ h)
mutual
theorem Rp.ex (e : Ex H H') : ∀ {v : V} {d : PyData}, Rp K H v d → Rp K H' v d
  | _, _, .non => .non
  | _, _, .bl b => .bl b
  | _, _, .int i => .int i
  | _, _, .str x => .str x
  | _, _, .lst h r => .lst (e _ _ h) (RpAll.ex e r)
  | _, _, .tup h r => .tup (e _ _ h) (RpAll.ex e r)
  | _, _, .emp h => .emp (e _ _ h)
  | _, _, .scr h => .scr (sqL_ex e h)
  | _, _, .exc h f => .exc (e _ _ h) (f.ex e)
  | _, _, .ty n => .ty n
  | _, _, .cls C => .cls C
theorem RpAll.ex (e : Ex H H') : ∀ {vs : List V} {ds : List PyData}, RpAll K H vs ds → RpAll K H' vs ds
  | _, _, .nil => .nil
  | _, _, .cons h r => .cons (Rp.ex e h) (RpAll.ex e r)
end
theorem RpAll.length : ∀ {vs : List V} {ds : List PyData}, RpAll K H vs ds → vs.length = ds.length
  | _, _, .nil => rfl
  | _, _, .cons _ r => by
    rw [List.length_cons, List.length_cons, RpAll.length r]
theorem RpAll.append : ∀ {vs : List V} {ds : List PyData}, RpAll K H vs ds → RpAll K H us es → RpAll K H (vs ++ us) (ds ++ es)
  | _, _, .nil, s => s
  | _, _, .cons h r, s => .cons h (RpAll.append r s)
theorem RpAll.get : ∀ {vs : List V} {ds : List PyData} {i : Nat}, RpAll K H vs ds → ds[i]? = some d → ∃ v, vs[i]? = some v ∧ Rp K H v d
  | _, _, _, .nil, e => by simp at e
  | _, _, 0, .cons h _, e => by
    have q := Option.some.inj e
    subst q
    exact ⟨_, rfl, h⟩
  | _, _, i + 1, .cons _ r, e => RpAll.get (i := i) r e
theorem RpAll.getV : ∀ {vs : List V} {ds : List PyData} {i : Nat}, RpAll K H vs ds → vs[i]? = some v → ∃ d, ds[i]? = some d ∧ Rp K H v d
  | _, _, _, .nil, e => by simp at e
  | _, _, 0, .cons h _, e => by
    have q := Option.some.inj e
    subst q
    exact ⟨_, rfl, h⟩
  | _, _, i + 1, .cons _ r, e => RpAll.getV (i := i) r e
theorem RpAll.take : ∀ {vs : List V} {ds : List PyData} (n : Nat), RpAll K H vs ds → RpAll K H (vs.take n) (ds.take n)
  | _, _, 0, _ => .nil
  | _, _, n + 1, .nil => .nil
  | _, _, n + 1, .cons h r => .cons h (RpAll.take n r)
theorem RpAll.drop : ∀ {vs : List V} {ds : List PyData} (n : Nat), RpAll K H vs ds → RpAll K H (vs.drop n) (ds.drop n)
  | _, _, 0, r => r
  | _, _, n + 1, .nil => .nil
  | _, _, n + 1, .cons _ r => RpAll.drop n r
theorem RpAll.reverse : ∀ {vs : List V} {ds : List PyData}, RpAll K H vs ds → RpAll K H vs.reverse ds.reverse
  | _, _, .nil => .nil
  | _, _, .cons h r => by
    rw [List.reverse_cons, List.reverse_cons]
    exact (RpAll.reverse r).append (.cons h .nil)
theorem RpAll.ints : ∀ (ns : List Int), RpAll K H (ns.map V.int) (ns.map PyData.int)
  | [] => .nil
  | n :: ns => .cons (.int n) (RpAll.ints ns)
theorem RpAll.split : ∀ {ds : List PyData} {vs : List V}, RpAll K H vs (ds ++ es) → ∃ xs ys, vs = xs ++ ys ∧ RpAll K H xs ds ∧ RpAll K H ys es
  | [], vs, h => ⟨[], vs, rfl, .nil, h⟩
  | d :: ds, _, .cons h r => by
    obtain ⟨xs, ys, e, a, b⟩ := RpAll.split (ds := ds) r
    exact ⟨_ :: xs, ys, by rw [e]; rfl, .cons h a, b⟩
theorem RpAll.rep {v : V} {d : PyData} (h : Rp K H v d) : ∀ n : Nat, RpAll K H (List.replicate n v) (List.replicate n d)
  | 0 => .nil
  | n + 1 => .cons h (RpAll.rep h n)
theorem Rp.int_inv {i : Int} (h : Rp K H v (.int i)) : v = .int i := by cases h; rfl
theorem Rp.bool_inv {b : Bool} (h : Rp K H v (.bool b)) : v = .bl b := by cases h; rfl
theorem Rp.none_inv (h : Rp K H v .none) : v = .non := by cases h; rfl
theorem Rp.str_inv {x : Str} (h : Rp K H v (.str x)) : v = .str x := by cases h; rfl
theorem Rp.tup_inv (h : Rp K H v (.tuple ds)) : ∃ a xs, v = .ref a ∧ H a = some (.tup xs) ∧ RpAll K H xs ds := by
  cases h with
  | tup h r => exact ⟨_, _, rfl, h, r⟩
theorem Rp.lst_inv (h : Rp K H v (.list ds)) : ∃ a xs, v = .ref a ∧ H a = some (.lst xs) ∧ RpAll K H xs ds := by
  cases h with
  | lst h r => exact ⟨_, _, rfl, h, r⟩
theorem RpAll.ints_inv : ∀ {ns : List Int} {vs : List V}, RpAll K H vs (ns.map PyData.int) → vs = ns.map V.int
  | [], _, .nil => rfl
  | n :: ns, _, .cons h r => by
    rw [h.int_inv, RpAll.ints_inv r]
    rfl
theorem RpAll.bools_inv : ∀ {ns : List Bool} {vs : List V}, RpAll K H vs (ns.map PyData.bool) → vs = ns.map V.bl
  | [], _, .nil => rfl
  | n :: ns, _, .cons h r => by
    rw [h.bool_inv, RpAll.bools_inv r]
    rfl
mutual
theorem Rp.dp : ∀ {v : V} {d : PyData}, d.canLay0 = true → Rp K H v d → Dp K H v d
  | _, _, _, .non => .non
  | _, _, _, .bl b => .bl b
  | _, _, _, .int i => .int i
  | _, _, _, .str x => .str x
  | _, _, c, .lst h r => .lst (SqL.of h) (RpAll.dp (by simpa [PyData.canLay0] using c) r)
  | _, .dict _, c, _ => by simp [PyData.canLay0] at c
  | _, _, c, .tup h r => .tup (SqT.of h) (RpAll.dp (by simpa [PyData.canLay0] using c) r)
theorem RpAll.dp : ∀ {vs : List V} {ds : List PyData}, PyData.canLayAll0 ds = true → RpAll K H vs ds → DpAll K H vs ds
  | _, _, _, .nil => .nil
  | _, _, c, .cons h r => by
    have c' := (Bool.and_eq_true_iff.mp (show (PyData.canLay0 _ && PyData.canLayAll0 _) = true from by simpa [PyData.canLayAll0] using c))
    exact .cons (Rp.dp c'.1 h) (RpAll.dp c'.2 r)
end
end

/-! ### states -/
/-- what a slot holds: data; or a list of its own that nothing else knows, and that may be changed -/
inductive Cel where
  | val (d : PyData)
  | own (ds : List PyData)
abbrev DEnv := List (Option Cel)
abbrev cv (d : PyData) : Option Cel := some (Cel.val d)
abbrev ci (i : Int) : Option Cel := some (Cel.val (.int i))

structure EnvOk (K : PySem.W.Frag) (H0 G H : Hp) (σ : L2.St) (δ : DEnv) : Prop where
  len : σ.length = δ.length
  val : ∀ (i : Nat) (d : PyData), δ[i]? = some (some (Cel.val d)) → ∃ v, σ[i]? = some (some v) ∧ Rp K G v d
  own : ∀ (i : Nat) (ds : List PyData), δ[i]? = some (some (Cel.own ds)) → ∃ p vs, σ[i]? = some (some (V.ref p)) ∧ H0 p = none ∧ G p = none ∧ H p = some (.lst vs) ∧ RpAll K G vs ds
  dis : ∀ (i j : Nat) (ds es : List PyData), δ[i]? = some (some (Cel.own ds)) → δ[j]? = some (some (Cel.own es)) → σ[i]? = σ[j]? → i = j
/-- the heaps at the beginning; what is wished of an exception -/
structure Cc where
  G : Hp
  H : Hp
  W : WX
def Sta (K : PySem.W.Frag) (c : Cc) (δ : DEnv) (σ : L2.St) (ts : List V) (td : List PyData) (H : Hp) : Prop :=
  ∃ G, Run c.G c.H G H ∧ EnvOk K c.H G H σ δ ∧ RpAll K G ts td
/-- .. and a new list at p -/
def StaN (K : PySem.W.Frag) (c : Cc) (δ : DEnv) (σ : L2.St) (ts : List V) (td : List PyData) (p : Addr) (ds : List PyData) (H : Hp) : Prop :=
  ∃ G vs, Run c.G c.H G H ∧ EnvOk K c.H G H σ δ ∧ RpAll K G ts td ∧ c.H p = none ∧ G p = none ∧ H p = some (.lst vs) ∧ RpAll K G vs ds ∧ ∀ (i : Nat) (es : List PyData), δ[i]? = some (some (Cel.own es)) → σ[i]? ≠ some (some (V.ref p))
section
variable {K : PySem.W.Frag} {c : Cc} {δ : DEnv} {σ : L2.St} {ts : List V} {td : List PyData} {G H G' H' H0 : Hp} {p : Addr} {d : PyData} {ds : List PyData} {v : V}
theorem EnvOk.run (e : EnvOk K H0 G H σ δ) (r : Run G H G' H') : EnvOk K H0 G' H' σ δ :=
  ⟨e.len, fun i d h => by
    obtain ⟨v, a, b⟩ := e.val i d h
    exact ⟨v, a, b.ex r.g⟩, fun i ds h => by
    obtain ⟨p, vs, a, b, c, f, g⟩ := e.own i ds h
    obtain ⟨c', f'⟩ := r.own c f
    exact ⟨p, vs, a, b, c', f', g.ex r.g⟩, e.dis⟩
/-- a change of something that is neither known nor owned -/
theorem EnvOk.mut {o : HO} (e : EnvOk K H0 G H σ δ) (ne : ∀ (i : Nat) (es : List PyData), δ[i]? = some (some (Cel.own es)) → σ[i]? ≠ some (some (V.ref p))) : EnvOk K H0 G (upd H p o) σ δ :=
  ⟨e.len, e.val, fun i ds h => by
    obtain ⟨q, vs, a, b, c, f, g⟩ := e.own i ds h
    have nq : q ≠ p := fun z => ne i ds h (by rw [a, z])
    exact ⟨q, vs, a, b, c, by rw [upd_ne nq]; exact f, g⟩, e.dis⟩
theorem EnvOk.know {vs : List V} (e : EnvOk K H0 G H σ δ) (ne : ∀ (i : Nat) (es : List PyData), δ[i]? = some (some (Cel.own es)) → σ[i]? ≠ some (some (V.ref p))) (gp : G p = none) : EnvOk K H0 (upd G p (.lst vs)) H σ δ :=
  ⟨e.len, fun i d h => by
    obtain ⟨v, a, b⟩ := e.val i d h
    exact ⟨v, a, b.ex (Ex.new gp)⟩, fun i ds h => by
    obtain ⟨q, vs, a, b, c, f, g⟩ := e.own i ds h
    have nq : q ≠ p := fun z => ne i ds h (by rw [a, z])
    exact ⟨q, vs, a, b, by rw [upd_ne nq]; exact c, f, g.ex (Ex.new gp)⟩, e.dis⟩
theorem Sta.run (s : Sta K c δ σ ts td H) : ∃ G, Run c.G c.H G H ∧ EnvOk K c.H G H σ δ ∧ RpAll K G ts td := s
theorem StaN.sta (s : StaN K c δ σ ts td p ds H) : Sta K c δ σ (.ref p :: ts) (.list ds :: td) H := by
  obtain ⟨G, vs, r, e, t, hp, gp, q, a, ne⟩ := s
  exact ⟨upd G p (.lst vs), r.know gp hp q, e.know ne gp, .cons (.lst upd_same (a.ex (Ex.new gp))) (t.ex (Ex.new gp))⟩
theorem Sta.pop (s : Sta K c δ σ (v :: ts) (d :: td) H) : Sta K c δ σ ts td H := by
  obtain ⟨G, r, e, t⟩ := s
  cases t with
  | cons _ t => exact ⟨G, r, e, t⟩
theorem EnvOk.set {i : Nat} (e : EnvOk K H0 G H σ δ) (h : Rp K G v d) : EnvOk K H0 G H (σ.set i (some v)) (δ.set i (some (Cel.val d))) := by
  have hne : ∀ {j : Nat} {x : Option Cel}, j ≠ i → (δ.set i (some (Cel.val d)))[j]? = some x → δ[j]? = some x := fun {j x} hj q => by
    rw [List.getElem?_set_ne (Ne.symm hj)] at q
    exact q
  have own_ne : ∀ {j : Nat} {ds : List PyData}, (δ.set i (some (Cel.val d)))[j]? = some (some (Cel.own ds)) → j ≠ i := fun {j ds} q z => by
    subst z
    by_cases hl : j < δ.length
    · rw [List.getElem?_set_self hl] at q
      cases q
    · rw [List.getElem?_eq_none (by rw [List.length_set]; omega)] at q
      cases q
  refine ⟨by rw [List.length_set, List.length_set, e.len], fun j d' q => ?_, fun j ds q => ?_, fun j k ds es q1 q2 q3 => ?_⟩
  · by_cases hj : j = i
    · subst hj
      by_cases hl : j < δ.length
      · rw [List.getElem?_set_self hl] at q
        cases q
        exact ⟨v, by rw [List.getElem?_set_self (by rw [e.len]; exact hl)], h⟩
      · rw [List.getElem?_eq_none (by rw [List.length_set]; omega)] at q
        cases q
    · obtain ⟨w, a, b⟩ := e.val j d' (hne hj q)
      exact ⟨w, by rw [List.getElem?_set_ne (Ne.symm hj)]; exact a, b⟩
  · have hj := own_ne q
    obtain ⟨p, vs, a, b⟩ := e.own j ds (hne hj q)
    exact ⟨p, vs, by rw [List.getElem?_set_ne (Ne.symm hj)]; exact a, b⟩
  · have hj := own_ne q1
    have hk := own_ne q2
    rw [List.getElem?_set_ne (Ne.symm hj), List.getElem?_set_ne (Ne.symm hk)] at q3
    exact e.dis j k ds es (hne hj q1) (hne hk q2) q3
theorem Sta.set {i : Nat} (s : Sta K c δ σ (v :: ts) (d :: td) H) : Sta K c (δ.set i (some (Cel.val d))) (σ.set i (some v)) ts td H := by
  obtain ⟨G, r, e, t⟩ := s
  cases t with
  | cons h t => exact ⟨G, r, e.set h, t⟩
theorem StaN.set {i : Nat} (s : StaN K c δ σ ts td p ds H) : Sta K c (δ.set i (some (Cel.own ds))) (σ.set i (some (V.ref p))) ts td H := by
  obtain ⟨G, vs, r, e, t, hp, gp, q, a, ne⟩ := s
  have hne : ∀ {j : Nat} {x : Option Cel}, j ≠ i → (δ.set i (some (Cel.own ds)))[j]? = some x → δ[j]? = some x := fun {j x} hj q => by
    rw [List.getElem?_set_ne (Ne.symm hj)] at q
    exact q
  have at_i : ∀ {es : Cel}, (δ.set i (some (Cel.own ds)))[i]? = some (some es) → es = Cel.own ds ∧ i < δ.length := fun {es} q => by
    by_cases hl : i < δ.length
    · rw [List.getElem?_set_self hl] at q
      cases q
      exact ⟨rfl, hl⟩
    · rw [List.getElem?_eq_none (by rw [List.length_set]; omega)] at q
      cases q
  refine ⟨G, r, ⟨by rw [List.length_set, List.length_set, e.len], fun j d' q => ?_, fun j ds' q' => ?_, fun j k es fs q1 q2 q3 => ?_⟩, t⟩
  · by_cases hj : j = i
    · subst hj
      have z := (at_i q).1
      cases z
    · obtain ⟨w, x, y⟩ := e.val j d' (hne hj q)
      exact ⟨w, by rw [List.getElem?_set_ne (Ne.symm hj)]; exact x, y⟩
  · by_cases hj : j = i
    · subst hj
      obtain ⟨z, hl⟩ := at_i q'
      cases z
      exact ⟨p, vs, by rw [List.getElem?_set_self (by rw [e.len]; exact hl)], hp, gp, q, a⟩
    · obtain ⟨w, x, y⟩ := e.own j ds' (hne hj q')
      exact ⟨w, x, by rw [List.getElem?_set_ne (Ne.symm hj)]; exact y.1, y.2⟩
  · by_cases hj : j = i
    · subst hj
      obtain ⟨_, hl⟩ := at_i q1
      by_cases hk : k = j
      · exact hk.symm
      · rw [List.getElem?_set_self (by rw [e.len]; exact hl), List.getElem?_set_ne (Ne.symm hk)] at q3
        exact absurd q3.symm (ne k fs (hne hk q2))
    · by_cases hk : k = i
      · subst hk
        obtain ⟨_, hl⟩ := at_i q2
        rw [List.getElem?_set_self (by rw [e.len]; exact hl), List.getElem?_set_ne (Ne.symm hj)] at q3
        exact absurd q3 (ne j es (hne hj q1))
      · rw [List.getElem?_set_ne (Ne.symm hj), List.getElem?_set_ne (Ne.symm hk)] at q3
        exact e.dis j k es fs (hne hj q1) (hne hk q2) q3
/-- less is known -/
def Le (δ' δ : DEnv) : Prop := δ'.length = δ.length ∧ ∀ (i : Nat) (x : Cel), δ'[i]? = some (some x) → δ[i]? = some (some x)
theorem EnvOk.le {δ' : DEnv} (e : EnvOk K H0 G H σ δ) (h : Le δ' δ) : EnvOk K H0 G H σ δ' :=
  ⟨e.len.trans h.1.symm, fun i d q => e.val i d (h.2 _ _ q), fun i ds q => e.own i ds (h.2 _ _ q), fun i j ds es q1 q2 => e.dis i j ds es (h.2 _ _ q1) (h.2 _ _ q2)⟩
theorem Sta.le {δ' : DEnv} (s : Sta K c δ σ ts td H) (h : Le δ' δ) : Sta K c δ' σ ts td H := by
  obtain ⟨G, r, e, t⟩ := s
  exact ⟨G, r, e.le h, t⟩
/-- an own list comes to be data -/
theorem Sta.freeze {i : Nat} (s : Sta K c δ σ ts td H) (h : δ[i]? = some (some (Cel.own ds))) : Sta K c (δ.set i (some (Cel.val (.list ds)))) σ ts td H := by
  obtain ⟨G, r, e, t⟩ := s
  obtain ⟨p, vs, sp, hp, gp, q, a⟩ := e.own i ds h
  obtain ⟨hi, _⟩ := List.getElem?_eq_some_iff.mp h
  have ne : ∀ (j : Nat) (es : List PyData), (δ.set i (some (Cel.val (.list ds))))[j]? = some (some (Cel.own es)) → δ[j]? = some (some (Cel.own es)) ∧ σ[j]? ≠ some (some (V.ref p)) := fun j es z => by
    by_cases hj : j = i
    · subst hj
      rw [List.getElem?_set_self hi] at z
      cases z
    · rw [List.getElem?_set_ne (Ne.symm hj)] at z
      exact ⟨z, fun y => hj (e.dis j i es ds z h (by rw [y, sp]))⟩
  refine ⟨upd G p (.lst vs), r.know gp hp q, ⟨by rw [List.length_set, e.len], fun j d' z => ?_, fun j es z => ?_, fun j k es fs q1 q2 q3 => ?_⟩, t.ex (Ex.new gp)⟩
  · by_cases hj : j = i
    · subst hj
      rw [List.getElem?_set_self hi] at z
      cases z
      exact ⟨_, sp, .lst upd_same (a.ex (Ex.new gp))⟩
    · rw [List.getElem?_set_ne (Ne.symm hj)] at z
      obtain ⟨w, x, y⟩ := e.val j d' z
      exact ⟨w, x, y.ex (Ex.new gp)⟩
  · obtain ⟨z1, z2⟩ := ne j es z
    obtain ⟨q', vs', a1, a2, a3, a4, a5⟩ := e.own j es z1
    have nq : q' ≠ p := fun y => z2 (by rw [a1, y])
    exact ⟨q', vs', a1, a2, by rw [upd_ne nq]; exact a3, a4, a5.ex (Ex.new gp)⟩
  · exact e.dis j k es fs (ne j es q1).1 (ne k fs q2).1 q3
end
end Pd

namespace Pd
open PySem PySem.Spec PyProof.Rows L2

/-! ### what evaluates to what -/
section
variable (K : PySem.W.Frag) (c : Cc)
def EvD (te : TE) (δ : DEnv) (d : PyData) : Prop := ∀ (σ : L2.St) (H : Hp) (ts : List V) (td : List PyData), Sta K c δ σ ts td H → ∀ Q : VK, (∀ v H', Sta K c δ σ (v :: ts) (d :: td) H' → Q v H') → te σ H Q
/-- a new list -/
def EvN (te : TE) (δ : DEnv) (ds : List PyData) : Prop := ∀ (σ : L2.St) (H : Hp) (ts : List V) (td : List PyData), Sta K c δ σ ts td H → ∀ Q : VK, (∀ p H', StaN K c δ σ ts td p ds H' → Q (.ref p) H') → te σ H Q
def EvT (tt : TT) (δ : DEnv) (b : Bool) : Prop := ∀ (σ : L2.St) (H : Hp) (ts : List V) (td : List PyData), Sta K c δ σ ts td H → ∀ Q : Bool → Hp → Prop, (∀ H', Sta K c δ σ ts td H' → Q b H') → tt σ H Q
def EvA (ta : TA) (δ : DEnv) (ds : List PyData) : Prop := ∀ (σ : L2.St) (H : Hp) (ts : List V) (td : List PyData), Sta K c δ σ ts td H → ∀ Q : List V → Hp → Prop, (∀ vs H', vs.length = ds.length → Sta K c δ σ (vs ++ ts) (ds ++ td) H' → Q vs H') → ta σ H Q
def EvO (to : TO) (δ : DEnv) (o : Option Int) : Prop := ∀ (σ : L2.St) (H : Hp) (ts : List V) (td : List PyData), Sta K c δ σ ts td H → ∀ Q : Option Int → Hp → Prop, (∀ H', Sta K c δ σ ts td H' → Q o H') → to σ H Q
end
/-- an operation on two values; one that makes a list; a call by values -/
def OpD (K : PySem.W.Frag) (r : R2) (x y z : PyData) : Prop := ∀ (G H : Hp) (v u : V), Ex G H → Rp K G v x → Rp K G u y → ∀ Q : VK, (∀ w G' H', Run G H G' H' → Rp K G' w z → Q w H') → r v u H Q
def OpN (K : PySem.W.Frag) (r : R2) (x y : PyData) (zs : List PyData) : Prop := ∀ (G H : Hp) (v u : V), Ex G H → Rp K G v x → Rp K G u y → ∀ Q : VK, (∀ p vs G' H', Run G H G' H' → H p = none → G' p = none → H' p = some (.lst vs) → RpAll K G' vs zs → Q (.ref p) H') → r v u H Q
def CallD (K : PySem.W.Frag) (r : List V → Hp → VK → Prop) (ds : List PyData) (z : PyData) : Prop := ∀ (G H : Hp) (vs : List V), Ex G H → RpAll K G vs ds → ∀ Q : VK, (∀ w G' H', Run G H G' H' → Rp K G' w z → Q w H') → r vs H Q
def CallN (K : PySem.W.Frag) (r : List V → Hp → VK → Prop) (ds : List PyData) (zs : List PyData) : Prop := ∀ (G H : Hp) (vs : List V), Ex G H → RpAll K G vs ds → ∀ Q : VK, (∀ p us G' H', Run G H G' H' → H p = none → G' p = none → H' p = some (.lst us) → RpAll K G' us zs → Q (.ref p) H') → r vs H Q
/-- a def's promise, by data -/
def Pr (K : PySem.W.Frag) (vs : List V) (H : Hp) (Q : VK) (ds : List PyData) (z : PyData) : Prop := ∃ G, Ex G H ∧ RpAll K G vs ds ∧ ∀ w G' H', Run G H G' H' → Rp K G' w z → Q w H'
def PrN (K : PySem.W.Frag) (vs : List V) (H : Hp) (Q : VK) (ds : List PyData) (zs : List PyData) : Prop := ∃ G, Ex G H ∧ RpAll K G vs ds ∧ ∀ p us G' H', Run G H G' H' → H p = none → G' p = none → H' p = some (.lst us) → RpAll K G' us zs → Q (.ref p) H'

section
variable {K : PySem.W.Frag} {c : Cc} {δ : DEnv} {x y z d : PyData} {ds es zs : List PyData} {te ta tb tx : TE} {tr : TA} {t u : TT} {r : R2} {rc : List V → Hp → VK → Prop} {i j : Int} {a b : Bool}
theorem EvN.val (h : EvN K c te δ ds) : EvD K c te δ (.list ds) := fun σ H ts td s Q q => h σ H ts td s Q fun p H' s' => q _ H' s'.sta
theorem EvD.eq (h : EvD K c te δ x) (e : x = y) : EvD K c te δ y := e ▸ h
theorem EvT.eq (h : EvT K c t δ a) (e : a = b) : EvT K c t δ b := e ▸ h
theorem EvN.eq (h : EvN K c te δ ds) (e : ds = es) : EvN K c te δ es := e ▸ h
theorem ev_var {n : Nat} (h : δ[n]? = some (some (Cel.val d))) : EvD K c (tVar n) δ d := fun σ H ts td s Q q => by
  obtain ⟨G, r, e, t⟩ := s
  obtain ⟨v, a, b⟩ := e.val n d h
  exact ⟨v, a, q v H ⟨G, r, e, .cons b t⟩⟩
theorem ev_push {v : V} (h : ∀ G, Rp K G v d) {σ : L2.St} {H : Hp} {ts : List V} {td : List PyData} (s : Sta K c δ σ ts td H) : Sta K c δ σ (v :: ts) (d :: td) H := by
  obtain ⟨G, r, e, t⟩ := s
  exact ⟨G, r, e, .cons (h G) t⟩
theorem ev_c {v : V} (h : ∀ G, Rp K G v d) : EvD K c (tC v) δ d := fun _ H _ _ s _ q => q v H (ev_push h s)
theorem ev_int : EvD K c (tC (.int i)) δ (.int i) := ev_c fun _ => .int i
theorem ev_bl : EvD K c (tC (.bl a)) δ (.bool a) := ev_c fun _ => .bl a
theorem ev_non : EvD K c (tC .non) δ .none := ev_c fun _ => .non
theorem ev_str {s : Str} : EvD K c (tC (.str s)) δ (.str s) := ev_c fun _ => .str s
theorem ev_op (ha : EvD K c ta δ x) (hb : EvD K c tb δ y) (hr : OpD K r x y z) : EvD K c (tOp r ta tb) δ z := fun σ H ts td s Q q =>
  ha σ H ts td s _ fun v H1 s1 => hb σ H1 _ _ s1 _ fun u H2 s2 => by
    obtain ⟨G, rn, e, t⟩ := s2
    cases t with
    | cons hu t =>
      cases t with
      | cons hv t => exact hr G H2 v u rn.h hv hu Q fun w G' H' r' hw => q w H' ⟨G', rn.trans r', e.run r', .cons hw (t.ex r'.g)⟩
theorem own_ne {σ : L2.St} {H0 G H : Hp} {p : Addr} (e : EnvOk K H0 G H σ δ) (n : H p = none) : ∀ (i : Nat) (es : List PyData), δ[i]? = some (some (Cel.own es)) → σ[i]? ≠ some (some (V.ref p)) := fun i es h z => by
  obtain ⟨q, vs, a, b, c, f, g⟩ := e.own i es h
  rw [z] at a
  cases a
  rw [n] at f
  cases f
theorem ev_opN (ha : EvD K c ta δ x) (hb : EvD K c tb δ y) (hr : OpN K r x y zs) : EvN K c (tOp r ta tb) δ zs := fun σ H ts td s Q q =>
  ha σ H ts td s _ fun v H1 s1 => hb σ H1 _ _ s1 _ fun u H2 s2 => by
    obtain ⟨G, rn, e, t⟩ := s2
    cases t with
    | cons hu t =>
      cases t with
      | cons hv t => exact hr G H2 v u rn.h hv hu Q fun p vs G' H' r' hp gp ep hw => q p H' ⟨G', vs, rn.trans r', e.run r', t.ex r'.g, rn.k.free hp, gp, ep, hw, own_ne e hp⟩
theorem ev_un {ru : V → Hp → VK → Prop} (ha : EvD K c ta δ x) (hr : ∀ (G H : Hp) (v : V), Ex G H → Rp K G v x → ∀ Q : VK, (∀ w, Rp K G w z → Q w H) → ru v H Q) : EvD K c (tUn ru ta) δ z := fun σ H ts td s Q q =>
  ha σ H ts td s _ fun v H1 s1 => by
    obtain ⟨G, rn, e, t⟩ := s1
    cases t with
    | cons hv t => exact hr G H1 v rn.h hv Q fun w hw => q w H1 ⟨G, rn, e, .cons hw t⟩
theorem ea_nil : EvA K c tNil δ [] := fun _ H _ _ s _ q => q [] H rfl s
theorem ea_cons (h : EvD K c te δ d) (hr : EvA K c tr δ ds) : EvA K c (tCons te tr) δ (d :: ds) := fun σ H ts td s Q q =>
  h σ H ts td s _ fun v H1 s1 => hr σ H1 _ _ s1 _ fun vs H2 hl s2 => by
    refine q (v :: vs) H2 (by rw [List.length_cons, List.length_cons, hl]) ?_
    obtain ⟨G, rn, e, t⟩ := s2
    obtain ⟨xs, ys, e1, r1, r2⟩ := RpAll.split (ds := ds) t
    have hx : xs = vs := List.append_inj_left e1.symm (by rw [r1.length, hl])
    subst hx
    have hy : ys = v :: ts := List.append_cancel_left e1.symm
    subst hy
    cases r2 with
    | cons h1 h2 => exact ⟨G, rn, e, .cons h1 (r1.append h2)⟩
/-- the values on the stack, apart -/
theorem sta_split {σ : L2.St} {H : Hp} {vs ts : List V} {td : List PyData} (hl : vs.length = ds.length) (s : Sta K c δ σ (vs ++ ts) (ds ++ td) H) : ∃ G, Run c.G c.H G H ∧ EnvOk K c.H G H σ δ ∧ RpAll K G vs ds ∧ RpAll K G ts td := by
  obtain ⟨G, rn, e, t⟩ := s
  obtain ⟨xs, ys, e1, r1, r2⟩ := RpAll.split (ds := ds) t
  have hx : xs = vs := List.append_inj_left e1.symm (by rw [r1.length, hl])
  subst hx
  have hy : ys = ts := List.append_cancel_left e1.symm
  subst hy
  exact ⟨G, rn, e, r1, r2⟩
theorem sz_le {n : Nat} (h : n ≤ 100000) : n ≤ sizeLine := Nat.le_trans h (by decide)
theorem sz_lt {n : Nat} (h : n < 100000) : n < sizeLine := Nat.lt_of_lt_of_le h (by decide)
theorem ev_tup (h : EvA K c tr δ ds) (hl : ds.length ≤ 100000 := by first | decide | (simp; done) | omega) : EvD K c (tTup tr) δ (.tuple ds) := fun σ H ts td s Q q =>
  h σ H ts td s _ fun vs H1 hv s1 => by
    obtain ⟨G, rn, e, r1, r2⟩ := sta_split hv s1
    refine ⟨sz_le (by rw [hv]; exact hl), fun p hp => q _ _ ?_⟩
    have r' := Run.new (o := .tup vs) rn.h hp
    exact ⟨_, rn.trans r', e.run r', .cons (.tup upd_same (r1.ex r'.g)) (r2.ex r'.g)⟩
theorem ev_lstN (h : EvA K c tr δ ds) (hl : ds.length ≤ 100000 := by first | decide | (simp; done) | omega) : EvN K c (tLst tr) δ ds := fun σ H ts td s Q q =>
  h σ H ts td s _ fun vs H1 hv s1 => by
    obtain ⟨G, rn, e, r1, r2⟩ := sta_split hv s1
    refine ⟨sz_le (by rw [hv]; exact hl), fun p hp => q _ _ ?_⟩
    have r' := Run.newg (o := .lst vs) rn.h hp
    exact ⟨G, vs, rn.trans r', e.run r', r2, rn.k.free hp, rn.h.free hp, upd_same, r1, own_ne e hp⟩
theorem ev_cb (h : EvA K c tr δ ds) (hr : CallD K rc ds z) : EvD K c (tCB rc tr) δ z := fun σ H ts td s Q q =>
  h σ H ts td s _ fun vs H1 hv s1 => by
    obtain ⟨G, rn, e, r1, r2⟩ := sta_split hv s1
    exact hr G H1 vs rn.h r1 Q fun w G' H' r' hw => q w H' ⟨G', rn.trans r', e.run r', .cons hw (r2.ex r'.g)⟩
theorem ev_cbN (h : EvA K c tr δ ds) (hr : CallN K rc ds zs) : EvN K c (tCB rc tr) δ zs := fun σ H ts td s Q q =>
  h σ H ts td s _ fun vs H1 hv s1 => by
    obtain ⟨G, rn, e, r1, r2⟩ := sta_split hv s1
    exact hr G H1 vs rn.h r1 Q fun p us G' H' r' hp gp ep hw => q p H' ⟨G', us, rn.trans r', e.run r', r2.ex r'.g, rn.k.free hp, gp, ep, hw, own_ne e hp⟩
theorem ev_call {sp : Sp} {E : XK} (h : EvA K c tr δ ds) (hs : ∀ vs H Q, Pr K vs H Q ds z → sp vs H Q E) : EvD K c (tCall sp [] E tr) δ z := fun σ H ts td s Q q =>
  h σ H ts td s _ fun vs H1 hv s1 => by
    obtain ⟨G, rn, e, r1, r2⟩ := sta_split hv s1
    show sp (vs ++ []) H1 Q E
    rw [List.append_nil]
    exact hs vs H1 Q ⟨G, rn.h, r1, fun w G' H' r' hw => q w H' ⟨G', rn.trans r', e.run r', .cons hw (r2.ex r'.g)⟩⟩
theorem ev_callN {sp : Sp} {E : XK} (h : EvA K c tr δ ds) (hs : ∀ vs H Q, PrN K vs H Q ds zs → sp vs H Q E) : EvN K c (tCall sp [] E tr) δ zs := fun σ H ts td s Q q =>
  h σ H ts td s _ fun vs H1 hv s1 => by
    obtain ⟨G, rn, e, r1, r2⟩ := sta_split hv s1
    show sp (vs ++ []) H1 Q E
    rw [List.append_nil]
    exact hs vs H1 Q ⟨G, rn.h, r1, fun p us G' H' r' hp gp ep hw => q p H' ⟨G', us, rn.trans r', e.run r', r2.ex r'.g, rn.k.free hp, gp, ep, hw, own_ne e hp⟩⟩
/-- a promise of a new list is one of a list -/
theorem Pr.n {vs : List V} {H : Hp} {Q : VK} (h : Pr K vs H Q ds (.list zs)) : PrN K vs H Q ds zs := by
  obtain ⟨G, e, r, q⟩ := h
  refine ⟨G, e, r, fun p us G' H' r' hp gp ep hw => q (.ref p) (upd G' p (.lst us)) H' ?_ (.lst upd_same (hw.ex (Ex.new gp)))⟩
  exact ⟨r'.g.trans (Ex.new gp), fun a o h => by
    by_cases z : a = p
    · rw [z, upd_same] at h
      rw [z, ep]
      exact h
    · rw [upd_ne z] at h
      exact r'.h a o h, r'.k, fun a o h n => by
    by_cases z : a = p
    · rw [z]
      exact hp
    · rw [upd_ne z] at h
      exact r'.f a o h n⟩

/-! ### tests -/
theorem et_val (h : EvD K c te δ (.bool a)) : EvT K c (tB te) δ a := fun σ H ts td s Q q => h σ H ts td s _ fun v H1 s1 => by
  obtain ⟨G, rn, e, t⟩ := s1
  cases t with
  | cons h1 t => exact ⟨a, h1.bool_inv, q H1 ⟨G, rn, e, t⟩⟩
theorem et_test (h : EvD K c te δ (.bool a)) : EvT K c (tTest te) δ a := fun σ H ts td s Q q => h σ H ts td s _ fun v H1 s1 => by
  obtain ⟨G, rn, e, t⟩ := s1
  cases t with
  | cons h1 t => exact ⟨a, h1.bool_inv, q H1 ⟨G, rn, e, t⟩⟩
theorem et_and (h1 : EvT K c t δ a) (h2 : a = true → EvT K c u δ b) : EvT K c (tAnd t u) δ (a && b) := fun σ H ts td s Q q => h1 σ H ts td s _ fun H1 s1 => by
  cases a with
  | true =>
    show u σ H1 Q
    exact h2 rfl σ H1 ts td s1 Q q
  | false =>
    show Q false H1
    exact q H1 s1
theorem et_or (h1 : EvT K c t δ a) (h2 : a = false → EvT K c u δ b) : EvT K c (tOr t u) δ (a || b) := fun σ H ts td s Q q => h1 σ H ts td s _ fun H1 s1 => by
  cases a with
  | true =>
    show Q true H1
    exact q H1 s1
  | false =>
    show u σ H1 Q
    exact h2 rfl σ H1 ts td s1 Q q
theorem et_not (h1 : EvT K c t δ a) : EvT K c (tNot t) δ (!a) := fun σ H ts td s Q q => h1 σ H ts td s _ fun H1 s1 => q H1 s1
theorem ev_andV (h1 : EvD K c ta δ (.bool a)) (h2 : a = true → EvD K c tb δ (.bool b)) : EvD K c (tAndV ta tb) δ (.bool (a && b)) := fun σ H ts td s Q q => h1 σ H ts td s _ fun v H1 s1 => by
  obtain ⟨G, rn, e, r⟩ := s1
  cases r with
  | cons hv r =>
    refine ⟨a, hv.bool_inv, ?_⟩
    cases a with
    | true =>
      rw [if_pos rfl]
      exact h2 rfl σ H1 ts td ⟨G, rn, e, r⟩ Q q
    | false =>
      rw [if_neg Bool.false_ne_true]
      exact q _ H1 ⟨G, rn, e, .cons (.bl false) r⟩
theorem ev_orV (h1 : EvD K c ta δ (.bool a)) (h2 : a = false → EvD K c tb δ (.bool b)) : EvD K c (tOrV ta tb) δ (.bool (a || b)) := fun σ H ts td s Q q => h1 σ H ts td s _ fun v H1 s1 => by
  obtain ⟨G, rn, e, r⟩ := s1
  cases r with
  | cons hv r =>
    refine ⟨a, hv.bool_inv, ?_⟩
    cases a with
    | true =>
      rw [if_pos rfl]
      exact q _ H1 ⟨G, rn, e, .cons (.bl true) r⟩
    | false =>
      rw [if_neg Bool.false_ne_true]
      exact h2 rfl σ H1 ts td ⟨G, rn, e, r⟩ Q q
theorem ev_notV (h1 : EvD K c ta δ (.bool a)) : EvD K c (tNotV ta) δ (.bool (!a)) := fun σ H ts td s Q q => h1 σ H ts td s _ fun v H1 s1 => by
  obtain ⟨G, rn, e, r⟩ := s1
  cases r with
  | cons hv r => exact ⟨a, hv.bool_inv, q _ H1 ⟨G, rn, e, .cons (.bl _) r⟩⟩
theorem ev_if (h : EvT K c t δ a) (h1 : a = true → EvD K c ta δ x) (h2 : a = false → EvD K c tb δ x) : EvD K c (tIf t ta tb) δ x := fun σ H ts td s Q q => h σ H ts td s _ fun H1 s1 => by
  cases a with
  | true =>
    show ta σ H1 Q
    exact h1 rfl σ H1 ts td s1 Q q
  | false =>
    show tb σ H1 Q
    exact h2 rfl σ H1 ts td s1 Q q
theorem ev_chain {r' : R2} (ha : EvD K c ta δ x) (hb : EvD K c tb δ y) (hr : OpD K r x y (.bool a)) (hc : a = true → EvD K c tx δ z) (hr' : a = true → OpD K r' y z (.bool b)) : EvD K c (tChain r r' ta tb tx) δ (.bool (a && b)) := fun σ H ts td s Q q =>
  ha σ H ts td s _ fun v H1 s1 => hb σ H1 _ _ s1 _ fun w H2 s2 => by
    obtain ⟨G, rn, e, t⟩ := s2
    cases t with
    | cons hu t =>
      cases t with
      | cons hv t =>
        refine hr G H2 v w rn.h hv hu _ fun k G' H' r1 hk => ⟨a, hk.bool_inv, ?_⟩
        have s3 : Sta K c δ σ (w :: ts) (y :: td) H' := ⟨G', rn.trans r1, e.run r1, .cons (hu.ex r1.g) (t.ex r1.g)⟩
        cases a with
        | true =>
          rw [if_pos rfl]
          refine hc rfl σ H' _ _ s3 _ fun x' H4 s4 => ?_
          obtain ⟨G4, rn4, e4, t4⟩ := s4
          cases t4 with
          | cons hx t4 =>
            cases t4 with
            | cons hw t4 => exact hr' rfl G4 H4 w x' rn4.h hw hx Q fun k' G5 H5 r5 hk' => q k' H5 ⟨G5, rn4.trans r5, e4.run r5, .cons hk' (t4.ex r5.g)⟩
        | false =>
          rw [if_neg Bool.false_ne_true]
          exact q _ H' ⟨G', rn.trans r1, e.run r1, .cons (.bl false) (t.ex r1.g)⟩
theorem eo_none : EvO K c tNoPart δ none := fun _ H _ _ s _ q => q H s
theorem eo_some (h : EvD K c te δ (.int i)) : EvO K c (tPart te) δ (some i) := fun σ H ts td s Q q => h σ H ts td s _ fun v H1 s1 => by
  obtain ⟨G, rn, e, t⟩ := s1
  cases t with
  | cons h1 t => exact ⟨i, h1.int_inv, q H1 ⟨G, rn, e, t⟩⟩
end
end Pd

namespace Pd
open PySem PySem.Spec PyProof.Rows L2

/-! ### statements: N what holds of the data behind it, R what may be given back -/
inductive Rs where
  | val (d : PyData)
  | new (ds : List PyData)
  | exc (C : Addr) (f : PyData) (δ : DEnv)
  | gen (φ : Hp → Hp → V → Hp → Prop)
def StaR (K : PySem.W.Frag) (c : Cc) : Rs → V → Hp → Prop
  | .val d, v, H => ∃ G, Run c.G c.H G H ∧ Rp K G v d
  | .new ds, v, H => ∃ G p vs, v = .ref p ∧ Run c.G c.H G H ∧ c.H p = none ∧ G p = none ∧ H p = some (.lst vs) ∧ RpAll K G vs ds
  | .exc _ _ _, _, _ => False
  | .gen φ, v, H => ∃ G, Run c.G c.H G H ∧ φ c.H G v H
/-- an exception is in the air, d its dict, f its field -/
def StaX (K : PySem.W.Frag) (c : Cc) (δ : DEnv) (σ : L2.St) (H : Hp) (d : Option Addr) (f : PyData) : Prop := ∃ G, Run c.G c.H G H ∧ EnvOk K c.H G H σ δ ∧ ExF G d f
def SD (K : PySem.W.Frag) (c : Cc) (t : TS) (δ : DEnv) (N : DEnv → Prop) (R : Rs → Prop) : Prop := ∀ (σ : L2.St) (H : Hp) (D : Ends), Sta K c δ σ [] [] H →
  (∀ δ' σ' H', N δ' → Sta K c δ' σ' [] [] H' → D.nx σ' H') → (∀ r v H', R r → StaR K c r v H' → D.rt v H') →
  (∀ C f δ' d σ' H', R (.exc C f δ') → StaX K c δ' σ' H' d f → c.W (.ref C) d σ' H') → t D σ H
section
variable {K : PySem.W.Frag} {c : Cc} {δ δ' : DEnv} {x y z d : PyData} {ds es zs : List PyData} {te ta tb tx : TE} {tr : TA} {tt : TT} {t u : TS} {N M : DEnv → Prop} {R : Rs → Prop} {a b : Bool} {n : Nat}
theorem sd_imp {N' : DEnv → Prop} {R' : Rs → Prop} (h : SD K c t δ N R) (hN : ∀ δ, N δ → N' δ) (hR : ∀ r, R r → R' r) : SD K c t δ N' R' := fun σ H D s q1 q2 q3 => h σ H D s (fun δ' σ' H' n s' => q1 δ' σ' H' (hN _ n) s') (fun r v H' rr s' => q2 r v H' (hR _ rr) s') fun C f δ' d σ' H' x => q3 C f δ' d σ' H' (hR _ x)
theorem sd_le (h : SD K c t δ' N R) (l : Le δ' δ) : SD K c t δ N R := fun σ H D s q1 q2 q3 => h σ H D (s.le l) q1 q2 q3
theorem sd_weak {N' : DEnv → Prop} (h : SD K c t δ N R) (hN : ∀ δ, N δ → ∃ δ', Le δ' δ ∧ N' δ') : SD K c t δ N' R := fun σ H D s q1 q2 q3 => h σ H D s (fun δ1 σ' H' n s' => by
  obtain ⟨δ2, l, n2⟩ := hN _ n
  exact q1 δ2 σ' H' n2 (s'.le l)) q2 q3
theorem sd_next (h : N δ) : SD K c tNext δ N R := fun σ H D s q1 _ _ => q1 δ σ H h s
theorem sd_seq (h : SD K c t δ M R) (h2 : ∀ δ', M δ' → SD K c u δ' N R) : SD K c (tSeq t u) δ N R := fun σ H D s q1 q2 q3 => h σ H { D with nx := u D } s (fun δ' σ' H' m s' => h2 δ' m σ' H' D s' q1 q2 q3) q2 q3
theorem sd_asg (h : EvD K c te δ d) (hn : N (δ.set n (some (Cel.val d)))) : SD K c (tAsg te (gName n)) δ N R := fun σ H D s q1 _ _ => h σ H [] [] s _ fun v H1 s1 => q1 _ _ H1 hn s1.set
theorem sd_asgN (h : EvN K c te δ ds) (hn : N (δ.set n (some (Cel.own ds)))) : SD K c (tAsg te (gName n)) δ N R := fun σ H D s q1 _ _ => h σ H [] [] s _ fun p H1 s1 => q1 _ _ H1 hn s1.set
theorem sd_drop (h : EvD K c te δ d) (hn : N δ) : SD K c (tDrop te) δ N R := fun σ H D s q1 _ _ => h σ H [] [] s _ fun v H1 s1 => q1 _ _ H1 hn s1.pop
theorem sd_ret (h : EvD K c te δ d) (hr : R (.val d)) : SD K c (tRet te) δ N R := fun σ H D s _ q2 _ => h σ H [] [] s _ fun v H1 s1 => by
  obtain ⟨G, rn, e, r⟩ := s1
  cases r with
  | cons h1 _ => exact q2 _ v H1 hr ⟨G, rn, h1⟩
theorem sd_retN (h : EvN K c te δ ds) (hr : R (.new ds)) : SD K c (tRet te) δ N R := fun σ H D s _ q2 _ => h σ H [] [] s _ fun p H1 s1 => by
  obtain ⟨G, vs, rn, e, r, hp, gp, ep, hw, ne⟩ := s1
  exact q2 _ _ H1 hr ⟨G, p, vs, rfl, rn, hp, gp, ep, hw⟩
/-- return of an own list -/
theorem sd_retO {i : Nat} (h : δ[i]? = some (some (Cel.own ds))) (hr : R (.new ds)) : SD K c (tRet (tVar i)) δ N R := fun σ H D s _ q2 _ => by
  obtain ⟨G, rn, e, r⟩ := s
  obtain ⟨p, vs, sp, hp, gp, ep, hw⟩ := e.own i ds h
  exact ⟨_, sp, q2 _ _ H hr ⟨G, p, vs, rfl, rn, hp, gp, ep, hw⟩⟩
theorem sd_retNone (hr : R (.val .none)) : SD K c tRetN δ N R := fun σ H D s _ q2 _ => by
  obtain ⟨G, rn, e, r⟩ := s
  exact q2 _ .non H hr ⟨G, rn, .non⟩
theorem sd_if (h : EvT K c tt δ a) (h1 : a = true → SD K c t δ N R) (h2 : a = false → SD K c u δ N R) : SD K c (tIfS tt t u) δ N R := fun σ H D s q1 q2 q3 => h σ H [] [] s _ fun H1 s1 => by
  cases a with
  | true =>
    show t D σ H1
    exact h1 rfl σ H1 D s1 q1 q2 q3
  | false =>
    show u D σ H1
    exact h2 rfl σ H1 D s1 q1 q2 q3
/-- an own list comes to be data -/
theorem sd_freeze {i : Nat} (h : δ[i]? = some (some (Cel.own ds))) (k : SD K c t (δ.set i (some (Cel.val (.list ds)))) N R) : SD K c t δ N R := fun σ H D s q1 q2 q3 => k σ H D (s.freeze h) q1 q2 q3
theorem sta_own {σ : L2.St} {H : Hp} {ts : List V} {td : List PyData} {i : Nat} (s : Sta K c δ σ ts td H) (h : δ[i]? = some (some (Cel.own ds))) :
    ∃ p vs, σ[i]? = some (some (.ref p)) ∧ H p = some (.lst vs) ∧ vs.length = ds.length := by
  obtain ⟨G, rn, e, r⟩ := s
  obtain ⟨p, vs, sp, hp, gp, ep, hw⟩ := e.own i ds h
  exact ⟨p, vs, sp, ep, hw.length⟩
/-- xs.append(e), xs an own list -/
theorem sd_app {i : Nat} (h : δ[i]? = some (some (Cel.own ds))) (he : EvD K c te δ d) (hz : ds.length < 100000) (hn : N (δ.set i (some (Cel.own (ds ++ [d]))))) :
    SD K c (tDrop (tBM K "list" rAppend (tVar i) (tCons te tNil))) δ N R := fun σ H D s q1 _ _ => by
  obtain ⟨p, vs, sp, ep, hl⟩ := sta_own s h
  refine ⟨.ref p, sp, .inl ⟨rfl, vs, SqL.of ep⟩, he σ H [] [] s _ fun v H1 s1 => ?_⟩
  obtain ⟨G, rn, e, r⟩ := s1
  obtain ⟨p', vs', sp', hp', gp', ep', hw'⟩ := e.own i ds h
  rw [sp] at sp'
  cases sp'
  cases r with
  | cons hv _ =>
    refine ⟨p, vs', v, rfl, rfl, ep', sz_lt (by rw [hw'.length]; exact hz), q1 _ σ _ hn ⟨G, rn.mut gp' hp', ?_, .nil⟩⟩
    obtain ⟨hi, _⟩ := List.getElem?_eq_some_iff.mp h
    have ne : ∀ (j : Nat) (es : List PyData), j ≠ i → δ[j]? = some (some (Cel.own es)) → σ[j]? ≠ some (some (V.ref p)) := fun j es hj z y => hj (e.dis j i es ds z h (by rw [y, sp]))
    have old : ∀ {j : Nat} {x : Option Cel}, j ≠ i → (δ.set i (some (Cel.own (ds ++ [d]))))[j]? = some x → δ[j]? = some x := fun {j x} hj q => by
      rw [List.getElem?_set_ne (Ne.symm hj)] at q
      exact q
    have slf : (δ.set i (some (Cel.own (ds ++ [d]))))[i]? = some (some (Cel.own (ds ++ [d]))) := List.getElem?_set_self hi
    refine ⟨by rw [List.length_set, e.len], fun j d' q => ?_, fun j es q => ?_, fun j k es fs z1 z2 z3 => ?_⟩
    · have hj : j ≠ i := fun z => by
        rw [z, slf] at q
        cases q
      exact e.val j d' (old hj q)
    · by_cases hj : j = i
      · subst hj
        rw [slf] at q
        cases q
        exact ⟨p, _, sp, hp', gp', upd_same, hw'.append (.cons hv .nil)⟩
      · obtain ⟨q', ws, a1, a2, a3, a4, a5⟩ := e.own j es (old hj q)
        have nq : q' ≠ p := fun z => ne j es hj (old hj q) (by rw [a1, z])
        exact ⟨q', ws, a1, a2, a3, by rw [upd_ne nq]; exact a4, a5⟩
    · have own_of : ∀ {m : Nat} {gs : List PyData}, (δ.set i (some (Cel.own (ds ++ [d]))))[m]? = some (some (Cel.own gs)) → ∃ gs', δ[m]? = some (some (Cel.own gs')) := fun {m gs} z => by
        by_cases hm : m = i
        · exact ⟨ds, hm ▸ h⟩
        · exact ⟨gs, old hm z⟩
      obtain ⟨es', y1⟩ := own_of z1
      obtain ⟨fs', y2⟩ := own_of z2
      exact e.dis j k es' fs' y1 y2 z3

/-! ### targets -/
/-- the value of d stored; js: the slots it may write -/
def TgD (K : PySem.W.Frag) (g : TG) (js : List Nat) (d : PyData) (δ δ' : DEnv) : Prop := ∀ (c : Cc) (σ : L2.St) (H : Hp) (v : V) (ts : List V) (td : List PyData), Sta K c δ σ (v :: ts) (d :: td) H → ∀ Q : L2.St → Hp → Prop,
  (∀ σ', Sta K c δ' σ' ts td H → (∀ i, i ∉ js → σ'[i]? = σ[i]?) → σ'.length = σ.length → Q σ' H) → g v σ H Q
theorem tg_name {i : Nat} : TgD K (gName i) [i] d δ (δ.set i (some (Cel.val d))) := fun c σ H v ts td s Q q => q _ s.set (fun j hj => by rw [List.getElem?_set_ne (fun z => hj (by simp [z]))]) (by rw [List.length_set])
/-- targets of a tuple's items, one by one -/
def TgsD (K : PySem.W.Frag) (g : TGs) (js : List Nat) (ds : List PyData) (δ δ' : DEnv) : Prop := ∀ (c : Cc) (σ : L2.St) (H : Hp) (vs ts : List V) (td : List PyData), vs.length = ds.length → Sta K c δ σ (vs ++ ts) (ds ++ td) H → ∀ Q : L2.St → Hp → Prop,
  (∀ σ', Sta K c δ' σ' ts td H → (∀ i, i ∉ js → σ'[i]? = σ[i]?) → σ'.length = σ.length → Q σ' H) → g vs σ H Q
theorem tgs_nil : TgsD K gNil [] [] δ δ := fun c σ H vs ts td hl s Q q => by
  have e : vs = [] := List.eq_nil_of_length_eq_zero hl
  subst e
  exact ⟨rfl, q σ s (fun _ _ => rfl) rfl⟩
theorem tgs_cons {g : TG} {gs : TGs} {js ks : List Nat} {δ1 δ2 : DEnv} (h1 : TgD K g js d δ δ1) (h2 : TgsD K gs ks ds δ1 δ2) : TgsD K (gCons g gs) (js ++ ks) (d :: ds) δ δ2 := fun c σ H vs ts td hl s Q q => by
  cases vs with
  | nil => cases hl
  | cons v vs =>
    refine ⟨v, vs, rfl, h1 c σ H v (vs ++ ts) (ds ++ td) s _ fun σ1 s1 k1 l1 => h2 c σ1 H vs ts td (Nat.succ.inj hl) s1 Q fun σ2 s2 k2 l2 => q σ2 s2 (fun i hi => ?_) (l2.trans l1)⟩
    rw [k2 i (fun z => hi (List.mem_append_right _ z)), k1 i (fun z => hi (List.mem_append_left _ z))]
theorem tg_tup {gs : TGs} {js : List Nat} (h : TgsD K gs js ds δ δ') : TgD K (gTup K ds.length gs) js (.tuple ds) δ δ' := fun c σ H v ts td s Q q => by
  obtain ⟨G, rn, e, r⟩ := s
  cases r with
  | cons hv r =>
    obtain ⟨a, xs, rfl, hq, hx⟩ := hv.tup_inv
    exact ⟨a, xs, rfl, SqT.of (rn.h _ _ hq), hx.length, h c σ H xs ts td hx.length ⟨G, rn, e, hx.append r⟩ Q q⟩
theorem sd_asgT {g : TG} {js : List Nat} (h : EvD K c te δ d) (hg : TgD K g js d δ δ') (hn : N δ') : SD K c (tAsg te g) δ N R := fun σ H D s q1 _ _ => h σ H [] [] s _ fun v H1 s1 => hg c σ H1 v [] [] s1 _ fun σ' s' _ _ => q1 δ' σ' H1 hn s'

/-! ### what is walked -/
structure ItD (K : PySem.W.Frag) (J : It) (ds : List PyData) (G : Hp) : Prop where
  go : ∀ i H, i < ds.length → Ex G H → J.go i H
  stop : ∀ H, Ex G H → J.stop ds.length H
  yld : ∀ i H v H' d, ds[i]? = some d → Ex G H → J.yld i H v H' → ∃ G', Run G H G' H' ∧ Rp K G' v d
def IvD (K : PySem.W.Frag) (c : Cc) (ti : TI) (δ : DEnv) (ds : List PyData) : Prop := ∀ (σ : L2.St) (H : Hp) (ts : List V) (td : List PyData), Sta K c δ σ ts td H → ∀ R : It → Hp → Prop,
  (∀ J G H', Run c.G c.H G H' → EnvOk K c.H G H' σ δ → RpAll K G ts td → ItD K J ds G → R J H') → ti σ H R
/-- Run from what is known at G on -/
theorem Run.up {G0 H0 G H G' H' : Hp} (a : Run G0 H0 G H) (b : Run G H0 G' H') : Run G0 H0 G' H' := b.from a.g a.f
theorem Sta.down {G0 H0 G1 H1 H : Hp} {W W' : WX} {σ : L2.St} {ts : List V} {td : List PyData} (a : Run G0 H0 G1 H1) (s : Sta K ⟨G1, H0, W⟩ δ σ ts td H) : Sta K ⟨G0, H0, W'⟩ δ σ ts td H := by
  obtain ⟨G, rn, e, r⟩ := s
  exact ⟨G, a.up rn, e, r⟩
theorem StaX.down {G0 H0 G1 H1 H : Hp} {W W' : WX} {σ : L2.St} {o : Option Addr} {f : PyData} (a : Run G0 H0 G1 H1) (s : StaX K ⟨G1, H0, W⟩ δ σ H o f) : StaX K ⟨G0, H0, W'⟩ δ σ H o f := by
  obtain ⟨G, rn, e, r⟩ := s
  exact ⟨G, a.up rn, e, r⟩
theorem StaR.down {G0 H0 G1 H1 H : Hp} {W W' : WX} {v : V} {r : Rs} (a : Run G0 H0 G1 H1) (s : StaR K ⟨G1, H0, W⟩ r v H) : StaR K ⟨G0, H0, W'⟩ r v H := by
  cases r with
  | val d =>
    obtain ⟨G, rn, h⟩ := s
    exact ⟨G, a.up rn, h⟩
  | new ds =>
    obtain ⟨G, p, vs, e, rn, h⟩ := s
    exact ⟨G, p, vs, e, a.up rn, h⟩
  | exc C f δ => exact s.elim
  | gen φ =>
    obtain ⟨G, rn, h⟩ := s
    exact ⟨G, a.up rn, h⟩
/-- what an iterator gives, known beside what is known -/
theorem ItD.more {J : It} {H H' : Hp} {v : V} {i : Nat} {G1 G H0 : Hp} (it : ItD K J ds G1) (rn : Run G1 H0 G H) (hd : ds[i]? = some d) (y : J.yld i H v H') : ∃ G2, Run G H G2 H' ∧ Rp K G2 v d := by
  obtain ⟨G', r', hv⟩ := it.yld i H v H' d hd (rn.g.trans rn.h) y
  refine ⟨fun a => (G a).or (G' a), ⟨fun a o h => by simp only [h, Option.some_or], fun a o h => ?_, r'.k, fun a o h n => ?_⟩, hv.ex fun a o h => ?_⟩
  · cases q : G a with
    | some u =>
      rw [q, Option.some_or] at h
      cases h
      exact r'.k a _ (rn.h a _ q)
    | none =>
      rw [q, Option.none_or] at h
      exact r'.h a o h
  · rw [n, Option.none_or] at h
    cases q : G1 a with
    | some u =>
      have z := rn.g a u q
      rw [n] at z
      cases z
    | none => exact r'.f a o h q
  · show (G a).or (G' a) = some o
    cases q : G a with
    | some u =>
      have z1 := r'.k a _ (rn.h a _ q)
      have z2 := r'.h a o h
      rw [z1] at z2
      cases z2
      rw [Option.some_or]
    | none =>
      rw [Option.none_or]
      exact h
theorem ItD.push {J : It} {σ : L2.St} {H H' : Hp} {v : V} {i : Nat} {G1 H0 : Hp} {ts : List V} {td : List PyData} (it : ItD K J ds G1) {W : WX} (s : Sta K ⟨G1, H0, W⟩ δ σ ts td H) (hd : ds[i]? = some d) (y : J.yld i H v H') : Sta K ⟨G1, H0, W⟩ δ σ (v :: ts) (d :: td) H' := by
  obtain ⟨G, rn, e, r⟩ := s
  obtain ⟨G2, r2, hv⟩ := it.more rn hd y
  exact ⟨G2, rn.trans r2, e.run r2, .cons hv (r.ex r2.g)⟩

/-! ### for -/
theorem sd_for {ti : TI} {g : TG} {js : List Nat} {Tg : PyData → DEnv → DEnv} (hi : IvD K c ti δ ds) (P : Nat → DEnv → Prop) (h0 : P 0 δ) (hg : ∀ i d δ', ds[i]? = some d → P i δ' → TgD K g js d δ' (Tg d δ'))
    (hb : ∀ (c' : Cc), c'.H = c.H ∧ c'.W = c.W → Ex c.G c'.G → ∀ i d δ', ds[i]? = some d → P i δ' → SD K c' t (Tg d δ') (fun δ'' => ∃ δ3, Le δ3 δ'' ∧ P (i + 1) δ3) R) (hd : ∀ δ', P ds.length δ' → N δ') : SD K c (tFor ti g t) δ N R := fun σ H D s q1 q2 q3 => by
  refine hi σ H [] [] s _ fun J G1 H1 rn e _ it => ?_
  obtain ⟨G0, H0, W0⟩ := c
  refine ⟨fun i m σ H => m = ds.length - i ∧ i ≤ ds.length ∧ ∃ δ', P i δ' ∧ Sta K ⟨G1, H0, W0⟩ δ' σ [] [] H, ⟨_, rfl, Nat.zero_le _, δ, h0, ⟨G1, ⟨Ex.refl _, rn.h, rn.k, fun a o h n => by have n' : G1 a = none := n; rw [h] at n'; cases n'⟩, e, .nil⟩⟩, ?_⟩
  rintro i m σ' H' ⟨rfl, hi', δ', hP, s'⟩
  have ex : Ex G1 H' := by
    obtain ⟨G, r, _, _⟩ := s'
    exact r.g.trans r.h
  by_cases hlt : i < ds.length
  · refine .inr ⟨it.go i H' hlt ex, fun σ2 H2 => ∃ δ2, P (i + 1) δ2 ∧ Sta K ⟨G1, H0, W0⟩ δ2 σ2 [] [] H2, fun σ2 H2 ⟨δ2, p2, s2⟩ => ⟨ds.length - (i + 1), by omega, rfl, hlt, δ2, p2, s2⟩, fun v H2 y => ?_⟩
    have hdi : ds[i]? = some ds[i] := List.getElem?_eq_getElem hlt
    refine hg i _ δ' hdi hP ⟨G1, H0, W0⟩ σ' H2 v [] [] (it.push s' hdi y) _ fun σ2 s2 _ _ => ?_
    refine hb ⟨G1, H0, W0⟩ ⟨rfl, rfl⟩ rn.g i _ δ' hdi hP σ2 H2 _ s2 (fun δ3 σ3 H3 n3 s3 => ?_) (fun r v3 H3 hr s3 => q2 r v3 H3 hr (s3.down rn)) fun C f δ3 d3 σ3 H3 hr s3 => q3 C f δ3 d3 σ3 H3 hr (s3.down rn)
    obtain ⟨δ4, l, p4⟩ := n3
    exact ⟨δ4, p4, s3.le l⟩
  · have ei : i = ds.length := by omega
    subst ei
    exact .inl ⟨it.stop H' ex, q1 δ' σ' H' (hd δ' hP) (s'.down rn)⟩
/-! ### while -/
theorem sd_while (P : Nat → DEnv → Prop) {n0 : Nat} (h0 : P n0 δ)
    (hb : ∀ m δ', P m δ' → ∃ b, EvT K c tt δ' b ∧ (b = true → SD K c t δ' (fun δ'' => ∃ δ3 m', Le δ3 δ'' ∧ m' < m ∧ P m' δ3) R) ∧ (b = false → N δ')) : SD K c (tWhile tt t) δ N R := fun σ H D s q1 q2 q3 => by
  refine ⟨fun m σ H => ∃ δ', P m δ' ∧ Sta K c δ' σ [] [] H, ⟨n0, δ, h0, s⟩, ?_⟩
  rintro m σ' H' ⟨δ', hP, s'⟩
  obtain ⟨b, hT, h1, h2⟩ := hb m δ' hP
  refine hT σ' H' [] [] s' _ fun H1 s1 => ?_
  cases b with
  | true =>
    rw [if_pos rfl]
    refine ⟨fun σ2 H2 => ∃ m', m' < m ∧ ∃ δ2, P m' δ2 ∧ Sta K c δ2 σ2 [] [] H2, fun σ2 H2 h => h, h1 rfl σ' H1 _ s1 (fun δ3 σ3 H3 n3 s3 => ?_) q2 q3⟩
    obtain ⟨δ4, m', l, hm, p4⟩ := n3
    exact ⟨m', hm, δ4, p4, s3.le l⟩
  | false =>
    rw [if_neg Bool.false_ne_true]
    exact q1 δ' σ' H1 (h2 rfl) s1

/-! ### comprehensions -/
def wipeE (δ : DEnv) : List Nat → DEnv
  | [] => δ
  | v :: vs => (wipeE δ vs).set v none
theorem wipe_get (σ : L2.St) : ∀ (vs : List Nat) (i : Nat), (wipe σ vs)[i]? = if i ∈ vs ∧ i < σ.length then some none else σ[i]?
  | [], i => by simp [wipe]
  | v :: vs, i => by
    show ((wipe σ vs).set v none)[i]? = _
    by_cases hv : v = i
    · subst hv
      by_cases hl : v < σ.length
      · rw [List.getElem?_set_self (by rw [wipe_length]; exact hl), if_pos ⟨List.mem_cons_self, hl⟩]
      · rw [List.getElem?_eq_none (by rw [List.length_set, wipe_length]; omega), if_neg (fun z => hl z.2), List.getElem?_eq_none (by omega)]
    · rw [List.getElem?_set_ne hv, wipe_get σ vs i]
      have e : i ∈ v :: vs ↔ i ∈ vs := by
        rw [List.mem_cons]
        exact ⟨fun z => z.resolve_left (fun y => hv y.symm), .inr⟩
      simp only [e]
theorem wipe_same {σ σ' : L2.St} {vs : List Nat} (h : ∀ i, i ∉ vs → σ'[i]? = σ[i]?) (hl : σ'.length = σ.length) : wipe σ' vs = wipe σ vs := by
  apply List.ext_getElem?
  intro i
  rw [wipe_get, wipe_get, hl]
  by_cases hi : i ∈ vs
  · by_cases hz : i < σ.length
    · rw [if_pos ⟨hi, hz⟩, if_pos ⟨hi, hz⟩]
    · rw [if_neg (fun z => hz z.2), if_neg (fun z => hz z.2), List.getElem?_eq_none (by omega), List.getElem?_eq_none (by omega)]
  · rw [if_neg (fun z => hi z.1), if_neg (fun z => hi z.1), h i hi]
theorem wipe_wipe {σ : L2.St} {vs : List Nat} : wipe (wipe σ vs) vs = wipe σ vs := wipe_same (fun i hi => by rw [wipe_get, if_neg (fun z => hi z.1)]) (wipe_length σ vs)
theorem wipeE_len (δ : DEnv) : ∀ vs, (wipeE δ vs).length = δ.length
  | [] => rfl
  | v :: vs => by
    show ((wipeE δ vs).set v none).length = _
    rw [List.length_set, wipeE_len δ vs]
theorem wipeE_some {δ : DEnv} {i : Nat} {x : Cel} : ∀ {vs : List Nat}, (wipeE δ vs)[i]? = some (some x) → δ[i]? = some (some x) ∧ i ∉ vs
  | [], h => ⟨h, by simp⟩
  | v :: vs, h => by
    have h' : ((wipeE δ vs).set v none)[i]? = some (some x) := h
    by_cases hv : v = i
    · subst hv
      by_cases hl : v < (wipeE δ vs).length
      · rw [List.getElem?_set_self hl] at h'
        cases h'
      · rw [List.getElem?_eq_none (by rw [List.length_set]; omega)] at h'
        cases h'
    · rw [List.getElem?_set_ne hv] at h'
      obtain ⟨h1, h2⟩ := wipeE_some h'
      exact ⟨h1, fun z => by
        rcases List.mem_cons.mp z with z | z
        · exact hv z.symm
        · exact h2 z⟩
theorem EnvOk.wipe {H0 G H : Hp} {σ : L2.St} (e : EnvOk K H0 G H σ δ) (vs : List Nat) : EnvOk K H0 G H (L2.wipe σ vs) (wipeE δ vs) := by
  have at_ : ∀ {i : Nat}, i ∉ vs → (L2.wipe σ vs)[i]? = σ[i]? := fun {i} hi => by rw [wipe_get, if_neg (fun z => hi z.1)]
  refine ⟨by rw [wipe_length, wipeE_len, e.len], fun i d h => ?_, fun i ds h => ?_, fun i j ds es h1 h2 h3 => ?_⟩
  · obtain ⟨a, b⟩ := wipeE_some h
    rw [at_ b]
    exact e.val i d a
  · obtain ⟨a, b⟩ := wipeE_some h
    rw [at_ b]
    exact e.own i ds a
  · obtain ⟨a1, b1⟩ := wipeE_some h1
    obtain ⟨a2, b2⟩ := wipeE_some h2
    rw [at_ b1, at_ b2] at h3
    exact e.dis i j ds es a1 a2 h3
/-- own lists are read by nothing in a comprehension -/
def noOwn : Option Cel → Option Cel
  | some (.own _) => none
  | x => x
def cleanE (δ : DEnv) (vs : List Nat) : DEnv := (wipeE δ vs).map noOwn
theorem cleanE_no {vs : List Nat} {i : Nat} {es : List PyData} : (cleanE δ vs)[i]? ≠ some (some (Cel.own es)) := fun h => by
  unfold cleanE at h
  rw [List.getElem?_map] at h
  cases q : (wipeE δ vs)[i]? with
  | none =>
    rw [q] at h
    cases h
  | some x =>
    rw [q] at h
    have h' : noOwn x = some (Cel.own es) := Option.some.inj h
    cases x with
    | none => cases h'
    | some y => cases y <;> cases h'
theorem EnvOk.clean {H0 G H H1 : Hp} {σ : L2.St} (e : EnvOk K H0 G H σ δ) (vs : List Nat) : EnvOk K H1 G H (L2.wipe σ vs) (cleanE δ vs) := by
  have w := e.wipe vs
  refine ⟨by rw [w.len]; exact (List.length_map ..).symm, fun i d h => ?_, fun i ds h => absurd h cleanE_no, fun i j ds es h => absurd h cleanE_no⟩
  refine w.val i d ?_
  unfold cleanE at h
  rw [List.getElem?_map] at h
  cases q : (wipeE δ vs)[i]? with
  | none =>
    rw [q] at h
    cases h
  | some x =>
    rw [q] at h
    have h' : noOwn x = some (Cel.val d) := Option.some.inj h
    cases x with
    | none => cases h'
    | some y =>
      cases y with
      | val d' =>
        cases h'
        rfl
      | own es => cases h'
/-- the items kept -/
def kept (ds : List PyData) (f : PyData → Bool) (r : PyData → PyData) : List PyData := (ds.filter f).map r
theorem kept_yes {f : PyData → Bool} {r : PyData → PyData} {i : Nat} (h : ds[i]? = some d) (hf : f d = true) : kept (ds.take (i + 1)) f r = kept (ds.take i) f r ++ [r d] := by
  unfold kept
  rw [List.take_add_one, h, Option.toList_some, List.filter_append, List.map_append, List.filter_cons, if_pos hf] <;> rfl
theorem kept_no {f : PyData → Bool} {r : PyData → PyData} {i : Nat} (h : ds[i]? = some d) (hf : f d = false) : kept (ds.take (i + 1)) f r = kept (ds.take i) f r := by
  unfold kept
  rw [List.take_add_one, h, Option.toList_some, List.filter_append, List.map_append, List.filter_cons, if_neg (by rw [hf]; decide)]
  show _ ++ [] = _
  rw [List.append_nil]
theorem kept_len {f : PyData → Bool} {r : PyData → PyData} : (kept ds f r).length ≤ ds.length := by
  unfold kept
  rw [List.length_map]
  exact List.length_filter_le f ds
theorem ev_lc {ti : TI} {g : TG} {js vs : List Nat} {Tg : PyData → DEnv → DEnv} (f : PyData → Bool) (r : PyData → PyData) (hi : IvD K c ti δ ds) (hz : ds.length < 100000) (hg : ∀ d, d ∈ ds → TgD K g js d (cleanE δ vs) (Tg d (cleanE δ vs))) (hj : ∀ i, i ∈ js → i ∈ vs)
    (hb : ∀ (c' : Cc), ∀ d, d ∈ ds → EvT K c' tt (Tg d (cleanE δ vs)) (f d) ∧ (f d = true → EvD K c' te (Tg d (cleanE δ vs)) (r d))) : EvN K c (tLc ti g tt te vs) δ (kept ds f r) := fun σ H ts td s Q q => by
  refine hi σ H ts td s _ fun J G1 H1 rn e rt it => ?_
  intro p hp
  obtain ⟨G0, H0, W0⟩ := c
  have gp1 : G1 p = none := rn.h.free hp
  have hp0 : H0 p = none := rn.k.free hp
  have ne := own_ne e hp
  refine ⟨fun i m H => m = ds.length - i ∧ i ≤ ds.length ∧ ∃ G acc, Run G1 H0 G H ∧ EnvOk K H0 G H σ δ ∧ RpAll K G ts td ∧ G p = none ∧ H p = some (.lst acc) ∧ RpAll K G acc (kept (ds.take i) f r), ⟨_, rfl, Nat.zero_le _, G1, [], ?_⟩, ?_⟩
  · have r1 := Run.newg (o := .lst []) rn.h hp
    exact ⟨⟨Ex.refl _, r1.h, rn.k.trans r1.k, fun a o h n => by rw [h] at n; cases n⟩, e.run r1, rt, gp1, upd_same, .nil⟩
  rintro i m H' ⟨rfl, hi', G, acc, rn', e', rt', gp, ep, hacc⟩
  have ex : Ex G1 H' := rn'.g.trans rn'.h
  by_cases hlt : i < ds.length
  · refine .inr ⟨it.go i H' hlt ex, fun H2 => ∃ G acc, Run G1 H0 G H2 ∧ EnvOk K H0 G H2 σ δ ∧ RpAll K G ts td ∧ G p = none ∧ H2 p = some (.lst acc) ∧ RpAll K G acc (kept (ds.take (i + 1)) f r), fun H2 h => ⟨ds.length - (i + 1), by omega, rfl, hlt, h⟩, fun v H2 y => ?_⟩
    have hdi : ds[i]? = some ds[i] := List.getElem?_eq_getElem hlt
    have hmem : ds[i] ∈ ds := List.getElem_mem hlt
    obtain ⟨G2, r2, hv⟩ := it.more rn' hdi y
    obtain ⟨hT, hE⟩ := hb ⟨G2, H2, W0⟩ _ hmem
    refine hg _ hmem ⟨G2, H2, W0⟩ (L2.wipe σ vs) H2 v [] [] ⟨G2, Run.refl r2.h, (e'.run r2).clean vs, .cons hv .nil⟩ _ fun σ2 s2 k2 l2 => ⟨?_, hT σ2 H2 [] [] s2 _ fun H3 s3 => ?_⟩
    · rw [wipe_same (σ := L2.wipe σ vs) (fun i hi => k2 i fun z => hi (hj i z)) l2, wipe_wipe]
    · cases hf : f ds[i] with
      | true =>
        rw [if_pos rfl]
        refine hE hf σ2 H3 [] [] s3 _ fun w H4 s4 => ?_
        obtain ⟨G4, r4, _, t4⟩ := s4
        have r5 : Run G H' G4 H4 := r2.trans r4
        cases t4 with
        | cons hw _ =>
          obtain ⟨gp4, ep4⟩ := r5.own gp ep
          refine ⟨acc, ep4, sz_lt (by rw [hacc.length]; have := kept_len (ds := ds.take i) (f := f) (r := r); rw [List.length_take] at this; omega), G4, acc ++ [w], (rn'.trans r5).mut gp4 hp0, (e'.run r5).mut ne, rt'.ex r5.g, gp4, upd_same, ?_⟩
          rw [kept_yes hdi hf]
          exact (hacc.ex r5.g).append (.cons hw .nil)
      | false =>
        rw [if_neg Bool.false_ne_true]
        obtain ⟨G3, r3, _, _⟩ := s3
        have r5 : Run G H' G3 H3 := r2.trans r3
        obtain ⟨gp3, ep3⟩ := r5.own gp ep
        refine ⟨G3, acc, rn'.trans r5, e'.run r5, rt'.ex r5.g, gp3, ep3, ?_⟩
        rw [kept_no hdi hf]
        exact hacc.ex r5.g
  · have ei : i = ds.length := by omega
    subst ei
    rw [List.take_length] at hacc
    exact .inl ⟨it.stop H' ex, q p H' ⟨G, acc, rn.up rn', e', rt', hp0, gp, ep, hacc, ne⟩⟩
theorem et_yes : EvT K c tYes δ true := fun σ H ts td s Q q => q H s

/-! ### the body of a def -/
/-- the slots at the beginning -/
def env0 (n : Nat) (ds : List PyData) : DEnv := ds.map cv ++ List.replicate (n - ds.length) none
theorem sta0 {W : WX} {G H : Hp} {vs : List V} {N : List Str} (e : Ex G H) (r : RpAll K G vs ds) (hl : ds.length ≤ N.length) : Sta K ⟨G, H, W⟩ (env0 N.length ds) (L2.start N vs) [] [] H := by
  have hv := r.length
  refine ⟨G, Run.refl e, ⟨?_, fun i d h => ?_, fun i es h => ?_, fun i j es fs h => ?_⟩, .nil⟩
  · unfold L2.start env0
    simp only [List.length_append, List.length_map, List.length_replicate]
    omega
  · unfold env0 at h
    unfold L2.start
    by_cases hi : i < ds.length
    · rw [List.getElem?_append_left (by rw [List.length_map]; exact hi), List.getElem?_map] at h
      cases q : ds[i]? with
      | none =>
        rw [q] at h
        cases h
      | some x =>
        rw [q] at h
        cases h
        obtain ⟨v, a, b⟩ := r.get q
        refine ⟨v, ?_, b⟩
        rw [List.getElem?_append_left (by rw [List.length_map]; omega), List.getElem?_map, a]
        rfl
    · rw [List.getElem?_append_right (by rw [List.length_map]; omega)] at h
      obtain ⟨_, h2⟩ := List.getElem?_eq_some_iff.mp h
      rw [List.getElem_replicate] at h2
      cases h2
  · exfalso
    unfold env0 at h
    by_cases hi : i < ds.length
    · rw [List.getElem?_append_left (by rw [List.length_map]; exact hi), List.getElem?_map] at h
      cases q : ds[i]? with
      | none =>
        rw [q] at h
        cases h
      | some x =>
        rw [q] at h
        cases h
    · rw [List.getElem?_append_right (by rw [List.length_map]; omega)] at h
      obtain ⟨_, h2⟩ := List.getElem?_eq_some_iff.mp h
      rw [List.getElem_replicate] at h2
      cases h2
  · exfalso
    unfold env0 at h
    by_cases hi : i < ds.length
    · rw [List.getElem?_append_left (by rw [List.length_map]; exact hi), List.getElem?_map] at h
      cases q : ds[i]? with
      | none =>
        rw [q] at h
        cases h
      | some x =>
        rw [q] at h
        cases h
    · rw [List.getElem?_append_right (by rw [List.length_map]; omega)] at h
      obtain ⟨_, h2⟩ := List.getElem?_eq_some_iff.mp h
      rw [List.getElem_replicate] at h2
      cases h2
/-- a def whose body gives back z -/
theorem body_val {vs : List V} {H : Hp} {Q : VK} {N : List Str} (p : Pr K vs H Q ds z) (hl : ds.length ≤ N.length) (h : ∀ c, SD K c t (env0 N.length ds) (fun _ => z = .none) (fun r => r = .val z)) : t { nx := fun _ H' => Q .non H', rt := Q } (L2.start N vs) H := by
  obtain ⟨G, e, r, q⟩ := p
  refine h ⟨G, H, fun _ _ _ _ => False⟩ (L2.start N vs) H _ (sta0 e r hl) (fun δ' σ' H' n s => ?_) (fun r v H' hr s => ?_) fun C f δ' d σ' H' hr _ => by cases hr
  · obtain ⟨G', rn, _, _⟩ := s
    subst n
    exact q .non G' H' rn .non
  · subst hr
    obtain ⟨G', rn, hv⟩ := s
    exact q v G' H' rn hv
/-- .. a new list of zs -/
theorem body_new {vs : List V} {H : Hp} {Q : VK} {N : List Str} (p : PrN K vs H Q ds zs) (hl : ds.length ≤ N.length) (h : ∀ c, SD K c t (env0 N.length ds) (fun _ => False) (fun r => r = .new zs)) : t { nx := fun _ H' => Q .non H', rt := Q } (L2.start N vs) H := by
  obtain ⟨G, e, r, q⟩ := p
  refine h ⟨G, H, fun _ _ _ _ => False⟩ (L2.start N vs) H _ (sta0 e r hl) (fun δ' σ' H' n s => n.elim) (fun r v H' hr s => ?_) fun C f δ' d σ' H' hr _ => by cases hr
  subst hr
  obtain ⟨G', p, ws, rfl, rn, hp, gp, ep, hw⟩ := s
  exact q p ws G' H' rn hp gp ep hw
theorem Pr.len {vs : List V} {H : Hp} {Q : VK} (p : Pr K vs H Q ds z) : vs.length = ds.length := let ⟨_, _, r, _⟩ := p; r.length
theorem PrN.len {vs : List V} {H : Hp} {Q : VK} (p : PrN K vs H Q ds zs) : vs.length = ds.length := let ⟨_, _, r, _⟩ := p; r.length
end
end Pd
namespace Pd
open PySem PySem.Spec PyProof.Rows L2
section
variable {K : PySem.W.Frag} {c : Cc} {δ δ' : DEnv} {x y z d : PyData} {ds es zs : List PyData} {te ta tb tx : TE} {tr : TA} {tt : TT} {t u v : TS} {N M : DEnv → Prop} {R : Rs → Prop} {a b : Bool} {n m : Nat} {i j : Int}
/-! ### a statement and what follows -/
theorem sd_asgS (h : EvD K c te δ d) (k : SD K c u (δ.set n (some (Cel.val d))) N R) : SD K c (tSeq (tAsg te (gName n)) u) δ N R := sd_seq (M := fun δ' => δ' = δ.set n (some (Cel.val d))) (sd_asg h rfl) fun δ' e => e ▸ k
theorem sd_asgNS (h : EvN K c te δ ds) (k : SD K c u (δ.set n (some (Cel.own ds))) N R) : SD K c (tSeq (tAsg te (gName n)) u) δ N R := sd_seq (M := fun δ' => δ' = δ.set n (some (Cel.own ds))) (sd_asgN h rfl) fun δ' e => e ▸ k
theorem sd_dropS (h : EvD K c te δ d) (k : SD K c u δ N R) : SD K c (tSeq (tDrop te) u) δ N R := sd_seq (M := fun δ' => δ' = δ) (sd_drop h rfl) fun δ' e => e ▸ k
theorem sd_aug (hx : δ[n]? = some (some (Cel.val (.int i)))) (h : EvD K c te δ (.int j)) (hn : N (δ.set n (some (Cel.val (.int (i + j)))))) : SD K c (tAug n te (ipI fun i j => i + j)) δ N R := fun σ H D s q1 _ _ => by
  obtain ⟨G, rn, e, r⟩ := id s
  obtain ⟨v, hv, hr⟩ := e.val n _ hx
  refine ⟨v, hv, h σ H [] [] s _ fun w H1 s1 => ?_⟩
  obtain ⟨G1, rn1, e1, r1⟩ := s1
  cases r1 with
  | cons hw _ => exact ⟨i, j, hr.int_inv, hw.int_inv, q1 _ _ H1 hn (Sta.set (v := .int (i + j)) (ts := []) (td := []) ⟨G1, rn1, e1, .cons (.int _) .nil⟩)⟩
theorem sd_augS (hx : δ[n]? = some (some (Cel.val (.int i)))) (h : EvD K c te δ (.int j)) (k : SD K c u (δ.set n (some (Cel.val (.int (i + j))))) N R) : SD K c (tSeq (tAug n te (ipI fun i j => i + j)) u) δ N R := sd_seq (M := fun δ' => δ' = δ.set n (some (Cel.val (.int (i + j))))) (sd_aug hx h rfl) fun δ' e => e ▸ k
/-- a, b = e1, e2 -/
theorem sd_par (h : EvA K c tr δ [x, y]) (hn : N ((δ.set n (some (Cel.val x))).set m (some (Cel.val y)))) : SD K c (tPar n m tr) δ N R := fun σ H D s q1 _ _ => h σ H [] [] s _ fun vs H1 hl s1 => by
  obtain ⟨G, rn, e, r1, r2⟩ := sta_split hl s1
  obtain ⟨v, u, rfl, hv, hu⟩ : ∃ v u, vs = [v, u] ∧ Rp K G v x ∧ Rp K G u y := by
    cases r1 with
    | cons h1 r =>
      cases r with
      | cons h2 r =>
        cases r
        exact ⟨_, _, rfl, h1, h2⟩
  exact ⟨v, u, rfl, q1 _ _ H1 hn ⟨G, rn, (e.set hv).set hu, .nil⟩⟩
theorem sd_parS (h : EvA K c tr δ [x, y]) (k : SD K c u ((δ.set n (some (Cel.val x))).set m (some (Cel.val y))) N R) : SD K c (tSeq (tPar n m tr) u) δ N R := sd_seq (M := fun δ' => δ' = (δ.set n (some (Cel.val x))).set m (some (Cel.val y))) (sd_par h rfl) fun δ' e => e ▸ k
theorem sd_asgTS {g : TG} {js : List Nat} (h : EvD K c te δ d) (hg : TgD K g js d δ δ') (k : SD K c u δ' N R) : SD K c (tSeq (tAsg te g) u) δ N R := sd_seq (M := fun δ2 => δ2 = δ') (sd_asgT h hg rfl) fun δ2 e => e ▸ k
/-- if, then what follows: told way by way -/
theorem sd_ifS (h : EvT K c tt δ a) (h1 : a = true → SD K c (tSeq t v) δ N R) (h2 : a = false → SD K c (tSeq u v) δ N R) : SD K c (tSeq (tIfS tt t u) v) δ N R := fun σ H D s q1 q2 q3 => h σ H [] [] s _ fun H1 s1 => by
  cases a with
  | true =>
    show t { D with nx := v D } σ H1
    exact h1 rfl σ H1 D s1 q1 q2 q3
  | false =>
    show u { D with nx := v D } σ H1
    exact h2 rfl σ H1 D s1 q1 q2 q3
theorem sd_nextS (k : SD K c u δ N R) : SD K c (tSeq tNext u) δ N R := k
theorem sd_seqA {w : TS} (k : SD K c (tSeq t (tSeq u w)) δ N R) : SD K c (tSeq (tSeq t u) w) δ N R := k
theorem sd_appS {k0 : Nat} (h : δ[k0]? = some (some (Cel.own ds))) (he : EvD K c te δ d) (hz : ds.length < 100000) (k : SD K c u (δ.set k0 (some (Cel.own (ds ++ [d])))) N R) :
    SD K c (tSeq (tDrop (tBM K "list" rAppend (tVar k0) (tCons te tNil))) u) δ N R := sd_seq (M := fun δ' => δ' = δ.set k0 (some (Cel.own (ds ++ [d])))) (sd_app h he hz rfl) fun δ' e => e ▸ k
/-- the same in the middle of a block -/
theorem sd_whole (k : SD K c (tSeq t tNext) δ N R) : SD K c t δ N R := k
theorem sd_retS (h : SD K c (tRet te) δ N R) : SD K c (tSeq (tRet te) u) δ N R := h
end
end Pd

namespace Pd
open PySem PySem.Spec PyProof.Rows L2
/-! ### values that are told by what holds of them -/
def PrE (K : PySem.W.Frag) (vs : List V) (H : Hp) (Q : VK) (ds : List PyData) (Z : PyData → Prop) : Prop := ∃ G, Ex G H ∧ RpAll K G vs ds ∧ ∀ z, Z z → ∀ w G' H', Run G H G' H' → Rp K G' w z → Q w H'
def EvE (K : PySem.W.Frag) (c : Cc) (te : TE) (δ : DEnv) (Z : PyData → Prop) : Prop := ∀ (σ : L2.St) (H : Hp) (ts : List V) (td : List PyData), Sta K c δ σ ts td H → ∀ Q : VK, (∀ z, Z z → ∀ v H', Sta K c δ σ (v :: ts) (z :: td) H' → Q v H') → te σ H Q
section
variable {K : PySem.W.Frag} {c : Cc} {δ δ' : DEnv} {ds : List PyData} {te : TE} {tr : TA} {t u : TS} {N : DEnv → Prop} {R : Rs → Prop} {n : Nat} {Z : PyData → Prop}
theorem PrE.len {vs : List V} {H : Hp} {Q : VK} (p : PrE K vs H Q ds Z) : vs.length = ds.length := let ⟨_, _, r, _⟩ := p; r.length
theorem body_valE {vs : List V} {H : Hp} {Q : VK} {N : List Str} (p : PrE K vs H Q ds Z) (hl : ds.length ≤ N.length) (h : ∀ c, SD K c t (env0 N.length ds) (fun _ => False) (fun r => ∃ z, Z z ∧ r = .val z)) : t { nx := fun _ H' => Q .non H', rt := Q } (L2.start N vs) H := by
  obtain ⟨G, e, r, q⟩ := p
  refine h ⟨G, H, fun _ _ _ _ => False⟩ (L2.start N vs) H _ (sta0 e r hl) (fun δ' σ' H' n s => n.elim) (fun r v H' hr s => ?_) fun C f δ' d σ' H' hr _ => by obtain ⟨z, _, hr⟩ := hr; cases hr
  obtain ⟨z, hz, rfl⟩ := hr
  obtain ⟨G', rn, hv⟩ := s
  exact q z hz v G' H' rn hv
theorem ev_callE {sp : Sp} {E : XK} (h : EvA K c tr δ ds) (hs : ∀ vs H Q, PrE K vs H Q ds Z → sp vs H Q E) : EvE K c (tCall sp [] E tr) δ Z := fun σ H ts td s Q q =>
  h σ H ts td s _ fun vs H1 hv s1 => by
    obtain ⟨G, rn, e, r1, r2⟩ := sta_split hv s1
    show sp (vs ++ []) H1 Q E
    rw [List.append_nil]
    exact hs vs H1 Q ⟨G, rn.h, r1, fun z hz w G' H' r' hw => q z hz w H' ⟨G', rn.trans r', e.run r', .cons hw (r2.ex r'.g)⟩⟩
theorem sd_asgES (h : EvE K c te δ Z) (k : ∀ z, Z z → SD K c u (δ.set n (some (Cel.val z))) N R) : SD K c (tSeq (tAsg te (gName n)) u) δ N R := fun σ H D s q1 q2 q3 => h σ H [] [] s _ fun z hz v H1 s1 => k z hz _ H1 D s1.set q1 q2 q3
theorem sd_asgETS {g : TG} {js : List Nat} {Tg : PyData → DEnv → DEnv} (h : EvE K c te δ Z) (hg : ∀ z, Z z → TgD K g js z δ (Tg z δ)) (k : ∀ z, Z z → SD K c u (Tg z δ) N R) : SD K c (tSeq (tAsg te g) u) δ N R := fun σ H D s q1 q2 q3 => h σ H [] [] s _ fun z hz v H1 s1 => hg z hz c σ H1 v [] [] s1 _ fun σ' s' _ _ => k z hz σ' H1 D s' q1 q2 q3
end
end Pd

namespace Pd
open PySem PySem.Spec PyProof.Rows L2

/-! ### operations -/
section
variable {K : PySem.W.Frag} {i j : Int} {a b : Bool} {x y z : PyData} {ds es : List PyData}
theorem opd_I0 {g : Int → Int → V} (h : ∀ G, Rp K G (g i j) z) : OpD K (rI0 g) (.int i) (.int j) z := fun G H v u e hv hu Q q => ⟨i, j, hv.int_inv, hu.int_inv, q _ G H (Run.refl e) (h G)⟩
theorem opd_I {C : Int → Int → Prop} {g : Int → Int → V} (hc : C i j) (h : ∀ G, Rp K G (g i j) z) : OpD K (rI C g) (.int i) (.int j) z := fun G H v u e hv hu Q q => ⟨i, j, hv.int_inv, hu.int_inv, hc, q _ G H (Run.refl e) (h G)⟩
theorem OpD.inl {r r' : R2} (h : OpD K r x y z) : OpD K (fun x y H Q => r x y H Q ∨ r' x y H Q) x y z := fun G H v u e hv hu Q q => .inl (h G H v u e hv hu Q q)
theorem OpD.inr {r r' : R2} (h : OpD K r' x y z) : OpD K (fun x y H Q => r x y H Q ∨ r' x y H Q) x y z := fun G H v u e hv hu Q q => .inr (h G H v u e hv hu Q q)
theorem OpN.inl {r r' : R2} {zs : List PyData} (h : OpN K r x y zs) : OpN K (fun x y H Q => r x y H Q ∨ r' x y H Q) x y zs := fun G H v u e hv hu Q q => .inl (h G H v u e hv hu Q q)
theorem OpN.inr {r r' : R2} {zs : List PyData} (h : OpN K r' x y zs) : OpN K (fun x y H Q => r x y H Q ∨ r' x y H Q) x y zs := fun G H v u e hv hu Q q => .inr (h G H v u e hv hu Q q)
/-- + : ints, lists, tuples -/
def rAddP (K : PySem.W.Frag) : R2 := fun x y H Q => rI0 (fun i j => .int (i + j)) x y H Q ∨ (fun x y H Q => rCat x y H Q ∨ rCatA K x y H Q) x y H Q
theorem op_addP {X : Cx} : OpR X (binaryOp .Add) (rAddP X.K) := op_add.or (op_cat.or op_catA)
theorem od_add : OpD K (rAddP K) (.int i) (.int j) (.int (i + j)) := OpD.inl (opd_I0 fun _ => .int _)
theorem on_cat (hz : ds.length + es.length ≤ 100000) : OpN K (rAddP K) (.list ds) (.list es) (ds ++ es) := OpN.inr (OpN.inl fun G H v u e hv hu Q q => by
  obtain ⟨p, xs, rfl, hp, r1⟩ := hv.lst_inv
  obtain ⟨p2, ys, rfl, hp2, r2⟩ := hu.lst_inv
  exact ⟨p, p2, xs, ys, rfl, rfl, e _ _ hp, e _ _ hp2, sz_le (by rw [r1.length, r2.length]; exact hz), fun l hl => q l _ G _ (Run.newg e hl) hl (e.free hl) upd_same (r1.append r2)⟩)
theorem od_catT (hz : ds.length + es.length ≤ 100000) : OpD K (rAddP K) (.tuple ds) (.tuple es) (.tuple (ds ++ es)) := OpD.inr (OpD.inr fun G H v u e hv hu Q q => by
  obtain ⟨p, xs, rfl, hp, r1⟩ := hv.tup_inv
  obtain ⟨p2, ys, rfl, hp2, r2⟩ := hu.tup_inv
  have r3 := r1.append r2
  refine ⟨p, p2, xs, ys, rfl, rfl, SqT.of (e _ _ hp), SqT.of (e _ _ hp2), sz_le (by rw [r1.length, r2.length]; exact hz), fun z => ?_, fun _ z => ?_, fun _ _ l hl => ?_⟩
  · subst z
    exact q _ G H (Run.refl e) (.tup hp2 r3)
  · subst z
    rw [List.append_nil] at r3
    exact q _ G H (Run.refl e) (.tup hp r3)
  · have r' := Run.new (o := .tup (xs ++ ys)) e hl
    exact q _ _ _ r' (.tup upd_same (r3.ex r'.g)))
theorem od_sub : OpD K (rI0 fun i j => .int (i - j)) (.int i) (.int j) (.int (i - j)) := opd_I0 fun _ => .int _
theorem od_fdivW (h0 : 0 < j) (h1 : j.natAbs.log2 < 9000) : OpD K (rI CDivW fun i j => .int (i / j)) (.int i) (.int j) (.int (i / j)) := opd_I ⟨h0, h1⟩ fun _ => .int _
theorem od_mod (h0 : 0 < j) : OpD K (rI (fun _ j => 0 < j) fun i j => .int (i % j)) (.int i) (.int j) (.int (i % j)) := opd_I h0 fun _ => .int _
theorem od_shl (h : CPow i j) : OpD K (rI CPow fun i j => .int (i * 2 ^ j.toNat)) (.int i) (.int j) (.int (i * 2 ^ j.toNat)) := opd_I h fun _ => .int _
theorem od_pow (h : CPow i j) : OpD K (rI CPow fun i j => .int (i ^ j.toNat)) (.int i) (.int j) (.int (i ^ j.toNat)) := opd_I h fun _ => .int _
theorem od_shr (h : 0 ≤ j) : OpD K (rI (fun _ j => 0 ≤ j) fun i j => .int (i / 2 ^ j.toNat)) (.int i) (.int j) (.int (i / 2 ^ j.toNat)) := opd_I h fun _ => .int _
theorem od_and : OpD K (rI0 fun i j => .int (Builtin.bitAnd i j)) (.int i) (.int j) (.int (Builtin.bitAnd i j)) := opd_I0 fun _ => .int _
theorem od_lt : OpD K (rI0 fun i j => .bl (decide (i < j))) (.int i) (.int j) (.bool (decide (i < j))) := opd_I0 fun _ => .bl _
theorem od_le : OpD K (rI0 fun i j => .bl (decide (i ≤ j))) (.int i) (.int j) (.bool (decide (i ≤ j))) := opd_I0 fun _ => .bl _
theorem od_gt : OpD K (rI0 fun i j => .bl (decide (j < i))) (.int i) (.int j) (.bool (decide (j < i))) := opd_I0 fun _ => .bl _
theorem od_ge : OpD K (rI0 fun i j => .bl (decide (j ≤ i))) (.int i) (.int j) (.bool (decide (j ≤ i))) := opd_I0 fun _ => .bl _
theorem od_eq (hx : SeqAt.shaped x = true) (hy : SeqAt.shaped y = true) : OpD K (rEqD K) x y (.bool (PyData.eqv x y)) := fun G H v u e hv hu Q q =>
  ⟨x, y, (hv.ex e).dp (SeqAt.canLay_of_shaped hx), (hu.ex e).dp (SeqAt.canLay_of_shaped hy), hx, hy, q _ G H (Run.refl e) (.bl _)⟩
theorem od_ne (hx : SeqAt.shaped x = true) (hy : SeqAt.shaped y = true) : OpD K (rNeD K) x y (.bool (!PyData.eqv x y)) := fun G H v u e hv hu Q q =>
  ⟨x, y, (hv.ex e).dp (SeqAt.canLay_of_shaped hx), (hu.ex e).dp (SeqAt.canLay_of_shaped hy), hx, hy, q _ G H (Run.refl e) (.bl _)⟩
theorem od_eqI : OpD K (rEqD K) (.int i) (.int j) (.bool (decide (i = j))) := by
  have h := od_eq (K := K) (x := .int i) (y := .int j) rfl rfl
  rwa [show PyData.eqv (.int i) (.int j) = decide (i = j) by simp [PyData.eqv, Bool.beq_eq_decide_eq]] at h
theorem od_neI : OpD K (rNeD K) (.int i) (.int j) (.bool (!decide (i = j))) := by
  have h := od_ne (K := K) (x := .int i) (y := .int j) rfl rfl
  rwa [show PyData.eqv (.int i) (.int j) = decide (i = j) by simp [PyData.eqv, Bool.beq_eq_decide_eq]] at h
def isNon : PyData → Bool
  | .none => true
  | _ => false
theorem rp_non {H : Hp} {v : V} (h : Rp K H v x) : decide (v = .non) = isNon x := by
  cases h <;> rfl
theorem od_isN : OpD K (fun x y H Q => y = .non ∧ Q (.bl (decide (x = .non))) H) x .none (.bool (isNon x)) := fun G H v u e hv hu Q q => ⟨hu.none_inv, by rw [rp_non hv]; exact q _ G H (Run.refl e) (.bl _)⟩
theorem od_notN : OpD K (fun x y H Q => y = .non ∧ Q (.bl (!decide (x = .non))) H) x .none (.bool (!isNon x)) := fun G H v u e hv hu Q q => ⟨hu.none_inv, by rw [rp_non hv]; exact q _ G H (Run.refl e) (.bl _)⟩
theorem od_isB : OpD K rIsB (.bool a) (.bool b) (.bool (decide (a = b))) := fun G H v u e hv hu Q q => ⟨a, b, hv.bool_inv, hu.bool_inv, q _ G H (Run.refl e) (.bl _)⟩
theorem od_notB : OpD K rNotB (.bool a) (.bool b) (.bool (!decide (a = b))) := fun G H v u e hv hu Q q => ⟨a, b, hv.bool_inv, hu.bool_inv, q _ G H (Run.refl e) (.bl _)⟩
/-! ### subscripts -/
theorem rp_at {H : Hp} {xs : List V} {n : Int} (r : RpAll K H xs ds) (h : atI ds n = some x) : ∃ v, atI xs n = some v ∧ Rp K H v x := by
  unfold atI at h ⊢
  rw [r.length]
  cases q : ixN ds.length n with
  | none =>
    rw [q] at h
    cases h
  | some k =>
    rw [q] at h
    exact r.get h
def rIxP (K : PySem.W.Frag) : R2 := rIx K
theorem od_ixT (h : atI ds i = some x) : OpD K (rIx K) (.tuple ds) (.int i) x := fun G H v u e hv hu Q q => by
  obtain ⟨p, xs, rfl, hp, r1⟩ := hv.tup_inv
  obtain ⟨w, hw, rw'⟩ := rp_at r1 h
  exact .inr (.inl ⟨p, xs, i, w, rfl, hu.int_inv, SqT.of (e _ _ hp), hw, q w G H (Run.refl e) rw'⟩)
theorem od_ixL (h : atI ds i = some x) : OpD K (rIx K) (.list ds) (.int i) x := fun G H v u e hv hu Q q => by
  obtain ⟨p, xs, rfl, hp, r1⟩ := hv.lst_inv
  obtain ⟨w, hw, rw'⟩ := rp_at r1 h
  exact .inl ⟨p, xs, i, w, rfl, hu.int_inv, SqL.of (e _ _ hp), hw, q w G H (Run.refl e) rw'⟩
theorem Rp.scr_inv {H : Hp} {v : V} {ns : List Int} (h : Rp K H v (dScr ns)) : ∃ a, v = .ref a ∧ SqL K H a (ns.map V.int) := by
  generalize hd : dScr ns = d at h
  cases h with
  | @scr a ms hq =>
    have e : ms.map PyData.int = ns.map PyData.int := by
      have z := PyData.dict.inj hd
      have z2 := List.cons.inj z
      have z3 := (Prod.mk.inj z2.1).2
      exact (PyData.list.inj z3).symm
    have e2 : ms = ns := by
      have inj : ∀ (l1 l2 : List Int), l1.map PyData.int = l2.map PyData.int → l1 = l2 := by
        intro l1
        induction l1 with
        | nil =>
          intro l2 h
          cases l2 with
          | nil => rfl
          | cons _ _ => cases h
        | cons a l1 ih =>
          intro l2 h
          cases l2 with
          | nil => cases h
          | cons b l2 =>
            have h' := List.cons.inj h
            rw [PyData.int.inj h'.1, ih l2 h'.2]
      exact inj _ _ e
    subst e2
    exact ⟨a, rfl, hq⟩
  | _ => cases hd
theorem od_ixS {ns : List Int} {n : Int} (h : atI ns i = some n) : OpD K (rIx K) (dScr ns) (.int i) (.int n) := fun G H v u e hv hu Q q => by
  obtain ⟨p, rfl, hp⟩ := hv.scr_inv
  refine .inl ⟨p, _, i, .int n, rfl, hu.int_inv, sqL_ex e hp, ?_, q _ G H (Run.refl e) (.int n)⟩
  unfold atI at h ⊢
  rw [List.length_map]
  cases q : ixN ns.length i with
  | none =>
    rw [q] at h
    cases h
  | some k =>
    rw [q] at h
    show (ns.map V.int)[k]? = _
    rw [List.getElem?_map, show ns[k]? = some n from h]
    rfl
theorem canLay_ints : ∀ ns : List Int, PyData.canLayAll0 (ns.map PyData.int) = true
  | [] => rfl
  | n :: ns => by simp [PyData.canLayAll0, PyData.canLay0, canLay_ints ns]
theorem depth_ints : ∀ ns : List Int, PyData.depthAll (ns.map PyData.int) ≤ 1
  | [] => by simp [PyData.depthAll]
  | n :: ns => by
    have := depth_ints ns
    simp only [List.map_cons, PyData.depthAll, PyData.depth]
    omega
theorem shaped_ints (ns : List Int) : SeqAt.shaped (.list (ns.map PyData.int)) = true := by
  show (PyData.canLay0 (.list (ns.map PyData.int)) && decide (PyData.depth (.list (ns.map PyData.int)) ≤ 64)) = true
  have h := depth_ints ns
  rw [Bool.and_eq_true]
  refine ⟨?_, decide_eq_true ?_⟩
  · simp only [PyData.canLay0]
    exact canLay_ints ns
  · simp only [PyData.depth]
    omega
/-- script != [] -/
theorem od_neS {ns : List Int} : OpD K (rNeD K) (dScr ns) (.list []) (.bool (!ns.isEmpty)) := fun G H v u e hv hu Q q => by
  obtain ⟨a, rfl, hq⟩ := hv.scr_inv
  have dp : ∀ l : List Int, DpAll K H (l.map V.int) (l.map PyData.int) := by
    intro l
    induction l with
    | nil => exact .nil
    | cons x l ih => exact .cons (.int x) ih
  refine ⟨.list (ns.map PyData.int), .list [], .lst (sqL_ex e hq) (dp ns), (hu.ex e).dp rfl, shaped_ints ns, rfl, ?_⟩
  have ee : PyData.eqv (.list (ns.map PyData.int)) (.list []) = ns.isEmpty := by
    cases ns with
    | nil => simp [PyData.eqv, PyData.eqvAll]
    | cons a l => simp [PyData.eqv, PyData.eqvAll]
  rw [ee]
  exact q _ G H (Run.refl e) (.bl _)
/-! ### in -/
def flatD : PyData → Bool
  | .none => true
  | .bool _ => true
  | .int _ => true
  | .str _ => true
  | _ => false
theorem flat_v {H : Hp} {v : V} (h : Rp K H v x) (f : flatD x = true) : flatV v = true := by
  cases h <;> first
    | rfl
    | cases f
def absD : PyData → V
  | .none => .non
  | .bool b => .bl b
  | .int i => .int i
  | .str s => .str s
  | _ => .non
theorem flat_abs {H : Hp} {v : V} (h : Rp K H v x) (f : flatD x = true) : v = absD x := by
  cases h <;> first
    | rfl
    | cases f
def inF (x : PyData) (ds : List PyData) : Bool := ds.any fun y => eqV (absD y) (absD x)
theorem flat_all {H : Hp} : ∀ {vs : List V} {ds : List PyData}, RpAll K H vs ds → ds.all flatD = true → vs.all flatV = true ∧ vs = ds.map absD
  | _, _, .nil, _ => ⟨rfl, rfl⟩
  | _, _, .cons h r, f => by
    have f' := Bool.and_eq_true_iff.mp (show (flatD _ && List.all _ flatD) = true from by simpa using f)
    obtain ⟨h1, h2⟩ := flat_all r f'.2
    refine ⟨?_, by rw [h2, flat_abs h f'.1]; rfl⟩
    show (flatV _ && List.all _ flatV) = true
    rw [flat_v h f'.1, h1] <;> rfl
theorem inV_map {v : V} : ∀ ds : List PyData, inV v (ds.map absD) = ds.any fun y => eqV (absD y) v := fun ds => by
  unfold inV
  rw [List.any_map]
  rfl
/-- in, not in: of flat things; of data in a list -/
def rInP (K : PySem.W.Frag) : R2 := fun x y H Q => rIn K false x y H Q ∨ rInD K x y H Q
def rNiP (K : PySem.W.Frag) : R2 := fun x y H Q => rIn K true x y H Q ∨ rNotInD K x y H Q
theorem op_inP {X : Cx} (hu : X.A.units + 65 < cLine) : OpR X (compareOp .In) (rInP X.K) := op_in_seq.or (op_inD hu)
theorem op_niP {X : Cx} (hu : X.A.units + 65 < cLine) : OpR X (compareOp .NotIn) (rNiP X.K) := op_notIn_seq.or (op_notInD hu)
theorem od_inT (hx : flatD x = true) (hd : ds.all flatD = true) : OpD K (rInP K) x (.tuple ds) (.bool (inF x ds)) := OpD.inl fun G H v u e hv hu Q q => by
  obtain ⟨p, xs, rfl, hp, r1⟩ := hu.tup_inv
  obtain ⟨a1, a2⟩ := flat_all r1 hd
  refine ⟨p, xs, rfl, .inr (SqT.of (e _ _ hp)), flat_v hv hx, a1, ?_⟩
  have ei : inV v xs = inF x ds := by rw [a2, inV_map, flat_abs hv hx]; rfl
  show Q (.bl (inV v xs)) H
  rw [ei]
  exact q _ G H (Run.refl e) (.bl _)
theorem od_niT (hx : flatD x = true) (hd : ds.all flatD = true) : OpD K (rNiP K) x (.tuple ds) (.bool (!inF x ds)) := OpD.inl fun G H v u e hv hu Q q => by
  obtain ⟨p, xs, rfl, hp, r1⟩ := hu.tup_inv
  obtain ⟨a1, a2⟩ := flat_all r1 hd
  refine ⟨p, xs, rfl, .inr (SqT.of (e _ _ hp)), flat_v hv hx, a1, ?_⟩
  have ei : inV v xs = inF x ds := by rw [a2, inV_map, flat_abs hv hx]; rfl
  show Q (.bl (!inV v xs)) H
  rw [ei]
  exact q _ G H (Run.refl e) (.bl _)
theorem od_inL (hx : SeqAt.shaped x = true) (hd : SeqAt.shaped (.list ds) = true) : OpD K (rInP K) x (.list ds) (.bool (ds.any fun z => PyData.eqv z x)) := OpD.inr fun G H v u e hv hu Q q =>
  ⟨x, ds, (hv.ex e).dp (SeqAt.canLay_of_shaped hx), (hu.ex e).dp (SeqAt.canLay_of_shaped hd), hx, hd, q _ G H (Run.refl e) (.bl _)⟩
theorem od_niL (hx : SeqAt.shaped x = true) (hd : SeqAt.shaped (.list ds) = true) : OpD K (rNiP K) x (.list ds) (.bool (!ds.any fun z => PyData.eqv z x)) := OpD.inr fun G H v u e hv hu Q q =>
  ⟨x, ds, (hv.ex e).dp (SeqAt.canLay_of_shaped hx), (hu.ex e).dp (SeqAt.canLay_of_shaped hd), hx, hd, q _ G H (Run.refl e) (.bl _)⟩
/-! ### slices -/
def cutD (ds : List PyData) (lo hi : Option Int) : List PyData := (ds.drop (HT.sIx ds.length 0 lo)).take (HT.sIx ds.length ds.length hi - HT.sIx ds.length 0 lo)
theorem rp_cut {H : Hp} {xs : List V} {lo hi : Option Int} (r : RpAll K H xs ds) : RpAll K H (cutV xs lo hi) (cutD ds lo hi) := by
  unfold cutV cutD
  rw [r.length]
  exact (r.drop _).take _
def rSlP (K : PySem.W.Frag) : V → Option Int → Option Int → Hp → VK → Prop := fun x lo hi H Q => rSlA K x lo hi H Q ∨ rSlL K x lo hi H Q
theorem sl_any {X : Cx} : SlR X (rSlP X.K) := by
  intro pins s σ H x v vl vu lo hi sl Q I rx hs pl pu h
  rcases h with h | h
  · exact sl_tupA pins s σ H x v vl vu lo hi sl Q I rx hs pl pu h
  · exact sl_list pins s σ H x v vl vu lo hi sl Q I rx hs pl pu h
theorem cut_whole {lo hi : Option Int} (h : HT.sIx ds.length 0 lo = 0 ∧ HT.sIx ds.length ds.length hi = ds.length) : cutD ds lo hi = ds := by
  unfold cutD
  rw [h.1, h.2, List.drop_zero, Nat.sub_zero, List.take_length]
variable {c : Cc} {δ : DEnv} {te : TE} {tl th : TO} {lo hi : Option Int}
theorem ev_slT (h : EvD K c te δ (.tuple ds)) (hl : EvO K c tl δ lo) (hh : EvO K c th δ hi) : EvD K c (tSl (rSlP K) te tl th) δ (.tuple (cutD ds lo hi)) := fun σ H ts td s Q q =>
  h σ H ts td s _ fun v H1 s1 => hl σ H1 _ _ s1 _ fun H2 s2 => hh σ H2 _ _ s2 _ fun H3 s3 => by
    obtain ⟨G, rn, e, t⟩ := s3
    cases t with
    | cons hv t =>
      obtain ⟨p, xs, rfl, hp, r1⟩ := hv.tup_inv
      refine .inl ⟨p, xs, rfl, SqT.of (rn.h _ _ hp), fun w => ?_, fun w l hl => ?_⟩
      · rw [r1.length] at w
        refine q _ H3 ⟨G, rn, e, .cons (.tup hp ?_) t⟩
        rw [cut_whole w]
        exact r1
      · have r' := Run.new (o := .tup (cutV xs lo hi)) rn.h hl
        exact q _ _ ⟨_, rn.trans r', e.run r', .cons (.tup upd_same ((rp_cut r1).ex r'.g)) (t.ex r'.g)⟩
theorem ev_slL (h : EvD K c te δ (.list ds)) (hl : EvO K c tl δ lo) (hh : EvO K c th δ hi) : EvN K c (tSl (rSlP K) te tl th) δ (cutD ds lo hi) := fun σ H ts td s Q q =>
  h σ H ts td s _ fun v H1 s1 => hl σ H1 _ _ s1 _ fun H2 s2 => hh σ H2 _ _ s2 _ fun H3 s3 => by
    obtain ⟨G, rn, e, t⟩ := s3
    cases t with
    | cons hv t =>
      obtain ⟨p, xs, rfl, hp, r1⟩ := hv.lst_inv
      refine .inr ⟨p, xs, rfl, SqL.of (rn.h _ _ hp), fun l hl => ?_⟩
      have r' := Run.newg (o := .lst (cutV xs lo hi)) rn.h hl
      exact q _ _ ⟨G, _, rn.trans r', e.run r', t, rn.k.free hl, rn.h.free hl, upd_same, rp_cut r1, own_ne e hl⟩
theorem cut_to {k : Nat} (h : k ≤ ds.length) : cutD ds none (some (k : Int)) = ds.take k := by
  unfold cutD
  rw [HT.sIx_none, HT.sIx_nat, Nat.min_eq_left h, List.drop_zero, Nat.sub_zero]
theorem cut_from {k : Nat} : cutD ds (some (k : Int)) none = ds.drop k := by
  unfold cutD
  rw [HT.sIx_none, HT.sIx_nat]
  by_cases h : k ≤ ds.length
  · rw [Nat.min_eq_left h, List.take_of_length_le (by rw [List.length_drop]; exact Nat.le_refl _)]
  · rw [Nat.min_eq_right (by omega), List.drop_length, List.take_nil, List.drop_eq_nil_of_le (by omega)]
/-! ### calls of built-ins -/
theorem RpAll.one {H : Hp} {vs : List V} (h : RpAll K H vs [x]) : ∃ v, vs = [v] ∧ Rp K H v x := by
  cases h with
  | cons h r =>
    cases r
    exact ⟨_, rfl, h⟩
theorem RpAll.two {H : Hp} {vs : List V} (h : RpAll K H vs [x, y]) : ∃ v u, vs = [v, u] ∧ Rp K H v x ∧ Rp K H u y := by
  cases h with
  | cons h r =>
    obtain ⟨u, rfl, q⟩ := r.one
    exact ⟨_, u, rfl, h, q⟩
abbrev rLenP (K : PySem.W.Frag) : List V → Hp → VK → Prop := fun xs H Q => ∃ p ys, xs = [.ref p] ∧ (SqL K H p ys ∨ SqT K H p ys) ∧ Q (.int ys.length) H
theorem cd_lenT : CallD K (rLenP K) [.tuple ds] (.int (ds.length : Int)) := fun G H vs e r Q q => by
  obtain ⟨v, rfl, hv⟩ := r.one
  obtain ⟨p, xs, rfl, hp, r1⟩ := hv.tup_inv
  refine ⟨p, xs, rfl, .inr (SqT.of (e _ _ hp)), ?_⟩
  rw [r1.length]
  exact q _ G H (Run.refl e) (.int _)
theorem cd_lenL : CallD K (rLenP K) [.list ds] (.int (ds.length : Int)) := fun G H vs e r Q q => by
  obtain ⟨v, rfl, hv⟩ := r.one
  obtain ⟨p, xs, rfl, hp, r1⟩ := hv.lst_inv
  refine ⟨p, xs, rfl, .inl (SqL.of (e _ _ hp)), ?_⟩
  rw [r1.length]
  exact q _ G H (Run.refl e) (.int _)
theorem cd_lenS {ns : List Int} : CallD K (rLenP K) [dScr ns] (.int (ns.length : Int)) := fun G H vs e r Q q => by
  obtain ⟨v, rfl, hv⟩ := r.one
  obtain ⟨p, rfl, hp⟩ := hv.scr_inv
  refine ⟨p, _, rfl, .inl (sqL_ex e hp), ?_⟩
  rw [List.length_map]
  exact q _ G H (Run.refl e) (.int _)
abbrev rAbs : List V → Hp → VK → Prop := fun xs H Q => ∃ i, xs = [.int i] ∧ Q (.int (if i < 0 then -i else i)) H
theorem cd_abs : CallD K rAbs [.int i] (.int (if i < 0 then -i else i)) := fun G H vs e r Q q => by
  obtain ⟨v, rfl, hv⟩ := r.one
  exact ⟨i, by rw [hv.int_inv], q _ G H (Run.refl e) (.int _)⟩
abbrev rMin2 : List V → Hp → VK → Prop := fun xs H Q => ∃ i j, xs = [.int i, .int j] ∧ Q (.int (if j < i then j else i)) H
theorem cd_min2 : CallD K rMin2 [.int i, .int j] (.int (if j < i then j else i)) := fun G H vs e r Q q => by
  obtain ⟨v, u, rfl, hv, hu⟩ := r.two
  exact ⟨i, j, by rw [hv.int_inv, hu.int_inv], q _ G H (Run.refl e) (.int _)⟩
theorem cd_all {bs : List Bool} : CallD K (rAll K) [.list (bs.map PyData.bool)] (.bool (bs.all id)) := fun G H vs e r Q q => by
  obtain ⟨v, rfl, hv⟩ := r.one
  obtain ⟨p, xs, rfl, hp, r1⟩ := hv.lst_inv
  rw [r1.bools_inv] at hp
  exact ⟨p, bs, rfl, SqL.of (e _ _ hp), q _ G H (Run.refl e) (.bl _)⟩
theorem cd_sum {ns : List Int} : CallD K (rSum K) [.list (ns.map PyData.int)] (.int ns.sum) := fun G H vs e r Q q => by
  obtain ⟨v, rfl, hv⟩ := r.one
  obtain ⟨p, xs, rfl, hp, r1⟩ := hv.lst_inv
  rw [r1.ints_inv] at hp
  exact ⟨p, ns, rfl, SqL.of (e _ _ hp), q _ G H (Run.refl e) (.int _)⟩
abbrev rIntP : List V → Hp → VK → Prop := fun xs H Q => (∃ i, xs = [.int i] ∧ Q (.int i) H) ∨ ∃ k, xs = [.bl k] ∧ Q (.int (if k then 1 else 0)) H
theorem cd_intB : CallD K rIntP [.bool a] (.int (if a then 1 else 0)) := fun G H vs e r Q q => by
  obtain ⟨v, rfl, hv⟩ := r.one
  exact .inr ⟨a, by rw [hv.bool_inv], q _ G H (Run.refl e) (.int _)⟩
abbrev rListP (K : PySem.W.Frag) : List V → Hp → VK → Prop := fun xs H Q => ∃ p ys, xs = [.ref p] ∧ (SqL K H p ys ∨ SqT K H p ys) ∧ ∀ l, H l = none → Q (.ref l) (upd H l (.lst ys))
theorem cn_list : CallN K (rListP K) [.list ds] ds := fun G H vs e r Q q => by
  obtain ⟨v, rfl, hv⟩ := r.one
  obtain ⟨p, xs, rfl, hp, r1⟩ := hv.lst_inv
  exact ⟨p, xs, rfl, .inl (SqL.of (e _ _ hp)), fun l hl => q l xs G _ (Run.newg e hl) hl (e.free hl) upd_same r1⟩
abbrev rTupP (K : PySem.W.Frag) : List V → Hp → VK → Prop := fun xs H Q => ∃ p ys, xs = [.ref p] ∧ ((SqL K H p ys ∧ ∀ l, H l = none → Q (.ref l) (upd H l (.tup ys))) ∨ (SqT K H p ys ∧ Q (.ref p) H))
theorem cd_tup : CallD K (rTupP K) [.list ds] (.tuple ds) := fun G H vs e r Q q => by
  obtain ⟨v, rfl, hv⟩ := r.one
  obtain ⟨p, xs, rfl, hp, r1⟩ := hv.lst_inv
  refine ⟨p, xs, rfl, .inl ⟨SqL.of (e _ _ hp), fun l hl => ?_⟩⟩
  have r' := Run.new (o := .tup xs) e hl
  exact q _ _ _ r' (.tup upd_same (r1.ex r'.g))
/-- the name of a value's class -/
def tyD : PyData → String
  | .none => "NoneType"
  | .bool _ => "bool"
  | .int _ => "int"
  | .str _ => "str"
  | .list _ => "list"
  | .tuple _ => "tuple"
  | .dict _ => "dict"
/-- plain: no script, no error, no class -/
def plainD : PyData → Bool
  | .dict kvs => kvs.isEmpty
  | _ => true
theorem rp_ty {H : Hp} {v : V} (h : Rp K H v x) (p : plainD x = true) : TyX K H v (.type (tyD x)) := by
  cases h with
  | non => exact .base .non
  | bl b => exact .base (.bl b)
  | int i => exact .base (.int i)
  | str s => exact .base (.str s)
  | lst h r => exact .base (.lst h)
  | tup h r => exact .base (.tup h)
  | emp h => exact .base (.dK h)
  | scr h => cases p
  | exc h f => cases p
  | ty n => cases p
  | cls C => cases p
theorem Rp.ty_inv {H : Hp} {v : V} {n : String} (h : Rp K H v (dTy n)) : v = .ty n := by
  generalize hd : dTy n = d at h
  cases h with
  | ty m =>
    have z := PyData.dict.inj hd
    have z2 := (Prod.mk.inj (List.cons.inj z).1).2
    have z3 := PyData.list.inj z2
    have inj : ∀ (l1 l2 : List Char), (l1.map fun ch => PyData.int (ch.toNat : Int)) = (l2.map fun ch => PyData.int (ch.toNat : Int)) → l1 = l2 := by
      intro l1
      induction l1 with
      | nil =>
        intro l2 h
        cases l2 with
        | nil => rfl
        | cons _ _ => cases h
      | cons a l1 ih =>
        intro l2 h
        cases l2 with
        | nil => cases h
        | cons b l2 =>
          have h' := List.cons.inj h
          have h1 : (a.toNat : Int) = (b.toNat : Int) := PyData.int.inj h'.1
          have h2 : a = b := Char.toNat_inj.mp (by omega)
          rw [ih l2 h'.2, h2]
    have z4 : n = m := String.toList_inj.mp (inj _ _ z3)
    rw [z4]
  | _ => cases hd
theorem cd_isi {n : String} (hp : plainD x = true) (hb : kitB (tyD x) n = some b) : CallD K (rIsi K) [x, dTy n] (.bool b) := fun G H vs e r Q q => by
  obtain ⟨v, u, rfl, hv, hu⟩ := r.two
  cases hu.ty_inv
  exact ⟨v, .ty n, _, _, b, rfl, .ty n, rp_ty (hv.ex e) hp, kit_ty hb, q _ G H (Run.refl e) (.bl _)⟩
theorem ev_ty {n : String} : EvD K c (tC (.ty n)) δ (dTy n) := ev_c fun _ => .ty n
theorem ev_cls {C : Addr} : EvD K c (tC (.ref C)) δ (dCls C) := ev_c fun _ => .cls C
end
end Pd

namespace PySem
open Sem (wp)
open AutoSeq1 (wpAny_loadPart')
theorem pd_enumerate_newT (l : Addr) (items : Array Value) (n : Nat) (dct : Option Addr) (sl : Array (Option Value)) :
    Meets (Builtin.«enumerate.__new__» ⟨[.type "enumerate", .ref l], []⟩) (fun _ R s => s.heap.get? l = some { cls := .type "tuple", dict := dct, data := .seq items n, slots := sl } ∧
      R (.ok (.ret (.ref (s.heap.push { cls := .type "tuple_iterator", data := .fields #[.ref l, .int 0 0] }).objs.size)))
        { s with heap := (s.heap.push { cls := .type "tuple_iterator", data := .fields #[.ref l, .int 0 0] }).push { cls := .type "enumerate", data := .fields #[.none, .bool false, .ref s.heap.objs.size, rawInt 0, .none, .none] } }) :=
  .of_wp fun prog w A R s h => by
    obtain ⟨hp, g, d, tk, os⟩ := s; obtain ⟨hl, h⟩ := h
    have hsub := sub_enumerate
    have hL : Heap.IsTuple (Shared.heap ⟨hp, g, d, tk, os⟩) l items := ⟨_, hl, rfl, n, rfl⟩
    wp_walk using wpAny_loadPart' hl
    refine wpAny_stack_any fun st => wpAny_pure ?_
    split
    · rename_i c _ _ _ _ _
      cases (c == Value.type "enumerate")
      · wp_walk using wpAny_loadPart' hl, wpAny_pyIter_tuple hL
        exact ⟨_, rfl, h⟩
      · wp_walk using wpAny_loadPart' hl, wpAny_pyIter_tuple hL
        exact ⟨_, rfl, h⟩
    · wp_walk using wpAny_loadPart' hl, wpAny_pyIter_tuple hL
      exact ⟨_, rfl, h⟩
section
variable {prog : Program} {w : World} {A : Around} {E : Value → Shared → Prop} {s : Shared}
theorem pd_call_enumerate_tuple {l : Addr} {items : Array Value} {Q : Value → Shared → Prop} (hL : s.heap.IsTuple l items)
    (h : ∀ h', IsEnum h' (s.heap.objs.size + 1) s.heap.objs.size 0 .none → h'.IsTupleIter s.heap.objs.size l 0 → h'.objs.size = s.heap.objs.size + 2 →
      (∀ b o, s.heap.get? b = some o → h'.get? b = some o) → Q (.ref (s.heap.objs.size + 1)) { s with heap := h' }) :
    wpAny (model prog w) A (call (.type "enumerate") [.ref l]) Q E s := by
  obtain ⟨⟨c, dct, dt, sl⟩, hl, hc, n, hd⟩ := hL
  replace hc : c = .type "tuple" := hc
  replace hd : dt = .seq items n := hd
  subst hc hd
  refine callType_new F.called_enumerate (by decide) (F.typeCall_enumerate_1 _) (F.newCall_enumerate_1 _) (fun obj => F.args_object_init_2 obj _) F.entry_enumerate_new
    (pd_enumerate_newT l items n dct sl) ⟨hl, ?_⟩
  have hz : (s.heap.push { cls := .type "tuple_iterator", data := .fields #[.ref l, .int 0 0] }).objs.size = s.heap.objs.size + 1 := Heap.size_push ..
  show _ ∧ _
  rw [hz]
  have he : IsEnum ((s.heap.push { cls := .type "tuple_iterator", data := .fields #[.ref l, .int 0 0] }).push
      { cls := .type "enumerate", data := .fields #[.none, .bool false, .ref s.heap.objs.size, rawInt 0, .none, .none] }) (s.heap.objs.size + 1) s.heap.objs.size 0 .none := by
    have := Heap.get?_push_size (s.heap.push { cls := .type "tuple_iterator", data := .fields #[.ref l, .int 0 0] })
      (o := { cls := .type "enumerate", data := .fields #[.none, .bool false, .ref s.heap.objs.size, rawInt 0, .none, .none] }) rfl
    rw [hz] at this; exact this
  refine ⟨⟨_, he, rfl⟩, h _ he ⟨_, Heap.get?_push_of_some _ (Heap.get?_push_size _ rfl), rfl, rfl⟩ (by rw [Heap.size_push, hz]) fun b o x => Heap.get?_push_of_some _ (Heap.get?_push_of_some _ x)⟩
end
end PySem

namespace Pd
open PySem PySem.Spec PyProof.Rows L2
/-! ### enumerate(tuple) -/
def ItE (K : PySem.W.Frag) (a : Addr) (xs : List V) : It :=
  ⟨fun i H => i < xs.length ∧ SqT K H a xs, fun i H v H' => ∃ T x, v = .ref T ∧ H T = none ∧ H' = upd H T (.tup [.int (i : Nat), x]) ∧ xs[i]? = some x, fun i H => xs.length ≤ i ∧ SqT K H a xs⟩
theorem turn_enumT {P : Program} {w : World} {K : PySem.W.Frag} {elts : List Expr} {kk : Nat} {tpos : Pos} (a e it : Addr) (xs : List V) :
    Turn P w K (.Tuple elts kk tpos) (ItE K a xs) [e, it] e (fun i h => (∃ old, IsEnum h e it ((i : Nat) : Int) old) ∧ h.IsTupleIter it a i ∧ e ≠ it) where
  mem := by simp
  obj := fun i h st b hb => by
    obtain ⟨⟨old, he⟩, ⟨o, ho, hc, hd⟩, _⟩ := st
    have e' : b = e ∨ b = it := by simpa using hb
    rcases e' with z | z
    · rw [z]; exact ⟨_, he, fun v q => nomatch q⟩
    · rw [z]; exact ⟨o, ho, fun v q => by rw [hd] at q; cases q⟩
  keep := fun i h h' st k => let ⟨⟨old, he⟩, hi, hne⟩ := st; ⟨⟨old, k e (by simp) _ he⟩, hi.at fun o q => k it (by simp) o q, hne⟩
  item := by
    intro X hP hw hK hc i pins s σ H E I hf st hg
    subst hP hw hK
    obtain ⟨⟨old, he⟩, hit, hne⟩ := st
    obtain ⟨hlt, hq⟩ := hg
    have hx : xs[i]? = some xs[i] := List.getElem?_eq_getElem hlt
    obtain ⟨its, rv, p, hz⟩ := I.tuple hq
    obtain ⟨u, hu, ru⟩ := rv.get hx
    have hel : e < s.heap.objs.size := Heap.lt_size he
    have hil : it < s.heap.objs.size := by obtain ⟨_, q, _⟩ := hit; exact Heap.lt_size q
    have hT0 : s.heap.IsTuple a its.toArray := p
    have hae : a ≠ e := fun z => by
      obtain ⟨o, ho, hcl, _⟩ := hT0
      have he' : s.heap.get? e = some _ := he
      rw [z, he'] at ho
      cases ho
      exact absurd (Value.type.inj (show Value.type "enumerate" = Value.type "tuple" from hcl)) (by decide)
    have hai : a ≠ it := fun z => by
      obtain ⟨o, ho, hcl, _⟩ := hT0
      obtain ⟨o2, ho2, hcl2, _⟩ := hit
      rw [z, ho2] at ho
      cases ho
      rw [hcl2] at hcl
      exact absurd (Value.type.inj hcl) (by decide)
    have DD := Draws.tuple (prog := X.prog) (w := X.w) (A := X.A.in1) (by exact I.ok.hd hc) it a hai its.toArray
    have hsz : its.toArray.size = xs.length := by rw [List.size_toArray]; exact rv.length.symm
    refine wpAny_pyNext_enum_itemD DD (i := i) he ⟨hit, hT0⟩ (by rw [hsz]; exact hlt) hne (by simp only [List.mem_cons, List.not_mem_nil, or_false, not_or]; exact ⟨hne, Ne.symm hae⟩) fun x h' tk hP ho hst' hT hsz' hk => ?_
    have hxu : x = u := by
      have h1 : its.toArray[i]? = some x := hP
      rw [List.getElem?_toArray, hu] at h1
      exact (Option.some.inj h1).symm
    subst hxu
    refine ⟨_, rfl, wpAny_letOwnedTupleGo_enum (s := { s with heap := h', toks := tk + 1 }) ho fun h'' he' sb => ?_⟩
    have hT2 : h''.get? s.heap.objs.size = some { cls := .type "tuple", data := .seq #[.int i tk, x] } := (sb.2 _ (Nat.ne_of_gt hel)).trans hT
    have new : ObjOk X.prog X.w (upd H s.heap.objs.size (.tup [.int (i : Nat), xs[i]])) h'' s.heap.objs.size (.tup [.int (i : Nat), xs[i]]) :=
      ⟨by show 2 ≤ sizeLine; decide, [.int i tk, x], .cons ⟨_, rfl⟩ (.cons ru .nil), ⟨_, hT2, rfl, _, rfl⟩⟩
    have I1 : Inv X pins σ (upd H s.heap.objs.size (.tup [.int (i : Nat), xs[i]])) { s with heap := h'', toks := tk + 1 } :=
      I.turnedNew (ch := [e, it]) (fun b ob hb q => (sb.2 b (fun z => hb (by simp [z]))).trans (hk b ob (fun z => hb (by simp [z])) (fun z => hb (by simp [z])) q)) hf (Nat.le_refl _) new
    refine ⟨.ref s.heap.objs.size, _, I1, rfl, ⟨_, xs[i], rfl, I.hok.fresh (Nat.le_refl _), rfl, hx⟩, ⟨⟨x, ?_⟩, hst'.1.at fun o q => (sb.2 it (Ne.symm hne)).trans q, hne⟩, fun b hb => ?_⟩
    · have e1 : ((i + 1 : Nat) : Int) = (i : Int) + 1 := by omega
      rw [e1]; exact he'
    · have hb' : b < s.heap.objs.size := by
        have e' : b = e ∨ b = it := by simpa using hb
        rcases e' with z | z
        · rw [z]; exact hel
        · rw [z]; exact hil
      rw [upd_ne (Nat.ne_of_lt hb')]
      exact (hf b hb).1
  done := by
    intro X hP hw hK hc i pins s σ H E I hf st hg
    subst hP hw hK
    obtain ⟨⟨old, he⟩, hit, hne⟩ := st
    obtain ⟨hx, hq⟩ := hg
    obtain ⟨its, rv, p, hz⟩ := I.tuple hq
    obtain ⟨f0, f1, f2, f3, f4, f5⟩ := hf it (by simp)
    have hl := rv.length
    have hT0 : s.heap.IsTuple a its.toArray := p
    have hai : a ≠ it := fun z => by
      obtain ⟨o, ho, hcl, _⟩ := hT0
      obtain ⟨o2, ho2, hcl2, _⟩ := hit
      rw [z, ho2] at ho
      cases ho
      rw [hcl2] at hcl
      exact absurd (Value.type.inj hcl) (by decide)
    have hT : s.TypeIs (.ref e) "enumerate" := ⟨_, he, rfl⟩
    unfold pyNext
    refine wpAny_bind (wpAny_attempt (wpAny_callSpecial?_slot (name := Str.ofString "__next__") hT F.slot_enumerate_next
      (wpAny_call_entry F.slot_enumerate_next hT F.entry_enumerate_next ?_ (F.args_enumerate_next_1 _))))
    show wpAny _ _ (field (.ref e) 2 >>= _) _ _ _
    refine wpAny_bind (wpAny_field he rfl (x := .ref it) rfl ?_)
    refine wpAny_bind (wpAny_nextOf_tuple_end (by exact I.ok.hd hc) hit hT0 (by simp; omega) fun h' x eb hx' => ?_)
    obtain ⟨o, ho, hc'⟩ := hx'
    refine wpAny_bind (wpAny_isInstance (T := "StopIteration") (b := true) ⟨o, ho, hc'⟩ isSubtype_stop ?_)
    exact wpAny_pure ⟨rfl, I.turned (t' := s.toks) (fun b o hb q => eb b o hb q) f0 f1 f3 f4 f5⟩
  self := fun A i s Q E st h => let ⟨⟨_, he⟩, _⟩ := st; wpAny_pyIter_enum he h
def iEnumT (K : PySem.W.Frag) (ta : TA) : TI := fun σ H R => ta σ H fun vs H1 => ∃ a xs, vs = [.ref a] ∧ SqT K H1 a xs ∧ R (ItE K a xs) H1
theorem pi_enumT {X : Cx} {e : Expr} {ta : TA} {p pos tpos : Pos} {elts : List Expr} {kk : Nat} (hg : Gl X "enumerate") (hm : X.mg "enumerate" = none) (ha : PA X [e] ta) (hs : starEach [e] X.env = [(false, eval e X.env)] := by rfl) :
    PI X (.Tuple elts kk tpos) (.Call (.Name "enumerate" p) [e] [] pos) (iEnumT X.K ta) := by
  refine ⟨fun pins s σ H R I h => ?_⟩
  refine Call_ (ld_blt I hg hm boot_enumerate (PyProof.Rows.callWith_type1 (thn (ha.run pos pins s σ H _ I h) fun us s1 ⟨vs, H1, I1, r1, q1⟩ => ?_) hs rfl))
  obtain ⟨a, xs, ex, hq, q⟩ := q1
  subst ex
  cases r1 with
  | cons r rr =>
    cases rr
    cases r
    obtain ⟨its, rv, p', hz⟩ := I1.tuple hq
    refine pd_call_enumerate_tuple (show s1.heap.IsTuple a its.toArray from p') fun h' he hit hsz hk => wpAny_pyIter_enum he ?_
    have I2 : Inv X pins σ H1 { s1 with heap := h' } := I1.kept (t' := s1.toks) hk
    refine ⟨s1.heap.objs.size + 1, [s1.heap.objs.size + 1, s1.heap.objs.size], _, _, H1, rfl, I2, turn_enumT a (s1.heap.objs.size + 1) s1.heap.objs.size xs, ⟨⟨.none, he⟩, hit, Nat.succ_ne_self _⟩, fun b hb => ?_, q⟩
    have e' : b = s1.heap.objs.size + 1 ∨ b = s1.heap.objs.size := by simpa using hb
    have hle : s1.heap.objs.size ≤ b := by
      rcases e' with z | z
      · rw [z]; exact Nat.le_add_right _ _
      · rw [z]; exact Nat.le_refl _
    exact I1.fpOk hle (I1.hok.fresh hle)
/-! ### a list or a tuple walked -/
def iSeq (K : PySem.W.Frag) (tl : TE) : TI := fun σ H R => tl σ H fun x H1 => ∃ a, x = .ref a ∧ (((∃ xs, SqL K H1 a xs) ∧ R (Itl K a) H1) ∨ ((∃ xs, SqT K H1 a xs) ∧ R (Itt K a) H1))
theorem pi_seq {X : Cx} {tg l : Expr} {tl : TE} (hl : PE X l tl) : PI X tg l (iSeq X.K tl) := by
  refine ⟨fun pins s σ H R I h => ?_⟩
  refine thn (hl.run pins s σ H _ I h) fun v s1 ⟨x, H1, I1, r1, q1⟩ => ?_
  obtain ⟨a, e, ⟨⟨xs, hq⟩, q⟩ | ⟨⟨xs, hq⟩, q⟩⟩ := q1
  · subst e
    cases r1
    obtain ⟨its, rv, p, hz⟩ := I1.list hq
    refine wpAny_pyIter_list p.isList ?_
    refine ⟨s1.heap.objs.size, [s1.heap.objs.size], _, _, H1, rfl, I1.kept (t' := s1.toks) fun b o e => Heap.get?_push_of_some _ e, turn_list a _, ⟨_, Heap.get?_push_size _ rfl, rfl, rfl⟩, fun b hb => ?_, q⟩
    have e : b = s1.heap.objs.size := by simpa using hb
    subst e
    exact I1.fpOk (Nat.le_refl _) (I1.hok.fresh (Nat.le_refl _))
  · subst e
    cases r1
    obtain ⟨its, rv, p, hz⟩ := I1.tuple hq
    refine wpAny_pyIter_tuple (show s1.heap.IsTuple a its.toArray from p) ?_
    refine ⟨s1.heap.objs.size, [s1.heap.objs.size], _, _, H1, rfl, I1.kept (t' := s1.toks) fun b o e => Heap.get?_push_of_some _ e, turn_tuple a _, ⟨_, Heap.get?_push_size _ rfl, rfl, rfl⟩, fun b hb => ?_, q⟩
    have e : b = s1.heap.objs.size := by simpa using hb
    subst e
    exact I1.fpOk (Nat.le_refl _) (I1.hok.fresh (Nat.le_refl _))
section
variable {K : PySem.W.Frag} {c : Cc} {δ : DEnv} {ds es : List PyData} {te tb : TE} {tr : TA} {d : PyData} {n i j : Int}
theorem iv_T (h : EvD K c te δ (.tuple ds)) : IvD K c (iSeq K te) δ ds := fun σ H ts td s R q => h σ H ts td s _ fun v H1 s1 => by
  obtain ⟨G, rn, e, t⟩ := s1
  cases t with
  | cons hv t =>
    obtain ⟨a, xs, rfl, hp, r1⟩ := hv.tup_inv
    refine ⟨a, rfl, .inr ⟨⟨xs, SqT.of (rn.h _ _ hp)⟩, q _ G H1 rn e t ⟨fun i H hi ex => ?_, fun H ex => ⟨xs, SqT.of (ex _ _ hp), by rw [r1.length]; exact Nat.le_refl _⟩, fun i H v H' d hd ex y => ?_⟩⟩⟩
    · obtain ⟨v, hv, _⟩ := r1.get (List.getElem?_eq_getElem hi)
      exact ⟨xs, v, SqT.of (ex _ _ hp), hv⟩
    · obtain ⟨rfl, y⟩ := y
      obtain ⟨w, hw, rw'⟩ := r1.get hd
      have z := y xs (SqT.of (ex _ _ hp))
      rw [hw] at z
      cases z
      exact ⟨G, Run.refl ex, rw'⟩
theorem iv_L (h : EvD K c te δ (.list ds)) : IvD K c (iSeq K te) δ ds := fun σ H ts td s R q => h σ H ts td s _ fun v H1 s1 => by
  obtain ⟨G, rn, e, t⟩ := s1
  cases t with
  | cons hv t =>
    obtain ⟨a, xs, rfl, hp, r1⟩ := hv.lst_inv
    refine ⟨a, rfl, .inl ⟨⟨xs, SqL.of (rn.h _ _ hp)⟩, q _ G H1 rn e t ⟨fun i H hi ex => ?_, fun H ex => ⟨xs, SqL.of (ex _ _ hp), by rw [r1.length]; exact Nat.le_refl _⟩, fun i H v H' d hd ex y => ?_⟩⟩⟩
    · obtain ⟨v, hv, _⟩ := r1.get (List.getElem?_eq_getElem hi)
      exact ⟨xs, v, SqL.of (ex _ _ hp), hv⟩
    · obtain ⟨rfl, y⟩ := y
      obtain ⟨w, hw, rw'⟩ := r1.get hd
      have z := y xs (SqL.of (ex _ _ hp))
      rw [hw] at z
      cases z
      exact ⟨G, Run.refl ex, rw'⟩
theorem iv_S {ns : List Int} (h : EvD K c te δ (dScr ns)) : IvD K c (iSeq K te) δ (ns.map PyData.int) := fun σ H ts td s R q => h σ H ts td s _ fun v H1 s1 => by
  obtain ⟨G, rn, e, t⟩ := s1
  cases t with
  | cons hv t =>
    obtain ⟨a, rfl, hp⟩ := hv.scr_inv
    refine ⟨a, rfl, .inl ⟨⟨_, sqL_ex rn.h hp⟩, q _ G H1 rn e t ⟨fun i H hi ex => ?_, fun H ex => ⟨_, sqL_ex ex hp, by rw [List.length_map, List.length_map]; exact Nat.le_refl _⟩, fun i H v H' d hd ex y => ?_⟩⟩⟩
    · rw [List.length_map] at hi
      exact ⟨_, .int ns[i], sqL_ex ex hp, by rw [List.getElem?_map, List.getElem?_eq_getElem hi]; rfl⟩
    · obtain ⟨rfl, y⟩ := y
      have z := y _ (sqL_ex ex hp)
      rw [List.getElem?_map] at hd z
      cases w : ns[i]? with
      | none =>
        rw [w] at hd
        cases hd
      | some m =>
        rw [w] at hd z
        cases hd
        cases z
        exact ⟨G, Run.refl ex, .int m⟩
/-- ints from lo on -/
def dRange (lo : Int) (n : Nat) : List PyData := (List.range n).map fun (k : Nat) => PyData.int (lo + (k : Int))
/-- n - 1, .., 0 -/
def dDown (n : Nat) : List PyData := (List.range n).map fun (k : Nat) => PyData.int ((n : Int) - 1 - (k : Int))
theorem dRange_len {lo : Int} {n : Nat} : (dRange lo n).length = n := by simp [dRange]
theorem dDown_len {n : Nat} : (dDown n).length = n := by simp [dDown]
theorem dRange_get {lo : Int} {n k : Nat} (h : (dRange lo n)[k]? = some d) : k < n ∧ d = .int (lo + (k : Int)) := by
  unfold dRange at h
  rw [List.getElem?_map] at h
  by_cases hk : k < n
  · rw [List.getElem?_range hk] at h
    exact ⟨hk, (Option.some.inj h).symm⟩
  · rw [List.getElem?_eq_none (by rw [List.length_range]; omega)] at h
    cases h
theorem dDown_get {n k : Nat} (h : (dDown n)[k]? = some d) : k < n ∧ d = .int ((n : Int) - 1 - (k : Int)) := by
  unfold dDown at h
  rw [List.getElem?_map] at h
  by_cases hk : k < n
  · rw [List.getElem?_range hk] at h
    exact ⟨hk, (Option.some.inj h).symm⟩
  · rw [List.getElem?_eq_none (by rw [List.length_range]; omega)] at h
    cases h
theorem itd_range {lo : Int} {n : Nat} {G : Hp} : ItD K (Itr lo n) (dRange lo n) G := ⟨fun i H hi _ => by rw [dRange_len] at hi; exact hi, fun H _ => by rw [dRange_len]; exact Nat.le_refl _, fun i H v H' d hd ex y => by
  obtain ⟨rfl, rfl⟩ := y
  obtain ⟨_, rfl⟩ := dRange_get hd
  exact ⟨G, Run.refl ex, .int _⟩⟩
theorem iv_rng1 (h : EvA K c tr δ [.int n]) (h1 : -(2 ^ 62) ≤ n) (h2 : n < 2 ^ 62) : IvD K c (iRng1 tr) δ (dRange 0 n.toNat) := fun σ H ts td s R q => h σ H ts td s _ fun vs H1 hl s1 => by
  obtain ⟨G, rn, e, r1, r2⟩ := sta_split hl s1
  obtain ⟨v, rfl, hv⟩ := r1.one
  exact ⟨n, by rw [hv.int_inv], h1, h2, q _ G H1 rn e r2 itd_range⟩
theorem iv_rng2 (h : EvA K c tr δ [.int i, .int j]) (h1 : -(2 ^ 62) ≤ i) (h2 : i < 2 ^ 62) (h3 : -(2 ^ 62) ≤ j) (h4 : j < 2 ^ 62) : IvD K c (iRng2 tr) δ (dRange i (j - i).toNat) := fun σ H ts td s R q => h σ H ts td s _ fun vs H1 hl s1 => by
  obtain ⟨G, rn, e, r1, r2⟩ := sta_split hl s1
  obtain ⟨v, u, rfl, hv, hu⟩ := r1.two
  exact ⟨i, j, by rw [hv.int_inv, hu.int_inv], ⟨h1, h2, h3, h4⟩, q _ G H1 rn e r2 itd_range⟩
theorem iv_rev1 {m : Nat} (h : EvD K c te δ (.int (m : Int))) (h2 : m < 2 ^ 62) : IvD K c (iRevR (tRg1 te)) δ (dDown m) := fun σ H ts td s R q => h σ H ts td s _ fun v H1 s1 => by
  obtain ⟨G, rn, e, t⟩ := s1
  cases t with
  | cons hv t =>
    have e0 : (((m : Int) - 0).toNat) = m := by omega
    refine ⟨m, hv.int_inv, by omega, by omega, by omega, by omega, ?_⟩
    rw [e0]
    refine q _ G H1 rn e t ⟨fun i H hi _ => by rw [dDown_len] at hi; exact hi, fun H _ => by rw [dDown_len]; exact Nat.le_refl _, fun i H v H' d hd ex y => ?_⟩
    obtain ⟨rfl, rfl⟩ := y
    obtain ⟨_, rfl⟩ := dDown_get hd
    exact ⟨G, Run.refl ex, by rw [show (0 : Int) + (m : Int) - 1 + ((i : Nat) : Int) * -1 = (m : Int) - 1 - (i : Int) by omega]; exact .int _⟩
/-- items with their places -/
def dEnum (ds : List PyData) : List PyData := (List.range ds.length).map fun (k : Nat) => PyData.tuple [.int (k : Int), ds.getD k .none]
theorem dEnum_len : (dEnum ds).length = ds.length := by simp [dEnum]
theorem dEnum_get {k : Nat} (h : (dEnum ds)[k]? = some d) : ∃ x, ds[k]? = some x ∧ d = .tuple [.int (k : Int), x] := by
  unfold dEnum at h
  rw [List.getElem?_map] at h
  by_cases hk : k < ds.length
  · rw [List.getElem?_range hk] at h
    refine ⟨ds[k], List.getElem?_eq_getElem hk, ?_⟩
    have e := (Option.some.inj h).symm
    rw [e]
    show PyData.tuple [.int (k : Int), ds.getD k .none] = _
    rw [List.getD_eq_getElem?_getD, List.getElem?_eq_getElem hk]
    rfl
  · rw [List.getElem?_eq_none (by rw [List.length_range]; omega)] at h
    cases h
theorem iv_enumT (h : EvA K c tr δ [.tuple ds]) : IvD K c (iEnumT K tr) δ (dEnum ds) := fun σ H ts td s R q => h σ H ts td s _ fun vs H1 hl s1 => by
  obtain ⟨G, rn, e, r1, r2⟩ := sta_split hl s1
  obtain ⟨v, rfl, hv⟩ := r1.one
  obtain ⟨a, xs, rfl, hp, r3⟩ := hv.tup_inv
  refine ⟨a, xs, rfl, SqT.of (rn.h _ _ hp), q _ G H1 rn e r2 ⟨fun i H hi ex => ⟨by rw [dEnum_len] at hi; rw [r3.length]; exact hi, SqT.of (ex _ _ hp)⟩, fun H ex => ⟨by rw [dEnum_len, r3.length]; exact Nat.le_refl _, SqT.of (ex _ _ hp)⟩, fun i H v H' d hd ex y => ?_⟩⟩
  obtain ⟨T, x, rfl, nT, rfl, hx⟩ := y
  obtain ⟨z, hz, rfl⟩ := dEnum_get hd
  obtain ⟨w, hw, rw'⟩ := r3.get hz
  rw [hx] at hw
  cases hw
  have r' := Run.new (o := .tup [.int (i : Nat), x]) ex nT
  exact ⟨_, r', .tup upd_same (.cons (.int _) (.cons (rw'.ex r'.g) .nil))⟩
end
section
variable {K : PySem.W.Frag} {c : Cc} {δ δ' : DEnv} {ds : List PyData} {te : TE} {tr : TA} {tl th : TO} {lo hi : Option Int} {t u : TS} {N : DEnv → Prop} {R : Rs → Prop} {n : Nat} {Z : PyData → Prop}
/-- from m - 1 down to 0 -/
theorem iv_rng3 {m : Nat} (h : EvA K c tr δ [.int ((m : Int) - 1), .int (-1), .int (-1)]) (h2 : m < 2 ^ 62) : IvD K c (iRng3 tr) δ (dDown m) := fun σ H ts td s R q => h σ H ts td s _ fun vs H1 hl s1 => by
  obtain ⟨G, rn, e, r1, r2⟩ := sta_split hl s1
  have e0 : (((m : Int) - 1 - (-1)).toNat) = m := by omega
  have sm := RgC.neg (i := (m : Int) - 1) (j := -1) (by omega) (by omega) (by omega) (by omega)
  rw [e0] at sm
  cases r1 with
  | cons a r1 =>
    cases r1 with
    | cons b r1 =>
      cases r1 with
      | cons d r1 =>
        cases r1
        refine ⟨(m : Int) - 1, -1, -1, m, by rw [a.int_inv, b.int_inv, d.int_inv], sm, ?_⟩
        refine q _ G H1 rn e r2 ⟨fun i H hi _ => by rw [dDown_len] at hi; exact hi, fun H _ => by rw [dDown_len]; exact Nat.le_refl _, fun i H v H' d hd ex y => ?_⟩
        obtain ⟨rfl, rfl⟩ := y
        obtain ⟨_, rfl⟩ := dDown_get hd
        exact ⟨G, Run.refl ex, by rw [show (m : Int) - 1 + ((i : Nat) : Int) * -1 = (m : Int) - 1 - (i : Int) by omega]; exact .int _⟩
theorem ev_slTE (h : EvE K c te δ Z) (hz : ∀ z, Z z → ∃ ds, z = .tuple ds) (hl : EvO K c tl δ lo) (hh : EvO K c th δ hi) : EvE K c (tSl (rSlP K) te tl th) δ (fun z => ∃ ds, Z (.tuple ds) ∧ z = .tuple (cutD ds lo hi)) := fun σ H ts td s Q q =>
  h σ H ts td s _ fun z zz v H1 s1 => hl σ H1 _ _ s1 _ fun H2 s2 => hh σ H2 _ _ s2 _ fun H3 s3 => by
    obtain ⟨ds, rfl⟩ := hz z zz
    obtain ⟨G, rn, e, t⟩ := s3
    cases t with
    | cons hv t =>
      obtain ⟨p, xs, rfl, hp, r1⟩ := hv.tup_inv
      refine .inl ⟨p, xs, rfl, SqT.of (rn.h _ _ hp), fun w => ?_, fun w l hl => ?_⟩
      · rw [r1.length] at w
        refine q _ ⟨ds, zz, rfl⟩ _ H3 ⟨G, rn, e, .cons (.tup hp ?_) t⟩
        rw [cut_whole w]
        exact r1
      · have r' := Run.new (o := .tup (cutV xs lo hi)) rn.h hl
        exact q _ ⟨ds, zz, rfl⟩ _ _ ⟨_, rn.trans r', e.run r', .cons (.tup upd_same ((rp_cut r1).ex r'.g)) (t.ex r'.g)⟩
theorem sd_asgET {g : TG} {js : List Nat} {Tg : PyData → DEnv → DEnv} (h : EvE K c te δ Z) (hg : ∀ z, Z z → TgD K g js z δ (Tg z δ)) (hn : ∀ z, Z z → N (Tg z δ)) : SD K c (tAsg te g) δ N R := fun σ H D s q1 q2 _ => h σ H [] [] s _ fun z hz v H1 s1 => hg z hz c σ H1 v [] [] s1 _ fun σ' s' _ _ => q1 _ σ' H1 (hn z hz) s'
end
end Pd

namespace Pd
open PySem PySem.Spec PyProof.Rows L2
theorem tuple_mul1 (l : Addr) (items : Array Value) (n : Nat) (dd : Option Addr) (sl : Array (Option Value)) (x : Int) (u : Tok) (c0 : (decide (x < -(2 ^ 63)) || decide (x ≥ 2 ^ 63)) = false) (c1 : (items.isEmpty || x == 1) = true) :
    Meets (Builtin.«tuple.__mul__» ⟨[.ref l, .int x u], []⟩) (fun _ R s => s.heap.get? l = some { cls := .type "tuple", dict := dd, data := .seq items n, slots := sl } ∧
      R (.ok (.ret (Value.ref l))) s) :=
  .of_wp fun prog w A R s h => by
    obtain ⟨hp, g, d, tk, os⟩ := s
    obtain ⟨hl, h⟩ := h
    have f1 := AutoSeq1.idx_int
    wp_walk using wpAny_loadPart' hl
    repeat (first
      | (refine wpAny_ite_false (decide_eq_false (by rw [c0]; exact Bool.false_ne_true)) ?_; wp_walk using wpAny_loadPart' hl)
      | (refine wpAny_ite_true (decide_eq_true c1) ?_; wp_walk using wpAny_loadPart' hl))
    exact ⟨_, rfl, h⟩
theorem tuple_mul0 (l : Addr) (items : Array Value) (n : Nat) (dd : Option Addr) (sl : Array (Option Value)) (x : Int) (u : Tok) (c0 : (decide (x < -(2 ^ 63)) || decide (x ≥ 2 ^ 63)) = false) (c1 : (items.isEmpty || x == 1) = false) (c2 : (decide (x ≤ 0) || items.isEmpty) = true) :
    Meets (Builtin.«tuple.__mul__» ⟨[.ref l, .int x u], []⟩) (fun _ R s => s.heap.get? l = some { cls := .type "tuple", dict := dd, data := .seq items n, slots := sl } ∧
      R (.ok (.ret (Value.ref s.heap.objs.size))) { s with heap := s.heap.push { cls := Value.type "tuple", data := Data.seq #[] }, toks := s.toks }) :=
  .of_wp fun prog w A R s h => by
    obtain ⟨hp, g, d, tk, os⟩ := s
    obtain ⟨hl, h⟩ := h
    have f1 := AutoSeq1.idx_int
    wp_walk using wpAny_loadPart' hl
    repeat (first
      | (refine wpAny_ite_false (decide_eq_false (by rw [c0]; exact Bool.false_ne_true)) ?_; wp_walk using wpAny_loadPart' hl)
      | (refine wpAny_ite_false (decide_eq_false (by rw [c1]; exact Bool.false_ne_true)) ?_; wp_walk using wpAny_loadPart' hl)
      | (refine wpAny_ite_true (decide_eq_true c2) ?_; wp_walk using wpAny_loadPart' hl))
    exact ⟨_, rfl, h⟩
def rRepA (K : PySem.W.Frag) : R2 := fun x y H Q => ∃ l k xs, x = .ref l ∧ y = .int k ∧ SqT K H l xs ∧ xs ≠ [] ∧ 0 ≤ k ∧ k ≤ 1000 ∧ xs.length ≤ 1000 ∧ (k = 1 → Q (.ref l) H) ∧ (k ≠ 1 → ∀ p, H p = none → Q (.ref p) (upd H p (.tup (List.replicate k.toNat xs).flatten)))
section
variable {X : Cx}
theorem op_repA : OpR X (binaryOp .Mult) (rRepA X.K) := by
  intro pins s σ H x y v u Q I rx ry h
  obtain ⟨l, k, xs, rfl, rfl, hT, hne, h1, h2, hz, q1, q2⟩ := h
  by_cases hk2 : 2 ≤ k
  · exact op_repT pins s σ H _ _ v u Q I rx ry ⟨l, k, xs, rfl, rfl, hT, hne, hk2, h2, hz, q2 (by omega)⟩
  cases rx
  obtain ⟨t, rfl⟩ := ry
  obtain ⟨its, r, ⟨⟨cls, dd, data, sl⟩, ho, hc, n, hd⟩, hs⟩ := I.tuple hT
  simp only at hc hd
  subst hc hd
  have hle : its.length = xs.length := r.length.symm
  have hn : its ≠ [] := fun e => hne (by
    rw [e] at hle
    exact List.eq_nil_of_length_eq_zero hle.symm)
  have hi : its.toArray.isEmpty = false := by
    cases its with
    | nil => exact absurd rfl hn
    | cons a b => rfl
  have c0 : (decide (k < -(2 ^ 63)) || decide (k ≥ 2 ^ 63)) = false := by
    rw [decide_eq_false (by omega), decide_eq_false (by omega)] <;> rfl
  by_cases hk1 : k = 1
  · have c1 : (its.toArray.isEmpty || k == 1) = true := by
      rw [hi, Bool.false_or, hk1]
      rfl
    exact wpAny_binaryOp_repeat_ref (T := "tuple") (U := "int") (by decide) ⟨_, ho, rfl⟩ (fun s' => typeIs_int s' k t) noFill_tuple_mul F.fills_int_mul F.slot_int_rmul repeat_tuple F.slot_int_index.lookup
      (call_meets F.slot_int_rmul (typeIs_int s k t) F.entry_int_rmul (F.args_int_rmul_2 _ _) (int_rmul_tuple k t l its.toArray n dd sl)
        ⟨ho, rfl, ⟨_, ho, rfl⟩, call_meets F.slot_tuple_mul ⟨_, ho, rfl⟩ F.entry_tuple_mul (F.args_tuple_mul_2 _ _) (tuple_mul1 l its.toArray n dd sl k t c0 c1) ⟨ho, ⟨.ref l, H, I, rfl, q1 hk1⟩⟩⟩)
  · have hk0 : k = 0 := by omega
    have c1 : (its.toArray.isEmpty || k == 1) = false := by
      rw [hi, Bool.false_or, hk0]
      rfl
    have c2 : (decide (k ≤ 0) || its.toArray.isEmpty) = true := by
      rw [hk0]
      rfl
    refine wpAny_binaryOp_repeat_ref (T := "tuple") (U := "int") (by decide) ⟨_, ho, rfl⟩ (fun s' => typeIs_int s' k t) noFill_tuple_mul F.fills_int_mul F.slot_int_rmul repeat_tuple F.slot_int_index.lookup
      (call_meets F.slot_int_rmul (typeIs_int s k t) F.entry_int_rmul (F.args_int_rmul_2 _ _) (int_rmul_tuple k t l its.toArray n dd sl)
        ⟨ho, rfl, ⟨_, ho, rfl⟩, call_meets F.slot_tuple_mul ⟨_, ho, rfl⟩ F.entry_tuple_mul (F.args_tuple_mul_2 _ _) (tuple_mul0 l its.toArray n dd sl k t c0 c1 c2) ⟨ho, ?_⟩⟩)
    have q := q2 hk1 _ (I.hok.fresh (Nat.le_refl _))
    have e : (List.replicate k.toNat xs).flatten = [] := by
      rw [hk0]
      rfl
    rw [e] at q
    refine ⟨.ref s.heap.objs.size, _, I.laid (t' := s.toks) (o := .tup []) (fun b ob q => Heap.get?_push_of_some _ q) (Nat.le_refl _) ?_, rfl, q⟩
    exact ⟨Nat.zero_le _, [], .nil, IsTup.new _ _⟩
/-- * : ints; a list, a tuple with an int -/
def rMulP (K : PySem.W.Frag) : R2 := fun x y H Q => rI CMul (fun i j => .int (i * j)) x y H Q ∨ (fun x y H Q => rRep x y H Q ∨ rRepA K x y H Q) x y H Q
theorem op_mulP : OpR X (binaryOp .Mult) (rMulP X.K) := op_mul.or (op_rep.or op_repA)
end
section
variable {K : PySem.W.Frag} {i j : Int} {d : PyData} {ds : List PyData}
theorem od_mul (h : CMul i j) : OpD K (rMulP K) (.int i) (.int j) (.int (i * j)) := OpD.inl (opd_I h fun _ => .int _)
theorem RpAll.flat {H : Hp} {vs : List V} (r : RpAll K H vs ds) : ∀ n : Nat, RpAll K H (List.replicate n vs).flatten (List.replicate n ds).flatten
  | 0 => .nil
  | n + 1 => by
    rw [List.replicate_succ, List.replicate_succ, List.flatten_cons, List.flatten_cons]
    exact r.append (RpAll.flat r n)
theorem flat_one {α : Type} (x : α) : ∀ n : Nat, (List.replicate n [x]).flatten = List.replicate n x
  | 0 => rfl
  | n + 1 => by
    rw [List.replicate_succ, List.flatten_cons, flat_one x n]
    rfl
theorem on_rep (h0 : -(2 ^ 63) ≤ i) (h1 : i < 2 ^ 63) (hz : ds.length * i.toNat ≤ 100000) : OpN K (rMulP K) (.list ds) (.int i) (List.replicate i.toNat ds).flatten := OpN.inr (OpN.inl fun G H v u e hv hu Q q => by
  obtain ⟨p, xs, rfl, hp, r1⟩ := hv.lst_inv
  exact ⟨p, i, xs, rfl, hu.int_inv, e _ _ hp, h0, h1, sz_le (by rw [r1.length]; exact hz), fun l hl => q l _ G _ (Run.newg e hl) hl (e.free hl) upd_same (r1.flat _)⟩)
theorem od_repT (h0 : 0 ≤ i) (h1 : i ≤ 1000) : OpD K (rMulP K) (.tuple [d]) (.int i) (.tuple (List.replicate i.toNat d)) := OpD.inr (OpD.inr fun G H v u e hv hu Q q => by
  obtain ⟨p, xs, rfl, hp, r1⟩ := hv.tup_inv
  have rr := r1.flat i.toNat
  rw [flat_one] at rr
  have hl := r1.length
  refine ⟨p, i, xs, rfl, hu.int_inv, SqT.of (e _ _ hp), (fun z => by rw [z] at hl; cases hl), h0, h1, (by rw [hl]; show 1 ≤ 1000; decide), fun z => ?_, fun _ l hl => ?_⟩
  · subst z
    exact q _ G H (Run.refl e) (.tup hp r1)
  · have r' := Run.new (o := .tup (List.replicate i.toNat xs).flatten) e hl
    exact q _ _ _ r' (.tup upd_same (rr.ex r'.g)))
end
end Pd

/-! the mathematics: discs on three pegs -/
namespace Peg
abbrev Pg := Fin 3
/-- the third peg -/
def thd (a b : Pg) : Pg := 3 - a - b
theorem thd_val : ∀ a b : Pg, a ≠ b → ((3 : Int) - (a.val : Int)) - (b.val : Int) = ((thd a b).val : Int) := by decide
theorem thd_comm : ∀ a b : Pg, thd a b = thd b a := by decide
theorem thd_ne : ∀ a b : Pg, a ≠ b → thd a b ≠ a ∧ thd a b ≠ b := by decide
theorem thd_thd : ∀ a b : Pg, a ≠ b → thd a (thd a b) = b := by decide
theorem thd_thd2 : ∀ a b : Pg, a ≠ b → thd b (thd a b) = a := by decide
theorem pg_cases : ∀ a b c : Pg, a ≠ b → c = a ∨ c = b ∨ c = thd a b := by decide

/-! ### the greatest disc ahead -/
/-- how many moves bring all discs to a peg -/
def toP : List Pg → Pg → Nat
  | [], _ => 0
  | q :: r, p => if q = p then toP r p else 2 ^ r.length + toP r (thd q p)
/-- .. the least discs, so many, of a setting (the least disc ahead) -/
def toPg (s : List Pg) (p : Pg) (n : Nat) : Nat := toP (s.take n).reverse p
/-- the first move by which all discs come to a peg -/
def firstTo : List Pg → Pg → Option (Nat × Pg)
  | [], _ => none
  | q :: r, p => if q = p then firstTo r p else (firstTo r (thd q p)).or (some (r.length, p))
def firstG (s : List Pg) (p : Pg) (n : Nat) : Option (Nat × Pg) := firstTo (s.take n).reverse p
theorem take_rev {s : List Pg} {m : Nat} (h : m < s.length) : (s.take (m + 1)).reverse = s[m] :: (s.take m).reverse := by
  rw [List.take_succ_eq_append_getElem h, List.reverse_append]
  rfl
theorem take_len {s : List Pg} {m : Nat} (h : m ≤ s.length) : (s.take m).reverse.length = m := by
  rw [List.length_reverse, List.length_take]
  omega
/-- the greatest disc on unlike pegs -/
def gu : List Pg → List Pg → Option Nat
  | a :: r, b :: s => if a = b then gu r s else some r.length
  | _, _ => none
def guG (s t : List Pg) (n : Nat) : Option Nat := gu (s.take n).reverse (t.take n).reverse
/-- both counts -/
def once : List Pg → List Pg → Nat
  | a :: r, b :: s => if a = b then once r s else toP r (thd a b) + 1 + toP s (thd a b)
  | _, _ => 0
def twice : List Pg → List Pg → Nat
  | a :: r, b :: s => if a = b then twice r s else toP r b + 2 ^ r.length + 1 + toP s a
  | _, _ => 0
def far (r s : List Pg) : Nat := min (once r s) (twice r s)
def many (r s : List Pg) : Nat := if once r s = twice r s ∧ r ≠ s then 2 else 1
def nextM : List Pg → List Pg → Option (Nat × Pg)
  | a :: r, b :: s => if a = b then nextM r s else
      if once (a :: r) (b :: s) ≤ twice (a :: r) (b :: s) then (firstTo r (thd a b)).or (some (r.length, b)) else (firstTo r b).or (some (r.length, thd a b))
  | _, _ => none
/-! ### the least disc ahead -/
theorem gu_some {s t : List Pg} {m : Nat} (hl : t.length = s.length) (h : gu s.reverse t.reverse = some m) :
    ∃ (h1 : m < s.length) (h2 : m < t.length), s[m] ≠ t[m] ∧ once s.reverse t.reverse = toPg s (thd s[m] t[m]) m + 1 + toPg t (thd s[m] t[m]) m ∧ twice s.reverse t.reverse = toPg s t[m] m + 2 ^ m + 1 + toPg t s[m] m := by
  have key : ∀ k, k ≤ s.length → gu (s.take k).reverse (t.take k).reverse = some m → ∃ (h1 : m < s.length) (h2 : m < t.length), s[m] ≠ t[m] ∧
      once (s.take k).reverse (t.take k).reverse = toPg s (thd s[m] t[m]) m + 1 + toPg t (thd s[m] t[m]) m ∧ twice (s.take k).reverse (t.take k).reverse = toPg s t[m] m + 2 ^ m + 1 + toPg t s[m] m := by
    intro k
    induction k with
    | zero =>
      intro _ h
      simp [gu] at h
    | succ k ih =>
      intro hk h
      have h1 : k < s.length := by omega
      have h2 : k < t.length := by omega
      rw [take_rev h1, take_rev h2] at h ⊢
      by_cases e : s[k] = t[k]
      · rw [gu, if_pos e] at h
        rw [once, if_pos e, twice, if_pos e]
        exact ih (by omega) h
      · rw [gu, if_neg e, take_len (by omega)] at h
        cases h
        refine ⟨h1, h2, e, ?_, ?_⟩
        · rw [once, if_neg e]
          rfl
        · rw [twice, if_neg e, take_len (by omega)]
          rfl
  have := key s.length (Nat.le_refl _)
  rw [List.take_length, List.take_of_length_le (show t.length ≤ s.length by omega)] at this
  exact this h
theorem gu_nextN : ∀ {r s : List Pg}, gu r s = none → nextM r s = none
  | [], _, _ => by simp [nextM]
  | _ :: _, [], _ => by simp [nextM]
  | a :: r, b :: s, h => by
    by_cases e : a = b
    · rw [gu, if_pos e] at h
      rw [nextM, if_pos e]
      exact gu_nextN h
    · rw [gu, if_neg e] at h
      cases h
theorem gu_next {s t : List Pg} {m : Nat} (hl : t.length = s.length) (h : gu s.reverse t.reverse = some m) (h1 : m < s.length) (h2 : m < t.length) :
    nextM s.reverse t.reverse = if once s.reverse t.reverse ≤ twice s.reverse t.reverse then (firstG s (thd s[m] t[m]) m).or (some (m, t[m])) else (firstG s t[m] m).or (some (m, thd s[m] t[m])) := by
  have key : ∀ k, k ≤ s.length → gu (s.take k).reverse (t.take k).reverse = some m →
      nextM (s.take k).reverse (t.take k).reverse = if once (s.take k).reverse (t.take k).reverse ≤ twice (s.take k).reverse (t.take k).reverse then (firstG s (thd s[m] t[m]) m).or (some (m, t[m])) else (firstG s t[m] m).or (some (m, thd s[m] t[m])) := by
    intro k
    induction k with
    | zero =>
      intro _ h
      simp [gu] at h
    | succ k ih =>
      intro hk h
      have h1 : k < s.length := by omega
      have h2 : k < t.length := by omega
      rw [take_rev h1, take_rev h2] at h ⊢
      by_cases e : s[k] = t[k]
      · rw [gu, if_pos e] at h
        rw [nextM, if_pos e, once, if_pos e, twice, if_pos e]
        exact ih (by omega) h
      · rw [gu, if_neg e, take_len (by omega)] at h
        cases h
        rw [nextM, if_neg e, take_len (by omega)]
        rfl
  have := key s.length (Nat.le_refl _)
  rw [List.take_length, List.take_of_length_le (show t.length ≤ s.length by omega)] at this
  exact this h

/-! ### which moves may be -/
def top (s : List Pg) (p : Pg) : Option Nat := (List.range s.length).find? fun k => decide (s[k]? = some p)
theorem top_some {s : List Pg} {p : Pg} {a : Nat} : top s p = some a ↔ s[a]? = some p ∧ ∀ k, k < a → s[k]? ≠ some p := by
  unfold top
  rw [List.find?_range_eq_some]
  constructor
  · rintro ⟨h1, h2, h3⟩
    refine ⟨of_decide_eq_true h1, fun k hk => ?_⟩
    have := h3 k hk
    simpa using this
  · rintro ⟨h1, h2⟩
    refine ⟨decide_eq_true h1, ?_, fun k hk => ?_⟩
    · obtain ⟨h, _⟩ := List.getElem?_eq_some_iff.mp h1
      exact List.mem_range.mpr h
    · simpa using h2 k hk
theorem top_none {s : List Pg} {p : Pg} : top s p = none ↔ ∀ k : Nat, s[k]? ≠ some p := by
  unfold top
  rw [List.find?_eq_none]
  constructor
  · intro h k hk
    obtain ⟨hl, _⟩ := List.getElem?_eq_some_iff.mp hk
    exact h k (List.mem_range.mpr hl) (decide_eq_true hk)
  · intro h k _ hk
    exact h k (of_decide_eq_true hk)
def cand (s : List Pg) (o p : Pg) : Option (Nat × Pg) := match top s o with
  | none => none
  | some a => if p = o then none else match top s p with
    | none => some (a, p)
    | some b => if a < b then some (a, p) else none
def okM (s : List Pg) (m : Nat × Pg) : Prop := ∃ o, s[m.1]? = some o ∧ m.2 ≠ o ∧ ∀ k, k < m.1 → s[k]? ≠ some o ∧ s[k]? ≠ some m.2
theorem cand_iff {s : List Pg} {o p : Pg} {m : Nat × Pg} : cand s o p = some m ↔ m.2 = p ∧ s[m.1]? = some o ∧ okM s m := by
  obtain ⟨d, q⟩ := m
  unfold cand
  cases h : top s o with
  | none =>
    constructor
    · intro z
      cases z
    · rintro ⟨_, h1, _⟩
      exact absurd h1 (top_none.mp h d)
  | some a =>
    obtain ⟨h1, h2⟩ := top_some.mp h
    show (if p = o then none else _) = some (d, q) ↔ _
    by_cases e : p = o
    · rw [if_pos e]
      constructor
      · intro z
        cases z
      · rintro ⟨z, z1, o', z2, z3, _⟩
        dsimp only at z z1 z2 z3
        rw [z1] at z2
        cases z2
        exact absurd (z.trans e) z3
    · rw [if_neg e]
      have back : ∀ {d : Nat} {q : Pg}, q = p → s[d]? = some o → okM s (d, q) → d = a ∧ ∀ k, k < d → s[k]? ≠ some p := by
        rintro d q rfl z1 ⟨o', z2, z3, z4⟩
        dsimp only at z1 z2 z3 z4
        rw [z1] at z2
        cases z2
        refine ⟨?_, fun k hk => (z4 k hk).2⟩
        rcases Nat.lt_trichotomy d a with l | l | l
        · exact absurd z1 (h2 d l)
        · exact l
        · exact absurd h1 (z4 a l).1
      cases h' : top s p with
      | none =>
        have h3 := top_none.mp h'
        constructor
        · intro z
          cases z
          exact ⟨rfl, h1, o, h1, e, fun k hk => ⟨h2 k hk, h3 k⟩⟩
        · rintro ⟨z, z1, z2⟩
          obtain ⟨z3, _⟩ := back z z1 z2
          dsimp only at z z3
          rw [z, z3]
      | some b =>
        obtain ⟨h3, h4⟩ := top_some.mp h'
        show (if a < b then some (a, p) else none) = some (d, q) ↔ _
        by_cases l : a < b
        · rw [if_pos l]
          constructor
          · intro z
            cases z
            exact ⟨rfl, h1, o, h1, e, fun k hk => ⟨h2 k hk, h4 k (by omega)⟩⟩
          · rintro ⟨z, z1, z2⟩
            obtain ⟨z3, _⟩ := back z z1 z2
            dsimp only at z z3
            rw [z, z3]
        · rw [if_neg l]
          constructor
          · intro z
            cases z
          · rintro ⟨z, z1, z2⟩
            obtain ⟨z3, z4⟩ := back z z1 z2
            subst z3
            rcases Nat.lt_or_ge b d with y | y
            · exact absurd h3 (z4 b y)
            · have : d = b := by omega
              rw [this, h3] at h1
              cases h1
              exact absurd rfl e
/-- the candidates, by the peg where from, then where to -/
def pgN (k : Nat) : Pg := ⟨k % 3, Nat.mod_lt _ (by decide)⟩
def fl (s : List Pg) (m : Nat) : List (Nat × Pg) := (List.range m).filterMap fun k => cand s (pgN (k / 3)) (pgN k)
theorem fl_succ (s : List Pg) (m : Nat) : fl s (m + 1) = fl s m ++ (cand s (pgN (m / 3)) (pgN m)).toList := by
  unfold fl
  rw [List.range_succ, List.filterMap_append]
  cases h : cand s (pgN (m / 3)) (pgN m) <;> simp [h]
theorem fl_len (s : List Pg) (m : Nat) : (fl s m).length ≤ m := by
  unfold fl
  have := List.length_filterMap_le (fun k => cand s (pgN (k / 3)) (pgN k)) (List.range m)
  rw [List.length_range] at this
  exact this
theorem mem_fl {s : List Pg} {m : Nat × Pg} : m ∈ fl s 9 ↔ okM s m := by
  unfold fl
  rw [List.mem_filterMap]
  constructor
  · rintro ⟨k, _, h⟩
    exact (cand_iff.mp h).2.2
  · intro h
    obtain ⟨o, h1, _⟩ := id h
    refine ⟨3 * o.val + m.2.val, List.mem_range.mpr (by have := o.isLt; have := m.2.isLt; omega), ?_⟩
    have e1 : pgN ((3 * o.val + m.2.val) / 3) = o := Fin.ext (by show (3 * o.val + m.2.val) / 3 % 3 = o.val; have := o.isLt; have := m.2.isLt; omega)
    have e2 : pgN (3 * o.val + m.2.val) = m.2 := Fin.ext (by show (3 * o.val + m.2.val) % 3 = m.2.val; have := m.2.isLt; omega)
    rw [e1, e2]
    exact cand_iff.mpr ⟨rfl, h1, h⟩
theorem fl_nodup (s : List Pg) : (fl s 9).Nodup := by
  unfold fl
  rw [List.Nodup, List.pairwise_filterMap]
  refine List.Pairwise.imp_of_mem ?_ (List.nodup_range (n := 9))
  intro a b ha hb hne x hx y hy e
  subst e
  obtain ⟨h1, h2, _⟩ := cand_iff.mp hx
  obtain ⟨h3, h4, _⟩ := cand_iff.mp hy
  rw [h2] at h4
  have e1 := Option.some.inj h4
  have e2 : pgN a = pgN b := h1.symm.trans h3
  have f1 : a / 3 % 3 = b / 3 % 3 := congrArg Fin.val e1
  have f2 : a % 3 = b % 3 := congrArg Fin.val e2
  have := List.mem_range.mp ha
  have := List.mem_range.mp hb
  omega
def okB (s : List Pg) (d : Nat) (p : Pg) : Bool := match s[d]? with
  | none => false
  | some o => decide (p ≠ o) && (List.range d).all fun k => decide (s[k]? ≠ some o) && decide (s[k]? ≠ some p)
theorem okB_iff {s : List Pg} {d : Nat} {p : Pg} : okB s d p = true ↔ okM s (d, p) := by
  unfold okB okM
  cases h : s[d]? with
  | none => simp
  | some o =>
    simp only [Bool.and_eq_true, decide_eq_true_eq, List.all_eq_true, List.mem_range]
    constructor
    · rintro ⟨a, b⟩
      exact ⟨o, rfl, a, b⟩
    · rintro ⟨o', a, b, c⟩
      cases a
      exact ⟨b, c⟩
def pgs : List Pg := [0, 1, 2]
def may (s : List Pg) : List (Nat × Pg) := (List.range s.length).flatMap fun d => pgs.filterMap fun p => if okB s d p = true then some (d, p) else none
theorem mem_pgs : ∀ p : Pg, p ∈ pgs := by decide
theorem mem_may {s : List Pg} {m : Nat × Pg} : m ∈ may s ↔ okM s m := by
  unfold may
  rw [List.mem_flatMap]
  constructor
  · rintro ⟨d, _, h⟩
    rw [List.mem_filterMap] at h
    obtain ⟨p, _, h⟩ := h
    by_cases e : okB s d p = true
    · rw [if_pos e] at h
      cases h
      exact okB_iff.mp e
    · rw [if_neg e] at h
      cases h
  · intro h
    obtain ⟨o, h1, _⟩ := id h
    obtain ⟨hl, _⟩ := List.getElem?_eq_some_iff.mp h1
    refine ⟨m.1, List.mem_range.mpr hl, List.mem_filterMap.mpr ⟨m.2, mem_pgs _, ?_⟩⟩
    rw [if_pos (okB_iff.mpr h)]
/-- pairs of whole numbers, in order -/
def toPr (m : Nat × Pg) : Int × Int := ((m.1 : Int), ((m.2.val : Nat) : Int))
theorem toPr_inj {m n : Nat × Pg} (h : toPr m = toPr n) : m = n := by
  obtain ⟨a, b⟩ := m
  obtain ⟨c, d⟩ := n
  have h1 : (a : Int) = c := congrArg Prod.fst h
  have h2 : ((b.val : Nat) : Int) = ((d.val : Nat) : Int) := congrArg Prod.snd h
  have e1 : a = c := by omega
  have e2 : b = d := Fin.ext (by omega)
  rw [e1, e2]
def mLt (a b : Nat × Pg) : Prop := a.1 < b.1 ∨ a.1 = b.1 ∧ a.2 < b.2
theorem may_sorted (s : List Pg) : (may s).Pairwise mLt := by
  unfold may
  rw [List.pairwise_flatMap]
  constructor
  · intro d _
    rw [List.pairwise_filterMap]
    refine List.Pairwise.imp ?_ (show pgs.Pairwise (· < ·) by decide)
    intro p q hpq x hx y hy
    by_cases e : okB s d p = true
    · rw [if_pos e] at hx
      cases hx
      by_cases e' : okB s d q = true
      · rw [if_pos e'] at hy
        cases hy
        exact .inr ⟨rfl, hpq⟩
      · rw [if_neg e'] at hy
        cases hy
    · rw [if_neg e] at hx
      cases hx
  · refine List.Pairwise.imp ?_ (List.pairwise_lt_range (n := s.length))
    intro d e hde x hx y hy
    rw [List.mem_filterMap] at hx hy
    obtain ⟨p, _, hx⟩ := hx
    obtain ⟨q, _, hy⟩ := hy
    by_cases e1 : okB s d p = true
    · rw [if_pos e1] at hx
      cases hx
      by_cases e2 : okB s e q = true
      · rw [if_pos e2] at hy
        cases hy
        exact .inl hde
      · rw [if_neg e2] at hy
        cases hy
    · rw [if_neg e1] at hx
      cases hx
theorem may_nodup (s : List Pg) : (may s).Nodup := by
  refine List.Pairwise.imp ?_ (may_sorted s)
  rintro ⟨a, b⟩ ⟨c, d⟩ h e
  cases e
  rcases h with h | ⟨_, h⟩
  · exact Nat.lt_irrefl _ h
  · exact Nat.lt_irrefl _ h
theorem fl_perm (s : List Pg) : (fl s 9).Perm (may s) := (List.perm_ext_iff_of_nodup (fl_nodup s) (may_nodup s)).mpr fun m => mem_fl.trans mem_may.symm
theorem may_uniq {s : List Pg} {l : List (Int × Int)} (hp : l.Perm ((fl s 9).map toPr)) (hs : l.Pairwise fun a b => a.1 < b.1 ∨ a.1 = b.1 ∧ a.2 ≤ b.2) : l = (may s).map toPr := by
  refine List.Perm.eq_of_pairwise ?_ hs ?_ (hp.trans ((fl_perm s).map toPr))
  · rintro ⟨a, b⟩ ⟨c, d⟩ _ _ h1 h2
    have e1 : a = c := by
      dsimp only at h1 h2
      omega
    have e2 : b = d := by
      dsimp only at h1 h2
      omega
    rw [e1, e2]
  · rw [List.pairwise_map]
    refine List.Pairwise.imp ?_ (may_sorted s)
    rintro ⟨a, b⟩ ⟨c, d⟩ h
    rcases h with h | ⟨h, h'⟩
    · exact .inl (by show (a : Int) < c; have : a < c := h; omega)
    · refine .inr ⟨by show (a : Int) = c; have : a = c := h; omega, ?_⟩
      have : b.val < d.val := h'
      show ((b.val : Nat) : Int) ≤ ((d.val : Nat) : Int)
      omega
end Peg

/-! the mathematics, 2: how moves change how far it is to a peg -/
namespace Peg
theorem toP_lt : ∀ (r : List Pg) (p : Pg), toP r p < 2 ^ r.length
  | [], _ => by simp [toP]
  | q :: r, p => by
    rw [toP, List.length_cons, Nat.pow_succ]
    have h1 := toP_lt r p
    have h2 := toP_lt r (thd q p)
    split <;> omega
theorem toP_zero : ∀ (r : List Pg) (p : Pg), toP r p = 0 ↔ r = List.replicate r.length p
  | [], _ => by simp [toP]
  | q :: r, p => by
    rw [toP, List.length_cons, List.replicate_succ]
    have h0 : 0 < 2 ^ r.length := Nat.pow_pos (by decide)
    by_cases e : q = p
    · rw [if_pos e, toP_zero r p, e]
      constructor
      · intro h
        rw [← h]
      · intro h
        exact (List.cons.inj h).2
    · rw [if_neg e]
      constructor
      · intro h
        omega
      · intro h
        exact absurd (List.cons.inj h).1 e
theorem toP_rep (n : Nat) (p q : Pg) : toP (List.replicate n p) q = if p = q then 0 else 2 ^ n - 1 := by
  induction n generalizing q with
  | zero => simp [toP]
  | succ n ih =>
    rw [List.replicate_succ, toP]
    by_cases e : p = q
    · rw [if_pos e, if_pos e, ih, if_pos e]
    · have h0 : 0 < 2 ^ n := Nat.pow_pos (by decide)
      rw [if_neg e, if_neg e, ih, if_neg (fun z => (thd_ne p q e).1 z.symm), List.length_replicate, Nat.pow_succ]
      omega
theorem toP_rep_ne {n : Nat} {p q : Pg} (h : p ≠ q) : toP (List.replicate n p) q = 2 ^ n - 1 := by rw [toP_rep, if_neg h]
theorem toP_rep_eq {n : Nat} {p : Pg} : toP (List.replicate n p) p = 0 := by rw [toP_rep, if_pos rfl]
theorem toP_sum : ∀ r : List Pg, toP r 0 + toP r 1 + toP r 2 = 2 * (2 ^ r.length - 1)
  | [] => rfl
  | q :: r => by
    have ih := toP_sum r
    have h0 : 0 < 2 ^ r.length := Nat.pow_pos (by decide)
    rw [toP, toP, toP, List.length_cons, Nat.pow_succ]
    have c : q = 0 ∨ q = 1 ∨ q = 2 := by revert q; decide
    rcases c with rfl | rfl | rfl
    · rw [if_pos rfl, if_neg (by decide), if_neg (by decide), show thd 0 1 = 2 by decide, show thd 0 2 = 1 by decide]
      omega
    · rw [if_neg (by decide), if_pos rfl, if_neg (by decide), show thd 1 0 = 2 by decide, show thd 1 2 = 0 by decide]
      omega
    · rw [if_neg (by decide), if_neg (by decide), if_pos rfl, show thd 2 0 = 1 by decide, show thd 2 1 = 0 by decide]
      omega
theorem firstTo_none : ∀ (r : List Pg) (p : Pg), firstTo r p = none ↔ r = List.replicate r.length p
  | [], _ => by simp [firstTo]
  | q :: r, p => by
    rw [firstTo, List.length_cons, List.replicate_succ]
    by_cases e : q = p
    · rw [if_pos e, firstTo_none r p, e]
      constructor
      · intro h
        rw [← h]
      · intro h
        exact (List.cons.inj h).2
    · rw [if_neg e]
      constructor
      · intro h
        cases z : firstTo r (thd q p) with
        | none =>
          rw [z] at h
          cases h
        | some m =>
          rw [z] at h
          cases h
      · intro h
        exact absurd (List.cons.inj h).1 e
/-! ### a setting with a greater disc more -/
/-- the moves of the greatest disc, the lesser ones t -/
def topM (t : List Pg) (q : Pg) : List (Nat × Pg) := pgs.filterMap fun p => if p ≠ q ∧ t = List.replicate t.length (thd q p) then some (t.length, p) else none
theorem okM_lt {t : List Pg} {q p : Pg} {d : Nat} (h : d < t.length) : okM (t ++ [q]) (d, p) ↔ okM t (d, p) := by
  unfold okM
  have e : ∀ k, k ≤ d → (t ++ [q])[k]? = t[k]? := fun k hk => List.getElem?_append_left (by omega)
  dsimp only
  rw [e d (Nat.le_refl _)]
  constructor
  · rintro ⟨o, h1, h2, h3⟩
    exact ⟨o, h1, h2, fun k hk => by rw [← e k (by omega)]; exact h3 k hk⟩
  · rintro ⟨o, h1, h2, h3⟩
    exact ⟨o, h1, h2, fun k hk => by rw [e k (by omega)]; exact h3 k hk⟩
theorem okM_top {t : List Pg} {q p : Pg} : okM (t ++ [q]) (t.length, p) ↔ p ≠ q ∧ t = List.replicate t.length (thd q p) := by
  unfold okM
  dsimp only
  rw [List.getElem?_concat_length]
  constructor
  · rintro ⟨o, h1, h2, h3⟩
    have e := Option.some.inj h1
    subst e
    refine ⟨h2, ?_⟩
    rw [List.eq_replicate_iff]
    refine ⟨rfl, fun b hb => ?_⟩
    obtain ⟨k, hk, e⟩ := List.getElem_of_mem hb
    have h4 := h3 k hk
    rw [List.getElem?_append_left hk, List.getElem?_eq_getElem hk, e] at h4
    rcases pg_cases q p b (Ne.symm h2) with z | z | z
    · exact absurd (by rw [z]) h4.1
    · exact absurd (by rw [z]) h4.2
    · exact z
  · rintro ⟨h1, h2⟩
    refine ⟨q, rfl, h1, fun k hk => ?_⟩
    rw [List.getElem?_append_left hk, List.getElem?_eq_getElem hk]
    have e : t[k] = thd q p := List.eq_of_mem_replicate (n := t.length) (by rw [← h2]; exact List.getElem_mem hk)
    rw [e]
    have n := thd_ne q p (Ne.symm h1)
    exact ⟨fun z => n.1 (Option.some.inj z), fun z => n.2 (Option.some.inj z)⟩
theorem may_snoc (t : List Pg) (q : Pg) : may (t ++ [q]) = may t ++ topM t q := by
  unfold may topM
  rw [List.length_append, List.length_singleton, List.range_succ, List.flatMap_append]
  congr 1
  · unfold List.flatMap
    congr 1
    apply List.map_congr_left
    intro d hd
    have hl := List.mem_range.mp hd
    congr 1
    funext p
    have e : (okB (t ++ [q]) d p = true) = (okB t d p = true) := by
      rw [okB_iff, okB_iff]
      exact propext (okM_lt hl)
    simp only [e]
  · rw [List.flatMap_singleton]
    congr 1
    funext p
    have e : (okB (t ++ [q]) t.length p = true) = (p ≠ q ∧ t = List.replicate t.length (thd q p)) := by
      rw [okB_iff]
      exact propext okM_top
    simp only [e]
theorem filterMap_one {β : Type} (h : Pg → Option β) (p0 : Pg) (hn : ∀ p, p ≠ p0 → h p = none) : pgs.filterMap h = (h p0).toList := by
  have c : p0 = 0 ∨ p0 = 1 ∨ p0 = 2 := (by decide : ∀ p : Pg, p = 0 ∨ p = 1 ∨ p = 2) p0
  unfold pgs
  rcases c with rfl | rfl | rfl
  · have h1 := hn 1 (by decide)
    have h2 := hn 2 (by decide)
    cases h0 : h 0 <;> simp [h0, h1, h2]
  · have h1 := hn 0 (by decide)
    have h2 := hn 2 (by decide)
    cases h0 : h 1 <;> simp [h0, h1, h2]
  · have h1 := hn 0 (by decide)
    have h2 := hn 1 (by decide)
    cases h0 : h 2 <;> simp [h0, h1, h2]
/-- the setting behind a move -/
def aft (s : List Pg) (m : Nat × Pg) : List Pg := s.set m.1 m.2
theorem aft_len (s : List Pg) (m : Nat × Pg) : (aft s m).length = s.length := List.length_set
theorem may_len {s : List Pg} {m : Nat × Pg} (h : m ∈ may s) : m.1 < s.length := by
  obtain ⟨o, h1, _⟩ := mem_may.mp h
  exact (List.getElem?_eq_some_iff.mp h1).1
theorem aft_lt {t : List Pg} {q : Pg} {m : Nat × Pg} (h : m.1 < t.length) : aft (t ++ [q]) m = aft t m ++ [q] := by
  unfold aft
  rw [List.set_append_left _ _ h]
theorem aft_top {t : List Pg} {q p : Pg} : aft (t ++ [q]) (t.length, p) = t ++ [p] := by
  unfold aft
  rw [List.set_append_right _ _ (Nat.le_refl _), Nat.sub_self]
  rfl
theorem mem_topM {t : List Pg} {q : Pg} {m : Nat × Pg} : m ∈ topM t q ↔ m.1 = t.length ∧ m.2 ≠ q ∧ t = List.replicate t.length (thd q m.2) := by
  unfold topM
  rw [List.mem_filterMap]
  constructor
  · rintro ⟨p, _, h⟩
    by_cases e : p ≠ q ∧ t = List.replicate t.length (thd q p)
    · rw [if_pos e] at h
      cases h
      exact ⟨rfl, e⟩
    · rw [if_neg e] at h
      cases h
  · rintro ⟨h1, h2⟩
    obtain ⟨d, p⟩ := m
    exact ⟨p, mem_pgs p, by rw [if_pos h2]; dsimp only at h1; rw [h1]⟩
theorem may_le (s : List Pg) : (may s).length ≤ 9 := by
  rw [← (fl_perm s).length_eq]
  exact fl_len s 9
/-- how far all discs are from a peg -/
def L (s : List Pg) (p : Pg) : Nat := toP s.reverse p
theorem L_snoc (t : List Pg) (q p : Pg) : L (t ++ [q]) p = if q = p then L t p else 2 ^ t.length + L t (thd q p) := by
  unfold L
  rw [List.reverse_append, List.reverse_singleton, List.singleton_append, toP, List.length_reverse]
theorem L_nil (p : Pg) : L [] p = 0 := rfl
theorem L_rep (n : Nat) (p q : Pg) : L (List.replicate n p) q = if p = q then 0 else 2 ^ n - 1 := by
  unfold L
  rw [List.reverse_replicate, toP_rep]
theorem L_lt (s : List Pg) (p : Pg) : L s p < 2 ^ s.length := by
  have := toP_lt s.reverse p
  rwa [List.length_reverse] at this
theorem L_rep' {t : List Pg} {p q : Pg} (h : t = List.replicate t.length p) : L t q = if p = q then 0 else 2 ^ t.length - 1 := by
  have := L_rep t.length p q
  rwa [← h] at this
theorem snoc_ind {P : List Pg → Prop} (h0 : P []) (h1 : ∀ t q, P t → P (t ++ [q])) : ∀ s, P s := by
  intro s
  rw [← List.reverse_reverse s]
  induction s.reverse with
  | nil => exact h0
  | cons q r ih =>
    rw [List.reverse_cons]
    exact h1 _ _ ih
/-- a move changes it by one at the most -/
theorem L_step : ∀ (s : List Pg) (p : Pg) (m : Nat × Pg), m ∈ may s → L (aft s m) p ≤ L s p + 1 ∧ L s p ≤ L (aft s m) p + 1 := by
  refine snoc_ind (fun p m h => by simp [may] at h) fun t q ih p m h => ?_
  have p0 : 0 < 2 ^ t.length := Nat.pow_pos (by decide)
  rw [may_snoc] at h
  rcases List.mem_append.mp h with h | h
  · have hl := may_len h
    rw [aft_lt hl, L_snoc, L_snoc, aft_len]
    have i1 := ih p m h
    have i2 := ih (thd q p) m h
    by_cases e : q = p
    · rw [if_pos e, if_pos e]
      exact i1
    · rw [if_neg e, if_neg e]
      omega
  · obtain ⟨d, p'⟩ := m
    obtain ⟨h1, h2, h3⟩ := mem_topM.mp h
    dsimp only at h1 h2 h3
    subst h1
    rw [aft_top, L_snoc, L_snoc]
    have hr := fun q => L_rep' (q := q) h3
    have n1 := thd_ne q p' (Ne.symm h2)
    by_cases e : q = p
    · subst e
      rw [if_pos rfl, if_neg h2, hr, hr, thd_comm p' q, if_pos rfl, if_neg n1.1]
      omega
    · rw [if_neg e]
      by_cases e2 : p' = p
      · subst e2
        rw [if_pos rfl, hr, hr, if_neg n1.2, if_pos rfl]
        omega
      · rw [if_neg e2]
        have e3 : p = thd q p' := by
          rcases pg_cases q p' p (Ne.symm h2) with z | z | z
          · exact absurd z.symm e
          · exact absurd z.symm e2
          · exact z
        subst e3
        rw [hr, hr, if_neg (fun z => (thd_ne p' (thd q p') e2).2 z.symm), if_neg (fun z => (thd_ne q (thd q p') e).2 z.symm)]
        omega
/-- just one lowers it, where it isn't nought -/
theorem L_lower : ∀ (s : List Pg) (p : Pg), (may s).filter (fun m => decide (L (aft s m) p + 1 = L s p)) = (firstTo s.reverse p).toList := by
  refine snoc_ind (fun p => by simp [may, firstTo]) fun t q ih p => ?_
  have p0 : 0 < 2 ^ t.length := Nat.pow_pos (by decide)
  rw [may_snoc, List.filter_append, List.reverse_append, List.reverse_singleton, List.singleton_append, firstTo, List.length_reverse]
  have there : (may t).filter (fun m => decide (L (aft (t ++ [q]) m) p + 1 = L (t ++ [q]) p)) = (firstTo t.reverse (if q = p then p else thd q p)).toList := by
    rw [← ih]
    refine List.filter_congr fun m hm => ?_
    rw [aft_lt (may_len hm), L_snoc, L_snoc, aft_len]
    by_cases e : q = p
    · rw [if_pos e, if_pos e, if_pos e]
    · rw [if_neg e, if_neg e, if_neg e]
      congr 1
      exact propext ⟨fun z => by omega, fun z => by omega⟩
  have top : (topM t q).filter (fun m => decide (L (aft (t ++ [q]) m) p + 1 = L (t ++ [q]) p)) = if q ≠ p ∧ t = List.replicate t.length (thd q p) then [(t.length, p)] else [] := by
    unfold topM
    rw [List.filter_filterMap, filterMap_one _ p]
    · by_cases hc : p ≠ q ∧ t = List.replicate t.length (thd q p)
      · rw [if_pos hc, if_pos ⟨Ne.symm hc.1, hc.2⟩]
        have hr := fun q => L_rep' (q := q) hc.2
        have e : L (aft (t ++ [q]) (t.length, p)) p + 1 = L (t ++ [q]) p := by
          rw [aft_top, L_snoc, L_snoc, if_pos rfl, if_neg (Ne.symm hc.1), hr, hr, if_pos rfl, if_neg (thd_ne q p (Ne.symm hc.1)).2]
          omega
        simp [Option.filter, e]
      · rw [if_neg hc, if_neg (fun z => hc ⟨Ne.symm z.1, z.2⟩)]
        rfl
    · intro p' hp'
      by_cases hc : p' ≠ q ∧ t = List.replicate t.length (thd q p')
      · rw [if_pos hc]
        have hr := fun q => L_rep' (q := q) hc.2
        have n1 := thd_ne q p' (Ne.symm hc.1)
        have e : ¬ (L (aft (t ++ [q]) (t.length, p')) p + 1 = L (t ++ [q]) p) := by
          rw [aft_top, L_snoc, L_snoc, if_neg hp']
          by_cases e : q = p
          · subst e
            rw [if_pos rfl, hr, hr, thd_comm p' q, if_pos rfl, if_neg n1.1]
            omega
          · rw [if_neg e]
            have e3 : p = thd q p' := by
              rcases pg_cases q p' p (Ne.symm hc.1) with z | z | z
              · exact absurd z.symm e
              · exact absurd z.symm hp'
              · exact z
            subst e3
            rw [hr, hr, if_neg (fun z => (thd_ne p' (thd q p') hp').2 z.symm), if_neg (fun z => (thd_ne q (thd q p') e).2 z.symm)]
            omega
        simp [Option.filter, e]
      · rw [if_neg hc]
        rfl
  rw [there, top]
  by_cases e : q = p
  · rw [if_pos e, if_neg (fun z => z.1 e), if_pos e, List.append_nil]
  · rw [if_neg e, if_neg e]
    by_cases hc : t = List.replicate t.length (thd q p)
    · rw [if_pos ⟨e, hc⟩]
      have hn : firstTo t.reverse (thd q p) = none := by
        rw [firstTo_none, List.length_reverse]
        have := congrArg List.reverse hc
        rwa [List.reverse_replicate] at this
      rw [hn]
      rfl
    · rw [if_neg (fun z => hc z.2), List.append_nil]
      cases hn : firstTo t.reverse (thd q p) with
      | none =>
        rw [firstTo_none, List.length_reverse] at hn
        have := congrArg List.reverse hn
        rw [List.reverse_reverse, List.reverse_replicate] at this
        exact absurd this hc
      | some m => rfl
theorem next_rep : ∀ (r : List Pg) (p : Pg), nextM r (List.replicate r.length p) = firstTo r p
  | [], p => by simp [nextM, firstTo]
  | q :: r, p => by
    rw [List.length_cons, List.replicate_succ, nextM, firstTo]
    by_cases e : q = p
    · rw [if_pos e, if_pos e]
      exact next_rep r p
    · rw [if_neg e, if_neg e, once, twice, if_neg e, if_neg e]
      have n1 := thd_ne q p e
      have l1 := toP_lt r (thd q p)
      have p0 : 0 < 2 ^ r.length := Nat.pow_pos (by decide)
      rw [toP_rep_ne (Ne.symm n1.2), toP_rep_ne (Ne.symm e), if_pos (by omega)]
end Peg

/-! the mathematics, 3: how far two settings are, and by how many ways -/
namespace Peg
def On (s t : List Pg) : Nat := once s.reverse t.reverse
def Tw (s t : List Pg) : Nat := twice s.reverse t.reverse
def Fr (s t : List Pg) : Nat := far s.reverse t.reverse
def Mn (s t : List Pg) : Nat := many s.reverse t.reverse
theorem Fr_eq (s t : List Pg) : Fr s t = min (On s t) (Tw s t) := rfl
theorem Mn_eq (s t : List Pg) : Mn s t = if On s t = Tw s t ∧ s ≠ t then 2 else 1 := by
  unfold Mn many On Tw
  have e : (s.reverse ≠ t.reverse) = (s ≠ t) := propext ⟨fun h z => h (by rw [z]), fun h z => h (List.reverse_inj.mp z)⟩
  simp only [e]
theorem On_snoc (s t : List Pg) (a b : Pg) : On (s ++ [a]) (t ++ [b]) = if a = b then On s t else L s (thd a b) + 1 + L t (thd a b) := by
  unfold On L
  rw [List.reverse_append, List.reverse_append, List.reverse_singleton, List.reverse_singleton, List.singleton_append, List.singleton_append, once]
theorem Tw_snoc (s t : List Pg) (a b : Pg) : Tw (s ++ [a]) (t ++ [b]) = if a = b then Tw s t else L s b + 2 ^ s.length + 1 + L t a := by
  unfold Tw L
  rw [List.reverse_append, List.reverse_append, List.reverse_singleton, List.reverse_singleton, List.singleton_append, List.singleton_append, twice, List.length_reverse]
theorem Fr_same (s t : List Pg) (a : Pg) : Fr (s ++ [a]) (t ++ [a]) = Fr s t := by
  rw [Fr_eq, Fr_eq, On_snoc, Tw_snoc, if_pos rfl, if_pos rfl]
theorem snoc_inj {s t : List Pg} {a b : Pg} : s ++ [a] = t ++ [b] ↔ s = t ∧ a = b := by
  constructor
  · intro h
    have := List.append_inj' h rfl
    exact ⟨this.1, (List.cons.inj this.2).1⟩
  · rintro ⟨rfl, rfl⟩
    rfl
theorem Mn_same (s t : List Pg) (a : Pg) : Mn (s ++ [a]) (t ++ [a]) = Mn s t := by
  rw [Mn_eq, Mn_eq, On_snoc, Tw_snoc, if_pos rfl, if_pos rfl]
  have e : (s ++ [a] ≠ t ++ [a]) = (s ≠ t) := propext ⟨fun h z => h (by rw [z]), fun h z => h (snoc_inj.mp z).1⟩
  simp only [e]
theorem snoc2_ind {P : List Pg → List Pg → Prop} (h0 : P [] []) (h1 : ∀ s t a b, s.length = t.length → P s t → P (s ++ [a]) (t ++ [b])) : ∀ s t, s.length = t.length → P s t := by
  refine snoc_ind (fun t h => ?_) fun s a ih t h => ?_
  · have : t = [] := List.eq_nil_of_length_eq_zero h.symm
    rw [this]
    exact h0
  · rcases List.eq_nil_or_concat t with z | ⟨t', b, z⟩
    · rw [z, List.length_append] at h
      simp at h
    · rw [List.concat_eq_append] at z
      subst z
      have hl : s.length = t'.length := by
        simp only [List.length_append, List.length_singleton] at h
        omega
      exact h1 s t' a b hl (ih t' hl)
theorem OT_sym : ∀ s t : List Pg, s.length = t.length → On s t = On t s ∧ Tw s t = Tw t s := by
  refine snoc2_ind ⟨rfl, rfl⟩ fun s t a b hl ih => ?_
  rw [On_snoc, On_snoc, Tw_snoc, Tw_snoc, thd_comm b a]
  by_cases e : a = b
  · rw [if_pos e, if_pos e.symm, if_pos e, if_pos e.symm]
    exact ih
  · rw [if_neg e, if_neg (Ne.symm e), if_neg e, if_neg (Ne.symm e), hl]
    omega
theorem Fr_sym {s t : List Pg} (h : s.length = t.length) : Fr s t = Fr t s := by
  rw [Fr_eq, Fr_eq, (OT_sym s t h).1, (OT_sym s t h).2]
theorem Mn_sym {s t : List Pg} (h : s.length = t.length) : Mn s t = Mn t s := by
  rw [Mn_eq, Mn_eq, (OT_sym s t h).1, (OT_sym s t h).2]
  have e : (s ≠ t) = (t ≠ s) := propext ⟨Ne.symm, Ne.symm⟩
  simp only [e]
theorem OT_zero : ∀ s t : List Pg, s.length = t.length → (s = t → On s t = 0 ∧ Tw s t = 0) ∧ (s ≠ t → 0 < On s t ∧ 0 < Tw s t) := by
  refine snoc2_ind ⟨fun _ => ⟨rfl, rfl⟩, fun h => absurd rfl h⟩ fun s t a b hl ih => ?_
  rw [On_snoc, Tw_snoc]
  by_cases e : a = b
  · rw [if_pos e, if_pos e]
    exact ⟨fun h => ih.1 (snoc_inj.mp h).1, fun h => ih.2 fun z => h (snoc_inj.mpr ⟨z, e⟩)⟩
  · rw [if_neg e, if_neg e]
    have p0 : 0 < 2 ^ s.length := Nat.pow_pos (by decide)
    exact ⟨fun h => absurd (snoc_inj.mp h).2 e, fun _ => ⟨by omega, by omega⟩⟩
theorem Fr_zero {s t : List Pg} (h : s.length = t.length) : Fr s t = 0 ↔ s = t := by
  have z := OT_zero s t h
  rw [Fr_eq]
  constructor
  · intro h0
    by_cases e : s = t
    · exact e
    · have := z.2 e
      omega
  · intro e
    have := z.1 e
    omega
/-- from all discs on one peg -/
theorem rep_OT : ∀ (t : List Pg) (c : Pg), (t = List.replicate t.length c → On (List.replicate t.length c) t = 0 ∧ Tw (List.replicate t.length c) t = 0) ∧
    (t ≠ List.replicate t.length c → On (List.replicate t.length c) t = L t c ∧ L t c < Tw (List.replicate t.length c) t) := by
  refine snoc_ind (fun c => ⟨fun _ => ⟨rfl, rfl⟩, fun h => absurd rfl h⟩) fun t b ih c => ?_
  have hr : List.replicate (t ++ [b]).length c = List.replicate t.length c ++ [c] := by
    rw [List.length_append, List.length_singleton, List.replicate_succ']
  have p0 : 0 < 2 ^ t.length := Nat.pow_pos (by decide)
  rw [hr, On_snoc, Tw_snoc, ne_eq, snoc_inj, L_snoc, List.length_replicate]
  by_cases e : c = b
  · rw [if_pos e, if_pos e, if_pos e.symm]
    exact ⟨fun h => (ih c).1 h.1, fun h => (ih c).2 fun z => h ⟨z, e.symm⟩⟩
  · rw [if_neg e, if_neg e, if_neg (Ne.symm e), L_rep, L_rep, if_neg (thd_ne c b e).1.symm, if_neg e, thd_comm b c]
    have l1 := L_lt t (thd c b)
    exact ⟨fun h => absurd h.2 (Ne.symm e), fun _ => by omega⟩
theorem rep_Fr (t : List Pg) (c : Pg) : Fr (List.replicate t.length c) t = L t c := by
  rw [Fr_eq]
  by_cases e : t = List.replicate t.length c
  · have h := (rep_OT t c).1 e
    have : L t c = 0 := by
      have := L_rep' (q := c) e
      rwa [if_pos rfl] at this
    omega
  · have h := (rep_OT t c).2 e
    omega
theorem rep_Mn (t : List Pg) (c : Pg) : Mn (List.replicate t.length c) t = 1 := by
  rw [Mn_eq, if_neg]
  rintro ⟨h1, h2⟩
  have h := (rep_OT t c).2 (Ne.symm h2)
  omega
/-! ### one move -/
section
variable {s t : List Pg} {a b : Pg}
/-- a lesser disc moves -/
theorem OT_lt {m : Nat × Pg} (h : m ∈ may s) (e : a ≠ b) : On (aft (s ++ [a]) m) (t ++ [b]) = L (aft s m) (thd a b) + 1 + L t (thd a b) ∧ Tw (aft (s ++ [a]) m) (t ++ [b]) = L (aft s m) b + 2 ^ s.length + 1 + L t a := by
  rw [aft_lt (may_len h), On_snoc, Tw_snoc, if_neg e, if_neg e, aft_len]
  exact ⟨rfl, rfl⟩
/-- the greatest disc moves, which is on the other's peg -/
theorem top_same {p : Pg} (hl : s.length = t.length) (h2 : p ≠ a) (h3 : s = List.replicate s.length (thd a p)) : Fr (s ++ [p]) (t ++ [a]) = Fr (s ++ [a]) (t ++ [a]) + 1 := by
  have p0 : 0 < 2 ^ t.length := Nat.pow_pos (by decide)
  rw [Fr_same]
  have f : Fr s t = L t (thd a p) := by
    rw [h3, hl]
    exact rep_Fr t _
  have hr := fun q => L_rep' (q := q) h3
  have n1 := thd_ne a p (Ne.symm h2)
  have l1 := L_lt t (thd a p)
  rw [f, Fr_eq, On_snoc, Tw_snoc, if_neg h2, if_neg h2, thd_comm p a, hr, hr, if_pos rfl, if_neg n1.1, hl]
  omega
/-- .. it comes to the other's peg -/
theorem top_once (hl : s.length = t.length) (e : a ≠ b) (h3 : s = List.replicate s.length (thd a b)) : Fr (s ++ [b]) (t ++ [b]) + 1 = Fr (s ++ [a]) (t ++ [b]) ∧ On (s ++ [a]) (t ++ [b]) < Tw (s ++ [a]) (t ++ [b]) ∧ Mn (s ++ [b]) (t ++ [b]) = 1 := by
  have p0 : 0 < 2 ^ t.length := Nat.pow_pos (by decide)
  have f : Fr s t = L t (thd a b) := by
    rw [h3, hl]
    exact rep_Fr t _
  have g : Mn s t = 1 := by
    rw [h3, hl]
    exact rep_Mn t _
  have hr := fun q => L_rep' (q := q) h3
  have n1 := thd_ne a b e
  have l1 := L_lt t (thd a b)
  have o : On (s ++ [a]) (t ++ [b]) = 1 + L t (thd a b) := by
    rw [On_snoc, if_neg e, hr, if_pos rfl, Nat.zero_add]
  have w : Tw (s ++ [a]) (t ++ [b]) = 2 * 2 ^ t.length + L t a := by
    rw [Tw_snoc, if_neg e, hr, if_neg n1.2, hl]
    omega
  refine ⟨?_, by omega, by rw [Mn_same]; exact g⟩
  rw [Fr_same, f, Fr_eq, o, w]
  omega
/-- .. it comes to the third peg -/
theorem top_twice (hl : s.length = t.length) (e : a ≠ b) (h3 : s = List.replicate s.length b) : On (s ++ [thd a b]) (t ++ [b]) + 1 = Tw (s ++ [a]) (t ++ [b]) ∧ Tw (s ++ [thd a b]) (t ++ [b]) = On (s ++ [a]) (t ++ [b]) + 1 := by
  have p0 : 0 < 2 ^ t.length := Nat.pow_pos (by decide)
  have hr := fun q => L_rep' (q := q) h3
  have n1 := thd_ne a b e
  have e2 : thd (thd a b) b = a := by rw [thd_comm, thd_thd2 a b e]
  rw [On_snoc, Tw_snoc, On_snoc, Tw_snoc, if_neg n1.2, if_neg n1.2, if_neg e, if_neg e, e2, hr, hr, hr, if_neg (Ne.symm e), if_pos rfl, if_neg (Ne.symm n1.2), hl]
  omega
theorem top_pegs {p : Pg} (e : a ≠ b) (h : p ≠ a) : p = b ∨ p = thd a b := by
  rcases pg_cases a b p e with z | z | z
  · exact absurd z h
  · exact .inl z
  · exact .inr z
end
/-- a move changes how far they are by one at the most -/
theorem Fr_step : ∀ s t : List Pg, s.length = t.length → ∀ m ∈ may s, Fr (aft s m) t ≤ Fr s t + 1 ∧ Fr s t ≤ Fr (aft s m) t + 1 := by
  refine snoc2_ind (fun m h => by simp [may] at h) fun s t a b hl ih m h => ?_
  rw [may_snoc] at h
  rcases List.mem_append.mp h with h | h
  · by_cases e : a = b
    · subst e
      rw [aft_lt (may_len h), Fr_same, Fr_same]
      exact ih m h
    · obtain ⟨h1, h2⟩ := OT_lt (t := t) h e
      have s1 := L_step s (thd a b) m h
      have s2 := L_step s b m h
      rw [Fr_eq, Fr_eq, h1, h2, On_snoc, Tw_snoc, if_neg e, if_neg e]
      omega
  · obtain ⟨d, p⟩ := m
    obtain ⟨h1, h2, h3⟩ := mem_topM.mp h
    dsimp only at h1 h2 h3
    subst h1
    rw [aft_top]
    by_cases e : a = b
    · subst e
      have := top_same hl h2 h3
      omega
    · rcases top_pegs e h2 with rfl | rfl
      · have := (top_once hl e h3).1
        omega
      · rw [thd_thd a b e] at h3
        have := top_twice hl e h3
        rw [Fr_eq, Fr_eq]
        omega
/-! ### how many -/
def nearW (s t : List Pg) (m : Nat × Pg) : Nat := if Fr (aft s m) t + 1 = Fr s t then Mn (aft s m) t else 0
theorem sum_if (l : List (Nat × Pg)) (f : Nat × Pg → Bool) : (l.map fun m => if f m = true then 1 else 0).sum = (l.filter f).length := by
  induction l with
  | nil => rfl
  | cons x l ih =>
    rw [List.map_cons, List.sum_cons, ih, List.filter_cons]
    by_cases h : f x = true
    · rw [if_pos h, if_pos h, List.length_cons]
      omega
    · rw [if_neg h, if_neg h]
      omega
theorem sum_add (l : List (Nat × Pg)) (f g : Nat × Pg → Nat) : (l.map fun m => f m + g m).sum = (l.map f).sum + (l.map g).sum := by
  induction l with
  | nil => rfl
  | cons x l ih =>
    rw [List.map_cons, List.sum_cons, ih, List.map_cons, List.sum_cons, List.map_cons, List.sum_cons]
    omega
theorem sum_congr {l : List (Nat × Pg)} {f g : Nat × Pg → Nat} (h : ∀ m ∈ l, f m = g m) : (l.map f).sum = (l.map g).sum := by
  rw [List.map_congr_left h]
theorem sum_zero {l : List (Nat × Pg)} {f : Nat × Pg → Nat} (h : ∀ m ∈ l, f m = 0) : (l.map f).sum = 0 := by
  induction l with
  | nil => rfl
  | cons x l ih =>
    rw [List.map_cons, List.sum_cons, h x List.mem_cons_self, ih fun m hm => h m (List.mem_cons_of_mem _ hm)]
theorem lower_len (s : List Pg) (p : Pg) : ((may s).filter fun m => decide (L (aft s m) p + 1 = L s p)).length = if s = List.replicate s.length p then 0 else 1 := by
  rw [L_lower]
  have hn := firstTo_none s.reverse p
  rw [List.length_reverse] at hn
  have e : (s.reverse = List.replicate s.length p) = (s = List.replicate s.length p) := propext ⟨fun h => by
    have := congrArg List.reverse h
    rwa [List.reverse_reverse, List.reverse_replicate] at this, fun h => by
    have := congrArg List.reverse h
    rwa [List.reverse_replicate] at this⟩
  rw [e] at hn
  cases h : firstTo s.reverse p with
  | none =>
    rw [if_pos (hn.mp h)]
    rfl
  | some m =>
    rw [if_neg fun z => by rw [hn.mpr z] at h; cases h]
    rfl
theorem pegs_sum (G : Pg → Nat) {a b : Pg} (e : a ≠ b) (h : G a = 0) : (pgs.map G).sum = G b + G (thd a b) := by
  have t : (pgs.map G).sum = G 0 + (G 1 + (G 2 + 0)) := rfl
  rw [t]
  have c : ∀ x : Pg, x = 0 ∨ x = 1 ∨ x = 2 := by decide
  rcases c a with rfl | rfl | rfl <;> rcases c b with rfl | rfl | rfl
  · exact absurd rfl e
  · have : thd 0 1 = 2 := by decide
    rw [this]
    omega
  · have : thd 0 2 = 1 := by decide
    rw [this]
    omega
  · have : thd 1 0 = 2 := by decide
    rw [this]
    omega
  · exact absurd rfl e
  · have : thd 1 2 = 0 := by decide
    rw [this]
    omega
  · have : thd 2 0 = 1 := by decide
    rw [this]
    omega
  · have : thd 2 1 = 0 := by decide
    rw [this]
    omega
  · exact absurd rfl e
theorem fm_sum (l : List Pg) (g : Pg → Option (Nat × Pg)) (f : Nat × Pg → Nat) : ((l.filterMap g).map f).sum = (l.map fun p => match g p with | some m => f m | none => 0).sum := by
  induction l with
  | nil => rfl
  | cons x l ih =>
    rw [List.map_cons, List.sum_cons, ← ih]
    cases h : g x with
    | none => rw [List.filterMap_cons_none h, Nat.zero_add]
    | some m => rw [List.filterMap_cons_some h, List.map_cons, List.sum_cons]
theorem topM_sum {s : List Pg} {a b : Pg} (e : a ≠ b) (f : Nat × Pg → Nat) : ((topM s a).map f).sum = (if s = List.replicate s.length (thd a b) then f (s.length, b) else 0) + (if s = List.replicate s.length b then f (s.length, thd a b) else 0) := by
  unfold topM
  rw [fm_sum, pegs_sum _ e]
  · congr 1
    · by_cases h : s = List.replicate s.length (thd a b)
      · rw [if_pos ⟨Ne.symm e, h⟩, if_pos h]
      · rw [if_neg fun z => h z.2, if_neg h]
    · rw [thd_thd a b e]
      by_cases h : s = List.replicate s.length b
      · rw [if_pos ⟨(thd_ne a b e).1, h⟩, if_pos h]
      · rw [if_neg fun z => h z.2, if_neg h]
  · rw [if_neg fun z => z.1 rfl]
theorem Mn_sum : ∀ s t : List Pg, s.length = t.length → s ≠ t → ((may s).map (nearW s t)).sum = Mn s t := by
  refine snoc2_ind (fun h => absurd rfl h) fun s t a b hl ih hne => ?_
  rw [may_snoc, List.map_append, List.sum_append]
  by_cases e : a = b
  · subst e
    have hst : s ≠ t := fun z => hne (by rw [z])
    rw [Mn_same, ← ih hst]
    have z : ((topM s a).map (nearW (s ++ [a]) (t ++ [a]))).sum = 0 := by
      refine sum_zero fun m hm => ?_
      obtain ⟨d, p⟩ := m
      obtain ⟨h1, h2, h3⟩ := mem_topM.mp hm
      dsimp only at h1 h2 h3
      subst h1
      have := top_same hl h2 h3
      unfold nearW
      rw [aft_top, if_neg (by omega)]
    rw [z, Nat.add_zero]
    refine sum_congr fun m hm => ?_
    unfold nearW
    rw [aft_lt (may_len hm), Fr_same, Fr_same, Mn_same]
  · have p0 : 0 < 2 ^ t.length := Nat.pow_pos (by decide)
    have n1 := thd_ne a b e
    have o := On_snoc s t a b
    have w := Tw_snoc s t a b
    rw [if_neg e] at o w
    have there : ((may s).map (nearW (s ++ [a]) (t ++ [b]))).sum = (if On (s ++ [a]) (t ++ [b]) ≤ Tw (s ++ [a]) (t ++ [b]) then (if s = List.replicate s.length (thd a b) then 0 else 1) else 0) + (if Tw (s ++ [a]) (t ++ [b]) ≤ On (s ++ [a]) (t ++ [b]) then (if s = List.replicate s.length b then 0 else 1) else 0) := by
      rw [← lower_len, ← lower_len, ← sum_if, ← sum_if]
      have k1 : ∀ (c : Prop) [Decidable c] (p : Pg), (if c then ((may s).map fun m => if decide (L (aft s m) p + 1 = L s p) = true then 1 else 0).sum else 0) = ((may s).map fun m => if c ∧ L (aft s m) p + 1 = L s p then 1 else 0).sum := by
        intro c _ p
        by_cases h : c
        · rw [if_pos h]
          refine sum_congr fun m _ => ?_
          by_cases h2 : L (aft s m) p + 1 = L s p
          · rw [if_pos (decide_eq_true h2), if_pos ⟨h, h2⟩]
          · rw [if_neg (by simpa using h2), if_neg fun z => h2 z.2]
        · rw [if_neg h]
          exact (sum_zero fun m _ => if_neg fun z => h z.1).symm
      rw [k1, k1, ← sum_add]
      refine sum_congr fun m hm => ?_
      obtain ⟨h1, h2⟩ := OT_lt (t := t) hm e
      have s1 := L_step s (thd a b) m hm
      have s2 := L_step s b m hm
      have hne2 : aft (s ++ [a]) m ≠ t ++ [b] := by
        rw [aft_lt (may_len hm)]
        exact fun z => e (snoc_inj.mp z).2
      unfold nearW
      rw [Mn_eq, Fr_eq, Fr_eq, h1, h2, o, w]
      by_cases q : L (aft s m) (thd a b) + 1 + L t (thd a b) = L (aft s m) b + 2 ^ s.length + 1 + L t a
      · have i1 : (if L (aft s m) (thd a b) + 1 + L t (thd a b) = L (aft s m) b + 2 ^ s.length + 1 + L t a ∧ aft (s ++ [a]) m ≠ t ++ [b] then 2 else 1) = 2 := if_pos ⟨q, hne2⟩
        rw [i1]
        repeat' split
        all_goals omega
      · have i1 : (if L (aft s m) (thd a b) + 1 + L t (thd a b) = L (aft s m) b + 2 ^ s.length + 1 + L t a ∧ aft (s ++ [a]) m ≠ t ++ [b] then 2 else 1) = 1 := if_neg fun z => q z.1
        rw [i1]
        repeat' split
        all_goals omega
    have top : ((topM s a).map (nearW (s ++ [a]) (t ++ [b]))).sum = (if s = List.replicate s.length (thd a b) then 1 else 0) + (if s = List.replicate s.length b then (if Tw (s ++ [a]) (t ++ [b]) ≤ On (s ++ [a]) (t ++ [b]) then 1 else 0) else 0) := by
      rw [topM_sum e]
      congr 1
      · by_cases h : s = List.replicate s.length (thd a b)
        · rw [if_pos h, if_pos h]
          obtain ⟨h1, h2, h3⟩ := top_once hl e h
          unfold nearW
          rw [aft_top, if_pos h1, h3]
        · rw [if_neg h, if_neg h]
      · by_cases h : s = List.replicate s.length b
        · rw [if_pos h, if_pos h]
          obtain ⟨h1, h2⟩ := top_twice hl e h
          unfold nearW
          rw [aft_top, Mn_eq, Fr_eq, Fr_eq]
          by_cases q : Tw (s ++ [a]) (t ++ [b]) ≤ On (s ++ [a]) (t ++ [b])
          · rw [if_pos (by omega), if_neg (fun z => by omega), if_pos q]
          · rw [if_neg (by omega), if_neg q]
        · rw [if_neg h, if_neg h]
    have hne2 : s ++ [a] ≠ t ++ [b] := fun z => e (snoc_inj.mp z).2
    have mn : Mn (s ++ [a]) (t ++ [b]) = if On (s ++ [a]) (t ++ [b]) = Tw (s ++ [a]) (t ++ [b]) then 2 else 1 := by
      rw [Mn_eq]
      by_cases q : On (s ++ [a]) (t ++ [b]) = Tw (s ++ [a]) (t ++ [b])
      · rw [if_pos ⟨q, hne2⟩, if_pos q]
      · rw [if_neg fun z => q z.1, if_neg q]
    rw [there, top, mn]
    by_cases c1 : s = List.replicate s.length (thd a b)
    · have h2 := (top_once hl e c1).2.1
      have c2 : s = List.replicate s.length b → s = [] := by
        intro c2
        rw [c2, List.replicate_inj] at c1
        cases s with
        | nil => rfl
        | cons x r =>
          exfalso
          rcases c1.2 with z | z
          · cases z
          · exact n1.2 z.symm
      simp only [if_pos c1, if_neg (show ¬ Tw (s ++ [a]) (t ++ [b]) ≤ On (s ++ [a]) (t ++ [b]) by omega), if_pos (show On (s ++ [a]) (t ++ [b]) ≤ Tw (s ++ [a]) (t ++ [b]) by omega), if_neg (show ¬ On (s ++ [a]) (t ++ [b]) = Tw (s ++ [a]) (t ++ [b]) by omega)]
      (repeat' split) <;> omega
    · simp only [if_neg c1]
      by_cases c2 : s = List.replicate s.length b
      · simp only [if_pos c2]
        have h2 := top_twice hl e c2
        (repeat' split) <;> omega
      · simp only [if_neg c2]
        (repeat' split) <;> omega
theorem Mn_two (s t : List Pg) : Mn s t = 1 ∨ Mn s t = 2 := by
  rw [Mn_eq]
  split
  · exact .inr rfl
  · exact .inl rfl
theorem Mn_self (s : List Pg) : Mn s s = 1 := by
  rw [Mn_eq, if_neg fun z => z.2 rfl]
/-! ### the first move -/
theorem first_mem {s : List Pg} {p : Pg} {m : Nat × Pg} (h : firstTo s.reverse p = some m) : m ∈ may s ∧ L (aft s m) p + 1 = L s p := by
  have hl := L_lower s p
  rw [h] at hl
  have hm : m ∈ (may s).filter fun m => decide (L (aft s m) p + 1 = L s p) := by
    rw [hl]
    exact List.mem_singleton.mpr rfl
  obtain ⟨h1, h2⟩ := List.mem_filter.mp hm
  exact ⟨h1, of_decide_eq_true h2⟩
theorem first_rep {s : List Pg} {p : Pg} (h : firstTo s.reverse p = none) : s = List.replicate s.length p := by
  rw [firstTo_none, List.length_reverse] at h
  have := congrArg List.reverse h
  rwa [List.reverse_reverse, List.reverse_replicate] at this
theorem next_near : ∀ s t : List Pg, s.length = t.length → s ≠ t → ∃ m, nextM s.reverse t.reverse = some m ∧ m ∈ may s ∧ Fr (aft s m) t + 1 = Fr s t := by
  refine snoc2_ind (fun h => absurd rfl h) fun s t a b hl ih hne => ?_
  rw [List.reverse_append, List.reverse_append, List.reverse_singleton, List.reverse_singleton, List.singleton_append, List.singleton_append, nextM]
  have up : ∀ {m}, m ∈ may s → m ∈ may (s ++ [a]) := fun {m} h => by
    rw [may_snoc]
    exact List.mem_append_left _ h
  by_cases e : a = b
  · subst e
    rw [if_pos rfl]
    obtain ⟨m, h1, h2, h3⟩ := ih fun z => hne (by rw [z])
    exact ⟨m, h1, up h2, by rw [aft_lt (may_len h2), Fr_same, Fr_same]; exact h3⟩
  · rw [if_neg e]
    have o := On_snoc s t a b
    have w := Tw_snoc s t a b
    rw [if_neg e] at o w
    have o' : once (a :: s.reverse) (b :: t.reverse) = On (s ++ [a]) (t ++ [b]) := by
      unfold On
      rw [List.reverse_append, List.reverse_append]
      rfl
    have w' : twice (a :: s.reverse) (b :: t.reverse) = Tw (s ++ [a]) (t ++ [b]) := by
      unfold Tw
      rw [List.reverse_append, List.reverse_append]
      rfl
    rw [o', w', List.length_reverse]
    by_cases le : On (s ++ [a]) (t ++ [b]) ≤ Tw (s ++ [a]) (t ++ [b])
    · rw [if_pos le]
      cases hf : firstTo s.reverse (thd a b) with
      | some m =>
        obtain ⟨h1, h2⟩ := first_mem hf
        refine ⟨m, rfl, up h1, ?_⟩
        obtain ⟨q1, q2⟩ := OT_lt (t := t) h1 e
        have s2 := L_step s b m h1
        rw [Fr_eq, Fr_eq, q1, q2, o, w]
        omega
      | none =>
        have hr := first_rep hf
        refine ⟨(s.length, b), rfl, ?_, ?_⟩
        · rw [may_snoc]
          exact List.mem_append_right _ (mem_topM.mpr ⟨rfl, Ne.symm e, hr⟩)
        · rw [aft_top]
          exact (top_once hl e hr).1
    · rw [if_neg le]
      cases hf : firstTo s.reverse b with
      | some m =>
        obtain ⟨h1, h2⟩ := first_mem hf
        refine ⟨m, rfl, up h1, ?_⟩
        obtain ⟨q1, q2⟩ := OT_lt (t := t) h1 e
        have s2 := L_step s (thd a b) m h1
        rw [Fr_eq, Fr_eq, q1, q2, o, w]
        omega
      | none =>
        have hr := first_rep hf
        refine ⟨(s.length, thd a b), rfl, ?_, ?_⟩
        · rw [may_snoc]
          exact List.mem_append_right _ (mem_topM.mpr ⟨rfl, (thd_ne a b e).1, by rw [thd_thd a b e]; exact hr⟩)
        · rw [aft_top]
          have := top_twice hl e hr
          rw [Fr_eq, Fr_eq]
          omega
theorem gu_self : ∀ r : List Pg, gu r r = none
  | [] => rfl
  | a :: r => by rw [gu, if_pos rfl]; exact gu_self r
theorem gu_same : ∀ {r s : List Pg}, r.length = s.length → gu r s = none → r = s
  | [], [], _, _ => rfl
  | [], _ :: _, h, _ => by cases h
  | _ :: _, [], h, _ => by cases h
  | a :: r, b :: s, h, g => by
    by_cases e : a = b
    · rw [gu, if_pos e] at g
      rw [e, gu_same (Nat.succ.inj h) g]
    · rw [gu, if_neg e] at g
      cases g
theorem gu_eq {s t : List Pg} (hl : t.length = s.length) (h : gu s.reverse t.reverse = none) : s = t := by
  have := gu_same (by rw [List.length_reverse, List.length_reverse, hl]) h
  exact List.reverse_inj.mp this
theorem gu_far {s t : List Pg} (hl : t.length = s.length) (h : gu s.reverse t.reverse = none) : Fr s t = 0 ∧ Mn s t = 1 := by
  have e := gu_eq hl h
  subst e
  exact ⟨(Fr_zero rfl).mpr rfl, Mn_self s⟩
def unl (s t : List Pg) : List Nat := (List.range s.length).filter fun i => decide (s[i]? ≠ t[i]?)
theorem unl_last : ∀ s t : List Pg, s.length = t.length → (unl s t).getLast? = gu s.reverse t.reverse := by
  refine snoc2_ind rfl fun s t a b hl ih => ?_
  rw [List.reverse_append, List.reverse_append, List.reverse_singleton, List.reverse_singleton, List.singleton_append, List.singleton_append, gu, List.length_reverse]
  unfold unl
  rw [List.length_append, List.length_singleton, List.range_succ, List.filter_append]
  have e1 : (List.range s.length).filter (fun i => decide ((s ++ [a])[i]? ≠ (t ++ [b])[i]?)) = unl s t := by
    unfold unl
    refine List.filter_congr fun i hi => ?_
    have hi := List.mem_range.mp hi
    rw [List.getElem?_append_left hi, List.getElem?_append_left (by omega)]
  rw [e1]
  have e2 : (s ++ [a])[s.length]? = some a := by simp
  have e3 : (t ++ [b])[s.length]? = some b := by rw [hl]; simp
  have e4 : [s.length].filter (fun i => decide ((s ++ [a])[i]? ≠ (t ++ [b])[i]?)) = if a = b then [] else [s.length] := by
    rw [List.filter_cons, e2, e3, List.filter_nil]
    by_cases e : a = b
    · rw [e, if_neg (by simp), if_pos rfl]
    · rw [if_pos (by simp [e]), if_neg e]
  rw [e4]
  by_cases e : a = b
  · rw [if_pos e, if_pos e, List.append_nil, ih]
  · rw [if_neg e, if_neg e, List.getLast?_append, List.getLast?_singleton]
    rfl
theorem unl_nil {s t : List Pg} (hl : s.length = t.length) (h : gu s.reverse t.reverse = none) : unl s t = [] := by
  rw [← unl_last s t hl, List.getLast?_eq_none_iff] at h
  exact h
theorem unl_some {s t : List Pg} {m : Nat} (hl : s.length = t.length) (h : gu s.reverse t.reverse = some m) : unl s t ≠ [] ∧ (unl s t).getLast? = some m := by
  rw [← unl_last s t hl] at h
  refine ⟨fun z => ?_, h⟩
  rw [z] at h
  cases h
end Peg

/-! the mathematics, 4: towers by numbers -/
namespace Peg
def atR : Nat → Pg → Pg → Nat → List Pg
  | 0, _, _, _ => []
  | n + 1, b, e, k => if k < 2 ^ n then atR n b (thd b e) k ++ [b] else atR n (thd b e) e (k - 2 ^ n) ++ [e]
theorem atR_len : ∀ (n : Nat) (b e : Pg) (k : Nat), (atR n b e k).length = n
  | 0, _, _, _ => rfl
  | n + 1, b, e, k => by
    rw [atR]
    split <;> rw [List.length_append, atR_len] <;> rfl
theorem atR_L : ∀ (n : Nat) (b e : Pg) (k : Nat), b ≠ e → k < 2 ^ n → L (atR n b e k) b = k ∧ L (atR n b e k) e = 2 ^ n - 1 - k
  | 0, b, e, k, _, h => by
    have : k = 0 := by simpa using h
    subst this
    exact ⟨rfl, rfl⟩
  | n + 1, b, e, k, he, h => by
    have hp : 2 ^ (n + 1) = 2 * 2 ^ n := by rw [Nat.pow_succ]; omega
    have n1 := thd_ne b e he
    rw [atR]
    by_cases hk : k < 2 ^ n
    · rw [if_pos hk, L_snoc, L_snoc, if_pos rfl, if_neg he, atR_len]
      obtain ⟨h1, h2⟩ := atR_L n b (thd b e) k (Ne.symm n1.1) hk
      rw [h1, h2]
      omega
    · rw [if_neg hk, L_snoc, L_snoc, if_pos rfl, if_neg (Ne.symm he), atR_len, thd_comm e b]
      obtain ⟨h1, h2⟩ := atR_L n (thd b e) e (k - 2 ^ n) n1.2 (by omega)
      rw [h1, h2]
      omega
theorem L_zero' {s : List Pg} {p : Pg} (h : L s p = 0) : s = List.replicate s.length p := by
  unfold L at h
  rw [toP_zero, List.length_reverse] at h
  have := congrArg List.reverse h
  rwa [List.reverse_reverse, List.reverse_replicate] at this
theorem atR_next : ∀ (n : Nat) (b e : Pg) (k : Nat), b ≠ e → k + 1 < 2 ^ n → ∃ m ∈ may (atR n b e k), aft (atR n b e k) m = atR n b e (k + 1)
  | 0, b, e, k, _, h => by
    simp at h
  | n + 1, b, e, k, he, h => by
    have hp : 2 ^ (n + 1) = 2 * 2 ^ n := by rw [Nat.pow_succ]; omega
    have n1 := thd_ne b e he
    rw [atR, atR]
    by_cases hk : k + 1 < 2 ^ n
    · rw [if_pos (show k < 2 ^ n by omega), if_pos hk]
      obtain ⟨m, h1, h2⟩ := atR_next n b (thd b e) k (Ne.symm n1.1) hk
      exact ⟨m, by rw [may_snoc]; exact List.mem_append_left _ h1, by rw [aft_lt (may_len h1), h2]⟩
    · by_cases hk2 : k < 2 ^ n
      · rw [if_pos hk2, if_neg hk]
        have e1 := (atR_L n b (thd b e) k (Ne.symm n1.1) hk2).2
        have e2 := (atR_L n (thd b e) e (k + 1 - 2 ^ n) n1.2 (by omega)).1
        have r1 := L_zero' (e1.trans (by omega))
        have r2 := L_zero' (e2.trans (by omega))
        rw [atR_len] at r1 r2
        refine ⟨(n, e), ?_, ?_⟩
        · rw [may_snoc]
          refine List.mem_append_right _ (mem_topM.mpr ⟨(atR_len _ _ _ _).symm, Ne.symm he, ?_⟩)
          rw [atR_len]
          exact r1
        · have := aft_top (t := atR n b (thd b e) k) (q := b) (p := e)
          rw [atR_len] at this
          rw [this, r1, r2]
      · rw [if_neg hk2, if_neg hk]
        obtain ⟨m, h1, h2⟩ := atR_next n (thd b e) e (k - 2 ^ n) n1.2 (by omega)
        rw [show k + 1 - 2 ^ n = k - 2 ^ n + 1 by omega]
        exact ⟨m, by rw [may_snoc]; exact List.mem_append_left _ h1, by rw [aft_lt (may_len h1), h2]⟩
theorem atR_bit (n : Nat) (b e : Pg) (k : Nat) : atR (n + 1) b e (k % 2 ^ (n + 1)) = if k / 2 ^ n % 2 = 0 then atR n b (thd b e) (k % 2 ^ n) ++ [b] else atR n (thd b e) e (k % 2 ^ n) ++ [e] := by
  have hm := Nat.mod_pow_succ (b := 2) (k := n) (x := k)
  have hl : k % 2 ^ n < 2 ^ n := Nat.mod_lt _ (Nat.pow_pos (by decide))
  rw [atR]
  have h2 : k / 2 ^ n % 2 = 0 ∨ k / 2 ^ n % 2 = 1 := by omega
  rcases h2 with h2 | h2
  · have hm : k % 2 ^ (n + 1) = k % 2 ^ n := by
      rw [hm, h2]
      omega
    rw [if_pos h2, hm, if_pos hl]
  · have hm : k % 2 ^ (n + 1) = k % 2 ^ n + 2 ^ n := by
      rw [hm, h2]
      omega
    rw [if_neg (by omega), hm, if_neg (by omega), Nat.add_sub_cancel]
/-- the greatest disc ahead -/
def numG : List Pg → Pg → Pg → Option Nat
  | [], _, _ => some 0
  | x :: r, b, e => if x = thd b e then none else if x = b then numG r b (thd b e) else (numG r (thd b e) e).map fun k => 2 ^ r.length + k
theorem numG_eq : ∀ (r : List Pg) (b e : Pg), b ≠ e → numG r b e = if toP r b + toP r e = 2 ^ r.length - 1 then some (toP r b) else none
  | [], _, _, _ => rfl
  | x :: r, b, e, he => by
    have hp : 2 ^ (r.length + 1) = 2 * 2 ^ r.length := by rw [Nat.pow_succ]; omega
    have p0 : 0 < 2 ^ r.length := Nat.pow_pos (by decide)
    have n1 := thd_ne b e he
    rw [numG, toP, toP, List.length_cons]
    by_cases h1 : x = thd b e
    · subst h1
      rw [if_pos rfl, if_neg n1.1, if_neg n1.2, if_neg (by omega)]
    · rw [if_neg h1]
      by_cases h2 : x = b
      · subst h2
        rw [if_pos rfl, if_pos rfl, if_neg he, numG_eq r x (thd x e) (Ne.symm n1.1)]
        by_cases h3 : toP r x + toP r (thd x e) = 2 ^ r.length - 1
        · rw [if_pos h3, if_pos (by omega)]
        · rw [if_neg h3, if_neg (by omega)]
      · have h3 : x = e := by
          rcases pg_cases b e x he with z | z | z
          · exact absurd z h2
          · exact z
          · exact absurd z h1
        subst h3
        rw [if_neg h2, if_neg h2, if_pos rfl, numG_eq r (thd b x) x n1.2, thd_comm x b]
        by_cases h3 : toP r (thd b x) + toP r x = 2 ^ r.length - 1
        · rw [if_pos h3, if_pos (by omega)]
          rfl
        · rw [if_neg h3, if_neg (by omega)]
          rfl
def numF (s : List Pg) (b e : Pg) : Option Nat := if L s b + L s e = 2 ^ s.length - 1 then some (L s b) else none
theorem numF_eq {s : List Pg} {b e : Pg} (he : b ≠ e) : numG s.reverse b e = numF s b e := by
  rw [numG_eq _ _ _ he, List.length_reverse]
  rfl
/-- .. of the least discs -/
def numS (s : List Pg) (b e : Pg) (n : Nat) : Option Nat := numG (s.take n).reverse b e
end Peg

/-! the mathematics, 5: the row, the triangle, the pegs called otherwise, the ways -/
namespace Peg
/-! ### the row -/
def rnS (n q r : Nat) : Nat := 3 ^ n * q + (if q = 1 then 3 ^ n - 1 - r else r)
def rnF : List Pg → Nat × Nat → Nat × Nat
  | [], a => a
  | q :: s, (r, z) => rnF s (z * q.val + (if q = 1 then z - 1 - r else r), z * 3)
def rn (s : List Pg) : Nat := (rnF s (0, 1)).1
theorem rnF_append : ∀ (s t : List Pg) (a : Nat × Nat), rnF (s ++ t) a = rnF t (rnF s a)
  | [], _, _ => rfl
  | q :: s, t, (r, z) => by
    rw [List.cons_append, rnF, rnF]
    exact rnF_append s t _
theorem rnF_size : ∀ (s : List Pg) (a : Nat × Nat), (rnF s a).2 = a.2 * 3 ^ s.length
  | [], a => by simp [rnF]
  | q :: s, (r, z) => by
    rw [rnF, rnF_size s]
    show z * 3 * 3 ^ s.length = z * 3 ^ (s.length + 1)
    rw [Nat.pow_succ, Nat.mul_assoc, Nat.mul_comm 3]
theorem rn_snoc (s : List Pg) (q : Pg) : rn (s ++ [q]) = 3 ^ s.length * q.val + (if q = 1 then 3 ^ s.length - 1 - rn s else rn s) := by
  unfold rn
  rw [rnF_append]
  have h := rnF_size s (0, 1)
  rw [Nat.one_mul] at h
  generalize rnF s (0, 1) = a at h
  obtain ⟨r, z⟩ := a
  have h : z = 3 ^ s.length := h
  subst h
  rfl
theorem p3 (n : Nat) : 0 < 3 ^ n := Nat.pow_pos (by decide)
theorem p3s (n : Nat) : 3 ^ (n + 1) = 3 * 3 ^ n := by rw [Nat.pow_succ, Nat.mul_comm]
theorem pg3 (q : Pg) : q = 0 ∨ q = 1 ∨ q = 2 := by
  revert q
  decide
theorem rn_cases (s : List Pg) : rn (s ++ [0]) = rn s ∧ rn (s ++ [1]) = 3 ^ s.length + (3 ^ s.length - 1 - rn s) ∧ rn (s ++ [2]) = 2 * 3 ^ s.length + rn s := by
  refine ⟨?_, ?_, ?_⟩ <;> rw [rn_snoc]
  · rw [if_neg (by decide)]
    show 3 ^ s.length * 0 + rn s = rn s
    omega
  · rw [if_pos rfl]
    show 3 ^ s.length * 1 + _ = _
    omega
  · rw [if_neg (by decide)]
    show 3 ^ s.length * 2 + rn s = _
    omega
theorem rn_lt : ∀ s : List Pg, rn s < 3 ^ s.length := by
  refine snoc_ind (by decide) fun s q ih => ?_
  have h := rn_cases s
  have h3 := p3s s.length
  rw [List.length_append, List.length_singleton]
  rcases pg3 q with rfl | rfl | rfl <;> omega
theorem rn_ends : ∀ s : List Pg, (rn s = 0 ↔ s = List.replicate s.length 0) ∧ (rn s + 1 = 3 ^ s.length ↔ s = List.replicate s.length 2) := by
  refine snoc_ind ⟨by decide, by decide⟩ fun s q ih => ?_
  have h := rn_cases s
  have h3 := p3s s.length
  have hp := p3 s.length
  have hl := rn_lt s
  rw [List.length_append, List.length_singleton, List.replicate_succ', List.replicate_succ', snoc_inj, snoc_inj, ← ih.1, ← ih.2]
  rcases pg3 q with rfl | rfl | rfl
  · exact ⟨⟨fun z => ⟨by omega, rfl⟩, fun z => by omega⟩, ⟨fun z => by omega, fun z => absurd z.2 (by decide)⟩⟩
  · exact ⟨⟨fun z => by omega, fun z => absurd z.2 (by decide)⟩, ⟨fun z => by omega, fun z => absurd z.2 (by decide)⟩⟩
  · exact ⟨⟨fun z => by omega, fun z => absurd z.2 (by decide)⟩, ⟨fun z => ⟨by omega, rfl⟩, fun z => by omega⟩⟩
theorem rn_inj : ∀ s t : List Pg, s.length = t.length → rn s = rn t → s = t := by
  refine snoc2_ind (fun _ => rfl) fun s t a b hl ih h => ?_
  have h1 := rn_cases s
  have h2 := rn_cases t
  have l1 := rn_lt s
  have l2 := rn_lt t
  rw [hl] at h1 l1
  have hp := p3 t.length
  rcases pg3 a with rfl | rfl | rfl <;> rcases pg3 b with rfl | rfl | rfl <;> first | (exfalso; omega) | (rw [ih (by omega)])
structure Hid (P : Prop) : Prop where
  h : P
theorem rn_near : ∀ s : List Pg, (rn s + 1 < 3 ^ s.length → ∃ m ∈ may s, rn (aft s m) = rn s + 1) ∧ (0 < rn s → ∃ m ∈ may s, rn (aft s m) + 1 = rn s) := by
  refine snoc_ind ⟨fun h => absurd h (by decide), fun h => absurd h (by decide)⟩ fun s q ih0 => ?_
  have ih := Hid.mk ih0
  clear ih0
  have h := rn_cases s
  have h3 := p3s s.length
  have hp := p3 s.length
  have hl := rn_lt s
  have he := rn_ends s
  rw [List.length_append, List.length_singleton]
  have low : ∀ m ∈ may s, m ∈ may (s ++ [q]) ∧ aft (s ++ [q]) m = aft s m ++ [q] := fun m hm => ⟨by rw [may_snoc]; exact List.mem_append_left _ hm, aft_lt (may_len hm)⟩
  have top : ∀ p, p ≠ q → s = List.replicate s.length (thd q p) → (s.length, p) ∈ may (s ++ [q]) ∧ aft (s ++ [q]) (s.length, p) = s ++ [p] := fun p hp hr => ⟨by rw [may_snoc]; exact List.mem_append_right _ (mem_topM.mpr ⟨rfl, hp, hr⟩), aft_top⟩
  have up0 : rn s + 1 < 3 ^ s.length → ∃ m ∈ may (s ++ [q]), ∃ t, aft (s ++ [q]) m = t ++ [q] ∧ t.length = s.length ∧ rn t = rn s + 1 := fun hu => by
    obtain ⟨m, hm, e⟩ := ih.h.1 hu
    exact ⟨m, (low m hm).1, aft s m, (low m hm).2, aft_len s m, e⟩
  have dn0 : 0 < rn s → ∃ m ∈ may (s ++ [q]), ∃ t, aft (s ++ [q]) m = t ++ [q] ∧ t.length = s.length ∧ rn t + 1 = rn s := fun hu => by
    obtain ⟨m, hm, e⟩ := ih.h.2 hu
    exact ⟨m, (low m hm).1, aft s m, (low m hm).2, aft_len s m, e⟩
  have up := Hid.mk up0
  have dn := Hid.mk dn0
  clear up0 dn0
  rcases pg3 q with rfl | rfl | rfl
  · constructor
    · intro hu
      by_cases hx : rn s + 1 < 3 ^ s.length
      · obtain ⟨m, hm, t, e1, e2, e3⟩ := up.h hx
        have ht := rn_cases t
        exact ⟨m, hm, by rw [e1]; omega⟩
      · obtain ⟨h1, h2⟩ := top 1 (by decide) (he.2.mp (by omega))
        exact ⟨_, h1, by rw [h2]; omega⟩
    · intro hu
      obtain ⟨m, hm, t, e1, e2, e3⟩ := dn.h (by omega)
      have ht := rn_cases t
      exact ⟨m, hm, by rw [e1]; omega⟩
  · constructor
    · intro hu
      by_cases hx : 0 < rn s
      · obtain ⟨m, hm, t, e1, e2, e3⟩ := dn.h hx
        have ht := rn_cases t
        rw [e2] at ht
        exact ⟨m, hm, by rw [e1]; omega⟩
      · obtain ⟨h1, h2⟩ := top 2 (by decide) (he.1.mp (by omega))
        exact ⟨_, h1, by rw [h2]; omega⟩
    · intro hu
      by_cases hx : rn s + 1 < 3 ^ s.length
      · obtain ⟨m, hm, t, e1, e2, e3⟩ := up.h hx
        have ht := rn_cases t
        rw [e2] at ht
        exact ⟨m, hm, by rw [e1]; omega⟩
      · obtain ⟨h1, h2⟩ := top 0 (by decide) (he.2.mp (by omega))
        exact ⟨_, h1, by rw [h2]; omega⟩
  · constructor
    · intro hu
      obtain ⟨m, hm, t, e1, e2, e3⟩ := up.h (by omega)
      have ht := rn_cases t
      rw [e2] at ht
      exact ⟨m, hm, by rw [e1]; omega⟩
    · intro hu
      by_cases hx : 0 < rn s
      · obtain ⟨m, hm, t, e1, e2, e3⟩ := dn.h hx
        have ht := rn_cases t
        rw [e2] at ht
        exact ⟨m, hm, by rw [e1]; omega⟩
      · obtain ⟨h1, h2⟩ := top 1 (by decide) (he.1.mp (by omega))
        exact ⟨_, h1, by rw [h2]; omega⟩
theorem near_ge : ∀ (d : Nat) (s t : List Pg), s.length = t.length → rn s + d = rn t → Fr s t ≤ d
  | 0, s, t, hl, h => by
    have := rn_inj s t hl (by omega)
    subst this
    rw [(Fr_zero rfl).mpr rfl]
    exact Nat.le_refl _
  | d + 1, s, t, hl, h => by
    have h1 := rn_lt t
    obtain ⟨m, hm, e⟩ := (rn_near s).1 (by rw [hl]; omega)
    have h2 := near_ge d (aft s m) t (by rw [aft_len]; exact hl) (by omega)
    have h3 := (Fr_step s t hl m hm).2
    omega
/-! ### the triangle -/
theorem triangle : ∀ (d : Nat) (s u t : List Pg), s.length = u.length → u.length = t.length → Fr s u = d → Fr s t ≤ d + Fr u t
  | 0, s, u, t, h1, h2, e => by
    have := (Fr_zero h1).mp e
    subst this
    omega
  | d + 1, s, u, t, h1, h2, e => by
    have hne : s ≠ u := fun z => by
      rw [(Fr_zero h1).mpr z] at e
      cases e
    obtain ⟨m, _, hm, hf⟩ := next_near s u h1 hne
    have ih := triangle d (aft s m) u t (by rw [aft_len]; exact h1) h2 (by omega)
    have h3 := (Fr_step s t (h1.trans h2) m hm).2
    omega
/-! ### the pegs called otherwise -/
section
variable {f : Pg → Pg} (hf : ∀ a b, f a = f b → a = b)
include hf
theorem thd_map {a b : Pg} (h : a ≠ b) : thd (f a) (f b) = f (thd a b) := by
  have n1 := thd_ne a b h
  rcases pg_cases (f a) (f b) (f (thd a b)) (fun z => h (hf _ _ z)) with z | z | z
  · exact absurd (hf _ _ z) n1.1
  · exact absurd (hf _ _ z) n1.2
  · exact z.symm
theorem toP_map : ∀ (r : List Pg) (p : Pg), toP (r.map f) (f p) = toP r p
  | [], _ => rfl
  | q :: r, p => by
    rw [List.map_cons, toP, toP, List.length_map]
    by_cases e : q = p
    · rw [if_pos e, if_pos (congrArg f e), toP_map r p]
    · rw [if_neg e, if_neg (fun z => e (hf _ _ z)), thd_map hf e, toP_map r _]
theorem firstTo_map : ∀ (r : List Pg) (p : Pg), firstTo (r.map f) (f p) = (firstTo r p).map fun m => (m.1, f m.2)
  | [], _ => rfl
  | q :: r, p => by
    rw [List.map_cons, firstTo, firstTo, List.length_map]
    by_cases e : q = p
    · rw [if_pos e, if_pos (congrArg f e), firstTo_map r p]
    · rw [if_neg e, if_neg (fun z => e (hf _ _ z)), thd_map hf e, firstTo_map r _]
      cases firstTo r (thd q p) <;> rfl
theorem gu_map : ∀ r s : List Pg, gu (r.map f) (s.map f) = gu r s
  | [], [] => rfl
  | [], _ :: _ => rfl
  | _ :: _, [] => rfl
  | a :: r, b :: s => by
    rw [List.map_cons, List.map_cons, gu, gu, List.length_map]
    by_cases e : a = b
    · rw [if_pos e, if_pos (congrArg f e), gu_map r s]
    · rw [if_neg e, if_neg (fun z => e (hf _ _ z))]
theorem once_map : ∀ r s : List Pg, once (r.map f) (s.map f) = once r s
  | [], [] => rfl
  | [], _ :: _ => rfl
  | _ :: _, [] => rfl
  | a :: r, b :: s => by
    rw [List.map_cons, List.map_cons, once, once]
    by_cases e : a = b
    · rw [if_pos e, if_pos (congrArg f e), once_map r s]
    · rw [if_neg e, if_neg (fun z => e (hf _ _ z)), thd_map hf e, toP_map hf, toP_map hf]
theorem twice_map : ∀ r s : List Pg, twice (r.map f) (s.map f) = twice r s
  | [], [] => rfl
  | [], _ :: _ => rfl
  | _ :: _, [] => rfl
  | a :: r, b :: s => by
    rw [List.map_cons, List.map_cons, twice, twice, List.length_map]
    by_cases e : a = b
    · rw [if_pos e, if_pos (congrArg f e), twice_map r s]
    · rw [if_neg e, if_neg (fun z => e (hf _ _ z)), toP_map hf, toP_map hf]
theorem map_inj0 : ∀ s t : List Pg, s.map f = t.map f → s = t
  | [], [], _ => rfl
  | [], _ :: _, h => by cases h
  | _ :: _, [], h => by cases h
  | a :: s, b :: t, h => by
    rw [List.map_cons, List.map_cons, List.cons.injEq] at h
    rw [hf _ _ h.1, map_inj0 s t h.2]
theorem map_inj {s t : List Pg} : s.map f = t.map f ↔ s = t := ⟨map_inj0 hf s t, fun h => by rw [h]⟩
theorem Fr_map (s t : List Pg) : Fr (s.map f) (t.map f) = Fr s t := by
  unfold Fr far
  rw [← List.map_reverse, ← List.map_reverse, once_map hf, twice_map hf]
theorem Mn_map (s t : List Pg) : Mn (s.map f) (t.map f) = Mn s t := by
  have e : (s.map f ≠ t.map f) = (s ≠ t) := propext ⟨fun h z => h (by rw [z]), fun h z => h ((map_inj hf).mp z)⟩
  rw [Mn_eq, Mn_eq]
  unfold On Tw
  rw [← List.map_reverse, ← List.map_reverse, once_map hf, twice_map hf]
  simp only [e]
theorem nextM_map : ∀ r s : List Pg, nextM (r.map f) (s.map f) = (nextM r s).map fun m => (m.1, f m.2)
  | [], [] => rfl
  | [], _ :: _ => rfl
  | _ :: _, [] => rfl
  | a :: r, b :: s => by
    have h1 := once_map hf (a :: r) (b :: s)
    have h2 := twice_map hf (a :: r) (b :: s)
    rw [List.map_cons, List.map_cons] at h1 h2
    rw [List.map_cons, List.map_cons, nextM, nextM, h1, h2, List.length_map]
    by_cases e : a = b
    · rw [if_pos e, if_pos (congrArg f e), nextM_map r s]
    · rw [if_neg e, if_neg (fun z => e (hf _ _ z)), thd_map hf e, firstTo_map hf, firstTo_map hf]
      by_cases le : once (a :: r) (b :: s) ≤ twice (a :: r) (b :: s)
      · rw [if_pos le, if_pos le]
        cases firstTo r (thd a b) <;> rfl
      · rw [if_neg le, if_neg le]
        cases firstTo r b <;> rfl
theorem atR_map : ∀ (n : Nat) (b e : Pg) (k : Nat), b ≠ e → (atR n b e k).map f = atR n (f b) (f e) k
  | 0, _, _, _, _ => rfl
  | n + 1, b, e, k, h => by
    have n1 := thd_ne b e h
    rw [atR, atR, thd_map hf h]
    by_cases hk : k < 2 ^ n
    · rw [if_pos hk, if_pos hk, List.map_append, atR_map n b (thd b e) k (Ne.symm n1.1)]
      rfl
    · rw [if_neg hk, if_neg hk, List.map_append, atR_map n (thd b e) e _ n1.2]
      rfl
end
/-! ### the ways -/
abbrev St3 := Nat × Pg × Pg
def stF : Nat → List Pg → Pg → Nat → List St3
  | 0, _, _, _ => []
  | k + 1, s, p, n => match firstG s p n with
    | none => []
    | some m => (m.1, s.getD m.1 0, m.2) :: stF k (s.set m.1 m.2) p n
def stepsTo (s : List Pg) (p : Pg) (n : Nat) : List St3 := stF (toPg s p n) s p n
def turn3 (x : St3) : St3 := (x.1, x.2.2, x.2.1)
def stepsFrom (s : List Pg) (p : Pg) (n : Nat) : List St3 := (stepsTo s p n).reverse.map turn3
theorem stF_len : ∀ (k : Nat) (s : List Pg) (p : Pg) (n : Nat), (stF k s p n).length ≤ k
  | 0, _, _, _ => Nat.le_refl _
  | k + 1, s, p, n => by
    rw [stF]
    cases firstG s p n with
    | none => exact Nat.zero_le _
    | some m => exact Nat.succ_le_succ (stF_len k _ p n)
theorem first_step {s : List Pg} {p : Pg} {n : Nat} {m : Nat × Pg} (hn : n ≤ s.length) (h : firstG s p n = some m) : m.1 < n ∧ toPg (s.set m.1 m.2) p n + 1 = toPg s p n := by
  unfold firstG at h
  obtain ⟨h1, h2⟩ := first_mem h
  have hl := may_len h1
  rw [List.length_take] at hl
  refine ⟨by omega, ?_⟩
  unfold toPg
  rw [List.take_set]
  exact h2
theorem first_none {s : List Pg} {p : Pg} {n : Nat} (h : firstG s p n = none) : toPg s p n = 0 := by
  unfold firstG at h
  have := (firstTo_none _ _).mp h
  unfold toPg
  exact (toP_zero _ _).mpr this
theorem steps_more {s : List Pg} {p : Pg} {n : Nat} {m : Nat × Pg} (hn : n ≤ s.length) (h : firstG s p n = some m) : stepsTo s p n = (m.1, s.getD m.1 0, m.2) :: stepsTo (s.set m.1 m.2) p n := by
  obtain ⟨_, e⟩ := first_step hn h
  unfold stepsTo
  rw [← e, stF, h]
theorem steps_none {s : List Pg} {p : Pg} {n : Nat} (h : firstG s p n = none) : stepsTo s p n = [] := by
  unfold stepsTo
  rw [first_none h]
  rfl
def onceW (s t : List Pg) (m : Nat) (a b : Pg) : List St3 := stepsTo s (thd a b) m ++ [(m, a, b)] ++ stepsFrom t (thd a b) m
def twiceW (s t : List Pg) (m : Nat) (a b : Pg) : List St3 := (stepsTo s b m ++ [(m, a, thd a b)]) ++ stepsTo (List.replicate m b) a m ++ [(m, thd a b, b)] ++ stepsFrom t a m
theorem stepsTo_len (s : List Pg) (p : Pg) (n : Nat) : (stepsTo s p n).length ≤ toPg s p n := stF_len _ _ _ _
theorem stepsFrom_len (s : List Pg) (p : Pg) (n : Nat) : (stepsFrom s p n).length ≤ toPg s p n := by
  unfold stepsFrom
  rw [List.length_map, List.length_reverse]
  exact stepsTo_len s p n
theorem onceW_len (s t : List Pg) (m : Nat) (a b : Pg) : (onceW s t m a b).length ≤ toPg s (thd a b) m + 1 + toPg t (thd a b) m := by
  have h1 := stepsTo_len s (thd a b) m
  have h2 := stepsFrom_len t (thd a b) m
  unfold onceW
  simp only [List.length_append, List.length_cons, List.length_nil]
  omega
theorem rep_toPg (m : Nat) (a b : Pg) : toPg (List.replicate m b) a m < 2 ^ m := by
  unfold toPg
  have := toP_lt (List.take m (List.replicate m b)).reverse a
  rwa [List.length_reverse, List.length_take, List.length_replicate, Nat.min_self] at this
theorem twiceW_len (s t : List Pg) (m : Nat) (a b : Pg) : (twiceW s t m a b).length ≤ toPg s b m + 2 ^ m + 1 + toPg t a m := by
  have h1 := stepsTo_len s b m
  have h2 := stepsFrom_len t a m
  have h3 := stepsTo_len (List.replicate m b) a m
  have h4 := rep_toPg m a b
  unfold twiceW
  simp only [List.length_append, List.length_cons, List.length_nil]
  omega
def out3 (x : St3) : Nat × Pg := (x.1, x.2.2)
def waysF (s t : List Pg) : List (List (Nat × Pg)) := match gu s.reverse t.reverse with
  | none => [[]]
  | some m => (((if once s.reverse t.reverse ≤ twice s.reverse t.reverse then [onceW s t m (s.getD m 0) (t.getD m 0)] else []) ++ (if twice s.reverse t.reverse ≤ once s.reverse t.reverse then [twiceW s t m (s.getD m 0) (t.getD m 0)] else [])).map fun w => w.map out3)
theorem waysF_len (s t : List Pg) : (waysF s t).length ≤ 2 := by
  unfold waysF
  split
  · decide
  · rw [List.length_map, List.length_append]
    split <;> split <;> simp
theorem waysF_lens {s t : List Pg} (hl : t.length = s.length) (h : Fr s t ≤ 3000) : ∀ w ∈ waysF s t, w.length ≤ 50000 := by
  intro w hw
  unfold waysF at hw
  cases hg : gu s.reverse t.reverse with
  | none =>
    rw [hg] at hw
    rw [List.mem_singleton.mp hw]
    decide
  | some m =>
    obtain ⟨h1, h2, hne, e1, e2⟩ := gu_some hl hg
    have g1 : s.getD m 0 = s[m] := by rw [List.getD_eq_getElem?_getD, List.getElem?_eq_getElem h1]; rfl
    have g2 : t.getD m 0 = t[m] := by rw [List.getD_eq_getElem?_getD, List.getElem?_eq_getElem h2]; rfl
    rw [hg] at hw
    dsimp only at hw
    rw [g1, g2] at hw
    have hfr : min (once s.reverse t.reverse) (twice s.reverse t.reverse) ≤ 3000 := h
    have o1 := onceW_len s t m s[m] t[m]
    have o2 := twiceW_len s t m s[m] t[m]
    obtain ⟨x, hx, rfl⟩ := List.mem_map.mp hw
    rw [List.length_map]
    rcases List.mem_append.mp hx with hx | hx
    · by_cases hle : once s.reverse t.reverse ≤ twice s.reverse t.reverse
      · rw [if_pos hle, List.mem_singleton] at hx
        subst hx
        omega
      · rw [if_neg hle] at hx
        cases hx
    · by_cases hle : twice s.reverse t.reverse ≤ once s.reverse t.reverse
      · rw [if_pos hle, List.mem_singleton] at hx
        subst hx
        omega
      · rw [if_neg hle] at hx
        cases hx
section
variable {f : Pg → Pg} (hf : ∀ a b, f a = f b → a = b)
include hf
def map3 (f : Pg → Pg) (x : St3) : St3 := (x.1, f x.2.1, f x.2.2)
theorem stF_map : ∀ (k : Nat) (s : List Pg) (p : Pg) (n : Nat), n ≤ s.length → stF k (s.map f) (f p) n = (stF k s p n).map (map3 f)
  | 0, _, _, _, _ => rfl
  | k + 1, s, p, n, hn => by
    have h : firstG (s.map f) (f p) n = (firstG s p n).map fun m => (m.1, f m.2) := by
      unfold firstG
      rw [← List.map_take, ← List.map_reverse, firstTo_map hf]
    rw [stF, stF, h]
    cases hm : firstG s p n with
    | none => rfl
    | some m =>
      have hl := (first_step hn hm).1
      show ((m.1, (s.map f).getD m.1 0, f m.2) : St3) :: stF k ((s.map f).set m.1 (f m.2)) (f p) n = (map3 f (m.1, s.getD m.1 0, m.2)) :: (stF k (s.set m.1 m.2) p n).map (map3 f)
      rw [← List.map_set, stF_map k _ p n (by rw [List.length_set]; exact hn)]
      congr 1
      unfold map3
      rw [List.getD_eq_getElem?_getD, List.getD_eq_getElem?_getD, List.getElem?_map, List.getElem?_eq_getElem (show m.1 < s.length by omega)]
      rfl
theorem toPg_map (s : List Pg) (p : Pg) (n : Nat) : toPg (s.map f) (f p) n = toPg s p n := by
  unfold toPg
  rw [← List.map_take, ← List.map_reverse, toP_map hf]
theorem stepsTo_map (s : List Pg) (p : Pg) (n : Nat) (hn : n ≤ s.length) : stepsTo (s.map f) (f p) n = (stepsTo s p n).map (map3 f) := by
  unfold stepsTo
  rw [toPg_map hf, stF_map hf _ _ _ _ hn]
theorem stepsFrom_map (s : List Pg) (p : Pg) (n : Nat) (hn : n ≤ s.length) : stepsFrom (s.map f) (f p) n = (stepsFrom s p n).map (map3 f) := by
  unfold stepsFrom
  rw [stepsTo_map hf _ _ _ hn, List.map_map, ← List.map_reverse, List.map_map]
  rfl
theorem waysF_map (s t : List Pg) (hl : t.length = s.length) : waysF (s.map f) (t.map f) = (waysF s t).map fun w => w.map fun m => (m.1, f m.2) := by
  unfold waysF
  rw [← List.map_reverse, ← List.map_reverse, gu_map hf, once_map hf, twice_map hf]
  cases hg : gu s.reverse t.reverse with
  | none => rfl
  | some m =>
    obtain ⟨h1, h2, hne, _, _⟩ := gu_some hl hg
    have g1 : s.getD m 0 = s[m] := by rw [List.getD_eq_getElem?_getD, List.getElem?_eq_getElem h1]; rfl
    have g2 : t.getD m 0 = t[m] := by rw [List.getD_eq_getElem?_getD, List.getElem?_eq_getElem h2]; rfl
    have g3 : (s.map f).getD m 0 = f s[m] := by rw [List.getD_eq_getElem?_getD, List.getElem?_map, List.getElem?_eq_getElem h1]; rfl
    have g4 : (t.map f).getD m 0 = f t[m] := by rw [List.getD_eq_getElem?_getD, List.getElem?_map, List.getElem?_eq_getElem h2]; rfl
    have a1 : onceW (s.map f) (t.map f) m (f s[m]) (f t[m]) = (onceW s t m s[m] t[m]).map (map3 f) := by
      unfold onceW
      rw [thd_map hf hne, stepsTo_map hf _ _ _ (by omega), stepsFrom_map hf _ _ _ (by omega), List.map_append, List.map_append]
      rfl
    have a2 : twiceW (s.map f) (t.map f) m (f s[m]) (f t[m]) = (twiceW s t m s[m] t[m]).map (map3 f) := by
      have r : List.replicate m (f t[m]) = (List.replicate m t[m]).map f := by rw [List.map_replicate]
      unfold twiceW
      rw [thd_map hf hne, r, stepsTo_map hf _ _ _ (by omega), stepsFrom_map hf _ _ _ (by omega), stepsTo_map hf _ _ _ (by rw [List.length_replicate]; exact Nat.le_refl _), List.map_append, List.map_append, List.map_append, List.map_append]
      rfl
    dsimp only
    rw [g1, g2, g3, g4, a1, a2, List.map_map]
    have k : ∀ w : List St3, (w.map (map3 f)).map out3 = (w.map out3).map fun m => (m.1, f m.2) := fun w => by
      rw [List.map_map, List.map_map]
      rfl
    split <;> split <;> simp [k]
end
end Peg

namespace Pd
open PySem PySem.Spec PyProof.Rows L2 Peg
abbrev dP (p : Pg) : PyData := .int ((p.val : Nat) : Int)
abbrev dS (s : List Pg) : PyData := .tuple (s.map dP)
abbrev dN (n : Nat) : PyData := .int (n : Int)
abbrev dPr (p : Int × Int) : PyData := .tuple [.int p.1, .int p.2]
abbrev dM (m : Nat × Pg) : PyData := .tuple [dN m.1, dP m.2]
abbrev dMs (ms : List (Nat × Pg)) : PyData := .list (ms.map dM)
def isAmong : PyData → Int → Int → Bool
  | .int i, lo, hi => decide (lo ≤ i) && decide (i ≤ hi)
  | _, _, _ => false
def isIntB : PyData → Bool
  | .int _ => true
  | .bool _ => true
  | _ => false
def isBoolB : PyData → Bool
  | .bool _ => true
  | _ => false
def isTupB : PyData → Bool
  | .tuple _ => true
  | _ => false
def isLstB : PyData → Bool
  | .list _ => true
  | _ => false
theorem kit_int : ∀ d : PyData, kitB (tyD d) "int" = some (isIntB d)
  | .none => (by decide +kernel : kitB "NoneType" "int" = some false)
  | .bool _ => (by decide +kernel : kitB "bool" "int" = some true)
  | .int _ => (by decide +kernel : kitB "int" "int" = some true)
  | .str _ => (by decide +kernel : kitB "str" "int" = some false)
  | .list _ => (by decide +kernel : kitB "list" "int" = some false)
  | .tuple _ => (by decide +kernel : kitB "tuple" "int" = some false)
  | .dict _ => (by decide +kernel : kitB "dict" "int" = some false)
theorem kit_bool : ∀ d : PyData, kitB (tyD d) "bool" = some (isBoolB d)
  | .none => (by decide +kernel : kitB "NoneType" "bool" = some false)
  | .bool _ => (by decide +kernel : kitB "bool" "bool" = some true)
  | .int _ => (by decide +kernel : kitB "int" "bool" = some false)
  | .str _ => (by decide +kernel : kitB "str" "bool" = some false)
  | .list _ => (by decide +kernel : kitB "list" "bool" = some false)
  | .tuple _ => (by decide +kernel : kitB "tuple" "bool" = some false)
  | .dict _ => (by decide +kernel : kitB "dict" "bool" = some false)
theorem kit_tup : ∀ d : PyData, kitB (tyD d) "tuple" = some (isTupB d)
  | .none => (by decide +kernel : kitB "NoneType" "tuple" = some false)
  | .bool _ => (by decide +kernel : kitB "bool" "tuple" = some false)
  | .int _ => (by decide +kernel : kitB "int" "tuple" = some false)
  | .str _ => (by decide +kernel : kitB "str" "tuple" = some false)
  | .list _ => (by decide +kernel : kitB "list" "tuple" = some false)
  | .tuple _ => (by decide +kernel : kitB "tuple" "tuple" = some true)
  | .dict _ => (by decide +kernel : kitB "dict" "tuple" = some false)
theorem kit_lst : ∀ d : PyData, kitB (tyD d) "list" = some (isLstB d)
  | .none => (by decide +kernel : kitB "NoneType" "list" = some false)
  | .bool _ => (by decide +kernel : kitB "bool" "list" = some false)
  | .int _ => (by decide +kernel : kitB "int" "list" = some false)
  | .str _ => (by decide +kernel : kitB "str" "list" = some false)
  | .list _ => (by decide +kernel : kitB "list" "list" = some true)
  | .tuple _ => (by decide +kernel : kitB "tuple" "list" = some false)
  | .dict _ => (by decide +kernel : kitB "dict" "list" = some false)
theorem at_pg {s : List Pg} {m : Nat} (h : m < s.length) : atI (s.map dP) ((m : Nat) : Int) = some (dP s[m]) := atI_nat (by rw [List.getElem?_map, List.getElem?_eq_getElem h]; rfl)
theorem pg_ne {a b : Pg} : (((a.val : Nat) : Int) = ((b.val : Nat) : Int)) ↔ a = b := ⟨fun h => Fin.ext (by omega), fun h => by rw [h]⟩
theorem shl_nat {a m : Nat} : ((a : Int) + 1 * 2 ^ ((m : Int)).toNat) = ((a + 2 ^ m : Nat) : Int) := by simp
/-- None, or a number -/
def dNo : Option Nat → PyData
  | some n => dN n
  | none => .none
def isSetD : PyData → Bool
  | .tuple ds => decide (ds.length ≤ 60) && ds.all fun d => isAmong d 0 2
  | _ => false
def okD : PyData → Bool
  | .tuple ds => decide (ds.length < 100000) && ds.all plainD
  | d => plainD d
theorem okD_plain : ∀ {d : PyData}, okD d = true → plainD d = true
  | .none, _ | .bool _, _ | .int _, _ | .str _, _ | .list _, _ | .tuple _, _ => rfl
  | .dict _, h => h
theorem okD_tup {ds : List PyData} (h : okD (.tuple ds) = true) : ds.length < 100000 ∧ ∀ d ∈ ds, plainD d = true := by
  have h' := Bool.and_eq_true_iff.mp (show (decide (ds.length < 100000) && ds.all plainD) = true from h)
  exact ⟨of_decide_eq_true h'.1, List.all_eq_true.mp h'.2⟩
theorem kept_all {ds : List PyData} {r : PyData → PyData} : kept ds (fun _ => true) r = ds.map r := by
  unfold kept
  rw [List.filter_eq_self.mpr fun _ _ => rfl]
theorem kept_bools {ds : List PyData} : kept ds (fun _ => true) (fun d => .bool (isAmong d 0 2)) = (ds.map fun d => isAmong d 0 2).map PyData.bool := by
  rw [kept_all, List.map_map]
  rfl
theorem isSet_tup {ds : List PyData} : Rs.val (.bool (isTupB (.tuple ds) && (decide ((ds.length : Int) ≤ 60) && (ds.map fun d => isAmong d 0 2).all id))) = Rs.val (.bool (isSetD (.tuple ds))) := by
  have e1 : decide ((ds.length : Int) ≤ 60) = decide (ds.length ≤ 60) := by
    by_cases h : ds.length ≤ 60
    · rw [decide_eq_true h, decide_eq_true (by omega)]
    · rw [decide_eq_false h, decide_eq_false (by omega)]
  have e2 : (ds.map fun d => isAmong d 0 2).all id = ds.all fun d => isAmong d 0 2 := by
    rw [List.all_map]
    rfl
  rw [e1, e2]
  rfl
theorem isAmong_dP (p : Pg) : isAmong (dP p) 0 2 = true := by
  have h := p.isLt
  show (decide ((0 : Int) ≤ ((p.val : Nat) : Int)) && decide (((p.val : Nat) : Int) ≤ 2)) = true
  rw [decide_eq_true (by omega), decide_eq_true (by omega)]
  rfl
theorem isSetD_dS {s : List Pg} (h : s.length ≤ 60) : isSetD (dS s) = true := by
  show (decide ((s.map dP).length ≤ 60) && (s.map dP).all fun d => isAmong d 0 2) = true
  rw [List.length_map, decide_eq_true h, Bool.true_and, List.all_map, List.all_eq_true]
  exact fun p _ => isAmong_dP p
theorem okD_dS {s : List Pg} (h : s.length ≤ 60) : okD (dS s) = true := by
  show (decide ((s.map dP).length < 100000) && (s.map dP).all plainD) = true
  rw [List.length_map, decide_eq_true (by omega), Bool.true_and, List.all_map, List.all_eq_true]
  exact fun p _ => rfl
/-- None, or a move -/
def dMo : Option (Nat × Pg) → PyData
  | some m => dM m
  | none => .none
/-- what choices tells, the greatest disc ahead -/
def dCho (r s : List Pg) : PyData := match gu r s with
  | some m => .tuple [dN m, dN (once r s), dN (twice r s)]
  | none => .none
theorem ev_ifN {K : PySem.W.Frag} {c : Cc} {δ : DEnv} {tt : TT} {ta tb : TE} {o : Option (Nat × Pg)} {m : Nat × Pg} (h : EvT K c tt δ (isNon (dMo o))) (h1 : EvD K c ta δ (dM m)) (h2 : EvD K c tb δ (dMo o)) : EvD K c (tIf tt ta tb) δ (dMo (o.or (some m))) := by
  cases o with
  | none => exact ev_if h (fun _ => h1) (fun z => by cases z)
  | some m' => exact ev_if h (fun z => by cases z) (fun _ => h2)
/-! ### the law's draws -/
def cellH (ns : List Int) (k : Nat) : Int := if ns = [] then 5 else ns.getD ((k : Int) % (ns.length : Int)).toNat 0
theorem cellH_at {ns : List Int} {k : Nat} (h : ns ≠ []) : atI ns ((k : Int) % (ns.length : Int)) = some (cellH ns k) := by
  have hp := List.length_pos_iff.mpr h
  have h0 : 0 ≤ (k : Int) % (ns.length : Int) := Int.emod_nonneg _ (by omega)
  have h1 : (k : Int) % (ns.length : Int) < ns.length := Int.emod_lt_of_pos _ (by omega)
  obtain ⟨m, hm⟩ : ∃ m : Nat, (k : Int) % (ns.length : Int) = (m : Int) := ⟨((k : Int) % (ns.length : Int)).toNat, by omega⟩
  rw [cellH, if_neg h, hm]
  have hml : m < ns.length := by omega
  refine atI_nat ?_
  rw [Int.toNat_natCast, List.getD_eq_getElem?_getD, List.getElem?_eq_getElem hml]
  rfl
def cellI (ns : List Int) (k : Nat) : Int := ((cellH ns k % 2147483629 * 48271 + ((k : Int) + 3) * ((k : Int) + 3) * 40692) % 2147483647 * 16807 + 31 * (k : Int)) % 2147483629 / 3
def cellF (ns : List Int) (k : Nat) : Nat := (cellI ns k).toNat
theorem cellF_eq {ns : List Int} {k : Nat} : ((cellF ns k : Nat) : Int) = ((cellH ns k % 2147483629 * 48271 + ((k : Int) + 3) * ((k : Int) + 3) * 40692) % 2147483647 * 16807 + 31 * (k : Int)) % 2147483629 / 3 := by
  have h : 0 ≤ cellI ns k := by
    unfold cellI
    omega
  rw [cellF, Int.toNat_of_nonneg h]
  rfl
def greatG (k : Nat) (ns : List Int) : Int := ns.foldl (fun f x => (f * 1000003 + x % 10 ^ (40 : Int).toNat + 69621 * (k : Int)) % 10 ^ (40 : Int).toNat) (7 + 48271 * (k : Int))
theorem greatG_more {ns : List Int} {k i : Nat} {n : Int} (h : ns[i]? = some n) : greatG k (ns.take (i + 1)) = (greatG k (ns.take i) * 1000003 + n % 10 ^ (40 : Int).toNat + 69621 * (k : Int)) % 10 ^ (40 : Int).toNat := by
  unfold greatG
  rw [List.take_add_one, h, Option.toList_some, List.foldl_append]
  rfl
theorem greatG_pos (k : Nat) : ∀ (l : List Int) (a : Int), 0 ≤ a → 0 ≤ l.foldl (fun f x => (f * 1000003 + x % 10 ^ (40 : Int).toNat + 69621 * (k : Int)) % 10 ^ (40 : Int).toNat) a
  | [], a, h => h
  | x :: l, a, h => greatG_pos k l _ (Int.emod_nonneg _ (by decide))
def greatF (ns : List Int) (k : Nat) : Nat := (greatG k ns).toNat
theorem greatF_eq {ns : List Int} {k : Nat} : ((greatF ns k : Nat) : Int) = greatG k ns := by
  have h : 0 ≤ greatG k ns := greatG_pos k ns _ (by omega)
  rw [greatF, Int.toNat_of_nonneg h]
/-! ### the law's moves -/
theorem cut_to' {ds : List PyData} {k : Nat} : cutD ds none (some (k : Int)) = ds.take k := by
  unfold cutD
  rw [HT.sIx_none, HT.sIx_nat, List.drop_zero, Nat.sub_zero]
  by_cases h : k ≤ ds.length
  · rw [Nat.min_eq_left h]
  · rw [Nat.min_eq_right (by omega), List.take_length, List.take_of_length_le (by omega)]
def snd2 : PyData → PyData
  | .tuple [_, y] => y
  | _ => .none
def fst2 : PyData → PyData
  | .tuple [x, _] => x
  | _ => .none
def eqI : PyData → PyData → Bool
  | .int i, .int j => decide (i = j)
  | _, _ => false
def tp (s : List Pg) (p : Pg) : List PyData := (top s p).toList.map dN
theorem kept_top {s : List Pg} {p : Pg} : (kept (dEnum (s.map dP)) (fun d => eqI (snd2 d) (dP p)) fst2).take 1 = tp s p := by
  unfold kept dEnum tp top
  rw [List.length_map, List.filter_map, List.map_map, ← List.head?_filter, ← List.map_take]
  have e : (List.range s.length).filter ((fun d => eqI (snd2 d) (dP p)) ∘ fun (k : Nat) => PyData.tuple [.int (k : Int), (s.map dP).getD k .none]) = (List.range s.length).filter fun k => decide (s[k]? = some p) := by
    refine List.filter_congr fun k hk => ?_
    have hl := List.mem_range.mp hk
    show eqI ((s.map dP).getD k .none) (dP p) = _
    rw [List.getD_eq_getElem?_getD, List.getElem?_map, List.getElem?_eq_getElem hl]
    show decide (((s[k].val : Nat) : Int) = ((p.val : Nat) : Int)) = decide (some s[k] = some p)
    by_cases h : s[k] = p
    · rw [decide_eq_true (pg_ne.mpr h), decide_eq_true (by rw [h])]
    · rw [decide_eq_false (fun z => h (pg_ne.mp z)), decide_eq_false (fun z => h (Option.some.inj z))]
  rw [e]
  cases (List.range s.length).filter fun k => decide (s[k]? = some p) with
  | nil => rfl
  | cons a l => rfl
def pgD : PyData → Pg
  | .int i => pgN i.toNat
  | _ => 0
def dTops (s : List Pg) : PyData := .list [.list (tp s 0), .list (tp s 1), .list (tp s 2)]
theorem at_tops {s : List Pg} {k : Nat} (h : k < 3) : atI [PyData.list (tp s 0), .list (tp s 1), .list (tp s 2)] (k : Int) = some (.list (tp s (pgN k))) := by
  refine atI_nat ?_
  match k, h with
  | 0, _ => rfl
  | 1, _ => rfl
  | 2, _ => rfl
theorem tp_cases (s : List Pg) (p : Pg) : (tp s p = [] ∧ top s p = none) ∨ ∃ a, tp s p = [dN a] ∧ top s p = some a := by
  unfold tp
  cases h : top s p with
  | none => exact .inl ⟨rfl, rfl⟩
  | some a => exact .inr ⟨a, rfl, rfl⟩
theorem dMs_pr (ms : List (Nat × Pg)) : ms.map dM = (ms.map toPr).map dPr := by
  rw [List.map_map]
  rfl
theorem eqv_nil (ds : List PyData) : PyData.eqv (.list ds) (.list []) = ds.isEmpty := by
  cases ds with
  | nil => simp [PyData.eqv, PyData.eqvAll]
  | cons a l => simp [PyData.eqv, PyData.eqvAll]
theorem od_eqNil {K : PySem.W.Frag} {ds : List PyData} (h : SeqAt.shaped (.list ds) = true) : OpD K (rEqD K) (.list ds) (.list []) (.bool ds.isEmpty) := by
  have := od_eq (K := K) h (show SeqAt.shaped (.list []) = true from rfl)
  rwa [eqv_nil] at this
theorem od_neNil {K : PySem.W.Frag} {ds : List PyData} (h : SeqAt.shaped (.list ds) = true) : OpD K (rNeD K) (.list ds) (.list []) (.bool (!ds.isEmpty)) := by
  have := od_ne (K := K) h (show SeqAt.shaped (.list []) = true from rfl)
  rwa [eqv_nil] at this
theorem shp_one (n : Nat) : SeqAt.shaped (.list [dN n]) = true := shaped_ints [(n : Int)]
theorem pgN_val {k : Nat} (h : k < 3) : dP (pgN k) = dN k := by
  show PyData.int ((k % 3 : Nat) : Int) = _
  rw [Nat.mod_eq_of_lt h]
theorem dS_set {s : List Pg} {m : Nat} {p : Pg} (h : m < s.length) : Rs.val (.tuple ((s.map dP).take m ++ [dP p] ++ (s.map dP).drop (m + 1))) = Rs.val (dS (s.set m p)) := by
  unfold dS
  rw [List.map_set, List.set_eq_take_append_cons_drop, if_pos (by rw [List.length_map]; exact h), List.append_assoc]
  rfl
/-! ### settings, moves compared -/
theorem canLay_pgs : ∀ s : List Pg, PyData.canLayAll0 (s.map dP) = true
  | [] => rfl
  | n :: ns => by simp [PyData.canLayAll0, PyData.canLay0, canLay_pgs ns]
theorem depth_pgs : ∀ s : List Pg, PyData.depthAll (s.map dP) ≤ 1
  | [] => by simp [PyData.depthAll]
  | n :: ns => by
    have := depth_pgs ns
    simp only [List.map_cons, PyData.depthAll, PyData.depth]
    omega
theorem shp_dS (s : List Pg) : SeqAt.shaped (dS s) = true := by
  show (PyData.canLay0 (.tuple (s.map dP)) && decide (PyData.depth (.tuple (s.map dP)) ≤ 64)) = true
  have h := depth_pgs s
  rw [Bool.and_eq_true]
  refine ⟨?_, decide_eq_true ?_⟩
  · simp only [PyData.canLay0]
    exact canLay_pgs s
  · simp only [PyData.depth]
    omega
theorem eqv_pgs : ∀ s t : List Pg, PyData.eqvAll (s.map dP) (t.map dP) = decide (s = t)
  | [], [] => by simp [PyData.eqvAll]
  | [], b :: t => by simp [PyData.eqvAll]
  | a :: s, [] => by simp [PyData.eqvAll]
  | a :: s, b :: t => by
    simp only [List.map_cons, PyData.eqvAll, PyData.eqv, eqv_pgs s t]
    by_cases e : a = b
    · by_cases e2 : s = t <;> simp [e, e2]
    · have : ¬ ((a.val : Nat) : Int) = ((b.val : Nat) : Int) := fun z => e (pg_ne.mp z)
      simp [e, this]
theorem eqv_dS (s t : List Pg) : PyData.eqv (dS s) (dS t) = decide (s = t) := by
  simp only [PyData.eqv, eqv_pgs]
theorem od_eqS {K : PySem.W.Frag} {s t : List Pg} : OpD K (rEqD K) (dS s) (dS t) (.bool (decide (s = t))) := by
  have := od_eq (K := K) (shp_dS s) (shp_dS t)
  rwa [eqv_dS] at this
theorem od_neS' {K : PySem.W.Frag} {s t : List Pg} : OpD K (rNeD K) (dS s) (dS t) (.bool (!decide (s = t))) := by
  have := od_ne (K := K) (shp_dS s) (shp_dS t)
  rwa [eqv_dS] at this
theorem od_neB {K : PySem.W.Frag} {a b : Bool} : OpD K (rNeD K) (.bool a) (.bool b) (.bool (!decide (a = b))) := by
  have h := od_ne (K := K) (x := .bool a) (y := .bool b) rfl rfl
  rwa [show PyData.eqv (.bool a) (.bool b) = decide (a = b) by simp [PyData.eqv, Bool.beq_eq_decide_eq]] at h
theorem canLay_ms : ∀ s : List (Nat × Pg), PyData.canLayAll0 (s.map dM) = true
  | [] => rfl
  | n :: ns => by simp [PyData.canLayAll0, PyData.canLay0, canLay_ms ns]
theorem depth_ms : ∀ s : List (Nat × Pg), PyData.depthAll (s.map dM) ≤ 2
  | [] => by simp [PyData.depthAll]
  | n :: ns => by
    have := depth_ms ns
    simp only [List.map_cons, PyData.depthAll, PyData.depth]
    omega
theorem shp_ms (s : List (Nat × Pg)) : SeqAt.shaped (dMs s) = true := by
  show (PyData.canLay0 (.list (s.map dM)) && decide (PyData.depth (.list (s.map dM)) ≤ 64)) = true
  have h := depth_ms s
  rw [Bool.and_eq_true]
  refine ⟨?_, decide_eq_true ?_⟩
  · simp only [PyData.canLay0]
    exact canLay_ms s
  · simp only [PyData.depth]
    omega
theorem shp_dM (m : Nat × Pg) : SeqAt.shaped (dM m) = true := rfl
theorem eqv_dM (m n : Nat × Pg) : PyData.eqv (dM m) (dM n) = decide (m = n) := by
  obtain ⟨a, b⟩ := m
  obtain ⟨c, d⟩ := n
  simp only [PyData.eqv, PyData.eqvAll]
  by_cases e : a = c
  · by_cases e2 : b = d
    · simp [e, e2]
    · have : ¬ ((b.val : Nat) : Int) = ((d.val : Nat) : Int) := fun z => e2 (pg_ne.mp z)
      simp [e, e2]
      intro z
      omega
  · have : ¬ (a : Int) = (c : Int) := by omega
    simp [e]
    intro z
    omega
theorem eqv_mss : ∀ s t : List (Nat × Pg), PyData.eqvAll (s.map dM) (t.map dM) = decide (s = t)
  | [], [] => by simp [PyData.eqvAll]
  | [], b :: t => by simp [PyData.eqvAll]
  | a :: s, [] => by simp [PyData.eqvAll]
  | a :: s, b :: t => by
    have h1 := eqv_dM a b
    simp only [List.map_cons, PyData.eqvAll, eqv_mss s t, h1]
    by_cases e : a = b
    · by_cases e2 : s = t <;> simp [e, e2]
    · simp [e]
theorem eqv_dMs (s t : List (Nat × Pg)) : PyData.eqv (dMs s) (dMs t) = decide (s = t) := by
  simp only [PyData.eqv, eqv_mss]
theorem eqv_ms (s : List (Nat × Pg)) : PyData.eqv (.list (s.map dM)) (.list (s.map dM)) = true := by
  rw [eqv_dMs]
  exact decide_eq_true rfl
theorem L_zero (s : List Pg) (p : Pg) : toP s.reverse p = 0 ↔ s = List.replicate s.length p := by
  rw [toP_zero, List.length_reverse]
  constructor
  · intro h
    have := congrArg List.reverse h
    rwa [List.reverse_reverse, List.reverse_replicate] at this
  · intro h
    have := congrArg List.reverse h
    rwa [List.reverse_replicate] at this
def discsF (x : Nat) : Nat := if x / 64 % 2 = 0 then x % 9 else x % 61
theorem discs_at (x : Nat) : atI [PyData.int ((x : Int) % 9), .int ((x : Int) % 61)] ((x : Int) / 64 % 2) = some (dN (discsF x)) := by
  have e : (x : Int) / 64 % 2 = ((x / 64 % 2 : Nat) : Int) := by omega
  rw [e]
  refine atI_nat ?_
  unfold discsF
  have : x / 64 % 2 = 0 ∨ x / 64 % 2 = 1 := by omega
  rcases this with h | h
  · rw [h, if_pos rfl]
    rfl
  · rw [h, if_neg (by decide)]
    rfl
theorem discs_le (x : Nat) : discsF x ≤ 60 := by
  unfold discsF
  split <;> omega
theorem Le.refl (δ : DEnv) : Le δ δ := ⟨rfl, fun _ _ h => h⟩
theorem dmin {a b : Nat} : PyData.int (if (b : Int) < (a : Int) then (b : Int) else (a : Int)) = dN (min a b) := by
  split
  · rw [show min a b = b by omega]
  · rw [show min a b = a by omega]
theorem at_last {l : List Nat} {m : Nat} (h : l.getLast? = some m) : atI (l.map dN) (-1) = some (dN m) := by
  obtain ⟨ys, rfl⟩ := List.getLast?_eq_some_iff.mp h
  rw [List.map_append]
  exact atI_last _ _
def fU (s t : List Pg) : PyData → Bool
  | .int i => !decide (s[i.toNat]? = t[i.toNat]?)
  | _ => false
theorem kept_unl (s t : List Pg) : kept (dRange 0 s.length) (fU s t) id = (unl s t).map dN := by
  unfold kept dRange unl
  rw [List.filter_map, List.map_id]
  have e1 : (fun (k : Nat) => PyData.int (0 + (k : Int))) = dN := by
    funext k
    rw [Int.zero_add]
  rw [e1]
  congr 1
  refine List.filter_congr fun i _ => ?_
  show (!decide (s[((i : Nat) : Int).toNat]? = t[((i : Nat) : Int).toNat]?)) = _
  rw [Int.toNat_natCast]
  by_cases h : s[i]? = t[i]? <;> simp [h]
theorem eqv_three (a b c : Nat) : PyData.eqv (.tuple [dN a, dN b, dN c]) (.tuple [dN a, dN b, dN c]) = true := by simp [PyData.eqv, PyData.eqvAll]
theorem shp_dNs (l : List Nat) : SeqAt.shaped (.list (l.map dN)) = true := by
  have := shaped_ints (l.map fun k : Nat => (k : Int))
  rwa [List.map_map] at this
theorem any_ms {l : List (Nat × Pg)} {m : Nat × Pg} (h : m ∈ l) : ((l.map dM).any fun z => PyData.eqv z (dM m)) = true := by
  rw [List.any_map, List.any_eq_true]
  exact ⟨m, h, by
    show PyData.eqv (dM m) (dM m) = true
    rw [eqv_dM]
    exact decide_eq_true rfl⟩
theorem pgD_dP (p : Pg) : pgD (dP p) = p := by
  refine Fin.ext ?_
  show ((p.val : Nat) : Int).toNat % 3 = p.val
  have := p.isLt
  omega
def mvD : PyData → Nat × Pg
  | .tuple [.int a, .int b] => (a.toNat, pgN b.toNat)
  | _ => (0, 0)
theorem mvD_dM (m : Nat × Pg) : mvD (dM m) = m := by
  obtain ⟨a, p⟩ := m
  show ((a : Int).toNat, pgN ((p.val : Nat) : Int).toNat) = (a, p)
  rw [Int.toNat_natCast, show pgN ((p.val : Nat) : Int).toNat = p from pgD_dP p]
def setD : PyData → List Pg
  | .tuple ds => ds.map pgD
  | _ => []
theorem setD_dS (s : List Pg) : setD (dS s) = s := by
  show (s.map dP).map pgD = s
  rw [List.map_map]
  have : pgD ∘ dP = id := funext pgD_dP
  rw [this, List.map_id]
/-- the settings behind the moves -/
theorem kept_behind (s : List Pg) : kept ((may s).map dM) (fun _ => true) (fun d => dS (aft s (mvD d))) = ((may s).map (aft s)).map dS := by
  rw [kept_all, List.map_map, List.map_map]
  refine List.map_congr_left fun m _ => ?_
  show dS (aft s (mvD (dM m))) = dS (aft s m)
  rw [mvD_dM]
theorem kept_sets (l : List (List Pg)) (f : List Pg → Bool) : kept (l.map dS) (fun d => f (setD d)) id = (l.filter f).map dS := by
  unfold kept
  rw [List.filter_map, List.map_id]
  congr 1
  refine List.filter_congr fun x _ => ?_
  show f (setD (dS x)) = f x
  rw [setD_dS]
theorem kept_ints (l : List (List Pg)) (g : List Pg → Nat) : kept (l.map dS) (fun _ => true) (fun d => dN (g (setD d))) = (l.map fun x => ((g x : Nat) : Int)).map PyData.int := by
  rw [kept_all, List.map_map, List.map_map]
  refine List.map_congr_left fun x _ => ?_
  show dN (g (setD (dS x))) = dN (g x)
  rw [setD_dS]
theorem sum_nats (l : List (List Pg)) (g : List Pg → Nat) : (l.map fun x => ((g x : Nat) : Int)).sum = (((l.map g).sum : Nat) : Int) := by
  induction l with
  | nil => rfl
  | cons x l ih =>
    rw [List.map_cons, List.sum_cons, ih, List.map_cons, List.sum_cons]
    omega
theorem near_sum (s t : List Pg) (l : List (Nat × Pg)) : (((l.map (aft s)).filter fun x => decide (Peg.Fr x t + 1 = Peg.Fr s t)).map fun x => Mn x t).sum = (l.map (nearW s t)).sum := by
  induction l with
  | nil => rfl
  | cons m l ih =>
    rw [List.map_cons, List.filter_cons, List.map_cons, List.sum_cons, ← ih, nearW]
    by_cases h : Peg.Fr (aft s m) t + 1 = Peg.Fr s t
    · rw [if_pos (decide_eq_true h), if_pos h, List.map_cons, List.sum_cons]
    · rw [if_neg (by simpa using h), if_neg h, Nat.zero_add]
end Pd

namespace Pd
open PySem PySem.Spec PyProof.Rows L2 Peg
section
variable {K : PySem.W.Frag}
def keyP (H : Hp) : V → Int × Int
  | .ref t => match H t with
    | some (.tup [.int i, .int j]) => (i, j)
    | _ => (0, 0)
  | _ => (0, 0)
theorem rp_pr {G : Hp} {v : V} {p : Int × Int} (h : Rp K G v (dPr p)) : ∃ t, v = .ref t ∧ G t = some (.tup [.int p.1, .int p.2]) := by
  obtain ⟨a, xs, rfl, hp, r⟩ := h.tup_inv
  refine ⟨a, rfl, ?_⟩
  cases r with
  | cons h1 r =>
    cases r with
    | cons h2 r =>
      cases r
      rw [h1.int_inv, h2.int_inv] at hp
      exact hp
theorem keyP_of {G H : Hp} {v : V} {p : Int × Int} (e : Ex G H) (h : Rp K G v (dPr p)) : keyP H v = p := by
  obtain ⟨t, rfl, ht⟩ := rp_pr h
  unfold keyP
  simp only [e _ _ ht]
theorem rpAll_keys {G H : Hp} (e : Ex G H) : ∀ {xs : List V} {ps : List (Int × Int)}, RpAll K G xs (ps.map dPr) → xs.map (keyP H) = ps ∧ ∀ x ∈ xs, Rp K G x (dPr (keyP H x))
  | [], [], .nil => ⟨rfl, fun _ h => nomatch h⟩
  | x :: xs, p :: ps, .cons h r => by
    obtain ⟨a, b⟩ := rpAll_keys e (ps := ps) r
    have k := keyP_of e h
    refine ⟨by rw [List.map_cons, k, a], fun y hy => ?_⟩
    rcases List.mem_cons.mp hy with z | z
    · rw [z, k]
      exact h
    · exact b y z
theorem rpAll_of {G : Hp} {f : V → PyData} : ∀ {xs : List V}, (∀ x ∈ xs, Rp K G x (f x)) → RpAll K G xs (xs.map f)
  | [], _ => .nil
  | x :: xs, h => .cons (h x List.mem_cons_self) (rpAll_of fun y hy => h y (List.mem_cons_of_mem _ hy))
def lexLe (a b : Int × Int) : Prop := a.1 < b.1 ∨ a.1 = b.1 ∧ a.2 ≤ b.2
theorem cn_sortedP {ps qs : List (Int × Int)} (hq : ∀ l : List (Int × Int), l.Perm ps → l.Pairwise lexLe → l = qs) : CallN K (rSortedPO K) [.list (ps.map dPr)] (qs.map dPr) := fun G H vs e r Q q => by
  obtain ⟨v, rfl, hv⟩ := r.one
  obtain ⟨a, xs, rfl, hp, r1⟩ := hv.lst_inv
  obtain ⟨h1, h2⟩ := rpAll_keys e r1
  refine ⟨a, xs, keyP H, rfl, SqL.of (e _ _ hp), fun x hx => ?_, fun ys p hs hst hn => ?_⟩
  · obtain ⟨t, ht, hg⟩ := rp_pr (h2 x hx)
    exact ⟨t, ht, e _ _ hg⟩
  · have pm : ys.Perm xs := hst.perm
    have pk : (ys.map (keyP H)).Perm ps := by
      rw [← h1]
      exact pm.map _
    have sr : (ys.map (keyP H)).Pairwise lexLe := by
      rw [List.pairwise_map]
      refine List.Pairwise.imp ?_ hs
      intro x y h
      have := SrtO.lexB_no.mp h
      unfold lexLe
      omega
    have eq := hq _ pk sr
    refine q p ys G _ (Run.newg e hn) hn (e.free hn) upd_same ?_
    rw [← eq, List.map_map]
    exact rpAll_of fun y hy => h2 y (pm.mem_iff.mp hy)
theorem cn_sortedI {ps qs : List Int} (hq : ∀ l : List Int, l.Perm ps → l.Pairwise (· ≤ ·) → l = qs) : CallN K (rSortedI K) [.list (ps.map PyData.int)] (qs.map PyData.int) := fun G H vs e r Q q => by
  obtain ⟨v, rfl, hv⟩ := r.one
  obtain ⟨a, xs, rfl, hp, r1⟩ := hv.lst_inv
  rw [r1.ints_inv] at hp
  refine ⟨a, ps, rfl, SqL.of (e _ _ hp), fun ns' p pm sr hn => ?_⟩
  rw [hq _ pm sr]
  exact q p _ G _ (Run.newg e hn) hn (e.free hn) upd_same (RpAll.ints qs)
end
end Pd

namespace Pd
open PySem PySem.Spec PyProof.Rows L2 Peg
/-! ### the rules with the written part by its name (within a comprehension the context's own is not to be seen from outside) -/
section
variable {X : Cx} {tg e : Expr} {te : TE} {ta : TA}
theorem op_addK (K : PySem.W.Frag) (h : X.K = K) : OpR X (binaryOp .Add) (rAddP K) := by subst h; exact op_addP
theorem op_mulK (K : PySem.W.Frag) (h : X.K = K) : OpR X (binaryOp .Mult) (rMulP K) := by subst h; exact op_mulP
theorem op_eqK (K : PySem.W.Frag) (h : X.K = K) (hu : X.A.units + 64 < cLine) : OpR X (compareOp .Eq) (rEqD K) := by subst h; exact op_eqD hu
theorem op_neK (K : PySem.W.Frag) (h : X.K = K) (hu : X.A.units + 64 < cLine) : OpR X (compareOp .NotEq) (rNeD K) := by subst h; exact op_neD hu
theorem op_inK (K : PySem.W.Frag) (h : X.K = K) (hu : X.A.units + 65 < cLine) : OpR X (compareOp .In) (rInP K) := by subst h; exact op_inP hu
theorem op_niK (K : PySem.W.Frag) (h : X.K = K) (hu : X.A.units + 65 < cLine) : OpR X (compareOp .NotIn) (rNiP K) := by subst h; exact op_niP hu
theorem ix_seqK (K : PySem.W.Frag) (h : X.K = K) : IxR X (rIx K) := by subst h; exact ix_seq
theorem sl_anyK (K : PySem.W.Frag) (h : X.K = K) : SlR X (rSlP K) := by subst h; exact sl_any
theorem call_lenK (K : PySem.W.Frag) (h : X.K = K) : CallR X (.builtin "len") (rLenP K) := by subst h; exact call_len_seq
theorem cr_allK (K : PySem.W.Frag) (h : X.K = K) (hc : X.calm = true) : CallR X (.builtin "all") (rAll K) := by subst h; exact cr_all hc
theorem cr_sumK (K : PySem.W.Frag) (h : X.K = K) (hc : X.calm = true) : CallR X (.builtin "sum") (rSum K) := by subst h; exact cr_sum hc
theorem call_isiK' (K : PySem.W.Frag) (h : X.K = K) : CallR X (.builtin "isinstance") (rIsi K) := by subst h; exact call_isi
theorem cr_sortedPK (K : PySem.W.Frag) (h : X.K = K) : CallR X (.builtin "sorted") (rSortedPO K) := by subst h; exact cr_sortedPO
theorem cr_sortedIK (K : PySem.W.Frag) (h : X.K = K) : CallR X (.builtin "sorted") (rSortedI K) := by subst h; exact cr_sortedI
theorem call_listK (K : PySem.W.Frag) (h : X.K = K) : CallR X (.type "list") (rListP K) := by subst h; exact call_list_of
theorem call_tupK (K : PySem.W.Frag) (h : X.K = K) : CallR X (.type "tuple") (rTupP K) := by subst h; exact call_tuple_of
theorem pi_seqK (K : PySem.W.Frag) (h : X.K = K) (hl : PE X e te) : PI X tg e (iSeq K te) := by subst h; exact pi_seq hl
theorem pi_enumK {p pos tpos : Pos} {elts : List Expr} {kk : Nat} (K : PySem.W.Frag) (h : X.K = K) (hg : Gl X "enumerate") (hm : X.mg "enumerate" = none) (ha : PA X [e] ta) (hs : starEach [e] X.env = [(false, eval e X.env)] := by rfl) :
    PI X (.Tuple elts kk tpos) (.Call (.Name "enumerate" p) [e] [] pos) (iEnumT K ta) := by subst h; exact pi_enumT hg hm ha hs
theorem pi_zipK {e2 : Expr} {p pos tpos : Pos} {elts : List Expr} {kk : Nat} (K : PySem.W.Frag) (h : X.K = K) (hg : Gl X "zip") (hm : X.mg "zip" = none) (ha : PA X [e, e2] ta)
    (hs : starEach [e, e2] X.env = (false, eval e X.env) :: starEach [e2] X.env := by rfl) (hpl : (backTo pos (starEach [e2] X.env)).any (·.1) = false := by rfl) :
    PI X (.Tuple elts kk tpos) (.Call (.Name "zip" p) [e, e2] [] pos) (iZip K ta) := by subst h; exact pi_zip hg hm ha hs hpl
theorem pe_revLK {k : Nat} {p1 p2 p3 pos : Pos} (K : PySem.W.Frag) (h : X.K = K) (he : PE X e te) : PE X (.Subscript e (.Slice none none (some (.UnaryOp .USub (.Constant (.int 1) k p1) p2)) p3) pos) (tRevL K te) := by subst h; exact pe_revL he
end
end Pd

namespace Pd
open PySem PySem.Spec PyProof.Rows L2

/-! ### an exception is laid into the tracked heap -/
theorem exT_ok {P : Program} {w : World} {H : Hp} {h : Heap} {a : Addr} {cls : Value} {d : Option Addr} {oe : Obj} {vs : Array Value} (he : h.get? a = some oe) (hz : Zc cls d oe) (hd : oe.data = .fields vs) : ObjOk P w H h a (exT cls d a) :=
  ⟨⟨oe, vs, he, hz, hd⟩, ⟨_, he⟩, fun h1 h2 z k => by
    obtain ⟨o, v, e, z1, z2⟩ := z
    exact ⟨o, v, k _ e, z1, z2⟩⟩
theorem exT_at {P : Program} {w : World} {H : Hp} {h : Heap} {a : Addr} {cls : Value} {d : Option Addr} (hok : HOk P w H h) (e : H a = some (exT cls d a)) : ∃ oe vs, h.get? a = some oe ∧ Zc cls d oe ∧ oe.data = .fields vs := by
  have x : ObjOk P w H h a (.ext fun h => ∃ (oe : Obj) (vs : Array Value), h.get? a = some oe ∧ Zc cls d oe ∧ oe.data = .fields vs) := hok a _ e
  exact x.1
section
variable {X : Cx} {pins : List (Addr × Obj)} {σ : L2.St} {H : Hp} {sI s s' : Shared} {B : Heap}
/-- back on the ground, and one object of the air is tracked -/
theorem landedE {a : Addr} {o : HO} (J : Inv X pins σ H sI) (gr : ∀ b u, sI.heap.get? b = some u → b ∉ frs X.stack → B.get? b = some u) (sta : B.StaysIn s'.heap) (sl : sI.heap.UpToSlots s'.heap) (eo : s'.os = sI.os) (bg : AllBare s'.gens)
    (hz : sI.heap.get? a = none) (hn : H a = none) (new : ObjOk X.prog X.w (upd H a o) s'.heap a o) : Inv X pins σ (upd H a o) s' := by
  have fr : ∀ b u, sI.heap.get? b = some u → b ∈ frs X.stack → ∃ l, s'.heap.get? b = some { u with slots := l } := fun b u e hm => by
    obtain ⟨_, u2, e2, nf⟩ := J.stack.mem hm
    have z := e.symm.trans e2
    cases z
    exact sl b u e nf
  have ne : ∀ b u, sI.heap.get? b = some u → b ≠ a := fun b u e z => by
    rw [z, hz] at e
    cases e
  have ok1 : HOk X.prog X.w H s'.heap := (J.inGround gr).kept sta
  have ok2 : HOk X.prog X.w (upd H a o) s'.heap := fun b u e => by
    by_cases hb : b = a
    · subst hb
      rw [upd_same] at e
      cases e
      exact new
    · rw [upd_ne hb] at e
      exact (ok1 b u e).stay (fun _ _ _ q => q) (fun c q => by rw [upd_ne (ne_of_none q hn)]; exact q) fun c xs q => by rw [upd_ne (ne_of_none q hn)]; exact q
  have un : Un (frs X.stack) [] H (upd H a o) sI.heap s'.heap := {
    keep := fun b u e _ hm _ => sta b u (gr b u e hm)
    slot := fun b u e _ hm _ => fr b u e hm
    free := fun b u e n _ => by
      rw [upd_ne (ne b u e)]
      exact n
    there := fun b u e _ => by
      by_cases hm : b ∈ frs X.stack
      · obtain ⟨l, q⟩ := fr b u e hm
        exact ⟨_, q⟩
      · exact ⟨u, sta b u (gr b u e hm)⟩
    tups := fun b xs e => by
      rw [upd_ne (ne_of_none e hn)]
      exact e
    frzs := fun b u xs e => by
      rw [upd_ne (ne_of_none e hn)]
      exact e
    tbls := fun b ps e => ⟨#[], by rw [upd_ne (ne_of_none e hn), e]; simp⟩ }
  have K1 := J.call (ch := []) (g' := s'.gens) (t' := s'.toks) (d' := s'.drawn) un ok2 bg fun _ z => nomatch z
  obtain ⟨h1, g1, d1, t1, o1⟩ := s'
  have e5 : o1 = sI.os := eo
  subst e5
  exact K1
theorem Inv.inSuite (I : Inv X pins σ H s) (a : Addr) : Inv (X.suite a (X.pn ++ pins)) [] σ H s :=
  ⟨I.ok.suite _ _, I.os, I.bare, I.base, I.loc, I.cell, I.free, I.freeC, fun p hp => I.pin p (by rwa [List.append_nil] at hp), I.hok, I.len⟩
theorem Inv.outSuite {a : Addr} {ps : List (Addr × Obj)} (I : Inv (X.suite a (X.pn ++ pins)) ps σ H s) (ok : X.Ok) : Inv X pins σ H s :=
  ⟨ok, I.os, I.bare, I.base, I.loc, I.cell, I.free, I.freeC, fun p hp => I.pin p (List.mem_append_left _ hp), I.hok, I.len⟩
end
/-- the suite's ends: the clause's name goes -/
abbrev goneD (i : Nat) (D : Ends) : Ends := { nx := fun σ H => D.nx (σ.set i none) H, rt := D.rt, bk := fun σ H => D.bk (σ.set i none) H, ct := fun σ H => D.ct (σ.set i none) H }
/-- what try: .. except x as n: suite wishes of its body's exceptions: each is the clause's; it is tracked from the suite on -/
def wAsT (K : PySem.W.Frag) (c : Value) (i : Nat) (ts : TS) (D : Ends) : WX := fun cls d σ H =>
  PySem.W.exmOne K cls c = some true ∧ ∀ a, H a = none → ts (goneD i D) (σ.set i (some (.ref a))) (upd H a (exT cls d a))
section
variable {X : Cx} {x n : Str} {c : Value} {i : Nat} {body suite : List Stmt} {b₀ : Stmt} {np pos pos' : Pos} {tb : WX → TS} {ts : TS}
theorem ps_tryT (hst : X.stack = X.env :: X.outer) (hfr : X.env.frame = some X.env.locals) (hN : X.N.Nodup) (hi : X.N[i]? = some n) (hk : X.env.kindOf n = some .local) (hc : Names X x c)
    (hb : ∀ (W : WX) (pn : List (Addr × Obj)) (xe : Value → Shared → Prop), Takes (X.tr pn xe) W → PassesOwn (model X.prog X.w) X.A X.env xe → PSs (X.tr pn xe) body (tb W))
    (hsu : ∀ (a : Addr) (pn : List (Addr × Obj)), PSs (X.suite a pn) (b₀ :: suite) ts) :
    PS X (.Try body [.ExceptHandler (some (.Name x np)) (some n) (b₀ :: suite) pos'] [] [] pos) (fun D σ H => tb (wAsT X.K c i ts D) D σ H) := by
  refine ⟨fun pins s σ H D I h => wpAny_Try_except ?_⟩
  have okX := I.ok
  have afr : X.A.frames = some (X.env :: X.outer) := by rw [okX.frames, hst]
  have body' := (hb (wAsT X.K c i ts D) (X.pn ++ pins) (fun e s1 => wpAny (model X.prog X.w) X.A (noteFrame e X.env) (fun _ s2 => wpAny (model X.prog X.w) X.A (setFlight e none) (fun _ s3 =>
    wpAny (model X.prog X.w) X.A (handleBy e X.env [.ExceptHandler (some (.Name x np)) (some n) (b₀ :: suite) pos']) (SP X pins D) X.xe s3) X.xe s2) X.xe s1) (fun u s1 air => ?air) PassesOwn.looking).run [] s σ H D (I.toTry _) h
  case air =>
    obtain ⟨a, B, sI, pi, σ1, H1, cls, d, rfl, I1, gr, sl, sky, hn, eo, bg, hcl, hsuite⟩ := air
    have J : Inv X pins σ1 H1 sI := I1.ofTry okX
    have sky' : Sky B (X.env :: X.outer) a (Zc cls d) X.env.locals s1.heap := hst ▸ sky
    show wpAny (model X.prog X.w) X.A (noteFrame (.ref a) X.env) _ _ _
    refine Sky.land Zc.steady afr hfr sky' fun h3 fly3 sl3 => ?_
    obtain ⟨o3, v3, get3, z3, d3⟩ := fly3.there
    have hz : sI.heap.get? a = none := by
      cases q : sI.heap.get? a with
      | none => rfl
      | some u =>
        have nm : a ∉ frs X.stack := fun hm => by
          rw [hst] at hm
          obtain ⟨_, u2, e2, nf⟩ := fly3.2.2.1.mem hm
          rw [get3] at e2
          cases e2
          exact nf _ d3
        have z := gr a u q nm
        rw [fly3.2.1] at z
        cases z
    have J3 : Inv X pins σ1 (upd H1 a (exT cls d a)) { s1 with heap := h3 } := landedE J gr fly3.1 (sl.trans sl3) eo bg hz hn (exT_ok get3 z3 d3)
    have S3 := Inv.inSuite J3 a
    refine wpAny_handleBy_cons (codeAny_handlers_test ?_) fun z => nomatch z
    have LT : PySem.W.Looks (model X.prog X.w) h3 (typeOf (.ref a)) cls := fun A Q E s2 k q => wpAny_typeOf_ref (k _ _ get3) (by rw [z3.1]; exact q)
    have LM := PySem.W.exm_one (M := model X.prog X.w) J3.kIn LT hcl
    have named : ∀ {Q E : Value → Shared → Prop}, Q c { s1 with heap := h3 } → wpAny (model X.prog X.w) (X.A.mark (some (.ref a))) (eval (.Name x np) X.env) Q E { s1 with heap := h3 } := fun {Q E} q => by
      rcases hc with ⟨g1, g2, g3 | ⟨g3, g4, g5⟩⟩
      · exact ld_glob (X := X.suite a (X.pn ++ pins)) S3 g1 g3 q g2
      · exact ld_blt (X := X.suite a (X.pn ++ pins)) S3 g1 g3 g4 q g5 g2
    refine named (LM.here (codeAny_handlers_suite_as (HandSPX.lands_againZ fly3 fun h4 fly4 sl4 => ?_)))
    obtain ⟨o4, v4, get4, z4, d4⟩ := fly4.there
    have J4 : Inv X pins σ1 (upd H1 a (exT cls d a)) { s1 with heap := h4 } := landedE J gr fly4.1 ((sl.trans sl3).trans sl4) eo bg hz hn (exT_ok get4 z4 d4)
    refine store_ok (X := X.suite a (X.pn ++ pins)) (v := .ref a) (Inv.inSuite J4 a) hN hi (.inl hk) rfl (fun s5 S5 => ?_) (.inr hk)
    refine wpAny_mono ((hsu a (X.pn ++ pins)).run [] s5 _ _ (goneD i D) S5 (hsuite a hn)) (fun f s6 end6 => ?_) fun _ _ z => False.elim z
    cases f with
    | next =>
      obtain ⟨σ6, H6, S6, q6⟩ := end6
      exact gone_ok (Inv.outSuite S6 okX) hN hi hk fun s7 J7 => ⟨_, _, J7, q6⟩
    | brk =>
      obtain ⟨σ6, H6, S6, q6⟩ := end6
      exact gone_ok (Inv.outSuite S6 okX) hN hi hk fun s7 J7 => ⟨_, _, J7, q6⟩
    | cont =>
      obtain ⟨σ6, H6, S6, q6⟩ := end6
      exact gone_ok (Inv.outSuite S6 okX) hN hi hk fun s7 J7 => ⟨_, _, J7, q6⟩
    | ret u =>
      obtain ⟨v6, σ6, H6, S6, r6, q6⟩ := end6
      exact gone_ok (Inv.outSuite S6 okX) hN hi hk fun s7 J7 => ⟨_, _, _, J7, r6, q6⟩
  refine wpAny_mono body' (fun f s1 en => ?_) fun _ _ z => z
  cases f with
  | next =>
    obtain ⟨σ1, H1, J1, q⟩ := en
    exact wpAny_execs_nil ⟨σ1, H1, J1.ofTry okX, q⟩
  | brk =>
    obtain ⟨σ1, H1, J1, q⟩ := en
    exact ⟨σ1, H1, J1.ofTry okX, q⟩
  | cont =>
    obtain ⟨σ1, H1, J1, q⟩ := en
    exact ⟨σ1, H1, J1.ofTry okX, q⟩
  | ret u =>
    obtain ⟨v, σ1, H1, J1, r, q⟩ := en
    exact ⟨v, σ1, H1, J1.ofTry okX, r, q⟩
end

/-! ### the same by data -/
section
variable {K : PySem.W.Frag} {c : Cc} {δ δ' : DEnv} {x y z d f : PyData} {ds es zs : List PyData} {te tb : TE} {tr : TA} {t u ts : TS} {N : DEnv → Prop} {R : Rs → Prop} {i n : Nat} {C D : Addr} {W : WX}
theorem EnvOk.unset {H0 G H : Hp} {σ : L2.St} (e : EnvOk K H0 G H σ δ) (i : Nat) : EnvOk K H0 G H (σ.set i none) (δ.set i none) := by
  have old : ∀ {j : Nat} {q : Cel}, (δ.set i none)[j]? = some (some q) → j ≠ i ∧ δ[j]? = some (some q) := fun {j q} h => by
    by_cases hj : j = i
    · subst hj
      by_cases hl : j < δ.length
      · rw [List.getElem?_set_self hl] at h
        cases h
      · rw [List.getElem?_eq_none (by rw [List.length_set]; omega)] at h
        cases h
    · rw [List.getElem?_set_ne (Ne.symm hj)] at h
      exact ⟨hj, h⟩
  refine ⟨by rw [List.length_set, List.length_set, e.len], fun j d' h => ?_, fun j es h => ?_, fun j k es fs h1 h2 h3 => ?_⟩
  · obtain ⟨hj, h⟩ := old h
    rw [List.getElem?_set_ne (Ne.symm hj)]
    exact e.val j d' h
  · obtain ⟨hj, h⟩ := old h
    rw [List.getElem?_set_ne (Ne.symm hj)]
    exact e.own j es h
  · obtain ⟨hj, h1⟩ := old h1
    obtain ⟨hk, h2⟩ := old h2
    rw [List.getElem?_set_ne (Ne.symm hj), List.getElem?_set_ne (Ne.symm hk)] at h3
    exact e.dis j k es fs h1 h2 h3
theorem Sta.unset {σ : L2.St} {H : Hp} {ts : List V} {td : List PyData} (s : Sta K c δ σ ts td H) (i : Nat) : Sta K c (δ.set i none) (σ.set i none) ts td H := by
  obtain ⟨G, r, e, t⟩ := s
  exact ⟨G, r, e.unset i, t⟩
/-- the returns of a try's body are those of the whole; its exceptions X1 are caught -/
def trR (R : Rs → Prop) (X1 : Addr → PyData → DEnv → Prop) : Rs → Prop
  | .exc C f δ => X1 C f δ
  | .val d => R (.val d)
  | .new ds => R (.new ds)
  | .gen φ => R (.gen φ)
theorem sd_tryT {tb : WX → TS} {cv1 : Value} (X1 : Addr → PyData → DEnv → Prop) (hb : ∀ W, SD K ⟨c.G, c.H, W⟩ (tb W) δ N (trR R X1)) (hcl : ∀ C f δ', X1 C f δ' → PySem.W.exmOne K (.ref C) cv1 = some true)
    (hsu : ∀ C f δ', X1 C f δ' → SD K c ts (δ'.set i (cv (dExc C f))) (fun δ2 => N (δ2.set i none)) R) : SD K c (fun D σ H => tb (wAsT K cv1 i ts D) D σ H) δ N R := fun σ H D s q1 q2 q3 => by
  refine hb (wAsT K cv1 i ts D) σ H D s q1 (fun r v H' hr st => ?_) fun C f δ' d σ' H' hx sx => ⟨hcl C f δ' hx, fun a ha => ?_⟩
  · cases r with
    | val d => exact q2 _ v H' hr st
    | new ds => exact q2 _ v H' hr st
    | exc C f δ => exact st.elim
    | gen φ => exact q2 _ v H' hr st
  · obtain ⟨G, rn, e, xf⟩ := sx
    have r' := Run.new (o := exT (.ref C) d a) rn.h ha
    have s1 : Sta K c δ' σ' [.ref a] [dExc C f] (upd H' a (exT (.ref C) d a)) := ⟨_, rn.trans r', e.run r', .cons (.exc upd_same (xf.ex r'.g)) .nil⟩
    exact hsu C f δ' hx _ _ (goneD i D) s1.set (fun δ2 σ2 H2 n2 s2 => q1 _ _ H2 n2 (s2.unset i)) q2 q3
/-! ### what raises -/
def EvX (K : PySem.W.Frag) (c : Cc) (te : TE) (δ : DEnv) (C : Addr) (f : PyData) : Prop := ∀ (σ : L2.St) (H : Hp) (ts : List V) (td : List PyData), Sta K c δ σ ts td H → ∀ Q : VK, (∀ d H', StaX K c δ σ H' d f → c.W (.ref C) d σ H') → te σ H Q
theorem sd_dropX (h : EvX K c te δ C f) (hr : R (.exc C f δ)) : SD K c (tDrop te) δ N R := fun σ H D s _ _ q3 => h σ H [] [] s _ fun d H' sx => q3 C f δ d σ H' hr sx
theorem sd_dropXS (h : EvX K c te δ C f) (hr : R (.exc C f δ)) : SD K c (tSeq (tDrop te) u) δ N R := fun σ H D s _ _ q3 => h σ H [] [] s _ fun d H' sx => q3 C f δ d σ H' hr sx
theorem sd_asgX {g : TG} (h : EvX K c te δ C f) (hr : R (.exc C f δ)) : SD K c (tAsg te g) δ N R := fun σ H D s _ _ q3 => h σ H [] [] s _ fun d H' sx => q3 C f δ d σ H' hr sx
theorem sd_asgXS {g : TG} (h : EvX K c te δ C f) (hr : R (.exc C f δ)) : SD K c (tSeq (tAsg te g) u) δ N R := fun σ H D s _ _ q3 => h σ H [] [] s _ fun d H' sx => q3 C f δ d σ H' hr sx
theorem sd_retX (h : EvX K c te δ C f) (hr : R (.exc C f δ)) : SD K c (tRet te) δ N R := fun σ H D s _ _ q3 => h σ H [] [] s _ fun d H' sx => q3 C f δ d σ H' hr sx
theorem evx_op1 {r : R2} (h : EvX K c te δ C f) : EvX K c (tOp r te tb) δ C f := fun σ H ts td s Q q => h σ H ts td s _ q
theorem evx_op2 {r : R2} (h1 : EvD K c te δ x) (h : EvX K c tb δ C f) : EvX K c (tOp r te tb) δ C f := fun σ H ts td s Q q => h1 σ H ts td s _ fun v H1 s1 => h σ H1 _ _ s1 _ q
/-- the promise of a def that may raise -/
def PrX (K : PySem.W.Frag) (vs : List V) (H : Hp) (Q : VK) (E : XK) (ds : List PyData) : Rs → Prop
  | .val z => Pr K vs H Q ds z
  | .new zs => PrN K vs H Q ds zs
  | .exc C f _ => ∃ G, Ex G H ∧ RpAll K G vs ds ∧ ∀ d G' H', Run G H G' H' → ExF G' d f → E (.ref C) d H'
  | .gen φ => ∃ G, Ex G H ∧ RpAll K G vs ds ∧ ∀ w G' H', Run G H G' H' → φ H G' w H' → Q w H'
theorem PrX.len {vs : List V} {H : Hp} {Q : VK} {E : XK} {o : Rs} (p : PrX K vs H Q E ds o) : vs.length = ds.length := by
  cases o with
  | val z => exact Pr.len p
  | new zs => exact PrN.len p
  | exc C f δ =>
    obtain ⟨_, _, r, _⟩ := p
    exact r.length
  | gen φ =>
    obtain ⟨_, _, r, _⟩ := p
    exact r.length
/-- the same outcome -/
def eqO : Rs → Rs → Prop
  | .exc C f _, r => ∃ δ', r = .exc C f δ'
  | .val z, r => r = .val z
  | .new zs, r => r = .new zs
  | .gen φ, r => r = .gen φ
theorem body_x {vs : List V} {H : Hp} {Q : VK} {E : XK} {Ns : List Str} {o : Rs} (p : PrX K vs H Q E ds o) (hl : ds.length ≤ Ns.length)
    (h : ∀ c, c.W = (fun cls d _ H => E cls d H) → SD K c t (env0 Ns.length ds) (fun _ => o = .val .none) (eqO o)) : t { nx := fun _ H' => Q .non H', rt := Q } (L2.start Ns vs) H := by
  obtain ⟨G, e, r⟩ : ∃ G, Ex G H ∧ RpAll K G vs ds := by
    cases o with
    | val z => obtain ⟨G, e, r, _⟩ := p; exact ⟨G, e, r⟩
    | new z => obtain ⟨G, e, r, _⟩ := p; exact ⟨G, e, r⟩
    | exc C f δ => obtain ⟨G, e, r, _⟩ := p; exact ⟨G, e, r⟩
    | gen φ => obtain ⟨G, e, r, _⟩ := p; exact ⟨G, e, r⟩
  cases o with
  | val z =>
    obtain ⟨G, e, r, q⟩ := p
    refine h ⟨G, H, _⟩ rfl (L2.start Ns vs) H _ (sta0 e r hl) (fun δ' σ' H' n s => ?_) (fun r v H' hr s => ?_) fun C f δ' d σ' H' hr _ => by cases hr
    · obtain ⟨G', rn, _, _⟩ := s
      cases n
      exact q .non G' H' rn .non
    · cases hr
      obtain ⟨G', rn, hv⟩ := s
      exact q v G' H' rn hv
  | new zs =>
    obtain ⟨G, e, r, q⟩ := p
    refine h ⟨G, H, _⟩ rfl (L2.start Ns vs) H _ (sta0 e r hl) (fun δ' σ' H' n s => by cases n) (fun r v H' hr s => ?_) fun C f δ' d σ' H' hr _ => by cases hr
    cases hr
    obtain ⟨G', p, ws, rfl, rn, hp, gp, ep, hw⟩ := s
    exact q p ws G' H' rn hp gp ep hw
  | exc C f δ =>
    obtain ⟨G, e, r, q⟩ := p
    refine h ⟨G, H, _⟩ rfl (L2.start Ns vs) H _ (sta0 e r hl) (fun δ' σ' H' n s => by cases n) (fun r v H' hr s => ?_) fun C f δ' d σ' H' hr s => ?_
    · obtain ⟨δ', rfl⟩ := hr
      exact s.elim
    · obtain ⟨δ2, hr⟩ := hr
      cases hr
      obtain ⟨G', rn, _, xf⟩ := s
      exact q d G' H' rn xf
  | gen φ =>
    obtain ⟨G, e, r, q⟩ := p
    refine h ⟨G, H, _⟩ rfl (L2.start Ns vs) H _ (sta0 e r hl) (fun δ' σ' H' n s => by cases n) (fun r v H' hr s => ?_) fun C f δ' d σ' H' hr _ => by cases hr
    cases hr
    obtain ⟨G', rn, hv⟩ := s
    exact q v G' H' rn hv
/-- a call that raises -/
theorem evx_callS {sp : Sp} (hw : c.W = W) (h : EvA K c tr δ ds) (hs : ∀ vs H Q E δ', PrX K vs H Q E ds (.exc C f δ') → sp vs H Q E) : EvX K c (tCallS sp (WE W) tr) δ C f := fun σ H ts td s Q q =>
  h σ H ts td s _ fun vs H1 hv s1 => by
    obtain ⟨G, rn, e, r1, r2⟩ := sta_split hv s1
    refine hs vs H1 Q _ δ ⟨G, rn.h, r1, fun d G' H' r' xf => ?_⟩
    have z := q d H' ⟨G', rn.trans r', e.run r', xf⟩
    rw [hw] at z
    exact z
theorem ev_callS {sp : Sp} {E : L2.St → XK} (h : EvA K c tr δ ds) (hs : ∀ vs H Q E, Pr K vs H Q ds z → sp vs H Q E) : EvD K c (tCallS sp E tr) δ z := fun σ H ts td s Q q =>
  h σ H ts td s _ fun vs H1 hv s1 => by
    obtain ⟨G, rn, e, r1, r2⟩ := sta_split hv s1
    exact hs vs H1 Q _ ⟨G, rn.h, r1, fun w G' H' r' hw => q w H' ⟨G', rn.trans r', e.run r', .cons hw (r2.ex r'.g)⟩⟩
theorem ev_callSN {sp : Sp} {E : L2.St → XK} (h : EvA K c tr δ ds) (hs : ∀ vs H Q E, PrN K vs H Q ds zs → sp vs H Q E) : EvN K c (tCallS sp E tr) δ zs := fun σ H ts td s Q q =>
  h σ H ts td s _ fun vs H1 hv s1 => by
    obtain ⟨G, rn, e, r1, r2⟩ := sta_split hv s1
    exact hs vs H1 Q _ ⟨G, rn.h, r1, fun p us G' H' r' hp gp ep hw => q p H' ⟨G', us, rn.trans r', e.run r', r2.ex r'.g, rn.k.free hp, gp, ep, hw, own_ne e hp⟩⟩
/-- raise C('..') -/
theorem sd_raise (hw : c.W = W) (hr : R (.exc C (.tuple []) δ)) : SD K c (fun _ σ H => W (.ref C) none σ H) δ N R := fun σ H D s _ _ q3 => by
  obtain ⟨G, rn, e, _⟩ := s
  have z := q3 C (.tuple []) δ none σ H hr ⟨G, rn, e, .non⟩
  rw [hw] at z
  exact z
/-! ### isinstance of an error that is held -/
theorem Rp.exc_inv {H : Hp} {v : V} (h : Rp K H v (dExc C f)) : ∃ a d, v = .ref a ∧ H a = some (exT (.ref C) d a) ∧ ExF H d f := by
  generalize hd : dExc C f = q at h
  cases h with
  | @exc a C' d f' h1 h2 =>
    have z := (Prod.mk.inj (List.cons.inj (PyData.dict.inj hd)).1)
    have z1 : (C : Int) = (C' : Int) := PyData.int.inj z.1
    have z2 : C = C' := Int.ofNat.inj z1
    have z3 := z.2
    subst z2 z3
    exact ⟨a, d, rfl, h1, h2⟩
  | _ => cases hd
theorem Rp.cls_inv {H : Hp} {v : V} (h : Rp K H v (dCls C)) : v = .ref C := by
  generalize hd : dCls C = q at h
  cases h with
  | cls C' =>
    have z := (Prod.mk.inj (List.cons.inj (PyData.dict.inj hd)).1)
    have z1 : (C : Int) = (C' : Int) := PyData.int.inj z.2
    have z2 : C = C' := Int.ofNat.inj z1
    rw [z2]
  | _ => cases hd
def rIsX (K : PySem.W.Frag) : List V → Hp → VK → Prop := fun xs H Q => ∃ (a C : Addr) (tv : V) (cv : Value) (b : Bool), xs = [.ref a, tv] ∧ H a = some (exT (.ref C) none a) ∧ ExcC K C ∧ (∀ u, RelV tv u → u = cv) ∧ PySem.W.kitOne K (.ref C) cv = some b ∧ Q (.bl b) H
theorem call_isX {X : Cx} : CallR X (.builtin "isinstance") (rIsX X.K) := by
  intro pins s σ H xs us Q I r h
  obtain ⟨a, C, tv, cv1, b, rfl, ha, T, hcv, e, q⟩ := h
  cases r with
  | cons rx rr =>
    cases rr with
    | cons rt rr =>
      cases rr
      cases rx
      have ec := hcv _ rt
      subst ec
      obtain ⟨oe, vs, hget, hz, hd⟩ := exT_at I.hok ha
      have J : PySem.W.InstAt s.heap a oe C none := by
        obtain ⟨oc, od, oda, osl⟩ := oe
        obtain ⟨h1, h2⟩ := hz
        dsimp only at h1 h2 hd
        subst h1 h2 hd
        exact ⟨hget, rfl, rfl, trivial⟩
      exact PySem.W.kia_one (PySem.W.handS_kitx_exc T.hg T.hk T.hs T.hd T.ha T.hn T.ht T.hm) I.kIn J e (fun z => nomatch z) fun tk => ⟨.bl b, H, I.kept (t' := tk) fun _ _ z => z, rfl, q⟩
theorem call_isXK {X : Cx} (K : PySem.W.Frag) (h : X.K = K) : CallR X (.builtin "isinstance") (rIsX K) := by subst h; exact call_isX
theorem cd_isXc {b : Bool} (T : ExcC K C) (e : PySem.W.kitOne K (.ref C) (.ref D) = some b) : CallD K (rIsX K) [dExc C (.tuple []), dCls D] (.bool b) := fun G H vs ex r Q q => by
  obtain ⟨v, u, rfl, hv, hu⟩ := r.two
  obtain ⟨a, d, rfl, ha, xf⟩ := hv.exc_inv
  cases hu.cls_inv
  cases xf
  exact ⟨a, C, _, .ref D, b, rfl, ex _ _ ha, T, fun u h => h, e, q _ G H (Run.refl ex) (.bl _)⟩
theorem cd_isXt {b : Bool} {n : String} (T : ExcC K C) (e : PySem.W.kitOne K (.ref C) (.type n) = some b) : CallD K (rIsX K) [dExc C (.tuple []), dTy n] (.bool b) := fun G H vs ex r Q q => by
  obtain ⟨v, u, rfl, hv, hu⟩ := r.two
  obtain ⟨a, d, rfl, ha, xf⟩ := hv.exc_inv
  cases hu.ty_inv
  cases xf
  exact ⟨a, C, _, .type n, b, rfl, ex _ _ ha, T, fun u h => h, e, q _ G H (Run.refl ex) (.bl _)⟩
/-- what a class says that is raised and caught -/
structure RaiC (K : PySem.W.Frag) (C : Addr) : Prop where
  x : PySem.W.excIn K C [.type "ValueError", .type "Exception", .type "BaseException", .type "object"] "ValueError.__new__" = true
  k : PySem.W.keepIn K (.ref C) = true
  b : PySem.W.subIn K (.ref C) (.type "BaseException") = some true
  t : PySem.W.typeIn K (.ref C) = some (.type "type")
end
end Pd

namespace Pd
open PySem PySem.Spec PyProof.Rows L2
/-! ### range with a step and bounds of any size -/
theorem turn_rangeL {P : Program} {w : World} {K : PySem.W.Frag} {tg : Expr} (it : Addr) (lo c : Int) (n : Nat) : Turn P w K tg (Itc lo c n) [it] it (fun i h => IsLongIter h it (lo + (i : Nat) * c) ((n : Int) - (i : Nat)) c) where
  mem := by simp
  obj := fun i h st b hb => by
    have e : b = it := by simpa using hb
    subst e
    exact ⟨_, st, fun v z => nomatch z⟩
  keep := fun i h h' st k => k it (by simp) _ st
  item := by
    intro X hP hw hK hc i pins s σ H E I hf st hg
    subst hP hw hK
    obtain ⟨f0, f1, f2, f3, f4, f5⟩ := hf it (by simp)
    have hlt : i < n := hg
    refine wpAny_pyNext_long_item st (by omega) fun h' st' sb => ?_
    have I1 : Inv X pins σ H { s with heap := h', toks := s.toks + 1 } := I.turned (fun b o hb e => (sb.2 b hb).trans e) f0 f1 f3 f4 f5
    have e1 : lo + ((i : Nat) : Int) * c + c = lo + (((i + 1 : Nat)) : Int) * c := by rw [Int.natCast_add, Int.add_mul]; omega
    have e2 : (n : Int) - ((i : Nat) : Int) - 1 = (n : Int) - ((i + 1 : Nat) : Int) := by omega
    rw [e1, e2] at st'
    exact ⟨_, rfl, go_of (s := { s with heap := h', toks := s.toks + 1 }) (n := "longrange_iterator") st' rfl rfl (by decide) ⟨.int (lo + (i : Nat) * c), H, I1, ⟨_, rfl⟩, ⟨rfl, rfl⟩, st', fun b hb => (hf b hb).1⟩⟩
  done := by
    intro X hP hw hK hc i pins s σ H E I hf st hg
    subst hP hw hK
    obtain ⟨f0, f1, f2, f3, f4, f5⟩ := hf it (by simp)
    exact wpAny_pyNext_long_end (I.ok.hd hc) st (by have : n ≤ i := hg; omega) fun h' eb => ⟨rfl, I.turned (t' := s.toks) (fun b o hb e => eb b o hb e) f0 f1 f3 f4 f5⟩
  self := fun A i s Q E st h => wpAny_pyIter_longiter st h
def RgA (i j c : Int) (n : Nat) : Prop := c ≠ 0 ∧ c.natAbs < 1073741824 ∧ Builtin.Range.rangeSize i j c = n
def iRng3A (ta : TA) : TI := fun σ H R => ta σ H fun vs H1 => ∃ (i j c : Int) (n : Nat), vs = [.int i, .int j, .int c] ∧ RgA i j c n ∧ R (Itc i c n) H1
theorem pi_range3A {X : Cx} {tg a b c : Expr} {ta : TA} {p pos : Pos} (hg : Gl X "range") (hm : X.mg "range" = none) (ha : PA X [a, b, c] ta)
    (hs : starEach [a, b, c] X.env = (false, eval a X.env) :: starEach [b, c] X.env := by rfl) (hpl : (backTo pos (starEach [b, c] X.env)).any (·.1) = false := by rfl) :
    PI X tg (.Call (.Name "range" p) [a, b, c] [] pos) (iRng3A ta) := by
  refine ⟨fun pins s σ H R I h => Call_ (ld_blt I hg hm boot_range (PyProof.Rows.callWith_type1 (thn (ha.run pos pins s σ H _ I h) fun us s1 got => ?_) hs hpl))⟩
  obtain ⟨vs, H1, I1, r1, i, j, k, n, rfl, ⟨k0, k1, k2⟩, q⟩ := got
  cases r1 with
  | cons ra rr =>
    cases rr with
    | cons rb rr =>
      cases rr with
      | cons rc rr =>
        cases rr
        obtain ⟨ta, rfl⟩ := ra
        obtain ⟨tb, rfl⟩ := rb
        obtain ⟨tc, rfl⟩ := rc
        refine call_range_3 k0 ?_ (.inl (PyProof.noPylong_small k1))
        have I2 : Inv X pins σ H1 { s1 with heap := s1.heap.push { cls := .type "range", data := .fields #[.int i ta, .int j tb, .int k tc] } } := I1.kept (t' := s1.toks) fun b o e => Heap.get?_push_of_some _ e
        have e1 : i + ((0 : Nat) : Int) * k = i := by simp
        have e2 : (n : Int) - ((0 : Nat) : Int) = Builtin.Range.rangeSize i j k := by rw [k2]; simp
        cases sm : Builtin.Range.small i j k with
        | true =>
          refine wpAny_pyIter_range (IsRange.new ..) sm (pi_one (tk := s1.toks) I2 _ (turn_rangeC _ i k n) ?_ q)
          show IsRangeIter _ _ (i + ((0 : Nat) : Int) * k) ((n : Int) - ((0 : Nat) : Int)) k
          rw [e1, e2]
          exact Heap.get?_push_size _ rfl
        | false =>
          refine wpAny_pyIter_longrange (IsRange.new ..) sm (pi_one (tk := s1.toks) I2 _ (turn_rangeL _ i k n) ?_ q)
          show IsLongIter _ _ (i + ((0 : Nat) : Int) * k) ((n : Int) - ((0 : Nat) : Int)) k
          rw [e1, e2]
          exact Heap.get?_push_size _ rfl
section
variable {K : PySem.W.Frag} {c : Cc} {δ : DEnv} {ds es : List PyData} {tr : TA} {d : PyData} {i j k : Int}
/-- n ints from i on, by k -/
def dStep (i k : Int) (n : Nat) : List PyData := (List.range n).map fun (m : Nat) => PyData.int (i + (m : Int) * k)
theorem dStep_len {n : Nat} : (dStep i k n).length = n := by simp [dStep]
theorem dStep_get {n m : Nat} (h : (dStep i k n)[m]? = some d) : m < n ∧ d = .int (i + (m : Int) * k) := by
  unfold dStep at h
  rw [List.getElem?_map] at h
  by_cases hk : m < n
  · rw [List.getElem?_range hk] at h
    exact ⟨hk, (Option.some.inj h).symm⟩
  · rw [List.getElem?_eq_none (by rw [List.length_range]; omega)] at h
    cases h
theorem iv_rng3A {n : Nat} (h : EvA K c tr δ [.int i, .int j, .int k]) (g : RgA i j k n) : IvD K c (iRng3A tr) δ (dStep i k n) := fun σ H ts td s R q => h σ H ts td s _ fun vs H1 hl s1 => by
  obtain ⟨G, rn, e, r1, r2⟩ := sta_split hl s1
  cases r1 with
  | cons a r1 =>
    cases r1 with
    | cons b r1 =>
      cases r1 with
      | cons e3 r1 =>
        cases r1
        refine ⟨i, j, k, n, by rw [a.int_inv, b.int_inv, e3.int_inv], g, ?_⟩
        refine q _ G H1 rn e r2 ⟨fun i H hi _ => by rw [dStep_len] at hi; exact hi, fun H _ => by rw [dStep_len]; exact Nat.le_refl _, fun i H v H' d hd ex y => ?_⟩
        obtain ⟨rfl, rfl⟩ := y
        obtain ⟨_, rfl⟩ := dStep_get hd
        exact ⟨G, Run.refl ex, .int _⟩
/-- pairs of two lists' items -/
def dZip (xs ys : List PyData) : List PyData := List.zipWith (fun a b => PyData.tuple [a, b]) xs ys
theorem dZip_get {xs ys : List PyData} {m : Nat} (h : (dZip xs ys)[m]? = some d) : ∃ x y, xs[m]? = some x ∧ ys[m]? = some y ∧ d = .tuple [x, y] := by
  unfold dZip at h
  rw [List.getElem?_zipWith] at h
  cases h1 : xs[m]? with
  | none =>
    rw [h1] at h
    cases h
  | some x =>
    cases h2 : ys[m]? with
    | none =>
      rw [h1, h2] at h
      cases h
    | some y =>
      rw [h1, h2] at h
      exact ⟨x, y, rfl, rfl, (Option.some.inj h).symm⟩
theorem iv_zipL {xs ys : List PyData} (h : EvA K c tr δ [.list xs, .list ys]) : IvD K c (iZip K tr) δ (dZip xs ys) := fun σ H ts td s R q => h σ H ts td s _ fun vs H1 hl s1 => by
  obtain ⟨G, rn, e, r1, r2⟩ := sta_split hl s1
  obtain ⟨v, u, rfl, hv, hu⟩ := r1.two
  obtain ⟨a, vx, rfl, ha, rx⟩ := hv.lst_inv
  obtain ⟨b, vy, rfl, hb, ry⟩ := hu.lst_inv
  refine ⟨a, b, vx, vy, rfl, SqL.of (rn.h _ _ ha), SqL.of (rn.h _ _ hb), q _ G H1 rn e r2 ⟨fun i H hi ex => ?_, fun H ex => ⟨vx, vy, SqL.of (ex _ _ ha), SqL.of (ex _ _ hb), ?_⟩, fun i H v H' d hd ex y => ?_⟩⟩
  · obtain ⟨x, y, hx, hy, _⟩ := dZip_get (List.getElem?_eq_getElem hi)
    obtain ⟨v1, w1, _⟩ := rx.get hx
    obtain ⟨v2, w2, _⟩ := ry.get hy
    exact ⟨vx, vy, v1, v2, SqL.of (ex _ _ ha), SqL.of (ex _ _ hb), w1, w2⟩
  · unfold dZip
    rw [List.length_zipWith, rx.length, ry.length]
    omega
  · obtain ⟨T, x, y', rfl, nT, rfl, hx, hy⟩ := y
    obtain ⟨z1, z2, hz1, hz2, rfl⟩ := dZip_get hd
    obtain ⟨w1, e1, q1⟩ := rx.get hz1
    obtain ⟨w2, e2, q2⟩ := ry.get hz2
    have y1 := hx _ (SqL.of (ex _ _ ha))
    have y2 := hy _ (SqL.of (ex _ _ hb))
    rw [e1] at y1
    rw [e2] at y2
    cases y1
    cases y2
    have r' := Run.new (o := .tup [x, y']) ex nT
    exact ⟨_, r', .tup upd_same (.cons (q1.ex r'.g) (.cons (q2.ex r'.g) .nil))⟩
end
end Pd

namespace Pd
open PySem PySem.Spec PyProof.Rows L2
/-! ### own lists are read as data for a while -/
def frzC : Option Cel → Option Cel
  | some (.own ds) => some (.val (.list ds))
  | x => x
def frzE (δ : DEnv) : DEnv := δ.map frzC
section
variable {K : PySem.W.Frag} {c : Cc} {δ : DEnv} {ds : List PyData} {d : PyData} {te : TE} {tt : TT} {b : Bool} {N : DEnv → Prop} {R : Rs → Prop} {u : TS} {i n : Nat}
/-- with the own lists known -/
theorem Sta.lent {σ : L2.St} {H : Hp} {ts : List V} {td : List PyData} (s : Sta K c δ σ ts td H) :
    ∃ G G1 : Hp, Run c.G c.H G H ∧ EnvOk K c.H G H σ δ ∧ RpAll K G ts td ∧ Ex G G1 ∧ Ex G1 H ∧ Sta K ⟨G1, c.H, c.W⟩ (frzE δ) σ [] [] H ∧ (∀ (i : Nat) (es : List PyData) p, δ[i]? = some (some (Cel.own es)) → σ[i]? = some (some (V.ref p)) → G1 p = H p) := by
  classical
  obtain ⟨G, r, e, t⟩ := s
  let G1 : Hp := fun a => (G a).or (if ∃ (i : Nat) (es : List PyData), δ[i]? = some (some (Cel.own es)) ∧ σ[i]? = some (some (V.ref a)) then H a else none)
  have e1 : Ex G G1 := fun a o h => by
    show (G a).or _ = some o
    rw [h, Option.some_or]
  have e2 : Ex G1 H := fun a o h => by
    have h' : (G a).or (if ∃ (i : Nat) (es : List PyData), δ[i]? = some (some (Cel.own es)) ∧ σ[i]? = some (some (V.ref a)) then H a else none) = some o := h
    cases q : G a with
    | some u =>
      rw [q, Option.some_or] at h'
      cases h'
      exact r.h a _ q
    | none =>
      rw [q, Option.none_or] at h'
      split at h'
      · exact h'
      · cases h'
  have own1 : ∀ (i : Nat) (es : List PyData) p, δ[i]? = some (some (Cel.own es)) → σ[i]? = some (some (V.ref p)) → G1 p = H p := fun i es p h1 h2 => by
    show (G p).or _ = H p
    obtain ⟨p', vs, sp, hp, gp, ep, hw⟩ := e.own i es h1
    rw [h2] at sp
    cases sp
    rw [gp, Option.none_or, if_pos ⟨i, es, h1, h2⟩]
  refine ⟨G, G1, r, e, t, e1, e2, ⟨G1, ⟨Ex.refl _, e2, r.k, fun a o h n => by
    have n' : G1 a = none := n
    rw [h] at n'
    cases n'⟩, ⟨?_, fun i d h => ?_, fun i es h => ?_, fun i j es fs h => ?_⟩, .nil⟩, own1⟩
  · unfold frzE
    rw [List.length_map]
    exact e.len
  · unfold frzE at h
    rw [List.getElem?_map] at h
    cases q : δ[i]? with
    | none =>
      rw [q] at h
      cases h
    | some x =>
      rw [q] at h
      have h' : frzC x = some (Cel.val d) := Option.some.inj h
      cases x with
      | none => cases h'
      | some y =>
        cases y with
        | val d' =>
          cases h'
          obtain ⟨v, a1, a2⟩ := e.val i d q
          exact ⟨v, a1, a2.ex e1⟩
        | own es =>
          cases h'
          obtain ⟨p, vs, sp, hp, gp, ep, hw⟩ := e.own i es q
          exact ⟨_, sp, .lst (by rw [own1 i es p q sp]; exact ep) (hw.ex e1)⟩
  · exfalso
    unfold frzE at h
    rw [List.getElem?_map] at h
    cases q : δ[i]? with
    | none =>
      rw [q] at h
      cases h
    | some x =>
      rw [q] at h
      have h' : frzC x = some (Cel.own es) := Option.some.inj h
      cases x with
      | none => cases h'
      | some y => cases y <;> cases h'
  · exfalso
    unfold frzE at h
    rw [List.getElem?_map] at h
    cases q : δ[i]? with
    | none =>
      rw [q] at h
      cases h
    | some x =>
      rw [q] at h
      have h' : frzC x = some (Cel.own es) := Option.some.inj h
      cases x with
      | none => cases h'
      | some y => cases y <;> cases h'
/-- .. and back -/
theorem lent_back {σ : L2.St} {G G1 H H' : Hp} {ts : List V} {td : List PyData} {δ2 : DEnv} {σ2 : L2.St} {vs2 : List V} {ds2 : List PyData} (r : Run c.G c.H G H) (e : EnvOk K c.H G H σ δ) (t : RpAll K G ts td) (e1 : Ex G G1) (own1 : ∀ (i : Nat) (es : List PyData) p, δ[i]? = some (some (Cel.own es)) → σ[i]? = some (some (V.ref p)) → G1 p = H p)
    (s : Sta K ⟨G1, c.H, c.W⟩ δ2 σ2 vs2 ds2 H') : Run c.G c.H G H' ∧ EnvOk K c.H G H' σ δ ∧ RpAll K G ts td := by
  obtain ⟨G', r', _, _⟩ := s
  have e3 : Ex G1 H' := r'.g.trans r'.h
  refine ⟨⟨r.g, e1.trans e3, r'.k, r.f⟩, ⟨e.len, e.val, fun i es h => ?_, e.dis⟩, t⟩
  obtain ⟨p, vs, sp, hp, gp, ep, hw⟩ := e.own i es h
  exact ⟨p, vs, sp, hp, gp, e3 p _ (by rw [own1 i es p h sp]; exact ep), hw⟩
theorem et_lend (k : ∀ c', EvT K c' tt (frzE δ) b) : EvT K c tt δ b := fun σ H ts td s Q q => by
  obtain ⟨G, G1, r, e, t, e1, e2, s1, own1⟩ := s.lent
  exact k _ σ H [] [] s1 Q fun H' s2 => q H' ⟨G, lent_back r e t e1 own1 s2⟩
/-- a flat thing's value is known anywhere -/
theorem rp_flat {G G' : Hp} {v : V} (h : Rp K G v d) (f : flatD d = true) : Rp K G' v d := by
  cases h with
  | non => exact .non
  | bl b => exact .bl b
  | int i => exact .int i
  | str x => exact .str x
  | lst _ _ => cases f
  | tup _ _ => cases f
  | emp _ => cases f
  | scr _ => cases f
  | exc _ _ => cases f
  | ty _ => cases f
  | cls _ => cases f
theorem ev_lend (f : flatD d = true) (k : ∀ c', EvD K c' te (frzE δ) d) : EvD K c te δ d := fun σ H ts td s Q q => by
  obtain ⟨G, G1, r, e, t, e1, e2, s1, own1⟩ := s.lent
  refine k _ σ H [] [] s1 Q fun v H' s2 => q v H' ?_
  have z := lent_back r e t e1 own1 s2
  obtain ⟨G', _, _, t2⟩ := s2
  cases t2 with
  | cons hv _ => exact ⟨G, z.1, z.2.1, .cons (rp_flat hv f) z.2.2⟩
/-- list(xs), xs an own list -/
theorem ev_listO (h : δ[i]? = some (some (Cel.own ds))) : EvN K c (tCB (rListP K) (tCons (tVar i) tNil)) δ ds := fun σ H ts td s Q q => by
  obtain ⟨G, r, e, t⟩ := s
  obtain ⟨p, vs, sp, hp, gp, ep, hw⟩ := e.own i ds h
  refine ⟨_, sp, p, vs, rfl, .inl (SqL.of ep), fun l hl => ?_⟩
  have r' := Run.newg (o := .lst vs) r.h hl
  exact q _ _ ⟨G, vs, r.trans r', e.run r', t, r.k.free hl, r.h.free hl, upd_same, hw, own_ne e hl⟩
/-- return (own list) if t else e, t true -/
theorem sd_retIfO (h : δ[i]? = some (some (Cel.own ds))) (ht : EvT K c tt δ true) (hr : R (.new ds)) : SD K c (tRet (tIf tt (tVar i) te)) δ N R := fun σ H D s _ q2 _ => ht σ H [] [] s _ fun H1 s1 => by
  show tVar i σ H1 _
  obtain ⟨G, rn, e, r⟩ := s1
  obtain ⟨p, vs, sp, hp, gp, ep, hw⟩ := e.own i ds h
  exact ⟨_, sp, q2 _ _ H1 hr ⟨G, p, vs, rfl, rn, hp, gp, ep, hw⟩⟩
end
end Pd

namespace Pd
open PySem PySem.Spec PyProof.Rows L2
/-! ### an own class over an own class: B.__init__(self, ..), self.f = v -/
section
variable {X : Cx} {e : Expr} {es : List Expr} {ta : TA} {x : Str} {B : Addr} {p1 p2 pos : Pos}
theorem pe_cinit {pl : Sem Bool} (hg : Gl X x) (hm : X.mg x = some (.ref B)) (rd : PySem.W.readsIn X.K B (.type "type") = true) (ga : PySem.W.specialIn X.K (.ref B) "__getattribute__" = some (some (.builtin "type.__getattribute__")))
    (vI : PySem.W.findCls X.K (.ref B) (.type "type") "__init__" = some (.val (.builtin "ValueError.__init__"))) (ha : PA X (e :: es) ta) (hdb : (x == ("__debug__" : Str)) = false := by decide)
    (hc : eval (.Call (.Attribute (.Name x p1) "__init__" p2) (e :: es) [] pos) X.env = (do
      let ov ← eval (.Name x p1) X.env
      standAt p2.atName
      let (f, first) ← holding [ov] (getMethod ov "__init__" pl)
      callWith pos f first (backTo pos (starEach (e :: es) X.env)) (backToKw pos (keywordEach [] X.env))) := by rfl)
    (he : starEach (e :: es) X.env = (false, eval e X.env) :: starEach es X.env := by rfl) (hpl : (backTo pos (starEach es X.env)).any (·.1) = false := by rfl) :
    PE X (.Call (.Attribute (.Name x p1) "__init__" p2) (e :: es) [] pos) (tVeI X.K ta) := by
  refine ⟨fun pins s σ H Q I h => PySem.W.methodCall_KW (ld_glob I hg hm ?_ hdb) hc⟩
  refine PySem.W.method_cls I.kIn ga (PySem.W.cls_value I.kIn rd vI (by decide +kernel) ?_)
  show wpAny _ _ (callWith pos (Value.builtin "ValueError.__init__") [] (backTo pos (starEach (e :: es) X.env)) []) _ _ _
  refine PyProof.Rows.callWith_method1 (thn (ha.run pos pins _ σ H _ (I.tok _) h) fun us s1 got => ?_) he hpl
  obtain ⟨vs, H1, I1, r1, a, C, ws, rfl, hl, T, ea, q⟩ := got
  cases r1 with
  | @cons _ u0 _ ur ra rr =>
    have e0 : u0 = Value.ref a := ra
    subst e0
    exact oinit_ok T I1 ea (by rw [← Paired.length rr, sizeLine_eq]; omega) fun s' J => ⟨.non, H1, J, rfl, q⟩
end
/-- the __init__ of such a class: at's field is what is handed -/
def spInit (K : PySem.W.Frag) (C : Addr) : Sp := fun vs H Q _ => ∃ (a : Addr) (v : V), vs = [.ref a, v] ∧ H a = some (exo a C none) ∧ ∀ dx, H dx = none → dx ≠ a → Q .non (upd (upd H dx (exd dx [("at", v)])) a (exo a C (some dx)))
theorem init_pure {K : PySem.W.Frag} {C : Addr} {m : Str} (T : OexC K C) (no : PySem.W.findIn K (.ref C) "at" = some none) {vs : List V} {H : Hp} {Q : VK} {E : XK} (h : spInit K C vs H Q E) :
    tSeq (tDrop (tVeI K (tCons (tVar 0) (tCons (tC (.str m)) tNil)))) (tOst K "at" (tVar 0) (tVar 1)) { nx := fun _ H' => Q .non H', rt := Q } (L2.start ["self", "at"] vs) H := by
  obtain ⟨a, v, rfl, ha, q⟩ := h
  refine ⟨_, rfl, a, C, [.str m], rfl, by show 1 ≤ 1000; decide, T, ha, ?_⟩
  exact ⟨_, rfl, _, rfl, a, C, rfl, T, no, .inl ⟨ha, fun dx h1 h2 => q dx h1 h2⟩⟩
section
variable {K : PySem.W.Frag} {c : Cc} {δ : DEnv} {x d f : PyData} {te : TE} {tr : TA} {N : DEnv → Prop} {R : Rs → Prop} {C D : Addr} {W : WX}
/-- what may stand in the field -/
def fldD : PyData → Bool
  | .none => true
  | .int _ => true
  | _ => false
theorem exf_of {H : Hp} {dx : Addr} {v : V} (h : Rp K H v x) (f : fldD x = true) {H' : Hp} (e : H' dx = some (.xd [("at", v)])) : ExF H' (some dx) (.tuple [x]) := by
  cases h with
  | non => exact .atN e
  | int i => exact .atI e
  | bl _ => cases f
  | str _ => cases f
  | lst _ _ => cases f
  | tup _ _ => cases f
  | emp _ => cases f
  | scr _ => cases f
  | exc _ _ => cases f
  | ty _ => cases f
  | cls _ => cases f
/-- raise C(x) -/
theorem sd_raiseAt (hw : c.W = W) (h : EvA K c tr δ [x]) (hx : fldD x = true) (hr : R (.exc C (.tuple [x]) δ)) : SD K c (fun _ σ H => tMkO C (spInit K C) [] tr σ H fun cls d H' => W cls d σ H') δ N R := fun σ H D s _ _ q3 => by
  refine h σ H [] [] s _ fun vs H1 hl s1 => ?_
  obtain ⟨G, rn, e, r1, _⟩ := sta_split hl s1
  obtain ⟨v, rfl, hv⟩ := r1.one
  refine ⟨by show 1 ≤ 1000; decide, fun a ha => ⟨a, v, rfl, upd_same, fun dx h1 h2 => ⟨rfl, dx, [("at", v)], upd_same, ?_, ?_, ?_⟩⟩⟩
  · rw [upd_ne h2, upd_same]
  · rw [upd_ne h2] at h1
    exact h1
  · rw [upd_ne h2] at h1
    have eH : upd (del (upd (upd (upd H1 a (exo a C none)) dx (exd dx [("at", v)])) a (exo a C (some dx))) a) dx (.xd [("at", v)]) = upd H1 dx (.xd [("at", v)]) := by
      funext b
      by_cases hb : b = dx
      · rw [hb, upd_same, upd_same]
      · rw [upd_ne hb, upd_ne hb]
        by_cases hba : b = a
        · rw [hba, del_same, ha]
        · rw [del_ne hba, upd_ne hba, upd_ne hb, upd_ne hba]
    rw [eH]
    have r' := Run.new (o := .xd [("at", v)]) rn.h h1
    have z := q3 C (.tuple [x]) δ (some dx) σ _ hr ⟨_, rn.trans r', e.run r', exf_of hv hx upd_same⟩
    rw [hw] at z
    exact z
/-! ### isinstance, with a field -/
def rIsY (K : PySem.W.Frag) : List V → Hp → VK → Prop := fun xs H Q => ∃ (a C : Addr) (d : Option Addr) (tv : V) (cv : Value) (b : Bool), xs = [.ref a, tv] ∧ H a = some (exT (.ref C) d a) ∧ (d = none ∨ ∃ dd fs, d = some dd ∧ H dd = some (.xd fs)) ∧ ExcC K C ∧ (∀ u, RelV tv u → u = cv) ∧ PySem.W.kitOne K (.ref C) cv = some b ∧ Q (.bl b) H
theorem exc_inst {X : Cx} {pins : List (Addr × Obj)} {σ : L2.St} {H : Hp} {s : Shared} {a : Addr} {d : Option Addr} (I : Inv X pins σ H s) (ha : H a = some (exT (.ref C) d a)) (hd : d = none ∨ ∃ dd fs, d = some dd ∧ H dd = some (.xd fs)) : ∃ ox od, PySem.W.InstAt s.heap a ox C od := by
  obtain ⟨oe, vs, hget, hz, hdt⟩ := exT_at I.hok ha
  obtain ⟨oc, odc, oda, osl⟩ := oe
  obtain ⟨h1, h2⟩ := hz
  dsimp only at h1 h2 hdt
  subst h1 h2 hdt
  rcases hd with rfl | ⟨dd, fs, rfl, hdd⟩
  · exact ⟨_, none, hget, rfl, rfl, trivial⟩
  · have hx : ObjOk X.prog X.w H s.heap dd (.xd fs) := I.hok dd _ hdd
    obtain ⟨mA, hns, _⟩ := hx
    obtain ⟨od, ho, _⟩ := lookIn_ns hns
    exact ⟨_, some od, hget, rfl, rfl, ho⟩
theorem call_isY {X : Cx} : CallR X (.builtin "isinstance") (rIsY X.K) := by
  intro pins s σ H xs us Q I r h
  obtain ⟨a, C, d, tv, cv1, b, rfl, ha, hd, T, hcv, e, q⟩ := h
  cases r with
  | cons rx rr =>
    cases rr with
    | cons rt rr =>
      cases rr
      cases rx
      have ec := hcv _ rt
      subst ec
      obtain ⟨ox, od, J⟩ := exc_inst I ha hd
      have hcl : (PySem.W.clsIn X.K C).isSome = true := by
        obtain ⟨cd, hc, _⟩ := PySem.W.any_some T.hd
        rw [hc]
        rfl
      exact PySem.W.kia_one (PySem.W.kitx_exc hcl T.hg T.hk T.hs T.ha T.hn T.ht T.hm) I.kIn J e (fun z => nomatch z) fun tk => ⟨.bl b, H, I.kept (t' := tk) fun _ _ z => z, rfl, q⟩
theorem call_isYK {X : Cx} (K : PySem.W.Frag) (h : X.K = K) : CallR X (.builtin "isinstance") (rIsY K) := by subst h; exact call_isY
theorem exf_d {G H : Hp} {d : Option Addr} (ex : Ex G H) (xf : ExF G d f) : d = none ∨ ∃ dd fs, d = some dd ∧ H dd = some (.xd fs) := by
  cases xf with
  | non => exact .inl rfl
  | atI h => exact .inr ⟨_, _, rfl, ex _ _ h⟩
  | atN h => exact .inr ⟨_, _, rfl, ex _ _ h⟩
theorem cd_isYc {b : Bool} (T : ExcC K C) (e : PySem.W.kitOne K (.ref C) (.ref D) = some b) : CallD K (rIsY K) [dExc C f, dCls D] (.bool b) := fun G H vs ex r Q q => by
  obtain ⟨v, u, rfl, hv, hu⟩ := r.two
  obtain ⟨a, d, rfl, ha, xf⟩ := hv.exc_inv
  cases hu.cls_inv
  exact ⟨a, C, d, _, .ref D, b, rfl, ex _ _ ha, exf_d ex xf, T, fun u h => h, e, q _ G H (Run.refl ex) (.bl _)⟩
theorem cd_isYt {b : Bool} {n : String} (T : ExcC K C) (e : PySem.W.kitOne K (.ref C) (.type n) = some b) : CallD K (rIsY K) [dExc C f, dTy n] (.bool b) := fun G H vs ex r Q q => by
  obtain ⟨v, u, rfl, hv, hu⟩ := r.two
  obtain ⟨a, d, rfl, ha, xf⟩ := hv.exc_inv
  cases hu.ty_inv
  exact ⟨a, C, d, _, .type n, b, rfl, ex _ _ ha, exf_d ex xf, T, fun u h => h, e, q _ G H (Run.refl ex) (.bl _)⟩
/-! ### e.at, e an error that is held -/
def tAt (K : PySem.W.Frag) (n : Str) (te : TE) : TE := fun σ H Q => te σ H fun x H1 => ∃ (a C dd : Addr) (fs : List (Str × V)) (v : V), x = .ref a ∧ H1 a = some (exT (.ref C) (some dd) a) ∧ XfC K C ∧ PySem.W.findIn K (.ref C) n = some none ∧ H1 dd = some (.xd fs) ∧ fs.lookup n = some v ∧ Q v H1
theorem pe_at {X : Cx} {e : Expr} {n : Str} {pos : Pos} (he : PE X e te) (hb : attributeBase e n X.env (eval e X.env) = eval e X.env := by rfl) : PE X (.Attribute e n pos) (tAt X.K n te) := by
  refine ⟨fun pins s σ H Q I h => attr_of hb (thn (he.run pins s σ H _ I h) fun u s1 got => ?_)⟩
  obtain ⟨x, H1, I1, rx, a, C, dd, fs, v, rfl, ha, T, hno, hdd, l, q⟩ := got
  have eu : u = Value.ref a := rx
  subst eu
  obtain ⟨oe, vs, hget, hz, hdt⟩ := exT_at I1.hok ha
  have hx : ObjOk X.prog X.w H1 s1.heap dd (.xd fs) := I1.hok dd _ hdd
  obtain ⟨mA, hns, hr⟩ := hx
  obtain ⟨od, ho, hl⟩ := lookIn_ns hns
  obtain ⟨u, hu, ru⟩ := RelO.some_of (v := v) (o := mA n) (by rw [← l]; exact hr n)
  have J : PySem.W.InstAt s1.heap a oe C (some od) := ⟨hget, hz.1, by unfold PySem.W.notCls; rw [hdt] <;> rfl, by rw [hz.2]; exact ho⟩
  exact HandSPX.exc_get I1.kIn J T.ga T.gg T.exC (PySem.W.findObj_own T.hdC hno rfl (by rw [hl, hu])) (handed_of ru) ⟨v, H1, I1.tok _, ru, q⟩
theorem pe_atK {X : Cx} {e : Expr} {n : Str} {pos : Pos} (K : PySem.W.Frag) (h : X.K = K) (he : PE X e te) (hb : attributeBase e n X.env (eval e X.env) = eval e X.env := by rfl) : PE X (.Attribute e n pos) (tAt K n te) := by subst h; exact pe_at he hb
theorem ev_at (T : XfC K C) (no : PySem.W.findIn K (.ref C) "at" = some none) (h : EvD K c te δ (dExc C (.tuple [x]))) : EvD K c (tAt K "at" te) δ x := fun σ H ts td s Q q => h σ H ts td s _ fun v H1 s1 => by
  obtain ⟨G, rn, e, t⟩ := s1
  cases t with
  | cons hv t =>
    obtain ⟨a, d, rfl, ha, xf⟩ := hv.exc_inv
    cases xf with
    | @atI dd i hd => exact ⟨a, C, dd, _, .int i, rfl, rn.h _ _ ha, T, no, rn.h _ _ hd, rfl, q _ H1 ⟨G, rn, e, .cons (.int i) t⟩⟩
    | @atN dd hd => exact ⟨a, C, dd, _, .non, rfl, rn.h _ _ ha, T, no, rn.h _ _ hd, rfl, q _ H1 ⟨G, rn, e, .cons .non t⟩⟩
end
end Pd

namespace Pd
open PySem PySem.Spec PyProof.Rows L2
theorem pi_enumLK {X : Cx} {e : Expr} {ta : TA} {p pos tpos : Pos} {elts : List Expr} {kk : Nat} (K : PySem.W.Frag) (h : X.K = K) (hg : Gl X "enumerate") (hm : X.mg "enumerate" = none) (ha : PA X [e] ta) (hs : starEach [e] X.env = [(false, eval e X.env)] := by rfl) :
    PI X (.Tuple elts kk tpos) (.Call (.Name "enumerate" p) [e] [] pos) (iEnum K ta) := by subst h; exact pi_enum hg hm ha hs
/-- a tuple of an own new list and a thing -/
def tupF (K : PySem.W.Frag) (zs : List PyData) (y : PyData) : Hp → Hp → V → Hp → Prop := fun H0 G v H => ∃ tp p us w, v = .ref tp ∧ H tp = some (.tup [.ref p, w]) ∧ H0 p = none ∧ G p = none ∧ H p = some (.lst us) ∧ RpAll K G us zs ∧ Rp K G w y
section
variable {K : PySem.W.Frag} {c : Cc} {δ : DEnv} {ds zs : List PyData} {d x y : PyData} {te : TE} {tr : TA} {N : DEnv → Prop} {R : Rs → Prop} {t u : TS} {i j n m : Nat} {k : Int}
theorem iv_enumL (h : EvA K c tr δ [.list ds]) : IvD K c (iEnum K tr) δ (dEnum ds) := fun σ H ts td s R q => h σ H ts td s _ fun vs H1 hl s1 => by
  obtain ⟨G, rn, e, r1, r2⟩ := sta_split hl s1
  obtain ⟨v, rfl, hv⟩ := r1.one
  obtain ⟨a, xs, rfl, hp, r3⟩ := hv.lst_inv
  refine ⟨a, xs, rfl, SqL.of (rn.h _ _ hp), q _ G H1 rn e r2 ⟨fun i H hi ex => ?_, fun H ex => ⟨xs, SqL.of (ex _ _ hp), by rw [dEnum_len, r3.length]; exact Nat.le_refl _⟩, fun i H v H' d hd ex y => ?_⟩⟩
  · rw [dEnum_len] at hi
    obtain ⟨w, hw, _⟩ := r3.get (List.getElem?_eq_getElem hi)
    exact ⟨xs, w, SqL.of (ex _ _ hp), hw⟩
  · obtain ⟨T, x, rfl, nT, rfl, hx⟩ := y
    obtain ⟨z, hz, rfl⟩ := dEnum_get hd
    obtain ⟨w, hw, rw'⟩ := r3.get hz
    have z2 := hx xs (SqL.of (ex _ _ hp))
    rw [hw] at z2
    cases z2
    have r' := Run.new (o := .tup [.int (i : Nat), x]) ex nT
    exact ⟨_, r', .tup upd_same (.cons (.int _) (.cons (rw'.ex r'.g) .nil))⟩
/-- an item of an own list -/
theorem ev_ixO (h : δ[i]? = some (some (Cel.own ds))) (he : EvD K c te δ (.int k)) (ha : atI ds k = some d) : EvD K c (tOp (rIx K) (tVar i) te) δ d := fun σ H ts td s Q q => by
  obtain ⟨p, vs0, sp, _, _⟩ := sta_own s h
  refine ⟨_, sp, he σ H ts td s _ fun v H1 s1 => ?_⟩
  obtain ⟨G, rn, e, r⟩ := s1
  obtain ⟨p', vs, sp', hp, gp, ep, hw⟩ := e.own i ds h
  rw [sp] at sp'
  cases sp'
  cases r with
  | cons hv r =>
    obtain ⟨w, hw1, hw2⟩ := rp_at hw ha
    exact .inl ⟨p, vs, k, w, rfl, hv.int_inv, SqL.of ep, hw1, q w H1 ⟨G, rn, e, .cons hw2 r⟩⟩
/-- return (own list, e) -/
theorem sd_retTup (h : δ[i]? = some (some (Cel.own zs))) (he : EvD K c te δ y) (hr : R (.gen (tupF K zs y))) : SD K c (tRet (tTup (tCons (tVar i) (tCons te tNil)))) δ N R := fun σ H D s _ q2 _ => by
  obtain ⟨p, vs0, sp, _, _⟩ := sta_own s h
  refine ⟨_, sp, he σ H [] [] s _ fun w H1 s1 => ⟨by show 2 ≤ sizeLine; exact sz_le (by decide), fun tp hp => ?_⟩⟩
  obtain ⟨G, rn, e, r⟩ := s1
  obtain ⟨p', vs, sp', hp0, gp, ep, hw⟩ := e.own i zs h
  rw [sp] at sp'
  cases sp'
  cases r with
  | cons hy _ =>
    have r' := Run.newg (o := .tup [.ref p, w]) rn.h hp
    exact q2 _ _ _ hr ⟨G, rn.trans r', tp, p, vs, w, rfl, upd_same, hp0, gp, r'.k _ _ ep, hw, hy⟩
/-- a call that gives back such a tuple, its parts stored: the first is an own list -/
theorem sd_asgTup {sp : Sp} {E : XK} (h : EvA K c tr δ ds) (hs : ∀ vs H Q, (∃ G, Ex G H ∧ RpAll K G vs ds ∧ ∀ w G' H', Run G H G' H' → tupF K zs y H G' w H' → Q w H') → sp vs H Q E)
    (k : SD K c u ((δ.set n (some (Cel.own zs))).set m (some (Cel.val y))) N R) : SD K c (tSeq (tAsg (tCall sp [] E tr) (gTup K 2 (gCons (gName n) (gCons (gName m) gNil)))) u) δ N R := fun σ H D s q1 q2 q3 =>
  h σ H [] [] s _ fun vs H1 hv s1 => by
    obtain ⟨G, rn, e, r1, r2⟩ := sta_split hv s1
    show sp (vs ++ []) H1 _ E
    rw [List.append_nil]
    refine hs vs H1 _ ⟨G, rn.h, r1, fun w G' H' r' hf => ?_⟩
    obtain ⟨tp, p, us, x, rfl, ht, hp, gp, ep, hw, hy⟩ := hf
    refine ⟨tp, _, rfl, SqT.of ht, rfl, _, _, rfl, _, _, rfl, rfl, ?_⟩
    have s2 : StaN K c δ σ [x] [y] p zs H' := ⟨G', us, rn.trans r', e.run r', .cons hy .nil, rn.k.free hp, gp, ep, hw, own_ne e hp⟩
    have s4 : Sta K c (δ.set n (some (Cel.own zs))) (σ.set n (some (.ref p))) [x] [y] H' := s2.set
    exact k _ _ D s4.set q1 q2 q3
end
end Pd

namespace Pd
open PySem PySem.Spec PyProof.Rows L2
/-! ### a new list of new lists -/
inductive RowsAt (K : PySem.W.Frag) (H0 G H : Hp) : List V → List (List PyData) → Prop
  | nil : RowsAt K H0 G H [] []
  | cons {q : Addr} {us vs : List V} {ds : List PyData} {dss : List (List PyData)} : H0 q = none → G q = none → H q = some (.lst us) → RpAll K G us ds → RowsAt K H0 G H vs dss → RowsAt K H0 G H (.ref q :: vs) (ds :: dss)
def TreeAt (K : PySem.W.Frag) (H0 G H : Hp) (p : Addr) (vs : List V) (dss : List (List PyData)) : Prop := H0 p = none ∧ G p = none ∧ H p = some (.lst vs) ∧ V.ref p ∉ vs ∧ RowsAt K H0 G H vs dss
/-- a promise's outcome: such a list -/
def treeF (K : PySem.W.Frag) (dss : List (List PyData)) : Hp → Hp → V → Hp → Prop := fun H0 G v H => ∃ p vs, v = .ref p ∧ TreeAt K H0 G H p vs dss
abbrev dTree (dss : List (List PyData)) : PyData := .list (dss.map PyData.list)
def noOwnE (δ : DEnv) : Prop := ∀ (i : Nat) (es : List PyData), δ[i]? ≠ some (some (Cel.own es))
section
variable {K : PySem.W.Frag} {H0 H1 G H G' H' : Hp} {vs : List V} {ds : List PyData} {dss : List (List PyData)} {p : Addr}
theorem RowsAt.length (r : RowsAt K H0 G H vs dss) : vs.length = dss.length := by
  induction r with
  | nil => rfl
  | cons _ _ _ _ _ ih => rw [List.length_cons, List.length_cons, ih]
theorem RowsAt.run (r : RowsAt K H0 G H vs dss) (rn : Run G H G' H') : RowsAt K H0 G' H' vs dss := by
  induction r with
  | nil => exact .nil
  | cons h1 h2 h3 h4 _ ih =>
    obtain ⟨k1, k2⟩ := rn.own h2 h3
    exact .cons h1 k1 k2 (h4.ex rn.g) ih
theorem RowsAt.keep (r : RowsAt K H0 G H vs dss) (k : ∀ q, V.ref q ∈ vs → H' q = H q) : RowsAt K H0 G H' vs dss := by
  induction r with
  | nil => exact .nil
  | cons h1 h2 h3 h4 _ ih => exact .cons h1 h2 (by rw [k _ List.mem_cons_self]; exact h3) h4 (ih fun q hq => k q (List.mem_cons_of_mem _ hq))
theorem RowsAt.base (r : RowsAt K H0 G H vs dss) (k : ∀ q, H0 q = none → H1 q = none) : RowsAt K H1 G H vs dss := by
  induction r with
  | nil => exact .nil
  | cons h1 h2 h3 h4 _ ih => exact .cons (k _ h1) h2 h3 h4 ih
theorem RowsAt.mem (r : RowsAt K H0 G H vs dss) {v : V} (h : v ∈ vs) : ∃ q, v = .ref q ∧ H0 q = none ∧ G q = none ∧ ∃ us, H q = some (.lst us) := by
  induction r with
  | nil => cases h
  | cons h1 h2 h3 _ _ ih =>
    rcases List.mem_cons.mp h with rfl | h
    · exact ⟨_, rfl, h1, h2, _, h3⟩
    · exact ih h
theorem RowsAt.get {i : Nat} (r : RowsAt K H0 G H vs dss) (h : dss[i]? = some ds) : ∃ q us, vs[i]? = some (.ref q) ∧ H q = some (.lst us) ∧ RpAll K G us ds := by
  induction r generalizing i with
  | nil => simp at h
  | cons h1 h2 h3 h4 _ ih =>
    cases i with
    | zero =>
      have e := Option.some.inj h
      subst e
      exact ⟨_, _, rfl, h3, h4⟩
    | succ i => exact ih h
theorem RowsAt.rp (r : RowsAt K H0 G H vs dss) (e : Ex G G') (k : ∀ q, V.ref q ∈ vs → G' q = H q) : RpAll K G' vs (dss.map PyData.list) := by
  induction r with
  | nil => exact .nil
  | cons h1 h2 h3 h4 _ ih => exact .cons (.lst (by rw [k _ List.mem_cons_self]; exact h3) (h4.ex e)) (ih fun q hq => k q (List.mem_cons_of_mem _ hq))
theorem RowsAt.append (r : RowsAt K H0 G H vs dss) {q : Addr} {us : List V} (h1 : H0 q = none) (h2 : G q = none) (h3 : H q = some (.lst us)) (h4 : RpAll K G us ds) : RowsAt K H0 G H (vs ++ [.ref q]) (dss ++ [ds]) := by
  induction r with
  | nil => exact .cons h1 h2 h3 h4 .nil
  | cons g1 g2 g3 g4 _ ih => exact .cons g1 g2 g3 g4 ih
/-- .. as data, known -/
theorem TreeAt.know (t : TreeAt K H0 G H p vs dss) (e : Ex G H) : ∃ G1, Ex G G1 ∧ Ex G1 H ∧ Rp K G1 (.ref p) (dTree dss) ∧ G1 p = H p ∧ (∀ q, V.ref q ∈ vs → G1 q = H q) ∧ ∀ a o, G1 a = some o → G a = none → H0 a = none := by
  classical
  obtain ⟨t1, t2, t3, t4, t5⟩ := t
  let G1 : Hp := fun a => (G a).or (if a = p ∨ V.ref a ∈ vs then H a else none)
  have e1 : Ex G G1 := fun a o h => by
    show (G a).or _ = some o
    rw [h, Option.some_or]
  have g0 : ∀ a, G a = none → (a = p ∨ V.ref a ∈ vs) → G1 a = H a := fun a h1 h2 => by
    show (G a).or _ = H a
    rw [h1, Option.none_or, if_pos h2]
  have kp : G1 p = H p := g0 p t2 (.inl rfl)
  have kq : ∀ q, V.ref q ∈ vs → G1 q = H q := fun q hq => by
    obtain ⟨q', e', _, h2, _⟩ := t5.mem hq
    cases e'
    exact g0 q h2 (.inr hq)
  refine ⟨G1, e1, fun a o h => ?_, .lst (by rw [kp]; exact t3) (t5.rp e1 kq), kp, kq, fun a o h n => ?_⟩
  · have h' : (G a).or (if a = p ∨ V.ref a ∈ vs then H a else none) = some o := h
    cases q : G a with
    | some u =>
      rw [q, Option.some_or] at h'
      cases h'
      exact e a _ q
    | none =>
      rw [q, Option.none_or] at h'
      split at h'
      · exact h'
      · cases h'
  · have h' : (G a).or (if a = p ∨ V.ref a ∈ vs then H a else none) = some o := h
    rw [n, Option.none_or] at h'
    split at h'
    · rename_i hc
      rcases hc with rfl | hc
      · exact t1
      · obtain ⟨q', e', h1, _, _⟩ := t5.mem hc
        cases e'
        exact h1
    · cases h'
/-- a promise of such a list is kept where one of data is wanted -/
theorem gen_of_pr {us : List V} {Q : VK} (h : Pr K us H Q ds (dTree dss)) : ∃ G, Ex G H ∧ RpAll K G us ds ∧ ∀ w G' H', Run G H G' H' → treeF K dss H G' w H' → Q w H' := by
  obtain ⟨G, e, r, q⟩ := h
  refine ⟨G, e, r, fun w G' H' rn ht => ?_⟩
  obtain ⟨p, vs, rfl, t⟩ := ht
  obtain ⟨G1, e1, e2, rp, _, _, k⟩ := t.know rn.h
  exact q _ G1 H' ⟨rn.g.trans e1, e2, rn.k, fun a o h n => by
    cases z : G' a with
    | some u => exact rn.f a u z n
    | none => exact k a o h z⟩ rp
end
/-! ### states with such a list at slot i -/
def StaT (K : PySem.W.Frag) (c : Cc) (δ : DEnv) (σ : L2.St) (H : Hp) (i : Nat) (dss : List (List PyData)) : Prop :=
  ∃ G p vs, Run c.G c.H G H ∧ EnvOk K c.H G H σ δ ∧ noOwnE δ ∧ σ[i]? = some (some (V.ref p)) ∧ TreeAt K c.H G H p vs dss
def SDT (K : PySem.W.Frag) (c : Cc) (t : TS) (δ : DEnv) (i : Nat) (dss : List (List PyData)) (N : DEnv → Prop) (R : Rs → Prop) : Prop := ∀ (σ : L2.St) (H : Hp) (D : Ends), StaT K c δ σ H i dss →
  (∀ δ' σ' H', N δ' → Sta K c δ' σ' [] [] H' → D.nx σ' H') → (∀ r v H', R r → StaR K c r v H' → D.rt v H') →
  (∀ C f δ' d σ' H', R (.exc C f δ') → StaX K c δ' σ' H' d f → c.W (.ref C) d σ' H') → t D σ H
/-- what makes such a list -/
def EvTr (K : PySem.W.Frag) (c : Cc) (te : TE) (δ : DEnv) (dss : List (List PyData)) : Prop := ∀ (σ : L2.St) (H : Hp) (ts : List V) (td : List PyData), Sta K c δ σ ts td H → ∀ Q : VK, (∀ p vs G H', Run c.G c.H G H' → EnvOk K c.H G H' σ δ → TreeAt K c.H G H' p vs dss → Q (.ref p) H') → te σ H Q
section
variable {K : PySem.W.Frag} {c : Cc} {δ : DEnv} {ds es : List PyData} {dss : List (List PyData)} {d : PyData} {te : TE} {tr : TA} {tt : TT} {N : DEnv → Prop} {R : Rs → Prop} {t u w : TS} {i j n m : Nat} {b : Bool}
theorem noOwn_base {H0 H1 G H : Hp} {σ : L2.St} (e : EnvOk K H0 G H σ δ) (no : noOwnE δ) : EnvOk K H1 G H σ δ := ⟨e.len, e.val, fun i es h => absurd h (no i es), fun i j es fs h => absurd h (no i es)⟩
theorem noOwn_at {H0 G H H' : Hp} {σ : L2.St} (e : EnvOk K H0 G H σ δ) (no : noOwnE δ) : EnvOk K H0 G H' σ δ := ⟨e.len, e.val, fun i es h => absurd h (no i es), fun i j es fs h => absurd h (no i es)⟩
theorem noOwn_set (no : noOwnE δ) (x : Option Cel) (hx : ∀ es, x ≠ some (Cel.own es)) : noOwnE (δ.set j x) := fun i es h => by
  by_cases hj : i = j
  · subst hj
    by_cases hl : i < δ.length
    · rw [List.getElem?_set_self hl] at h
      exact hx es (Option.some.inj h)
    · rw [List.getElem?_eq_none (by rw [List.length_set]; omega)] at h
      cases h
  · rw [List.getElem?_set_ne (Ne.symm hj)] at h
    exact no i es h
theorem EnvOk.put {H0 G H : Hp} {σ : L2.St} (e : EnvOk K H0 G H σ δ) (x : Option V) : EnvOk K H0 G H (σ.set i x) (δ.set i none) := by
  have e1 := e.unset i
  have old : ∀ {j : Nat} {q : Cel}, (δ.set i none)[j]? = some (some q) → j ≠ i := fun {j q} h z => by
    subst z
    by_cases hl : j < δ.length
    · rw [List.getElem?_set_self hl] at h
      cases h
    · rw [List.getElem?_eq_none (by rw [List.length_set]; omega)] at h
      cases h
  have sm : ∀ {j : Nat}, j ≠ i → (σ.set i x)[j]? = (σ.set i none)[j]? := fun {j} h => by rw [List.getElem?_set_ne (Ne.symm h), List.getElem?_set_ne (Ne.symm h)]
  refine ⟨by rw [List.length_set, List.length_set, e.len], fun j d h => ?_, fun j es h => ?_, fun j k es fs h1 h2 h3 => ?_⟩
  · rw [sm (old h)]
    exact e1.val j d h
  · rw [sm (old h)]
    exact e1.own j es h
  · rw [sm (old h1), sm (old h2)] at h3
    exact e1.dis j k es fs h1 h2 h3
theorem set_same {σ : L2.St} {v : V} (h : σ[i]? = some (some v)) : σ.set i (some v) = σ := by
  apply List.ext_getElem?
  intro j
  by_cases hj : j = i
  · subst hj
    rw [List.getElem?_set_self (List.getElem?_eq_some_iff.mp h).1, h]
  · rw [List.getElem?_set_ne (Ne.symm hj)]
/-- the list known for a while -/
theorem StaT.lent {σ : L2.St} {H : Hp} (s : StaT K c δ σ H i dss) : ∃ G G1 p vs, Run c.G c.H G H ∧ EnvOk K c.H G H σ δ ∧ noOwnE δ ∧ σ[i]? = some (some (V.ref p)) ∧ TreeAt K c.H G H p vs dss ∧ Ex G G1 ∧ G1 p = H p ∧ (∀ q, V.ref q ∈ vs → G1 q = H q) ∧ Run G1 c.H G1 H ∧
    EnvOk K c.H G1 H σ (δ.set i (cv (dTree dss))) := by
  obtain ⟨G, p, vs, r, e, no, sp, t⟩ := s
  obtain ⟨G1, e1, e2, rp, kp, kq, _⟩ := t.know r.h
  refine ⟨G, G1, p, vs, r, e, no, sp, t, e1, kp, kq, ⟨Ex.refl _, e2, r.k, fun a o h n => by rw [h] at n; cases n⟩, ?_⟩
  have e3 : EnvOk K c.H G1 H σ δ := ⟨e.len, fun j d h => by
    obtain ⟨v, a, b⟩ := e.val j d h
    exact ⟨v, a, b.ex e1⟩, fun j es h => absurd h (no j es), fun j k es fs h => absurd h (no j es)⟩
  have e4 := e3.set (i := i) rp
  rwa [set_same sp] at e4
theorem tree_back {σ : L2.St} {G G1 H H' : Hp} {p : Addr} {vs : List V} (r : Run c.G c.H G H) (e : EnvOk K c.H G H σ δ) (no : noOwnE δ) (sp : σ[i]? = some (some (V.ref p))) (t : TreeAt K c.H G H p vs dss) (e1 : Ex G G1) (kp : G1 p = H p) (kq : ∀ q, V.ref q ∈ vs → G1 q = H q) (h3 : Ex G1 H') (k3 : Ex c.H H') :
    Run c.G c.H G H' ∧ EnvOk K c.H G H' σ δ ∧ TreeAt K c.H G H' p vs dss := by
  obtain ⟨t1, t2, t3, t4, t5⟩ := t
  refine ⟨⟨r.g, e1.trans h3, k3, r.f⟩, noOwn_at e no, t1, t2, h3 p _ (by rw [kp]; exact t3), t4, t5.keep fun q hq => ?_⟩
  obtain ⟨q', e', _, _, us, hu⟩ := t5.mem hq
  cases e'
  rw [hu]
  exact h3 q _ (by rw [kq q hq]; exact hu)
theorem sdt_ifS (h : ∀ c', EvT K c' tt (δ.set i (cv (dTree dss))) b) (h1 : b = true → SDT K c (tSeq t w) δ i dss N R) (h2 : b = false → SDT K c (tSeq u w) δ i dss N R) : SDT K c (tSeq (tIfS tt t u) w) δ i dss N R := fun σ H D s q1 q2 q3 => by
  obtain ⟨G, G1, p, vs, r, e, no, sp, tr, e1, kp, kq, rr, e4⟩ := s.lent
  refine h ⟨G1, c.H, c.W⟩ σ H [] [] ⟨G1, rr, e4, .nil⟩ _ fun H1 s1 => ?_
  obtain ⟨G2, r2, _, _⟩ := s1
  obtain ⟨a1, a2, a3⟩ := tree_back r e no sp tr e1 kp kq (r2.g.trans r2.h) r2.k
  have s2 : StaT K c δ σ H1 i dss := ⟨G, p, vs, a1, a2, no, sp, a3⟩
  cases b with
  | true => exact h1 rfl σ H1 D s2 q1 q2 q3
  | false => exact h2 rfl σ H1 D s2 q1 q2 q3
theorem sdt_nextS (k : SDT K c u δ i dss N R) : SDT K c (tSeq tNext u) δ i dss N R := k
theorem sdt_ret (f : flatD d = true) (h : ∀ c', EvD K c' te (δ.set i (cv (dTree dss))) d) (hr : R (.val d)) : SDT K c (tRet te) δ i dss N R := fun σ H D s q1 q2 q3 => by
  obtain ⟨G, G1, p, vs, r, e, no, sp, tr, e1, kp, kq, rr, e4⟩ := s.lent
  refine h ⟨G1, c.H, c.W⟩ σ H [] [] ⟨G1, rr, e4, .nil⟩ _ fun v H1 s1 => ?_
  obtain ⟨G2, r2, _, t2⟩ := s1
  obtain ⟨a1, a2, a3⟩ := tree_back r e no sp tr e1 kp kq (r2.g.trans r2.h) r2.k
  cases t2 with
  | cons hv _ => exact q2 _ v H1 hr ⟨G, a1, rp_flat hv f⟩
theorem sdt_retS (h : SDT K c (tRet te) δ i dss N R) : SDT K c (tSeq (tRet te) u) δ i dss N R := h
/-- x = e, e without the list -/
theorem sdt_asgS (h : ∀ c', EvD K c' te δ d) (hn : n ≠ i) (k : SDT K c u (δ.set n (cv d)) i dss N R) : SDT K c (tSeq (tAsg te (gName n)) u) δ i dss N R := fun σ H D s q1 q2 q3 => by
  obtain ⟨G, p, vs, r, e, no, sp, t1, t2, t3, t4, t5⟩ := s
  refine h ⟨G, H, c.W⟩ σ H [] [] ⟨G, Run.refl r.h, noOwn_base e no, .nil⟩ _ fun v H1 s1 => ?_
  obtain ⟨G2, r2, e2, v2⟩ := s1
  cases v2 with
  | cons hv _ =>
    obtain ⟨k1, k2⟩ := r2.own t2 t3
    refine k _ H1 D ⟨G2, p, vs, r.trans r2, (noOwn_base (H1 := c.H) e2 no).set hv, noOwn_set no _ (fun es z => by cases z), ?_, t1, k1, k2, t4, t5.run r2⟩ q1 q2 q3
    rw [List.getElem?_set_ne hn]
    exact sp
/-- x = f(..), a list of lists comes -/
theorem sd_asgTree {sp : Sp} {E : XK} (h : EvA K c tr δ ds) (hs : ∀ vs H Q, (∃ G, Ex G H ∧ RpAll K G vs ds ∧ ∀ w G' H', Run G H G' H' → treeF K dss H G' w H' → Q w H') → sp vs H Q E) (hi : i < δ.length) (no : noOwnE δ) (k : SDT K c u (δ.set i none) i dss N R) :
    SD K c (tSeq (tAsg (tCall sp [] E tr) (gName i)) u) δ N R := fun σ H D s q1 q2 q3 =>
  h σ H [] [] s _ fun vs H1 hv s1 => by
    obtain ⟨G, rn, e, r1, r2⟩ := sta_split hv s1
    show sp (vs ++ []) H1 _ E
    rw [List.append_nil]
    refine hs vs H1 _ ⟨G, rn.h, r1, fun w G' H' r' hf => ?_⟩
    obtain ⟨p, us, rfl, t1, t2, t3, t4, t5⟩ := hf
    refine k _ H' D ⟨G', p, us, rn.trans r', (e.run r').put _, noOwn_set no _ (fun es z => by cases z), ?_, rn.k.free t1, t2, t3, t4, t5.base fun q hq => rn.k.free hq⟩ q1 q2 q3
    rw [List.getElem?_set_self (by rw [e.len]; exact hi)]
/-- for x in xs: if test: .., the test false at each -/
theorem sdt_forS (hn : n ≠ i) (hnl : n < δ.length) (h : ∀ row, row ∈ dss → ∀ c', EvT K c' tt ((δ.set i (cv (dTree dss))).set n (cv (.list row))) false) (next : SDT K c u (δ.set n none) i dss N R) : SDT K c (tSeq (tFor (iSeq K (tVar i)) (gName n) (tIfS tt t tNext)) u) δ i dss N R := fun σ H D s q1 q2 q3 => by
  obtain ⟨G, p, vs, r, e, no, sp, tr⟩ := s
  have no2 : noOwnE (δ.set n none) := noOwn_set no _ (fun es z => by cases z)
  refine ⟨.ref p, sp, p, rfl, .inl ⟨⟨vs, SqL.of tr.2.2.1⟩, ?_⟩⟩
  refine ⟨fun k m σ' H' => m = dss.length - k ∧ k ≤ dss.length ∧ σ'[i]? = some (some (V.ref p)) ∧ StaT K c (δ.set n none) σ' H' i dss, ⟨_, rfl, Nat.zero_le _, sp, G, p, vs, r, ?_, no2, sp, tr⟩, ?_⟩
  · have hl : n < σ.length := by rw [e.len]; exact hnl
    have e5 : EnvOk K c.H G H (σ.set n σ[n]) (δ.set n none) := e.put σ[n]
    have e6 : σ.set n σ[n] = σ := List.set_getElem_self hl
    rwa [e6] at e5
  rintro k m σ' H' ⟨rfl, hk, sp', s'⟩
  obtain ⟨G', p', vs', r', e', no', sp2, tr'⟩ := id s'
  have hpp : p' = p := by
    rw [sp'] at sp2
    cases sp2
    rfl
  subst hpp
  have hlen := tr'.2.2.2.2.length
  by_cases hlt : k < dss.length
  · have hdk : dss[k]? = some dss[k] := List.getElem?_eq_getElem hlt
    obtain ⟨q, us, hq, hu, _⟩ := tr'.2.2.2.2.get hdk
    refine .inr ⟨⟨vs', .ref q, SqL.of tr'.2.2.1, hq⟩, fun σ2 H2 => σ2[i]? = some (some (V.ref p')) ∧ StaT K c (δ.set n none) σ2 H2 i dss, fun σ2 H2 ⟨a, b⟩ => ⟨dss.length - (k + 1), by omega, rfl, hlt, a, b⟩, fun v H2 y => ?_⟩
    obtain ⟨rfl, hy⟩ := y
    have hvq := hy vs' (SqL.of tr'.2.2.1)
    rw [hq] at hvq
    cases hvq
    show tIfS tt t tNext _ (σ'.set n (some (.ref q))) H2
    have sp3 : (σ'.set n (some (V.ref q)))[i]? = some (some (V.ref p')) := by rw [List.getElem?_set_ne hn]; exact sp'
    have s2 : StaT K c (δ.set n none) (σ'.set n (some (V.ref q))) H2 i dss := by
      refine ⟨G', p', vs', r', ?_, no2, sp3, tr'⟩
      have e5 := e'.put (i := n) (some (.ref q))
      rwa [List.set_set] at e5
    obtain ⟨G0, G1, p2, vs2, r3, e3, no3, sp4, tr3, e1, kp, kq, rr, e4⟩ := s2.lent
    have hp2 : p2 = p' := by
      rw [sp3] at sp4
      cases sp4
      rfl
    subst hp2
    have hrow : Rp K G1 (.ref q) (.list dss[k]) := by
      obtain ⟨q', us', hq', hu', hr'⟩ := tr3.2.2.2.2.get hdk
      have hvv : vs2 = vs' := by
        have z1 := tr3.2.2.1
        rw [tr'.2.2.1] at z1
        cases z1
        rfl
      subst hvv
      rw [hq] at hq'
      cases hq'
      exact .lst (by rw [kq q (List.mem_of_getElem? hq)]; exact hu') (hr'.ex e1)
    have e7 := e4.set (i := n) hrow
    have e8 : ((δ.set n none).set i (cv (dTree dss))).set n (cv (.list dss[k])) = (δ.set i (cv (dTree dss))).set n (cv (.list dss[k])) := by
      rw [List.set_comm _ _ hn, List.set_set]
    rw [show (σ'.set n (some (V.ref q))).set n (some (.ref q)) = σ'.set n (some (V.ref q)) by rw [List.set_set], e8] at e7
    refine h dss[k] (List.getElem_mem hlt) ⟨G1, c.H, c.W⟩ (σ'.set n (some (V.ref q))) H2 [] [] ⟨G1, rr, e7, .nil⟩ _ fun H3 s3 => ?_
    obtain ⟨G3, r4, _, _⟩ := s3
    obtain ⟨a1, a2, a3⟩ := tree_back r3 e3 no3 sp4 tr3 e1 kp kq (r4.g.trans r4.h) r4.k
    exact ⟨sp3, G0, p2, vs2, a1, a2, no3, sp4, a3⟩
  · have ek : k = dss.length := by omega
    subst ek
    exact .inl ⟨⟨vs', SqL.of tr'.2.2.1, by rw [hlen]; exact Nat.le_refl _⟩, next σ' H' D s' q1 q2 q3⟩
/-- y = [list(x) for x in xs] -/
theorem sdt_keptS (hn : n ≠ i) (hnl : n < δ.length) (hm : m ≠ i) (hz : dss.length < 100000) (next : SDT K c u (δ.set m (cv (dTree dss))) i dss N R) :
    SDT K c (tSeq (tAsg (tLc (iSeq K (tVar i)) (gName n) tYes (tCB (rListP K) (tCons (tVar n) tNil)) [n]) (gName m)) u) δ i dss N R := fun σ H D s q1 q2 q3 => by
  obtain ⟨G, p, vs, r, e, no, sp, tr⟩ := s
  have hlen := tr.2.2.2.2.length
  refine ⟨.ref p, sp, p, rfl, .inl ⟨⟨vs, SqL.of tr.2.2.1⟩, fun l hl => ?_⟩⟩
  have gl : G l = none := r.h.free hl
  refine ⟨fun k m H' => m = dss.length - k ∧ k ≤ dss.length ∧ ∃ G' acc, Run G H G' H' ∧ G' l = none ∧ H' l = some (.lst acc) ∧ RpAll K G' acc ((dss.take k).map PyData.list), ⟨_, rfl, Nat.zero_le _, G, [], Run.newg r.h hl, gl, upd_same, .nil⟩, ?_⟩
  rintro k m' H' ⟨rfl, hk, G', acc, rn, gl', hl', hacc⟩
  have tr' : TreeAt K c.H G' H' p vs dss := by
    obtain ⟨t1, t2, t3, t4, t5⟩ := tr
    obtain ⟨k1, k2⟩ := rn.own t2 t3
    exact ⟨t1, k1, k2, t4, t5.run rn⟩
  by_cases hlt : k < dss.length
  · have hdk : dss[k]? = some dss[k] := List.getElem?_eq_getElem hlt
    obtain ⟨q, us, hq, hu, hru⟩ := tr'.2.2.2.2.get hdk
    refine .inr ⟨⟨vs, .ref q, SqL.of tr'.2.2.1, hq⟩, fun H2 => ∃ G2 acc2, Run G H G2 H2 ∧ G2 l = none ∧ H2 l = some (.lst acc2) ∧ RpAll K G2 acc2 ((dss.take (k + 1)).map PyData.list), fun H2 hh => ⟨dss.length - (k + 1), by omega, rfl, hlt, hh⟩, fun v H2 y => ?_⟩
    obtain ⟨rfl, hy⟩ := y
    have hvq := hy vs (SqL.of tr'.2.2.1)
    rw [hq] at hvq
    cases hvq
    refine ⟨?_, ?_⟩
    · exact wipe_same (vs := [n]) (fun j hj => by rw [List.getElem?_set_ne (fun z => hj (by simp [z]))]; rw [wipe_get, if_neg (fun z => hj z.1)]) (by rw [List.length_set, wipe_length])
    dsimp only [tYes]
    rw [if_pos rfl]
    have hwn : n < (wipe σ [n]).length := by rw [wipe_length, e.len]; exact hnl
    · refine ⟨.ref q, by rw [List.getElem?_set_self hwn], q, us, rfl, .inl (SqL.of hu), fun b hb => ?_⟩
      have r2 := Run.new (o := .lst us) rn.h hb
      have hbl : l ≠ b := fun z => by
        rw [z, hb] at hl'
        cases hl'
      refine ⟨acc, by rw [upd_ne hbl]; exact hl', sz_lt (by rw [hacc.length, List.length_map, List.length_take]; omega), upd G' b (.lst us), acc ++ [.ref b], ?_, by rw [upd_ne hbl]; exact gl', upd_same, ?_⟩
      · exact (rn.trans r2).mut (by rw [upd_ne hbl]; exact gl') hl
      · rw [List.take_add_one, hdk, Option.toList_some, List.map_append]
        exact (hacc.ex r2.g).append (.cons (.lst upd_same (hru.ex r2.g)) .nil)
  · have ek : k = dss.length := by omega
    subst ek
    rw [List.take_length] at hacc
    have r3 : Run G H (upd G' l (.lst acc)) H' := rn.know gl' hl hl'
    have e3 : EnvOk K c.H (upd G' l (.lst acc)) H' σ δ := noOwn_at (⟨e.len, fun j d h => by
      obtain ⟨v, a, b⟩ := e.val j d h
      exact ⟨v, a, b.ex r3.g⟩, fun j es h => absurd h (no j es), fun j k es fs h => absurd h (no j es)⟩ : EnvOk K c.H (upd G' l (.lst acc)) H σ δ) no
    have tr3 : TreeAt K c.H (upd G' l (.lst acc)) H' p vs dss := by
      obtain ⟨t1, t2, t3, t4, t5⟩ := tr
      obtain ⟨k1, k2⟩ := r3.own t2 t3
      exact ⟨t1, k1, k2, t4, t5.run r3⟩
    have e4 := e3.set (i := m) (v := .ref l) (d := dTree dss) (.lst upd_same (hacc.ex (Ex.new gl')))
    exact .inl ⟨⟨vs, SqL.of tr'.2.2.1, by rw [hlen]; exact Nat.le_refl _⟩, next _ H' D ⟨_, p, vs, r.trans r3, e4, noOwn_set no _ (fun es z => by cases z), by rw [List.getElem?_set_ne hm]; exact sp, tr3⟩ q1 q2 q3⟩
/-- xs[0].append(0); xs.append(0): the list is let go -/
theorem sdt_app2S {a b : Int} {row : List PyData} {rest : List (List PyData)} (hd : dss = row :: rest) (hz : row.length < 100000) (hz2 : dss.length < 100000) (next : SD K c u δ N R) :
    SDT K c (tSeq (tDrop (tBM K "list" rAppend (tOp (rIx K) (tVar i) (tC (.int 0))) (tCons (tC (.int a)) tNil))) (tSeq (tDrop (tBM K "list" rAppend (tVar i) (tCons (tC (.int b)) tNil))) u)) δ i dss N R := fun σ H D s q1 q2 q3 => by
  obtain ⟨G, p, vs, r, e, no, sp, t1, t2, t3, t4, t5⟩ := s
  subst hd
  have hlen := t5.length
  cases t5 with
  | @cons q us vs' _ _ g1 g2 g3 g4 t5 =>
    have hqp : q ≠ p := fun z => t4 (by rw [z]; exact List.mem_cons_self)
    refine ⟨_, sp, .inl ⟨p, _, 0, .ref q, rfl, rfl, SqL.of t3, (by show atI _ ((0 : Nat) : Int) = _; exact atI_nat rfl), .inl ⟨rfl, us, SqL.of g3⟩, q, us, .int a, rfl, rfl, g3, sz_lt (by rw [g4.length]; exact hz), ?_⟩⟩
    have t3' : (upd H q (.lst (us ++ [.int a]))) p = some (.lst (.ref q :: vs')) := by rw [upd_ne (Ne.symm hqp)]; exact t3
    refine ⟨_, sp, .inl ⟨rfl, _, SqL.of t3'⟩, p, _, .int b, rfl, rfl, t3', sz_lt (by rw [hlen]; exact hz2), ?_⟩
    exact next σ _ D ⟨G, (r.mut g2 g1).mut t2 t1, noOwn_at e no, .nil⟩ q1 q2 q3
/-! ### what makes such a list -/
theorem sd_retTree (h : EvTr K c te δ dss) (hr : R (.gen (treeF K dss))) : SD K c (tRet te) δ N R := fun σ H D s _ q2 _ => h σ H [] [] s _ fun p vs G H' rn _ t => q2 _ _ H' hr ⟨G, rn, p, vs, rfl, t⟩
theorem ev_tr_one : EvTr K c (tLst (tCons (tLst tNil) tNil)) δ [[]] := fun σ H ts td s Q q => by
  obtain ⟨G, rn, e, _⟩ := s
  refine ⟨by show 0 ≤ sizeLine; exact Nat.zero_le _, fun b hb => ?_⟩
  refine ⟨by show 1 ≤ sizeLine; exact sz_le (by decide), fun l hl => ?_⟩
  have r1 := Run.newg (o := .lst []) rn.h hb
  have r2 := Run.newg (o := .lst [V.ref b]) r1.h hl
  have hlb : l ≠ b := fun z => by
    rw [z, upd_same] at hl
    cases hl
  have hl0 : H l = none := by rwa [upd_ne hlb] at hl
  exact q l [.ref b] G _ ((rn.trans r1).trans r2) ((e.run r1).run r2) ⟨rn.k.free hl0, rn.h.free hl0, upd_same, fun z => hlb (by cases z with | head => rfl | tail _ h => cases h), .cons (rn.k.free hb) (rn.h.free hb) (by rw [upd_ne (Ne.symm hlb), upd_same]) .nil .nil⟩
/-- [[..] for x in xs] -/
theorem ev_tr_lc {ti : TI} {g : TG} {js vs : List Nat} {Tg : PyData → DEnv → DEnv} (f : PyData → List PyData) (hi : IvD K c ti δ ds) (hz : ds.length < 100000) (hg : ∀ d, d ∈ ds → TgD K g js d (cleanE δ vs) (Tg d (cleanE δ vs))) (hj : ∀ i, i ∈ js → i ∈ vs)
    (hb : ∀ (c' : Cc), ∀ d, d ∈ ds → EvN K c' te (Tg d (cleanE δ vs)) (f d)) : EvTr K c (tLc ti g tYes te vs) δ (ds.map f) := fun σ H ts td s Q q => by
  refine hi σ H ts td s _ fun J G1 H1 rn e rt it => ?_
  intro p hp
  have gp1 : G1 p = none := rn.h.free hp
  have hp0 : c.H p = none := rn.k.free hp
  refine ⟨fun k m H' => m = ds.length - k ∧ k ≤ ds.length ∧ ∃ G' acc, Run G1 H1 G' H' ∧ G' p = none ∧ H' p = some (.lst acc) ∧ V.ref p ∉ acc ∧ RowsAt K c.H G' H' acc ((ds.take k).map f), ⟨_, rfl, Nat.zero_le _, G1, [], Run.newg rn.h hp, gp1, upd_same, (fun z => by cases z), .nil⟩, ?_⟩
  rintro k m H' ⟨rfl, hk, G', acc, rn', gp, ep, npa, rows⟩
  have ex : Ex G1 H' := rn'.g.trans rn'.h
  by_cases hlt : k < ds.length
  · refine .inr ⟨it.go k H' hlt ex, fun H2 => ∃ G2 acc2, Run G1 H1 G2 H2 ∧ G2 p = none ∧ H2 p = some (.lst acc2) ∧ V.ref p ∉ acc2 ∧ RowsAt K c.H G2 H2 acc2 ((ds.take (k + 1)).map f), fun H2 hh => ⟨ds.length - (k + 1), by omega, rfl, hlt, hh⟩, fun v H2 y => ?_⟩
    have hdi : ds[k]? = some ds[k] := List.getElem?_eq_getElem hlt
    have hmem : ds[k] ∈ ds := List.getElem_mem hlt
    obtain ⟨G2, r2, hv⟩ := it.more rn' hdi y
    have hE := hb ⟨G2, H2, c.W⟩ _ hmem
    refine hg _ hmem ⟨G2, H2, c.W⟩ (L2.wipe σ vs) H2 v [] [] ⟨G2, Run.refl r2.h, (((e.run rn').run r2).clean vs), .cons hv .nil⟩ _ fun σ2 s2 k2 l2 => ⟨?_, ?_⟩
    · rw [wipe_same (σ := L2.wipe σ vs) (fun i hi => k2 i fun z => hi (hj i z)) l2, wipe_wipe]
    dsimp only [tYes]
    rw [if_pos rfl]
    refine hE σ2 H2 [] [] s2 _ fun b H3 s3 => ?_
    obtain ⟨G3, us, r3, _, _, hb0, gb, eb, hus, _⟩ := s3
    have r23 : Run G' H' G3 H3 := r2.trans r3
    obtain ⟨gp3, ep3⟩ := r23.own gp ep
    have hbH' : H' b = none := r2.k.free hb0
    have hbp : b ≠ p := fun z => by
      rw [z, ep] at hbH'
      cases hbH'
    have hbH1 : H1 b = none := by
      cases w : H1 b with
      | none => rfl
      | some o =>
        have z := rn'.k b o w
        rw [hbH'] at z
        cases z
    have rows3 := rows.run r23
    have rows4 := rows3.append (q := b) (us := us) (ds := f ds[k]) (rn.k.free hbH1) gb eb hus
    refine ⟨acc, ep3, sz_lt (by rw [rows.length, List.length_map, List.length_take]; omega), G3, acc ++ [.ref b], (rn'.trans r23).mut gp3 hp, gp3, upd_same, fun z => ?_, ?_⟩
    · rcases List.mem_append.mp z with z | z
      · exact npa z
      · have z' := List.mem_singleton.mp z
        exact hbp (by cases z'; rfl)
    · rw [List.take_add_one, hdi, Option.toList_some, List.map_append]
      refine rows4.keep fun q hq => upd_ne fun z => ?_
      rcases List.mem_append.mp hq with hq | hq
      · exact npa (by rw [← z]; exact hq)
      · have z' := List.mem_singleton.mp hq
        exact hbp (by cases z'; exact z)
  · have ek : k = ds.length := by omega
    subst ek
    rw [List.take_length] at rows
    exact .inl ⟨it.stop H' ex, q p acc G' H' (rn.trans rn') (e.run rn') ⟨hp0, gp, ep, npa, rows⟩⟩
end
end Pd

/-! the mathematics, 6: near moves, the row told -/
namespace Peg
def nearB (s : List Pg) (m : Nat × Pg) : Bool := match s[m.1]? with
  | some q => decide (q.val = m.2.val + 1 ∨ m.2.val = q.val + 1)
  | none => false
def nearMs (s : List Pg) : List (Nat × Pg) := (may s).filter (nearB s)
theorem near_iff : ∀ s : List Pg, ∀ m ∈ may s, (nearB s m = true ↔ rn (aft s m) = rn s + 1 ∨ rn (aft s m) + 1 = rn s) := by
  refine snoc_ind (fun m hm => absurd hm (by intro h; cases h)) fun t q ih m hm => ?_
  rw [may_snoc] at hm
  rcases List.mem_append.mp hm with hm | hm
  · have hl := may_len hm
    have h1 := ih m hm
    rw [aft_lt hl]
    have h2 : nearB (t ++ [q]) m = nearB t m := by
      unfold nearB
      rw [List.getElem?_append_left hl]
    rw [h2, h1]
    have e1 := rn_cases t
    have e2 := rn_cases (aft t m)
    rw [aft_len] at e2
    have l1 := rn_lt t
    have l2 := rn_lt (aft t m)
    rw [aft_len] at l2
    rcases pg3 q with rfl | rfl | rfl <;> omega
  · obtain ⟨h1, h2, h3⟩ := mem_topM.mp hm
    obtain ⟨d, p⟩ := m
    dsimp only at h1 h2 h3
    subst h1
    rw [aft_top]
    have hn : nearB (t ++ [q]) (t.length, p) = decide (q.val = p.val + 1 ∨ p.val = q.val + 1) := by
      unfold nearB
      dsimp only
      rw [List.getElem?_concat_length]
    rw [hn, decide_eq_true_iff]
    have e := rn_cases t
    have he := rn_ends t
    have hp := p3 t.length
    have hl := rn_lt t
    have v0 : ((0 : Pg).val = 0) := rfl
    have v1 : ((1 : Pg).val = 1) := rfl
    have v2 : ((2 : Pg).val = 2) := rfl
    rcases pg3 q with rfl | rfl | rfl <;> rcases pg3 p with rfl | rfl | rfl
    · exact absurd rfl h2
    · have z := he.2.mpr h3
      rw [v0, v1]
      omega
    · rw [v0, v2]
      omega
    · have z := he.2.mpr h3
      rw [v0, v1]
      omega
    · exact absurd rfl h2
    · have z := he.1.mpr h3
      rw [v1, v2]
      omega
    · rw [v0, v2]
      omega
    · have z := he.1.mpr h3
      rw [v1, v2]
      omega
    · exact absurd rfl h2
theorem near_up {s : List Pg} (h : rn s + 1 < 3 ^ s.length) : ∃ m ∈ nearMs s, rn (aft s m) = rn s + 1 := by
  obtain ⟨m, hm, e⟩ := (rn_near s).1 h
  exact ⟨m, List.mem_filter.mpr ⟨hm, (near_iff s m hm).mpr (.inl e)⟩, e⟩
theorem near_dn {s : List Pg} (h : 0 < rn s) : ∃ m ∈ nearMs s, rn (aft s m) + 1 = rn s := by
  obtain ⟨m, hm, e⟩ := (rn_near s).2 h
  exact ⟨m, List.mem_filter.mpr ⟨hm, (near_iff s m hm).mpr (.inr e)⟩, e⟩
theorem may_ne {s : List Pg} {m : Nat × Pg} (h : m ∈ may s) : s[m.1]? ≠ some m.2 := fun z => by
  obtain ⟨o, h1, h2, _⟩ := mem_may.mp h
  rw [h1] at z
  exact h2 (Option.some.inj z).symm
theorem aft_at {s : List Pg} {m : Nat × Pg} (h : m ∈ may s) : (aft s m)[m.1]? = some m.2 := by
  unfold aft
  rw [List.getElem?_set_self (may_len h)]
theorem aft_inj {s : List Pg} {m n : Nat × Pg} (hm : m ∈ may s) (hn : n ∈ may s) (e : aft s m = aft s n) : m = n := by
  have h1 := aft_at hm
  by_cases h : m.1 = n.1
  · rw [e, h, aft_at hn] at h1
    exact Prod.ext h (Option.some.inj h1).symm
  · rw [e] at h1
    unfold aft at h1
    rw [List.getElem?_set_ne (Ne.symm h)] at h1
    exact absurd h1 (may_ne hm)
/-- the numbers beside -/
def beside (s : List Pg) : List Nat := (if 0 < rn s then [rn s - 1] else []) ++ (if rn s + 1 < 3 ^ s.length then [rn s + 1] else [])
theorem map_nodup {α β : Type} (f : α → β) : ∀ {l : List α}, l.Nodup → (∀ a ∈ l, ∀ b ∈ l, f a = f b → a = b) → (l.map f).Nodup
  | [], _, _ => List.nodup_nil
  | a :: l, h, hf => by
    rw [List.map_cons, List.nodup_cons]
    have h' := List.nodup_cons.mp h
    refine ⟨fun z => ?_, map_nodup f h'.2 fun x hx y hy => hf x (List.mem_cons_of_mem _ hx) y (List.mem_cons_of_mem _ hy)⟩
    obtain ⟨b, hb, e⟩ := List.mem_map.mp z
    have := hf b (List.mem_cons_of_mem _ hb) a List.mem_cons_self e
    subst this
    exact h'.1 hb
theorem near_perm (s : List Pg) : ((nearMs s).map fun m => rn (aft s m)).Perm (beside s) := by
  refine (List.perm_ext_iff_of_nodup ?_ ?_).mpr fun k => ?_
  · refine map_nodup _ ((may_nodup s).filter _) fun a ha b hb e => ?_
    have h1 := (List.mem_filter.mp ha).1
    have h2 := (List.mem_filter.mp hb).1
    exact aft_inj h1 h2 (rn_inj _ _ (by rw [aft_len, aft_len]) e)
  · unfold beside
    split <;> split <;> simp <;> omega
  · rw [List.mem_map]
    constructor
    · rintro ⟨m, hm, rfl⟩
      obtain ⟨h1, h2⟩ := List.mem_filter.mp hm
      have h3 := (near_iff s m h1).mp h2
      have h4 := rn_lt (aft s m)
      rw [aft_len] at h4
      unfold beside
      rcases h3 with h3 | h3
      · rw [if_pos (show rn s + 1 < 3 ^ s.length by omega), h3]
        exact List.mem_append_right _ List.mem_cons_self
      · rw [if_pos (show 0 < rn s by omega), show rn (aft s m) = rn s - 1 by omega]
        exact List.mem_append_left _ List.mem_cons_self
    · intro hk
      unfold beside at hk
      rcases List.mem_append.mp hk with hk | hk
      · split at hk
        · rename_i h
          obtain ⟨m, hm, e⟩ := near_dn h
          have : k = rn s - 1 := by simpa using hk
          exact ⟨m, hm, by omega⟩
        · cases hk
      · split at hk
        · rename_i h
          obtain ⟨m, hm, e⟩ := near_up h
          have : k = rn s + 1 := by simpa using hk
          exact ⟨m, hm, by omega⟩
        · cases hk
theorem beside_uniq {s : List Pg} {l : List Int} (hp : l.Perm ((nearMs s).map fun m => ((rn (aft s m) : Nat) : Int))) (hs : l.Pairwise (· ≤ ·)) : l = (beside s).map fun k : Nat => (k : Int) := by
  have h1 : l.Perm ((beside s).map fun k : Nat => (k : Int)) := by
    refine hp.trans ?_
    have := (near_perm s).map (fun k : Nat => (k : Int))
    rwa [List.map_map] at this
  have h2 : ((beside s).map fun k : Nat => (k : Int)).Pairwise (· ≤ ·) := by
    unfold beside
    split <;> split <;> simp <;> omega
  refine List.Perm.eq_of_pairwise (le := fun (a b : Int) => decide (a ≤ b)) ?_ ?_ ?_ h1
  · intro a b _ _ x y
    have := of_decide_eq_true x
    have := of_decide_eq_true y
    omega
  · exact hs.imp fun x => decide_eq_true x
  · exact h2.imp fun x => decide_eq_true x
/-! ### the setting of a number -/
def rowS : Nat → Nat → List Pg
  | 0, _ => []
  | n + 1, k => rowS n (if k / 3 ^ n = 1 then 3 ^ n - 1 - k % 3 ^ n else k % 3 ^ n) ++ [pgN (k / 3 ^ n)]
theorem rowS_len : ∀ n k : Nat, (rowS n k).length = n
  | 0, _ => rfl
  | n + 1, k => by
    rw [rowS, List.length_append, rowS_len]
    rfl
theorem rowS_rn : ∀ n k : Nat, k < 3 ^ n → rn (rowS n k) = k
  | 0, k, h => by
    have : k = 0 := by
      have : 3 ^ 0 = 1 := rfl
      omega
    subst this
    rfl
  | n + 1, k, h => by
    have hp := p3 n
    have h3 := p3s n
    have hq : k / 3 ^ n < 3 := (Nat.div_lt_iff_lt_mul hp).mpr (by omega)
    have hr : k % 3 ^ n < 3 ^ n := Nat.mod_lt _ hp
    have hd := Nat.div_add_mod k (3 ^ n)
    rw [rowS]
    generalize k / 3 ^ n = q at *
    generalize k % 3 ^ n = r at *
    have ih := rowS_rn n (if q = 1 then 3 ^ n - 1 - r else r) (by split <;> omega)
    have hl := rowS_len n (if q = 1 then 3 ^ n - 1 - r else r)
    generalize rowS n (if q = 1 then 3 ^ n - 1 - r else r) = s at ih hl ⊢
    have e := rn_cases s
    rw [hl] at e
    have : q = 0 ∨ q = 1 ∨ q = 2 := by omega
    rcases this with rfl | rfl | rfl
    · rw [show pgN 0 = 0 from rfl, e.1, ih, if_neg (by decide)]
      omega
    · rw [show pgN 1 = 1 from rfl, e.2.1, ih, if_pos rfl]
      omega
    · rw [show pgN 2 = 2 from rfl, e.2.2, ih, if_neg (by decide)]
      omega
theorem rowS_of (s : List Pg) : rowS s.length (rn s) = s := rn_inj _ _ (rowS_len _ _) (rowS_rn _ _ (rn_lt s))
theorem rowS_to {s : List Pg} {k : Nat} (h : rn s = k) : rowS s.length k = s := by
  subst h
  exact rowS_of s
/-! ### the row between two settings, told by moves -/
def dist (s t : List Pg) : Nat := ((rn s : Int) - (rn t : Int)).natAbs
def rowAt (s t : List Pg) (i : Nat) : List Pg := if rn s ≤ rn t then rowS s.length (rn s + i) else rowS s.length (rn s - i)
theorem rowAt_len (s t : List Pg) (i : Nat) : (rowAt s t i).length = s.length := by
  unfold rowAt
  split <;> exact rowS_len _ _
theorem rowAt_zero (s t : List Pg) : rowAt s t 0 = s := by
  unfold rowAt
  split
  · exact rowS_of s
  · exact rowS_of s
theorem rowAt_end {s t : List Pg} (h : s.length = t.length) : rowAt s t (dist s t) = t := by
  unfold rowAt dist
  rw [h]
  split
  · rw [show rn s + ((rn s : Int) - (rn t : Int)).natAbs = rn t by omega]
    exact rowS_of t
  · rw [show rn s - ((rn s : Int) - (rn t : Int)).natAbs = rn t by omega]
    exact rowS_of t
theorem rowAt_rn {s t : List Pg} (h : s.length = t.length) {i : Nat} (hi : i ≤ dist s t) : rn (rowAt s t i) = if rn s ≤ rn t then rn s + i else rn s - i := by
  have h1 := rn_lt s
  have h2 := rn_lt t
  rw [← h] at h2
  unfold dist at hi
  unfold rowAt
  split
  · exact rowS_rn _ _ (by omega)
  · exact rowS_rn _ _ (by omega)
theorem filter_one {n i : Nat} (f : Nat → Bool) (hi : i < n) (h : ∀ k, k < n → (f k = true ↔ k = i)) : (List.range n).filter f = [i] := by
  have h1 : ∀ m, m ≤ n → (List.range m).filter f = if i < m then [i] else [] := by
    intro m
    induction m with
    | zero => intro _; simp
    | succ m ih =>
      intro hm
      rw [List.range_succ, List.filter_append, ih (by omega)]
      have hk := h m (by omega)
      by_cases e : m = i
      · have : f m = true := hk.mpr e
        rw [if_neg (by omega), if_pos (by omega), List.filter_cons, if_pos this, e]
        rfl
      · have : ¬ f m = true := fun z => e (hk.mp z)
        rw [List.filter_cons, if_neg this]
        by_cases l : i < m
        · rw [if_pos l, if_pos (by omega)]
          rfl
        · rw [if_neg l, if_neg (by omega)]
          rfl
  rw [h1 n (Nat.le_refl _), if_pos hi]
theorem unl_aft {s : List Pg} {m : Nat × Pg} (hm : m ∈ may s) : unl s (aft s m) = [m.1] := by
  unfold unl
  refine filter_one _ (may_len hm) fun k hk => ?_
  rw [decide_eq_true_iff]
  by_cases e : k = m.1
  · subst e
    rw [aft_at hm]
    exact ⟨fun _ => rfl, fun _ => may_ne hm⟩
  · unfold aft
    rw [List.getElem?_set_ne (Ne.symm e)]
    exact ⟨fun z => absurd rfl z, fun z => absurd z e⟩
def stepM (x y : List Pg) : Nat × Pg := ((unl x y).headD 0, y.getD ((unl x y).headD 0) 0)
theorem stepM_aft {s : List Pg} {m : Nat × Pg} (hm : m ∈ may s) : stepM s (aft s m) = m := by
  unfold stepM
  rw [unl_aft hm]
  show (m.1, (aft s m).getD m.1 0) = m
  rw [List.getD_eq_getElem?_getD, aft_at hm]
  rfl
theorem row_step {s t : List Pg} (h : s.length = t.length) {i : Nat} (hi : i < dist s t) : ∃ m ∈ nearMs (rowAt s t i), aft (rowAt s t i) m = rowAt s t (i + 1) ∧ stepM (rowAt s t i) (rowAt s t (i + 1)) = m := by
  have h1 := rn_lt s
  have h2 := rn_lt t
  rw [← h] at h2
  have e1 := rowAt_rn h (Nat.le_of_lt hi)
  have e2 := rowAt_rn h (i := i + 1) hi
  have l1 := rowAt_len s t i
  have l2 := rowAt_len s t (i + 1)
  generalize rowAt s t i = x at *
  generalize rowAt s t (i + 1) = y at *
  have key : ∃ m ∈ nearMs x, aft x m = y := by
    unfold dist at hi
    by_cases hle : rn s ≤ rn t
    · rw [if_pos hle] at e1 e2
      obtain ⟨m, hm, e⟩ := near_up (s := x) (by rw [l1]; omega)
      exact ⟨m, hm, rn_inj _ _ (by rw [aft_len, l1, l2]) (by omega)⟩
    · rw [if_neg hle] at e1 e2
      obtain ⟨m, hm, e⟩ := near_dn (s := x) (by omega)
      exact ⟨m, hm, rn_inj _ _ (by rw [aft_len, l1, l2]) (by omega)⟩
  obtain ⟨m, hm, e⟩ := key
  refine ⟨m, hm, e, ?_⟩
  rw [← e]
  exact stepM_aft (List.mem_filter.mp hm).1
def nwF (s t : List Pg) : List (Nat × Pg) := (List.range (dist s t)).map fun i => stepM (rowAt s t i) (rowAt s t (i + 1))
theorem nwF_len (s t : List Pg) : (nwF s t).length = dist s t := by simp [nwF]
theorem nwF_at {s t : List Pg} {i : Nat} {m : Nat × Pg} (h : s.length = t.length) (hm : (nwF s t)[i]? = some m) : i < dist s t ∧ m ∈ nearMs (rowAt s t i) ∧ aft (rowAt s t i) m = rowAt s t (i + 1) := by
  unfold nwF at hm
  rw [List.getElem?_map] at hm
  by_cases hi : i < dist s t
  · rw [List.getElem?_range hi] at hm
    obtain ⟨n, h1, h2, h3⟩ := row_step h hi
    have e : stepM (rowAt s t i) (rowAt s t (i + 1)) = m := Option.some.inj hm
    rw [h3] at e
    subst e
    exact ⟨hi, h1, h2⟩
  · rw [List.getElem?_eq_none (by rw [List.length_range]; omega)] at hm
    cases hm
/-! ### the moves, disc by disc -/
def mayT (s : List Pg) (n : Nat) : List (Nat × Pg) := (List.range n).flatMap fun d => pgs.filterMap fun p => if okB s d p = true then some (d, p) else none
def mayR (s : List Pg) (d j : Nat) : List (Nat × Pg) := (pgs.take j).filterMap fun p => if okB s d p = true then some (d, p) else none
theorem mayT_all (s : List Pg) : mayT s s.length = may s := rfl
theorem mayT_succ (s : List Pg) (n : Nat) : mayT s (n + 1) = mayT s n ++ mayR s n 3 := by
  unfold mayT
  rw [List.range_succ, List.flatMap_append, List.flatMap_singleton]
  rfl
theorem mayR_succ (s : List Pg) (d : Nat) {j : Nat} (h : j < 3) : mayR s d (j + 1) = mayR s d j ++ (if okB s d (pgN j) = true then [(d, pgN j)] else []) := by
  unfold mayR
  have e : pgs.take (j + 1) = pgs.take j ++ [pgN j] := by
    match j, h with
    | 0, _ => rfl
    | 1, _ => rfl
    | 2, _ => rfl
  rw [e, List.filterMap_append]
  congr 1
  by_cases h : okB s d (pgN j) = true
  · rw [List.filterMap_cons, if_pos h, if_pos h]
    rfl
  · rw [List.filterMap_cons, if_neg h, if_neg h]
    rfl
theorem mayR_len (s : List Pg) (d j : Nat) : (mayR s d j).length ≤ 3 := by
  unfold mayR
  refine Nat.le_trans (List.length_filterMap_le _ _) ?_
  rw [List.length_take]
  show min j 3 ≤ 3
  omega
theorem mayT_len (s : List Pg) : ∀ n, (mayT s n).length ≤ 3 * n
  | 0 => Nat.le_refl _
  | n + 1 => by
    rw [mayT_succ, List.length_append]
    have := mayT_len s n
    have := mayR_len s n 3
    omega
theorem okB_is {s : List Pg} {d : Nat} {o p : Pg} (h : s[d]? = some o) : okB s d p = (decide (p ≠ o) && (!decide (p ∈ s.take d) && !decide (o ∈ s.take d))) := by
  unfold okB
  rw [h]
  dsimp only
  congr 1
  rw [Bool.eq_iff_iff, List.all_eq_true]
  simp only [List.mem_range, Bool.and_eq_true, decide_eq_true_eq, Bool.not_eq_true', decide_eq_false_iff_not]
  have mem : ∀ q : Pg, (q ∈ s.take d) ↔ ∃ k, k < d ∧ s[k]? = some q := fun q => by
    rw [List.mem_iff_getElem?]
    constructor
    · rintro ⟨k, hk⟩
      rw [List.getElem?_take] at hk
      split at hk
      · exact ⟨k, ‹_›, hk⟩
      · cases hk
    · rintro ⟨k, hk, e⟩
      exact ⟨k, by rw [List.getElem?_take, if_pos hk]; exact e⟩
  rw [mem, mem]
  constructor
  · intro z
    exact ⟨fun ⟨k, hk, e⟩ => (z k hk).2 e, fun ⟨k, hk, e⟩ => (z k hk).1 e⟩
  · rintro ⟨z1, z2⟩ k hk
    exact ⟨fun e => z2 ⟨k, hk, e⟩, fun e => z1 ⟨k, hk, e⟩⟩
end Peg

/-! the mathematics, 7: the told ways are walked -/
namespace Peg
/-- a list of moves is gone through -/
def Legal : List Pg → List (Nat × Pg) → List Pg → Prop
  | s, [], t => s = t
  | s, m :: ms, t => m ∈ may s ∧ Legal (aft s m) ms t
/-- .. of steps, where each disc was told too -/
def Legal3 : List Pg → List St3 → List Pg → Prop
  | s, [], t => s = t
  | s, x :: w, t => s[x.1]? = some x.2.1 ∧ (x.1, x.2.2) ∈ may s ∧ Legal3 (s.set x.1 x.2.2) w t
theorem Legal3.out : ∀ {w : List St3} {s t : List Pg}, Legal3 s w t → Legal s (w.map out3) t
  | [], _, _, h => h
  | _ :: _, _, _, h => ⟨h.2.1, Legal3.out h.2.2⟩
theorem Legal3.append : ∀ {v w : List St3} {s u t : List Pg}, Legal3 s v u → Legal3 u w t → Legal3 s (v ++ w) t
  | [], _, _, _, _, h, k => by
    have h' : _ = _ := h
    subst h'
    exact k
  | _ :: _, _, _, _, _, h, k => ⟨h.1, h.2.1, Legal3.append h.2.2 k⟩
theorem may_back {s : List Pg} {d : Nat} {a b : Pg} (h1 : s[d]? = some a) (h2 : (d, b) ∈ may s) : (d, a) ∈ may (s.set d b) := by
  obtain ⟨o, e, hne, hk⟩ := mem_may.mp h2
  dsimp only at e hne hk
  rw [h1] at e
  cases e
  refine mem_may.mpr ⟨b, ?_, fun z => hne z.symm, fun k hk' => ?_⟩
  · show (s.set d b)[d]? = some b
    rw [List.getElem?_set_self (may_len h2)]
  · show (s.set d b)[k]? ≠ some b ∧ (s.set d b)[k]? ≠ some a
    rw [List.getElem?_set_ne (by have : k < d := hk'; omega)]
    exact ⟨(hk k hk').2, (hk k hk').1⟩
theorem set_back {s : List Pg} {d : Nat} {a b : Pg} (h : s[d]? = some a) : (s.set d b).set d a = s := by
  apply List.ext_getElem?
  intro i
  by_cases e : d = i
  · subst e
    have hl := (List.getElem?_eq_some_iff.mp h).1
    rw [List.getElem?_set_self (by rw [List.length_set]; exact hl), h]
  · rw [List.getElem?_set_ne e, List.getElem?_set_ne e]
theorem Legal3.back : ∀ {w : List St3} {s t : List Pg}, Legal3 s w t → Legal3 t (w.reverse.map turn3) s
  | [], _, _, h => Eq.symm h
  | (d, a, b) :: w, s, t, h => by
    obtain ⟨h1, h2, h3⟩ := h
    dsimp only at h1 h2 h3
    rw [List.reverse_cons, List.map_append]
    refine Legal3.append (Legal3.back h3) ⟨?_, may_back h1 h2, ?_⟩
    · show (s.set d b)[d]? = some b
      rw [List.getElem?_set_self (may_len h2)]
    · exact set_back h1
theorem may_more {s : List Pg} {m : Nat × Pg} (r : List Pg) (h : m ∈ may s) : m ∈ may (s ++ r) := by
  have hl := may_len h
  obtain ⟨o, h1, h2, h3⟩ := mem_may.mp h
  refine mem_may.mpr ⟨o, by rw [List.getElem?_append_left hl]; exact h1, h2, fun k hk => ?_⟩
  rw [List.getElem?_append_left (by omega)]
  exact h3 k hk
theorem Legal3.ctx (r : List Pg) : ∀ {w : List St3} {s t : List Pg}, Legal3 s w t → Legal3 (s ++ r) w (t ++ r)
  | [], _, _, h => congrArg (· ++ r) h
  | x :: w, s, t, h => by
    obtain ⟨h1, h2, h3⟩ := h
    have hl := may_len h2
    dsimp only at hl
    refine ⟨by rw [List.getElem?_append_left hl]; exact h1, may_more r h2, ?_⟩
    have e : (s ++ r).set x.1 x.2.2 = s.set x.1 x.2.2 ++ r := List.set_append_left _ _ hl
    rw [e]
    exact Legal3.ctx r h3
theorem steps_legal {p : Pg} {n : Nat} : ∀ (k : Nat) (s : List Pg), n ≤ s.length → toPg s p n = k → Legal3 s (stepsTo s p n) (List.replicate n p ++ s.drop n) ∧ (stepsTo s p n).length = k ∧ ∀ x ∈ stepsTo s p n, x.1 < n := fun k => by
  induction k with
  | zero =>
    intro s hn hk
    cases hf : firstG s p n with
    | some m =>
      have := (first_step hn hf).2
      omega
    | none =>
      rw [steps_none hf]
      have h := first_rep (s := s.take n) hf
      rw [List.length_take, Nat.min_eq_left hn] at h
      refine ⟨?_, rfl, fun x hx => by cases hx⟩
      show s = List.replicate n p ++ s.drop n
      rw [← h, List.take_append_drop]
  | succ k ih =>
    intro s hn hk
    cases hf : firstG s p n with
    | none =>
      have := first_none hf
      omega
    | some m =>
      obtain ⟨h1, h2⟩ := first_step hn hf
      obtain ⟨i1, i2, i3⟩ := ih (s.set m.1 m.2) (by rw [List.length_set]; exact hn) (by omega)
      rw [steps_more hn hf]
      have hml : m.1 < s.length := by omega
      have hm : m ∈ may s := by
        have hf' : firstTo (s.take n).reverse p = some m := hf
        have := may_more (s.drop n) (first_mem hf').1
        rwa [List.take_append_drop] at this
      refine ⟨⟨?_, hm, ?_⟩, by rw [List.length_cons, i2], fun x hx => ?_⟩
      · show s[m.1]? = some (s.getD m.1 0)
        rw [List.getD_eq_getElem?_getD, List.getElem?_eq_getElem hml]
        rfl
      · show Legal3 (s.set m.1 m.2) _ _
        rwa [List.drop_set_of_lt h1] at i1
      · rcases List.mem_cons.mp hx with rfl | hx
        · exact h1
        · exact i3 x hx
theorem stepsTo3 {s : List Pg} {p : Pg} {n : Nat} (hn : n ≤ s.length) : Legal3 s (stepsTo s p n) (List.replicate n p ++ s.drop n) ∧ (stepsTo s p n).length = toPg s p n ∧ ∀ x ∈ stepsTo s p n, x.1 < n := steps_legal _ s hn rfl
theorem stepsFrom3 {t : List Pg} {p : Pg} {n : Nat} (hn : n ≤ t.length) : Legal3 (List.replicate n p ++ t.drop n) (stepsFrom t p n) t ∧ (stepsFrom t p n).length = toPg t p n ∧ ∀ x ∈ stepsFrom t p n, x.1 < n := by
  obtain ⟨h1, h2, h3⟩ := stepsTo3 (p := p) hn
  refine ⟨h1.back, ?_, fun x hx => ?_⟩
  · unfold stepsFrom
    rw [List.length_map, List.length_reverse, h2]
  · unfold stepsFrom at hx
    obtain ⟨y, hy, rfl⟩ := List.mem_map.mp hx
    exact h3 y (List.mem_reverse.mp hy)
/-- the greatest disc goes, all lesser ones on the third peg -/
theorem top3 (m : Nat) (f a b : Pg) (r : List Pg) (h1 : b ≠ a) (h2 : f ≠ a) (h3 : f ≠ b) : Legal3 (List.replicate m f ++ a :: r) [(m, a, b)] (List.replicate m f ++ b :: r) := by
  have hl : (List.replicate m f).length = m := List.length_replicate ..
  have e0 : (List.replicate m f ++ a :: r)[m]? = some a := by
    rw [List.getElem?_append_right (by omega), hl, Nat.sub_self]
    rfl
  refine ⟨e0, mem_may.mpr ⟨a, e0, h1, fun k hk => ?_⟩, ?_⟩
  · have hk' : k < m := hk
    rw [List.getElem?_append_left (by omega), List.getElem?_replicate, if_pos hk']
    exact ⟨fun z => h2 (Option.some.inj z), fun z => h3 (Option.some.inj z)⟩
  · show (List.replicate m f ++ a :: r).set m b = _
    rw [List.set_append_right _ _ (by omega), hl, Nat.sub_self]
    rfl
theorem gu_drop : ∀ s t : List Pg, s.length = t.length → ∀ m, gu s.reverse t.reverse = some m → s.drop (m + 1) = t.drop (m + 1) := by
  refine snoc2_ind (fun m h => by simp [gu] at h) fun s t a b hl ih m h => ?_
  rw [List.reverse_append, List.reverse_append, List.reverse_singleton, List.reverse_singleton, List.singleton_append, List.singleton_append] at h
  by_cases e : a = b
  · rw [gu, if_pos e] at h
    have hm := (gu_some hl.symm h).1
    rw [List.drop_append_of_le_length (by omega), List.drop_append_of_le_length (by omega), ih m h, e]
  · rw [gu, if_neg e, List.length_reverse] at h
    have := Option.some.inj h
    subst this
    rw [List.drop_eq_nil_of_le (by simp), List.drop_eq_nil_of_le (by simp; omega)]
section
variable {s t : List Pg} {m : Nat} (hl : t.length = s.length) (hg : gu s.reverse t.reverse = some m) (h1 : m < s.length) (h2 : m < t.length) (hne : s[m] ≠ t[m])
include hl hg h1 h2 hne
theorem once3 : Legal3 s (onceW s t m s[m] t[m]) t := by
  have hd := gu_drop s t hl.symm m hg
  have ht := thd_ne s[m] t[m] hne
  unfold onceW
  refine Legal3.append (Legal3.append (stepsTo3 (by omega)).1 ?_) (stepsFrom3 (by omega)).1
  rw [List.drop_eq_getElem_cons h1, List.drop_eq_getElem_cons h2, hd]
  exact top3 m _ _ _ _ (Ne.symm hne) ht.1 ht.2
theorem twice3 : Legal3 s (twiceW s t m s[m] t[m]) t := by
  have hd := gu_drop s t hl.symm m hg
  have ht := thd_ne s[m] t[m] hne
  unfold twiceW
  refine Legal3.append (u := List.replicate m s[m] ++ t.drop m) (Legal3.append (u := List.replicate m s[m] ++ thd s[m] t[m] :: t.drop (m + 1)) (Legal3.append (u := List.replicate m t[m] ++ thd s[m] t[m] :: t.drop (m + 1)) (Legal3.append (stepsTo3 (by omega)).1 ?_) ?_) ?_) (stepsFrom3 (by omega)).1
  · rw [List.drop_eq_getElem_cons h1, hd]
    exact top3 m _ _ _ _ ht.1 (Ne.symm hne) (Ne.symm ht.2)
  · have h := (stepsTo3 (s := List.replicate m t[m]) (p := s[m]) (n := m) (by rw [List.length_replicate]; exact Nat.le_refl _)).1
    rw [List.drop_eq_nil_of_le (by rw [List.length_replicate]; exact Nat.le_refl _), List.append_nil] at h
    exact Legal3.ctx _ h
  · rw [List.drop_eq_getElem_cons h2]
    exact top3 m _ _ _ _ (Ne.symm ht.2) (Ne.symm ht.1) hne
theorem once_len : (onceW s t m s[m] t[m]).length = toPg s (thd s[m] t[m]) m + 1 + toPg t (thd s[m] t[m]) m := by
  unfold onceW
  rw [List.length_append, List.length_append, (stepsTo3 (by omega)).2.1, (stepsFrom3 (by omega)).2.1]
  rfl
theorem twice_len : (twiceW s t m s[m] t[m]).length = toPg s t[m] m + 2 ^ m + 1 + toPg t s[m] m := by
  have hr : toPg (List.replicate m t[m]) s[m] m = 2 ^ m - 1 := by
    unfold toPg
    rw [List.take_of_length_le (by rw [List.length_replicate]; exact Nat.le_refl _), List.reverse_replicate]
    exact toP_rep_ne (Ne.symm hne)
  have hp : 0 < 2 ^ m := Nat.pow_pos (by decide)
  unfold twiceW
  rw [List.length_append, List.length_append, List.length_append, List.length_append, (stepsTo3 (by omega)).2.1, (stepsFrom3 (by omega)).2.1, (stepsTo3 (s := List.replicate m t[m]) (by rw [List.length_replicate]; exact Nat.le_refl _)).2.1, hr]
  show _ + 1 + (2 ^ m - 1) + 1 + _ = _
  omega
end
/-- how often a disc goes -/
def goesN (m : Nat) (w : List (Nat × Pg)) : List (Nat × Pg) := w.filter fun x => decide (x.1 = m)
theorem goes_none {m : Nat} {w : List St3} (h : ∀ x ∈ w, x.1 < m) : goesN m (w.map out3) = [] := by
  unfold goesN
  rw [List.filter_eq_nil_iff]
  intro x hx
  obtain ⟨y, hy, rfl⟩ := List.mem_map.mp hx
  have := h y hy
  have e : (out3 y).1 = y.1 := rfl
  rw [e, decide_eq_true_iff]
  omega
theorem goes_append (m : Nat) (v w : List (Nat × Pg)) : goesN m (v ++ w) = goesN m v ++ goesN m w := List.filter_append ..
theorem goes_one (m : Nat) (a b : Pg) : goesN m ([(m, a, b)].map out3) = [(m, b)] := by
  unfold goesN
  simp [out3]
section
variable {s t : List Pg} {m : Nat} (h1 : m ≤ s.length) (h2 : m ≤ t.length)
include h1 h2
theorem goes_once (a b : Pg) : (goesN m ((onceW s t m a b).map out3)).length = 1 := by
  unfold onceW
  rw [List.map_append, List.map_append, goes_append, goes_append, goes_none (stepsTo3 h1).2.2, goes_none (stepsFrom3 h2).2.2, goes_one]
  rfl
theorem goes_twice (a b : Pg) : (goesN m ((twiceW s t m a b).map out3)).length = 2 := by
  unfold twiceW
  rw [List.map_append, List.map_append, List.map_append, List.map_append, goes_append, goes_append, goes_append, goes_append, goes_none (stepsTo3 h1).2.2, goes_none (stepsFrom3 h2).2.2,
    goes_none (stepsTo3 (s := List.replicate m b) (by rw [List.length_replicate]; exact Nat.le_refl _)).2.2, goes_one, goes_one]
  rfl
end
theorem head_steps {s : List Pg} {p : Pg} {n : Nat} (hn : n ≤ s.length) (r : List (Nat × Pg)) (x : Nat × Pg) : ((stepsTo s p n).map out3 ++ x :: r).head? = (firstG s p n).or (some x) := by
  cases hf : firstG s p n with
  | none =>
    rw [steps_none hf]
    rfl
  | some m =>
    rw [steps_more hn hf]
    rfl
/-- all of the ways together -/
theorem ways_good {s t : List Pg} (hl : t.length = s.length) : (∀ w ∈ waysF s t, Legal s w t ∧ w.length = Fr s t) ∧ (waysF s t).length = Mn s t := by
  unfold waysF
  cases hg : gu s.reverse t.reverse with
  | none =>
    have e := gu_eq hl hg
    subst e
    refine ⟨fun w hw => ?_, (Mn_self s).symm⟩
    rw [List.mem_singleton.mp hw]
    exact ⟨rfl, ((Fr_zero rfl).mpr rfl).symm⟩
  | some m =>
    obtain ⟨h1, h2, hne, e1, e2⟩ := gu_some hl hg
    have g1 : s.getD m 0 = s[m] := by rw [List.getD_eq_getElem?_getD, List.getElem?_eq_getElem h1]; rfl
    have g2 : t.getD m 0 = t[m] := by rw [List.getD_eq_getElem?_getD, List.getElem?_eq_getElem h2]; rfl
    have hst : s ≠ t := fun z => by
      subst z
      exact hne rfl
    have o1 := once_len hl hg h1 h2 hne
    have o2 := twice_len hl hg h1 h2 hne
    have hM := Mn_eq s t
    have hO : On s t = once s.reverse t.reverse := rfl
    have hT : Tw s t = twice s.reverse t.reverse := rfl
    dsimp only
    rw [g1, g2]
    refine ⟨fun w hw => ?_, ?_⟩
    · obtain ⟨x, hx, rfl⟩ := List.mem_map.mp hw
      rw [List.length_map, Fr_eq]
      rcases List.mem_append.mp hx with hx | hx
      · by_cases hle : once s.reverse t.reverse ≤ twice s.reverse t.reverse
        · rw [if_pos hle, List.mem_singleton] at hx
          subst hx
          exact ⟨(once3 hl hg h1 h2 hne).out, by omega⟩
        · rw [if_neg hle] at hx
          cases hx
      · by_cases hle : twice s.reverse t.reverse ≤ once s.reverse t.reverse
        · rw [if_pos hle, List.mem_singleton] at hx
          subst hx
          exact ⟨(twice3 hl hg h1 h2 hne).out, by omega⟩
        · rw [if_neg hle] at hx
          cases hx
    · rw [List.length_map, List.length_append, hM]
      by_cases hle : once s.reverse t.reverse ≤ twice s.reverse t.reverse
      · by_cases hle2 : twice s.reverse t.reverse ≤ once s.reverse t.reverse
        · rw [if_pos hle, if_pos hle2, if_pos ⟨by omega, hst⟩]
          rfl
        · rw [if_pos hle, if_neg hle2, if_neg (fun z => hle2 (by omega))]
          rfl
      · rw [if_neg hle, if_pos (by omega), if_neg (fun z => hle (by omega))]
        rfl
theorem ways_goes {s t : List Pg} {m : Nat} (hl : t.length = s.length) (hg : gu s.reverse t.reverse = some m) : (waysF s t).map (fun w => (goesN m w).length) = (if once s.reverse t.reverse ≤ twice s.reverse t.reverse then [1] else []) ++ (if twice s.reverse t.reverse ≤ once s.reverse t.reverse then [2] else []) := by
  obtain ⟨h1, h2, hne, e1, e2⟩ := gu_some hl hg
  unfold waysF
  rw [hg]
  dsimp only
  have k1 := goes_once (s := s) (t := t) (m := m) (by omega) (by omega) (s.getD m 0) (t.getD m 0)
  have k2 := goes_twice (s := s) (t := t) (m := m) (by omega) (by omega) (s.getD m 0) (t.getD m 0)
  generalize s.getD m 0 = a at k1 ⊢
  generalize t.getD m 0 = b at k1 k2 ⊢
  clear h1 h2 hne e1 e2
  have k2' := goes_twice (s := s) (t := t) (m := m) (by have := (gu_some hl hg).1; omega) (by have := (gu_some hl hg).2.1; omega) a b
  by_cases hle : once s.reverse t.reverse ≤ twice s.reverse t.reverse <;> by_cases hle2 : twice s.reverse t.reverse ≤ once s.reverse t.reverse <;> simp [hle, hle2, k1, k2']
theorem ways_head {s t : List Pg} (hl : t.length = s.length) (hne : s ≠ t) : ∃ w r, waysF s t = w :: r ∧ ∃ x, w.head? = some x ∧ nextM s.reverse t.reverse = some x := by
  cases hg : gu s.reverse t.reverse with
  | none => exact absurd (gu_eq hl hg) hne
  | some m =>
    obtain ⟨h1, h2, hne', e1, e2⟩ := gu_some hl hg
    have hn := gu_next hl hg h1 h2
    have g1 : s.getD m 0 = s[m] := by rw [List.getD_eq_getElem?_getD, List.getElem?_eq_getElem h1]; rfl
    have g2 : t.getD m 0 = t[m] := by rw [List.getD_eq_getElem?_getD, List.getElem?_eq_getElem h2]; rfl
    unfold waysF
    rw [hg]
    dsimp only
    rw [g1, g2]
    have orS : ∀ (o : Option (Nat × Pg)) (y : Nat × Pg), ∃ x, o.or (some y) = some x := fun o y => by
      cases o with
      | none => exact ⟨y, rfl⟩
      | some z => exact ⟨z, rfl⟩
    by_cases hle : once s.reverse t.reverse ≤ twice s.reverse t.reverse
    · rw [if_pos hle] at hn ⊢
      refine ⟨_, _, rfl, ?_⟩
      obtain ⟨x, hx⟩ := orS (firstG s (thd s[m] t[m]) m) (m, t[m])
      refine ⟨x, ?_, by rw [hn, hx]⟩
      rw [← hx, ← head_steps (s := s) (by omega) ((stepsFrom t (thd s[m] t[m]) m).map out3) (m, t[m])]
      unfold onceW
      dsimp only
      rw [List.map_append, List.map_append, List.append_assoc]
      rfl
    · rw [if_neg hle] at hn ⊢
      rw [if_pos (by omega)]
      refine ⟨_, _, rfl, ?_⟩
      obtain ⟨x, hx⟩ := orS (firstG s t[m] m) (m, thd s[m] t[m])
      refine ⟨x, ?_, by rw [hn, hx]⟩
      rw [← hx, ← head_steps (s := s) (by omega) (((stepsTo (List.replicate m t[m]) s[m] m ++ [(m, thd s[m] t[m], t[m])]) ++ stepsFrom t s[m] m).map out3) (m, thd s[m] t[m])]
      unfold twiceW
      dsimp only
      rw [List.map_append, List.map_append, List.map_append, List.map_append, List.map_append, List.map_append, List.append_assoc, List.append_assoc, List.append_assoc, List.append_assoc]
      rfl
end Peg

namespace Pd
open PySem PySem.Spec PyProof.Rows L2 Peg
theorem isAmong_nat {k : Nat} {hi : Int} (h : (k : Int) ≤ hi) : isAmong (dN k) 0 hi = true := by
  show (decide ((0 : Int) ≤ (k : Int)) && decide ((k : Int) ≤ hi)) = true
  rw [decide_eq_true (by omega), decide_eq_true h]
  rfl
theorem powZ (n : Nat) : (1 : Int) * 2 ^ ((n : Int)).toNat = ((2 ^ n : Nat) : Int) := by simp
theorem bitZ (k m : Nat) : Builtin.bitAnd ((k : Int) / 2 ^ ((m : Int)).toNat) 1 = ((k / 2 ^ m % 2 : Nat) : Int) := by
  rw [bitAnd_m1, Int.toNat_natCast]
  simp
theorem depth_dS (s : List Pg) : PyData.depth (dS s) ≤ 2 := by
  have h := depth_pgs s
  simp only [PyData.depth]
  omega
theorem canLay_sets : ∀ l : List (List Pg), PyData.canLayAll0 (l.map dS) = true
  | [] => rfl
  | s :: l => by
    simp only [List.map_cons, PyData.canLayAll0, PyData.canLay0, canLay_pgs s, canLay_sets l]
    rfl
theorem depth_sets : ∀ l : List (List Pg), PyData.depthAll (l.map dS) ≤ 2
  | [] => by simp [PyData.depthAll]
  | s :: l => by
    have := depth_sets l
    have := depth_dS s
    simp only [List.map_cons, PyData.depthAll]
    omega
theorem shp_sets (l : List (List Pg)) : SeqAt.shaped (.list (l.map dS)) = true := by
  show (PyData.canLay0 (.list (l.map dS)) && decide (PyData.depth (.list (l.map dS)) ≤ 64)) = true
  have h := depth_sets l
  rw [Bool.and_eq_true]
  refine ⟨?_, decide_eq_true ?_⟩
  · simp only [PyData.canLay0]
    exact canLay_sets l
  · simp only [PyData.depth]
    omega
theorem any_sets {l : List (List Pg)} {t : List Pg} (h : t ∈ l) : ((l.map dS).any fun z => PyData.eqv z (dS t)) = true := by
  rw [List.any_map, List.any_eq_true]
  exact ⟨t, h, by
    show PyData.eqv (dS t) (dS t) = true
    rw [eqv_dS]
    exact decide_eq_true rfl⟩
theorem kept_whole (s : List Pg) : kept (s.map dP) (fun _ => true) (fun d => .bool (isIntB d && !isBoolB d)) = (List.replicate s.length true).map PyData.bool := by
  rw [kept_all, List.map_map, List.map_replicate]
  induction s with
  | nil => rfl
  | cons p s ih => rw [List.map_cons, ih]; rfl
theorem all_true (n : Nat) : (List.replicate n true).all id = true := by
  rw [List.all_eq_true]
  exact fun b hb => by rw [List.eq_of_mem_replicate hb]; rfl
theorem at_four {a b c d : Int} (x : Nat) : ∃ i : Int, atI [PyData.int a, .int b, .int c, .int d] ((x : Int) / 8 % 4) = some (.int i) := by
  have e : (x : Int) / 8 % 4 = ((x / 8 % 4 : Nat) : Int) := by omega
  rw [e]
  have : x / 8 % 4 = 0 ∨ x / 8 % 4 = 1 ∨ x / 8 % 4 = 2 ∨ x / 8 % 4 = 3 := by omega
  rcases this with h | h | h | h <;> rw [h]
  · exact ⟨a, rfl⟩
  · exact ⟨b, rfl⟩
  · exact ⟨c, rfl⟩
  · exact ⟨d, rfl⟩
theorem ev_revN {K : PySem.W.Frag} {c : Cc} {δ : DEnv} {te : TE} {ds : List PyData} (h : EvD K c te δ (.list ds)) : EvN K c (tRevL K te) δ ds.reverse := fun σ H ts td s Q q =>
  h σ H ts td s _ fun v H3 s3 => by
    obtain ⟨G, rn, e, t⟩ := s3
    cases t with
    | cons hv t =>
      obtain ⟨p, xs, rfl, hp, r1⟩ := hv.lst_inv
      refine ⟨p, xs, rfl, SqL.of (rn.h _ _ hp), fun l hl => ?_⟩
      have r' := Run.newg (o := .lst xs.reverse) rn.h hl
      exact q _ _ ⟨G, _, rn.trans r', e.run r', t, rn.k.free hl, rn.h.free hl, upd_same, r1.reverse, own_ne e hl⟩
abbrev dT3 (x : St3) : PyData := .tuple [dN x.1, dP x.2.1, dP x.2.2]
abbrev dRow (w : List St3) : PyData := .list (w.map dT3)
def t3D : PyData → St3
  | .tuple [.int a, .int b, .int c] => (a.toNat, pgN b.toNat, pgN c.toNat)
  | _ => (0, 0, 0)
theorem t3D_dT3 (x : St3) : t3D (dT3 x) = x := by
  obtain ⟨a, p, q⟩ := x
  show ((a : Int).toNat, pgN ((p.val : Nat) : Int).toNat, pgN ((q.val : Nat) : Int).toNat) = (a, p, q)
  rw [Int.toNat_natCast, show pgN ((p.val : Nat) : Int).toNat = p from pgD_dP p, show pgN ((q.val : Nat) : Int).toNat = q from pgD_dP q]
def rowD : PyData → List St3
  | .list ds => ds.map t3D
  | _ => []
theorem rowD_dRow (w : List St3) : rowD (dRow w) = w := by
  show (w.map dT3).map t3D = w
  rw [List.map_map]
  have : t3D ∘ dT3 = id := funext t3D_dT3
  rw [this, List.map_id]
theorem kept_t3 (l : List St3) (g : St3 → PyData) : kept (l.map dT3) (fun _ => true) (fun d => g (t3D d)) = l.map g := by
  rw [kept_all, List.map_map]
  refine List.map_congr_left fun x _ => ?_
  show g (t3D (dT3 x)) = g x
  rw [t3D_dT3]
theorem kept_rows (l : List (List St3)) (g : List St3 → PyData) : kept (l.map dRow) (fun _ => true) (fun d => g (rowD d)) = l.map g := by
  rw [kept_all, List.map_map]
  refine List.map_congr_left fun x _ => ?_
  show g (rowD (dRow x)) = g x
  rw [rowD_dRow]
/-- an order of the pegs -/
abbrev dO (f : Pg → Pg) : PyData := .tuple [dP (f 0), dP (f 1), dP (f 2)]
theorem at_ord (f : Pg → Pg) (p : Pg) : atI [dP (f 0), dP (f 1), dP (f 2)] ((p.val : Nat) : Int) = some (dP (f p)) := by
  rcases pg3 p with rfl | rfl | rfl <;> rfl
theorem kept_called (s : List Pg) (f : Pg → Pg) : kept (s.map dP) (fun _ => true) (fun d => dP (f (pgD d))) = (s.map f).map dP := by
  rw [kept_all, List.map_map, List.map_map]
  refine List.map_congr_left fun x _ => ?_
  show dP (f (pgD (dP x))) = dP (f x)
  rw [pgD_dP]
def ordF : Fin 6 → Pg → Pg
  | 0, p => p
  | 1, p => if p = 0 then 0 else if p = 1 then 2 else 1
  | 2, p => if p = 0 then 1 else if p = 1 then 0 else 2
  | 3, p => if p = 0 then 1 else if p = 1 then 2 else 0
  | 4, p => if p = 0 then 2 else if p = 1 then 0 else 1
  | 5, p => if p = 0 then 2 else if p = 1 then 1 else 0
theorem ordF_inj : ∀ k a b, ordF k a = ordF k b → a = b := by decide
abbrev dOrders : List PyData := [.tuple [.int 0, .int 1, .int 2], .tuple [.int 0, .int 2, .int 1], .tuple [.int 1, .int 0, .int 2], .tuple [.int 1, .int 2, .int 0], .tuple [.int 2, .int 0, .int 1], .tuple [.int 2, .int 1, .int 0]]
theorem at_orders (x : Nat) : ∃ f : Pg → Pg, (∀ a b, f a = f b → a = b) ∧ atI dOrders ((x : Int) / 128 % 6) = some (dO f) := by
  have e : (x : Int) / 128 % 6 = ((x / 128 % 6 : Nat) : Int) := by omega
  rw [e]
  have : x / 128 % 6 = 0 ∨ x / 128 % 6 = 1 ∨ x / 128 % 6 = 2 ∨ x / 128 % 6 = 3 ∨ x / 128 % 6 = 4 ∨ x / 128 % 6 = 5 := by omega
  rcases this with h | h | h | h | h | h <;> rw [h]
  · exact ⟨ordF 0, ordF_inj 0, rfl⟩
  · exact ⟨ordF 1, ordF_inj 1, rfl⟩
  · exact ⟨ordF 2, ordF_inj 2, rfl⟩
  · exact ⟨ordF 3, ordF_inj 3, rfl⟩
  · exact ⟨ordF 4, ordF_inj 4, rfl⟩
  · exact ⟨ordF 5, ordF_inj 5, rfl⟩
/-! lists of lists of moves -/
theorem canLay_rows : ∀ l : List (List (Nat × Pg)), PyData.canLayAll0 (l.map dMs) = true
  | [] => rfl
  | s :: l => by
    simp only [List.map_cons, PyData.canLayAll0, PyData.canLay0, canLay_ms s, canLay_rows l]
    rfl
theorem depth_rows : ∀ l : List (List (Nat × Pg)), PyData.depthAll (l.map dMs) ≤ 3
  | [] => by simp [PyData.depthAll]
  | s :: l => by
    have := depth_rows l
    have := depth_ms s
    simp only [List.map_cons, PyData.depthAll, PyData.depth]
    omega
theorem shp_rows (l : List (List (Nat × Pg))) : SeqAt.shaped (.list (l.map dMs)) = true := by
  show (PyData.canLay0 (.list (l.map dMs)) && decide (PyData.depth (.list (l.map dMs)) ≤ 64)) = true
  have h := depth_rows l
  rw [Bool.and_eq_true]
  refine ⟨?_, decide_eq_true ?_⟩
  · simp only [PyData.canLay0]
    exact canLay_rows l
  · simp only [PyData.depth]
    omega
theorem eqv_rowsA : ∀ l : List (List (Nat × Pg)), PyData.eqvAll (l.map dMs) (l.map dMs) = true
  | [] => by simp [PyData.eqvAll]
  | s :: l => by
    have h := eqv_ms s
    simp only [List.map_cons, PyData.eqvAll, eqv_rowsA l, h]
    rfl
theorem eqv_rows (l : List (List (Nat × Pg))) : PyData.eqv (.list (l.map dMs)) (.list (l.map dMs)) = true := by
  simp only [PyData.eqv, eqv_rowsA]
theorem ev_ifS {K : PySem.W.Frag} {c : Cc} {δ : DEnv} {tt : TT} {ta tb : TE} {a : Bool} {x y : PyData} (h : EvT K c tt δ a) (h1 : a = true → EvD K c ta δ x) (h2 : a = false → EvD K c tb δ y) : EvD K c (tIf tt ta tb) δ (if a = true then x else y) := by
  cases a with
  | true => exact ev_if h (fun e => (h1 rfl)) (fun e => by cases e)
  | false => exact ev_if h (fun e => by cases e) (fun e => h2 rfl)
theorem kept_mv (l : List (Nat × Pg)) (g : Nat × Pg → PyData) : kept (l.map dM) (fun _ => true) (fun d => g (mvD d)) = l.map g := by
  rw [kept_all, List.map_map]
  refine List.map_congr_left fun x _ => ?_
  show g (mvD (dM x)) = g x
  rw [mvD_dM]
def rowM : PyData → List (Nat × Pg)
  | .list ds => ds.map mvD
  | _ => []
theorem rowM_dMs (w : List (Nat × Pg)) : rowM (dMs w) = w := by
  show (w.map dM).map mvD = w
  rw [List.map_map]
  have : mvD ∘ dM = id := funext mvD_dM
  rw [this, List.map_id]
theorem kept_rowM (l : List (List (Nat × Pg))) (g : List (Nat × Pg) → PyData) : kept (l.map dMs) (fun _ => true) (fun d => g (rowM d)) = l.map g := by
  rw [kept_all, List.map_map]
  refine List.map_congr_left fun x _ => ?_
  show g (rowM (dMs x)) = g x
  rw [rowM_dMs]
theorem shp_Mo (o : Option (Nat × Pg)) : SeqAt.shaped (dMo o) = true := by
  cases o with
  | none => rfl
  | some m => exact shp_dM m
theorem eqv_Mo (o : Option (Nat × Pg)) : PyData.eqv (dMo o) (dMo o) = true := by
  cases o with
  | none => rfl
  | some m =>
    show PyData.eqv (dM m) (dM m) = true
    rw [eqv_dM]
    exact decide_eq_true rfl
def discs11 (x : Nat) : Nat := if x / 64 % 2 = 0 then x % 9 else x % 60
theorem discs11_at (x : Nat) : atI [PyData.int ((x : Int) % 9), .int ((x : Int) % 60)] ((x : Int) / 64 % 2) = some (dN (discs11 x)) := by
  have e : (x : Int) / 64 % 2 = ((x / 64 % 2 : Nat) : Int) := by omega
  rw [e]
  refine atI_nat ?_
  unfold discs11
  have : x / 64 % 2 = 0 ∨ x / 64 % 2 = 1 := by omega
  rcases this with h | h
  · rw [h, if_pos rfl]
    rfl
  · rw [h, if_neg (by decide)]
    rfl
theorem discs11_le (x : Nat) : discs11 x ≤ 59 := by
  unfold discs11
  split <;> omega
/-! ### moves to the peg beside -/
theorem flat_pgs : ∀ s : List Pg, (s.map dP).all flatD = true
  | [] => rfl
  | p :: s => by
    rw [List.map_cons, List.all_cons, flat_pgs s]
    rfl
theorem eqV_int (i j : Int) : eqV (.int i) (.int j) = decide (i = j) := by
  unfold eqV
  by_cases h : i = j <;> simp [h]
theorem inF_pgs (p : Pg) (s : List Pg) : inF (dP p) (s.map dP) = decide (p ∈ s) := by
  unfold inF
  rw [List.any_map]
  induction s with
  | nil => simp
  | cons q s ih =>
    rw [List.any_cons, ih]
    show (eqV (.int ((q.val : Nat) : Int)) (.int ((p.val : Nat) : Int)) || decide (p ∈ s)) = decide (p ∈ q :: s)
    rw [eqV_int]
    by_cases e : p = q
    · subst e
      simp
    · have : ¬ ((q.val : Nat) : Int) = ((p.val : Nat) : Int) := fun z => e (pg_ne.mp z).symm
      simp [this, e]
theorem kept_near (s : List Pg) : kept ((may s).map dM) (fun d => nearB s (mvD d)) id = (nearMs s).map dM := by
  unfold kept nearMs
  rw [List.filter_map, List.map_id]
  congr 1
  refine List.filter_congr fun x _ => ?_
  show nearB s (mvD (dM x)) = nearB s x
  rw [mvD_dM]
theorem near_abs {s : List Pg} {m : Nat × Pg} (h : m.1 < s.length) : decide ((if ((s[m.1].val : Nat) : Int) - ((m.2.val : Nat) : Int) < 0 then -(((s[m.1].val : Nat) : Int) - ((m.2.val : Nat) : Int)) else ((s[m.1].val : Nat) : Int) - ((m.2.val : Nat) : Int)) = 1) = nearB s m := by
  unfold nearB
  rw [List.getElem?_eq_getElem h]
  dsimp only
  generalize s[m.1].val = a
  generalize m.2.val = b
  by_cases e : a = b + 1 ∨ b = a + 1
  · rw [decide_eq_true e, decide_eq_true]
    split <;> omega
  · rw [decide_eq_false e, decide_eq_false]
    split <;> omega
theorem lg60 {n : Nat} (h : n ≤ 3 ^ 60) (h0 : 0 < n) : ((n : Int)).natAbs.log2 < 9000 := by
  rw [Int.natAbs_natCast]
  have : n.log2 < 100 := (Nat.log2_lt (by omega)).mpr (Nat.lt_of_le_of_lt h (by decide))
  omega
def rowD1 (n : Nat) : PyData → List Pg
  | .int i => rowS n i.toNat
  | _ => []
theorem rowAt_num {s t : List Pg} (h : s.length = t.length) {i : Nat} (hi : i ≤ dist s t) : ∃ k : Nat, (rn s : Int) + (i : Int) * (if rn s ≤ rn t then 1 else -1) = (k : Int) ∧ k < 3 ^ s.length := by
  have h1 := rn_lt s
  have h2 := rn_lt t
  rw [← h] at h2
  unfold dist at hi
  by_cases e : rn s ≤ rn t
  · rw [if_pos e]
    exact ⟨rn s + i, by omega, by omega⟩
  · rw [if_neg e]
    exact ⟨rn s - i, by omega, by omega⟩
theorem rowAt_is {s t : List Pg} (h : s.length = t.length) {i k : Nat} (hi : i ≤ dist s t) (e : (rn s : Int) + (i : Int) * (if rn s ≤ rn t then 1 else -1) = (k : Int)) : rowS s.length k = rowAt s t i := by
  unfold rowAt
  unfold dist at hi
  by_cases q : rn s ≤ rn t
  · rw [if_pos q] at e ⊢
    congr 1
    omega
  · rw [if_neg q] at e ⊢
    congr 1
    omega
theorem row_pairs {s t : List Pg} {n i : Nat} {x y : PyData} (hx : ((List.range (n + 1)).map fun i => dS (rowAt s t i))[i]? = some x) (hy : (((List.range (n + 1)).map fun i => dS (rowAt s t i)).drop 1)[i]? = some y) : i < n ∧ x = dS (rowAt s t i) ∧ y = dS (rowAt s t (i + 1)) := by
  rw [List.getElem?_drop, List.getElem?_map] at hy
  rw [List.getElem?_map] at hx
  by_cases h : i < n
  · rw [List.getElem?_range (by omega)] at hx hy
    refine ⟨h, (Option.some.inj hx).symm, ?_⟩
    rw [Nat.add_comm 1 i] at hy
    exact (Option.some.inj hy).symm
  · rw [List.getElem?_eq_none (by rw [List.length_range]; omega)] at hy
    cases hy
theorem row_zip (s t : List Pg) (n : Nat) : dZip ((List.range (n + 1)).map fun i => dS (rowAt s t i)) (((List.range (n + 1)).map fun i => dS (rowAt s t i)).drop 1) = (List.range n).map fun i => PyData.tuple [dS (rowAt s t i), dS (rowAt s t (i + 1))] := by
  apply List.ext_getElem?
  intro i
  cases h : (dZip ((List.range (n + 1)).map fun i => dS (rowAt s t i)) (((List.range (n + 1)).map fun i => dS (rowAt s t i)).drop 1))[i]? with
  | some d =>
    obtain ⟨x, y, hx, hy, rfl⟩ := dZip_get h
    obtain ⟨hi, rfl, rfl⟩ := row_pairs hx hy
    rw [List.getElem?_map, List.getElem?_range hi]
    rfl
  | none =>
    have hl := List.getElem?_eq_none_iff.mp h
    unfold dZip at hl
    rw [List.length_zipWith, List.length_drop, List.length_map, List.length_range] at hl
    rw [List.getElem?_eq_none (by rw [List.length_map, List.length_range]; omega)]
def boolD : PyData → Bool
  | .bool b => b
  | _ => false
theorem near_abs2 {s : List Pg} {m : Nat × Pg} (h : m.1 < s.length) : decide ((if ((m.2.val : Nat) : Int) - ((s[m.1].val : Nat) : Int) < 0 then -(((m.2.val : Nat) : Int) - ((s[m.1].val : Nat) : Int)) else ((m.2.val : Nat) : Int) - ((s[m.1].val : Nat) : Int)) = 1) = nearB s m := by
  unfold nearB
  rw [List.getElem?_eq_getElem h]
  dsimp only
  generalize s[m.1].val = a
  generalize m.2.val = b
  by_cases e : a = b + 1 ∨ b = a + 1
  · rw [decide_eq_true e, decide_eq_true]
    split <;> omega
  · rw [decide_eq_false e, decide_eq_false]
    split <;> omega
end Pd

namespace Pd
open PySem PySem.Spec PyProof.Rows L2 Peg
def inRow (z : Nat) : PyData → Bool
  | .int j => decide ((0 : Int) ≤ j) && decide (j < (z : Int))
  | _ => false
theorem kept_beside (s : List Pg) : kept [PyData.int ((rn s : Int) - 1), .int ((rn s : Int) + 1)] (inRow (3 ^ s.length)) id = ((beside s).map fun k : Nat => (k : Int)).map PyData.int := by
  have hl := rn_lt s
  unfold kept beside
  rw [List.map_id, List.filter_cons, List.filter_cons, List.filter_nil]
  have e1 : inRow (3 ^ s.length) (.int ((rn s : Int) - 1)) = decide (0 < rn s) := by
    show (decide ((0 : Int) ≤ (rn s : Int) - 1) && decide ((rn s : Int) - 1 < ((3 ^ s.length : Nat) : Int))) = _
    by_cases h : 0 < rn s
    · rw [decide_eq_true h, decide_eq_true (by omega), decide_eq_true (by omega)]
      rfl
    · rw [decide_eq_false h, decide_eq_false (by omega)]
      rfl
  have e2 : inRow (3 ^ s.length) (.int ((rn s : Int) + 1)) = decide (rn s + 1 < 3 ^ s.length) := by
    show (decide ((0 : Int) ≤ (rn s : Int) + 1) && decide ((rn s : Int) + 1 < ((3 ^ s.length : Nat) : Int))) = _
    by_cases h : rn s + 1 < 3 ^ s.length
    · rw [decide_eq_true h, decide_eq_true (by omega), decide_eq_true (by omega)]
      rfl
    · rw [decide_eq_false h, decide_eq_true (by omega), decide_eq_false (by omega)]
      rfl
  rw [e1, e2]
  by_cases h1 : 0 < rn s <;> by_cases h2 : rn s + 1 < 3 ^ s.length <;> simp only [h1, h2, decide_true, decide_false, if_true, if_false, List.nil_append, List.append_nil, List.map_nil, List.map_cons, List.cons_append, Bool.false_eq_true]
  · congr 2
    · omega
  · congr 2
    omega
  · rfl
theorem eqv_dNs (l : List Nat) : PyData.eqv (.list (l.map (PyData.int ∘ fun k : Nat => (k : Int)))) (.list (l.map (PyData.int ∘ fun k : Nat => (k : Int)))) = true := by
  have h : ∀ l : List Nat, PyData.eqvAll (l.map (PyData.int ∘ fun k : Nat => (k : Int))) (l.map (PyData.int ∘ fun k : Nat => (k : Int))) = true := by
    intro l
    induction l with
    | nil => simp [PyData.eqvAll]
    | cons a l ih =>
      rw [List.map_cons, PyData.eqvAll, ih]
      simp [PyData.eqv]
  simp only [PyData.eqv, h]
theorem far_on {x i : Nat} : ∃ f : Nat, atI [PyData.int ((x : Int) / 256 % 40), .int (2990 + (x : Int) / 256 % 20)] ((x : Int) / 16384 % 4 / 3 * (if decide ((i : Int) < 6) = true then 1 else 0)) = some (dN f) := by
  have h : (x : Int) / 16384 % 4 / 3 * (if decide ((i : Int) < 6) = true then 1 else 0) = ((0 : Nat) : Int) ∨ (x : Int) / 16384 % 4 / 3 * (if decide ((i : Int) < 6) = true then 1 else 0) = ((1 : Nat) : Int) := by
    split <;> omega
  rcases h with h | h
  · rw [h]
    exact ⟨x / 256 % 40, atI_nat (by show some (PyData.int ((x : Int) / 256 % 40)) = some (PyData.int ((x / 256 % 40 : Nat) : Int)); rfl)⟩
  · rw [h]
    exact ⟨2990 + x / 256 % 20, atI_nat (by show some (PyData.int (2990 + (x : Int) / 256 % 20)) = some (PyData.int ((2990 + x / 256 % 20 : Nat) : Int)); rfl)⟩
theorem shp_str {x : Str} (h : PyData.strOk x = true) : SeqAt.shaped (.str x) = true := by
  show (PyData.canLay0 (.str x) && decide (PyData.depth (.str x) ≤ 64)) = true
  simp [PyData.canLay0, PyData.depth, h]
theorem eqv_str (x : Str) : PyData.eqv (.str x) (.str x) = true := by simp [PyData.eqv]
end Pd

namespace Pd
open PySem PySem.Spec PyProof.Rows L2 Peg
/-! ### what is refused -/
/-- no two unlike pegs -/
def badPegs (x y : PyData) : Prop := isAmong x 0 2 = false ∨ (∃ a : Pg, x = dP a ∧ isAmong y 0 2 = false) ∨ ∃ a : Pg, x = dP a ∧ y = dP a
/-- what two askings' setting and other one do: the class that is due -/
def RaiseP (aS aU : Addr) (x y : PyData) (C : Addr) : Prop := okD x = true ∧ okD y = true ∧ ((isSetD x = false ∧ C = aS) ∨ (∃ s : List Pg, x = dS s ∧ s.length ≤ 60 ∧ isSetD y = false ∧ C = aS) ∨
  ∃ s t : List Pg, x = dS s ∧ y = dS t ∧ s.length ≤ 60 ∧ t.length ≤ 60 ∧ s.length ≠ t.length ∧ C = aU)
def MoreBad (aP aD aC : Addr) (e : Int) (ds : List PyData) (C : Addr) : Prop :=
  (e = 0 ∧ ∃ (s : List Pg) (p : PyData), ds = [dS s, p] ∧ s.length ≤ 60 ∧ plainD p = true ∧ isAmong p 0 2 = false ∧ C = aP) ∨
  (e = 1 ∧ ∃ (s : List Pg) (p q : PyData), ds = [dS s, p, q] ∧ s.length ≤ 60 ∧ (plainD p = true ∧ plainD q = true) ∧ badPegs p q ∧ C = aP) ∨
  (e = 2 ∧ ∃ x p : PyData, ds = [x, p] ∧ (plainD x = true ∧ plainD p = true) ∧ ((isAmong x 0 60 = false ∧ C = aD) ∨ ∃ n : Nat, x = dN n ∧ n ≤ 60 ∧ isAmong p 0 2 = false ∧ C = aP)) ∨
  (e = 3 ∧ ∃ x k : PyData, ds = [x, k] ∧ (plainD x = true ∧ plainD k = true) ∧ ((isAmong x 0 60 = false ∧ C = aD) ∨ ∃ n : Nat, x = dN n ∧ n ≤ 60 ∧ isAmong k 0 (((3 ^ n : Nat) : Int) - 1) = false ∧ C = aC)) ∨
  (e = 4 ∧ ∃ x p q k : PyData, ds = [x, p, q, k] ∧ (plainD x = true ∧ plainD p = true ∧ plainD q = true ∧ plainD k = true) ∧
    ((isAmong x 0 60 = false ∧ C = aD) ∨ (∃ n : Nat, x = dN n ∧ n ≤ 60 ∧ badPegs p q ∧ C = aP) ∨ ∃ (n : Nat) (a b : Pg), x = dN n ∧ n ≤ 60 ∧ a ≠ b ∧ p = dP a ∧ q = dP b ∧ isAmong k 0 (((2 ^ n : Nat) : Int) - 1) = false ∧ C = aC))
def TriedP (aS aU aP aD aC : Addr) (kind e : Int) (ds : List PyData) (C : Addr) : Prop :=
  (kind = 0 ∧ ∃ x : PyData, ds = [x] ∧ (0 ≤ e ∧ e ≤ 6) ∧ okD x = true ∧ isSetD x = false ∧ C = aS) ∨
  (kind = 1 ∧ ∃ x y : PyData, ds = [x, y] ∧ (0 ≤ e ∧ e ≤ 7) ∧ RaiseP aS aU x y C) ∨ (kind = 2 ∧ MoreBad aP aD aC e ds C)
section
variable {K : PySem.W.Frag} {c : Cc} {δ : DEnv} {ds : List PyData} {te tb : TE} {g : TG} {tt : TT} {vs : List Nat} {C : Addr} {f : PyData}
theorem evx_lc (h : EvX K c te δ C f) : EvX K c (tLc (iSeq K te) g tt tb vs) δ C f := fun σ H ts td s Q q => h σ H ts td s _ q
theorem ev_emp : EvD K c tDNewK δ dEmp := fun σ H ts td s Q q => fun p hp => by
  obtain ⟨G, rn, e, t⟩ := s
  have r' := Run.new (o := .dK []) rn.h hp
  exact q _ _ ⟨_, rn.trans r', e.run r', .cons (.emp upd_same) (t.ex r'.g)⟩
theorem cn_listT : CallN K (rListP K) [.tuple ds] ds := fun G H vs e r Q q => by
  obtain ⟨v, rfl, hv⟩ := r.one
  obtain ⟨p, xs, rfl, hp, r1⟩ := hv.tup_inv
  exact ⟨p, xs, rfl, .inr (SqT.of (e _ _ hp)), fun l hl => q l xs G _ (Run.newg e hl) hl (e.free hl) upd_same r1⟩
end
/-- one of a list's items by a number's rest -/
theorem at_mod {ds : List PyData} {m : Int} {n : Nat} (h0 : 0 ≤ m) (hn : ds.length = n) (hp : 0 < n) : ∃ z ∈ ds, atI ds (m % (n : Int)) = some z := by
  have h1 : 0 ≤ m % (n : Int) := Int.emod_nonneg _ (by omega)
  have h2 : m % (n : Int) < n := Int.emod_lt_of_pos _ (by omega)
  obtain ⟨k, hk⟩ : ∃ k : Nat, m % (n : Int) = (k : Int) := ⟨(m % (n : Int)).toNat, by omega⟩
  have hl : k < ds.length := by omega
  refine ⟨ds[k], List.getElem_mem hl, ?_⟩
  rw [hk]
  exact atI_nat (List.getElem?_eq_getElem hl)
theorem among_no {i lo hi : Int} (h : ¬ (lo ≤ i ∧ i ≤ hi)) : isAmong (.int i) lo hi = false := by
  show (decide (lo ≤ i) && decide (i ≤ hi)) = false
  by_cases h1 : lo ≤ i
  · rw [decide_eq_false (p := i ≤ hi) fun z => h ⟨h1, z⟩, Bool.and_false]
  · rw [decide_eq_false h1, Bool.false_and]
theorem isSetD_more (s : List Pg) : isSetD (.tuple ((s.map dP).take 59 ++ [.int 3])) = false := by
  show (decide (((s.map dP).take 59 ++ [PyData.int 3]).length ≤ 60) && ((s.map dP).take 59 ++ [PyData.int 3]).all fun d => isAmong d 0 2) = false
  rw [List.all_append, show ([PyData.int 3].all fun d => isAmong d 0 2) = false by decide, Bool.and_false, Bool.and_false]
theorem isSetD_long (n : Nat) (h : 60 < n) (d : PyData) : isSetD (.tuple (List.replicate n d)) = false := by
  show (decide ((List.replicate n d).length ≤ 60) && _) = false
  rw [List.length_replicate, decide_eq_false (by omega), Bool.false_and]
end Pd

namespace Pd
open PySem PySem.Spec PyProof.Rows L2 Peg
theorem cut_last (s : List Pg) : PyData.tuple (cutD (s.map dP) none (some (-1))) = dS s.dropLast := by
  unfold cutD
  rw [HT.sIx_none, List.drop_zero, Nat.sub_zero]
  have e : HT.sIx (s.map dP).length (s.map dP).length (some (-1)) = s.length - 1 := by
    show (if (-1 : Int) < 0 then ((-1 : Int) + ((s.map dP).length : Int)).toNat else min (-1 : Int).toNat (s.map dP).length) = s.length - 1
    rw [if_pos (by decide), List.length_map]
    omega
  rw [e, dS, List.dropLast_eq_take, List.map_take]
theorem eqv_words {a b : Str} (h : a = b) : PyData.eqv (.str a) (.str b) = true := by
  subst h
  exact eqv_str a
end Pd

namespace Pd
open PySem PySem.Spec PyProof.Rows L2 Peg
/-! ### moves that may be, or not -/
def mvOf : PyData → Option (Nat × Pg)
  | .tuple [.int i, .int j] => if 0 ≤ i ∧ 0 ≤ j ∧ j ≤ 2 then some (i.toNat, pgN j.toNat) else none
  | _ => none
def moveB (s : List Pg) (d : PyData) : Bool := match mvOf d with
  | some m => decide (m ∈ may s)
  | none => false
theorem mvOf_dM (m : Nat × Pg) : mvOf (dM m) = some m := by
  obtain ⟨a, p⟩ := m
  have h := p.isLt
  show (if (0 : Int) ≤ (a : Int) ∧ (0 : Int) ≤ ((p.val : Nat) : Int) ∧ ((p.val : Nat) : Int) ≤ 2 then some ((a : Int).toNat, pgN ((p.val : Nat) : Int).toNat) else none) = some (a, p)
  rw [if_pos ⟨by omega, by omega, by omega⟩, Int.toNat_natCast, show pgN ((p.val : Nat) : Int).toNat = p from pgD_dP p]
theorem moveB_dM (s : List Pg) (m : Nat × Pg) : moveB s (dM m) = decide (m ∈ may s) := by
  unfold moveB
  rw [mvOf_dM]
theorem any_may (s : List Pg) (m : Nat × Pg) : ((may s).map dM).any (fun z => PyData.eqv z (dM m)) = decide (m ∈ may s) := by
  rw [List.any_map]
  induction may s with
  | nil => simp
  | cons a l ih =>
    rw [List.any_cons, ih]
    show (PyData.eqv (dM a) (dM m) || decide (m ∈ l)) = decide (m ∈ a :: l)
    rw [eqv_dM]
    by_cases e : a = m
    · subst e
      simp
    · have e' : ¬ m = a := fun z => e z.symm
      simp [e, e']
theorem moveB_len {s : List Pg} {ds : List PyData} (h : ds.length ≠ 2) : moveB s (.tuple ds) = false := by
  unfold moveB mvOf
  split
  · rename_i m hm
    split at hm
    · rename_i i j heq
      cases heq
      exact absurd rfl h
    · cases hm
  · rfl
/-- two ints in range are a move's -/
theorem moveB_in {s : List Pg} {a b : PyData} (h1 : isAmong a 0 ((s.length : Int) - 1) = true) (h2 : isAmong b 0 2 = true) : ∃ m : Nat × Pg, PyData.tuple [a, b] = dM m := by
  cases a with
  | int i =>
    cases b with
    | int j =>
      have h1' := Bool.and_eq_true_iff.mp (show (decide (0 ≤ i) && decide (i ≤ (s.length : Int) - 1)) = true from h1)
      have h2' := Bool.and_eq_true_iff.mp (show (decide (0 ≤ j) && decide (j ≤ 2)) = true from h2)
      have a1 := of_decide_eq_true h1'.1
      have b1 := of_decide_eq_true h2'.1
      have b2 := of_decide_eq_true h2'.2
      obtain ⟨p, hp⟩ : ∃ p : Nat, j = (p : Int) := ⟨j.toNat, by omega⟩
      obtain ⟨q, hq⟩ : ∃ q : Nat, i = (q : Int) := ⟨i.toNat, by omega⟩
      subst hp hq
      exact ⟨(q, ⟨p, by omega⟩), rfl⟩
    | _ => cases h2
  | _ => cases h1
theorem moveB_out {s : List Pg} {a b : PyData} (h : ¬ (isAmong a 0 ((s.length : Int) - 1) = true ∧ isAmong b 0 2 = true)) : moveB s (.tuple [a, b]) = false := by
  cases q : moveB s (.tuple [a, b]) with
  | false => rfl
  | true =>
    exfalso
    unfold moveB at q
    cases hm : mvOf (.tuple [a, b]) with
    | none =>
      rw [hm] at q
      cases q
    | some m =>
      rw [hm] at q
      have q' := may_len (of_decide_eq_true q)
      cases a with
      | int i =>
        cases b with
        | int j =>
          have hm' : (if 0 ≤ i ∧ 0 ≤ j ∧ j ≤ 2 then some (i.toNat, pgN j.toNat) else none) = some m := hm
          split at hm'
          · rename_i hc
            have e := Option.some.inj hm'
            subst e
            have q2 : i.toNat < s.length := q'
            refine h ⟨?_, ?_⟩
            · show (decide (0 ≤ i) && decide (i ≤ (s.length : Int) - 1)) = true
              rw [decide_eq_true hc.1, decide_eq_true (by omega)]
              rfl
            · show (decide (0 ≤ j) && decide (j ≤ 2)) = true
              rw [decide_eq_true hc.2.1, decide_eq_true hc.2.2]
              rfl
          · cases hm'
        | _ => cases hm
      | _ => cases hm
theorem sd_retAtI {K : PySem.W.Frag} {c : Cc} {δ : DEnv} {te : TE} {N : DEnv → Prop} {R : Rs → Prop} {i n : Nat} {m : Int} {ds : List PyData} (h : δ[i]? = some (some (Cel.val (.list ds)))) (hl : ds.length = n) (hp : 0 < n) (h0 : 0 ≤ m) (hi : EvD K c te δ (.int (m % (n : Int)))) (hR : ∀ z ∈ ds, R (.val z)) :
    SD K c (tRet (tOp (rIx K) (tVar i) te)) δ N R := by
  obtain ⟨z, hz, hat⟩ := at_mod h0 hl hp
  exact sd_ret (ev_op (ev_var h) hi (od_ixL hat)) (hR z hz)
/-- a disc's moves that may not be -/
theorem kept_not (s : List Pg) (k : Nat) : ∃ l : List (Nat × Pg), l.length ≤ 3 ∧ (∀ m ∈ l, m ∉ may s) ∧ kept (dRange 0 3) (fun d => match d with | .int j => !decide ((k, pgN j.toNat) ∈ may s) | _ => false) (fun d => match d with | .int j => dM (k, pgN j.toNat) | _ => .none) = l.map dM := by
  refine ⟨(pgs.filter fun p => !decide ((k, p) ∈ may s)).map fun p => (k, p), ?_, fun m hm => ?_, ?_⟩
  · rw [List.length_map]
    exact Nat.le_trans (List.length_filter_le _ _) (by decide)
  · obtain ⟨p, hp, rfl⟩ := List.mem_map.mp hm
    have h := (List.mem_filter.mp hp).2
    simpa using h
  · show ((dRange 0 3).filter _).map _ = _
    have e : dRange 0 3 = pgs.map dP := rfl
    rw [e, List.filter_map, List.map_map, List.map_map]
    have e2 : ∀ p : Pg, pgN ((p.val : Nat) : Int).toNat = p := fun p => pgD_dP p
    have e3 : ((fun d => match d with | .int j => !decide ((k, pgN j.toNat) ∈ may s) | _ => false) ∘ dP) = fun p => !decide ((k, p) ∈ may s) := by
      funext p
      show (!decide ((k, pgN ((p.val : Nat) : Int).toNat) ∈ may s)) = _
      rw [e2]
    rw [e3]
    refine List.map_congr_left fun p _ => ?_
    show dM (k, pgN ((p.val : Nat) : Int).toNat) = dM (k, p)
    rw [e2]
theorem eqv_tups (s : List Pg) : PyData.eqv (dS s) (dS s) = true := by
  rw [eqv_dS]
  exact decide_eq_true rfl
end Pd

namespace Pd
open PySem PySem.Spec PyProof.Rows L2 Peg
/-! ### a walk -/
def WalkOk (x : Nat → List Pg) (ms : List (Nat × Pg)) : Prop := ∀ i m, ms[i]? = some m → m ∈ may (x i) ∧ aft (x i) m = x (i + 1)
def rowL (x : Nat → List Pg) (n : Nat) : List PyData := ((List.range (n + 1)).map x).map dS
theorem rowL_len (x : Nat → List Pg) (n : Nat) : (rowL x n).length = n + 1 := by simp [rowL]
theorem rowL_succ (x : Nat → List Pg) (n : Nat) : rowL x (n + 1) = rowL x n ++ [dS (x (n + 1))] := by
  unfold rowL
  rw [List.range_succ, List.map_append, List.map_append]
  rfl
theorem rowL_last (x : Nat → List Pg) (n : Nat) : atI (rowL x n) (-1) = some (dS (x n)) := by
  unfold rowL
  rw [List.range_succ, List.map_append, List.map_append]
  exact atI_last _ _
theorem rowL_at (x : Nat → List Pg) {n a : Nat} (h : a ≤ n) : atI (rowL x n) (a : Int) = some (dS (x a)) := by
  refine atI_nat ?_
  unfold rowL
  rw [List.getElem?_map, List.getElem?_map, List.getElem?_range (by omega)]
  rfl
theorem walk_len {x : Nat → List Pg} {ms : List (Nat × Pg)} (h : WalkOk x ms) : ∀ i, i ≤ ms.length → (x i).length = (x 0).length
  | 0, _ => rfl
  | i + 1, hi => by
    have h1 : ms[i]? = some ms[i] := List.getElem?_eq_getElem (by omega)
    obtain ⟨_, h2⟩ := h i _ h1
    rw [← h2, aft_len]
    exact walk_len h i (by omega)
def WalkA (x : Nat → List Pg) (d : PyData) (ms : List (Nat × Pg)) : Prop := d = dMs ms ∧ ms.length ≤ 1000 ∧ WalkOk x ms
def WalkB (x : Nat → List Pg) (d f : PyData) : Prop := (plainD d = true ∧ isLstB d = false ∧ f = .none) ∨ ∃ (ms : List (Nat × Pg)) (w : PyData) (rest : List PyData), d = .list (ms.map dM ++ w :: rest) ∧ (ms.map dM ++ w :: rest).length ≤ 1000 ∧ WalkOk x ms ∧ okD w = true ∧ moveB (x ms.length) w = false ∧ f = .int (ms.length : Int)
theorem WalkB.fld {x : Nat → List Pg} {d f : PyData} (h : WalkB x d f) : fldD f = true := by
  rcases h with ⟨_, _, rfl⟩ | ⟨ms, w, rest, _, _, _, _, _, rfl⟩ <;> rfl
/-- where one is behind so many moves -/
def walkAt (s : List Pg) (ms : List (Nat × Pg)) (i : Nat) : List Pg := (ms.take i).foldl aft s
theorem walkAt_more (s : List Pg) (ms : List (Nat × Pg)) (m : Nat × Pg) {i : Nat} (h : i ≤ ms.length) : walkAt s (ms ++ [m]) i = walkAt s ms i := by
  unfold walkAt
  rw [List.take_append_of_le_length h]
theorem walkAt_end (s : List Pg) (ms : List (Nat × Pg)) (m : Nat × Pg) : walkAt s (ms ++ [m]) (ms.length + 1) = aft (walkAt s ms ms.length) m := by
  unfold walkAt
  rw [List.take_of_length_le (by simp), List.take_length, List.foldl_append]
  rfl
theorem walk_more {s : List Pg} {ms : List (Nat × Pg)} {m : Nat × Pg} (h : WalkOk (walkAt s ms) ms) (hm : m ∈ may (walkAt s ms ms.length)) : WalkOk (walkAt s (ms ++ [m])) (ms ++ [m]) := fun i k hk => by
  by_cases hi : i < ms.length
  · rw [List.getElem?_append_left hi] at hk
    rw [walkAt_more s ms m (by omega), walkAt_more s ms m (by omega)]
    exact h i k hk
  · have e : i = ms.length := by
      have := (List.getElem?_eq_some_iff.mp hk).1
      rw [List.length_append, List.length_singleton] at this
      omega
    subst e
    rw [List.getElem?_concat_length] at hk
    cases hk
    rw [walkAt_more s ms m (Nat.le_refl _), walkAt_end]
    exact ⟨hm, rfl⟩
theorem row_more (s : List Pg) (ms : List (Nat × Pg)) (m : Nat × Pg) : rowL (walkAt s (ms ++ [m])) (ms.length + 1) = rowL (walkAt s ms) ms.length ++ [dS (aft (walkAt s ms ms.length) m)] := by
  rw [rowL_succ, walkAt_end]
  congr 1
  unfold rowL
  rw [List.map_map, List.map_map]
  refine List.map_congr_left fun i hi => ?_
  have := List.mem_range.mp hi
  show dS (walkAt s (ms ++ [m]) i) = dS (walkAt s ms i)
  rw [walkAt_more s ms m (by omega)]
theorem walk_take {x : Nat → List Pg} {ms : List (Nat × Pg)} (h : WalkOk x ms) (a : Nat) : WalkOk x (ms.take a) := fun i m hm => by
  rw [List.getElem?_take] at hm
  split at hm
  · exact h i m hm
  · cases hm
theorem eqv_setsA : ∀ l : List (List Pg), PyData.eqvAll (l.map dS) (l.map dS) = true
  | [] => by simp [PyData.eqvAll]
  | s :: l => by
    rw [List.map_cons, PyData.eqvAll, eqv_setsA l, eqv_tups]
    rfl
theorem eqv_sets (l : List (List Pg)) : PyData.eqv (.list (l.map dS)) (.list (l.map dS)) = true := by
  simp only [PyData.eqv, eqv_setsA]
theorem kept_tups (l : List (List Pg)) : kept (l.map dS) (fun _ => true) (fun d => .bool (isTupB d)) = (List.replicate l.length true).map PyData.bool := by
  rw [kept_all, List.map_map, List.map_replicate]
  induction l with
  | nil => rfl
  | cons p s ih => rw [List.map_cons, ih]; rfl
end Pd

namespace Pd
open PySem PySem.Spec PyProof.Rows L2 Peg
theorem kept_goes (m : Nat) (ms : List (Nat × Pg)) : kept (ms.map dM) (fun d => decide ((mvD d).1 = m)) id = (goesN m ms).map dM := by
  unfold kept goesN
  rw [List.filter_map, List.map_id]
  congr 1
end Pd

namespace PW
open PySem PySem.Spec PyProof.Rows L2 Pd
/-! ### the text by places -/
def topS (i : Nat) : Stmt := PySem.Challenge.pw_pegdiscs_k07_ways_told.main.body.getD i (.Pass ⟨0, 0, 0, 0⟩)
abbrev s_is_among : Stmt := topS 12
theorem sc_is_among : FnScope ["thing", "least", "most"] ["thing", "least", "most"] (defScope s_is_among) := ⟨rfl, rfl, rfl, by decide +kernel, rfl, by decide +kernel, by decide +kernel⟩
abbrev s_is_peg : Stmt := topS 13
theorem sc_is_peg : FnScope ["thing"] ["thing"] (defScope s_is_peg) := ⟨rfl, rfl, rfl, by decide +kernel, rfl, by decide +kernel, by decide +kernel⟩
abbrev s_is_setting : Stmt := topS 14
theorem sc_is_setting : FnScope ["thing", "peg"] ["thing"] (defScope s_is_setting) := ⟨rfl, rfl, rfl, by decide +kernel, rfl, by decide +kernel, by decide +kernel⟩
abbrev s_need_setting : Stmt := topS 15
theorem sc_need_setting : FnScope ["thing"] ["thing"] (defScope s_need_setting) := ⟨rfl, rfl, rfl, by decide +kernel, rfl, by decide +kernel, by decide +kernel⟩
abbrev s_need_pair : Stmt := topS 16
theorem sc_need_pair : FnScope ["one", "other"] ["one", "other"] (defScope s_need_pair) := ⟨rfl, rfl, rfl, by decide +kernel, rfl, by decide +kernel, by decide +kernel⟩
abbrev s_need_discs : Stmt := topS 17
theorem sc_need_discs : FnScope ["discs"] ["discs"] (defScope s_need_discs) := ⟨rfl, rfl, rfl, by decide +kernel, rfl, by decide +kernel, by decide +kernel⟩
abbrev s_third : Stmt := topS 18
theorem sc_third : FnScope ["one", "other"] ["one", "other"] (defScope s_third) := ⟨rfl, rfl, rfl, by decide +kernel, rfl, by decide +kernel, by decide +kernel⟩
abbrev s_put : Stmt := topS 19
theorem sc_put : FnScope ["setting", "disc", "peg"] ["setting", "disc", "peg"] (defScope s_put) := ⟨rfl, rfl, rfl, by decide +kernel, rfl, by decide +kernel, by decide +kernel⟩
abbrev s_to_peg : Stmt := topS 22
theorem sc_to_peg : FnScope ["setting", "peg", "discs", "found", "disc"] ["setting", "peg", "discs"] (defScope s_to_peg) := ⟨rfl, rfl, rfl, by decide +kernel, rfl, by decide +kernel, by decide +kernel⟩
abbrev s_greatest_unlike : Stmt := topS 23
theorem sc_greatest_unlike : FnScope ["one", "other", "disc"] ["one", "other"] (defScope s_greatest_unlike) := ⟨rfl, rfl, rfl, by decide +kernel, rfl, by decide +kernel, by decide +kernel⟩
abbrev s_choices : Stmt := topS 24
theorem sc_choices : FnScope ["one", "other", "disc", "begin", "end", "free", "once", "twice"] ["one", "other"] (defScope s_choices) := ⟨rfl, rfl, rfl, by decide +kernel, rfl, by decide +kernel, by decide +kernel⟩
abbrev s_far : Stmt := topS 25
theorem sc_far : FnScope ["one", "other", "told"] ["one", "other"] (defScope s_far) := ⟨rfl, rfl, rfl, by decide +kernel, rfl, by decide +kernel, by decide +kernel⟩
abbrev s_many_ways : Stmt := topS 26
theorem sc_many_ways : FnScope ["one", "other", "told"] ["one", "other"] (defScope s_many_ways) := ⟨rfl, rfl, rfl, by decide +kernel, rfl, by decide +kernel, by decide +kernel⟩
abbrev s_first_to : Stmt := topS 27
theorem sc_first_to : FnScope ["setting", "peg", "discs", "found", "disc"] ["setting", "peg", "discs"] (defScope s_first_to) := ⟨rfl, rfl, rfl, by decide +kernel, rfl, by decide +kernel, by decide +kernel⟩
abbrev s_next_move : Stmt := topS 28
theorem sc_next_move : FnScope ["one", "other", "told", "disc", "once", "twice", "goal", "found"] ["one", "other"] (defScope s_next_move) := ⟨rfl, rfl, rfl, by decide +kernel, rfl, by decide +kernel, by decide +kernel⟩
abbrev s_steps_to : Stmt := topS 29
theorem sc_steps_to : FnScope ["setting", "peg", "discs", "found", "move", "disc", "there"] ["setting", "peg", "discs"] (defScope s_steps_to) := ⟨rfl, rfl, rfl, by decide +kernel, rfl, by decide +kernel, by decide +kernel⟩
abbrev s_steps_from : Stmt := topS 30
theorem sc_steps_from : FnScope ["setting", "peg", "discs", "disc", "here", "there"] ["setting", "peg", "discs"] (defScope s_steps_from) := ⟨rfl, rfl, rfl, by decide +kernel, rfl, by decide +kernel, by decide +kernel⟩
abbrev s_ways : Stmt := topS 31
theorem sc_ways : FnScope ["one", "other", "told", "disc", "once", "twice", "begin", "end", "free", "found", "ahead", "between", "row", "step"] ["one", "other"] (defScope s_ways) := ⟨rfl, rfl, rfl, by decide +kernel, rfl, by decide +kernel, by decide +kernel⟩
abbrev s_way : Stmt := topS 32
theorem sc_way : FnScope ["one", "other"] ["one", "other"] (defScope s_way) := ⟨rfl, rfl, rfl, by decide +kernel, rfl, by decide +kernel, by decide +kernel⟩
abbrev s_need_pegs : Stmt := topS 34
theorem sc_need_pegs : FnScope ["begin", "end"] ["begin", "end"] (defScope s_need_pegs) := ⟨rfl, rfl, rfl, by decide +kernel, rfl, by decide +kernel, by decide +kernel⟩
abbrev s_setting_at : Stmt := topS 35
theorem sc_setting_at : FnScope ["discs", "begin", "end", "number", "found", "disc", "free"] ["discs", "begin", "end", "number"] (defScope s_setting_at) := ⟨rfl, rfl, rfl, by decide +kernel, rfl, by decide +kernel, by decide +kernel⟩
abbrev s_law_cell : Stmt := topS 37
theorem sc_law_cell : FnScope ["_law_script", "_law_k", "_law_cell_here"] ["_law_script", "_law_k"] (defScope s_law_cell) := ⟨rfl, rfl, rfl, by decide +kernel, rfl, by decide +kernel, by decide +kernel⟩
abbrev s_law_great : Stmt := topS 38
theorem sc_law_great : FnScope ["_law_script", "_law_k", "_law_found", "_law_cell_here"] ["_law_script", "_law_k"] (defScope s_law_great) := ⟨rfl, rfl, rfl, by decide +kernel, rfl, by decide +kernel, by decide +kernel⟩
abbrev s_law_setting : Stmt := topS 39
theorem sc_law_setting : FnScope ["_law_number", "_law_discs", "_law_pegs", "_law_rest", "_law_disc", "_law_peg", "_law_at", "_law_some"] ["_law_number", "_law_discs"] (defScope s_law_setting) := ⟨rfl, rfl, rfl, by decide +kernel, rfl, by decide +kernel, by decide +kernel⟩
abbrev s_law_may : Stmt := topS 40
theorem sc_law_may : FnScope ["_law_setting_here", "_law_tops", "_law_found", "_law_own", "_law_peg", "_law_disc"] ["_law_setting_here"] (defScope s_law_may) := ⟨rfl, rfl, rfl, by decide +kernel, rfl, by decide +kernel, by decide +kernel⟩
abbrev s_law_behind : Stmt := topS 41
theorem sc_law_behind : FnScope ["_law_setting_here", "_law_move"] ["_law_setting_here", "_law_move"] (defScope s_law_behind) := ⟨rfl, rfl, rfl, by decide +kernel, rfl, by decide +kernel, by decide +kernel⟩
abbrev s_law_word : Stmt := topS 42
theorem sc_law_word : FnScope ["_law_e", "_law_some", "_law_found", "_law_word_here", "_law_good"] ["_law_e"] (defScope s_law_word) := ⟨rfl, rfl, rfl, by decide +kernel, rfl, by decide +kernel, by decide +kernel⟩
abbrev s_law_whole : Stmt := topS 43
theorem sc_law_whole : FnScope ["_law_thing"] ["_law_thing"] (defScope s_law_whole) := ⟨rfl, rfl, rfl, by decide +kernel, rfl, by decide +kernel, by decide +kernel⟩
abbrev s_law_is_move : Stmt := topS 44
theorem sc_law_is_move : FnScope ["_law_thing"] ["_law_thing"] (defScope s_law_is_move) := ⟨rfl, rfl, rfl, by decide +kernel, rfl, by decide +kernel, by decide +kernel⟩
abbrev s_law_tied : Stmt := topS 45
theorem sc_law_tied : FnScope ["_law_number", "_law_discs", "_law_disc", "_law_begin", "_law_end", "_law_rest", "_law_one", "_law_other"] ["_law_number", "_law_discs"] (defScope s_law_tied) := ⟨rfl, rfl, rfl, by decide +kernel, rfl, by decide +kernel, by decide +kernel⟩
abbrev s_law_pair : Stmt := topS 46
theorem sc_law_pair : FnScope ["_law_script", "_law_k", "_law_discs", "_law_number", "_law_one", "_law_other", "_law_kind", "_law_at"] ["_law_script", "_law_k", "_law_discs"] (defScope s_law_pair) := ⟨rfl, rfl, rfl, by decide +kernel, rfl, by decide +kernel, by decide +kernel⟩
abbrev s_law_leads : Stmt := topS 47
theorem sc_law_leads : FnScope ["_law_one", "_law_other", "_law_row", "_law_move"] ["_law_one", "_law_other", "_law_row"] (defScope s_law_leads) := ⟨rfl, rfl, rfl, by decide +kernel, rfl, by decide +kernel, by decide +kernel⟩
abbrev s_law_goes : Stmt := topS 48
theorem sc_law_goes : FnScope ["_law_one", "_law_other", "_law_row", "_law_unlike", "_law_disc", "_law_move"] ["_law_one", "_law_other", "_law_row"] (defScope s_law_goes) := ⟨rfl, rfl, rfl, by decide +kernel, rfl, by decide +kernel, by decide +kernel⟩
abbrev s_law_refused : Stmt := topS 49
theorem sc_law_refused : FnScope ["_law_deed", "_law_one", "_law_other", "_law_error", "_law_e"] ["_law_deed", "_law_one", "_law_other"] (defScope s_law_refused) := ⟨rfl, rfl, rfl, by decide +kernel, rfl, by decide +kernel, by decide +kernel⟩
abbrev s_law_right : Stmt := topS 50
theorem sc_law_right : FnScope ["_law_one", "_law_other", "_law_long", "_law_found", "_law_row", "_law_told", "_law_due", "_law_kept"] ["_law_one", "_law_other"] (defScope s_law_right) := ⟨rfl, rfl, rfl, by decide +kernel, rfl, by decide +kernel, by decide +kernel⟩
abbrev s_law : Stmt := topS 51
theorem sc_law : FnScope ["_law_script", "_law_k", "_law_number", "_law_discs", "_law_one", "_law_other", "_law_edge"] ["_law_script"] (defScope s_law) := ⟨rfl, rfl, rfl, by decide +kernel, rfl, by decide +kernel, by decide +kernel⟩
theorem room65 {k : Nat} {A : Around} (r : Room k A) : A.units + 65 < cLine := by
  have := r.un
  omega
/-- where things stand -/
structure Ad where
  a_is_among : Addr
  d_is_among : FuncData
  a_is_peg : Addr
  d_is_peg : FuncData
  a_is_setting : Addr
  d_is_setting : FuncData
  a_need_setting : Addr
  d_need_setting : FuncData
  a_need_pair : Addr
  d_need_pair : FuncData
  a_need_discs : Addr
  d_need_discs : FuncData
  a_third : Addr
  d_third : FuncData
  a_put : Addr
  d_put : FuncData
  a_to_peg : Addr
  d_to_peg : FuncData
  a_greatest_unlike : Addr
  d_greatest_unlike : FuncData
  a_choices : Addr
  d_choices : FuncData
  a_far : Addr
  d_far : FuncData
  a_many_ways : Addr
  d_many_ways : FuncData
  a_first_to : Addr
  d_first_to : FuncData
  a_next_move : Addr
  d_next_move : FuncData
  a_steps_to : Addr
  d_steps_to : FuncData
  a_steps_from : Addr
  d_steps_from : FuncData
  a_ways : Addr
  d_ways : FuncData
  a_way : Addr
  d_way : FuncData
  a_need_pegs : Addr
  d_need_pegs : FuncData
  a_setting_at : Addr
  d_setting_at : FuncData
  a_law_cell : Addr
  d_law_cell : FuncData
  a_law_great : Addr
  d_law_great : FuncData
  a_law_setting : Addr
  d_law_setting : FuncData
  a_law_may : Addr
  d_law_may : FuncData
  a_law_behind : Addr
  d_law_behind : FuncData
  a_law_word : Addr
  d_law_word : FuncData
  a_law_whole : Addr
  d_law_whole : FuncData
  a_law_is_move : Addr
  d_law_is_move : FuncData
  a_law_tied : Addr
  d_law_tied : FuncData
  a_law_pair : Addr
  d_law_pair : FuncData
  a_law_leads : Addr
  d_law_leads : FuncData
  a_law_goes : Addr
  d_law_goes : FuncData
  a_law_refused : Addr
  d_law_refused : FuncData
  a_law_right : Addr
  d_law_right : FuncData
  a_law : Addr
  d_law : FuncData
  t_MOST_DISCS : Tok
  t_LAST_PEG : Tok
  t_MOST_MOVES : Tok
  a_PegError : Addr
  a_BadSetting : Addr
  a_Unlike : Addr
  a_BadPegs : Addr
  a_BadDiscs : Addr
  a_BadCount : Addr
  a_TooMany : Addr
  a_BadMove : Addr
/-- what the top has written -/
structure Txt (K : PySem.W.Frag) (mg : Str → Option Value) (A : Ad) : Prop where
  f_is_among : Fun K "is_among" "is_among" s_is_among A.a_is_among A.d_is_among
  g_is_among : mg "is_among" = some (.ref A.a_is_among)
  b_is_among : Binds K A.d_is_among ["thing", "least", "most"] []
  f_is_peg : Fun K "is_peg" "is_peg" s_is_peg A.a_is_peg A.d_is_peg
  g_is_peg : mg "is_peg" = some (.ref A.a_is_peg)
  b_is_peg : Binds K A.d_is_peg ["thing"] []
  f_is_setting : Fun K "is_setting" "is_setting" s_is_setting A.a_is_setting A.d_is_setting
  g_is_setting : mg "is_setting" = some (.ref A.a_is_setting)
  b_is_setting : Binds K A.d_is_setting ["thing"] []
  f_need_setting : Fun K "need_setting" "need_setting" s_need_setting A.a_need_setting A.d_need_setting
  g_need_setting : mg "need_setting" = some (.ref A.a_need_setting)
  b_need_setting : Binds K A.d_need_setting ["thing"] []
  f_need_pair : Fun K "need_pair" "need_pair" s_need_pair A.a_need_pair A.d_need_pair
  g_need_pair : mg "need_pair" = some (.ref A.a_need_pair)
  b_need_pair : Binds K A.d_need_pair ["one", "other"] []
  f_need_discs : Fun K "need_discs" "need_discs" s_need_discs A.a_need_discs A.d_need_discs
  g_need_discs : mg "need_discs" = some (.ref A.a_need_discs)
  b_need_discs : Binds K A.d_need_discs ["discs"] []
  f_third : Fun K "third" "third" s_third A.a_third A.d_third
  g_third : mg "third" = some (.ref A.a_third)
  b_third : Binds K A.d_third ["one", "other"] []
  f_put : Fun K "put" "put" s_put A.a_put A.d_put
  g_put : mg "put" = some (.ref A.a_put)
  b_put : Binds K A.d_put ["setting", "disc", "peg"] []
  f_to_peg : Fun K "to_peg" "to_peg" s_to_peg A.a_to_peg A.d_to_peg
  g_to_peg : mg "to_peg" = some (.ref A.a_to_peg)
  b_to_peg : Binds K A.d_to_peg ["setting", "peg", "discs"] []
  f_greatest_unlike : Fun K "greatest_unlike" "greatest_unlike" s_greatest_unlike A.a_greatest_unlike A.d_greatest_unlike
  g_greatest_unlike : mg "greatest_unlike" = some (.ref A.a_greatest_unlike)
  b_greatest_unlike : Binds K A.d_greatest_unlike ["one", "other"] []
  f_choices : Fun K "choices" "choices" s_choices A.a_choices A.d_choices
  g_choices : mg "choices" = some (.ref A.a_choices)
  b_choices : Binds K A.d_choices ["one", "other"] []
  f_far : Fun K "far" "far" s_far A.a_far A.d_far
  g_far : mg "far" = some (.ref A.a_far)
  b_far : Binds K A.d_far ["one", "other"] []
  f_many_ways : Fun K "many_ways" "many_ways" s_many_ways A.a_many_ways A.d_many_ways
  g_many_ways : mg "many_ways" = some (.ref A.a_many_ways)
  b_many_ways : Binds K A.d_many_ways ["one", "other"] []
  f_first_to : Fun K "first_to" "first_to" s_first_to A.a_first_to A.d_first_to
  g_first_to : mg "first_to" = some (.ref A.a_first_to)
  b_first_to : Binds K A.d_first_to ["setting", "peg", "discs"] []
  f_next_move : Fun K "next_move" "next_move" s_next_move A.a_next_move A.d_next_move
  g_next_move : mg "next_move" = some (.ref A.a_next_move)
  b_next_move : Binds K A.d_next_move ["one", "other"] []
  f_steps_to : Fun K "steps_to" "steps_to" s_steps_to A.a_steps_to A.d_steps_to
  g_steps_to : mg "steps_to" = some (.ref A.a_steps_to)
  b_steps_to : Binds K A.d_steps_to ["setting", "peg", "discs"] []
  f_steps_from : Fun K "steps_from" "steps_from" s_steps_from A.a_steps_from A.d_steps_from
  g_steps_from : mg "steps_from" = some (.ref A.a_steps_from)
  b_steps_from : Binds K A.d_steps_from ["setting", "peg", "discs"] []
  f_ways : Fun K "ways" "ways" s_ways A.a_ways A.d_ways
  g_ways : mg "ways" = some (.ref A.a_ways)
  b_ways : Binds K A.d_ways ["one", "other"] []
  f_way : Fun K "way" "way" s_way A.a_way A.d_way
  g_way : mg "way" = some (.ref A.a_way)
  b_way : Binds K A.d_way ["one", "other"] []
  f_need_pegs : Fun K "need_pegs" "need_pegs" s_need_pegs A.a_need_pegs A.d_need_pegs
  g_need_pegs : mg "need_pegs" = some (.ref A.a_need_pegs)
  b_need_pegs : Binds K A.d_need_pegs ["begin", "end"] []
  f_setting_at : Fun K "setting_at" "setting_at" s_setting_at A.a_setting_at A.d_setting_at
  g_setting_at : mg "setting_at" = some (.ref A.a_setting_at)
  b_setting_at : Binds K A.d_setting_at ["discs", "begin", "end", "number"] []
  f_law_cell : Fun K "_law_cell" "_law_cell" s_law_cell A.a_law_cell A.d_law_cell
  g_law_cell : mg "_law_cell" = some (.ref A.a_law_cell)
  b_law_cell : Binds K A.d_law_cell ["_law_script", "_law_k"] []
  f_law_great : Fun K "_law_great" "_law_great" s_law_great A.a_law_great A.d_law_great
  g_law_great : mg "_law_great" = some (.ref A.a_law_great)
  b_law_great : Binds K A.d_law_great ["_law_script", "_law_k"] []
  f_law_setting : Fun K "_law_setting" "_law_setting" s_law_setting A.a_law_setting A.d_law_setting
  g_law_setting : mg "_law_setting" = some (.ref A.a_law_setting)
  b_law_setting : Binds K A.d_law_setting ["_law_number", "_law_discs"] []
  f_law_may : Fun K "_law_may" "_law_may" s_law_may A.a_law_may A.d_law_may
  g_law_may : mg "_law_may" = some (.ref A.a_law_may)
  b_law_may : Binds K A.d_law_may ["_law_setting_here"] []
  f_law_behind : Fun K "_law_behind" "_law_behind" s_law_behind A.a_law_behind A.d_law_behind
  g_law_behind : mg "_law_behind" = some (.ref A.a_law_behind)
  b_law_behind : Binds K A.d_law_behind ["_law_setting_here", "_law_move"] []
  f_law_word : Fun K "_law_word" "_law_word" s_law_word A.a_law_word A.d_law_word
  g_law_word : mg "_law_word" = some (.ref A.a_law_word)
  b_law_word : Binds K A.d_law_word ["_law_e"] []
  f_law_whole : Fun K "_law_whole" "_law_whole" s_law_whole A.a_law_whole A.d_law_whole
  g_law_whole : mg "_law_whole" = some (.ref A.a_law_whole)
  b_law_whole : Binds K A.d_law_whole ["_law_thing"] []
  f_law_is_move : Fun K "_law_is_move" "_law_is_move" s_law_is_move A.a_law_is_move A.d_law_is_move
  g_law_is_move : mg "_law_is_move" = some (.ref A.a_law_is_move)
  b_law_is_move : Binds K A.d_law_is_move ["_law_thing"] []
  f_law_tied : Fun K "_law_tied" "_law_tied" s_law_tied A.a_law_tied A.d_law_tied
  g_law_tied : mg "_law_tied" = some (.ref A.a_law_tied)
  b_law_tied : Binds K A.d_law_tied ["_law_number", "_law_discs"] []
  f_law_pair : Fun K "_law_pair" "_law_pair" s_law_pair A.a_law_pair A.d_law_pair
  g_law_pair : mg "_law_pair" = some (.ref A.a_law_pair)
  b_law_pair : Binds K A.d_law_pair ["_law_script", "_law_k", "_law_discs"] []
  f_law_leads : Fun K "_law_leads" "_law_leads" s_law_leads A.a_law_leads A.d_law_leads
  g_law_leads : mg "_law_leads" = some (.ref A.a_law_leads)
  b_law_leads : Binds K A.d_law_leads ["_law_one", "_law_other", "_law_row"] []
  f_law_goes : Fun K "_law_goes" "_law_goes" s_law_goes A.a_law_goes A.d_law_goes
  g_law_goes : mg "_law_goes" = some (.ref A.a_law_goes)
  b_law_goes : Binds K A.d_law_goes ["_law_one", "_law_other", "_law_row"] []
  f_law_refused : Fun K "_law_refused" "_law_refused" s_law_refused A.a_law_refused A.d_law_refused
  g_law_refused : mg "_law_refused" = some (.ref A.a_law_refused)
  b_law_refused : Binds K A.d_law_refused ["_law_deed", "_law_one", "_law_other"] []
  f_law_right : Fun K "_law_right" "_law_right" s_law_right A.a_law_right A.d_law_right
  g_law_right : mg "_law_right" = some (.ref A.a_law_right)
  b_law_right : Binds K A.d_law_right ["_law_one", "_law_other"] []
  f_law : Fun K "law" "law" s_law A.a_law A.d_law
  g_law : mg "law" = some (.ref A.a_law)
  b_law : Binds K A.d_law ["_law_script"] []
  c_MOST_DISCS : mg "MOST_DISCS" = some (.int 60 A.t_MOST_DISCS)
  c_LAST_PEG : mg "LAST_PEG" = some (.int 2 A.t_LAST_PEG)
  c_MOST_MOVES : mg "MOST_MOVES" = some (.int 3000 A.t_MOST_MOVES)
  n_isinstance : mg "isinstance" = none
  n_int : mg "int" = none
  n_bool : mg "bool" = none
  n_tuple : mg "tuple" = none
  n_all : mg "all" = none
  n_len : mg "len" = none
  n_reversed : mg "reversed" = none
  n_range : mg "range" = none
  n_min : mg "min" = none
  n_sorted : mg "sorted" = none
  n_enumerate : mg "enumerate" = none
  n_ValueError : mg "ValueError" = none
  n_list : mg "list" = none
  g_PegError : mg "PegError" = some (.ref A.a_PegError)
  g_BadSetting : mg "BadSetting" = some (.ref A.a_BadSetting)
  g_Unlike : mg "Unlike" = some (.ref A.a_Unlike)
  g_BadPegs : mg "BadPegs" = some (.ref A.a_BadPegs)
  g_BadDiscs : mg "BadDiscs" = some (.ref A.a_BadDiscs)
  g_BadCount : mg "BadCount" = some (.ref A.a_BadCount)
  g_TooMany : mg "TooMany" = some (.ref A.a_TooMany)
  g_BadMove : mg "BadMove" = some (.ref A.a_BadMove)
  r_TooMany : RaiC K A.a_TooMany
  e_TooMany : ExcC K A.a_TooMany
  i_TooMany_PegError : PySem.W.kitOne K (.ref A.a_TooMany) (.ref A.a_PegError) = some true
  i_TooMany_BadSetting : PySem.W.kitOne K (.ref A.a_TooMany) (.ref A.a_BadSetting) = some false
  i_TooMany_Unlike : PySem.W.kitOne K (.ref A.a_TooMany) (.ref A.a_Unlike) = some false
  i_TooMany_BadPegs : PySem.W.kitOne K (.ref A.a_TooMany) (.ref A.a_BadPegs) = some false
  i_TooMany_BadDiscs : PySem.W.kitOne K (.ref A.a_TooMany) (.ref A.a_BadDiscs) = some false
  i_TooMany_BadCount : PySem.W.kitOne K (.ref A.a_TooMany) (.ref A.a_BadCount) = some false
  i_TooMany_TooMany : PySem.W.kitOne K (.ref A.a_TooMany) (.ref A.a_TooMany) = some true
  i_TooMany_BadMove : PySem.W.kitOne K (.ref A.a_TooMany) (.ref A.a_BadMove) = some false
  i_TooMany_ValueError : PySem.W.kitOne K (.ref A.a_TooMany) (.type "ValueError") = some true
  p_TooMany : PySem.W.exmOne K (.ref A.a_TooMany) (.ref A.a_PegError) = some true
section
variable {P : Program} {w : World} {K : PySem.W.Frag} {mg : Str → Option Value} {base : Heap} {A : Ad}
end
end PW
open PySem PySem.Spec PyProof.Rows L2 Pd Peg
local macro_rules | `(tactic| walk_at "sd") => `(tactic| first | assumption | trivial | omega | decide | rfl | (refine ⟨?_, ?_⟩ <;> walk_at "sd"))
local macro_rules | `(tactic| walk_at "opd") => `(tactic| first
  | with_reducible exact od_add | with_reducible exact od_sub | with_reducible exact od_lt | with_reducible exact od_le | with_reducible exact od_gt | with_reducible exact od_ge | with_reducible exact od_and
  | ((with_reducible refine' od_eqNil ?h0); (case h0 => walk_at "shp")) | ((with_reducible refine' od_neNil ?h0); (case h0 => walk_at "shp")) | with_reducible exact od_neS | with_reducible exact od_eqI | with_reducible exact od_neI | with_reducible exact od_isN | with_reducible exact od_notN | with_reducible exact od_isB | with_reducible exact od_notB
  | ((with_reducible refine' od_mod ?h0); (case h0 => walk_at "sd")) | ((with_reducible refine' od_fdivW ?h0 ?h1); (case h0 => walk_at "sd"); (case h1 => walk_at "sd")) | ((with_reducible refine' od_mul ?h0); (case h0 => walk_at "mul")) | ((with_reducible refine' od_shl ?h0); (case h0 => walk_at "pow")) | ((with_reducible refine' od_pow ?h0); (case h0 => walk_at "pow")) | ((with_reducible refine' od_shr ?h0); (case h0 => walk_at "sd"))
  | ((with_reducible refine' od_ixT ?h0); (case h0 => walk_at "at")) | ((with_reducible refine' od_ixL ?h0); (case h0 => walk_at "at")) | ((with_reducible refine' od_ixS ?h0); (case h0 => walk_at "at"))
  | ((with_reducible refine' od_catT ?h0); (case h0 => walk_at "len")) | ((with_reducible refine' od_repT ?h0 ?h1); (case h0 => walk_at "sd"); (case h1 => walk_at "sd"))
  | ((with_reducible refine' od_eq ?h0 ?h1); (case h0 => walk_at "shp"); (case h1 => walk_at "shp")) | ((with_reducible refine' od_ne ?h0 ?h1); (case h0 => walk_at "shp"); (case h1 => walk_at "shp"))
  | ((with_reducible refine' od_inT ?h0 ?h1); (case h0 => walk_at "flt"); (case h1 => walk_at "flt")) | ((with_reducible refine' od_niT ?h0 ?h1); (case h0 => walk_at "flt"); (case h1 => walk_at "flt")) | ((with_reducible refine' od_inL ?h0 ?h1); (case h0 => walk_at "shp"); (case h1 => walk_at "shp")) | ((with_reducible refine' od_niL ?h0 ?h1); (case h0 => walk_at "shp"); (case h1 => walk_at "shp")))
local macro_rules | `(tactic| walk_at "mul") => `(tactic| first | assumption | (unfold CMul; omega))
local macro_rules | `(tactic| walk_at "pow") => `(tactic| first | assumption | (unfold CPow; omega) | decide)
local macro_rules | `(tactic| walk_at "at") => `(tactic| first | assumption | exact atI_nat (by assumption) | rfl)
local macro_rules | `(tactic| walk_at "len") => `(tactic| first | assumption | (simp; omega) | (simp only [List.length_map, List.length_append, List.length_take, List.length_drop, List.length_cons, List.length_nil]; omega) | decide)
local macro_rules | `(tactic| walk_at "shp") => `(tactic| first | assumption | exact shp_one _ | rfl)
local macro_rules | `(tactic| walk_at "flt") => `(tactic| first | assumption | rfl)
local macro_rules | `(tactic| walk_at "opn") => `(tactic| first
  | ((with_reducible refine' on_cat ?h0); (case h0 => walk_at "len")) | ((with_reducible refine' on_rep ?h0 ?h1 ?h2); (case h0 => walk_at "sd"); (case h1 => walk_at "sd"); (case h2 => walk_at "sd")))
local macro_rules | `(tactic| walk_at "cd") => `(tactic| first
  | with_reducible exact cd_lenT | with_reducible exact cd_lenL | with_reducible exact cd_lenS | with_reducible exact cd_abs | with_reducible exact cd_min2 | with_reducible exact cd_all | with_reducible exact cd_sum | with_reducible exact cd_intB | with_reducible exact cd_tup
  | ((with_reducible refine' cd_isi ?h0 ?h1); (case h0 => walk_at "isi"); (case h1 => walk_at "isi")))
local macro_rules | `(tactic| walk_at "isi") => `(tactic| first | assumption | exact kit_int _ | exact kit_bool _ | exact kit_tup _ | exact kit_lst _ | rfl)
local macro_rules | `(tactic| walk_at "ev") => `(tactic| first
  | with_reducible exact ev_int | with_reducible exact ev_bl | with_reducible exact ev_non | with_reducible exact ev_str | with_reducible exact ev_ty | with_reducible exact ev_cls
  | ((with_reducible refine' ev_var ?h0); (case h0 => exact rfl))
  | ((with_reducible refine' ev_op ?h0 ?h1 ?h2); (case h0 => walk_at "ev"); (case h1 => walk_at "ev"); (case h2 => walk_at "opd"))
  | ((with_reducible refine' ev_un ?h0 ?h1); (case h0 => walk_at "ev"); (case h1 => exact fun _ _ _ _ hv _ q => ⟨_, hv.int_inv, q _ (.int _)⟩))
  | ((with_reducible refine' ev_cb ?h0 ?h1); (case h0 => walk_at "ea"); (case h1 => walk_at "cd"))
  | ((with_reducible refine' ev_call ?h0 ?h1); (case h0 => walk_at "ea"); (case h1 => walk_at "sp"))
  | ((with_reducible refine' ev_tup ?h0 ?h1); (case h0 => walk_at "ea"); (case h1 => walk_at "len"))
  | ((with_reducible refine' ev_slT ?h0 ?h1 ?h2); (case h0 => walk_at "ev"); (case h1 => walk_at "eo"); (case h2 => walk_at "eo"))
  | ((with_reducible refine' ev_andV ?h0 ?h1); (case h0 => walk_at "ev"); (case h1 => (intro _; walk_at "evt")))
  | ((with_reducible refine' ev_orV ?h0 ?h1); (case h0 => walk_at "ev"); (case h1 => (intro _; walk_at "evt")))
  | ((with_reducible refine' ev_notV ?h0); (case h0 => walk_at "ev"))
  | ((with_reducible refine' ev_chain ?h0 ?h1 ?h2 ?h3 ?h4); (case h0 => walk_at "ev"); (case h1 => walk_at "ev"); (case h2 => walk_at "opd"); (case h3 => (intro _; walk_at "ev")); (case h4 => (intro _; walk_at "opd")))
  | ((with_reducible refine' EvN.val ?h0); (case h0 => walk_at "en")))
local macro_rules | `(tactic| walk_at "evt") => `(tactic| first
  | exact (absurd (by assumption) Bool.false_ne_true : EvD _ _ _ _ (.bool true))
  | exact (absurd (by assumption) (fun z : true = false => Bool.false_ne_true z.symm) : EvD _ _ _ _ (.bool true))
  | walk_at "ev")
local macro_rules | `(tactic| walk_at "en") => `(tactic| first
  | ((with_reducible refine' ev_opN ?h0 ?h1 ?h2); (case h0 => walk_at "ev"); (case h1 => walk_at "ev"); (case h2 => walk_at "opn"))
  | ((with_reducible refine' ev_lstN ?h0 ?h1); (case h0 => walk_at "ea"); (case h1 => walk_at "len"))
  | ((with_reducible refine' ev_slL ?h0 ?h1 ?h2); (case h0 => walk_at "ev"); (case h1 => walk_at "eo"); (case h2 => walk_at "eo"))
  | ((with_reducible refine' ev_cbN ?h0 ?h1); (case h0 => walk_at "ea"); (case h1 => with_reducible exact cn_list))
  | ((with_reducible refine' ev_callN ?h0 ?h1); (case h0 => walk_at "ea"); (case h1 => walk_at "sp")))
local macro_rules | `(tactic| walk_at "ea") => `(tactic| first
  | with_reducible exact ea_nil
  | ((with_reducible refine' ea_cons ?h0 ?h1); (case h0 => walk_at "ev"); (case h1 => walk_at "ea")))
local macro_rules | `(tactic| walk_at "eo") => `(tactic| first
  | with_reducible exact eo_none
  | ((with_reducible refine' eo_some ?h0); (case h0 => walk_at "ev")))
local macro_rules | `(tactic| walk_at "et") => `(tactic| first
  | ((with_reducible refine' et_not ?h0); (case h0 => walk_at "et"))
  | ((with_reducible refine' et_and ?h0 ?h1); (case h0 => walk_at "et"); (case h1 => (intro _; walk_at "ett")))
  | ((with_reducible refine' et_or ?h0 ?h1); (case h0 => walk_at "et"); (case h1 => (intro _; walk_at "ett")))
  | ((with_reducible refine' et_test ?h0); (case h0 => walk_at "ev"))
  | ((with_reducible refine' et_val ?h0); (case h0 => walk_at "ev")))
local macro_rules | `(tactic| walk_at "ett") => `(tactic| first
  | exact (absurd (by assumption) Bool.false_ne_true : EvT _ _ _ _ true)
  | exact (absurd (by assumption) (fun z : true = false => Bool.false_ne_true z.symm) : EvT _ _ _ _ true)
  | walk_at "et")
local macro_rules | `(tactic| walk_at "sp") => `(tactic| first
  | exact fun vs H Q h => ⟨_, by walk_at "sd", h⟩
  | exact fun vs H Q h => ⟨_, _, by walk_at "sd", h⟩
  | exact fun vs H Q h => ⟨_, _, _, by walk_at "sd", h⟩
  | exact fun vs H Q h => ⟨_, _, _, _, by walk_at "sd", h⟩
  | exact fun vs H Q h => ⟨_, _, _, _, _, by walk_at "sd", h⟩)
local macro_rules | `(tactic| walk_at "ret") => `(tactic| (refine' sd_ret ?h0 ?h1; (case h0 => walk_at "ev"); try rfl))
local macro_rules | `(tactic| walk_at "retN") => `(tactic| (refine' sd_retN ?h0 ?h1; (case h0 => walk_at "en"); try rfl))
local macro_rules | `(tactic| walk_at "as") => `(tactic| (refine' sd_asgS ?h0 ?h1; (case h0 => walk_at "ev"); try simp only [List.set_cons_zero, List.set_cons_succ]))
local macro_rules | `(tactic| walk_at "asN") => `(tactic| (refine' sd_asgNS ?h0 ?h1; (case h0 => walk_at "en"); try simp only [List.set_cons_zero, List.set_cons_succ]))
local macro_rules | `(tactic| walk_at "aug") => `(tactic| (refine' sd_augS ?h0 ?h2 ?h1; (case h0 => exact rfl); (case h2 => walk_at "ev"); try simp only [List.set_cons_zero, List.set_cons_succ]))
local macro_rules | `(tactic| walk_at "drop") => `(tactic| (refine' sd_dropS ?h0 ?h1; (case h0 => walk_at "ev")))
local macro_rules | `(tactic| walk_at "par") => `(tactic| (refine' sd_parS ?h0 ?h1; (case h0 => walk_at "ea"); try simp only [List.set_cons_zero, List.set_cons_succ]))
local macro_rules | `(tactic| walk_at "if") => `(tactic| (refine' sd_if ?h0 ?h1 ?h2; (case h0 => walk_at "et")))
local macro_rules | `(tactic| walk_at "ifS") => `(tactic| (refine' sd_ifS ?h0 ?h1 ?h2; (case h0 => walk_at "et")))
local macro_rules | `(tactic| walk_at "go") => `(tactic| ((try dsimp only [cxOf, Cx.nox, Cx.wish, Cx.blk]); try simp only [env0, List.map_cons, List.map_nil, List.length_cons, List.length_nil, List.replicate, List.cons_append, List.nil_append, Nat.reduceAdd, Nat.reduceSub]))
local macro_rules | `(tactic| walk_at "asL") => `(tactic| (refine' sd_asg ?h0 ?h1; (case h0 => walk_at "ev")))
local macro_rules | `(tactic| walk_at "augL") => `(tactic| (refine' sd_aug ?h0 ?h2 ?h1; (case h0 => exact rfl); (case h2 => walk_at "ev")))
local macro_rules | `(tactic| walk_at "asE") => `(tactic| (refine' sd_asgES (Z := _) (ev_callE ?h0 ?h1) ?h2; (case h0 => walk_at "ea"); (case h1 => walk_at "sp"); try simp only [List.set_cons_zero, List.set_cons_succ]))

namespace PW
section
variable {P : Program} {w : World} {K : PySem.W.Frag} {mg : Str → Option Value} {base : Heap} {A : Ad}
/-- 0 one 1 other -/
def sp_third (K : PySem.W.Frag) : Sp := fun vs H Q _ => ∃ (a b : Pg), a ≠ b ∧ Pr K vs H Q [dP a, dP b] (dP (thd a b))
theorem ok_third (T : Txt K mg A) : FnOk P w K mg base CX0 1 A.a_third A.d_third ["one", "other"] (sp_third K) := by
  refine T.f_third.ok sc_third (fun vs H Q E h => ?_) (fun cdv A' outer s H vs Q E hr h => ?_)
  · obtain ⟨a, b, _, h⟩ := h
    exact h.len
  · obtain ⟨a, b, hp, h⟩ := h
    refine ⟨_, (pss_one (ps_ret (pe_op op_sub (pe_op op_sub pe_int (pv 0)) (pv 1)))), body_val h (Nat.le_of_ble_eq_true rfl) fun c => ?_⟩
    refine' sd_ret ?h0 ?h1
    case h0 => walk_at "ev"
    case h1 => rw [thd_val a b hp]

/-- 0 thing 1 least 2 most -/
def sp_is_among (K : PySem.W.Frag) : Sp := fun vs H Q _ => ∃ (d : PyData) (lo hi : Int), plainD d = true ∧ Pr K vs H Q [d, .int lo, .int hi] (.bool (isAmong d lo hi))
theorem ok_is_among (T : Txt K mg A) : FnOk P w K mg base CX0 1 A.a_is_among A.d_is_among ["thing", "least", "most"] (sp_is_among K) := by
  refine T.f_is_among.ok sc_is_among (fun vs H Q E h => ?_) (fun cdv A' outer s H vs Q E hr h => ?_)
  · obtain ⟨d, lo, hi, _, h⟩ := h
    exact h.len
  · obtain ⟨d, lo, hi, hp, h⟩ := h
    refine ⟨_, (pss_one (ps_ret (pe_and (pe_callB (call_isiK' K rfl) (by rfl) T.n_isinstance (by decide +kernel) (pa_cons (pv 0) (pa_cons (pe_bltn (v := .ty "int") (by rfl) T.n_int (by decide +kernel) rfl) pa_nil))) (pe_and (pe_not (pe_callB (call_isiK' K rfl) (by rfl) T.n_isinstance (by decide +kernel) (pa_cons (pv 0) (pa_cons (pe_bltn (v := .ty "bool") (by rfl) T.n_bool (by decide +kernel) rfl) pa_nil)))) (pe_one (pe_chain op_le op_le (pv 1) (pv 0) (pv 2))))))), body_val h (Nat.le_of_ble_eq_true rfl) fun c => ?_⟩
    walk_at "go"
    cases d <;> walk_at "ret"

/-- 0 thing -/
def sp_is_peg (K : PySem.W.Frag) : Sp := fun vs H Q _ => ∃ (d : PyData), plainD d = true ∧ Pr K vs H Q [d] (.bool (isAmong d 0 2))
theorem ok_is_peg (T : Txt K mg A) : FnOk P w K mg base CX0 2 A.a_is_peg A.d_is_peg ["thing"] (sp_is_peg K) := by
  refine T.f_is_peg.ok sc_is_peg (fun vs H Q E h => ?_) (fun cdv A' outer s H vs Q E hr h => ?_)
  · obtain ⟨d, _, h⟩ := h
    exact h.len
  · obtain ⟨d, hp, h⟩ := h
    refine ⟨_, (pss_one (ps_ret (pe_call (ok_is_among T) hr (by rfl) T.g_is_among T.f_is_among.kp T.b_is_among .nil pass0 (pa_cons (pv 0) (pa_cons pe_int (pa_cons (pe_glob (v := .int 2) (by rfl) T.c_LAST_PEG ⟨_, rfl⟩) pa_nil)))))), body_val h (Nat.le_of_ble_eq_true rfl) fun c => ?_⟩
    walk_at "go"
    walk_at "ret"

/-- 0 thing 1 peg -/
def sp_is_setting (K : PySem.W.Frag) : Sp := fun vs H Q _ => ∃ (d : PyData), okD d = true ∧ Pr K vs H Q [d] (.bool (isSetD d))
theorem ok_is_setting (T : Txt K mg A) : FnOk P w K mg base CX0 3 A.a_is_setting A.d_is_setting ["thing"] (sp_is_setting K) := by
  refine T.f_is_setting.ok sc_is_setting (fun vs H Q E h => ?_) (fun cdv A' outer s H vs Q E hr h => ?_)
  · obtain ⟨d, _, h⟩ := h
    exact h.len
  · obtain ⟨d, hp, h⟩ := h
    refine ⟨_, (pss_one (ps_ret (pe_and (pe_callB (call_isiK' K rfl) (by rfl) T.n_isinstance (by decide +kernel) (pa_cons (pv 0) (pa_cons (pe_bltn (v := .ty "tuple") (by rfl) T.n_tuple (by decide +kernel) rfl) pa_nil))) (pe_and (pe_cmpR op_le (pe_callB (call_lenK K rfl) (by rfl) T.n_len PySem.boot_len (pa_cons (pv 0) pa_nil)) (pe_glob (v := .int 60) (by rfl) T.c_MOST_DISCS ⟨_, rfl⟩) (nomark _)) (pe_one (pe_callB (cr_allK K rfl rfl) (by rfl) T.n_all (by decide +kernel) (pa_cons (pe_lc (own := [("peg", 1)]) (g := gName 1) rfl sc_is_setting.nd (pi_seqK K rfl (pv 0)) (blkOk_by (own := [("peg", 1)]) (N := _) (by kernel_rfl)) (fun _ _ _ _ _ => (pg_name (i := 1) sc_is_setting.nd rfl (by first | exact Or.inl rfl | exact Or.inr rfl))) (fun _ _ _ _ _ => pts_nil) (fun _ _ _ _ _ => (pe_call (ok_is_peg T) hr (by rfl) T.g_is_peg T.f_is_peg.kp T.b_is_peg .nil pass0 (pa_cons (pv 1) pa_nil)))) pa_nil))))))), body_val h (Nat.le_of_ble_eq_true rfl) fun c => ?_⟩
    walk_at "go"
    have hpl := okD_plain hp
    cases d with
    | tuple ds =>
      obtain ⟨h1, h2⟩ := okD_tup hp
      refine' sd_ret (ev_andV (by walk_at "ev") fun _ => ev_andV (by walk_at "ev") fun _ => ev_cb (ea_cons (EvN.val (EvN.eq (ev_lc (Tg := fun d δ => δ.set 1 (cv d)) (js := [1]) (fun _ => true) (fun d => .bool (isAmong d 0 2)) (iv_T (by walk_at "ev")) h1 (fun d _ => tg_name) (by simp) (fun c' d hd => ⟨et_yes, fun _ => ?g1⟩)) ?g2)) ea_nil) cd_all) ?g3
      case g1 =>
        have hpd := h2 d hd
        show EvD K c' _ [cv (.tuple ds), cv d] _
        walk_at "ev"
      case g2 => exact kept_bools
      case g3 => exact isSet_tup
    | none => walk_at "ret"
    | bool b => walk_at "ret"
    | int i => walk_at "ret"
    | str x => walk_at "ret"
    | list xs => walk_at "ret"
    | dict xs => walk_at "ret"

/-- 0 thing -/
def sp_need_setting (K : PySem.W.Frag) : Sp := fun vs H Q _ => ∃ (s : List Pg), s.length ≤ 60 ∧ Pr K vs H Q [dS s] .none
theorem ok_need_setting (T : Txt K mg A) : FnOk P w K mg base CX0 4 A.a_need_setting A.d_need_setting ["thing"] (sp_need_setting K) := by
  refine T.f_need_setting.ok sc_need_setting (fun vs H Q E h => ?_) (fun cdv A' outer s H vs Q E hr h => ?_)
  · obtain ⟨s, _, h⟩ := h
    exact h.len
  · obtain ⟨s, hs, h⟩ := h
    refine ⟨_, (pss_one (ps_if (pt_not (pt_val (pe_call (ok_is_setting T) hr (by rfl) T.g_is_setting T.f_is_setting.kp T.b_is_setting .nil pass0 (pa_cons (pv 0) pa_nil)))) (pss_one ps_never) pss_nil)), body_val h (Nat.le_of_ble_eq_true rfl) fun c => ?_⟩
    walk_at "go"
    have hk := okD_dS hs
    walk_at "if"
    case h1 =>
      intro hc
      rw [isSetD_dS hs] at hc
      cases hc
    case h2 => exact fun _ => sd_next (by first | rfl | trivial)

/-- 0 one 1 other -/
def sp_need_pair (K : PySem.W.Frag) : Sp := fun vs H Q _ => ∃ (s t : List Pg), (s.length ≤ 60 ∧ t.length = s.length) ∧ Pr K vs H Q [dS s, dS t] .none
theorem ok_need_pair (T : Txt K mg A) : FnOk P w K mg base CX0 5 A.a_need_pair A.d_need_pair ["one", "other"] (sp_need_pair K) := by
  refine T.f_need_pair.ok sc_need_pair (fun vs H Q E h => ?_) (fun cdv A' outer s H vs Q E hr h => ?_)
  · obtain ⟨s, t, _, h⟩ := h
    exact h.len
  · obtain ⟨s, t, ⟨hs, ht⟩, h⟩ := h
    refine ⟨_, (pss_cons (ps_expr (pe_call (ok_need_setting T) hr (by rfl) T.g_need_setting T.f_need_setting.kp T.b_need_setting .nil pass0 (pa_cons (pv 0) pa_nil)))
      (pss_cons (ps_expr (pe_call (ok_need_setting T) hr (by rfl) T.g_need_setting T.f_need_setting.kp T.b_need_setting .nil pass0 (pa_cons (pv 1) pa_nil)))
      (pss_one (ps_if (pt_cmpR (op_neK K rfl hr.units) (pe_callB (call_lenK K rfl) (by rfl) T.n_len PySem.boot_len (pa_cons (pv 0) pa_nil)) (pe_callB (call_lenK K rfl) (by rfl) T.n_len PySem.boot_len (pa_cons (pv 1) pa_nil)) (nomark _)) (pss_one ps_never) pss_nil)))), body_val h (Nat.le_of_ble_eq_true rfl) fun c => ?_⟩
    walk_at "go"
    walk_at "drop"
    walk_at "drop"
    walk_at "if"
    case h1 =>
      intro hc
      simp [ht] at hc
    case h2 => exact fun _ => sd_next (by first | rfl | trivial)

/-- 0 setting 1 peg 2 discs 3 found 4 disc -/
def sp_to_peg (K : PySem.W.Frag) : Sp := fun vs H Q _ => ∃ (s : List Pg) (p : Pg) (n : Nat), (n ≤ s.length ∧ s.length ≤ 60) ∧ Pr K vs H Q [dS s, dP p, dN n] (dN (toPg s p n))
theorem ok_to_peg (T : Txt K mg A) : FnOk P w K mg base CX0 2 A.a_to_peg A.d_to_peg ["setting", "peg", "discs"] (sp_to_peg K) := by
  refine T.f_to_peg.ok sc_to_peg (fun vs H Q E h => ?_) (fun cdv A' outer s H vs Q E hr h => ?_)
  · obtain ⟨s, p, n, _, h⟩ := h
    exact h.len
  · obtain ⟨s, p, n, ⟨hn, hs⟩, h⟩ := h
    refine ⟨_, (pss_cons (ps_set (i := 3) sc_to_peg.nd rfl (by first | exact Or.inl rfl | exact Or.inr rfl) pe_int)
      (pss_cons (ps_for PassesOwn.never rfl (pi_revR (by rfl) T.n_reversed (prg_1 (by rfl) T.n_range (pv 2))) (pg_name (i := 4) sc_to_peg.nd rfl (by first | exact Or.inl rfl | exact Or.inr rfl)) (pss_one (ps_if (pt_cmpR (op_neK K rfl hr.units) (pe_ix (ix_seqK K rfl) (pv 0) (pv 4) (fun _ _ => rfl)) (pv 1) (nomark _)) (pss_cons (ps_aug (i := 3) sc_to_peg.nd rfl (by first | exact Or.inl rfl | exact Or.inr rfl) (pe_op op_shl pe_int (pv 4)) ip_add)
      (pss_one (ps_set (i := 1) sc_to_peg.nd rfl (by first | exact Or.inl rfl | exact Or.inr rfl) (pe_call (ok_third T) hr (by rfl) T.g_third T.f_third.kp T.b_third .nil pass0 (pa_cons (pe_ix (ix_seqK K rfl) (pv 0) (pv 4) (fun _ _ => rfl)) (pa_cons (pv 1) pa_nil)))))) pss_nil)))
      (pss_one (ps_ret (pv 3))))), body_val h (Nat.le_of_ble_eq_true rfl) fun c => ?_⟩
    walk_at "go"
    walk_at "as"
    refine sd_seq (M := fun δ' => ∃ pk x, δ' = [cv (dS s), cv (dP pk), cv (dN n), cv (dN (toPg s p n)), x])
      (sd_for (iv_rev1 (by walk_at "ev") (by omega)) (fun i δ' => ∃ pk fo x, δ' = [cv (dS s), cv (dP pk), cv (dN n), cv (dN fo), x] ∧ fo + toPg s pk (n - i) = toPg s p n)
        ⟨p, 0, none, rfl, by simp⟩ (fun i d δ' hd hP => tg_name) (fun c' _ _ i d δ' hd hP => ?_) (fun δ' hP => ?_)) (fun δ' hP => ?_)
    · obtain ⟨hi, rfl⟩ := dDown_get hd
      obtain ⟨pk, fo, x, rfl, e⟩ := hP
      obtain ⟨m, hm⟩ : ∃ m, n - i = m + 1 := ⟨n - i - 1, by omega⟩
      have em : (n : Int) - 1 - (i : Int) = (m : Int) := by omega
      have en : n - (i + 1) = m := by omega
      have hml : m < s.length := by omega
      have hat := at_pg hml
      rw [em]
      rw [hm, toPg, take_rev hml, toP, take_len (by omega)] at e
      simp only [List.set_cons_zero, List.set_cons_succ]
      walk_at "if"
      case h1 =>
        intro hc
        have hne : s[m] ≠ pk := by simpa [pg_ne] using hc
        rw [if_neg hne] at e
        walk_at "aug"
        walk_at "asL"
        refine ⟨_, Le.refl _, thd s[m] pk, fo + 2 ^ m, cv (dN m), ?_, ?_⟩
        · rw [shl_nat]
          rfl
        · rw [en, toPg]
          omega
      case h2 =>
        intro hc
        have he : s[m] = pk := by simpa [pg_ne] using hc
        rw [if_pos he] at e
        exact sd_next ⟨_, Le.refl _, pk, fo, _, rfl, by rw [en, toPg]; exact e⟩
    · rw [dDown_len] at hP
      obtain ⟨pk, fo, x, rfl, e⟩ := hP
      refine ⟨pk, x, ?_⟩
      rw [Nat.sub_self] at e
      rw [show fo = toPg s p n from e]
    · obtain ⟨pk, x, rfl⟩ := hP
      walk_at "ret"

/-- 0 discs -/
def sp_need_discs (K : PySem.W.Frag) : Sp := fun vs H Q _ => ∃ (n : Nat), n ≤ 60 ∧ Pr K vs H Q [dN n] .none
theorem ok_need_discs (T : Txt K mg A) : FnOk P w K mg base CX0 2 A.a_need_discs A.d_need_discs ["discs"] (sp_need_discs K) := by
  refine T.f_need_discs.ok sc_need_discs (fun vs H Q E h => ?_) (fun cdv A' outer s H vs Q E hr h => ?_)
  · obtain ⟨n, _, h⟩ := h
    exact h.len
  · obtain ⟨n, hn, h⟩ := h
    refine ⟨_, (pss_one (ps_if (pt_not (pt_val (pe_call (ok_is_among T) hr (by rfl) T.g_is_among T.f_is_among.kp T.b_is_among .nil pass0 (pa_cons (pv 0) (pa_cons pe_int (pa_cons (pe_glob (v := .int 60) (by rfl) T.c_MOST_DISCS ⟨_, rfl⟩) pa_nil)))))) (pss_one ps_never) pss_nil)), body_val h (Nat.le_of_ble_eq_true rfl) fun c => ?_⟩
    walk_at "go"
    have hk : plainD (dN n) = true := rfl
    walk_at "if"
    case h1 =>
      intro hc
      rw [isAmong_nat (by omega)] at hc
      cases hc
    case h2 => exact fun _ => sd_next (by first | rfl | trivial)

/-- 0 begin 1 end -/
def sp_need_pegs (K : PySem.W.Frag) : Sp := fun vs H Q _ => ∃ (a b : Pg), a ≠ b ∧ Pr K vs H Q [dP a, dP b] .none
theorem ok_need_pegs (T : Txt K mg A) : FnOk P w K mg base CX0 3 A.a_need_pegs A.d_need_pegs ["begin", "end"] (sp_need_pegs K) := by
  refine T.f_need_pegs.ok sc_need_pegs (fun vs H Q E h => ?_) (fun cdv A' outer s H vs Q E hr h => ?_)
  · obtain ⟨a, b, _, h⟩ := h
    exact h.len
  · obtain ⟨a, b, hab, h⟩ := h
    refine ⟨_, (pss_one (ps_if (PW.pt (pw_or (pt_not (pt_val (pe_call (ok_is_peg T) hr (by rfl) T.g_is_peg T.f_is_peg.kp T.b_is_peg .nil pass0 (pa_cons (pv 0) pa_nil)))) (pw_or (pt_not (pt_val (pe_call (ok_is_peg T) hr (by rfl) T.g_is_peg T.f_is_peg.kp T.b_is_peg .nil pass0 (pa_cons (pv 1) pa_nil)))) (pw_or1 (pt_cmpR (op_eqK K rfl hr.units) (pv 0) (pv 1) (nomark _)))))) (pss_one ps_never) pss_nil)), body_val h (Nat.le_of_ble_eq_true rfl) fun c => ?_⟩
    walk_at "go"
    have hk1 : plainD (dP a) = true := rfl
    have hk2 : plainD (dP b) = true := rfl
    walk_at "if"
    case h1 =>
      intro hc
      rw [isAmong_dP a, isAmong_dP b, decide_eq_false (fun z => hab (pg_ne.mp z))] at hc
      cases hc
    case h2 => exact fun _ => sd_next (by first | rfl | trivial)

/-- 0 discs 1 begin 2 end 3 number 4 found 5 disc 6 free -/
def sp_setting_at (K : PySem.W.Frag) : Sp := fun vs H Q _ => ∃ (n : Nat) (b e : Pg) (k : Nat), (n ≤ 60 ∧ b ≠ e ∧ k < 2 ^ n) ∧ Pr K vs H Q [dN n, dP b, dP e, dN k] (dS (atR n b e k))
theorem ok_setting_at (T : Txt K mg A) : FnOk P w K mg base CX0 4 A.a_setting_at A.d_setting_at ["discs", "begin", "end", "number"] (sp_setting_at K) := by
  refine T.f_setting_at.ok sc_setting_at (fun vs H Q E h => ?_) (fun cdv A' outer s H vs Q E hr h => ?_)
  · obtain ⟨n, b, e, k, _, h⟩ := h
    exact h.len
  · obtain ⟨n, b, e, k, ⟨hn, hbe, hk⟩, h⟩ := h
    refine ⟨_, (pss_cons (ps_expr (pe_call (ok_need_discs T) (hr.mono (by decide)) (by rfl) T.g_need_discs T.f_need_discs.kp T.b_need_discs .nil pass0 (pa_cons (pv 0) pa_nil)))
      (pss_cons (ps_expr (pe_call (ok_need_pegs T) hr (by rfl) T.g_need_pegs T.f_need_pegs.kp T.b_need_pegs .nil pass0 (pa_cons (pv 1) (pa_cons (pv 2) pa_nil))))
      (pss_cons (ps_if (pt_not (pt_val (pe_call (ok_is_among T) (hr.mono (by decide)) (by rfl) T.g_is_among T.f_is_among.kp T.b_is_among .nil pass0 (pa_cons (pv 3) (pa_cons pe_int (pa_cons (pe_op op_sub (pe_op op_shl pe_int (pv 0)) pe_int) pa_nil)))))) (pss_one ps_never) pss_nil)
      (pss_cons (ps_set (i := 4) sc_setting_at.nd rfl (by first | exact Or.inl rfl | exact Or.inr rfl) (pe_tup pa_nil))
      (pss_cons (ps_for PassesOwn.never rfl (pi_revR (by rfl) T.n_reversed (prg_1 (by rfl) T.n_range (pv 0))) (pg_name (i := 5) sc_setting_at.nd rfl (by first | exact Or.inl rfl | exact Or.inr rfl)) (pss_cons (ps_set (i := 6) sc_setting_at.nd rfl (by first | exact Or.inl rfl | exact Or.inr rfl) (pe_call (ok_third T) (hr.mono (by decide)) (by rfl) T.g_third T.f_third.kp T.b_third .nil pass0 (pa_cons (pv 1) (pa_cons (pv 2) pa_nil))))
      (pss_one (ps_if (pt_cmpR (op_eqK K rfl hr.units) (pe_op op_and (pe_op op_shr (pv 3) (pv 5)) pe_int) pe_int (nomark _)) (pss_cons (ps_set (i := 4) sc_setting_at.nd rfl (by first | exact Or.inl rfl | exact Or.inr rfl) (pe_op (op_addK K rfl) (pe_tup (pa_cons (pv 1) pa_nil)) (pv 4)))
      (pss_one (ps_set (i := 2) sc_setting_at.nd rfl (by first | exact Or.inl rfl | exact Or.inr rfl) (pv 6)))) (pss_cons (ps_set (i := 4) sc_setting_at.nd rfl (by first | exact Or.inl rfl | exact Or.inr rfl) (pe_op (op_addK K rfl) (pe_tup (pa_cons (pv 2) pa_nil)) (pv 4)))
      (pss_one (ps_set (i := 1) sc_setting_at.nd rfl (by first | exact Or.inl rfl | exact Or.inr rfl) (pv 6))))))))
      (pss_one (ps_ret (pv 4)))))))), body_val h (Nat.le_of_ble_eq_true rfl) fun c => ?_⟩
    walk_at "go"
    walk_at "drop"
    walk_at "drop"
    have hpk : plainD (dN k) = true := rfl
    have hkI : (k : Int) < ((2 ^ n : Nat) : Int) := by exact_mod_cast hk
    walk_at "ifS"
    case h1 =>
      intro hc
      rw [powZ, isAmong_nat (by omega)] at hc
      cases hc
    case h2 =>
      intro _
      refine sd_nextS ?_
      walk_at "as"
      refine sd_seq (M := fun δ' => ∃ b' e' x y, δ' = [cv (dN n), cv (dP b'), cv (dP e'), cv (dN k), cv (dS (atR n b e k)), x, y])
        (sd_for (iv_rev1 (by walk_at "ev") (by omega)) (fun i δ' => ∃ b' e' fo x y, δ' = [cv (dN n), cv (dP b'), cv (dP e'), cv (dN k), cv (dS fo), x, y] ∧ b' ≠ e' ∧ fo.length = i ∧ atR (n - i) b' e' (k % 2 ^ (n - i)) ++ fo = atR n b e k)
          ⟨b, e, [], none, none, rfl, hbe, rfl, by rw [Nat.sub_zero, Nat.mod_eq_of_lt hk, List.append_nil]⟩ (fun i d δ' hd hP => tg_name) (fun c' _ _ i d δ' hd hP => ?_) (fun δ' hP => ?_)) (fun δ' hP => ?_)
      · obtain ⟨hi, rfl⟩ := dDown_get hd
        obtain ⟨b', e', fo, x, y, rfl, hbe', hfl, he⟩ := hP
        obtain ⟨m, hm⟩ : ∃ m, n - i = m + 1 := ⟨n - i - 1, by omega⟩
        have em : (n : Int) - 1 - (i : Int) = (m : Int) := by omega
        have en : n - (i + 1) = m := by omega
        rw [em]
        rw [hm, atR_bit] at he
        simp only [List.set_cons_zero, List.set_cons_succ]
        walk_at "as"
        have n1 := thd_ne b' e' hbe'
        have hm0 : 0 ≤ (m : Int) := by omega
        walk_at "if"
        case h1 =>
          intro hc
          rw [bitZ] at hc
          have hc := of_decide_eq_true hc
          rw [if_pos (by omega)] at he
          refine sd_asgS (EvD.eq (y := dS ([b'] ++ fo)) (ev_op (by walk_at "ev") (by walk_at "ev") (od_catT (by simp; omega))) (by simp [dS])) ?_
          simp only [List.set_cons_zero, List.set_cons_succ]
          walk_at "asL"
          refine ⟨_, Le.refl _, b', thd b' e', [b'] ++ fo, _, _, rfl, Ne.symm n1.1, by simp [hfl], ?_⟩
          rw [en, ← he, List.append_assoc]
        case h2 =>
          intro hc
          rw [bitZ] at hc
          have hc := of_decide_eq_false hc
          rw [if_neg (by omega)] at he
          refine sd_asgS (EvD.eq (y := dS ([e'] ++ fo)) (ev_op (by walk_at "ev") (by walk_at "ev") (od_catT (by simp; omega))) (by simp [dS])) ?_
          simp only [List.set_cons_zero, List.set_cons_succ]
          walk_at "asL"
          refine ⟨_, Le.refl _, thd b' e', e', [e'] ++ fo, _, _, rfl, n1.2, by simp [hfl], ?_⟩
          rw [en, ← he, List.append_assoc]
      · rw [dDown_len] at hP
        obtain ⟨b', e', fo, x, y, rfl, _, _, he⟩ := hP
        rw [Nat.sub_self] at he
        exact ⟨b', e', x, y, by rw [← he]; rfl⟩
      · obtain ⟨b', e', x, y, rfl⟩ := hP
        walk_at "ret"

/-- 0 one 1 other 2 disc -/
def sp_greatest_unlike (K : PySem.W.Frag) : Sp := fun vs H Q _ => ∃ (s t : List Pg), (s.length ≤ 60 ∧ t.length = s.length) ∧ Pr K vs H Q [dS s, dS t] (dNo (gu s.reverse t.reverse))
theorem ok_greatest_unlike (T : Txt K mg A) : FnOk P w K mg base CX0 1 A.a_greatest_unlike A.d_greatest_unlike ["one", "other"] (sp_greatest_unlike K) := by
  refine T.f_greatest_unlike.ok sc_greatest_unlike (fun vs H Q E h => ?_) (fun cdv A' outer s H vs Q E hr h => ?_)
  · obtain ⟨s, t, _, h⟩ := h
    exact h.len
  · obtain ⟨s, t, ⟨hs, ht⟩, h⟩ := h
    refine ⟨_, (pss_cons (ps_for PassesOwn.never rfl (pi_revR (by rfl) T.n_reversed (prg_1 (by rfl) T.n_range (pe_callB (call_lenK K rfl) (by rfl) T.n_len PySem.boot_len (pa_cons (pv 0) pa_nil)))) (pg_name (i := 2) sc_greatest_unlike.nd rfl (by first | exact Or.inl rfl | exact Or.inr rfl)) (pss_one (ps_if (pt_cmpR (op_neK K rfl hr.units) (pe_ix (ix_seqK K rfl) (pv 0) (pv 2) (fun _ _ => rfl)) (pe_ix (ix_seqK K rfl) (pv 1) (pv 2) (fun _ _ => rfl)) (nomark _)) (pss_one (ps_ret (pv 2))) pss_nil)))
      (pss_one (ps_ret pe_non))), body_val h (Nat.le_of_ble_eq_true rfl) fun c => ?_⟩
    walk_at "go"
    have el : (s.map dP).length = s.length := List.length_map ..
    refine sd_seq (M := fun δ' => gu s.reverse t.reverse = none ∧ ∃ x, δ' = [cv (dS s), cv (dS t), x])
      (sd_for (iv_rev1 (m := (s.map dP).length) (by walk_at "ev") (by omega)) (fun i δ' => guG s t (s.length - i) = gu s.reverse t.reverse ∧ ∃ x, δ' = [cv (dS s), cv (dS t), x])
        ⟨by rw [Nat.sub_zero, guG, List.take_length, List.take_of_length_le (by omega)], none, rfl⟩ (fun i d δ' hd hP => tg_name) (fun c' _ _ i d δ' hd hP => ?_) (fun δ' hP => ?_)) (fun δ' hP => ?_)
    · rw [el] at hd
      obtain ⟨hi, rfl⟩ := dDown_get hd
      obtain ⟨e, x, rfl⟩ := hP
      obtain ⟨m, hm⟩ : ∃ m, s.length - i = m + 1 := ⟨s.length - i - 1, by omega⟩
      have em : (s.length : Int) - 1 - (i : Int) = (m : Int) := by omega
      have en : s.length - (i + 1) = m := by omega
      have hml : m < s.length := by omega
      have hmt : m < t.length := by omega
      have hat := at_pg hml
      have hat2 := at_pg hmt
      rw [em]
      rw [hm, guG, take_rev hml, take_rev hmt, gu, take_len (by omega)] at e
      simp only [List.set_cons_zero, List.set_cons_succ]
      walk_at "if"
      case h1 =>
        intro hc
        have hne : s[m] ≠ t[m] := by simpa [pg_ne] using hc
        rw [if_neg hne] at e
        walk_at "ret"
        rw [← e]
        rfl
      case h2 =>
        intro hc
        have he : s[m] = t[m] := by simpa [pg_ne] using hc
        rw [if_pos he] at e
        exact sd_next ⟨_, Le.refl _, by rw [en]; exact e, cv (dN m), rfl⟩
    · rw [dDown_len, el, Nat.sub_self] at hP
      obtain ⟨e, x, rfl⟩ := hP
      exact ⟨e.symm, x, rfl⟩
    · obtain ⟨e, x, rfl⟩ := hP
      walk_at "ret"
      rw [e]
      rfl

/-- 0 one 1 other 2 disc 3 begin 4 end 5 free 6 once 7 twice -/
def sp_choices (K : PySem.W.Frag) : Sp := fun vs H Q _ => ∃ (s t : List Pg), (s.length ≤ 60 ∧ t.length = s.length) ∧ Pr K vs H Q [dS s, dS t] (dCho s.reverse t.reverse)
theorem ok_choices (T : Txt K mg A) : FnOk P w K mg base CX0 6 A.a_choices A.d_choices ["one", "other"] (sp_choices K) := by
  refine T.f_choices.ok sc_choices (fun vs H Q E h => ?_) (fun cdv A' outer s H vs Q E hr h => ?_)
  · obtain ⟨s, t, _, h⟩ := h
    exact h.len
  · obtain ⟨s, t, ⟨hs, ht⟩, h⟩ := h
    refine ⟨_, (pss_cons (ps_expr (pe_call (ok_need_pair T) hr (by rfl) T.g_need_pair T.f_need_pair.kp T.b_need_pair .nil pass0 (pa_cons (pv 0) (pa_cons (pv 1) pa_nil))))
      (pss_cons (ps_set (i := 2) sc_choices.nd rfl (by first | exact Or.inl rfl | exact Or.inr rfl) (pe_call (ok_greatest_unlike T) (hr.mono (by decide)) (by rfl) T.g_greatest_unlike T.f_greatest_unlike.kp T.b_greatest_unlike .nil pass0 (pa_cons (pv 0) (pa_cons (pv 1) pa_nil))))
      (pss_cons (ps_if (pt_cmpR op_isN (pv 2) pe_non (nomark _)) (pss_one (ps_ret pe_non)) pss_nil)
      (pss_cons (ps_par (i := 3) (j := 4) (by rfl) sc_choices.nd rfl rfl (by decide) rfl rfl (pa_cons (pe_ix (ix_seqK K rfl) (pv 0) (pv 2) (fun _ _ => rfl)) (pa_cons (pe_ix (ix_seqK K rfl) (pv 1) (pv 2) (fun _ _ => rfl)) pa_nil)) (by rfl))
      (pss_cons (ps_set (i := 5) sc_choices.nd rfl (by first | exact Or.inl rfl | exact Or.inr rfl) (pe_call (ok_third T) (hr.mono (by decide)) (by rfl) T.g_third T.f_third.kp T.b_third .nil pass0 (pa_cons (pv 3) (pa_cons (pv 4) pa_nil))))
      (pss_cons (ps_set (i := 6) sc_choices.nd rfl (by first | exact Or.inl rfl | exact Or.inr rfl) (pe_op (op_addK K rfl) (pe_op (op_addK K rfl) (pe_call (ok_to_peg T) (hr.mono (by decide)) (by rfl) T.g_to_peg T.f_to_peg.kp T.b_to_peg .nil pass0 (pa_cons (pv 0) (pa_cons (pv 5) (pa_cons (pv 2) pa_nil)))) pe_int) (pe_call (ok_to_peg T) (hr.mono (by decide)) (by rfl) T.g_to_peg T.f_to_peg.kp T.b_to_peg .nil pass0 (pa_cons (pv 1) (pa_cons (pv 5) (pa_cons (pv 2) pa_nil))))))
      (pss_cons (ps_set (i := 7) sc_choices.nd rfl (by first | exact Or.inl rfl | exact Or.inr rfl) (pe_op (op_addK K rfl) (pe_op (op_addK K rfl) (pe_op (op_addK K rfl) (pe_call (ok_to_peg T) (hr.mono (by decide)) (by rfl) T.g_to_peg T.f_to_peg.kp T.b_to_peg .nil pass0 (pa_cons (pv 0) (pa_cons (pv 4) (pa_cons (pv 2) pa_nil)))) (pe_op op_shl pe_int (pv 2))) pe_int) (pe_call (ok_to_peg T) (hr.mono (by decide)) (by rfl) T.g_to_peg T.f_to_peg.kp T.b_to_peg .nil pass0 (pa_cons (pv 1) (pa_cons (pv 3) (pa_cons (pv 2) pa_nil))))))
      (pss_one (ps_ret (pe_tup (pa_cons (pv 2) (pa_cons (pv 6) (pa_cons (pv 7) pa_nil))))))))))))), body_val h (Nat.le_of_ble_eq_true rfl) fun c => ?_⟩
    walk_at "go"
    walk_at "drop"
    walk_at "as"
    cases hg : gu s.reverse t.reverse with
    | none =>
      rw [dCho, hg]
      walk_at "ifS"
      case h1 => intro _; walk_at "ret"
      case h2 => intro hc; cases hc
    | some m =>
      obtain ⟨h1, h2, hne, e1, e2⟩ := gu_some ht hg
      have a1 := at_pg h1
      have a2 := at_pg h2
      have hth : thd s[m] t[m] ≠ s[m] ∧ thd s[m] t[m] ≠ t[m] := thd_ne _ _ hne
      have l1 : m ≤ s.length := by omega
      have l2 : m ≤ t.length := by omega
      have l3 : t.length ≤ 60 := by omega
      walk_at "ifS"
      case h1 => intro hc; cases hc
      case h2 =>
        intro _
        show SD K c (tSeq tNext _) _ _ _
        refine sd_nextS ?_
        rw [show dNo (some m) = dN m from rfl]
        walk_at "par"
        walk_at "as"
        walk_at "as"
        walk_at "as"
        walk_at "ret"
        rw [dCho, hg, e1, e2]
        simp

/-- 0 one 1 other 2 told -/
def sp_far (K : PySem.W.Frag) : Sp := fun vs H Q _ => ∃ (s t : List Pg), (s.length ≤ 60 ∧ t.length = s.length) ∧ Pr K vs H Q [dS s, dS t] (dN (Peg.Fr s t))
theorem ok_far (T : Txt K mg A) : FnOk P w K mg base CX0 7 A.a_far A.d_far ["one", "other"] (sp_far K) := by
  refine T.f_far.ok sc_far (fun vs H Q E h => ?_) (fun cdv A' outer s H vs Q E hr h => ?_)
  · obtain ⟨s, t, _, h⟩ := h
    exact h.len
  · obtain ⟨s, t, ⟨hs, ht⟩, h⟩ := h
    refine ⟨_, (pss_cons (ps_set (i := 2) sc_far.nd rfl (by first | exact Or.inl rfl | exact Or.inr rfl) (pe_call (ok_choices T) hr (by rfl) T.g_choices T.f_choices.kp T.b_choices .nil pass0 (pa_cons (pv 0) (pa_cons (pv 1) pa_nil))))
      (pss_cons (ps_if (pt_cmpR op_isN (pv 2) pe_non (nomark _)) (pss_one (ps_ret pe_int)) pss_nil)
      (pss_one (ps_ret (pe_callB (call_min2 rfl) (by rfl) T.n_min (by decide +kernel) (pa_cons (pe_ix (ix_seqK K rfl) (pv 2) pe_int (fun _ _ => rfl)) (pa_cons (pe_ix (ix_seqK K rfl) (pv 2) pe_int (fun _ _ => rfl)) pa_nil))))))), body_val h (Nat.le_of_ble_eq_true rfl) fun c => ?_⟩
    walk_at "go"
    walk_at "as"
    cases hg : gu s.reverse t.reverse with
    | none =>
      rw [dCho, hg, (gu_far ht hg).1]
      walk_at "ifS"
      case h1 => intro _; walk_at "ret"
      case h2 => intro hc; cases hc
    | some m =>
      rw [dCho, hg]
      walk_at "ifS"
      case h1 => intro hc; cases hc
      case h2 =>
        intro _
        refine sd_nextS ?_
        refine sd_ret (ev_cb (ea_cons (ev_op (ev_var rfl) ev_int (od_ixT rfl)) (ea_cons (ev_op (ev_var rfl) ev_int (od_ixT rfl)) ea_nil)) cd_min2) ?_
        rw [Peg.Fr, Peg.far, dmin]

/-- 0 one 1 other 2 told -/
def sp_many_ways (K : PySem.W.Frag) : Sp := fun vs H Q _ => ∃ (s t : List Pg), (s.length ≤ 60 ∧ t.length = s.length) ∧ Pr K vs H Q [dS s, dS t] (dN (Mn s t))
theorem ok_many_ways (T : Txt K mg A) : FnOk P w K mg base CX0 7 A.a_many_ways A.d_many_ways ["one", "other"] (sp_many_ways K) := by
  refine T.f_many_ways.ok sc_many_ways (fun vs H Q E h => ?_) (fun cdv A' outer s H vs Q E hr h => ?_)
  · obtain ⟨s, t, _, h⟩ := h
    exact h.len
  · obtain ⟨s, t, ⟨hs, ht⟩, h⟩ := h
    refine ⟨_, (pss_cons (ps_set (i := 2) sc_many_ways.nd rfl (by first | exact Or.inl rfl | exact Or.inr rfl) (pe_call (ok_choices T) hr (by rfl) T.g_choices T.f_choices.kp T.b_choices .nil pass0 (pa_cons (pv 0) (pa_cons (pv 1) pa_nil))))
      (pss_cons (ps_if (PW.pt (pw_or (pt_cmpR op_isN (pv 2) pe_non (nomark _)) (pw_or1 (pt_cmpR (op_neK K rfl hr.units) (pe_ix (ix_seqK K rfl) (pv 2) pe_int (fun _ _ => rfl)) (pe_ix (ix_seqK K rfl) (pv 2) pe_int (fun _ _ => rfl)) (nomark _))))) (pss_one (ps_ret pe_int)) pss_nil)
      (pss_one (ps_ret pe_int)))), body_val h (Nat.le_of_ble_eq_true rfl) fun c => ?_⟩
    walk_at "go"
    walk_at "as"
    cases hg : gu s.reverse t.reverse with
    | none =>
      rw [dCho, hg, (gu_far ht hg).2]
      walk_at "ifS"
      case h1 => intro _; walk_at "ret"
      case h2 => intro hc; cases hc
    | some m =>
      have hne : s ≠ t := fun z => by
        subst z
        rw [gu_self] at hg
        cases hg
      have hM : Mn s t = if once s.reverse t.reverse = twice s.reverse t.reverse then 2 else 1 := by
        rw [Mn_eq, On, Tw]
        by_cases q : once s.reverse t.reverse = twice s.reverse t.reverse
        · rw [if_pos ⟨q, hne⟩, if_pos q]
        · rw [if_neg fun z => q z.1, if_neg q]
      rw [dCho, hg, hM]
      have x1 : EvT K c (tTest (tOp (fun x y H Q => y = .non ∧ Q (.bl (decide (x = .non))) H) (tVar 2) (tC .non))) [cv (dS s), cv (dS t), cv (.tuple [dN m, dN (once s.reverse t.reverse), dN (twice s.reverse t.reverse)])] false := et_test (ev_op (ev_var rfl) ev_non od_isN)
      refine sd_ifS (et_or (a := false) x1 fun _ => et_test (ev_op (ev_op (ev_var rfl) ev_int (od_ixT rfl)) (ev_op (ev_var rfl) ev_int (od_ixT rfl)) od_neI)) ?g1 ?g2
      case g1 =>
        intro hc
        have hq : ¬ once s.reverse t.reverse = twice s.reverse t.reverse := fun z => by
          rw [z] at hc
          simp at hc
        rw [if_neg hq]
        walk_at "ret"
      case g2 =>
        intro hc
        have hq : once s.reverse t.reverse = twice s.reverse t.reverse := by
          have := (Bool.or_eq_false_iff.mp hc).2
          simp at this
          omega
        rw [if_pos hq]
        refine sd_nextS ?_
        walk_at "ret"

/-- 0 setting 1 peg 2 discs 3 found 4 disc -/
def sp_first_to (K : PySem.W.Frag) : Sp := fun vs H Q _ => ∃ (s : List Pg) (p : Pg) (n : Nat), (n ≤ s.length ∧ s.length ≤ 60) ∧ Pr K vs H Q [dS s, dP p, dN n] (dMo (firstG s p n))
theorem ok_first_to (T : Txt K mg A) : FnOk P w K mg base CX0 2 A.a_first_to A.d_first_to ["setting", "peg", "discs"] (sp_first_to K) := by
  refine T.f_first_to.ok sc_first_to (fun vs H Q E h => ?_) (fun cdv A' outer s H vs Q E hr h => ?_)
  · obtain ⟨s, p, n, _, h⟩ := h
    exact h.len
  · obtain ⟨s, p, n, ⟨hn, hs⟩, h⟩ := h
    refine ⟨_, (pss_cons (ps_set (i := 3) sc_first_to.nd rfl (by first | exact Or.inl rfl | exact Or.inr rfl) pe_non)
      (pss_cons (ps_for PassesOwn.never rfl (pi_revR (by rfl) T.n_reversed (prg_1 (by rfl) T.n_range (pv 2))) (pg_name (i := 4) sc_first_to.nd rfl (by first | exact Or.inl rfl | exact Or.inr rfl)) (pss_one (ps_if (pt_cmpR (op_neK K rfl hr.units) (pe_ix (ix_seqK K rfl) (pv 0) (pv 4) (fun _ _ => rfl)) (pv 1) (nomark _)) (pss_cons (ps_set (i := 3) sc_first_to.nd rfl (by first | exact Or.inl rfl | exact Or.inr rfl) (pe_tup (pa_cons (pv 4) (pa_cons (pv 1) pa_nil))))
      (pss_one (ps_set (i := 1) sc_first_to.nd rfl (by first | exact Or.inl rfl | exact Or.inr rfl) (pe_call (ok_third T) hr (by rfl) T.g_third T.f_third.kp T.b_third .nil pass0 (pa_cons (pe_ix (ix_seqK K rfl) (pv 0) (pv 4) (fun _ _ => rfl)) (pa_cons (pv 1) pa_nil)))))) pss_nil)))
      (pss_one (ps_ret (pv 3))))), body_val h (Nat.le_of_ble_eq_true rfl) fun c => ?_⟩
    walk_at "go"
    walk_at "as"
    refine sd_seq (M := fun δ' => ∃ pk x, δ' = [cv (dS s), cv (dP pk), cv (dN n), cv (dMo (firstG s p n)), x])
      (sd_for (iv_rev1 (by walk_at "ev") (by omega)) (fun i δ' => ∃ pk fo x, δ' = [cv (dS s), cv (dP pk), cv (dN n), cv (dMo fo), x] ∧ (firstG s pk (n - i)).or fo = firstG s p n)
        ⟨p, none, none, rfl, by simp⟩ (fun i d δ' hd hP => tg_name) (fun c' _ _ i d δ' hd hP => ?_) (fun δ' hP => ?_)) (fun δ' hP => ?_)
    · obtain ⟨hi, rfl⟩ := dDown_get hd
      obtain ⟨pk, fo, x, rfl, e⟩ := hP
      obtain ⟨m, hm⟩ : ∃ m, n - i = m + 1 := ⟨n - i - 1, by omega⟩
      have em : (n : Int) - 1 - (i : Int) = (m : Int) := by omega
      have en : n - (i + 1) = m := by omega
      have hml : m < s.length := by omega
      have hat := at_pg hml
      rw [em]
      rw [hm, firstG, take_rev hml, firstTo, take_len (by omega)] at e
      simp only [List.set_cons_zero, List.set_cons_succ]
      walk_at "if"
      case h1 =>
        intro hc
        have hne : s[m] ≠ pk := by simpa [pg_ne] using hc
        rw [if_neg hne] at e
        walk_at "as"
        walk_at "asL"
        refine ⟨_, Le.refl _, thd s[m] pk, some (m, pk), cv (dN m), rfl, ?_⟩
        rw [en, firstG, ← e, Option.or_assoc, Option.some_or]
      case h2 =>
        intro hc
        have he : s[m] = pk := by simpa [pg_ne] using hc
        rw [if_pos he] at e
        exact sd_next ⟨_, Le.refl _, pk, fo, _, rfl, by rw [en, firstG]; exact e⟩
    · rw [dDown_len] at hP
      obtain ⟨pk, fo, x, rfl, e⟩ := hP
      refine ⟨pk, x, ?_⟩
      rw [Nat.sub_self] at e
      rw [show fo = firstG s p n from e]
    · obtain ⟨pk, x, rfl⟩ := hP
      walk_at "ret"

/-- 0 one 1 other 2 told 3 disc 4 once 5 twice 6 goal 7 found -/
def sp_next_move (K : PySem.W.Frag) : Sp := fun vs H Q _ => ∃ (s t : List Pg), (s.length ≤ 60 ∧ t.length = s.length) ∧ Pr K vs H Q [dS s, dS t] (dMo (nextM s.reverse t.reverse))
theorem ok_next_move (T : Txt K mg A) : FnOk P w K mg base CX0 7 A.a_next_move A.d_next_move ["one", "other"] (sp_next_move K) := by
  refine T.f_next_move.ok sc_next_move (fun vs H Q E h => ?_) (fun cdv A' outer s H vs Q E hr h => ?_)
  · obtain ⟨s, t, _, h⟩ := h
    exact h.len
  · obtain ⟨s, t, ⟨hs, ht⟩, h⟩ := h
    refine ⟨_, (pss_cons (ps_set (i := 2) sc_next_move.nd rfl (by first | exact Or.inl rfl | exact Or.inr rfl) (pe_call (ok_choices T) hr (by rfl) T.g_choices T.f_choices.kp T.b_choices .nil pass0 (pa_cons (pv 0) (pa_cons (pv 1) pa_nil))))
      (pss_cons (ps_if (pt_cmpR op_isN (pv 2) pe_non (nomark _)) (pss_one (ps_ret pe_non)) pss_nil)
      (pss_cons (ps_asg (pv 2) (pg_tup rfl (pgs_cons (pg_name (i := 3) sc_next_move.nd rfl (by first | exact Or.inl rfl | exact Or.inr rfl)) (pgs_cons (pg_name (i := 4) sc_next_move.nd rfl (by first | exact Or.inl rfl | exact Or.inr rfl)) (pgs_cons (pg_name (i := 5) sc_next_move.nd rfl (by first | exact Or.inl rfl | exact Or.inr rfl)) pgs_nil)))))
      (pss_cons (ps_set (i := 6) sc_next_move.nd rfl (by first | exact Or.inl rfl | exact Or.inr rfl) (pe_ix (ix_seqK K rfl) (pv 1) (pv 3) (fun _ _ => rfl)))
      (pss_cons (ps_if (pt_cmpR op_le (pv 4) (pv 5) (nomark _)) (pss_cons (ps_set (i := 7) sc_next_move.nd rfl (by first | exact Or.inl rfl | exact Or.inr rfl) (pe_call (ok_first_to T) (hr.mono (by decide)) (by rfl) T.g_first_to T.f_first_to.kp T.b_first_to .nil pass0 (pa_cons (pv 0) (pa_cons (pe_call (ok_third T) (hr.mono (by decide)) (by rfl) T.g_third T.f_third.kp T.b_third .nil pass0 (pa_cons (pe_ix (ix_seqK K rfl) (pv 0) (pv 3) (fun _ _ => rfl)) (pa_cons (pv 6) pa_nil))) (pa_cons (pv 3) pa_nil)))))
      (pss_one (ps_ret (pe_ifExp (pt_cmpR op_isN (pv 7) pe_non (nomark _)) (pe_tup (pa_cons (pv 3) (pa_cons (pv 6) pa_nil))) (pv 7))))) pss_nil)
      (pss_cons (ps_set (i := 7) sc_next_move.nd rfl (by first | exact Or.inl rfl | exact Or.inr rfl) (pe_call (ok_first_to T) (hr.mono (by decide)) (by rfl) T.g_first_to T.f_first_to.kp T.b_first_to .nil pass0 (pa_cons (pv 0) (pa_cons (pv 6) (pa_cons (pv 3) pa_nil)))))
      (pss_one (ps_ret (pe_ifExp (pt_cmpR op_isN (pv 7) pe_non (nomark _)) (pe_tup (pa_cons (pv 3) (pa_cons (pe_call (ok_third T) (hr.mono (by decide)) (by rfl) T.g_third T.f_third.kp T.b_third .nil pass0 (pa_cons (pe_ix (ix_seqK K rfl) (pv 0) (pv 3) (fun _ _ => rfl)) (pa_cons (pv 6) pa_nil))) pa_nil))) (pv 7)))))))))), body_val h (Nat.le_of_ble_eq_true rfl) fun c => ?_⟩
    walk_at "go"
    walk_at "as"
    cases hg : gu s.reverse t.reverse with
    | none =>
      rw [dCho, hg, gu_nextN hg]
      walk_at "ifS"
      case h1 => intro _; walk_at "ret"
      case h2 => intro hc; cases hc
    | some m =>
      obtain ⟨h1, h2, hne, e1, e2⟩ := gu_some ht hg
      have a1 := at_pg h1
      have a2 := at_pg h2
      have hth := thd_ne _ _ hne
      have l1 : m ≤ s.length := by omega
      rw [dCho, hg, gu_next ht hg h1 h2]
      walk_at "ifS"
      case h1 => intro hc; cases hc
      case h2 =>
        intro _
        refine sd_nextS ?_
        refine sd_asgTS (by walk_at "ev") (tg_tup (tgs_cons tg_name (tgs_cons tg_name (tgs_cons tg_name tgs_nil)))) ?_
        simp only [List.set_cons_zero, List.set_cons_succ]
        walk_at "as"
        walk_at "ifS"
        case h1 =>
          intro hc
          have hle : once s.reverse t.reverse ≤ twice s.reverse t.reverse := by
            have := of_decide_eq_true hc
            omega
          rw [if_pos hle]
          walk_at "as"
          refine sd_retS ?_
          refine sd_ret (ev_ifN (o := firstG s (thd s[m] t[m]) m) (m := (m, t[m])) (by walk_at "et") (by walk_at "ev") (by walk_at "ev")) ?_
          rfl
        case h2 =>
          intro hc
          have hle : ¬ once s.reverse t.reverse ≤ twice s.reverse t.reverse := by
            have := of_decide_eq_false hc
            omega
          rw [if_neg hle]
          refine sd_nextS ?_
          walk_at "as"
          refine sd_ret (ev_ifN (o := firstG s t[m] m) (m := (m, thd s[m] t[m])) (by walk_at "et") (by walk_at "ev") (by walk_at "ev")) ?_
          rfl

/-- 0 setting 1 disc 2 peg -/
def sp_put (K : PySem.W.Frag) : Sp := fun vs H Q _ => ∃ (s : List Pg) (d : Nat) (p : Pg), (d < s.length ∧ s.length ≤ 60) ∧ Pr K vs H Q [dS s, dN d, dP p] (dS (s.set d p))
theorem ok_put (T : Txt K mg A) : FnOk P w K mg base CX0 1 A.a_put A.d_put ["setting", "disc", "peg"] (sp_put K) := by
  refine T.f_put.ok sc_put (fun vs H Q E h => ?_) (fun cdv A' outer s H vs Q E hr h => ?_)
  · obtain ⟨s, d, p, _, h⟩ := h
    exact h.len
  · obtain ⟨s, d, p, ⟨hm, hs⟩, h⟩ := h
    refine ⟨_, (pss_one (ps_ret (pe_op (op_addK K rfl) (pe_op (op_addK K rfl) (pe_slice (sl_anyK K rfl) (pv 0) po_none (po_some (pv 1))) (pe_tup (pa_cons (pv 2) pa_nil))) (pe_slice (sl_anyK K rfl) (pv 0) (po_some (pe_op (op_addK K rfl) (pv 1) pe_int)) po_none)))), body_val h (Nat.le_of_ble_eq_true rfl) fun c => ?_⟩
    walk_at "go"
    have e1 : (d : Int) + 1 = ((d + 1 : Nat) : Int) := by omega
    refine' sd_ret (ev_op (ev_op (ev_slT (by walk_at "ev") eo_none (eo_some (by walk_at "ev"))) (by walk_at "ev") (od_catT ?g1)) (ev_slT (by walk_at "ev") (eo_some (by walk_at "ev")) eo_none) (od_catT ?g2)) ?g3
    case g1 => rw [cut_to', List.length_take, List.length_map]; simp; omega
    case g2 => rw [e1, cut_to', cut_from]; simp; omega
    case g3 => rw [e1, cut_to', cut_from, dS_set hm]

/-- 0 setting 1 peg 2 discs 3 found 4 move 5 disc 6 there -/
def sp_steps_to (K : PySem.W.Frag) : Sp := fun vs H Q _ => ∃ (s : List Pg) (p : Pg) (n : Nat), (n ≤ s.length ∧ s.length ≤ 60 ∧ toPg s p n ≤ 10000) ∧ PrN K vs H Q [dS s, dP p, dN n] ((stepsTo s p n).map dT3)
theorem ok_steps_to (T : Txt K mg A) : FnOk P w K mg base CX0 3 A.a_steps_to A.d_steps_to ["setting", "peg", "discs"] (sp_steps_to K) := by
  refine T.f_steps_to.ok sc_steps_to (fun vs H Q E h => ?_) (fun cdv A' outer s H vs Q E hr h => ?_)
  · obtain ⟨s, p, n, _, h⟩ := h
    exact h.len
  · obtain ⟨s, p, n, ⟨hn, hs, ht⟩, h⟩ := h
    refine ⟨_, (pss_cons (ps_set (i := 3) sc_steps_to.nd rfl (by first | exact Or.inl rfl | exact Or.inr rfl) (pe_lst pa_nil))
      (pss_cons (ps_set (i := 4) sc_steps_to.nd rfl (by first | exact Or.inl rfl | exact Or.inr rfl) (pe_call (ok_first_to T) hr (by rfl) T.g_first_to T.f_first_to.kp T.b_first_to .nil pass0 (pa_cons (pv 0) (pa_cons (pv 1) (pa_cons (pv 2) pa_nil)))))
      (pss_cons (ps_while PassesOwn.never (pt_cmpR op_notN (pv 4) pe_non (nomark _)) (pss_cons (ps_asg (pv 4) (pg_tup rfl (pgs_cons (pg_name (i := 5) sc_steps_to.nd rfl (by first | exact Or.inl rfl | exact Or.inr rfl)) (pgs_cons (pg_name (i := 6) sc_steps_to.nd rfl (by first | exact Or.inl rfl | exact Or.inr rfl)) pgs_nil))))
      (pss_cons (ps_expr (pe_bm PySem.F.plainAttrs_list PySem.F.slot_list_append PySem.F.type_list_append mt_append (pv 3) (pa_cons (pe_tup (pa_cons (pv 5) (pa_cons (pe_ix (ix_seqK K rfl) (pv 0) (pv 5) (fun _ _ => rfl)) (pa_cons (pv 6) pa_nil)))) pa_nil)))
      (pss_cons (ps_set (i := 0) sc_steps_to.nd rfl (by first | exact Or.inl rfl | exact Or.inr rfl) (pe_call (ok_put T) (hr.mono (by decide)) (by rfl) T.g_put T.f_put.kp T.b_put .nil pass0 (pa_cons (pv 0) (pa_cons (pv 5) (pa_cons (pv 6) pa_nil)))))
      (pss_one (ps_set (i := 4) sc_steps_to.nd rfl (by first | exact Or.inl rfl | exact Or.inr rfl) (pe_call (ok_first_to T) hr (by rfl) T.g_first_to T.f_first_to.kp T.b_first_to .nil pass0 (pa_cons (pv 0) (pa_cons (pv 1) (pa_cons (pv 2) pa_nil))))))))))
      (pss_one (ps_ret (pv 3)))))), body_new h (Nat.le_of_ble_eq_true rfl) fun c => ?_⟩
    walk_at "go"
    walk_at "asN"
    walk_at "as"
    refine sd_seq (M := fun δ' => ∃ x0 x4 x5 x6, δ' = [x0, cv (dP p), cv (dN n), some (Cel.own ((stepsTo s p n).map dT3)), x4, x5, x6])
      (sd_while (fun k δ' => ∃ (s' : List Pg) (acc : List St3) (x5 x6 : Option Cel), δ' = [cv (dS s'), cv (dP p), cv (dN n), some (Cel.own (acc.map dT3)), cv (dMo (firstG s' p n)), x5, x6] ∧ s'.length = s.length ∧ k = toPg s' p n ∧ acc ++ stepsTo s' p n = stepsTo s p n)
        (n0 := toPg s p n) ⟨s, [], none, none, rfl, rfl, rfl, rfl⟩ (fun k δ' hP => ?_)) (fun δ' hP => ?_)
    · obtain ⟨s', acc, x5, x6, rfl, hl, rfl, he⟩ := hP
      have hacc : acc.length ≤ 10000 := by
        have h1 := stF_len (toPg s p n) s p n
        have h2 := congrArg List.length he
        rw [List.length_append] at h2
        unfold stepsTo at h2
        omega
      have hn' : n ≤ s'.length := by omega
      have hs' : s'.length ≤ 60 := by omega
      cases hm : firstG s' p n with
      | none =>
        rw [steps_none hm, List.append_nil] at he
        refine ⟨false, ?_, fun z => absurd z Bool.false_ne_true, fun _ => ?_⟩
        · refine EvT.eq (et_test (ev_op (ev_var rfl) ev_non od_notN)) ?_
          rfl
        · exact ⟨_, _, _, _, by rw [he]⟩
      | some m =>
        obtain ⟨h1, h2⟩ := first_step hn' hm
        rw [steps_more hn' hm] at he
        have hm1 : m.1 < s'.length := by omega
        have hat := at_pg hm1
        have hg : s'.getD m.1 0 = s'[m.1] := by rw [List.getD_eq_getElem?_getD, List.getElem?_eq_getElem hm1]; rfl
        rw [hg] at he
        have hl2 : (s'.set m.1 m.2).length = s.length := by rw [List.length_set, hl]
        have hn2 : n ≤ (s'.set m.1 m.2).length := by omega
        have hs2 : (s'.set m.1 m.2).length ≤ 60 := by omega
        refine ⟨true, ?_, fun _ => ?_, fun z => absurd z.symm Bool.false_ne_true⟩
        · refine EvT.eq (et_test (ev_op (ev_var rfl) ev_non od_notN)) ?_
          rfl
        rw [show dMo (some m) = dM m from rfl]
        refine sd_asgTS (ev_var rfl) (tg_tup (tgs_cons tg_name (tgs_cons tg_name tgs_nil))) ?_
        simp only [List.set_cons_zero, List.set_cons_succ]
        refine sd_appS (k0 := 3) rfl (by walk_at "ev") (by rw [List.length_map]; omega) ?_
        simp only [List.set_cons_zero, List.set_cons_succ]
        walk_at "as"
        walk_at "asL"
        refine ⟨_, _, Le.refl _, ?_, s'.set m.1 m.2, acc ++ [(m.1, s'[m.1], m.2)], cv (dN m.1), cv (dP m.2), ?_, hl2, rfl, ?_⟩
        · omega
        · rw [List.map_append]
          rfl
        · rw [List.append_assoc]
          exact he
    · obtain ⟨x0, x4, x5, x6, rfl⟩ := hP
      exact sd_retO (i := 3) rfl rfl

/-- 0 setting 1 peg 2 discs 3 disc 4 here 5 there -/
def sp_steps_from (K : PySem.W.Frag) : Sp := fun vs H Q _ => ∃ (s : List Pg) (p : Pg) (n : Nat), (n ≤ s.length ∧ s.length ≤ 60 ∧ toPg s p n ≤ 10000) ∧ PrN K vs H Q [dS s, dP p, dN n] ((stepsFrom s p n).map dT3)
theorem ok_steps_from (T : Txt K mg A) : FnOk P w K mg base CX0 4 A.a_steps_from A.d_steps_from ["setting", "peg", "discs"] (sp_steps_from K) := by
  refine T.f_steps_from.ok sc_steps_from (fun vs H Q E h => ?_) (fun cdv A' outer s H vs Q E hr h => ?_)
  · obtain ⟨s, p, n, _, h⟩ := h
    exact h.len
  · obtain ⟨s, p, n, ⟨hn, hs, ht⟩, h⟩ := h
    refine ⟨_, (pss_one (ps_ret (pe_lc (own := [("disc", 3), ("here", 4), ("there", 5)]) (g := gTup K 3 (gCons (gName 3) (gCons (gName 4) (gCons (gName 5) gNil)))) rfl sc_steps_from.nd (pi_seqK K rfl (pe_revLK K rfl (pe_call (ok_steps_to T) hr (by rfl) T.g_steps_to T.f_steps_to.kp T.b_steps_to .nil pass0 (pa_cons (pv 0) (pa_cons (pv 1) (pa_cons (pv 2) pa_nil)))))) (blkOk_by (own := [("disc", 3), ("here", 4), ("there", 5)]) (N := _) (by kernel_rfl)) (fun _ _ _ _ _ => (pg_tup rfl (pgs_cons (pg_name (i := 3) sc_steps_from.nd rfl (by first | exact Or.inl rfl | exact Or.inr rfl)) (pgs_cons (pg_name (i := 4) sc_steps_from.nd rfl (by first | exact Or.inl rfl | exact Or.inr rfl)) (pgs_cons (pg_name (i := 5) sc_steps_from.nd rfl (by first | exact Or.inl rfl | exact Or.inr rfl)) pgs_nil))))) (fun _ _ _ _ _ => pts_nil) (fun _ _ _ _ _ => (pe_tup (pa_cons (pv 3) (pa_cons (pv 5) (pa_cons (pv 4) pa_nil)))))))), body_new h (Nat.le_of_ble_eq_true rfl) fun c => ?_⟩
    walk_at "go"
    have hlen : (stepsTo s p n).length ≤ 10000 := Nat.le_trans (stF_len _ _ _ _) ht
    have hk := kept_t3 (stepsTo s p n).reverse fun x => dT3 (turn3 x)
    refine sd_retN (EvN.eq (ev_lc (ds := (stepsTo s p n).reverse.map dT3) (Tg := fun d δ => ((δ.set 3 (cv (dN (t3D d).1))).set 4 (cv (dP (t3D d).2.1))).set 5 (cv (dP (t3D d).2.2))) (js := [3, 4, 5]) (fun _ => true) (fun d => dT3 (turn3 (t3D d))) ?q1 (by rw [List.length_map, List.length_reverse]; omega) (fun d hd => ?q2) (by simp) (fun c' d hd => ⟨et_yes, fun _ => ?q3⟩)) hk) ?q4
    case q1 =>
      rw [List.map_reverse]
      exact iv_L (EvN.val (ev_revN (EvN.val (by walk_at "en"))))
    case q2 =>
      obtain ⟨x, _, rfl⟩ := List.mem_map.mp hd
      rw [t3D_dT3]
      exact tg_tup (tgs_cons tg_name (tgs_cons tg_name (tgs_cons tg_name tgs_nil)))
    case q3 =>
      obtain ⟨x, _, rfl⟩ := List.mem_map.mp hd
      rw [t3D_dT3]
      show EvD K c' _ [cv (dS s), cv (dP p), cv (dN n), cv (dN x.1), cv (dP x.2.1), cv (dP x.2.2)] (.tuple [dN x.1, dP x.2.2, dP x.2.1])
      walk_at "ev"
    case q4 =>
      rw [stepsFrom, List.map_map]
      rfl

/-- 0 one 1 other 2 told 3 disc 4 once 5 twice 6 begin 7 end 8 free 9 found 10 ahead 11 between 12 row 13 step -/
def sp_ways (K : PySem.W.Frag) (A : Ad) : Sp := fun vs H Q E => ∃ (s t : List Pg) (o : Rs), (s.length ≤ 60 ∧ t.length = s.length ∧ o = if 3000 < Peg.Fr s t then .exc A.a_TooMany (.tuple []) [] else .gen (treeF K ((waysF s t).map fun w => w.map dM))) ∧ PrX K vs H Q E [dS s, dS t] o
theorem ok_ways (T : Txt K mg A) : FnOk P w K mg base (L2.CX P w) 7 A.a_ways A.d_ways ["one", "other"] (sp_ways K A) := by
  refine T.f_ways.okX sc_ways (fun vs H Q E h => ?_) (fun cdv A' outer s H vs Q E hr h => ?_)
  · obtain ⟨s, t, o, _, h⟩ := h
    exact h.len
  · obtain ⟨s, t, o, ⟨hs, ht, ho⟩, h⟩ := h
    refine ⟨_, (pss_cons (ps_set (i := 2) sc_ways.nd rfl (by first | exact Or.inl rfl | exact Or.inr rfl) (pe_call (ok_choices T) hr (by rfl) T.g_choices T.f_choices.kp T.b_choices .nil pass0 (pa_cons (pv 0) (pa_cons (pv 1) pa_nil))))
      (pss_cons (ps_if (pt_cmpR op_isN (pv 2) pe_non (nomark _)) (pss_one (ps_ret (pe_lst (pa_cons (pe_lst pa_nil) pa_nil)))) pss_nil)
      (pss_cons (ps_asg (pv 2) (pg_tup rfl (pgs_cons (pg_name (i := 3) sc_ways.nd rfl (by first | exact Or.inl rfl | exact Or.inr rfl)) (pgs_cons (pg_name (i := 4) sc_ways.nd rfl (by first | exact Or.inl rfl | exact Or.inr rfl)) (pgs_cons (pg_name (i := 5) sc_ways.nd rfl (by first | exact Or.inl rfl | exact Or.inr rfl)) pgs_nil)))))
      (pss_cons (ps_if (pt_cmpR op_gt (pe_callB (call_min2 rfl) (by rfl) T.n_min (by decide +kernel) (pa_cons (pv 4) (pa_cons (pv 5) pa_nil))) (pe_glob (v := .int 3000) (by rfl) T.c_MOST_MOVES ⟨_, rfl⟩) (nomark _)) (pss_one (ps_raise rfl (takes_of rfl rfl rfl rfl) (pmk_own PySem.F.excBase_ValueError T.r_TooMany.x T.g_TooMany T.r_TooMany.k (raises_own T.r_TooMany.b T.r_TooMany.t) (by exact rfl)))) pss_nil)
      (pss_cons (ps_par (i := 6) (j := 7) (by rfl) sc_ways.nd rfl rfl (by decide) rfl rfl (pa_cons (pe_ix (ix_seqK K rfl) (pv 0) (pv 3) (fun _ _ => rfl)) (pa_cons (pe_ix (ix_seqK K rfl) (pv 1) (pv 3) (fun _ _ => rfl)) pa_nil)) (by rfl))
      (pss_cons (ps_set (i := 8) sc_ways.nd rfl (by first | exact Or.inl rfl | exact Or.inr rfl) (pe_call (ok_third T) (hr.mono (by decide)) (by rfl) T.g_third T.f_third.kp T.b_third .nil pass0 (pa_cons (pv 6) (pa_cons (pv 7) pa_nil))))
      (pss_cons (ps_set (i := 9) sc_ways.nd rfl (by first | exact Or.inl rfl | exact Or.inr rfl) (pe_lst pa_nil))
      (pss_cons (ps_if (pt_cmpR op_le (pv 4) (pv 5) (nomark _)) (pss_one (ps_expr (pe_bm PySem.F.plainAttrs_list PySem.F.slot_list_append PySem.F.type_list_append mt_append (pv 9) (pa_cons (pe_op (op_addK K rfl) (pe_op (op_addK K rfl) (pe_call (ok_steps_to T) (hr.mono (by decide)) (by rfl) T.g_steps_to T.f_steps_to.kp T.b_steps_to .nil pass0 (pa_cons (pv 0) (pa_cons (pv 8) (pa_cons (pv 3) pa_nil)))) (pe_lst (pa_cons (pe_tup (pa_cons (pv 3) (pa_cons (pv 6) (pa_cons (pv 7) pa_nil)))) pa_nil))) (pe_call (ok_steps_from T) (hr.mono (by decide)) (by rfl) T.g_steps_from T.f_steps_from.kp T.b_steps_from .nil pass0 (pa_cons (pv 1) (pa_cons (pv 8) (pa_cons (pv 3) pa_nil))))) pa_nil)))) pss_nil)
      (pss_cons (ps_if (pt_cmpR op_le (pv 5) (pv 4) (nomark _)) (pss_cons (ps_set (i := 10) sc_ways.nd rfl (by first | exact Or.inl rfl | exact Or.inr rfl) (pe_op (op_addK K rfl) (pe_call (ok_steps_to T) (hr.mono (by decide)) (by rfl) T.g_steps_to T.f_steps_to.kp T.b_steps_to .nil pass0 (pa_cons (pv 0) (pa_cons (pv 7) (pa_cons (pv 3) pa_nil)))) (pe_lst (pa_cons (pe_tup (pa_cons (pv 3) (pa_cons (pv 6) (pa_cons (pv 8) pa_nil)))) pa_nil))))
      (pss_cons (ps_set (i := 11) sc_ways.nd rfl (by first | exact Or.inl rfl | exact Or.inr rfl) (pe_call (ok_steps_to T) (hr.mono (by decide)) (by rfl) T.g_steps_to T.f_steps_to.kp T.b_steps_to .nil pass0 (pa_cons (pe_op (op_mulK K rfl) (pe_tup (pa_cons (pv 7) pa_nil)) (pv 3)) (pa_cons (pv 6) (pa_cons (pv 3) pa_nil)))))
      (pss_one (ps_expr (pe_bm PySem.F.plainAttrs_list PySem.F.slot_list_append PySem.F.type_list_append mt_append (pv 9) (pa_cons (pe_op (op_addK K rfl) (pe_op (op_addK K rfl) (pe_op (op_addK K rfl) (pv 10) (pv 11)) (pe_lst (pa_cons (pe_tup (pa_cons (pv 3) (pa_cons (pv 8) (pa_cons (pv 7) pa_nil)))) pa_nil))) (pe_call (ok_steps_from T) (hr.mono (by decide)) (by rfl) T.g_steps_from T.f_steps_from.kp T.b_steps_from .nil pass0 (pa_cons (pv 1) (pa_cons (pv 6) (pa_cons (pv 3) pa_nil))))) pa_nil)))))) pss_nil)
      (pss_one (ps_ret (pe_lc (own := [("row", 12)]) (g := gName 12) rfl sc_ways.nd (pi_seqK K rfl (pv 9)) (blkOk_by (own := [("row", 12)]) (N := _) (by kernel_rfl)) (fun _ _ _ _ _ => (pg_name (i := 12) sc_ways.nd rfl (by first | exact Or.inl rfl | exact Or.inr rfl))) (fun _ _ _ _ _ => pts_nil) (fun _ _ _ _ _ => (pe_lc (own := [("step", 13)]) (g := gName 13) rfl sc_ways.nd (pi_seqK K rfl (pv 12)) (blkOk_by (own := [("step", 13)]) (N := _) (by kernel_rfl)) (fun _ _ _ _ _ => (pg_name (i := 13) sc_ways.nd rfl (by first | exact Or.inl rfl | exact Or.inr rfl))) (fun _ _ _ _ _ => pts_nil) (fun _ _ _ _ _ => (pe_tup (pa_cons (pe_ix (ix_seqK K rfl) (pv 13) pe_int (fun _ _ => rfl)) (pa_cons (pe_ix (ix_seqK K rfl) (pv 13) pe_int (fun _ _ => rfl)) pa_nil)))))))))))))))))), body_x h (Nat.le_of_ble_eq_true rfl) fun c hw => ?_⟩
    walk_at "go"
    walk_at "as"
    by_cases hf : 3000 < Peg.Fr s t
    · rw [if_pos hf] at ho
      subst ho
      cases hg : gu s.reverse t.reverse with
      | none =>
        have := (gu_far ht hg).1
        omega
      | some m =>
        rw [dCho, hg]
        have hfr : 3000 < min (once s.reverse t.reverse) (twice s.reverse t.reverse) := hf
        refine sd_ifS (a := false) (EvT.eq (a := isNon (.tuple [dN m, dN (once s.reverse t.reverse), dN (twice s.reverse t.reverse)])) (by walk_at "et") rfl) (fun z => by cases z) (fun _ => ?_)
        refine sd_nextS ?_
        refine sd_asgTS (by walk_at "ev") (tg_tup (tgs_cons tg_name (tgs_cons tg_name (tgs_cons tg_name tgs_nil)))) ?_
        simp only [List.set_cons_zero, List.set_cons_succ]
        refine sd_ifS (a := true) (EvT.eq (et_test (ev_op (EvD.eq (ev_cb (ea_cons (by walk_at "ev") (ea_cons (by walk_at "ev") ea_nil)) cd_min2) dmin) (by walk_at "ev") od_gt)) (decide_eq_true (by omega))) (fun _ => ?_) (fun z => by cases z)
        exact sd_raise hw ⟨_, rfl⟩
    rw [if_neg hf] at ho
    subst ho
    have hf : Peg.Fr s t ≤ 3000 := by omega
    cases hg : gu s.reverse t.reverse with
    | none =>
      rw [dCho, hg, waysF, hg]
      walk_at "ifS"
      case h1 =>
        intro _
        refine sd_retS ?_
        exact sd_retTree ev_tr_one rfl
      case h2 => intro hc; cases hc
    | some m =>
      obtain ⟨h1, h2, hne, e1, e2⟩ := gu_some ht hg
      have a1 := at_pg h1
      have a2 := at_pg h2
      have hth := thd_ne _ _ hne
      have l1 : m ≤ s.length := by omega
      have l2 : m ≤ t.length := by omega
      have l3 : t.length ≤ 60 := by omega
      have g1 : s.getD m 0 = s[m] := by rw [List.getD_eq_getElem?_getD, List.getElem?_eq_getElem h1]; rfl
      have g2 : t.getD m 0 = t[m] := by rw [List.getD_eq_getElem?_getD, List.getElem?_eq_getElem h2]; rfl
      rw [dCho, hg, waysF, hg]
      dsimp only
      rw [g1, g2]
      have hfr : min (once s.reverse t.reverse) (twice s.reverse t.reverse) ≤ 3000 := hf
      generalize once s.reverse t.reverse = on at e1 hfr
      generalize twice s.reverse t.reverse = tw at e2 hfr
      walk_at "ifS"
      case h1 => intro hc; cases hc
      case h2 =>
        intro _
        refine sd_nextS ?_
        refine sd_asgTS (by walk_at "ev") (tg_tup (tgs_cons tg_name (tgs_cons tg_name (tgs_cons tg_name tgs_nil)))) ?_
        simp only [List.set_cons_zero, List.set_cons_succ]
        refine sd_ifS (a := false) (EvT.eq (et_test (ev_op (EvD.eq (ev_cb (ea_cons (by walk_at "ev") (ea_cons (by walk_at "ev") ea_nil)) cd_min2) dmin) (by walk_at "ev") od_gt)) (decide_eq_false (by omega))) (fun z => by cases z) (fun _ => ?_)
        refine sd_nextS ?_
        walk_at "par"
        walk_at "as"
        walk_at "asN"
        refine sd_seq (M := fun δ' => δ' = [cv (dS s), cv (dS t), cv (.tuple [dN m, dN on, dN tw]), cv (dN m), cv (dN on), cv (dN tw), cv (dP s[m]), cv (dP t[m]), cv (dP (thd s[m] t[m])), some (Cel.own ((if on ≤ tw then [onceW s t m s[m] t[m]] else []).map dRow)), none, none, none, none]) ?_ (fun δ' hP => ?_)
        · walk_at "if"
          case h1 =>
            intro hc
            have hle : on ≤ tw := by
              have := of_decide_eq_true hc
              omega
            have c1 : toPg s (thd s[m] t[m]) m ≤ 10000 := by omega
            have c2 : toPg t (thd s[m] t[m]) m ≤ 10000 := by omega
            have z1 : (stepsTo s (thd s[m] t[m]) m).length ≤ 10000 := Nat.le_trans (stF_len _ _ _ _) c1
            have z2 : (stepsFrom t (thd s[m] t[m]) m).length ≤ 10000 := by
              unfold stepsFrom
              rw [List.length_map, List.length_reverse]
              exact Nat.le_trans (stF_len _ _ _ _) c2
            refine sd_app rfl (d := dRow (onceW s t m s[m] t[m])) (EvD.eq (EvN.val (ev_opN (EvN.val (ev_opN (EvN.val (ev_callN (zs := (stepsTo s (thd s[m] t[m]) m).map dT3) (by walk_at "ea") (by walk_at "sp"))) (EvN.val (by walk_at "en")) (on_cat ?q1))) (EvN.val (ev_callN (zs := (stepsFrom t (thd s[m] t[m]) m).map dT3) (by walk_at "ea") (by walk_at "sp"))) (on_cat ?q2))) ?q3) (by decide) ?q4
            case q1 => simp; omega
            case q2 => simp; omega
            case q3 => simp [onceW]
            case q4 => rw [if_pos hle]; rfl
          case h2 =>
            intro hc
            have hle : ¬ on ≤ tw := by
              have := of_decide_eq_false hc
              omega
            exact sd_next (by rw [if_neg hle]; rfl)
        subst hP
        refine sd_seq (M := fun δ' => ∃ x10 x11, δ' = [cv (dS s), cv (dS t), cv (.tuple [dN m, dN on, dN tw]), cv (dN m), cv (dN on), cv (dN tw), cv (dP s[m]), cv (dP t[m]), cv (dP (thd s[m] t[m])), some (Cel.own (((if on ≤ tw then [onceW s t m s[m] t[m]] else []) ++ (if tw ≤ on then [twiceW s t m s[m] t[m]] else [])).map dRow)), x10, x11, none, none]) ?_ (fun δ' hP => ?_)
        · walk_at "if"
          case h1 =>
            intro hc
            have hle : tw ≤ on := by
              have := of_decide_eq_true hc
              omega
            have p0 : 0 < 2 ^ m := Nat.pow_pos (by decide)
            have c1 : toPg s t[m] m ≤ 10000 := by omega
            have c2 : toPg t s[m] m ≤ 10000 := by omega
            have c3 : toPg (List.replicate m t[m]) s[m] m ≤ 10000 := by
              unfold toPg
              have := toP_lt (List.take m (List.replicate m t[m])).reverse s[m]
              rw [List.length_reverse, List.length_take, List.length_replicate, Nat.min_self] at this
              omega
            have z1 : (stepsTo s t[m] m).length ≤ 10000 := Nat.le_trans (stF_len _ _ _ _) c1
            have z3 : (stepsTo (List.replicate m t[m]) s[m] m).length ≤ 10000 := Nat.le_trans (stF_len _ _ _ _) c3
            have z2 : (stepsFrom t s[m] m).length ≤ 10000 := by
              unfold stepsFrom
              rw [List.length_map, List.length_reverse]
              exact Nat.le_trans (stF_len _ _ _ _) c2
            have lr : m ≤ (List.replicate m t[m]).length := by rw [List.length_replicate]; exact Nat.le_refl _
            have lr2 : (List.replicate m t[m]).length ≤ 60 := by rw [List.length_replicate]; omega
            refine sd_asgNS (EvN.eq (es := (stepsTo s t[m] m ++ [(m, s[m], thd s[m] t[m])]).map dT3) (ev_opN (EvN.val (ev_callN (zs := (stepsTo s t[m] m).map dT3) (by walk_at "ea") (by walk_at "sp"))) (EvN.val (by walk_at "en")) (on_cat ?r1)) ?r2) ?r3
            case r1 => simp; omega
            case r2 => simp
            refine sd_freeze (i := 10) rfl ?_
            simp only [List.set_cons_zero, List.set_cons_succ]
            refine sd_asgNS (ev_callN (zs := (stepsTo (List.replicate m t[m]) s[m] m).map dT3) (ea_cons (EvD.eq (y := dS (List.replicate m t[m])) (ev_op (ev_tup (ea_cons (by walk_at "ev") ea_nil)) (by walk_at "ev") (od_repT (by omega) (by omega))) (by rw [Int.toNat_natCast, dS, List.map_replicate])) (by walk_at "ea")) fun vs H Q h => ⟨List.replicate m t[m], s[m], m, ⟨lr, lr2, c3⟩, h⟩) ?_
            refine sd_freeze (i := 11) rfl ?_
            simp only [List.set_cons_zero, List.set_cons_succ]
            have hl1 : ((if on ≤ tw then [onceW s t m s[m] t[m]] else []).map dRow).length < 100000 := by
              rw [List.length_map]
              split <;> simp
            refine sd_app rfl (d := dRow (twiceW s t m s[m] t[m])) (EvD.eq (EvN.val (ev_opN (EvN.val (ev_opN (EvN.val (ev_opN (by walk_at "ev") (by walk_at "ev") (on_cat ?q0))) (EvN.val (by walk_at "en")) (on_cat ?q1))) (EvN.val (ev_callN (zs := (stepsFrom t s[m] m).map dT3) (by walk_at "ea") (by walk_at "sp"))) (on_cat ?q2))) ?q3) hl1 ?q4
            case q0 => simp; omega
            case q1 => simp; omega
            case q2 => simp; omega
            case q3 => simp [twiceW]
            case q4 =>
              refine ⟨cv (.list ((stepsTo s t[m] m ++ [(m, s[m], thd s[m] t[m])]).map dT3)), cv (.list ((stepsTo (List.replicate m t[m]) s[m] m).map dT3)), ?_⟩
              have ez : ∀ (A B : List (List St3)), (A ++ B).map dRow = A.map dRow ++ B.map dRow := fun _ _ => List.map_append
              rw [if_pos hle, ez]
              rfl
          case h2 =>
            intro hc
            have hle : ¬ tw ≤ on := by
              have := of_decide_eq_false hc
              omega
            exact sd_next ⟨none, none, by rw [if_neg hle, List.append_nil]⟩
        obtain ⟨x10, x11, rfl⟩ := hP
        refine sd_freeze (i := 9) rfl ?_
        simp only [List.set_cons_zero, List.set_cons_succ]
        have hW : ∀ w ∈ (if on ≤ tw then [onceW s t m s[m] t[m]] else []) ++ (if tw ≤ on then [twiceW s t m s[m] t[m]] else []), w.length ≤ 50000 := by
          intro w hw
          have o1 := onceW_len s t m s[m] t[m]
          have o2 := twiceW_len s t m s[m] t[m]
          rcases List.mem_append.mp hw with hw | hw
          · by_cases hle : on ≤ tw
            · rw [if_pos hle, List.mem_singleton] at hw
              subst hw
              omega
            · rw [if_neg hle] at hw
              cases hw
          · by_cases hle : tw ≤ on
            · rw [if_pos hle, List.mem_singleton] at hw
              subst hw
              omega
            · rw [if_neg hle] at hw
              cases hw
        have hWl : ((if on ≤ tw then [onceW s t m s[m] t[m]] else []) ++ (if tw ≤ on then [twiceW s t m s[m] t[m]] else [])).length ≤ 2 := by
          rw [List.length_append]
          split <;> split <;> simp
        generalize (if on ≤ tw then [onceW s t m s[m] t[m]] else []) ++ (if tw ≤ on then [twiceW s t m s[m] t[m]] else []) = W at hW hWl
        have hdss : (W.map dRow).map (fun d => ((rowD d).map out3).map dM) = (W.map fun w => w.map out3).map fun w => w.map dM := by
          rw [List.map_map, List.map_map]
          refine List.map_congr_left fun w _ => ?_
          show ((rowD (dRow w)).map out3).map dM = (w.map out3).map dM
          rw [rowD_dRow]
        refine sd_retTree (dss := (W.map dRow).map fun d => ((rowD d).map out3).map dM) (ev_tr_lc (ds := W.map dRow) (Tg := fun d δ => δ.set 12 (cv d)) (js := [12]) (fun d => ((rowD d).map out3).map dM) (iv_L (by walk_at "ev")) (by rw [List.length_map]; omega) (fun d _ => tg_name) (by simp) (fun c' d hd => ?k1)) (by rw [hdss]; rfl)
        case k1 =>
          obtain ⟨w, hw2, rfl⟩ := List.mem_map.mp hd
          have hwl := hW w hw2
          rw [rowD_dRow]
          refine EvN.eq (ev_lc (ds := w.map dT3) (Tg := fun d δ => δ.set 13 (cv d)) (js := [13]) (fun _ => true) (fun d => dM (out3 (t3D d))) (iv_L (ev_var rfl)) (by rw [List.length_map]; omega) (fun d _ => tg_name) (by simp) (fun c'' d hd => ⟨et_yes, fun _ => ?k3⟩)) ?k4
          case k3 =>
            obtain ⟨x, _, rfl⟩ := List.mem_map.mp hd
            rw [t3D_dT3]
            exact ev_tup (ea_cons (ev_op (ev_var (d := dT3 x) rfl) ev_int (od_ixT rfl)) (ea_cons (ev_op (ev_var (d := dT3 x) rfl) ev_int (od_ixT rfl)) ea_nil))
          case k4 =>
            rw [kept_t3 w fun x => dM (out3 x), List.map_map]
            rfl

/-- 0 one 1 other -/
def sp_way (K : PySem.W.Frag) (A : Ad) : Sp := fun vs H Q E => ∃ (s t : List Pg) (o : Rs), (s.length ≤ 60 ∧ t.length = s.length ∧ ((3000 < Peg.Fr s t ∧ o = .exc A.a_TooMany (.tuple []) []) ∨ (¬ 3000 < Peg.Fr s t ∧ ∃ w r, waysF s t = w :: r ∧ o = .val (dMs w)))) ∧ PrX K vs H Q E [dS s, dS t] o
theorem ok_way (T : Txt K mg A) : FnOk P w K mg base (L2.CX P w) 8 A.a_way A.d_way ["one", "other"] (sp_way K A) := by
  refine T.f_way.okX sc_way (fun vs H Q E h => ?_) (fun cdv A' outer s H vs Q E hr h => ?_)
  · obtain ⟨s, t, o, _, h⟩ := h
    exact h.len
  · obtain ⟨s, t, o, ⟨hs, ht, ho⟩, h⟩ := h
    refine ⟨_, (pss_one (ps_ret (pe_ix (ix_seqK K rfl) (pe_callS (ok_ways T) hr (by rfl) T.g_ways T.f_ways.kp T.b_ways (fun σ => passAt (takes_of rfl rfl rfl rfl) σ) (pa_cons (pv 0) (pa_cons (pv 1) pa_nil))) pe_int (fun _ _ => rfl)))), body_x h (Nat.le_of_ble_eq_true rfl) fun c hw => ?_⟩
    walk_at "go"
    rcases ho with ⟨hf, rfl⟩ | ⟨hf, x, r, hx, rfl⟩
    · exact sd_retX (evx_op1 (evx_callS hw (by walk_at "ea") fun vs H Q E δ' h => ⟨s, t, .exc A.a_TooMany (.tuple []) [], ⟨hs, ht, by rw [if_pos hf]⟩, h⟩)) ⟨_, rfl⟩
    · have a0 : atI (((waysF s t).map fun w => w.map dM).map PyData.list) (0 : Int) = some (dMs x) := by
        rw [hx]
        show atI _ ((0 : Nat) : Int) = _
        exact atI_nat rfl
      exact sd_ret (ev_op (ev_callS (z := dTree ((waysF s t).map fun w => w.map dM)) (by walk_at "ea") fun vs H Q E h => ⟨s, t, .gen (treeF K ((waysF s t).map fun w => w.map dM)), ⟨hs, ht, by rw [if_neg hf]⟩, gen_of_pr h⟩) ev_int (od_ixL a0)) rfl

/-- 0 _law_script 1 _law_k 2 _law_cell_here -/
def sp_law_cell (K : PySem.W.Frag) : Sp := fun vs H Q _ => ∃ (ns : List Int) (k : Nat), (k ≤ 1000) ∧ Pr K vs H Q [dScr ns, dN k] (dN (cellF ns k))
theorem ok_law_cell (T : Txt K mg A) : FnOk P w K mg base CX0 1 A.a_law_cell A.d_law_cell ["_law_script", "_law_k"] (sp_law_cell K) := by
  refine T.f_law_cell.ok sc_law_cell (fun vs H Q E h => ?_) (fun cdv A' outer s H vs Q E hr h => ?_)
  · obtain ⟨ns, k, _, h⟩ := h
    exact h.len
  · obtain ⟨ns, k, hk, h⟩ := h
    refine ⟨_, (pss_cons (ps_set (i := 2) sc_law_cell.nd rfl (by first | exact Or.inl rfl | exact Or.inr rfl) pe_int)
      (pss_cons (ps_if (pt_cmpR (op_neK K rfl hr.units) (pv 0) (pe_lst pa_nil) (nomark _)) (pss_one (ps_set (i := 2) sc_law_cell.nd rfl (by first | exact Or.inl rfl | exact Or.inr rfl) (pe_ix (ix_seqK K rfl) (pv 0) (pe_op op_mod (pv 1) (pe_callB (call_lenK K rfl) (by rfl) T.n_len PySem.boot_len (pa_cons (pv 0) pa_nil))) (fun _ _ => rfl)))) pss_nil)
      (pss_one (ps_ret (pe_op op_fdivW (pe_op op_mod (pe_op (op_addK K rfl) (pe_op (op_mulK K rfl) (pe_op op_mod (pe_op (op_addK K rfl) (pe_op (op_mulK K rfl) (pe_op op_mod (pv 2) pe_int) pe_int) (pe_op (op_mulK K rfl) (pe_op (op_mulK K rfl) (pe_op (op_addK K rfl) (pv 1) pe_int) (pe_op (op_addK K rfl) (pv 1) pe_int)) pe_int)) pe_int) pe_int) (pe_op (op_mulK K rfl) pe_int (pv 1))) pe_int) pe_int))))), body_val h (Nat.le_of_ble_eq_true rfl) fun c => ?_⟩
    walk_at "go"
    walk_at "as"
    refine sd_seq (M := fun δ' => δ' = [cv (dScr ns), cv (dN k), cv (.int (cellH ns k))]) ?_ (fun δ' hP => ?_)
    · walk_at "if"
      case h1 =>
        intro hc
        have hne : ns ≠ [] := by simpa using hc
        have hat := cellH_at (k := k) hne
        have hpos : 0 < (ns.length : Int) := by
          have := List.length_pos_iff.mpr hne
          omega
        walk_at "asL"
        rfl
      case h2 =>
        intro hc
        have he : ns = [] := by simpa using hc
        exact sd_next (by rw [he]; rfl)
    · subst hP
      walk_at "ret"
      rw [dN, cellF_eq]

/-- 0 _law_script 1 _law_k 2 _law_found 3 _law_cell_here -/
def sp_law_great (K : PySem.W.Frag) : Sp := fun vs H Q _ => ∃ (ns : List Int) (k : Nat), (k ≤ 1000) ∧ Pr K vs H Q [dScr ns, dN k] (dN (greatF ns k))
theorem ok_law_great (T : Txt K mg A) : FnOk P w K mg base CX0 1 A.a_law_great A.d_law_great ["_law_script", "_law_k"] (sp_law_great K) := by
  refine T.f_law_great.ok sc_law_great (fun vs H Q E h => ?_) (fun cdv A' outer s H vs Q E hr h => ?_)
  · obtain ⟨ns, k, _, h⟩ := h
    exact h.len
  · obtain ⟨ns, k, hk, h⟩ := h
    refine ⟨_, (pss_cons (ps_set (i := 2) sc_law_great.nd rfl (by first | exact Or.inl rfl | exact Or.inr rfl) (pe_op (op_addK K rfl) pe_int (pe_op (op_mulK K rfl) pe_int (pv 1))))
      (pss_cons (ps_for PassesOwn.never rfl (pi_seqK K rfl (pv 0)) (pg_name (i := 3) sc_law_great.nd rfl (by first | exact Or.inl rfl | exact Or.inr rfl)) (pss_one (ps_set (i := 2) sc_law_great.nd rfl (by first | exact Or.inl rfl | exact Or.inr rfl) (pe_op op_mod (pe_op (op_addK K rfl) (pe_op (op_addK K rfl) (pe_op (op_mulK K rfl) (pv 2) pe_int) (pe_op op_mod (pv 3) (pe_op op_pow pe_int pe_int))) (pe_op (op_mulK K rfl) pe_int (pv 1))) (pe_op op_pow pe_int pe_int)))))
      (pss_one (ps_ret (pv 2))))), body_val h (Nat.le_of_ble_eq_true rfl) fun c => ?_⟩
    walk_at "go"
    walk_at "as"
    refine sd_seq (M := fun δ' => ∃ x, δ' = [cv (dScr ns), cv (dN k), cv (.int (greatG k ns)), x])
      (sd_for (iv_S (ns := ns) (by walk_at "ev")) (fun i δ' => ∃ x, δ' = [cv (dScr ns), cv (dN k), cv (.int (greatG k (ns.take i))), x])
        ⟨none, rfl⟩ (fun i d δ' hd hP => tg_name) (fun c' _ _ i d δ' hd hP => ?_) (fun δ' hP => ?_)) (fun δ' hP => ?_)
    · obtain ⟨x, rfl⟩ := hP
      rw [List.getElem?_map] at hd
      cases hn : ns[i]? with
      | none => rw [hn] at hd; cases hd
      | some n =>
        rw [hn] at hd
        cases hd
        simp only [List.set_cons_zero, List.set_cons_succ]
        have p40 : (0 : Int) < 10 ^ (40 : Int).toNat := by decide
        walk_at "asL"
        exact ⟨_, Le.refl _, cv (.int n), by rw [greatG_more hn]; rfl⟩
    · obtain ⟨x, rfl⟩ := hP
      rw [List.length_map, List.take_length]
      exact ⟨x, rfl⟩
    · obtain ⟨x, rfl⟩ := hP
      walk_at "ret"
      rw [dN, greatF_eq]

/-- 0 _law_number 1 _law_discs 2 _law_pegs 3 _law_rest 4 _law_disc 5 _law_peg 6 _law_at 7 _law_some -/
def sp_law_setting (K : PySem.W.Frag) : Sp := fun vs H Q _ => ∃ (x n : Nat), (n ≤ 60) ∧ PrE K vs H Q [dN x, dN n] (fun z => ∃ s : List Pg, s.length = n ∧ z = dS s)
theorem ok_law_setting (T : Txt K mg A) : FnOk P w K mg base CX0 1 A.a_law_setting A.d_law_setting ["_law_number", "_law_discs"] (sp_law_setting K) := by
  refine T.f_law_setting.ok sc_law_setting (fun vs H Q E h => ?_) (fun cdv A' outer s H vs Q E hr h => ?_)
  · obtain ⟨x, n, _, h⟩ := h
    exact h.len
  · obtain ⟨x, n, hn, h⟩ := h
    refine ⟨_, (pss_cons (ps_set (i := 2) sc_law_setting.nd rfl (by first | exact Or.inl rfl | exact Or.inr rfl) (pe_lst pa_nil))
      (pss_cons (ps_set (i := 3) sc_law_setting.nd rfl (by first | exact Or.inl rfl | exact Or.inr rfl) (pe_op op_fdivW (pv 0) pe_int))
      (pss_cons (ps_for PassesOwn.never rfl (pi_range1 (by rfl) T.n_range (pa_cons (pv 1) pa_nil)) (pg_name (i := 4) sc_law_setting.nd rfl (by first | exact Or.inl rfl | exact Or.inr rfl)) (pss_cons (ps_expr (pe_bm PySem.F.plainAttrs_list PySem.F.slot_list_append PySem.F.type_list_append mt_append (pv 2) (pa_cons (pe_op op_mod (pv 3) pe_int) pa_nil)))
      (pss_one (ps_set (i := 3) sc_law_setting.nd rfl (by first | exact Or.inl rfl | exact Or.inr rfl) (pe_op op_fdivW (pv 3) pe_int)))))
      (pss_cons (ps_set (i := 5) sc_law_setting.nd rfl (by first | exact Or.inl rfl | exact Or.inr rfl) (pe_op op_mod (pe_op op_fdivW (pv 0) pe_int) pe_int))
      (pss_cons (ps_if (pt_cmpR (op_eqK K rfl hr.units) (pe_op op_mod (pv 0) pe_int) pe_int (nomark _)) (pss_one (ps_set (i := 2) sc_law_setting.nd rfl (by first | exact Or.inl rfl | exact Or.inr rfl) (pe_op (op_mulK K rfl) (pe_lst (pa_cons (pv 5) pa_nil)) (pv 1)))) pss_nil)
      (pss_cons (ps_if (PW.pt (pw_and (pt_cmpR (op_eqK K rfl hr.units) (pe_op op_mod (pv 0) pe_int) pe_int (nomark _)) (pw_and1 (pt_cmpR op_gt (pv 1) pe_int (nomark _))))) (pss_cons (ps_set (i := 6) sc_law_setting.nd rfl (by first | exact Or.inl rfl | exact Or.inr rfl) (pe_op op_mod (pe_op op_fdivW (pv 0) pe_int) (pv 1)))
      (pss_one (ps_set (i := 2) sc_law_setting.nd rfl (by first | exact Or.inl rfl | exact Or.inr rfl) (pe_op (op_addK K rfl) (pe_op (op_addK K rfl) (pe_op (op_mulK K rfl) (pe_lst (pa_cons (pv 5) pa_nil)) (pv 6)) (pe_lst (pa_cons (pe_ix (ix_seqK K rfl) (pv 2) (pv 6) (fun _ _ => rfl)) pa_nil))) (pe_op (op_mulK K rfl) (pe_lst (pa_cons (pv 5) pa_nil)) (pe_op op_sub (pe_op op_sub (pv 1) (pv 6)) pe_int)))))) pss_nil)
      (pss_cons (ps_if (pt_cmpR (op_eqK K rfl hr.units) (pe_op op_mod (pv 0) pe_int) pe_int (nomark _)) (pss_cons (ps_set (i := 7) sc_law_setting.nd rfl (by first | exact Or.inl rfl | exact Or.inr rfl) (pe_op op_mod (pe_op op_fdivW (pv 0) pe_int) (pe_op (op_addK K rfl) (pv 1) pe_int)))
      (pss_one (ps_set (i := 2) sc_law_setting.nd rfl (by first | exact Or.inl rfl | exact Or.inr rfl) (pe_op (op_addK K rfl) (pe_op (op_mulK K rfl) (pe_lst (pa_cons (pv 5) pa_nil)) (pv 7)) (pe_slice (sl_anyK K rfl) (pv 2) (po_some (pv 7)) po_none))))) pss_nil)
      (pss_one (ps_ret (pe_callTy (call_tupK K rfl) (by rfl) T.n_tuple (by decide +kernel) (pa_cons (pv 2) pa_nil))))))))))), body_valE h (Nat.le_of_ble_eq_true rfl) fun c => ?_⟩
    walk_at "go"
    walk_at "asN"
    walk_at "as"
    refine sd_seq (M := fun δ' => ∃ (s : List Pg) (rest x4 : Option Cel), s.length = n ∧ δ' = [cv (dN x), cv (dN n), some (Cel.own (s.map dP)), rest, x4, none, none, none])
      (sd_for (iv_rng1 (n := (n : Int)) (by walk_at "ea") (by omega) (by omega)) (fun i δ' => ∃ (s : List Pg) (r : Nat) (x4 : Option Cel), s.length = i ∧ δ' = [cv (dN x), cv (dN n), some (Cel.own (s.map dP)), cv (dN r), x4, none, none, none])
        ⟨[], x / 18, none, rfl, rfl⟩ (fun i d δ' hd hP => tg_name) (fun c' _ _ i d δ' hd hP => ?_) (fun δ' hP => ?_)) (fun δ' hP => ?_)
    · obtain ⟨hi, rfl⟩ := dRange_get hd
      obtain ⟨s, r, x4, hs, rfl⟩ := hP
      simp only [List.set_cons_zero, List.set_cons_succ]
      have em : (r : Int) % 3 = ((pgN r).val : Nat) := by
        show _ = ((r % 3 : Nat) : Int)
        omega
      refine sd_appS (k0 := 2) rfl (by walk_at "ev") (by rw [List.length_map]; omega) ?_
      simp only [List.set_cons_zero, List.set_cons_succ]
      walk_at "asL"
      refine ⟨_, Le.refl _, s ++ [pgN r], r / 3, cv (.int (0 + (i : Int))), by rw [List.length_append, hs]; rfl, ?_⟩
      rw [em, List.map_append]
      rfl
    · rw [dRange_len] at hP
      obtain ⟨s, r, x4, hs, rfl⟩ := hP
      exact ⟨s, _, x4, by omega, rfl⟩
    obtain ⟨s, rest, x4, hs, rfl⟩ := hP
    refine sd_freeze (i := 2) rfl ?_
    simp only [List.set_cons_zero, List.set_cons_succ]
    walk_at "as"
    have ep : (x : Int) / 6 % 3 = ((pgN (x / 6)).val : Nat) := by
      show _ = ((x / 6 % 3 : Nat) : Int)
      omega
    rw [ep]
    -- all on one peg
    refine sd_seq (M := fun δ' => ∃ (s : List Pg), s.length = n ∧ δ' = [cv (dN x), cv (dN n), cv (.list (s.map dP)), rest, x4, cv (dP (pgN (x / 6))), none, none]) ?_ (fun δ' hP => ?_)
    · walk_at "if"
      case h1 =>
        intro _
        refine' sd_asg (EvN.val (ev_opN (by walk_at "ev") (by walk_at "ev") (on_rep ?g1 ?g2 ?g3))) ?g9
        case g1 => omega
        case g2 => omega
        case g3 => simp; omega
        case g9 => exact ⟨List.replicate n (pgN (x / 6)), List.length_replicate, by rw [List.map_replicate, flat_one, Int.toNat_natCast]; rfl⟩
      case h2 => exact fun _ => sd_next ⟨s, hs, rfl⟩
    clear hs s
    obtain ⟨s, hs, rfl⟩ := hP
    refine sd_seq (M := fun δ' => ∃ (s : List Pg) (x6 : Option Cel), s.length = n ∧ δ' = [cv (dN x), cv (dN n), cv (.list (s.map dP)), rest, x4, cv (dP (pgN (x / 6))), x6, none]) ?_ (fun δ' hP => ?_)
    · walk_at "if"
      case h1 =>
        intro hc
        have hn0 : 0 < n := by
          have := (Bool.and_eq_true_iff.mp hc).2
          have := of_decide_eq_true this
          omega
        have hpos : 0 < (n : Int) := by omega
        walk_at "as"
        have ea : (x : Int) / 18 % (n : Int) = ((x / 18 % n : Nat) : Int) := by
          rw [Int.natCast_emod, Int.natCast_ediv]
          rfl
        have hlt : x / 18 % n < n := Nat.mod_lt _ hn0
        rw [ea]
        generalize x / 18 % n = k at hlt
        have hat := at_pg (s := s) (m := k) (by omega)
        have e1 : (n : Int) - (k : Int) - 1 = ((n - k - 1 : Nat) : Int) := by omega
        refine' sd_asg (EvN.val (ev_opN (EvN.val (ev_opN (EvN.val (ev_opN (by walk_at "ev") (by walk_at "ev") (on_rep ?g1 ?g2 ?g3))) (by walk_at "ev") (on_cat ?g4))) (EvN.val (ev_opN (by walk_at "ev") (by walk_at "ev") (on_rep ?g5 ?g6 ?g7))) (on_cat ?g8))) ?g9
        case g1 => omega
        case g2 => omega
        case g3 => simp; omega
        case g4 => rw [flat_one]; simp; omega
        case g5 => omega
        case g6 => omega
        case g7 => simp; omega
        case g8 => rw [flat_one, flat_one]; simp; omega
        case g9 =>
          refine ⟨List.replicate k (pgN (x / 6)) ++ [s[k]] ++ List.replicate (n - k - 1) (pgN (x / 6)), cv (dN k), by simp; omega, ?_⟩
          rw [e1, flat_one, flat_one, Int.toNat_natCast, Int.toNat_natCast, List.map_append, List.map_append, List.map_replicate, List.map_replicate]
          rfl
      case h2 => exact fun _ => sd_next ⟨s, none, hs, rfl⟩
    clear hs s
    obtain ⟨s, x6, hs, rfl⟩ := hP
    refine sd_seq (M := fun δ' => ∃ (s : List Pg) (x7 : Option Cel), s.length = n ∧ δ' = [cv (dN x), cv (dN n), cv (.list (s.map dP)), rest, x4, cv (dP (pgN (x / 6))), x6, x7]) ?_ (fun δ' hP => ?_)
    · walk_at "if"
      case h1 =>
        intro hc
        have hpos : 0 < (n : Int) + 1 := by omega
        walk_at "as"
        have ea : (x : Int) / 18 % ((n : Int) + 1) = ((x / 18 % (n + 1) : Nat) : Int) := by
          rw [Int.natCast_emod, Int.natCast_ediv]
          rfl
        have hlt : x / 18 % (n + 1) < n + 1 := Nat.mod_lt _ (by omega)
        rw [ea]
        generalize x / 18 % (n + 1) = k at hlt
        refine' sd_asg (EvN.val (ev_opN (EvN.val (ev_opN (by walk_at "ev") (by walk_at "ev") (on_rep ?g1 ?g2 ?g3))) (EvN.val (ev_slL (by walk_at "ev") (eo_some (by walk_at "ev")) eo_none)) (on_cat ?g4))) ?g9
        case g1 => omega
        case g2 => omega
        case g3 => simp; omega
        case g4 => rw [flat_one, cut_from]; simp; omega
        case g9 =>
          refine ⟨List.replicate k (pgN (x / 6)) ++ s.drop k, cv (dN k), by simp; omega, ?_⟩
          rw [flat_one, cut_from, Int.toNat_natCast, List.map_append, List.map_replicate, List.map_drop]
          rfl
      case h2 => exact fun _ => sd_next ⟨s, none, hs, rfl⟩
    clear hs s
    obtain ⟨s, x7, hs, rfl⟩ := hP
    walk_at "ret"
    exact ⟨_, ⟨s, hs, rfl⟩, rfl⟩

/-- 0 _law_setting_here 1 _law_tops 2 _law_found 3 _law_own 4 _law_peg 5 _law_disc -/
def sp_law_may (K : PySem.W.Frag) : Sp := fun vs H Q _ => ∃ (s : List Pg), (s.length ≤ 60) ∧ PrN K vs H Q [dS s] ((may s).map dM)
theorem ok_law_may (T : Txt K mg A) : FnOk P w K mg base CX0 1 A.a_law_may A.d_law_may ["_law_setting_here"] (sp_law_may K) := by
  refine T.f_law_may.ok sc_law_may (fun vs H Q E h => ?_) (fun cdv A' outer s H vs Q E hr h => ?_)
  · obtain ⟨s, _, h⟩ := h
    exact h.len
  · obtain ⟨s, hs, h⟩ := h
    refine ⟨_, (pss_cons (ps_setLc (i := 1) (own := [("_law_own", 3)]) (g := gName 3) rfl sc_law_may.nd rfl rfl (sw_true rfl rfl rfl (by decide +kernel)) (pi_range1 (by rfl) T.n_range (pa_cons pe_int pa_nil)) (blkOk_by (own := [("_law_own", 3)]) (N := _) (by kernel_rfl)) (fun _ _ _ _ _ => (pg_name (i := 3) sc_law_may.nd rfl (by first | exact Or.inl rfl | exact Or.inr rfl))) (fun _ _ _ _ _ => pts_nil) (fun _ _ _ _ _ => (pe_slice (sl_anyK K rfl) (pe_lc (own := [("_law_disc", 5), ("_law_peg", 4)]) (g := gTup K 2 (gCons (gName 5) (gCons (gName 4) gNil))) rfl sc_law_may.nd (pi_enumK K rfl (by rfl) T.n_enumerate (pa_cons (pv 0) pa_nil)) (blkOk_by (own := [("_law_disc", 5), ("_law_peg", 4)]) (N := _) (by kernel_rfl)) (fun _ _ _ _ _ => (pg_tup rfl (pgs_cons (pg_name (i := 5) sc_law_may.nd rfl (by first | exact Or.inl rfl | exact Or.inr rfl)) (pgs_cons (pg_name (i := 4) sc_law_may.nd rfl (by first | exact Or.inl rfl | exact Or.inr rfl)) pgs_nil)))) (fun _ _ _ _ _ => (pts_one (pt_cmpR (op_eqK K rfl hr.units) (pv 4) (pv 3) (nomark _)))) (fun _ _ _ _ _ => (pv 5))) po_none (po_some pe_int))))
      (pss_cons (ps_set (i := 2) sc_law_may.nd rfl (by first | exact Or.inl rfl | exact Or.inr rfl) (pe_lst pa_nil))
      (pss_cons (ps_for PassesOwn.never rfl (pi_range1 (by rfl) T.n_range (pa_cons pe_int pa_nil)) (pg_name (i := 3) sc_law_may.nd rfl (by first | exact Or.inl rfl | exact Or.inr rfl)) (pss_one (ps_for PassesOwn.never rfl (pi_range1 (by rfl) T.n_range (pa_cons pe_int pa_nil)) (pg_name (i := 4) sc_law_may.nd rfl (by first | exact Or.inl rfl | exact Or.inr rfl)) (pss_one (ps_if (PW.pt (pw_and (pt_cmpR (op_neK K rfl hr.units) (pv 4) (pv 3) (nomark _)) (pw_and (pt_cmpR (op_neK K rfl hr.units) (pe_ix (ix_seqK K rfl) (pv 1) (pv 3) (fun _ _ => rfl)) (pe_lst pa_nil) (nomark _)) (pw_and1 (PW.pt (pw_or (pt_cmpR (op_eqK K rfl hr.units) (pe_ix (ix_seqK K rfl) (pv 1) (pv 4) (fun _ _ => rfl)) (pe_lst pa_nil) (nomark _)) (pw_or1 (pt_cmpR op_lt (pe_ix (ix_seqK K rfl) (pe_ix (ix_seqK K rfl) (pv 1) (pv 3) (fun _ _ => rfl)) pe_int (fun _ _ => rfl)) (pe_ix (ix_seqK K rfl) (pe_ix (ix_seqK K rfl) (pv 1) (pv 4) (fun _ _ => rfl)) pe_int (fun _ _ => rfl)) (nomark _))))))))) (pss_one (ps_expr (pe_bm PySem.F.plainAttrs_list PySem.F.slot_list_append PySem.F.type_list_append mt_append (pv 2) (pa_cons (pe_tup (pa_cons (pe_ix (ix_seqK K rfl) (pe_ix (ix_seqK K rfl) (pv 1) (pv 3) (fun _ _ => rfl)) pe_int (fun _ _ => rfl)) (pa_cons (pv 4) pa_nil))) pa_nil)))) pss_nil)))))
      (pss_one (ps_ret (pe_callB (cr_sortedPK K rfl) (by rfl) T.n_sorted (by decide +kernel) (pa_cons (pv 2) pa_nil))))))), body_new h (Nat.le_of_ble_eq_true rfl) fun c => ?_⟩
    walk_at "go"
    refine sd_asgNS (EvN.eq (ev_lc (Tg := fun d δ => δ.set 3 (cv d)) (js := [3]) (fun _ => true) (fun d => .list (tp s (pgD d))) (iv_rng1 (n := 3) (by walk_at "ea") (by decide) (by decide)) (by simp [dRange_len]) (fun d _ => tg_name) (by simp) (fun c' d hd => ⟨et_yes, fun _ => ?_⟩)) (show _ = [PyData.list (tp s 0), .list (tp s 1), .list (tp s 2)] by rw [kept_all]; rfl)) ?_
    · obtain ⟨k, hk⟩ := List.getElem?_of_mem hd
      obtain ⟨hk3, rfl⟩ := dRange_get hk
      have hk3' : k < 3 := hk3
      rw [Int.zero_add]
      show EvD K c' _ [cv (dS s), none, none, cv (dN k), none, none] (PyData.list (tp s (pgN k)))
      rw [← kept_top, ← cut_to']
      refine EvN.val (ev_slL (EvN.val ?_) eo_none (eo_some ev_int))
      refine ev_lc (Tg := fun d δ => (δ.set 5 (cv (fst2 d))).set 4 (cv (snd2 d))) (js := [5, 4]) (fun d => eqI (snd2 d) (dP (pgN k))) fst2 (iv_enumT (by walk_at "ea")) (by rw [dEnum_len, List.length_map]; omega) (fun d hd => ?_) (by simp) (fun c'' d hd => ?_)
      · obtain ⟨i, hi⟩ := List.getElem?_of_mem hd
        obtain ⟨x, hx, rfl⟩ := dEnum_get hi
        exact tg_tup (tgs_cons tg_name (tgs_cons tg_name tgs_nil))
      · obtain ⟨i, hi⟩ := List.getElem?_of_mem hd
        obtain ⟨x, hx, rfl⟩ := dEnum_get hi
        obtain ⟨p, hp, rfl⟩ := List.mem_map.mp (List.mem_of_getElem? hx)
        rw [pgN_val hk3']
        show EvT K c'' _ [cv (dS s), none, none, cv (dN k), cv (dP p), cv (.int (i : Int))] (eqI (dP p) (dN k)) ∧ (_ → EvD K c'' _ [cv (dS s), none, none, cv (dN k), cv (dP p), cv (.int (i : Int))] (.int (i : Int)))
        refine ⟨?_, fun _ => by walk_at "ev"⟩
        refine' EvT.eq ?q0 ?q1
        case q0 => walk_at "et"
        case q1 => rfl
    refine sd_freeze (i := 1) rfl ?_
    simp only [List.set_cons_zero, List.set_cons_succ]
    walk_at "asN"
    refine sd_seq (M := fun δ' => ∃ x3 x4, δ' = [cv (dS s), cv (dTops s), some (Cel.own ((fl s 9).map dM)), x3, x4, none])
      (sd_for (iv_rng1 (n := 3) (by walk_at "ea") (by decide) (by decide)) (fun i δ' => ∃ x3 x4, δ' = [cv (dS s), cv (dTops s), some (Cel.own ((fl s (3 * i)).map dM)), x3, x4, none])
        ⟨none, none, rfl⟩ (fun i d δ' hd hP => tg_name) (fun c' _ _ i d δ' hd hP => ?_) (fun δ' hP => ?_)) (fun δ' hP => ?_)
    · obtain ⟨hi, rfl⟩ := dRange_get hd
      obtain ⟨x3, x4, rfl⟩ := hP
      have hi3 : i < 3 := hi
      rw [Int.zero_add]
      simp only [List.set_cons_zero, List.set_cons_succ]
      refine sd_for (iv_rng1 (n := 3) (by walk_at "ea") (by decide) (by decide)) (fun j δ' => ∃ x4, δ' = [cv (dS s), cv (dTops s), some (Cel.own ((fl s (3 * i + j)).map dM)), cv (dN i), x4, none])
        ⟨x4, rfl⟩ (fun i d δ' hd hP => tg_name) (fun c'' _ _ j d δ' hd hP => ?_) (fun δ' hP => ?_)
      · obtain ⟨hj, rfl⟩ := dRange_get hd
        obtain ⟨x4, rfl⟩ := hP
        have hj3 : j < 3 := hj
        rw [Int.zero_add]
        simp only [List.set_cons_zero, List.set_cons_succ]
        have a1 := at_tops (s := s) hi3
        have a2 := at_tops (s := s) hj3
        have q1 : pgN ((3 * i + j) / 3) = pgN i := by rw [show (3 * i + j) / 3 = i by omega]
        have q2 : pgN (3 * i + j) = pgN j := Fin.ext (by show (3 * i + j) % 3 = j % 3; omega)
        have sc := fl_succ s (3 * i + j)
        rw [q1, q2] at sc
        have hlen : ((fl s (3 * i + j)).map dM).length < 100000 := by
          rw [List.length_map]
          have := fl_len s (3 * i + j)
          omega
        have hpq : (pgN j = pgN i) ↔ ((j : Int) = (i : Int)) := by
          constructor
          · intro e
            have : j % 3 = i % 3 := congrArg Fin.val e
            omega
          · intro e
            rw [show j = i by omega]
        have h34 : 3 * i + (j + 1) = 3 * i + j + 1 := rfl
        unfold dTops
        rcases tp_cases s (pgN i) with ⟨ea, ta⟩ | ⟨a, ea, ta⟩
        · rw [ea] at a1
          walk_at "if"
          case h1 => intro hc; simp at hc
          case h2 =>
            intro hc
            refine sd_next ⟨_, Le.refl _, cv (dN j), ?_⟩
            rw [h34, sc, cand, ta]
            simp [dTops]
        · rw [ea] at a1
          have hfst : atI [dN a] (0 : Int) = some (dN a) := rfl
          rcases tp_cases s (pgN j) with ⟨eb, tb⟩ | ⟨b, eb, tb⟩
          · rw [eb] at a2
            walk_at "if"
            case h1 =>
              intro hc
              have hne : ¬ pgN j = pgN i := by
                rw [hpq]
                simpa using hc
              refine sd_app rfl (by walk_at "ev") hlen ⟨_, Le.refl _, cv (dN j), ?_⟩
              rw [h34, sc, cand, ta, tb]
              simp [hne, dTops, pgN_val hj3]
            case h2 =>
              intro hc
              have he : pgN j = pgN i := by
                rw [hpq]
                simpa using hc
              refine sd_next ⟨_, Le.refl _, cv (dN j), ?_⟩
              rw [h34, sc, cand, ta, tb]
              simp [he, dTops]
          · rw [eb] at a2
            have hfs2 : atI [dN b] (0 : Int) = some (dN b) := rfl
            walk_at "if"
            case h1 =>
              intro hc
              have hc' : ¬ pgN j = pgN i ∧ a < b := by
                rw [hpq]
                simpa using hc
              refine sd_app rfl (by walk_at "ev") hlen ⟨_, Le.refl _, cv (dN j), ?_⟩
              rw [h34, sc, cand, ta, tb]
              simp [hc'.1, hc'.2, dTops, pgN_val hj3]
            case h2 =>
              intro hc
              have hc' : pgN j = pgN i ∨ ¬ a < b := by
                rw [hpq]
                by_cases e : (j : Int) = i
                · exact .inl e
                · refine .inr fun l => ?_
                  simp [e, l] at hc
              refine sd_next ⟨_, Le.refl _, cv (dN j), ?_⟩
              rw [h34, sc, cand, ta, tb]
              rcases hc' with e | l
              · simp [e, dTops]
              · by_cases e : pgN j = pgN i
                · simp [e, dTops]
                · simp [e, l, dTops]
      · rw [dRange_len] at hP
        obtain ⟨x4, rfl⟩ := hP
        exact ⟨_, Le.refl _, _, x4, rfl⟩
    · rw [dRange_len] at hP
      exact hP
    · obtain ⟨x3, x4, rfl⟩ := hP
      refine sd_freeze (i := 2) rfl ?_
      simp only [List.set_cons_zero, List.set_cons_succ]
      rw [dMs_pr]
      refine sd_retN (ev_cbN (by walk_at "ea") (cn_sortedP fun l hl hs => may_uniq hl hs)) ?_
      rw [dMs_pr]

/-- 0 _law_setting_here 1 _law_move -/
def sp_law_behind (K : PySem.W.Frag) : Sp := fun vs H Q _ => ∃ (s : List Pg) (m : Nat × Pg), (m.1 < s.length ∧ s.length ≤ 60) ∧ Pr K vs H Q [dS s, dM m] (dS (s.set m.1 m.2))
theorem ok_law_behind (T : Txt K mg A) : FnOk P w K mg base CX0 1 A.a_law_behind A.d_law_behind ["_law_setting_here", "_law_move"] (sp_law_behind K) := by
  refine T.f_law_behind.ok sc_law_behind (fun vs H Q E h => ?_) (fun cdv A' outer s H vs Q E hr h => ?_)
  · obtain ⟨s, m, _, h⟩ := h
    exact h.len
  · obtain ⟨s, m, ⟨hm, hs⟩, h⟩ := h
    refine ⟨_, (pss_one (ps_ret (pe_op (op_addK K rfl) (pe_op (op_addK K rfl) (pe_slice (sl_anyK K rfl) (pv 0) po_none (po_some (pe_ix (ix_seqK K rfl) (pv 1) pe_int (fun _ _ => rfl)))) (pe_tup (pa_cons (pe_ix (ix_seqK K rfl) (pv 1) pe_int (fun _ _ => rfl)) pa_nil))) (pe_slice (sl_anyK K rfl) (pv 0) (po_some (pe_op (op_addK K rfl) (pe_ix (ix_seqK K rfl) (pv 1) pe_int (fun _ _ => rfl)) pe_int)) po_none)))), body_val h (Nat.le_of_ble_eq_true rfl) fun c => ?_⟩
    walk_at "go"
    have a0 : atI [dN m.1, dP m.2] (0 : Int) = some (dN m.1) := rfl
    have a1 : atI [dN m.1, dP m.2] (1 : Int) = some (dP m.2) := rfl
    have e1 : (m.1 : Int) + 1 = ((m.1 + 1 : Nat) : Int) := by omega
    refine' sd_ret (ev_op (ev_op (ev_slT (by walk_at "ev") eo_none (eo_some (by walk_at "ev"))) (by walk_at "ev") (od_catT ?g1)) (ev_slT (by walk_at "ev") (eo_some (by walk_at "ev")) eo_none) (od_catT ?g2)) ?g3
    case g1 => rw [cut_to', List.length_take, List.length_map]; simp; omega
    case g2 => rw [e1, cut_to', cut_from]; simp; omega
    case g3 => rw [e1, cut_to', cut_from, dS_set hm]

/-- 0 _law_number 1 _law_discs 2 _law_disc 3 _law_begin 4 _law_end 5 _law_rest 6 _law_one 7 _law_other -/
def sp_law_tied (K : PySem.W.Frag) : Sp := fun vs H Q _ => ∃ (x n : Nat), (2 ≤ n ∧ n ≤ 60) ∧ PrE K vs H Q [dN x, dN n] (fun z => ∃ s t : List Pg, (s.length = n ∧ t.length = n) ∧ z = .tuple [dS s, dS t])
theorem ok_law_tied (T : Txt K mg A) : FnOk P w K mg base CX0 2 A.a_law_tied A.d_law_tied ["_law_number", "_law_discs"] (sp_law_tied K) := by
  refine T.f_law_tied.ok sc_law_tied (fun vs H Q E h => ?_) (fun cdv A' outer s H vs Q E hr h => ?_)
  · obtain ⟨x, n, _, h⟩ := h
    exact h.len
  · obtain ⟨x, n, ⟨hn2, hn⟩, h⟩ := h
    refine ⟨_, (pss_cons (ps_set (i := 2) sc_law_tied.nd rfl (by first | exact Or.inl rfl | exact Or.inr rfl) (pe_op (op_addK K rfl) pe_int (pe_op op_mod (pv 0) (pe_op op_sub (pv 1) pe_int))))
      (pss_cons (ps_set (i := 3) sc_law_tied.nd rfl (by first | exact Or.inl rfl | exact Or.inr rfl) (pe_op op_mod (pe_op op_fdivW (pv 0) pe_int) pe_int))
      (pss_cons (ps_set (i := 4) sc_law_tied.nd rfl (by first | exact Or.inl rfl | exact Or.inr rfl) (pe_op op_mod (pe_op (op_addK K rfl) (pe_op (op_addK K rfl) (pv 3) pe_int) (pe_op op_mod (pe_op op_fdivW (pv 0) pe_int) pe_int)) pe_int))
      (pss_cons (ps_set (i := 5) sc_law_tied.nd rfl (by first | exact Or.inl rfl | exact Or.inr rfl) (pe_slice (sl_anyK K rfl) (pe_call (ok_law_setting T) hr (by rfl) T.g_law_setting T.f_law_setting.kp T.b_law_setting .nil pass0 (pa_cons (pv 0) (pa_cons (pv 1) pa_nil))) (po_some (pe_op (op_addK K rfl) (pv 2) pe_int)) po_none))
      (pss_cons (ps_set (i := 6) sc_law_tied.nd rfl (by first | exact Or.inl rfl | exact Or.inr rfl) (pe_op (op_addK K rfl) (pe_op (op_addK K rfl) (pe_op (op_mulK K rfl) (pe_tup (pa_cons (pv 4) pa_nil)) (pv 2)) (pe_tup (pa_cons (pv 3) pa_nil))) (pv 5)))
      (pss_cons (ps_set (i := 7) sc_law_tied.nd rfl (by first | exact Or.inl rfl | exact Or.inr rfl) (pe_op (op_addK K rfl) (pe_op (op_addK K rfl) (pe_op (op_mulK K rfl) (pe_tup (pa_cons (pv 4) pa_nil)) (pe_op op_sub (pv 2) pe_int)) (pe_tup (pa_cons (pv 3) (pa_cons (pv 4) pa_nil)))) (pv 5)))
      (pss_cons (ps_if (pt_cmpR (op_eqK K rfl hr.units) (pe_op op_mod (pe_op op_fdivW (pv 0) pe_int) pe_int) pe_int (nomark _)) (pss_one (ps_set (i := 7) sc_law_tied.nd rfl (by first | exact Or.inl rfl | exact Or.inr rfl) (pe_op (op_addK K rfl) (pe_tup (pa_cons (pe_op op_mod (pe_op op_fdivW (pv 0) pe_int) pe_int) pa_nil)) (pe_slice (sl_anyK K rfl) (pv 7) (po_some pe_int) po_none)))) pss_nil)
      (pss_one (ps_ret (pe_tup (pa_cons (pv 6) (pa_cons (pv 7) pa_nil)))))))))))), body_valE h (Nat.le_of_ble_eq_true rfl) fun c => ?_⟩
    walk_at "go"
    have hpos : 0 < (n : Int) - 1 := by omega
    walk_at "as"
    have ed : 1 + (x : Int) % ((n : Int) - 1) = ((1 + x % (n - 1) : Nat) : Int) := by
      rw [show (n : Int) - 1 = ((n - 1 : Nat) : Int) by omega]
      simp
    have hd : x % (n - 1) < n - 1 := Nat.mod_lt _ (by omega)
    rw [ed]
    obtain ⟨d, hdd⟩ : ∃ d, d = 1 + x % (n - 1) := ⟨_, rfl⟩
    rw [← hdd]
    walk_at "as"
    have eb : (x : Int) / 64 % 3 = ((pgN (x / 64)).val : Nat) := by
      show _ = ((x / 64 % 3 : Nat) : Int)
      omega
    rw [eb]
    generalize pgN (x / 64) = b
    walk_at "as"
    have ee : (((b.val : Nat) : Int) + 1 + (x : Int) / 256 % 2) % 3 = ((pgN (b.val + 1 + x / 256 % 2)).val : Nat) := by
      show _ = (((b.val + 1 + x / 256 % 2) % 3 : Nat) : Int)
      omega
    rw [ee]
    generalize pgN (b.val + 1 + x / 256 % 2) = e
    refine sd_asgES (ev_slTE (ev_callE (Z := fun z => ∃ s : List Pg, s.length = n ∧ z = dS s) (ds := [dN x, dN n]) (by walk_at "ea") (by walk_at "sp")) (fun z hz => ?_) (eo_some (by walk_at "ev")) eo_none) fun z hz => ?_
    · obtain ⟨s, _, rfl⟩ := hz
      exact ⟨_, rfl⟩
    obtain ⟨ds, ⟨s, hs, hds⟩, rfl⟩ := hz
    have hds := PyData.tuple.inj hds
    subst hds
    simp only [List.set_cons_zero, List.set_cons_succ]
    rw [show ((d : Int) + 1) = ((d + 1 : Nat) : Int) by omega, cut_from, ← List.map_drop]
    have hr : (s.drop (d + 1)).length + (d + 1) = n := by
      rw [List.length_drop]
      omega
    generalize s.drop (d + 1) = r at hr
    refine sd_asgS (EvD.eq (y := dS (List.replicate d e ++ [b] ++ r)) (ev_op (ev_op (ev_op (by walk_at "ev") (by walk_at "ev") (od_repT (by omega) (by omega))) (by walk_at "ev") (od_catT (by simp; omega))) (by walk_at "ev") (od_catT (by simp; omega))) (by simp [dS])) ?_
    simp only [List.set_cons_zero, List.set_cons_succ]
    refine sd_asgS (EvD.eq (y := dS (List.replicate (d - 1) e ++ [b, e] ++ r)) (ev_op (ev_op (ev_op (by walk_at "ev") (by walk_at "ev") (od_repT (by omega) (by omega))) (by walk_at "ev") (od_catT (by simp; omega))) (by walk_at "ev") (od_catT (by simp; omega))) (by rw [show ((d : Int) - 1).toNat = d - 1 by omega]; simp [dS])) ?_
    simp only [List.set_cons_zero, List.set_cons_succ]
    have ht : (List.replicate (d - 1) e ++ [b, e] ++ r).length = n := by simp; omega
    generalize List.replicate (d - 1) e ++ [b, e] ++ r = t at ht
    have hs1 : (List.replicate d e ++ [b] ++ r).length = n := by simp; omega
    generalize List.replicate d e ++ [b] ++ r = s1 at hs1
    refine sd_seq (M := fun δ' => ∃ (t : List Pg), t.length = n ∧ δ' = [cv (dN x), cv (dN n), cv (dN d), cv (dP b), cv (dP e), cv (dS r), cv (dS s1), cv (dS t)]) ?_ (fun δ' hP => ?_)
    · walk_at "if"
      case h1 =>
        intro _
        have ep : (x : Int) / 4096 % 3 = ((pgN (x / 4096)).val : Nat) := by
          show _ = ((x / 4096 % 3 : Nat) : Int)
          omega
        refine sd_asg (EvD.eq (y := dS ([pgN (x / 4096)] ++ t.drop 1)) (ev_op (by walk_at "ev") (ev_slT (by walk_at "ev") (eo_some ev_int) eo_none) (od_catT ?_)) ?_) ?_
        · rw [show (1 : Int) = ((1 : Nat) : Int) from rfl, cut_from]
          simp
          omega
        · rw [show (1 : Int) = ((1 : Nat) : Int) from rfl, cut_from, ep]
          simp [dS]
        · exact ⟨[pgN (x / 4096)] ++ t.drop 1, by simp; omega, rfl⟩
      case h2 => exact fun _ => sd_next ⟨t, ht, rfl⟩
    · obtain ⟨t, ht, rfl⟩ := hP
      refine sd_ret (ev_tup (by walk_at "ea")) ?_
      exact ⟨_, ⟨s1, t, ⟨hs1, ht⟩, rfl⟩, rfl⟩

/-- 0 _law_script 1 _law_k 2 _law_discs 3 _law_number 4 _law_one 5 _law_other 6 _law_kind 7 _law_at -/
def sp_law_pair (K : PySem.W.Frag) : Sp := fun vs H Q _ => ∃ (ns : List Int) (k n : Nat), (ns.length ≤ 63 ∧ k ≤ 100 ∧ n ≤ 60) ∧ PrE K vs H Q [dScr ns, dN k, dN n] (fun z => ∃ s t : List Pg, (s.length = n ∧ t.length = n) ∧ z = .tuple [dS s, dS t])
theorem ok_law_pair (T : Txt K mg A) : FnOk P w K mg base CX0 3 A.a_law_pair A.d_law_pair ["_law_script", "_law_k", "_law_discs"] (sp_law_pair K) := by
  refine T.f_law_pair.ok sc_law_pair (fun vs H Q E h => ?_) (fun cdv A' outer s H vs Q E hr h => ?_)
  · obtain ⟨ns, k, n, _, h⟩ := h
    exact h.len
  · obtain ⟨ns, k, n, ⟨hl, hk, hn⟩, h⟩ := h
    refine ⟨_, (pss_cons (ps_set (i := 3) sc_law_pair.nd rfl (by first | exact Or.inl rfl | exact Or.inr rfl) (pe_call (ok_law_great T) (hr.mono (by decide)) (by rfl) T.g_law_great T.f_law_great.kp T.b_law_great .nil pass0 (pa_cons (pv 0) (pa_cons (pe_op (op_addK K rfl) (pe_op (op_mulK K rfl) pe_int (pv 1)) pe_int) pa_nil))))
      (pss_cons (ps_set (i := 4) sc_law_pair.nd rfl (by first | exact Or.inl rfl | exact Or.inr rfl) (pe_call (ok_law_setting T) (hr.mono (by decide)) (by rfl) T.g_law_setting T.f_law_setting.kp T.b_law_setting .nil pass0 (pa_cons (pv 3) (pa_cons (pv 2) pa_nil))))
      (pss_cons (ps_set (i := 5) sc_law_pair.nd rfl (by first | exact Or.inl rfl | exact Or.inr rfl) (pe_call (ok_law_setting T) (hr.mono (by decide)) (by rfl) T.g_law_setting T.f_law_setting.kp T.b_law_setting .nil pass0 (pa_cons (pe_call (ok_law_great T) (hr.mono (by decide)) (by rfl) T.g_law_great T.f_law_great.kp T.b_law_great .nil pass0 (pa_cons (pv 0) (pa_cons (pe_op (op_addK K rfl) (pe_op (op_mulK K rfl) pe_int (pv 1)) pe_int) pa_nil))) (pa_cons (pv 2) pa_nil))))
      (pss_cons (ps_set (i := 6) sc_law_pair.nd rfl (by first | exact Or.inl rfl | exact Or.inr rfl) (pe_op op_mod (pe_call (ok_law_cell T) (hr.mono (by decide)) (by rfl) T.g_law_cell T.f_law_cell.kp T.b_law_cell .nil pass0 (pa_cons (pv 0) (pa_cons (pe_op (op_addK K rfl) (pe_op (op_mulK K rfl) pe_int (pv 1)) pe_int) pa_nil))) pe_int))
      (pss_cons (ps_if (PW.pt (pw_and (pt_cmpR (op_eqK K rfl hr.units) (pv 6) pe_int (nomark _)) (pw_and1 (pt_cmpR op_gt (pv 2) pe_int (nomark _))))) (pss_cons (ps_set (i := 7) sc_law_pair.nd rfl (by first | exact Or.inl rfl | exact Or.inr rfl) (pe_op op_mod (pe_op op_fdivW (pv 3) pe_int) (pe_op (op_addK K rfl) (pv 2) pe_int)))
      (pss_one (ps_set (i := 5) sc_law_pair.nd rfl (by first | exact Or.inl rfl | exact Or.inr rfl) (pe_op (op_addK K rfl) (pe_slice (sl_anyK K rfl) (pv 4) po_none (po_some (pv 7))) (pe_slice (sl_anyK K rfl) (pv 5) (po_some (pv 7)) po_none))))) pss_nil)
      (pss_cons (ps_if (PW.pt (pw_and (pt_cmpR (op_eqK K rfl hr.units) (pv 6) pe_int (nomark _)) (pw_and1 (pt_cmpR op_gt (pv 2) pe_int (nomark _))))) (pss_cons (ps_set (i := 7) sc_law_pair.nd rfl (by first | exact Or.inl rfl | exact Or.inr rfl) (pe_op op_mod (pe_op op_fdivW (pv 3) pe_int) (pe_op (op_addK K rfl) (pv 2) pe_int)))
      (pss_one (ps_set (i := 5) sc_law_pair.nd rfl (by first | exact Or.inl rfl | exact Or.inr rfl) (pe_op (op_addK K rfl) (pe_slice (sl_anyK K rfl) (pv 5) po_none (po_some (pv 7))) (pe_slice (sl_anyK K rfl) (pv 4) (po_some (pv 7)) po_none))))) pss_nil)
      (pss_cons (ps_if (PW.pt (pw_and (pt_cmpR op_gt (pv 6) pe_int (nomark _)) (pw_and1 (pt_cmpR op_gt (pv 2) pe_int (nomark _))))) (pss_one (ps_asg (pe_call (ok_law_tied T) hr (by rfl) T.g_law_tied T.f_law_tied.kp T.b_law_tied .nil pass0 (pa_cons (pv 3) (pa_cons (pv 2) pa_nil))) (pg_tup rfl (pgs_cons (pg_name (i := 4) sc_law_pair.nd rfl (by first | exact Or.inl rfl | exact Or.inr rfl)) (pgs_cons (pg_name (i := 5) sc_law_pair.nd rfl (by first | exact Or.inl rfl | exact Or.inr rfl)) pgs_nil))))) pss_nil)
      (pss_one (ps_ret (pe_tup (pa_cons (pv 4) (pa_cons (pv 5) pa_nil)))))))))))), body_valE h (Nat.le_of_ble_eq_true rfl) fun c => ?_⟩
    walk_at "go"
    have e1 : (2 : Int) * (k : Int) + 1 = ((2 * k + 1 : Nat) : Int) := by omega
    have e2 : (2 : Int) * (k : Int) + 2 = ((2 * k + 2 : Nat) : Int) := by omega
    have e3 : (7 : Int) * (k : Int) + 2 = ((7 * k + 2 : Nat) : Int) := by omega
    have l1 : 2 * k + 1 ≤ 1000 := by omega
    have l2 : 2 * k + 2 ≤ 1000 := by omega
    have l3 : 7 * k + 2 ≤ 1000 := by omega
    refine sd_asgS (d := dN (greatF ns (2 * k + 1))) (ev_call (ea_cons (by walk_at "ev") (ea_cons (EvD.eq (by walk_at "ev") (congrArg PyData.int e1)) ea_nil)) (by walk_at "sp")) ?_
    simp only [List.set_cons_zero, List.set_cons_succ]
    generalize greatF ns (2 * k + 1) = x
    refine sd_asgES (ev_callE (Z := fun z => ∃ s : List Pg, s.length = n ∧ z = dS s) (ds := [dN x, dN n]) (by walk_at "ea") (by walk_at "sp")) fun z hz => ?_
    obtain ⟨s, hs, rfl⟩ := hz
    simp only [List.set_cons_zero, List.set_cons_succ]
    refine sd_asgES (ev_callE (Z := fun z => ∃ s : List Pg, s.length = n ∧ z = dS s) (ds := [dN (greatF ns (2 * k + 2)), dN n]) (ea_cons (ev_call (ea_cons (by walk_at "ev") (ea_cons (EvD.eq (by walk_at "ev") (congrArg PyData.int e2)) ea_nil)) (by walk_at "sp")) (by walk_at "ea")) (by walk_at "sp")) fun z hz => ?_
    obtain ⟨t, ht, rfl⟩ := hz
    simp only [List.set_cons_zero, List.set_cons_succ]
    refine sd_asgS (ev_op (ev_call (z := dN (cellF ns (7 * k + 2))) (ea_cons (by walk_at "ev") (ea_cons (EvD.eq (by walk_at "ev") (congrArg PyData.int e3)) ea_nil)) (by walk_at "sp")) ev_int (od_mod (by decide))) ?_
    simp only [List.set_cons_zero, List.set_cons_succ]
    generalize ((cellF ns (7 * k + 2) : Nat) : Int) % 6 = q
    have hcat : ∀ (a : Nat) (s t : List Pg), s.length = n → t.length = n → (s.take a ++ t.drop a).length = n := fun a s t hs ht => by
      simp
      omega
    have hpos : 0 < (n : Int) + 1 := by omega
    have ea : (x : Int) / 7 % ((n : Int) + 1) = ((x / 7 % (n + 1) : Nat) : Int) := by
      rw [Int.natCast_emod, Int.natCast_ediv]
      rfl
    refine sd_seq (M := fun δ' => ∃ (t : List Pg) (x7 : Option Cel), t.length = n ∧ δ' = [cv (dScr ns), cv (dN k), cv (dN n), cv (dN x), cv (dS s), cv (dS t), cv (.int q), x7]) ?_ (fun δ' hP => ?_)
    · walk_at "if"
      case h1 =>
        intro _
        walk_at "as"
        rw [ea]
        generalize x / 7 % (n + 1) = a
        refine sd_asg (EvD.eq (y := dS (s.take a ++ t.drop a)) (ev_op (ev_slT (by walk_at "ev") eo_none (eo_some (by walk_at "ev"))) (ev_slT (by walk_at "ev") (eo_some (by walk_at "ev")) eo_none) (od_catT ?_)) ?_) ?_
        · rw [cut_to', cut_from]
          simp
          omega
        · rw [cut_to', cut_from]
          simp [dS]
        · exact ⟨_, _, hcat a s t hs ht, rfl⟩
      case h2 => exact fun _ => sd_next ⟨t, none, ht, rfl⟩
    clear ht t
    obtain ⟨t, x7, ht, rfl⟩ := hP
    refine sd_seq (M := fun δ' => ∃ (t : List Pg) (x7 : Option Cel), t.length = n ∧ δ' = [cv (dScr ns), cv (dN k), cv (dN n), cv (dN x), cv (dS s), cv (dS t), cv (.int q), x7]) ?_ (fun δ' hP => ?_)
    · walk_at "if"
      case h1 =>
        intro _
        walk_at "as"
        rw [ea]
        generalize x / 7 % (n + 1) = a
        refine sd_asg (EvD.eq (y := dS (t.take a ++ s.drop a)) (ev_op (ev_slT (by walk_at "ev") eo_none (eo_some (by walk_at "ev"))) (ev_slT (by walk_at "ev") (eo_some (by walk_at "ev")) eo_none) (od_catT ?_)) ?_) ?_
        · rw [cut_to', cut_from]
          simp
          omega
        · rw [cut_to', cut_from]
          simp [dS]
        · exact ⟨_, _, hcat a t s ht hs, rfl⟩
      case h2 => exact fun _ => sd_next ⟨t, x7, ht, rfl⟩
    clear ht t x7
    obtain ⟨t, x7, ht, rfl⟩ := hP
    refine sd_seq (M := fun δ' => ∃ (s t : List Pg), (s.length = n ∧ t.length = n) ∧ δ' = [cv (dScr ns), cv (dN k), cv (dN n), cv (dN x), cv (dS s), cv (dS t), cv (.int q), x7]) ?_ (fun δ' hP => ?_)
    · walk_at "if"
      case h1 =>
        intro hc
        have hn2 : 2 ≤ n := by
          have := of_decide_eq_true (Bool.and_eq_true_iff.mp hc).2
          omega
        refine sd_asgET (Tg := fun z δ => match z with | .tuple [a, b] => (δ.set 4 (cv a)).set 5 (cv b) | _ => δ) (ev_callE (Z := fun z => ∃ s t : List Pg, (s.length = n ∧ t.length = n) ∧ z = .tuple [dS s, dS t]) (ds := [dN x, dN n]) (by walk_at "ea") (by walk_at "sp")) (js := [4, 5]) (fun z hz => ?_) (fun z hz => ?_)
        · obtain ⟨s, t, _, rfl⟩ := hz
          exact tg_tup (tgs_cons tg_name (tgs_cons tg_name tgs_nil))
        · obtain ⟨s, t, hst, rfl⟩ := hz
          exact ⟨s, t, hst, rfl⟩
      case h2 => exact fun _ => sd_next ⟨s, t, ⟨hs, ht⟩, rfl⟩
    · clear hs ht s t
      obtain ⟨s, t, hst, rfl⟩ := hP
      refine sd_ret (ev_tup (by walk_at "ea")) ?_
      exact ⟨_, ⟨s, t, hst, rfl⟩, rfl⟩

/-- 0 _law_thing -/
def sp_law_whole (K : PySem.W.Frag) : Sp := fun vs H Q _ => ∃ (d : PyData), plainD d = true ∧ Pr K vs H Q [d] (.bool (isIntB d && !isBoolB d))
theorem ok_law_whole (T : Txt K mg A) : FnOk P w K mg base CX0 1 A.a_law_whole A.d_law_whole ["_law_thing"] (sp_law_whole K) := by
  refine T.f_law_whole.ok sc_law_whole (fun vs H Q E h => ?_) (fun cdv A' outer s H vs Q E hr h => ?_)
  · obtain ⟨d, _, h⟩ := h
    exact h.len
  · obtain ⟨d, hp, h⟩ := h
    refine ⟨_, (pss_one (ps_ret (pe_and (pe_callB (call_isiK' K rfl) (by rfl) T.n_isinstance (by decide +kernel) (pa_cons (pv 0) (pa_cons (pe_bltn (v := .ty "int") (by rfl) T.n_int (by decide +kernel) rfl) pa_nil))) (pe_one (pe_not (pe_callB (call_isiK' K rfl) (by rfl) T.n_isinstance (by decide +kernel) (pa_cons (pv 0) (pa_cons (pe_bltn (v := .ty "bool") (by rfl) T.n_bool (by decide +kernel) rfl) pa_nil)))))))), body_val h (Nat.le_of_ble_eq_true rfl) fun c => ?_⟩
    walk_at "go"
    walk_at "ret"

/-- 0 _law_thing -/
def sp_law_is_move (K : PySem.W.Frag) : Sp := fun vs H Q _ => ∃ (m : Nat × Pg), True ∧ Pr K vs H Q [dM m] (.bool true)
theorem ok_law_is_move (T : Txt K mg A) : FnOk P w K mg base CX0 2 A.a_law_is_move A.d_law_is_move ["_law_thing"] (sp_law_is_move K) := by
  refine T.f_law_is_move.ok sc_law_is_move (fun vs H Q E h => ?_) (fun cdv A' outer s H vs Q E hr h => ?_)
  · obtain ⟨m, _, h⟩ := h
    exact h.len
  · obtain ⟨m, _, h⟩ := h
    refine ⟨_, (pss_one (ps_ret (pe_and (pe_callB (call_isiK' K rfl) (by rfl) T.n_isinstance (by decide +kernel) (pa_cons (pv 0) (pa_cons (pe_bltn (v := .ty "tuple") (by rfl) T.n_tuple (by decide +kernel) rfl) pa_nil))) (pe_and (pe_cmpR (op_eqK K rfl hr.units) (pe_callB (call_lenK K rfl) (by rfl) T.n_len PySem.boot_len (pa_cons (pv 0) pa_nil)) pe_int (nomark _)) (pe_and (pe_call (ok_law_whole T) hr (by rfl) T.g_law_whole T.f_law_whole.kp T.b_law_whole .nil pass0 (pa_cons (pe_ix (ix_seqK K rfl) (pv 0) pe_int (fun _ _ => rfl)) pa_nil)) (pe_one (pe_call (ok_law_whole T) hr (by rfl) T.g_law_whole T.f_law_whole.kp T.b_law_whole .nil pass0 (pa_cons (pe_ix (ix_seqK K rfl) (pv 0) pe_int (fun _ _ => rfl)) pa_nil)))))))), body_val h (Nat.le_of_ble_eq_true rfl) fun c => ?_⟩
    walk_at "go"
    have a0 : atI [dN m.1, dP m.2] (0 : Int) = some (dN m.1) := rfl
    have a1 : atI [dN m.1, dP m.2] (1 : Int) = some (dP m.2) := rfl
    refine sd_ret (ev_andV (a := true) (b := true) (EvD.eq (by walk_at "ev") rfl) fun _ => ev_andV (a := true) (b := true) (EvD.eq (ev_op (ev_cb (ea_cons (by walk_at "ev") ea_nil) cd_lenT) ev_int od_eqI) rfl) fun _ => ev_andV (a := true) (b := true) (ev_call (z := .bool true) (by walk_at "ea") fun vs H Q h => ⟨dN m.1, rfl, h⟩) fun _ => ev_call (z := .bool true) (by walk_at "ea") fun vs H Q h => ⟨dP m.2, rfl, h⟩) rfl

/-- 0 _law_e 1 _law_some 2 _law_found 3 _law_word_here 4 _law_good -/
def sp_law_word (K : PySem.W.Frag) (A : Ad) : Sp := fun vs H Q _ => ∃ (C : Addr) (w : Str), ((C = A.a_TooMany ∧ w = "many")) ∧ Pr K vs H Q [dExc C (.tuple [])] (.str w)
theorem ok_law_word (T : Txt K mg A) : FnOk P w K mg base CX0 1 A.a_law_word A.d_law_word ["_law_e"] (sp_law_word K A) := by
  refine T.f_law_word.ok sc_law_word (fun vs H Q E h => ?_) (fun cdv A' outer s H vs Q E hr h => ?_)
  · obtain ⟨C, w, _, h⟩ := h
    exact h.len
  · obtain ⟨C, w, hc, h⟩ := h
    refine ⟨_, (pss_cons (ps_set (i := 1) sc_law_word.nd rfl (by first | exact Or.inl rfl | exact Or.inr rfl) (pe_lst (pa_cons (pe_tup (pa_cons pe_str (pa_cons (pe_callB (call_isXK K rfl) (by rfl) T.n_isinstance (by decide +kernel) (pa_cons (pv 0) (pa_cons (pe_glob (v := .ref A.a_BadSetting) (by rfl) T.g_BadSetting rfl) pa_nil))) pa_nil))) (pa_cons (pe_tup (pa_cons pe_str (pa_cons (pe_callB (call_isXK K rfl) (by rfl) T.n_isinstance (by decide +kernel) (pa_cons (pv 0) (pa_cons (pe_glob (v := .ref A.a_Unlike) (by rfl) T.g_Unlike rfl) pa_nil))) pa_nil))) (pa_cons (pe_tup (pa_cons pe_str (pa_cons (pe_callB (call_isXK K rfl) (by rfl) T.n_isinstance (by decide +kernel) (pa_cons (pv 0) (pa_cons (pe_glob (v := .ref A.a_BadPegs) (by rfl) T.g_BadPegs rfl) pa_nil))) pa_nil))) pa_nil)))))
      (pss_cons (ps_set (i := 1) sc_law_word.nd rfl (by first | exact Or.inl rfl | exact Or.inr rfl) (pe_op (op_addK K rfl) (pv 1) (pe_lst (pa_cons (pe_tup (pa_cons pe_str (pa_cons (pe_callB (call_isXK K rfl) (by rfl) T.n_isinstance (by decide +kernel) (pa_cons (pv 0) (pa_cons (pe_glob (v := .ref A.a_BadDiscs) (by rfl) T.g_BadDiscs rfl) pa_nil))) pa_nil))) (pa_cons (pe_tup (pa_cons pe_str (pa_cons (pe_callB (call_isXK K rfl) (by rfl) T.n_isinstance (by decide +kernel) (pa_cons (pv 0) (pa_cons (pe_glob (v := .ref A.a_BadCount) (by rfl) T.g_BadCount rfl) pa_nil))) pa_nil))) pa_nil)))))
      (pss_cons (ps_set (i := 1) sc_law_word.nd rfl (by first | exact Or.inl rfl | exact Or.inr rfl) (pe_op (op_addK K rfl) (pv 1) (pe_lst (pa_cons (pe_tup (pa_cons pe_str (pa_cons (pe_callB (call_isXK K rfl) (by rfl) T.n_isinstance (by decide +kernel) (pa_cons (pv 0) (pa_cons (pe_glob (v := .ref A.a_TooMany) (by rfl) T.g_TooMany rfl) pa_nil))) pa_nil))) (pa_cons (pe_tup (pa_cons pe_str (pa_cons (pe_callB (call_isXK K rfl) (by rfl) T.n_isinstance (by decide +kernel) (pa_cons (pv 0) (pa_cons (pe_glob (v := .ref A.a_BadMove) (by rfl) T.g_BadMove rfl) pa_nil))) pa_nil))) pa_nil)))))
      (pss_cons (ps_setLc (i := 2) (own := [("_law_word_here", 3), ("_law_good", 4)]) (g := gTup K 2 (gCons (gName 3) (gCons (gName 4) gNil))) rfl sc_law_word.nd rfl rfl (sw_true rfl rfl rfl (by decide +kernel)) (pi_seqK K rfl (pv 1)) (blkOk_by (own := [("_law_word_here", 3), ("_law_good", 4)]) (N := _) (by kernel_rfl)) (fun _ _ _ _ _ => (pg_tup rfl (pgs_cons (pg_name (i := 3) sc_law_word.nd rfl (by first | exact Or.inl rfl | exact Or.inr rfl)) (pgs_cons (pg_name (i := 4) sc_law_word.nd rfl (by first | exact Or.inl rfl | exact Or.inr rfl)) pgs_nil)))) (fun _ _ _ _ _ => (pts_one (pt_val (pv 4)))) (fun _ _ _ _ _ => (pv 3)))
      (pss_cons (ps_if (pt_cmpR op_isN (pv 0) pe_non (nomark _)) (pss_one (ps_ret pe_str)) pss_nil)
      (pss_one (ps_ret (pe_ifExp (PW.pt (pw_and (pt_cmpR (op_eqK K rfl hr.units) (pe_callB (call_lenK K rfl) (by rfl) T.n_len PySem.boot_len (pa_cons (pv 2) pa_nil)) pe_int (nomark _)) (pw_and1 (pt_val (pe_callB (call_isXK K rfl) (by rfl) T.n_isinstance (by decide +kernel) (pa_cons (pv 0) (pa_cons (pe_bltn (v := .ty "ValueError") (by rfl) T.n_ValueError (by decide +kernel) rfl) pa_nil))))))) (pe_ix (ix_seqK K rfl) (pv 2) pe_int (fun _ _ => rfl)) pe_str)))))))), body_val h (Nat.le_of_ble_eq_true rfl) fun c => ?_⟩
    walk_at "go"
    obtain ⟨b1, b2, b3, b4, b5, b6, b7, TC, k1, k2, k3, k4, k5, k6, k7, kv, hw⟩ : ∃ b1 b2 b3 b4 b5 b6 b7, ExcC K C ∧ PySem.W.kitOne K (.ref C) (.ref A.a_BadSetting) = some b1 ∧ PySem.W.kitOne K (.ref C) (.ref A.a_Unlike) = some b2 ∧ PySem.W.kitOne K (.ref C) (.ref A.a_BadPegs) = some b3
        ∧ PySem.W.kitOne K (.ref C) (.ref A.a_BadDiscs) = some b4 ∧ PySem.W.kitOne K (.ref C) (.ref A.a_BadCount) = some b5 ∧ PySem.W.kitOne K (.ref C) (.ref A.a_TooMany) = some b6 ∧ PySem.W.kitOne K (.ref C) (.ref A.a_BadMove) = some b7 ∧ PySem.W.kitOne K (.ref C) (.type "ValueError") = some true
        ∧ kept [.tuple [.str "setting", .bool b1], .tuple [.str "unlike", .bool b2], .tuple [.str "pegs", .bool b3], .tuple [.str "discs", .bool b4], .tuple [.str "count", .bool b5], .tuple [.str "many", .bool b6], .tuple [.str "move", .bool b7]] (fun d => boolD (snd2 d)) fst2 = [.str w] := by
      rcases hc with ⟨rfl, rfl⟩
      · exact ⟨false, false, false, false, false, true, false, T.e_TooMany, T.i_TooMany_BadSetting, T.i_TooMany_Unlike, T.i_TooMany_BadPegs, T.i_TooMany_BadDiscs, T.i_TooMany_BadCount, T.i_TooMany_TooMany, T.i_TooMany_BadMove, T.i_TooMany_ValueError, rfl⟩
    refine sd_asgNS (ds := [PyData.tuple [.str "setting", .bool b1], .tuple [.str "unlike", .bool b2], .tuple [.str "pegs", .bool b3]]) (ev_lstN (ea_cons (ev_tup (ea_cons ev_str (ea_cons (ev_cb (ea_cons (by walk_at "ev") (ea_cons ev_cls ea_nil)) (cd_isXc TC k1)) ea_nil))) (ea_cons (ev_tup (ea_cons ev_str (ea_cons (ev_cb (ea_cons (by walk_at "ev") (ea_cons ev_cls ea_nil)) (cd_isXc TC k2)) ea_nil))) (ea_cons (ev_tup (ea_cons ev_str (ea_cons (ev_cb (ea_cons (by walk_at "ev") (ea_cons ev_cls ea_nil)) (cd_isXc TC k3)) ea_nil))) ea_nil)))) ?_
    simp only [List.set_cons_zero, List.set_cons_succ]
    refine sd_freeze (i := 1) rfl ?_
    simp only [List.set_cons_zero, List.set_cons_succ]
    refine sd_asgNS (ev_opN (by walk_at "ev") (EvN.val (ev_lstN (ds := [PyData.tuple [.str "discs", .bool b4], .tuple [.str "count", .bool b5]]) (ea_cons (ev_tup (ea_cons ev_str (ea_cons (ev_cb (ea_cons (by walk_at "ev") (ea_cons ev_cls ea_nil)) (cd_isXc TC k4)) ea_nil))) (ea_cons (ev_tup (ea_cons ev_str (ea_cons (ev_cb (ea_cons (by walk_at "ev") (ea_cons ev_cls ea_nil)) (cd_isXc TC k5)) ea_nil))) ea_nil)))) (on_cat (ds := [PyData.tuple [.str "setting", .bool b1], PyData.tuple [.str "unlike", .bool b2], PyData.tuple [.str "pegs", .bool b3]]) (es := [PyData.tuple [.str "discs", .bool b4], PyData.tuple [.str "count", .bool b5]]) (by simp))) ?_
    simp only [List.set_cons_zero, List.set_cons_succ, List.cons_append, List.nil_append]
    refine sd_freeze (i := 1) rfl ?_
    simp only [List.set_cons_zero, List.set_cons_succ]
    refine sd_asgNS (ev_opN (by walk_at "ev") (EvN.val (ev_lstN (ds := [PyData.tuple [.str "many", .bool b6], .tuple [.str "move", .bool b7]]) (ea_cons (ev_tup (ea_cons ev_str (ea_cons (ev_cb (ea_cons (by walk_at "ev") (ea_cons ev_cls ea_nil)) (cd_isXc TC k6)) ea_nil))) (ea_cons (ev_tup (ea_cons ev_str (ea_cons (ev_cb (ea_cons (by walk_at "ev") (ea_cons ev_cls ea_nil)) (cd_isXc TC k7)) ea_nil))) ea_nil)))) (on_cat (ds := [PyData.tuple [.str "setting", .bool b1], PyData.tuple [.str "unlike", .bool b2], PyData.tuple [.str "pegs", .bool b3], PyData.tuple [.str "discs", .bool b4], PyData.tuple [.str "count", .bool b5]]) (es := [PyData.tuple [.str "many", .bool b6], PyData.tuple [.str "move", .bool b7]]) (by simp))) ?_
    simp only [List.set_cons_zero, List.set_cons_succ, List.cons_append, List.nil_append]
    refine sd_freeze (i := 1) rfl ?_
    simp only [List.set_cons_zero, List.set_cons_succ]
    refine sd_asgNS (EvN.eq (ev_lc (Tg := fun d δ => (δ.set 3 (cv (fst2 d))).set 4 (cv (snd2 d))) (js := [3, 4]) (fun d => boolD (snd2 d)) fst2 (iv_L (by walk_at "ev")) (by simp) (fun d hd => ?q0) (by simp) (fun c' d hd => ?q1)) hw) ?_
    case q0 =>
      simp only [List.mem_cons, List.not_mem_nil, or_false] at hd
      rcases hd with rfl | rfl | rfl | rfl | rfl | rfl | rfl <;> exact tg_tup (tgs_cons tg_name (tgs_cons tg_name tgs_nil))
    case q1 =>
      simp only [List.mem_cons, List.not_mem_nil, or_false] at hd
      rcases hd with rfl | rfl | rfl | rfl | rfl | rfl | rfl <;> exact ⟨et_val (ev_var rfl), fun _ => ev_var rfl⟩
    simp only [List.set_cons_zero, List.set_cons_succ]
    refine sd_freeze (i := 2) rfl ?_
    simp only [List.set_cons_zero, List.set_cons_succ]
    refine sd_ifS (a := false) (EvT.eq (a := isNon (dExc C (.tuple []))) (by walk_at "et") rfl) (fun z => by cases z) (fun _ => ?_)
    refine sd_nextS ?_
    refine sd_ret (ev_if (a := true) (EvT.eq (et_and (a := true) (b := true) (EvT.eq (et_test (ev_op (ev_cb (ea_cons (by walk_at "ev") ea_nil) cd_lenL) ev_int od_eqI)) rfl) fun _ => et_val (ev_cb (ea_cons (by walk_at "ev") (ea_cons ev_ty ea_nil)) (cd_isXt TC kv))) rfl) (fun _ => ev_op (by walk_at "ev") ev_int (od_ixL rfl)) (fun z => by cases z)) rfl

/-- 0 _law_one 1 _law_other 2 _law_row 3 _law_move -/
def sp_law_leads (K : PySem.W.Frag) : Sp := fun vs H Q _ => ∃ (s t : List Pg) (ms : List (Nat × Pg)), (s.length ≤ 60 ∧ ms.length ≤ 50000 ∧ Legal s ms t) ∧ Pr K vs H Q [dS s, dS t, dMs ms] (.bool true)
theorem ok_law_leads (T : Txt K mg A) : FnOk P w K mg base CX0 3 A.a_law_leads A.d_law_leads ["_law_one", "_law_other", "_law_row"] (sp_law_leads K) := by
  refine T.f_law_leads.ok sc_law_leads (fun vs H Q E h => ?_) (fun cdv A' outer s H vs Q E hr h => ?_)
  · obtain ⟨s, t, ms, _, h⟩ := h
    exact h.len
  · obtain ⟨s, t, ms, ⟨hs, hl, hL⟩, h⟩ := h
    refine ⟨_, (pss_cons (ps_for PassesOwn.never rfl (pi_seqK K rfl (pv 2)) (pg_name (i := 3) sc_law_leads.nd rfl (by first | exact Or.inl rfl | exact Or.inr rfl)) (pss_cons (ps_if (PW.pt (pw_or (pt_not (pt_val (pe_call (ok_law_is_move T) hr (by rfl) T.g_law_is_move T.f_law_is_move.kp T.b_law_is_move .nil pass0 (pa_cons (pv 3) pa_nil)))) (pw_or1 (pt_cmpR (op_niK K rfl (room65 hr)) (pv 3) (pe_call (ok_law_may T) (hr.mono (by decide)) (by rfl) T.g_law_may T.f_law_may.kp T.b_law_may .nil pass0 (pa_cons (pv 0) pa_nil)) (by rfl))))) (pss_one (ps_ret pe_bl)) pss_nil)
      (pss_one (ps_set (i := 0) sc_law_leads.nd rfl (by first | exact Or.inl rfl | exact Or.inr rfl) (pe_call (ok_law_behind T) (hr.mono (by decide)) (by rfl) T.g_law_behind T.f_law_behind.kp T.b_law_behind .nil pass0 (pa_cons (pv 0) (pa_cons (pv 3) pa_nil)))))))
      (pss_one (ps_ret (pe_cmpR (op_eqK K rfl hr.units) (pv 0) (pv 1) (nomark _))))), body_val h (Nat.le_of_ble_eq_true rfl) fun c => ?_⟩
    walk_at "go"
    refine sd_seq (M := fun δ' => ∃ x3, δ' = [cv (dS t), cv (dS t), cv (dMs ms), x3])
      (sd_for (iv_L (by walk_at "ev")) (fun i δ' => ∃ (y : List Pg) (x3 : Option Cel), y.length = s.length ∧ Legal y (ms.drop i) t ∧ δ' = [cv (dS y), cv (dS t), cv (dMs ms), x3])
        ⟨s, none, rfl, hL, rfl⟩ (fun i d δ' hd hP => tg_name) (fun c' _ _ i d δ' hd hP => ?_) (fun δ' hP => ?_)) (fun δ' hP => ?_)
    · obtain ⟨y, x3, hyl, hy, rfl⟩ := hP
      rw [List.getElem?_map] at hd
      cases hm : ms[i]? with
      | none => rw [hm] at hd; cases hd
      | some m =>
        rw [hm] at hd
        cases hd
        obtain ⟨hil, hie⟩ := List.getElem?_eq_some_iff.mp hm
        rw [List.drop_eq_getElem_cons hil, hie] at hy
        obtain ⟨hm1, hy2⟩ := hy
        have hml := may_len hm1
        have hshp := shp_dM m
        have hshq := shp_ms (may y)
        have hany := any_ms hm1
        have hlen := aft_len y m
        simp only [List.set_cons_zero, List.set_cons_succ]
        refine sd_ifS (a := false) (EvT.eq (et_or (a := false) (b := false) (EvT.eq (et_not (a := true) (et_val (ev_call (by walk_at "ea") fun vs H Q h => ⟨m, trivial, h⟩))) rfl) fun _ => EvT.eq (et_test (ev_op (by walk_at "ev") (ev_call (z := dMs (may y)) (by walk_at "ea") fun vs H Q h => ⟨y, by omega, h.n⟩) (od_niL hshp hshq))) (by rw [hany]; rfl)) rfl) (fun z => by cases z) (fun _ => ?_)
        refine sd_nextS ?_
        refine sd_asg (d := dS (aft y m)) (ev_call (z := dS (y.set m.1 m.2)) (by walk_at "ea") fun vs H Q h => ⟨y, m, ⟨hml, by omega⟩, h⟩) ⟨_, Le.refl _, _, _, by omega, hy2, rfl⟩
    · rw [List.length_map] at hP
      obtain ⟨y, x3, _, hy, rfl⟩ := hP
      rw [List.drop_length] at hy
      have e : y = t := hy
      subst e
      exact ⟨_, rfl⟩
    · obtain ⟨x3, rfl⟩ := hP
      refine sd_ret (ev_op (by walk_at "ev") (by walk_at "ev") od_eqS) ?_
      rw [decide_eq_true rfl]

/-- 0 _law_one 1 _law_other 2 _law_row 3 _law_unlike 4 _law_disc 5 _law_move -/
def sp_law_goes (K : PySem.W.Frag) : Sp := fun vs H Q _ => ∃ (s t : List Pg) (m : Nat) (ms : List (Nat × Pg)), (s.length ≤ 60 ∧ t.length = s.length ∧ gu s.reverse t.reverse = some m ∧ ms.length ≤ 50000) ∧ Pr K vs H Q [dS s, dS t, dMs ms] (dN (goesN m ms).length)
theorem ok_law_goes (T : Txt K mg A) : FnOk P w K mg base CX0 1 A.a_law_goes A.d_law_goes ["_law_one", "_law_other", "_law_row"] (sp_law_goes K) := by
  refine T.f_law_goes.ok sc_law_goes (fun vs H Q E h => ?_) (fun cdv A' outer s H vs Q E hr h => ?_)
  · obtain ⟨s, t, m, ms, _, h⟩ := h
    exact h.len
  · obtain ⟨s, t, m, ms, ⟨hs, ht, hg, hl⟩, h⟩ := h
    refine ⟨_, (pss_cons (ps_set (i := 3) sc_law_goes.nd rfl (by first | exact Or.inl rfl | exact Or.inr rfl) (pe_lc (own := [("_law_disc", 4)]) (g := gName 4) rfl sc_law_goes.nd (pi_range1 (by rfl) T.n_range (pa_cons (pe_callB (call_lenK K rfl) (by rfl) T.n_len PySem.boot_len (pa_cons (pv 0) pa_nil)) pa_nil)) (blkOk_by (own := [("_law_disc", 4)]) (N := _) (by kernel_rfl)) (fun _ _ _ _ _ => (pg_name (i := 4) sc_law_goes.nd rfl (by first | exact Or.inl rfl | exact Or.inr rfl))) (fun _ _ _ _ _ => (pts_one (pt_cmpR (op_neK K rfl hr.units) (pe_ix (ix_seqK K rfl) (pv 0) (pv 4) (fun _ _ => rfl)) (pe_ix (ix_seqK K rfl) (pv 1) (pv 4) (fun _ _ => rfl)) (nomark _)))) (fun _ _ _ _ _ => (pv 4))))
      (pss_one (ps_ret (pe_callB (call_lenK K rfl) (by rfl) T.n_len PySem.boot_len (pa_cons (pe_lc (own := [("_law_move", 5)]) (g := gName 5) rfl sc_law_goes.nd (pi_seqK K rfl (pv 2)) (blkOk_by (own := [("_law_move", 5)]) (N := _) (by kernel_rfl)) (fun _ _ _ _ _ => (pg_name (i := 5) sc_law_goes.nd rfl (by first | exact Or.inl rfl | exact Or.inr rfl))) (fun _ _ _ _ _ => (pts_one (pt_cmpR (op_eqK K rfl hr.units) (pe_ix (ix_seqK K rfl) (pv 5) pe_int (fun _ _ => rfl)) (pe_ix (ix_seqK K rfl) (pv 3) (pe_un un_neg pe_int) (fun _ _ => rfl)) (nomark _)))) (fun _ _ _ _ _ => (pv 5))) pa_nil))))), body_val h (Nat.le_of_ble_eq_true rfl) fun c => ?_⟩
    walk_at "go"
    have el : (s.map dP).length = s.length := List.length_map ..
    have hun := (unl_some ht.symm hg).2
    have hlast := at_last hun
    refine sd_asgNS (EvN.eq (es := (unl s t).map dN) (ev_lc (Tg := fun d δ => δ.set 4 (cv d)) (js := [4]) (fU s t) id (iv_rng1 (n := ((s.map dP).length : Int)) (by walk_at "ea") (by omega) (by omega)) (by rw [dRange_len]; omega) (fun d _ => tg_name) (by simp) (fun c' d hd => ?q1)) ?q2) ?q3
    case q1 =>
      obtain ⟨k, hk⟩ := List.getElem?_of_mem hd
      obtain ⟨hk3, rfl⟩ := dRange_get hk
      have hk1 : k < s.length := by omega
      have hk2 : k < t.length := by omega
      have a1 := at_pg hk1
      have a2 := at_pg hk2
      rw [Int.zero_add]
      show EvT K c' _ [cv (dS s), cv (dS t), cv (dMs ms), none, cv (dN k), none] (fU s t (dN k)) ∧ (_ → EvD K c' _ [cv (dS s), cv (dS t), cv (dMs ms), none, cv (dN k), none] (dN k))
      refine ⟨EvT.eq (et_test (ev_op (by walk_at "ev") (by walk_at "ev") od_neI)) ?_, fun _ => by walk_at "ev"⟩
      show _ = !decide (s[((k : Nat) : Int).toNat]? = t[((k : Nat) : Int).toNat]?)
      rw [Int.toNat_natCast, List.getElem?_eq_getElem hk1, List.getElem?_eq_getElem hk2]
      congr 1
      by_cases e : s[k] = t[k]
      · rw [decide_eq_true (by rw [e]), decide_eq_true (by rw [e])]
      · rw [decide_eq_false (fun z => e (pg_ne.mp z)), decide_eq_false (fun z => e (Option.some.inj z))]
    case q2 => rw [el, Int.toNat_natCast, kept_unl]
    simp only [List.set_cons_zero, List.set_cons_succ]
    refine sd_freeze (i := 3) rfl ?_
    simp only [List.set_cons_zero, List.set_cons_succ]
    refine sd_ret (ev_cb (ea_cons (EvN.val (EvN.eq (es := (goesN m ms).map dM) (ev_lc (Tg := fun d δ => δ.set 5 (cv d)) (js := [5]) (fun d => decide ((mvD d).1 = m)) id (iv_L (by walk_at "ev")) (by rw [List.length_map]; omega) (fun d _ => tg_name) (by simp) (fun c' d hd => ?r1)) (kept_goes m ms))) ea_nil) cd_lenL) (by rw [List.length_map])
    case r1 =>
      obtain ⟨x, hx, rfl⟩ := List.mem_map.mp hd
      have a0 : atI [dN x.1, dP x.2] (0 : Int) = some (dN x.1) := rfl
      rw [mvD_dM]
      show EvT K c' _ [cv (dS s), cv (dS t), cv (dMs ms), cv (.list ((unl s t).map dN)), none, cv (dM x)] _ ∧ (_ → EvD K c' _ [cv (dS s), cv (dS t), cv (dMs ms), cv (.list ((unl s t).map dN)), none, cv (dM x)] (dM x))
      refine ⟨EvT.eq (et_test (ev_op (ev_op (by walk_at "ev") ev_int (od_ixT a0)) (ev_op (by walk_at "ev") (by walk_at "ev") (od_ixL hlast)) od_eqI)) ?_, fun _ => by walk_at "ev"⟩
      by_cases e : x.1 = m
      · rw [decide_eq_true e, decide_eq_true (by omega)]
      · rw [decide_eq_false e, decide_eq_false (by omega)]

/-- 0 _law_deed 1 _law_one 2 _law_other 3 _law_error 4 _law_e -/
def sp_law_refused (K : PySem.W.Frag) : Sp := fun vs H Q _ => ∃ (k : Int) (s t : List Pg), (s.length ≤ 60 ∧ t.length = s.length ∧ 3000 < Peg.Fr s t ∧ (k = 0 ∨ k = 1)) ∧ Pr K vs H Q [.int k, dS s, dS t] (.bool true)
theorem ok_law_refused (T : Txt K mg A) : FnOk P w K mg base CX0 9 A.a_law_refused A.d_law_refused ["_law_deed", "_law_one", "_law_other"] (sp_law_refused K) := by
  refine T.f_law_refused.ok sc_law_refused (fun vs H Q E h => ?_) (fun cdv A' outer s H vs Q E hr h => ?_)
  · obtain ⟨k, s, t, _, h⟩ := h
    exact h.len
  · obtain ⟨k, s, t, ⟨hs, ht, hf, hk⟩, h⟩ := h
    refine ⟨_, (pss_cons (ps_set (i := 3) sc_law_refused.nd rfl (by first | exact Or.inl rfl | exact Or.inr rfl) pe_non)
      (pss_cons (ps_tryT (i := 4) rfl rfl sc_law_refused.nd rfl rfl ⟨by rfl, by decide, Or.inl T.g_PegError⟩ (fun W pn xe tk _ => (pss_one (ps_if (pt_cmpR (op_eqK K rfl hr.units) (pv 0) pe_int (nomark _)) (pss_one (ps_expr (pe_callS (ok_ways T) (hr.mono (by decide)) (by rfl) T.g_ways T.f_ways.kp T.b_ways (fun σ => passAt tk σ) (pa_cons (pv 1) (pa_cons (pv 2) pa_nil))))) (pss_one (ps_expr (pe_callS (ok_way T) hr (by rfl) T.g_way T.f_way.kp T.b_way (fun σ => passAt tk σ) (pa_cons (pv 1) (pa_cons (pv 2) pa_nil)))))))) (fun a pn => (pss_one (ps_set (i := 3) sc_law_refused.nd rfl (by first | exact Or.inl rfl | exact Or.inr rfl) (pv 4)))))
      (pss_one (ps_ret (pe_cmpR (op_eqK K rfl hr.units) (pe_call (ok_law_word T) (hr.mono (by decide)) (by rfl) T.g_law_word T.f_law_word.kp T.b_law_word .nil pass0 (pa_cons (pv 3) pa_nil)) pe_str (nomark _)))))), body_val h (Nat.le_of_ble_eq_true rfl) fun c => ?_⟩
    walk_at "go"
    have okM : PyData.strOk ("many" : Str) = true := by decide +kernel
    walk_at "as"
    refine sd_seq (M := fun δ' => δ' = [cv (.int k), cv (dS s), cv (dS t), cv (dExc A.a_TooMany (.tuple [])), none])
      (sd_tryT (tb := fun W => tIfS (tTest (tOp (rEqD K) (tVar 0) (tC (.int 0)))) (tDrop (tCallS (sp_ways K A) (WE W) (tCons (tVar 1) (tCons (tVar 2) tNil)))) (tDrop (tCallS (sp_way K A) (WE W) (tCons (tVar 1) (tCons (tVar 2) tNil))))) (ts := tAsg (tVar 4) (gName 3)) (fun C f δ' => C = A.a_TooMany ∧ f = .tuple [] ∧ δ' = [cv (.int k), cv (dS s), cv (dS t), cv .none, none]) (fun W => ?b0) (fun C f δ' hx => ?b1) (fun C f δ' hx => ?b2)) (fun δ' hP => ?b3)
    case b0 =>
      rcases hk with rfl | rfl
      · exact sd_if (a := true) (EvT.eq (et_test (ev_op (by walk_at "ev") ev_int od_eqI)) rfl) (fun _ => sd_dropX (evx_callS rfl (by walk_at "ea") fun vs H Q E δ' h => ⟨s, t, .exc A.a_TooMany (.tuple []) [], ⟨hs, ht, by rw [if_pos hf]⟩, h⟩) ⟨rfl, rfl, rfl⟩) (fun z => by cases z)
      · exact sd_if (a := false) (EvT.eq (et_test (ev_op (by walk_at "ev") ev_int od_eqI)) rfl) (fun z => by cases z) (fun _ => sd_dropX (evx_callS rfl (by walk_at "ea") fun vs H Q E δ' h => ⟨s, t, .exc A.a_TooMany (.tuple []) [], ⟨hs, ht, .inl ⟨hf, rfl⟩⟩, h⟩) ⟨rfl, rfl, rfl⟩)
    case b1 =>
      obtain ⟨rfl, _, _⟩ := hx
      exact T.p_TooMany
    case b2 =>
      obtain ⟨rfl, rfl, rfl⟩ := hx
      exact sd_asg (d := dExc A.a_TooMany (.tuple [])) (by walk_at "ev") rfl
    case b3 =>
      subst hP
      refine sd_ret (ev_op (ev_call (z := .str "many") (by walk_at "ea") fun vs H Q h => ⟨_, _, ⟨rfl, rfl⟩, h⟩) ev_str (od_eq (shp_str okM) (shp_str okM))) ?_
      rw [eqv_str]

/-- 0 _law_one 1 _law_other 2 _law_long 3 _law_found 4 _law_row 5 _law_told 6 _law_due 7 _law_kept -/
def sp_law_right (K : PySem.W.Frag) : Sp := fun vs H Q _ => ∃ (s t : List Pg), (s.length ≤ 60 ∧ t.length = s.length) ∧ Pr K vs H Q [dS s, dS t] (.bool true)
theorem ok_law_right (T : Txt K mg A) : FnOk P w K mg base CX0 10 A.a_law_right A.d_law_right ["_law_one", "_law_other"] (sp_law_right K) := by
  refine T.f_law_right.ok sc_law_right (fun vs H Q E h => ?_) (fun cdv A' outer s H vs Q E hr h => ?_)
  · obtain ⟨s, t, _, h⟩ := h
    exact h.len
  · obtain ⟨s, t, ⟨hs, ht⟩, h⟩ := h
    refine ⟨_, (pss_cons (ps_set (i := 2) sc_law_right.nd rfl (by first | exact Or.inl rfl | exact Or.inr rfl) (pe_call (ok_far T) (hr.mono (by decide)) (by rfl) T.g_far T.f_far.kp T.b_far .nil pass0 (pa_cons (pv 0) (pa_cons (pv 1) pa_nil))))
      (pss_cons (ps_if (pt_cmpR op_gt (pv 2) pe_int (nomark _)) (pss_one (ps_ret (pe_and (pe_call (ok_law_refused T) hr (by rfl) T.g_law_refused T.f_law_refused.kp T.b_law_refused .nil pass0 (pa_cons pe_int (pa_cons (pv 0) (pa_cons (pv 1) pa_nil)))) (pe_one (pe_call (ok_law_refused T) hr (by rfl) T.g_law_refused T.f_law_refused.kp T.b_law_refused .nil pass0 (pa_cons pe_int (pa_cons (pv 0) (pa_cons (pv 1) pa_nil)))))))) pss_nil)
      (pss_cons (ps_set (i := 3) sc_law_right.nd rfl (by first | exact Or.inl rfl | exact Or.inr rfl) (pe_call (ok_ways T) (hr.mono (by decide)) (by rfl) T.g_ways T.f_ways.kp T.b_ways .nil passL (pa_cons (pv 0) (pa_cons (pv 1) pa_nil))))
      (pss_cons (ps_if (PW.pt (pw_or (pt_not (pt_val (pe_callB (call_isiK' K rfl) (by rfl) T.n_isinstance (by decide +kernel) (pa_cons (pv 3) (pa_cons (pe_bltn (v := .ty "list") (by rfl) T.n_list (by decide +kernel) rfl) pa_nil))))) (pw_or1 (pt_cmpR (op_neK K rfl hr.units) (pe_callB (call_lenK K rfl) (by rfl) T.n_len PySem.boot_len (pa_cons (pv 3) pa_nil)) (pe_call (ok_many_ways T) (hr.mono (by decide)) (by rfl) T.g_many_ways T.f_many_ways.kp T.b_many_ways .nil pass0 (pa_cons (pv 0) (pa_cons (pv 1) pa_nil))) (nomark _))))) (pss_one (ps_ret pe_bl)) pss_nil)
      (pss_cons (ps_for PassesOwn.never rfl (pi_seqK K rfl (pv 3)) (pg_name (i := 4) sc_law_right.nd rfl (by first | exact Or.inl rfl | exact Or.inr rfl)) (pss_one (ps_if (PW.pt (pw_or (pt_not (pt_val (pe_callB (call_isiK' K rfl) (by rfl) T.n_isinstance (by decide +kernel) (pa_cons (pv 4) (pa_cons (pe_bltn (v := .ty "list") (by rfl) T.n_list (by decide +kernel) rfl) pa_nil))))) (pw_or (pt_cmpR (op_neK K rfl hr.units) (pe_callB (call_lenK K rfl) (by rfl) T.n_len PySem.boot_len (pa_cons (pv 4) pa_nil)) (pv 2) (nomark _)) (pw_or1 (pt_not (pt_val (pe_call (ok_law_leads T) (hr.mono (by decide)) (by rfl) T.g_law_leads T.f_law_leads.kp T.b_law_leads .nil pass0 (pa_cons (pv 0) (pa_cons (pv 1) (pa_cons (pv 4) pa_nil)))))))))) (pss_one (ps_ret pe_bl)) pss_nil)))
      (pss_cons (ps_if (pt_cmpR (op_eqK K rfl hr.units) (pv 0) (pv 1) (nomark _)) (pss_one (ps_ret (pe_and (pe_cmpR (op_eqK K rfl hr.units) (pv 3) (pe_lst (pa_cons (pe_lst pa_nil) pa_nil)) (nomark _)) (pe_and (pe_cmpR (op_eqK K rfl hr.units) (pe_call (ok_way T) (hr.mono (by decide)) (by rfl) T.g_way T.f_way.kp T.b_way .nil passL (pa_cons (pv 0) (pa_cons (pv 1) pa_nil))) (pe_lst pa_nil) (nomark _)) (pe_one (pe_cmpR op_isN (pe_call (ok_next_move T) (hr.mono (by decide)) (by rfl) T.g_next_move T.f_next_move.kp T.b_next_move .nil pass0 (pa_cons (pv 0) (pa_cons (pv 1) pa_nil))) pe_non (nomark _))))))) pss_nil)
      (pss_cons (ps_set (i := 5) sc_law_right.nd rfl (by first | exact Or.inl rfl | exact Or.inr rfl) (pe_call (ok_choices T) (hr.mono (by decide)) (by rfl) T.g_choices T.f_choices.kp T.b_choices .nil pass0 (pa_cons (pv 0) (pa_cons (pv 1) pa_nil))))
      (pss_cons (ps_set (i := 6) sc_law_right.nd rfl (by first | exact Or.inl rfl | exact Or.inr rfl) (pe_op (op_addK K rfl) (pe_op (op_mulK K rfl) (pe_lst (pa_cons pe_int pa_nil)) (pe_callTy call_int1 (by rfl) T.n_int (by decide +kernel) (pa_cons (pe_cmpR op_le (pe_ix (ix_seqK K rfl) (pv 5) pe_int (fun _ _ => rfl)) (pe_ix (ix_seqK K rfl) (pv 5) pe_int (fun _ _ => rfl)) (nomark _)) pa_nil))) (pe_op (op_mulK K rfl) (pe_lst (pa_cons pe_int pa_nil)) (pe_callTy call_int1 (by rfl) T.n_int (by decide +kernel) (pa_cons (pe_cmpR op_le (pe_ix (ix_seqK K rfl) (pv 5) pe_int (fun _ _ => rfl)) (pe_ix (ix_seqK K rfl) (pv 5) pe_int (fun _ _ => rfl)) (nomark _)) pa_nil)))))
      (pss_cons (ps_if (PW.pt (pw_or (pt_cmpR (op_neK K rfl hr.units) (pe_lc (own := [("_law_row", 4)]) (g := gName 4) rfl sc_law_right.nd (pi_seqK K rfl (pv 3)) (blkOk_by (own := [("_law_row", 4)]) (N := _) (by kernel_rfl)) (fun _ _ _ _ _ => (pg_name (i := 4) sc_law_right.nd rfl (by first | exact Or.inl rfl | exact Or.inr rfl))) (fun _ _ _ _ _ => pts_nil) (fun _ _ _ _ _ => (pe_call (ok_law_goes T) (hr.mono (by decide)) (by rfl) T.g_law_goes T.f_law_goes.kp T.b_law_goes .nil pass0 (pa_cons (pv 0) (pa_cons (pv 1) (pa_cons (pv 4) pa_nil)))))) (pv 6) (nomark _)) (pw_or1 (pt_cmpR (op_neK K rfl hr.units) (pe_call (ok_next_move T) (hr.mono (by decide)) (by rfl) T.g_next_move T.f_next_move.kp T.b_next_move .nil pass0 (pa_cons (pv 0) (pa_cons (pv 1) pa_nil))) (pe_ix (ix_seqK K rfl) (pe_ix (ix_seqK K rfl) (pv 3) pe_int (fun _ _ => rfl)) pe_int (fun _ _ => rfl)) (nomark _))))) (pss_one (ps_ret pe_bl)) pss_nil)
      (pss_cons (ps_setLc (i := 7) (own := [("_law_row", 4)]) (g := gName 4) rfl sc_law_right.nd rfl rfl (sw_true rfl rfl rfl (by decide +kernel)) (pi_seqK K rfl (pv 3)) (blkOk_by (own := [("_law_row", 4)]) (N := _) (by kernel_rfl)) (fun _ _ _ _ _ => (pg_name (i := 4) sc_law_right.nd rfl (by first | exact Or.inl rfl | exact Or.inr rfl))) (fun _ _ _ _ _ => pts_nil) (fun _ _ _ _ _ => (pe_callTy (call_listK K rfl) (by rfl) T.n_list (by decide +kernel) (pa_cons (pv 4) pa_nil))))
      (pss_cons (ps_expr (pe_bm PySem.F.plainAttrs_list PySem.F.slot_list_append PySem.F.type_list_append mt_append (pe_ix (ix_seqK K rfl) (pv 3) pe_int (fun _ _ => rfl)) (pa_cons pe_int pa_nil)))
      (pss_cons (ps_expr (pe_bm PySem.F.plainAttrs_list PySem.F.slot_list_append PySem.F.type_list_append mt_append (pv 3) (pa_cons pe_int pa_nil)))
      (pss_one (ps_ret (pe_and (pe_cmpR (op_eqK K rfl hr.units) (pe_call (ok_ways T) (hr.mono (by decide)) (by rfl) T.g_ways T.f_ways.kp T.b_ways .nil passL (pa_cons (pv 0) (pa_cons (pv 1) pa_nil))) (pv 7) (nomark _)) (pe_one (pe_cmpR (op_eqK K rfl hr.units) (pe_call (ok_way T) (hr.mono (by decide)) (by rfl) T.g_way T.f_way.kp T.b_way .nil passL (pa_cons (pv 0) (pa_cons (pv 1) pa_nil))) (pe_ix (ix_seqK K rfl) (pv 7) pe_int (fun _ _ => rfl)) (nomark _)))))))))))))))))), body_val h (Nat.le_of_ble_eq_true rfl) fun c => ?_⟩
    walk_at "go"
    refine sd_asgS (d := dN (Peg.Fr s t)) (ev_call (by walk_at "ea") fun vs H Q h => ⟨s, t, ⟨hs, ht⟩, h⟩) ?_
    simp only [List.set_cons_zero, List.set_cons_succ]
    by_cases hf : 3000 < Peg.Fr s t
    · refine sd_ifS (a := true) (EvT.eq (et_test (ev_op (by walk_at "ev") ev_int od_gt)) (decide_eq_true (by omega))) (fun _ => ?_) (fun z => by cases z)
      exact sd_retS (sd_ret (ev_andV (a := true) (b := true) (ev_call (z := .bool true) (ds := [.int 0, dS s, dS t]) (ea_cons ev_int (by walk_at "ea")) fun vs H Q h => ⟨0, s, t, ⟨hs, ht, hf, .inl rfl⟩, h⟩) fun _ => ev_call (z := .bool true) (ds := [.int 1, dS s, dS t]) (ea_cons ev_int (by walk_at "ea")) fun vs H Q h => ⟨1, s, t, ⟨hs, ht, hf, .inr rfl⟩, h⟩) rfl)
    refine sd_ifS (a := false) (EvT.eq (et_test (ev_op (by walk_at "ev") ev_int od_gt)) (decide_eq_false (by omega))) (fun z => by cases z) (fun _ => ?_)
    refine sd_nextS ?_
    obtain ⟨hg1, hg2⟩ := ways_good (s := s) (t := t) ht
    have hW2 := waysF_len s t
    have hWl := waysF_lens (s := s) (t := t) ht (by omega)
    obtain ⟨dss, hdss⟩ : ∃ dss, dss = (waysF s t).map fun w => w.map dM := ⟨_, rfl⟩
    have hdl : dss.length = (waysF s t).length := by rw [hdss, List.length_map]
    have hdr : dss.map PyData.list = (waysF s t).map dMs := by rw [hdss, List.map_map]; rfl
    have hshr : SeqAt.shaped (dTree dss) = true := by
      show SeqAt.shaped (.list (dss.map PyData.list)) = true
      rw [hdr]
      exact shp_rows _
    have heqr : PyData.eqv (dTree dss) (dTree dss) = true := by
      show PyData.eqv (.list (dss.map PyData.list)) (.list (dss.map PyData.list)) = true
      rw [hdr]
      exact eqv_rows _
    refine sd_asgTree (i := 3) (dss := dss) (ds := [dS s, dS t]) (by walk_at "ea") (fun vs H Q h => ⟨s, t, .gen (treeF K ((waysF s t).map fun w => w.map dM)), ⟨hs, ht, by rw [if_neg hf]⟩, by rw [← hdss]; exact h⟩) (Nat.le_of_ble_eq_true rfl) (fun i es h => ?n0) ?_
    case n0 =>
      match i, h with
      | 0, h => cases h
      | 1, h => cases h
      | 2, h => cases h
      | 3, h => cases h
      | 4, h => cases h
      | 5, h => cases h
      | 6, h => cases h
      | 7, h => cases h
      | i + 8, h => cases h
    simp only [List.set_cons_zero, List.set_cons_succ]
    refine sdt_ifS (b := false) (fun c2 => ?t1) (fun z => by cases z) (fun _ => ?_)
    case t1 =>
      simp only [List.set_cons_zero, List.set_cons_succ]
      refine EvT.eq (et_or (a := false) (b := false) (EvT.eq (et_not (a := true) (EvT.eq (a := isLstB (dTree dss)) (et_val (by walk_at "ev")) rfl)) rfl) fun _ => EvT.eq (et_test (ev_op (ev_cb (ea_cons (by walk_at "ev") ea_nil) cd_lenL) (ev_call (z := dN (Mn s t)) (by walk_at "ea") fun vs H Q h => ⟨s, t, ⟨hs, ht⟩, h⟩) od_neI)) ?_) rfl
      rw [List.length_map, hdl, hg2, decide_eq_true rfl]
      rfl
    refine sdt_nextS ?_
    refine sdt_forS (by decide) (Nat.le_of_ble_eq_true rfl) (fun row hrow c2 => ?t2) ?_
    case t2 =>
      rw [hdss] at hrow
      obtain ⟨w, hw, rfl⟩ := List.mem_map.mp hrow
      obtain ⟨q1, q2⟩ := hg1 w hw
      have q3 := hWl w hw
      simp only [List.set_cons_zero, List.set_cons_succ]
      refine EvT.eq (et_or (a := false) (b := false) (EvT.eq (et_not (a := true) (EvT.eq (a := isLstB (dMs w)) (et_val (by walk_at "ev")) rfl)) rfl) fun _ => et_or (a := false) (b := false) (EvT.eq (et_test (ev_op (ev_cb (ea_cons (by walk_at "ev") ea_nil) cd_lenL) (by walk_at "ev") od_neI)) ?_) fun _ => EvT.eq (et_not (a := true) (et_val (ev_call (z := .bool true) (ds := [dS s, dS t, dMs w]) (by walk_at "ea") fun vs H Q h => ⟨s, t, w, ⟨hs, q3, q1⟩, h⟩))) rfl) rfl
      rw [List.length_map, q2, decide_eq_true rfl]
      rfl
    simp only [List.set_cons_zero, List.set_cons_succ]
    by_cases hst : s = t
    · refine sdt_ifS (b := true) (fun c2 => ?t3) (fun _ => ?_) (fun z => by cases z)
      case t3 =>
        simp only [List.set_cons_zero, List.set_cons_succ]
        exact EvT.eq (et_test (ev_op (by walk_at "ev") (by walk_at "ev") od_eqS)) (decide_eq_true hst)
      have hW : waysF s t = [[]] := by
        rw [hst, waysF, gu_self]
      have hd1 : dss = [[]] := by rw [hdss, hW]; rfl
      subst hd1
      refine sdt_retS (sdt_ret (d := .bool true) rfl (fun c2 => ?_) rfl)
      simp only [List.set_cons_zero, List.set_cons_succ]
      have hnm : nextM s.reverse t.reverse = none := by
        rw [hst]
        exact gu_nextN (gu_self _)
      refine ev_andV (a := true) (b := true) (EvD.eq (ev_op (by walk_at "ev") (EvN.val (ev_lstN (ds := [.list []]) (ea_cons (EvN.val (ev_lstN ea_nil)) ea_nil))) (od_eq hshr hshr)) (by show PyData.bool (PyData.eqv (dTree [[]]) (dTree [[]])) = _; rw [heqr])) fun _ => ev_andV (a := true) (b := true) (EvD.eq (ev_op (ev_call (z := dMs []) (by walk_at "ea") fun vs H Q h => ⟨s, t, .val (dMs []), ⟨hs, ht, .inr ⟨hf, [], [], hW, rfl⟩⟩, h⟩) (EvN.val (ev_lstN ea_nil)) (od_eq rfl rfl)) (by show PyData.bool (PyData.eqv (.list []) (.list [])) = _; rw [eqv_nil]; rfl)) fun _ => EvD.eq (ev_op (ev_call (z := dMo (nextM s.reverse t.reverse)) (by walk_at "ea") fun vs H Q h => ⟨s, t, ⟨hs, ht⟩, h⟩) ev_non od_isN) (by rw [hnm]; rfl)
    refine sdt_ifS (b := false) (fun c2 => ?t4) (fun z => by cases z) (fun _ => ?_)
    case t4 =>
      simp only [List.set_cons_zero, List.set_cons_succ]
      exact EvT.eq (et_test (ev_op (by walk_at "ev") (by walk_at "ev") od_eqS)) (decide_eq_false hst)
    refine sdt_nextS ?_
    obtain ⟨m, hm⟩ : ∃ m, gu s.reverse t.reverse = some m := by
      cases hg : gu s.reverse t.reverse with
      | none => exact absurd (gu_eq ht hg) hst
      | some m => exact ⟨m, rfl⟩
    obtain ⟨w0, r0, hw0, x0, hx0, hx1⟩ := ways_head ht hst
    have hgo := ways_goes ht hm
    have hcho : dCho s.reverse t.reverse = .tuple [dN m, dN (once s.reverse t.reverse), dN (twice s.reverse t.reverse)] := by
      rw [dCho, hm]
    refine sdt_asgS (d := .tuple [dN m, dN (once s.reverse t.reverse), dN (twice s.reverse t.reverse)]) (fun c2 => EvD.eq (ev_call (z := dCho s.reverse t.reverse) (by walk_at "ea") fun vs H Q h => ⟨s, t, ⟨hs, ht⟩, h⟩) hcho) (by decide) ?_
    simp only [List.set_cons_zero, List.set_cons_succ]
    generalize once s.reverse t.reverse = on at hgo
    generalize twice s.reverse t.reverse = tw at hgo
    have a1 : atI [dN m, dN on, dN tw] (1 : Int) = some (dN on) := rfl
    have a2 : atI [dN m, dN on, dN tw] (2 : Int) = some (dN tw) := rfl
    refine sdt_asgS (d := .list (((if on ≤ tw then [1] else []) ++ (if tw ≤ on then [2] else [])).map dN)) (fun c2 => ?due) (by decide) ?_
    case due =>
      have rep : ∀ (k : Nat) (b : Bool), (List.replicate ((if b = true then (1 : Int) else 0)).toNat [dN k]).flatten = (if b = true then [k] else []).map dN := fun k b => by cases b <;> rfl
      refine EvN.val (EvN.eq (ev_opN (EvN.val (EvN.eq (ev_opN (EvN.val (ev_lstN (ds := [dN 1]) (ea_cons ev_int ea_nil))) (ev_cb (ea_cons (ev_op (ev_op (by walk_at "ev") ev_int (od_ixT a1)) (ev_op (by walk_at "ev") ev_int (od_ixT a2)) od_le) ea_nil) cd_intB) (on_rep (by split <;> omega) (by split <;> omega) (by split <;> simp))) (rep 1 _))) (EvN.val (EvN.eq (ev_opN (EvN.val (ev_lstN (ds := [dN 2]) (ea_cons ev_int ea_nil))) (ev_cb (ea_cons (ev_op (ev_op (by walk_at "ev") ev_int (od_ixT a2)) (ev_op (by walk_at "ev") ev_int (od_ixT a1)) od_le) ea_nil) cd_intB) (on_rep (by split <;> omega) (by split <;> omega) (by split <;> simp))) (rep 2 _))) (on_cat (by rw [List.length_map, List.length_map]; split <;> split <;> simp))) ?_)
      rw [← List.map_append]
      congr 1
      by_cases e1 : on ≤ tw <;> by_cases e2 : tw ≤ on <;> simp [e1, e2, Int.ofNat_le]
    simp only [List.set_cons_zero, List.set_cons_succ]
    have hlen0 : ∃ y ys, w0 = y :: ys ∧ x0 = y := by
      cases w0 with
      | nil => cases hx0
      | cons y ys => exact ⟨y, ys, rfl, (Option.some.inj hx0).symm⟩
    obtain ⟨y, ys, rfl, rfl⟩ := hlen0
    have hd0 : dss = ((x0 :: ys).map dM) :: (r0.map fun w => w.map dM) := by rw [hdss, hw0]; rfl
    refine sdt_ifS (b := false) (fun c2 => ?t5) (fun z => by cases z) (fun _ => ?_)
    case t5 =>
      simp only [List.set_cons_zero, List.set_cons_succ]
      have b0 : atI (dss.map PyData.list) (0 : Int) = some (dMs (x0 :: ys)) := by
        rw [hd0]
        show atI _ ((0 : Nat) : Int) = _
        exact atI_nat rfl
      have b1 : atI ((x0 :: ys).map dM) (0 : Int) = some (dM x0) := by
        show atI _ ((0 : Nat) : Int) = _
        exact atI_nat rfl
      have hshd := shp_dNs ((if on ≤ tw then [1] else []) ++ (if tw ≤ on then [2] else []))
      have heqd : PyData.eqv (.list (((if on ≤ tw then [1] else []) ++ (if tw ≤ on then [2] else [])).map dN)) (.list (((if on ≤ tw then [1] else []) ++ (if tw ≤ on then [2] else [])).map dN)) = true := eqv_dNs _
      have hkr := kept_rowM (waysF s t) fun w => dN (goesN m w).length
      have hgm : (waysF s t).map (fun w => dN (goesN m w).length) = ((if on ≤ tw then [1] else []) ++ (if tw ≤ on then [2] else [])).map dN := by
        rw [← hgo, List.map_map]
        rfl
      refine EvT.eq (et_or (a := false) (b := false) (EvT.eq (et_test (ev_op (EvN.val (EvN.eq (ev_lc (ds := dss.map PyData.list) (Tg := fun d δ => δ.set 4 (cv d)) (js := [4]) (fun _ => true) (fun d => dN (goesN m (rowM d)).length) (iv_L (by walk_at "ev")) (by rw [List.length_map]; omega) (fun d _ => tg_name) (by simp) (fun c3 d hd => ⟨et_yes, fun _ => ?g1⟩)) (by rw [hdr, hkr, hgm]))) (by walk_at "ev") (od_ne hshd hshd))) (by rw [heqd]; rfl)) fun _ => EvT.eq (et_test (ev_op (ev_call (z := dMo (nextM s.reverse t.reverse)) (by walk_at "ea") fun vs H Q h => ⟨s, t, ⟨hs, ht⟩, h⟩) (ev_op (ev_op (by walk_at "ev") ev_int (od_ixL b0)) ev_int (od_ixL b1)) (od_ne (shp_Mo _) (shp_dM x0)))) ?g2) rfl
      case g1 =>
        rw [hdr] at hd
        obtain ⟨w, hw, rfl⟩ := List.mem_map.mp hd
        have q3 := hWl w hw
        rw [rowM_dMs]
        exact ev_call (ds := [dS s, dS t, dMs w]) (ea_cons (ev_var rfl) (ea_cons (ev_var rfl) (ea_cons (ev_var rfl) ea_nil))) fun vs H Q h => ⟨s, t, m, w, ⟨hs, ht, hm, q3⟩, h⟩
      case g2 =>
        rw [hx1]
        show (!PyData.eqv (dM x0) (dM x0)) = false
        rw [eqv_dM, decide_eq_true rfl]
        rfl
    refine sdt_nextS ?_
    have hrl : ((x0 :: ys).map dM).length < 100000 := by
      have := hWl (x0 :: ys) (by rw [hw0]; exact List.mem_cons_self)
      rw [List.length_map]
      omega
    refine sdt_keptS (by decide) (Nat.le_of_ble_eq_true rfl) (by decide) (by omega) ?_
    simp only [List.set_cons_zero, List.set_cons_succ]
    refine sdt_app2S hd0 hrl (by omega) ?_
    have b0 : atI (dss.map PyData.list) (0 : Int) = some (dMs (x0 :: ys)) := by
      rw [hd0]
      show atI _ ((0 : Nat) : Int) = _
      exact atI_nat rfl
    have hshw := shp_ms (x0 :: ys)
    refine sd_ret (ev_andV (a := true) (b := true) (EvD.eq (ev_op (ev_call (z := dTree dss) (by walk_at "ea") fun vs H Q h => ⟨s, t, .gen (treeF K ((waysF s t).map fun w => w.map dM)), ⟨hs, ht, by rw [if_neg hf]⟩, by rw [← hdss]; exact gen_of_pr h⟩) (by walk_at "ev") (od_eq hshr hshr)) (by rw [heqr])) fun _ => EvD.eq (ev_op (ev_call (z := dMs (x0 :: ys)) (by walk_at "ea") fun vs H Q h => ⟨s, t, .val (dMs (x0 :: ys)), ⟨hs, ht, .inr ⟨hf, x0 :: ys, r0, hw0, rfl⟩⟩, h⟩) (ev_op (by walk_at "ev") ev_int (od_ixL b0)) (od_eq hshw hshw)) (by rw [eqv_ms])) rfl

/-- 0 _law_script 1 _law_k 2 _law_number 3 _law_discs 4 _law_one 5 _law_other 6 _law_edge -/
def sp_law (K : PySem.W.Frag) : Sp := fun vs H Q _ => ∃ (ns : List Int), (ns.length ≤ 63) ∧ Pr K vs H Q [dScr ns] (.bool true)
theorem ok_law (T : Txt K mg A) : FnOk P w K mg base CX0 11 A.a_law A.d_law ["_law_script"] (sp_law K) := by
  refine T.f_law.ok sc_law (fun vs H Q E h => ?_) (fun cdv A' outer s H vs Q E hr h => ?_)
  · obtain ⟨ns, _, h⟩ := h
    exact h.len
  · obtain ⟨ns, hl, h⟩ := h
    refine ⟨_, (pss_cons (ps_for PassesOwn.never rfl (pi_range1 (by rfl) T.n_range (pa_cons (pe_op (op_addK K rfl) pe_int (pe_callB (call_min2 rfl) (by rfl) T.n_min (by decide +kernel) (pa_cons pe_int (pa_cons (pe_callB (call_lenK K rfl) (by rfl) T.n_len PySem.boot_len (pa_cons (pv 0) pa_nil)) pa_nil)))) pa_nil)) (pg_name (i := 1) sc_law.nd rfl (by first | exact Or.inl rfl | exact Or.inr rfl)) (pss_cons (ps_set (i := 2) sc_law.nd rfl (by first | exact Or.inl rfl | exact Or.inr rfl) (pe_call (ok_law_cell T) (hr.mono (by decide)) (by rfl) T.g_law_cell T.f_law_cell.kp T.b_law_cell .nil pass0 (pa_cons (pv 0) (pa_cons (pv 1) pa_nil))))
      (pss_cons (ps_set (i := 3) sc_law.nd rfl (by first | exact Or.inl rfl | exact Or.inr rfl) (pe_ix (ix_seqK K rfl) (pe_lst (pa_cons (pe_op op_mod (pv 2) pe_int) (pa_cons (pe_op op_mod (pv 2) pe_int) (pa_cons (pe_op op_mod (pv 2) pe_int) (pa_cons (pe_op op_mod (pv 2) pe_int) pa_nil))))) (pe_op op_mod (pe_op op_fdivW (pv 2) pe_int) pe_int) (fun _ _ => rfl)))
      (pss_cons (ps_if (pt_cmpR (op_eqK K rfl hr.units) (pe_op op_mod (pe_op op_fdivW (pv 2) pe_int) pe_int) pe_int (nomark _)) (pss_one (ps_set (i := 3) sc_law.nd rfl (by first | exact Or.inl rfl | exact Or.inr rfl) (pe_op op_mod (pe_op op_fdivW (pv 2) pe_int) pe_int))) pss_nil)
      (pss_cons (ps_asg (pe_call (ok_law_pair T) (hr.mono (by decide)) (by rfl) T.g_law_pair T.f_law_pair.kp T.b_law_pair .nil pass0 (pa_cons (pv 0) (pa_cons (pv 1) (pa_cons (pv 3) pa_nil)))) (pg_tup rfl (pgs_cons (pg_name (i := 4) sc_law.nd rfl (by first | exact Or.inl rfl | exact Or.inr rfl)) (pgs_cons (pg_name (i := 5) sc_law.nd rfl (by first | exact Or.inl rfl | exact Or.inr rfl)) pgs_nil))))
      (pss_one (ps_if (pt_not (pt_val (pe_call (ok_law_right T) hr (by rfl) T.g_law_right T.f_law_right.kp T.b_law_right .nil pass0 (pa_cons (pv 4) (pa_cons (pv 5) pa_nil))))) (pss_one (ps_ret pe_bl)) pss_nil)))))))
      (pss_cons (ps_set (i := 2) sc_law.nd rfl (by first | exact Or.inl rfl | exact Or.inr rfl) (pe_call (ok_law_cell T) (hr.mono (by decide)) (by rfl) T.g_law_cell T.f_law_cell.kp T.b_law_cell .nil pass0 (pa_cons (pv 0) (pa_cons pe_int pa_nil))))
      (pss_cons (ps_set (i := 6) sc_law.nd rfl (by first | exact Or.inl rfl | exact Or.inr rfl) (pe_call (ok_setting_at T) (hr.mono (by decide)) (by rfl) T.g_setting_at T.f_setting_at.kp T.b_setting_at .nil pass0 (pa_cons pe_int (pa_cons pe_int (pa_cons (pe_op (op_addK K rfl) pe_int (pe_op op_mod (pv 2) pe_int)) (pa_cons (pe_op (op_addK K rfl) pe_int (pe_op op_mod (pe_op op_fdivW (pv 2) pe_int) pe_int)) pa_nil))))))
      (pss_one (ps_ret (pe_or (pe_cmpR (op_neK K rfl hr.units) (pe_op op_mod (pe_op op_fdivW (pv 2) pe_int) pe_int) pe_int (nomark _)) (pe_one (pe_and (pe_call (ok_law_right T) hr (by rfl) T.g_law_right T.f_law_right.kp T.b_law_right .nil pass0 (pa_cons (pe_op (op_mulK K rfl) (pe_tup (pa_cons pe_int pa_nil)) pe_int) (pa_cons (pv 6) pa_nil))) (pe_one (pe_call (ok_law_right T) hr (by rfl) T.g_law_right T.f_law_right.kp T.b_law_right .nil pass0 (pa_cons (pv 6) (pa_cons (pe_op (op_mulK K rfl) (pe_tup (pa_cons pe_int pa_nil)) pe_int) pa_nil)))))))))))), body_val h (Nat.le_of_ble_eq_true rfl) fun c => ?_⟩
    walk_at "go"
    refine sd_seq (M := fun δ' => ∃ x1 x2 x3 x4 x5 x6, δ' = [cv (dScr ns), x1, x2, x3, x4, x5, x6])
      (sd_for (iv_rng1 (by walk_at "ea") (by split <;> omega) (by split <;> omega)) (fun i δ' => ∃ x1 x2 x3 x4 x5 x6, δ' = [cv (dScr ns), x1, x2, x3, x4, x5, x6])
        ⟨none, none, none, none, none, none, rfl⟩ (fun i d δ' hd hP => tg_name) (fun c' _ _ i d δ' hd hP => ?_) (fun δ' hP => hP)) (fun δ' hP => ?_)
    · obtain ⟨hi, rfl⟩ := dRange_get hd
      obtain ⟨x1, x2, x3, x4, x5, x6, rfl⟩ := hP
      rw [Int.zero_add]
      have hk : i ≤ 1000 := by
        split at hi <;> omega
      have hk2 : i ≤ 100 := by
        split at hi <;> omega
      simp only [List.set_cons_zero, List.set_cons_succ]
      walk_at "as"
      generalize cellF ns i = x
      obtain ⟨n0, hn0, hat⟩ : ∃ n : Nat, n ≤ 60 ∧ atI [PyData.int ((x : Int) % 7), .int ((x : Int) % 7), .int ((x : Int) % 7), .int ((x : Int) % 15)] ((x : Int) / 64 % 4) = some (dN n) := by
        obtain ⟨z, hz, hat⟩ := at_mod (ds := [PyData.int ((x : Int) % 7), .int ((x : Int) % 7), .int ((x : Int) % 7), .int ((x : Int) % 15)]) (m := (x : Int) / 64) (n := 4) (by omega) rfl (by decide)
        simp only [List.mem_cons, List.not_mem_nil, or_false] at hz
        rcases hz with rfl | rfl | rfl | rfl
        · exact ⟨x % 7, by omega, hat⟩
        · exact ⟨x % 7, by omega, hat⟩
        · exact ⟨x % 7, by omega, hat⟩
        · exact ⟨x % 15, by omega, hat⟩
      refine sd_asgS (d := dN n0) (ev_op (EvN.val (ev_lstN (ds := [PyData.int ((x : Int) % 7), .int ((x : Int) % 7), .int ((x : Int) % 7), .int ((x : Int) % 15)]) (by walk_at "ea"))) (ev_op (ev_op (by walk_at "ev") ev_int (od_fdivW (by decide) (by decide))) ev_int (od_mod (by decide))) (od_ixL hat)) ?_
      simp only [List.set_cons_zero, List.set_cons_succ]
      refine sd_seq (M := fun δ' => ∃ n : Nat, n ≤ 60 ∧ δ' = [cv (dScr ns), cv (dN i), cv (dN x), cv (dN n), x4, x5, x6]) ?_ (fun δ' hP => ?_)
      · walk_at "if"
        case h1 =>
          intro _
          exact sd_asg (d := dN (x / 7 % 61)) (EvD.eq (ev_op (ev_op (by walk_at "ev") ev_int (od_fdivW (by decide) (by decide))) ev_int (od_mod (by decide))) (by congr 1)) ⟨x / 7 % 61, by omega, rfl⟩
        case h2 => exact fun _ => sd_next ⟨n0, hn0, rfl⟩
      obtain ⟨n, hn, rfl⟩ := hP
      refine sd_asgETS (Tg := fun z δ => match z with | .tuple [a, b] => (δ.set 4 (cv a)).set 5 (cv b) | _ => δ) (ev_callE (Z := fun z => ∃ s t : List Pg, (s.length = n ∧ t.length = n) ∧ z = .tuple [dS s, dS t]) (ds := [dScr ns, dN i, dN n]) (by walk_at "ea") fun vs H Q h => ⟨ns, i, n, ⟨hl, hk2, hn⟩, h⟩) (js := [4, 5]) (fun z hz => ?_) (fun z hz => ?_)
      · obtain ⟨s, t, _, rfl⟩ := hz
        exact tg_tup (tgs_cons tg_name (tgs_cons tg_name tgs_nil))
      obtain ⟨s, t, ⟨hs, ht⟩, rfl⟩ := hz
      simp only [List.set_cons_zero, List.set_cons_succ]
      refine sd_if (a := false) (EvT.eq (et_not (a := true) (et_val (ev_call (by walk_at "ea") fun vs H Q h => ⟨s, t, ⟨by omega, by omega⟩, h⟩))) rfl) (fun z => by cases z) (fun _ => sd_next ⟨_, Le.refl _, _, _, _, _, _, _, rfl⟩)
    · obtain ⟨x1, x2, x3, x4, x5, x6, rfl⟩ := hP
      refine sd_asgS (d := dN (cellF ns 9)) (ev_call (ds := [dScr ns, dN 9]) (ea_cons (by walk_at "ev") (ea_cons ev_int ea_nil)) fun vs H Q h => ⟨ns, 9, by decide, h⟩) ?_
      simp only [List.set_cons_zero, List.set_cons_succ]
      generalize cellF ns 9 = x
      obtain ⟨b, hb1, hb2⟩ : ∃ b : Pg, PyData.int (1 + (x : Int) % 2) = dP b ∧ (0 : Pg) ≠ b := by
        have h2 : x % 2 = 0 ∨ x % 2 = 1 := by omega
        rcases h2 with h2 | h2
        · exact ⟨1, by show PyData.int _ = PyData.int 1; congr 1; omega, by decide⟩
        · exact ⟨2, by show PyData.int _ = PyData.int 2; congr 1; omega, by decide⟩
      have hk : 2998 + x / 2 % 5 < 2 ^ 12 := by
        have : 2 ^ 12 = 4096 := rfl
        omega
      have hlen := atR_len 12 0 b (2998 + x / 2 % 5)
      refine sd_asgS (d := dS (atR 12 0 b (2998 + x / 2 % 5))) (ev_call (ds := [dN 12, dP 0, dP b, dN (2998 + x / 2 % 5)]) (ea_cons ev_int (ea_cons ev_int (ea_cons (EvD.eq (ev_op ev_int (ev_op (by walk_at "ev") ev_int (od_mod (by decide))) od_add) hb1) (ea_cons (EvD.eq (ev_op ev_int (ev_op (ev_op (by walk_at "ev") ev_int (od_fdivW (by decide) (by decide))) ev_int (od_mod (by decide))) od_add) (by congr 1)) ea_nil)))) fun vs H Q h => ⟨12, 0, b, _, ⟨by decide, hb2, hk⟩, h⟩) ?_
      simp only [List.set_cons_zero, List.set_cons_succ]
      generalize atR 12 0 b (2998 + x / 2 % 5) = y at hlen
      have zz : ∀ (δ : DEnv), EvD K c (tOp (rMulP K) (tTup (tCons (tC (.int 0)) tNil)) (tC (.int 12))) δ (dS (List.replicate 12 0)) := fun δ => EvD.eq (ev_op (ev_tup (ea_cons ev_int ea_nil)) ev_int (od_repT (i := 12) (by decide) (by decide))) rfl
      have hr : (List.replicate 12 (0 : Pg)).length = 12 := rfl
      cases hq : decide ((x : Int) / 64 % 4 = 1) with
      | false =>
        refine sd_ret (ev_orV (a := true) (b := true) (EvD.eq (ev_op (ev_op (ev_op (by walk_at "ev") ev_int (od_fdivW (by decide) (by decide))) ev_int (od_mod (by decide))) ev_int od_neI) (by rw [hq]; rfl)) (fun z => by cases z)) rfl
      | true =>
        refine sd_ret (ev_orV (a := false) (b := true) (EvD.eq (ev_op (ev_op (ev_op (by walk_at "ev") ev_int (od_fdivW (by decide) (by decide))) ev_int (od_mod (by decide))) ev_int od_neI) (by rw [hq]; rfl)) (fun _ => ev_andV (a := true) (b := true) (ev_call (ea_cons (zz _) (ea_cons (by walk_at "ev") ea_nil)) fun vs H Q h => ⟨List.replicate 12 0, y, ⟨by decide, by omega⟩, h⟩) fun _ => ev_call (ea_cons (by walk_at "ev") (ea_cons (zz _) ea_nil)) fun vs H Q h => ⟨y, List.replicate 12 0, ⟨by omega, by omega⟩, h⟩)) rfl

end
/-! ### what the top has written; the end -/
theorem all_mk {l : PySem.W.OpenLaw} {w : World} {K : PySem.W.Frag} {h : Heap} {mg : Str → Option Value} {fa f0 f1 f2 f3 f4 f5 f6 f7 f8 f9 f10 f11 f12 f13 f14 f15 f16 f17 f18 f19 f20 f21 f22 f23 f24 f25 f26 f27 f28 f29 f30 f31 f32 f33 f34 f35 e_PegError e_BadSetting e_Unlike e_BadPegs e_BadDiscs e_BadCount e_TooMany e_BadMove : Addr} (X : K.In h) (G : h.Ns mainGlobals mg) (hfa : mg "law" = some (.ref fa))
    {od0 od1 od2 od3 od4 od5 od6 od7 od8 od9 od10 od11 od12 od13 od14 od15 od16 od17 od18 od19 od20 od21 od22 od23 od24 od25 od26 od27 od28 od29 od30 od31 od32 od33 od34 od35 an0 an1 an2 an3 an4 an5 an6 an7 an8 an9 an10 an11 an12 an13 an14 an15 an16 an17 an18 an19 an20 an21 an22 an23 an24 an25 an26 an27 an28 an29 an30 an31 an32 an33 an34 an35 : Option Addr} {sl0 sl1 sl2 sl3 sl4 sl5 sl6 sl7 sl8 sl9 sl10 sl11 sl12 sl13 sl14 sl15 sl16 sl17 sl18 sl19 sl20 sl21 sl22 sl23 sl24 sl25 sl26 sl27 sl28 sl29 sl30 sl31 sl32 sl33 sl34 sl35 : Array (Option Value)} {oc0 oc1 oc2 oc3 oc4 oc5 oc6 oc7 oc8 oc9 oc10 oc11 oc12 oc13 oc14 oc15 oc16 oc17 oc18 oc19 oc20 oc21 oc22 oc23 oc24 oc25 oc26 oc27 oc28 oc29 oc30 oc31 oc32 oc33 oc34 oc35 kV0 kV1 kV2 kV3 kV4 kV5 kV6 kV7 kV8 kV9 kV10 kV11 kV12 kV13 kV14 kV15 kV16 kV17 kV18 kV19 kV20 kV21 kV22 kV23 kV24 kV25 kV26 kV27 kV28 kV29 kV30 kV31 kV32 kV33 kV34 kV35 dc0 dc1 dc2 dc3 dc4 dc5 dc6 dc7 dc8 dc9 dc10 dc11 dc12 dc13 dc14 dc15 dc16 dc17 dc18 dc19 dc20 dc21 dc22 dc23 dc24 dc25 dc26 dc27 dc28 dc29 dc30 dc31 dc32 dc33 dc34 dc35 pm0 pm1 pm2 pm3 pm4 pm5 pm6 pm7 pm8 pm9 pm10 pm11 pm12 pm13 pm14 pm15 pm16 pm17 pm18 pm19 pm20 pm21 pm22 pm23 pm24 pm25 pm26 pm27 pm28 pm29 pm30 pm31 pm32 pm33 pm34 pm35 cd0 cd1 cd2 cd3 cd4 cd5 cd6 cd7 cd8 cd9 cd10 cd11 cd12 cd13 cd14 cd15 cd16 cd17 cd18 cd19 cd20 cd21 cd22 cd23 cd24 cd25 cd26 cd27 cd28 cd29 cd30 cd31 cd32 cd33 cd34 cd35 ct0 ct1 ct2 ct3 ct4 ct5 ct6 ct7 ct8 ct9 ct10 ct11 ct12 ct13 ct14 ct15 ct16 ct17 ct18 ct19 ct20 ct21 ct22 ct23 ct24 ct25 ct26 ct27 ct28 ct29 ct30 ct31 ct32 ct33 ct34 ct35 : Value} {t0 t1 t2 : Tok}
    (a0 : PySem.W.nsIn K mainGlobals "is_among" = some (some (.ref f0))) (l0 : K.lookup f0 = some ⟨oc0, od0, .func (PySem.W.fnOf "is_among" "is_among" (defArgs s_is_among) (defBody s_is_among) (defScope s_is_among) .none kV0 dc0 pm0 an0 cd0 ct0), sl0⟩) (c0 : PySem.W.codeIn K cd0 "is_among" = true) (k0 : PySem.W.keepIn K (.ref f0) = true)
    (a1 : PySem.W.nsIn K mainGlobals "is_peg" = some (some (.ref f1))) (l1 : K.lookup f1 = some ⟨oc1, od1, .func (PySem.W.fnOf "is_peg" "is_peg" (defArgs s_is_peg) (defBody s_is_peg) (defScope s_is_peg) .none kV1 dc1 pm1 an1 cd1 ct1), sl1⟩) (c1 : PySem.W.codeIn K cd1 "is_peg" = true) (k1 : PySem.W.keepIn K (.ref f1) = true)
    (a2 : PySem.W.nsIn K mainGlobals "is_setting" = some (some (.ref f2))) (l2 : K.lookup f2 = some ⟨oc2, od2, .func (PySem.W.fnOf "is_setting" "is_setting" (defArgs s_is_setting) (defBody s_is_setting) (defScope s_is_setting) .none kV2 dc2 pm2 an2 cd2 ct2), sl2⟩) (c2 : PySem.W.codeIn K cd2 "is_setting" = true) (k2 : PySem.W.keepIn K (.ref f2) = true)
    (a3 : PySem.W.nsIn K mainGlobals "need_setting" = some (some (.ref f3))) (l3 : K.lookup f3 = some ⟨oc3, od3, .func (PySem.W.fnOf "need_setting" "need_setting" (defArgs s_need_setting) (defBody s_need_setting) (defScope s_need_setting) .none kV3 dc3 pm3 an3 cd3 ct3), sl3⟩) (c3 : PySem.W.codeIn K cd3 "need_setting" = true) (k3 : PySem.W.keepIn K (.ref f3) = true)
    (a4 : PySem.W.nsIn K mainGlobals "need_pair" = some (some (.ref f4))) (l4 : K.lookup f4 = some ⟨oc4, od4, .func (PySem.W.fnOf "need_pair" "need_pair" (defArgs s_need_pair) (defBody s_need_pair) (defScope s_need_pair) .none kV4 dc4 pm4 an4 cd4 ct4), sl4⟩) (c4 : PySem.W.codeIn K cd4 "need_pair" = true) (k4 : PySem.W.keepIn K (.ref f4) = true)
    (a5 : PySem.W.nsIn K mainGlobals "need_discs" = some (some (.ref f5))) (l5 : K.lookup f5 = some ⟨oc5, od5, .func (PySem.W.fnOf "need_discs" "need_discs" (defArgs s_need_discs) (defBody s_need_discs) (defScope s_need_discs) .none kV5 dc5 pm5 an5 cd5 ct5), sl5⟩) (c5 : PySem.W.codeIn K cd5 "need_discs" = true) (k5 : PySem.W.keepIn K (.ref f5) = true)
    (a6 : PySem.W.nsIn K mainGlobals "third" = some (some (.ref f6))) (l6 : K.lookup f6 = some ⟨oc6, od6, .func (PySem.W.fnOf "third" "third" (defArgs s_third) (defBody s_third) (defScope s_third) .none kV6 dc6 pm6 an6 cd6 ct6), sl6⟩) (c6 : PySem.W.codeIn K cd6 "third" = true) (k6 : PySem.W.keepIn K (.ref f6) = true)
    (a7 : PySem.W.nsIn K mainGlobals "put" = some (some (.ref f7))) (l7 : K.lookup f7 = some ⟨oc7, od7, .func (PySem.W.fnOf "put" "put" (defArgs s_put) (defBody s_put) (defScope s_put) .none kV7 dc7 pm7 an7 cd7 ct7), sl7⟩) (c7 : PySem.W.codeIn K cd7 "put" = true) (k7 : PySem.W.keepIn K (.ref f7) = true)
    (a8 : PySem.W.nsIn K mainGlobals "to_peg" = some (some (.ref f8))) (l8 : K.lookup f8 = some ⟨oc8, od8, .func (PySem.W.fnOf "to_peg" "to_peg" (defArgs s_to_peg) (defBody s_to_peg) (defScope s_to_peg) .none kV8 dc8 pm8 an8 cd8 ct8), sl8⟩) (c8 : PySem.W.codeIn K cd8 "to_peg" = true) (k8 : PySem.W.keepIn K (.ref f8) = true)
    (a9 : PySem.W.nsIn K mainGlobals "greatest_unlike" = some (some (.ref f9))) (l9 : K.lookup f9 = some ⟨oc9, od9, .func (PySem.W.fnOf "greatest_unlike" "greatest_unlike" (defArgs s_greatest_unlike) (defBody s_greatest_unlike) (defScope s_greatest_unlike) .none kV9 dc9 pm9 an9 cd9 ct9), sl9⟩) (c9 : PySem.W.codeIn K cd9 "greatest_unlike" = true) (k9 : PySem.W.keepIn K (.ref f9) = true)
    (a10 : PySem.W.nsIn K mainGlobals "choices" = some (some (.ref f10))) (l10 : K.lookup f10 = some ⟨oc10, od10, .func (PySem.W.fnOf "choices" "choices" (defArgs s_choices) (defBody s_choices) (defScope s_choices) .none kV10 dc10 pm10 an10 cd10 ct10), sl10⟩) (c10 : PySem.W.codeIn K cd10 "choices" = true) (k10 : PySem.W.keepIn K (.ref f10) = true)
    (a11 : PySem.W.nsIn K mainGlobals "far" = some (some (.ref f11))) (l11 : K.lookup f11 = some ⟨oc11, od11, .func (PySem.W.fnOf "far" "far" (defArgs s_far) (defBody s_far) (defScope s_far) .none kV11 dc11 pm11 an11 cd11 ct11), sl11⟩) (c11 : PySem.W.codeIn K cd11 "far" = true) (k11 : PySem.W.keepIn K (.ref f11) = true)
    (a12 : PySem.W.nsIn K mainGlobals "many_ways" = some (some (.ref f12))) (l12 : K.lookup f12 = some ⟨oc12, od12, .func (PySem.W.fnOf "many_ways" "many_ways" (defArgs s_many_ways) (defBody s_many_ways) (defScope s_many_ways) .none kV12 dc12 pm12 an12 cd12 ct12), sl12⟩) (c12 : PySem.W.codeIn K cd12 "many_ways" = true) (k12 : PySem.W.keepIn K (.ref f12) = true)
    (a13 : PySem.W.nsIn K mainGlobals "first_to" = some (some (.ref f13))) (l13 : K.lookup f13 = some ⟨oc13, od13, .func (PySem.W.fnOf "first_to" "first_to" (defArgs s_first_to) (defBody s_first_to) (defScope s_first_to) .none kV13 dc13 pm13 an13 cd13 ct13), sl13⟩) (c13 : PySem.W.codeIn K cd13 "first_to" = true) (k13 : PySem.W.keepIn K (.ref f13) = true)
    (a14 : PySem.W.nsIn K mainGlobals "next_move" = some (some (.ref f14))) (l14 : K.lookup f14 = some ⟨oc14, od14, .func (PySem.W.fnOf "next_move" "next_move" (defArgs s_next_move) (defBody s_next_move) (defScope s_next_move) .none kV14 dc14 pm14 an14 cd14 ct14), sl14⟩) (c14 : PySem.W.codeIn K cd14 "next_move" = true) (k14 : PySem.W.keepIn K (.ref f14) = true)
    (a15 : PySem.W.nsIn K mainGlobals "steps_to" = some (some (.ref f15))) (l15 : K.lookup f15 = some ⟨oc15, od15, .func (PySem.W.fnOf "steps_to" "steps_to" (defArgs s_steps_to) (defBody s_steps_to) (defScope s_steps_to) .none kV15 dc15 pm15 an15 cd15 ct15), sl15⟩) (c15 : PySem.W.codeIn K cd15 "steps_to" = true) (k15 : PySem.W.keepIn K (.ref f15) = true)
    (a16 : PySem.W.nsIn K mainGlobals "steps_from" = some (some (.ref f16))) (l16 : K.lookup f16 = some ⟨oc16, od16, .func (PySem.W.fnOf "steps_from" "steps_from" (defArgs s_steps_from) (defBody s_steps_from) (defScope s_steps_from) .none kV16 dc16 pm16 an16 cd16 ct16), sl16⟩) (c16 : PySem.W.codeIn K cd16 "steps_from" = true) (k16 : PySem.W.keepIn K (.ref f16) = true)
    (a17 : PySem.W.nsIn K mainGlobals "ways" = some (some (.ref f17))) (l17 : K.lookup f17 = some ⟨oc17, od17, .func (PySem.W.fnOf "ways" "ways" (defArgs s_ways) (defBody s_ways) (defScope s_ways) .none kV17 dc17 pm17 an17 cd17 ct17), sl17⟩) (c17 : PySem.W.codeIn K cd17 "ways" = true) (k17 : PySem.W.keepIn K (.ref f17) = true)
    (a18 : PySem.W.nsIn K mainGlobals "way" = some (some (.ref f18))) (l18 : K.lookup f18 = some ⟨oc18, od18, .func (PySem.W.fnOf "way" "way" (defArgs s_way) (defBody s_way) (defScope s_way) .none kV18 dc18 pm18 an18 cd18 ct18), sl18⟩) (c18 : PySem.W.codeIn K cd18 "way" = true) (k18 : PySem.W.keepIn K (.ref f18) = true)
    (a19 : PySem.W.nsIn K mainGlobals "need_pegs" = some (some (.ref f19))) (l19 : K.lookup f19 = some ⟨oc19, od19, .func (PySem.W.fnOf "need_pegs" "need_pegs" (defArgs s_need_pegs) (defBody s_need_pegs) (defScope s_need_pegs) .none kV19 dc19 pm19 an19 cd19 ct19), sl19⟩) (c19 : PySem.W.codeIn K cd19 "need_pegs" = true) (k19 : PySem.W.keepIn K (.ref f19) = true)
    (a20 : PySem.W.nsIn K mainGlobals "setting_at" = some (some (.ref f20))) (l20 : K.lookup f20 = some ⟨oc20, od20, .func (PySem.W.fnOf "setting_at" "setting_at" (defArgs s_setting_at) (defBody s_setting_at) (defScope s_setting_at) .none kV20 dc20 pm20 an20 cd20 ct20), sl20⟩) (c20 : PySem.W.codeIn K cd20 "setting_at" = true) (k20 : PySem.W.keepIn K (.ref f20) = true)
    (a21 : PySem.W.nsIn K mainGlobals "_law_cell" = some (some (.ref f21))) (l21 : K.lookup f21 = some ⟨oc21, od21, .func (PySem.W.fnOf "_law_cell" "_law_cell" (defArgs s_law_cell) (defBody s_law_cell) (defScope s_law_cell) .none kV21 dc21 pm21 an21 cd21 ct21), sl21⟩) (c21 : PySem.W.codeIn K cd21 "_law_cell" = true) (k21 : PySem.W.keepIn K (.ref f21) = true)
    (a22 : PySem.W.nsIn K mainGlobals "_law_great" = some (some (.ref f22))) (l22 : K.lookup f22 = some ⟨oc22, od22, .func (PySem.W.fnOf "_law_great" "_law_great" (defArgs s_law_great) (defBody s_law_great) (defScope s_law_great) .none kV22 dc22 pm22 an22 cd22 ct22), sl22⟩) (c22 : PySem.W.codeIn K cd22 "_law_great" = true) (k22 : PySem.W.keepIn K (.ref f22) = true)
    (a23 : PySem.W.nsIn K mainGlobals "_law_setting" = some (some (.ref f23))) (l23 : K.lookup f23 = some ⟨oc23, od23, .func (PySem.W.fnOf "_law_setting" "_law_setting" (defArgs s_law_setting) (defBody s_law_setting) (defScope s_law_setting) .none kV23 dc23 pm23 an23 cd23 ct23), sl23⟩) (c23 : PySem.W.codeIn K cd23 "_law_setting" = true) (k23 : PySem.W.keepIn K (.ref f23) = true)
    (a24 : PySem.W.nsIn K mainGlobals "_law_may" = some (some (.ref f24))) (l24 : K.lookup f24 = some ⟨oc24, od24, .func (PySem.W.fnOf "_law_may" "_law_may" (defArgs s_law_may) (defBody s_law_may) (defScope s_law_may) .none kV24 dc24 pm24 an24 cd24 ct24), sl24⟩) (c24 : PySem.W.codeIn K cd24 "_law_may" = true) (k24 : PySem.W.keepIn K (.ref f24) = true)
    (a25 : PySem.W.nsIn K mainGlobals "_law_behind" = some (some (.ref f25))) (l25 : K.lookup f25 = some ⟨oc25, od25, .func (PySem.W.fnOf "_law_behind" "_law_behind" (defArgs s_law_behind) (defBody s_law_behind) (defScope s_law_behind) .none kV25 dc25 pm25 an25 cd25 ct25), sl25⟩) (c25 : PySem.W.codeIn K cd25 "_law_behind" = true) (k25 : PySem.W.keepIn K (.ref f25) = true)
    (a26 : PySem.W.nsIn K mainGlobals "_law_word" = some (some (.ref f26))) (l26 : K.lookup f26 = some ⟨oc26, od26, .func (PySem.W.fnOf "_law_word" "_law_word" (defArgs s_law_word) (defBody s_law_word) (defScope s_law_word) .none kV26 dc26 pm26 an26 cd26 ct26), sl26⟩) (c26 : PySem.W.codeIn K cd26 "_law_word" = true) (k26 : PySem.W.keepIn K (.ref f26) = true)
    (a27 : PySem.W.nsIn K mainGlobals "_law_whole" = some (some (.ref f27))) (l27 : K.lookup f27 = some ⟨oc27, od27, .func (PySem.W.fnOf "_law_whole" "_law_whole" (defArgs s_law_whole) (defBody s_law_whole) (defScope s_law_whole) .none kV27 dc27 pm27 an27 cd27 ct27), sl27⟩) (c27 : PySem.W.codeIn K cd27 "_law_whole" = true) (k27 : PySem.W.keepIn K (.ref f27) = true)
    (a28 : PySem.W.nsIn K mainGlobals "_law_is_move" = some (some (.ref f28))) (l28 : K.lookup f28 = some ⟨oc28, od28, .func (PySem.W.fnOf "_law_is_move" "_law_is_move" (defArgs s_law_is_move) (defBody s_law_is_move) (defScope s_law_is_move) .none kV28 dc28 pm28 an28 cd28 ct28), sl28⟩) (c28 : PySem.W.codeIn K cd28 "_law_is_move" = true) (k28 : PySem.W.keepIn K (.ref f28) = true)
    (a29 : PySem.W.nsIn K mainGlobals "_law_tied" = some (some (.ref f29))) (l29 : K.lookup f29 = some ⟨oc29, od29, .func (PySem.W.fnOf "_law_tied" "_law_tied" (defArgs s_law_tied) (defBody s_law_tied) (defScope s_law_tied) .none kV29 dc29 pm29 an29 cd29 ct29), sl29⟩) (c29 : PySem.W.codeIn K cd29 "_law_tied" = true) (k29 : PySem.W.keepIn K (.ref f29) = true)
    (a30 : PySem.W.nsIn K mainGlobals "_law_pair" = some (some (.ref f30))) (l30 : K.lookup f30 = some ⟨oc30, od30, .func (PySem.W.fnOf "_law_pair" "_law_pair" (defArgs s_law_pair) (defBody s_law_pair) (defScope s_law_pair) .none kV30 dc30 pm30 an30 cd30 ct30), sl30⟩) (c30 : PySem.W.codeIn K cd30 "_law_pair" = true) (k30 : PySem.W.keepIn K (.ref f30) = true)
    (a31 : PySem.W.nsIn K mainGlobals "_law_leads" = some (some (.ref f31))) (l31 : K.lookup f31 = some ⟨oc31, od31, .func (PySem.W.fnOf "_law_leads" "_law_leads" (defArgs s_law_leads) (defBody s_law_leads) (defScope s_law_leads) .none kV31 dc31 pm31 an31 cd31 ct31), sl31⟩) (c31 : PySem.W.codeIn K cd31 "_law_leads" = true) (k31 : PySem.W.keepIn K (.ref f31) = true)
    (a32 : PySem.W.nsIn K mainGlobals "_law_goes" = some (some (.ref f32))) (l32 : K.lookup f32 = some ⟨oc32, od32, .func (PySem.W.fnOf "_law_goes" "_law_goes" (defArgs s_law_goes) (defBody s_law_goes) (defScope s_law_goes) .none kV32 dc32 pm32 an32 cd32 ct32), sl32⟩) (c32 : PySem.W.codeIn K cd32 "_law_goes" = true) (k32 : PySem.W.keepIn K (.ref f32) = true)
    (a33 : PySem.W.nsIn K mainGlobals "_law_refused" = some (some (.ref f33))) (l33 : K.lookup f33 = some ⟨oc33, od33, .func (PySem.W.fnOf "_law_refused" "_law_refused" (defArgs s_law_refused) (defBody s_law_refused) (defScope s_law_refused) .none kV33 dc33 pm33 an33 cd33 ct33), sl33⟩) (c33 : PySem.W.codeIn K cd33 "_law_refused" = true) (k33 : PySem.W.keepIn K (.ref f33) = true)
    (a34 : PySem.W.nsIn K mainGlobals "_law_right" = some (some (.ref f34))) (l34 : K.lookup f34 = some ⟨oc34, od34, .func (PySem.W.fnOf "_law_right" "_law_right" (defArgs s_law_right) (defBody s_law_right) (defScope s_law_right) .none kV34 dc34 pm34 an34 cd34 ct34), sl34⟩) (c34 : PySem.W.codeIn K cd34 "_law_right" = true) (k34 : PySem.W.keepIn K (.ref f34) = true)
    (a35 : PySem.W.nsIn K mainGlobals "law" = some (some (.ref f35))) (l35 : K.lookup f35 = some ⟨oc35, od35, .func (PySem.W.fnOf "law" "law" (defArgs s_law) (defBody s_law) (defScope s_law) .none kV35 dc35 pm35 an35 cd35 ct35), sl35⟩) (c35 : PySem.W.codeIn K cd35 "law" = true) (k35 : PySem.W.keepIn K (.ref f35) = true)
    (v0 : PySem.W.nsIn K mainGlobals "MOST_DISCS" = some (some (.int 60 t0)))
    (v1 : PySem.W.nsIn K mainGlobals "LAST_PEG" = some (some (.int 2 t1)))
    (v2 : PySem.W.nsIn K mainGlobals "MOST_MOVES" = some (some (.int 3000 t2)))
    (h_PegError : PySem.W.nsIn K mainGlobals "PegError" = some (some (.ref e_PegError)))
    (h_BadSetting : PySem.W.nsIn K mainGlobals "BadSetting" = some (some (.ref e_BadSetting)))
    (h_Unlike : PySem.W.nsIn K mainGlobals "Unlike" = some (some (.ref e_Unlike)))
    (h_BadPegs : PySem.W.nsIn K mainGlobals "BadPegs" = some (some (.ref e_BadPegs)))
    (h_BadDiscs : PySem.W.nsIn K mainGlobals "BadDiscs" = some (some (.ref e_BadDiscs)))
    (h_BadCount : PySem.W.nsIn K mainGlobals "BadCount" = some (some (.ref e_BadCount)))
    (h_TooMany : PySem.W.nsIn K mainGlobals "TooMany" = some (some (.ref e_TooMany)))
    (h_BadMove : PySem.W.nsIn K mainGlobals "BadMove" = some (some (.ref e_BadMove)))
    (r0_TooMany : PySem.W.excIn K e_TooMany [.type "ValueError", .type "Exception", .type "BaseException", .type "object"] "ValueError.__new__" = true)
    (r1_TooMany : PySem.W.keepIn K (.ref e_TooMany) = true)
    (r2_TooMany : PySem.W.subIn K (.ref e_TooMany) (.type "BaseException") = some true)
    (r3_TooMany : PySem.W.typeIn K (.ref e_TooMany) = some (.type "type"))
    (q0_TooMany : PySem.W.findIn K (.ref e_TooMany) "__getattribute__" = some (some (.builtin "BaseException.__getattribute__")))
    (q1_TooMany : PySem.W.findIn K (.ref e_TooMany) "__getattr__" = some none)
    (q2_TooMany : PySem.W.hasDictIn K e_TooMany = true)
    (q3_TooMany : PySem.W.findIn K (.ref e_TooMany) "__class__" = some (some (.builtin "object.__class__")))
    (q4_TooMany : PySem.W.mroIn K e_TooMany (.type "object") = some true)
    (i_TooMany_PegError : PySem.W.kitOne K (.ref e_TooMany) (.ref e_PegError) = some true)
    (i_TooMany_BadSetting : PySem.W.kitOne K (.ref e_TooMany) (.ref e_BadSetting) = some false)
    (i_TooMany_Unlike : PySem.W.kitOne K (.ref e_TooMany) (.ref e_Unlike) = some false)
    (i_TooMany_BadPegs : PySem.W.kitOne K (.ref e_TooMany) (.ref e_BadPegs) = some false)
    (i_TooMany_BadDiscs : PySem.W.kitOne K (.ref e_TooMany) (.ref e_BadDiscs) = some false)
    (i_TooMany_BadCount : PySem.W.kitOne K (.ref e_TooMany) (.ref e_BadCount) = some false)
    (i_TooMany_TooMany : PySem.W.kitOne K (.ref e_TooMany) (.ref e_TooMany) = some true)
    (i_TooMany_BadMove : PySem.W.kitOne K (.ref e_TooMany) (.ref e_BadMove) = some false)
    (i_TooMany_ValueError : PySem.W.kitOne K (.ref e_TooMany) (.type "ValueError") = some true)
    (p_TooMany : PySem.W.subIn K (.ref e_TooMany) (.ref e_PegError) = some true)
    (qn : PySem.W.specialIn K (.builtin "object.__class__") "__get__" = some (some (.builtin "getset_descriptor.__get__")))
    (qt : PySem.W.takesIn K (.builtin "object.__class__") = some true)
    (pb : PySem.W.subIn K (.ref e_PegError) (.type "BaseException") = some true)
    (pd : PySem.W.hasDictIn K e_PegError = true)
    (pt : PySem.W.typeIn K (.ref e_PegError) = some (.type "type"))
    (z0 : PySem.W.nsIn K mainGlobals "isinstance" = some none)
    (z1 : PySem.W.nsIn K mainGlobals "int" = some none)
    (z2 : PySem.W.nsIn K mainGlobals "bool" = some none)
    (z3 : PySem.W.nsIn K mainGlobals "tuple" = some none)
    (z4 : PySem.W.nsIn K mainGlobals "all" = some none)
    (z5 : PySem.W.nsIn K mainGlobals "len" = some none)
    (z6 : PySem.W.nsIn K mainGlobals "reversed" = some none)
    (z7 : PySem.W.nsIn K mainGlobals "range" = some none)
    (z8 : PySem.W.nsIn K mainGlobals "min" = some none)
    (z9 : PySem.W.nsIn K mainGlobals "sorted" = some none)
    (z10 : PySem.W.nsIn K mainGlobals "enumerate" = some none)
    (z11 : PySem.W.nsIn K mainGlobals "ValueError" = some none)
    (z12 : PySem.W.nsIn K mainGlobals "list" = some none)
    : ∃ fd : FuncData, (∀ (s : Shared) (v : Value), BindsTo s fd ⟨[v], []⟩ [("_law_script", v)]) ∧ ∀ base : Heap, K.In base → base.Ns mainGlobals mg → FnOk l.prog w K mg base CX0 11 fa fd ["_law_script"] (sp_law K) := by
  have e := hfa.symm.trans (PySem.W.mg_of X G a35)
  cases e
  have F0 := fun_mk (st := s_is_among) l0 c0 k0
  have b0 := F0.binds (ps := ["thing", "least", "most"]) fun _ _ _ _ _ _ us hl => match us, hl with | [_, _, _], _ => rfl
  have F1 := fun_mk (st := s_is_peg) l1 c1 k1
  have b1 := F1.binds (ps := ["thing"]) fun _ _ _ _ _ _ us hl => match us, hl with | [_], _ => rfl
  have F2 := fun_mk (st := s_is_setting) l2 c2 k2
  have b2 := F2.binds (ps := ["thing"]) fun _ _ _ _ _ _ us hl => match us, hl with | [_], _ => rfl
  have F3 := fun_mk (st := s_need_setting) l3 c3 k3
  have b3 := F3.binds (ps := ["thing"]) fun _ _ _ _ _ _ us hl => match us, hl with | [_], _ => rfl
  have F4 := fun_mk (st := s_need_pair) l4 c4 k4
  have b4 := F4.binds (ps := ["one", "other"]) fun _ _ _ _ _ _ us hl => match us, hl with | [_, _], _ => rfl
  have F5 := fun_mk (st := s_need_discs) l5 c5 k5
  have b5 := F5.binds (ps := ["discs"]) fun _ _ _ _ _ _ us hl => match us, hl with | [_], _ => rfl
  have F6 := fun_mk (st := s_third) l6 c6 k6
  have b6 := F6.binds (ps := ["one", "other"]) fun _ _ _ _ _ _ us hl => match us, hl with | [_, _], _ => rfl
  have F7 := fun_mk (st := s_put) l7 c7 k7
  have b7 := F7.binds (ps := ["setting", "disc", "peg"]) fun _ _ _ _ _ _ us hl => match us, hl with | [_, _, _], _ => rfl
  have F8 := fun_mk (st := s_to_peg) l8 c8 k8
  have b8 := F8.binds (ps := ["setting", "peg", "discs"]) fun _ _ _ _ _ _ us hl => match us, hl with | [_, _, _], _ => rfl
  have F9 := fun_mk (st := s_greatest_unlike) l9 c9 k9
  have b9 := F9.binds (ps := ["one", "other"]) fun _ _ _ _ _ _ us hl => match us, hl with | [_, _], _ => rfl
  have F10 := fun_mk (st := s_choices) l10 c10 k10
  have b10 := F10.binds (ps := ["one", "other"]) fun _ _ _ _ _ _ us hl => match us, hl with | [_, _], _ => rfl
  have F11 := fun_mk (st := s_far) l11 c11 k11
  have b11 := F11.binds (ps := ["one", "other"]) fun _ _ _ _ _ _ us hl => match us, hl with | [_, _], _ => rfl
  have F12 := fun_mk (st := s_many_ways) l12 c12 k12
  have b12 := F12.binds (ps := ["one", "other"]) fun _ _ _ _ _ _ us hl => match us, hl with | [_, _], _ => rfl
  have F13 := fun_mk (st := s_first_to) l13 c13 k13
  have b13 := F13.binds (ps := ["setting", "peg", "discs"]) fun _ _ _ _ _ _ us hl => match us, hl with | [_, _, _], _ => rfl
  have F14 := fun_mk (st := s_next_move) l14 c14 k14
  have b14 := F14.binds (ps := ["one", "other"]) fun _ _ _ _ _ _ us hl => match us, hl with | [_, _], _ => rfl
  have F15 := fun_mk (st := s_steps_to) l15 c15 k15
  have b15 := F15.binds (ps := ["setting", "peg", "discs"]) fun _ _ _ _ _ _ us hl => match us, hl with | [_, _, _], _ => rfl
  have F16 := fun_mk (st := s_steps_from) l16 c16 k16
  have b16 := F16.binds (ps := ["setting", "peg", "discs"]) fun _ _ _ _ _ _ us hl => match us, hl with | [_, _, _], _ => rfl
  have F17 := fun_mk (st := s_ways) l17 c17 k17
  have b17 := F17.binds (ps := ["one", "other"]) fun _ _ _ _ _ _ us hl => match us, hl with | [_, _], _ => rfl
  have F18 := fun_mk (st := s_way) l18 c18 k18
  have b18 := F18.binds (ps := ["one", "other"]) fun _ _ _ _ _ _ us hl => match us, hl with | [_, _], _ => rfl
  have F19 := fun_mk (st := s_need_pegs) l19 c19 k19
  have b19 := F19.binds (ps := ["begin", "end"]) fun _ _ _ _ _ _ us hl => match us, hl with | [_, _], _ => rfl
  have F20 := fun_mk (st := s_setting_at) l20 c20 k20
  have b20 := F20.binds (ps := ["discs", "begin", "end", "number"]) fun _ _ _ _ _ _ us hl => match us, hl with | [_, _, _, _], _ => rfl
  have F21 := fun_mk (st := s_law_cell) l21 c21 k21
  have b21 := F21.binds (ps := ["_law_script", "_law_k"]) fun _ _ _ _ _ _ us hl => match us, hl with | [_, _], _ => rfl
  have F22 := fun_mk (st := s_law_great) l22 c22 k22
  have b22 := F22.binds (ps := ["_law_script", "_law_k"]) fun _ _ _ _ _ _ us hl => match us, hl with | [_, _], _ => rfl
  have F23 := fun_mk (st := s_law_setting) l23 c23 k23
  have b23 := F23.binds (ps := ["_law_number", "_law_discs"]) fun _ _ _ _ _ _ us hl => match us, hl with | [_, _], _ => rfl
  have F24 := fun_mk (st := s_law_may) l24 c24 k24
  have b24 := F24.binds (ps := ["_law_setting_here"]) fun _ _ _ _ _ _ us hl => match us, hl with | [_], _ => rfl
  have F25 := fun_mk (st := s_law_behind) l25 c25 k25
  have b25 := F25.binds (ps := ["_law_setting_here", "_law_move"]) fun _ _ _ _ _ _ us hl => match us, hl with | [_, _], _ => rfl
  have F26 := fun_mk (st := s_law_word) l26 c26 k26
  have b26 := F26.binds (ps := ["_law_e"]) fun _ _ _ _ _ _ us hl => match us, hl with | [_], _ => rfl
  have F27 := fun_mk (st := s_law_whole) l27 c27 k27
  have b27 := F27.binds (ps := ["_law_thing"]) fun _ _ _ _ _ _ us hl => match us, hl with | [_], _ => rfl
  have F28 := fun_mk (st := s_law_is_move) l28 c28 k28
  have b28 := F28.binds (ps := ["_law_thing"]) fun _ _ _ _ _ _ us hl => match us, hl with | [_], _ => rfl
  have F29 := fun_mk (st := s_law_tied) l29 c29 k29
  have b29 := F29.binds (ps := ["_law_number", "_law_discs"]) fun _ _ _ _ _ _ us hl => match us, hl with | [_, _], _ => rfl
  have F30 := fun_mk (st := s_law_pair) l30 c30 k30
  have b30 := F30.binds (ps := ["_law_script", "_law_k", "_law_discs"]) fun _ _ _ _ _ _ us hl => match us, hl with | [_, _, _], _ => rfl
  have F31 := fun_mk (st := s_law_leads) l31 c31 k31
  have b31 := F31.binds (ps := ["_law_one", "_law_other", "_law_row"]) fun _ _ _ _ _ _ us hl => match us, hl with | [_, _, _], _ => rfl
  have F32 := fun_mk (st := s_law_goes) l32 c32 k32
  have b32 := F32.binds (ps := ["_law_one", "_law_other", "_law_row"]) fun _ _ _ _ _ _ us hl => match us, hl with | [_, _, _], _ => rfl
  have F33 := fun_mk (st := s_law_refused) l33 c33 k33
  have b33 := F33.binds (ps := ["_law_deed", "_law_one", "_law_other"]) fun _ _ _ _ _ _ us hl => match us, hl with | [_, _, _], _ => rfl
  have F34 := fun_mk (st := s_law_right) l34 c34 k34
  have b34 := F34.binds (ps := ["_law_one", "_law_other"]) fun _ _ _ _ _ _ us hl => match us, hl with | [_, _], _ => rfl
  have F35 := fun_mk (st := s_law) l35 c35 k35
  have b35 := F35.binds (ps := ["_law_script"]) fun _ _ _ _ _ _ us hl => match us, hl with | [_], _ => rfl
  have T : Txt K mg { a_is_among := f0, d_is_among := _, a_is_peg := f1, d_is_peg := _, a_is_setting := f2, d_is_setting := _, a_need_setting := f3, d_need_setting := _, a_need_pair := f4, d_need_pair := _, a_need_discs := f5, d_need_discs := _, a_third := f6, d_third := _, a_put := f7, d_put := _, a_to_peg := f8, d_to_peg := _, a_greatest_unlike := f9, d_greatest_unlike := _, a_choices := f10, d_choices := _, a_far := f11, d_far := _, a_many_ways := f12, d_many_ways := _, a_first_to := f13, d_first_to := _, a_next_move := f14, d_next_move := _, a_steps_to := f15, d_steps_to := _, a_steps_from := f16, d_steps_from := _, a_ways := f17, d_ways := _, a_way := f18, d_way := _, a_need_pegs := f19, d_need_pegs := _, a_setting_at := f20, d_setting_at := _, a_law_cell := f21, d_law_cell := _, a_law_great := f22, d_law_great := _, a_law_setting := f23, d_law_setting := _, a_law_may := f24, d_law_may := _, a_law_behind := f25, d_law_behind := _, a_law_word := f26, d_law_word := _, a_law_whole := f27, d_law_whole := _, a_law_is_move := f28, d_law_is_move := _, a_law_tied := f29, d_law_tied := _, a_law_pair := f30, d_law_pair := _, a_law_leads := f31, d_law_leads := _, a_law_goes := f32, d_law_goes := _, a_law_refused := f33, d_law_refused := _, a_law_right := f34, d_law_right := _, a_law := fa, d_law := _, t_MOST_DISCS := t0, t_LAST_PEG := t1, t_MOST_MOVES := t2, a_PegError := e_PegError, a_BadSetting := e_BadSetting, a_Unlike := e_Unlike, a_BadPegs := e_BadPegs, a_BadDiscs := e_BadDiscs, a_BadCount := e_BadCount, a_TooMany := e_TooMany, a_BadMove := e_BadMove } := { f_is_among := F0, g_is_among := PySem.W.mg_of X G a0, b_is_among := b0, f_is_peg := F1, g_is_peg := PySem.W.mg_of X G a1, b_is_peg := b1, f_is_setting := F2, g_is_setting := PySem.W.mg_of X G a2, b_is_setting := b2, f_need_setting := F3, g_need_setting := PySem.W.mg_of X G a3, b_need_setting := b3, f_need_pair := F4, g_need_pair := PySem.W.mg_of X G a4, b_need_pair := b4, f_need_discs := F5, g_need_discs := PySem.W.mg_of X G a5, b_need_discs := b5, f_third := F6, g_third := PySem.W.mg_of X G a6, b_third := b6, f_put := F7, g_put := PySem.W.mg_of X G a7, b_put := b7, f_to_peg := F8, g_to_peg := PySem.W.mg_of X G a8, b_to_peg := b8, f_greatest_unlike := F9, g_greatest_unlike := PySem.W.mg_of X G a9, b_greatest_unlike := b9, f_choices := F10, g_choices := PySem.W.mg_of X G a10, b_choices := b10, f_far := F11, g_far := PySem.W.mg_of X G a11, b_far := b11, f_many_ways := F12, g_many_ways := PySem.W.mg_of X G a12, b_many_ways := b12, f_first_to := F13, g_first_to := PySem.W.mg_of X G a13, b_first_to := b13, f_next_move := F14, g_next_move := PySem.W.mg_of X G a14, b_next_move := b14, f_steps_to := F15, g_steps_to := PySem.W.mg_of X G a15, b_steps_to := b15, f_steps_from := F16, g_steps_from := PySem.W.mg_of X G a16, b_steps_from := b16, f_ways := F17, g_ways := PySem.W.mg_of X G a17, b_ways := b17, f_way := F18, g_way := PySem.W.mg_of X G a18, b_way := b18, f_need_pegs := F19, g_need_pegs := PySem.W.mg_of X G a19, b_need_pegs := b19, f_setting_at := F20, g_setting_at := PySem.W.mg_of X G a20, b_setting_at := b20, f_law_cell := F21, g_law_cell := PySem.W.mg_of X G a21, b_law_cell := b21, f_law_great := F22, g_law_great := PySem.W.mg_of X G a22, b_law_great := b22, f_law_setting := F23, g_law_setting := PySem.W.mg_of X G a23, b_law_setting := b23, f_law_may := F24, g_law_may := PySem.W.mg_of X G a24, b_law_may := b24, f_law_behind := F25, g_law_behind := PySem.W.mg_of X G a25, b_law_behind := b25, f_law_word := F26, g_law_word := PySem.W.mg_of X G a26, b_law_word := b26, f_law_whole := F27, g_law_whole := PySem.W.mg_of X G a27, b_law_whole := b27, f_law_is_move := F28, g_law_is_move := PySem.W.mg_of X G a28, b_law_is_move := b28, f_law_tied := F29, g_law_tied := PySem.W.mg_of X G a29, b_law_tied := b29, f_law_pair := F30, g_law_pair := PySem.W.mg_of X G a30, b_law_pair := b30, f_law_leads := F31, g_law_leads := PySem.W.mg_of X G a31, b_law_leads := b31, f_law_goes := F32, g_law_goes := PySem.W.mg_of X G a32, b_law_goes := b32, f_law_refused := F33, g_law_refused := PySem.W.mg_of X G a33, b_law_refused := b33, f_law_right := F34, g_law_right := PySem.W.mg_of X G a34, b_law_right := b34, f_law := F35, g_law := PySem.W.mg_of X G a35, b_law := b35, c_MOST_DISCS := PySem.W.mg_of X G v0, c_LAST_PEG := PySem.W.mg_of X G v1, c_MOST_MOVES := PySem.W.mg_of X G v2, g_PegError := PySem.W.mg_of X G h_PegError, g_BadSetting := PySem.W.mg_of X G h_BadSetting, g_Unlike := PySem.W.mg_of X G h_Unlike, g_BadPegs := PySem.W.mg_of X G h_BadPegs, g_BadDiscs := PySem.W.mg_of X G h_BadDiscs, g_BadCount := PySem.W.mg_of X G h_BadCount, g_TooMany := PySem.W.mg_of X G h_TooMany, g_BadMove := PySem.W.mg_of X G h_BadMove, r_TooMany := ⟨r0_TooMany, r1_TooMany, r2_TooMany, r3_TooMany⟩, e_TooMany := ⟨q0_TooMany, q1_TooMany, r2_TooMany, q2_TooMany, q3_TooMany, qn, qt, q4_TooMany⟩, i_TooMany_PegError := i_TooMany_PegError, i_TooMany_BadSetting := i_TooMany_BadSetting, i_TooMany_Unlike := i_TooMany_Unlike, i_TooMany_BadPegs := i_TooMany_BadPegs, i_TooMany_BadDiscs := i_TooMany_BadDiscs, i_TooMany_BadCount := i_TooMany_BadCount, i_TooMany_TooMany := i_TooMany_TooMany, i_TooMany_BadMove := i_TooMany_BadMove, i_TooMany_ValueError := i_TooMany_ValueError, p_TooMany := PySem.W.exm_ref pb pd pt p_TooMany, n_isinstance := PySem.W.mg_none_of X G z0, n_int := PySem.W.mg_none_of X G z1, n_bool := PySem.W.mg_none_of X G z2, n_tuple := PySem.W.mg_none_of X G z3, n_all := PySem.W.mg_none_of X G z4, n_len := PySem.W.mg_none_of X G z5, n_reversed := PySem.W.mg_none_of X G z6, n_range := PySem.W.mg_none_of X G z7, n_min := PySem.W.mg_none_of X G z8, n_sorted := PySem.W.mg_none_of X G z9, n_enumerate := PySem.W.mg_none_of X G z10, n_ValueError := PySem.W.mg_none_of X G z11, n_list := PySem.W.mg_none_of X G z12 }
  exact ⟨PySem.W.fnOf "law" "law" (defArgs s_law) (defBody s_law) (defScope s_law) .none kV35 dc35 pm35 an35 cd35 ct35, fun s v => .of_eq rfl, fun base _ _ => ok_law T⟩
end PW
open PySem PySem.W PyProof.Rows
set_option maxHeartbeats 0 in
theorem PySem.Challenge.cw_pegdiscs_k07_ways_told_holds : PySem.Challenge.rw_pegdiscs_k07_ways_told.Holds := by
  w_on; o_law; k_head; (case hw => w_witness2)
  k_fill
  refine L2.walk_ofK (l := PySem.Challenge.rw_pegdiscs_k07_ways_told) (n := 63) (k := 11) (x := "_law_script") (CX := L2.CX0) (sp := PW.sp_law) rfl (by decide) rfl ⟨rfl, by decide, by decide⟩ (fun w h Y => PySem.W.kIn_of Y) ?F
    (fun K H a ns hl _ hS => ⟨ns, hl, H, Pd.Ex.refl H, .cons (.scr hS) .nil, fun w G' H' _ hw => hw.bool_inv⟩) (fun _ _ _ _ h => h)
  case F =>
    intro w mg fa h KX G hmg
    refine' PW.all_mk KX G hmg ?a0 ?l0 ?c0 ?k0 ?a1 ?l1 ?c1 ?k1 ?a2 ?l2 ?c2 ?k2 ?a3 ?l3 ?c3 ?k3 ?a4 ?l4 ?c4 ?k4 ?a5 ?l5 ?c5 ?k5 ?a6 ?l6 ?c6 ?k6 ?a7 ?l7 ?c7 ?k7 ?a8 ?l8 ?c8 ?k8 ?a9 ?l9 ?c9 ?k9 ?a10 ?l10 ?c10 ?k10 ?a11 ?l11 ?c11 ?k11 ?a12 ?l12 ?c12 ?k12 ?a13 ?l13 ?c13 ?k13 ?a14 ?l14 ?c14 ?k14 ?a15 ?l15 ?c15 ?k15 ?a16 ?l16 ?c16 ?k16 ?a17 ?l17 ?c17 ?k17 ?a18 ?l18 ?c18 ?k18 ?a19 ?l19 ?c19 ?k19 ?a20 ?l20 ?c20 ?k20 ?a21 ?l21 ?c21 ?k21 ?a22 ?l22 ?c22 ?k22 ?a23 ?l23 ?c23 ?k23 ?a24 ?l24 ?c24 ?k24 ?a25 ?l25 ?c25 ?k25 ?a26 ?l26 ?c26 ?k26 ?a27 ?l27 ?c27 ?k27 ?a28 ?l28 ?c28 ?k28 ?a29 ?l29 ?c29 ?k29 ?a30 ?l30 ?c30 ?k30 ?a31 ?l31 ?c31 ?k31 ?a32 ?l32 ?c32 ?k32 ?a33 ?l33 ?c33 ?k33 ?a34 ?l34 ?c34 ?k34 ?a35 ?l35 ?c35 ?k35 ?v0 ?v1 ?v2 ?h_PegError ?h_BadSetting ?h_Unlike ?h_BadPegs ?h_BadDiscs ?h_BadCount ?h_TooMany ?h_BadMove ?r0_TooMany ?r1_TooMany ?r2_TooMany ?r3_TooMany ?q0_TooMany ?q1_TooMany ?q2_TooMany ?q3_TooMany ?q4_TooMany ?i_TooMany_PegError ?i_TooMany_BadSetting ?i_TooMany_Unlike ?i_TooMany_BadPegs ?i_TooMany_BadDiscs ?i_TooMany_BadCount ?i_TooMany_TooMany ?i_TooMany_BadMove ?i_TooMany_ValueError ?p_TooMany ?qn ?qt ?pb ?pd ?pt ?z0 ?z1 ?z2 ?z3 ?z4 ?z5 ?z6 ?z7 ?z8 ?z9 ?z10 ?z11 ?z12
    (case a0 => k_is); (case l0 => k_is); (case c0 => k_is); (case k0 => k_is); (case a1 => k_is); (case l1 => k_is); (case c1 => k_is); (case k1 => k_is); (case a2 => k_is); (case l2 => k_is); (case c2 => k_is); (case k2 => k_is); (case a3 => k_is); (case l3 => k_is); (case c3 => k_is); (case k3 => k_is); (case a4 => k_is); (case l4 => k_is); (case c4 => k_is); (case k4 => k_is); (case a5 => k_is); (case l5 => k_is); (case c5 => k_is); (case k5 => k_is); (case a6 => k_is); (case l6 => k_is); (case c6 => k_is); (case k6 => k_is); (case a7 => k_is); (case l7 => k_is); (case c7 => k_is); (case k7 => k_is); (case a8 => k_is); (case l8 => k_is); (case c8 => k_is); (case k8 => k_is); (case a9 => k_is); (case l9 => k_is); (case c9 => k_is); (case k9 => k_is); (case a10 => k_is); (case l10 => k_is); (case c10 => k_is); (case k10 => k_is); (case a11 => k_is); (case l11 => k_is); (case c11 => k_is); (case k11 => k_is); (case a12 => k_is); (case l12 => k_is); (case c12 => k_is); (case k12 => k_is); (case a13 => k_is); (case l13 => k_is); (case c13 => k_is); (case k13 => k_is); (case a14 => k_is); (case l14 => k_is); (case c14 => k_is); (case k14 => k_is); (case a15 => k_is); (case l15 => k_is); (case c15 => k_is); (case k15 => k_is); (case a16 => k_is); (case l16 => k_is); (case c16 => k_is); (case k16 => k_is); (case a17 => k_is); (case l17 => k_is); (case c17 => k_is); (case k17 => k_is); (case a18 => k_is); (case l18 => k_is); (case c18 => k_is); (case k18 => k_is); (case a19 => k_is); (case l19 => k_is); (case c19 => k_is); (case k19 => k_is); (case a20 => k_is); (case l20 => k_is); (case c20 => k_is); (case k20 => k_is); (case a21 => k_is); (case l21 => k_is); (case c21 => k_is); (case k21 => k_is); (case a22 => k_is); (case l22 => k_is); (case c22 => k_is); (case k22 => k_is); (case a23 => k_is); (case l23 => k_is); (case c23 => k_is); (case k23 => k_is); (case a24 => k_is); (case l24 => k_is); (case c24 => k_is); (case k24 => k_is); (case a25 => k_is); (case l25 => k_is); (case c25 => k_is); (case k25 => k_is); (case a26 => k_is); (case l26 => k_is); (case c26 => k_is); (case k26 => k_is); (case a27 => k_is); (case l27 => k_is); (case c27 => k_is); (case k27 => k_is); (case a28 => k_is); (case l28 => k_is); (case c28 => k_is); (case k28 => k_is); (case a29 => k_is); (case l29 => k_is); (case c29 => k_is); (case k29 => k_is); (case a30 => k_is); (case l30 => k_is); (case c30 => k_is); (case k30 => k_is); (case a31 => k_is); (case l31 => k_is); (case c31 => k_is); (case k31 => k_is); (case a32 => k_is); (case l32 => k_is); (case c32 => k_is); (case k32 => k_is); (case a33 => k_is); (case l33 => k_is); (case c33 => k_is); (case k33 => k_is); (case a34 => k_is); (case l34 => k_is); (case c34 => k_is); (case k34 => k_is); (case a35 => k_is); (case l35 => k_is); (case c35 => k_is); (case k35 => k_is); (case v0 => k_is); (case v1 => k_is); (case v2 => k_is); (case h_PegError => k_is); (case h_BadSetting => k_is); (case h_Unlike => k_is); (case h_BadPegs => k_is); (case h_BadDiscs => k_is); (case h_BadCount => k_is); (case h_TooMany => k_is); (case h_BadMove => k_is); (case r0_TooMany => k_exc); (case r1_TooMany => k_is); (case r2_TooMany => k_is); (case r3_TooMany => k_is); (case q0_TooMany => k_is); (case q1_TooMany => k_is); (case q2_TooMany => k_is); (case q3_TooMany => k_is); (case q4_TooMany => k_is); (case i_TooMany_PegError => kit_is); (case i_TooMany_BadSetting => kit_is); (case i_TooMany_Unlike => kit_is); (case i_TooMany_BadPegs => kit_is); (case i_TooMany_BadDiscs => kit_is); (case i_TooMany_BadCount => kit_is); (case i_TooMany_TooMany => kit_is); (case i_TooMany_BadMove => kit_is); (case i_TooMany_ValueError => kit_is); (case p_TooMany => k_is); (case qn => k_is); (case qt => k_is); (case pb => k_is); (case pd => k_is); (case pt => k_is); (case z0 => k_is); (case z1 => k_is); (case z2 => k_is); (case z3 => k_is); (case z4 => k_is); (case z5 => k_is); (case z6 => k_is); (case z7 => k_is); (case z8 => k_is); (case z9 => k_is); (case z10 => k_is); (case z11 => k_is); (case z12 => k_is)
