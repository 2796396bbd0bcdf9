import PyProof.Rows.All
import Wide.All
import OpenK.AllK
import Wide.FinOn
import HandS.ForMost
import HandS.ForExc
import HandS.Deep
import HandS.IsInst
import HandS.TupAny
import HandS.TupMul
import HandS.Style
import HandS.Walk
import HandS.RevRange
import HandS.Wide
import KE.GoesMore
import HandS.SortRule
import HandS.SortInts
import HandS.ExcIs
import HandS.ExcField
import HandS.ExcInit
import HandS.ExcOwn
import HandS.WordsExc
import PyProof.LongRange
import KE.KExcIs
import KE.BitLaws
import HandS.Conv
import HandS.TupLen
import KE.KDictDisplayH
import PySem.Challenge.RW_pegdiscs_k08_by_going_out
set_option Elab.async false
set_option linter.all false
set_option maxRecDepth 100000
set_option maxHeartbeats 4000000
/-! Pd: the readings of HandS, told over data alone: an environment of data in place of slots and addresses. -/
namespace Pd
open PySem PySem.Spec PyProof.Rows L2

/-! ### heaps -/
def Ex (H H' : Hp) : Prop := ∀ a o, H a = some o → H' a = some o
theorem Ex.refl (H : Hp) : Ex H H := fun _ _ h => h
theorem Ex.trans {H H1 H2 : Hp} (a : Ex H H1) (b : Ex H1 H2) : Ex H H2 := fun x o h => b x o (a x o h)
theorem Ex.new {H : Hp} {p : Addr} {o : HO} (h : H p = none) : Ex H (upd H p o) := fun a u e => by
  rw [upd_ne (ne_of_none e h)]
  exact e
theorem Ex.upd2 {G H : Hp} {p : Addr} {o : HO} (e : Ex G H) : Ex (upd G p o) (upd H p o) := fun a u q => by
  unfold upd at q ⊢
  split
  · rename_i h
    rw [if_pos h] at q
    exact q
  · rename_i h
    rw [if_neg h] at q
    exact e a u q
theorem Ex.mut {G H : Hp} {p : Addr} {o : HO} (e : Ex G H) (h : G p = none) : Ex G (upd H p o) := fun a u ha => by
  rw [upd_ne (ne_of_none ha h)]
  exact e a u ha
theorem Ex.free {G H : Hp} {p : Addr} (e : Ex G H) (h : H p = none) : G p = none := by
  cases q : G p with
  | none => rfl
  | some o =>
    rw [e p o q] at h
    cases h
theorem rd_ex {H H' : Hp} {a : Addr} {u : HO} (e : Ex H H') (h : Rd H a u) : Rd H' a u := by
  rcases h with h | ⟨o, h⟩
  · exact Or.inl (e a _ h)
  · exact Or.inr ⟨o, e a _ h⟩
theorem sqL_ex {K : PySem.W.Frag} {H H' : Hp} {a : Addr} {xs : List V} (e : Ex H H') (h : SqL K H a xs) : SqL K H' a xs := by
  rcases h with h | h
  · exact Or.inl (rd_ex e h)
  · exact Or.inr h
theorem sqT_ex {K : PySem.W.Frag} {H H' : Hp} {a : Addr} {xs : List V} (e : Ex H H') (h : SqT K H a xs) : SqT K H' a xs := by
  rcases h with h | h
  · exact Or.inl (rd_ex e h)
  · exact Or.inr h

/-- no tuple (a tuple never changes: it may come to be known at any time) -/
def Nt : HO → Prop
  | .tup _ => False
  | _ => True
/-- from (G, H) to (G', H'): G what is known and stands, H all that is tracked; what is new in G' was not in H -/
structure Run (G H G' H' : Hp) : Prop where
  g : Ex G G'
  h : Ex G' H'
  k : Ex H H'
  f : ∀ a o, G' a = some o → G a = none → Nt o → H a = none
theorem Run.refl {G H : Hp} (e : Ex G H) : Run G H G H := ⟨Ex.refl G, e, Ex.refl H, fun a o h n => by rw [h] at n; cases n⟩
theorem Run.trans {G H G1 H1 G2 H2 : Hp} (a : Run G H G1 H1) (b : Run G1 H1 G2 H2) : Run G H G2 H2 :=
  ⟨a.g.trans b.g, b.h, a.k.trans b.k, fun x o h n t => by
    cases q : G1 x with
    | none => exact a.k.free (b.f x o h q t)
    | some u =>
      have e := b.g x u q
      rw [h] at e
      cases e
      exact a.f x _ q n t⟩
/-- a new object, known -/
theorem Run.new {G H : Hp} {p : Addr} {o : HO} (e : Ex G H) (n : H p = none) : Run G H (upd G p o) (upd H p o) :=
  ⟨Ex.new (e.free n), e.upd2, Ex.new n, fun a u h q _ => by
    by_cases z : a = p
    · rw [z]
      exact n
    · rw [upd_ne z, q] at h
      cases h⟩
/-- a new object, not known (as yet) -/
theorem Run.newg {G H : Hp} {p : Addr} {o : HO} (e : Ex G H) (n : H p = none) : Run G H G (upd H p o) :=
  ⟨Ex.refl G, e.mut (e.free n), Ex.new n, fun a u h q => by rw [h] at q; cases q⟩
theorem Run.own {G H G' H' : Hp} {p : Addr} {o : HO} (r : Run G H G' H') (gp : G p = none) (hp : H p = some o) (nt : Nt o := by first | exact True.intro | assumption) : G' p = none ∧ H' p = some o := by
  refine ⟨?_, r.k p o hp⟩
  cases q : G' p with
  | none => rfl
  | some u =>
    have e := r.h p u q
    rw [r.k p o hp] at e
    cases e
    have z := r.f p _ q gp nt
    rw [hp] at z
    cases z
/-- what is not known and new since the beginning is changed -/
theorem Run.mut {G0 H0 G H : Hp} {p : Addr} {o : HO} (r : Run G0 H0 G H) (gp : G p = none) (hp : H0 p = none) : Run G0 H0 G (upd H p o) :=
  ⟨r.g, r.h.mut gp, r.k.mut hp, r.f⟩
/-- what is new since the beginning, and stands in H, comes to be known -/
theorem Run.know {G0 H0 G H : Hp} {p : Addr} {o : HO} (r : Run G0 H0 G H) (gp : G p = none) (hp : H0 p = none) (e : H p = some o) : Run G0 H0 (upd G p o) H :=
  ⟨r.g.trans (Ex.new gp), fun a u h => by
    by_cases z : a = p
    · rw [z, upd_same] at h
      rw [z, e]
      exact h
    · rw [upd_ne z] at h
      exact r.h a u h, r.k, fun a u h n t => by
    by_cases z : a = p
    · rw [z]
      exact hp
    · rw [upd_ne z] at h
      exact r.f a u h n t⟩
/-- a tuple that stands in H comes to be known -/
theorem Run.seeT {G H : Hp} {p : Addr} {xs : List V} (e : Ex G H) (hp : H p = some (.tup xs)) : Run G H (fun a => if a = p then some (.tup xs) else G a) H :=
  ⟨fun a u h => by
    by_cases z : a = p
    · have y := e a u h
      rw [z, hp] at y
      simp only [if_pos z]
      exact y
    · simp only [if_neg z]
      exact h, fun a u h => by
    by_cases z : a = p
    · simp only [if_pos z] at h
      rw [z, hp]
      exact h
    · simp only [if_neg z] at h
      exact e a u h, Ex.refl H, fun a u h n t => by
    by_cases z : a = p
    · simp only [if_pos z] at h
      cases h
      exact t.elim
    · simp only [if_neg z] at h
      rw [n] at h
      cases h⟩
theorem Run.from {G0 G1 H0 G H : Hp} (r : Run G1 H0 G H) (e : Ex G0 G1) (f : ∀ a o, G1 a = some o → G0 a = none → Nt o → H0 a = none) : Run G0 H0 G H :=
  ⟨e.trans r.g, r.h, r.k, fun a o h n t => by
    cases q : G1 a with
    | none => exact r.f a o h q t
    | some u =>
      have z := r.g a u q
      rw [h] at z
      cases z
      exact f a _ q n t⟩

/-! ### values that are data -/
/-- an exception that is held, its class cls, its dict d -/
def exT (cls : Value) (d : Option Addr) (a : Addr) : HO := .ext fun h => ∃ (oe : Obj) (vs : Array Value), h.get? a = some oe ∧ Zc cls d oe ∧ oe.data = .fields vs
/-- its field -/
inductive ExF (H : Hp) : Option Addr → PyData → Prop
  | non : ExF H none (.tuple [])
  | atI {dd : Addr} {i : Int} : H dd = some (.xd [("at", .int i)]) → ExF H (some dd) (.tuple [.int i])
  | atN {dd : Addr} : H dd = some (.xd [("at", .non)]) → ExF H (some dd) (.tuple [.none])
/-- the script -/
abbrev dScr (ns : List Int) : PyData := .dict [(.none, .list (ns.map PyData.int))]
/-- an error of the class at C, its field f -/
abbrev dExc (C : Addr) (f : PyData) : PyData := .dict [(.int (C : Int), f)]
abbrev dEmp : PyData := .dict []
/-- a built-in class, an own one (or a def) at C -/
abbrev dTy (n : String) : PyData := .dict [(.bool false, .list (n.toList.map fun ch => PyData.int (ch.toNat : Int)))]
abbrev dCls (C : Addr) : PyData := .dict [(.bool true, .int (C : Int))]
mutual
inductive Rp (K : PySem.W.Frag) (H : Hp) : V → PyData → Prop
  | non : Rp K H .non .none
  | bl (b : Bool) : Rp K H (.bl b) (.bool b)
  | int (i : Int) : Rp K H (.int i) (.int i)
  | str (x : Str) : Rp K H (.str x) (.str x)
  | lst {a : Addr} {xs : List V} {ds : List PyData} : H a = some (.lst xs) → RpAll K H xs ds → Rp K H (.ref a) (.list ds)
  | tup {a : Addr} {xs : List V} {ds : List PyData} : H a = some (.tup xs) → RpAll K H xs ds → Rp K H (.ref a) (.tuple ds)
  | emp {a : Addr} : H a = some (.dK []) → Rp K H (.ref a) dEmp
  | scr {a : Addr} {ns : List Int} : SqL K H a (ns.map V.int) → Rp K H (.ref a) (dScr ns)
  | exc {a C : Addr} {d : Option Addr} {f : PyData} : H a = some (exT (.ref C) d a) → ExF H d f → Rp K H (.ref a) (dExc C f)
  | ty (n : String) : Rp K H (.ty n) (dTy n)
  | cls (C : Addr) : Rp K H (.ref C) (dCls C)
inductive RpAll (K : PySem.W.Frag) (H : Hp) : List V → List PyData → Prop
  | nil : RpAll K H [] []
  | cons {v : V} {vs : List V} {d : PyData} {ds : List PyData} : Rp K H v d → RpAll K H vs ds → RpAll K H (v :: vs) (d :: ds)
end
section
variable {K : PySem.W.Frag} {G H H' : Hp} {v : V} {d : PyData} {vs us : List V} {ds es : List PyData}
theorem ExF.ex {o : Option Addr} (e : Ex H H') : ExF H o d → ExF H' o d
  | .non => .non
  | .atI h => .atI (e _ _ h)
  | .atN h => .atN (e _ _ h)
mutual
theorem Rp.ex (e : Ex H H') : ∀ {v : V} {d : PyData}, Rp K H v d → Rp K H' v d
  | _, _, .non => .non
  | _, _, .bl b => .bl b
  | _, _, .int i => .int i
  | _, _, .str x => .str x
  | _, _, .lst h r => .lst (e _ _ h) (RpAll.ex e r)
  | _, _, .tup h r => .tup (e _ _ h) (RpAll.ex e r)
  | _, _, .emp h => .emp (e _ _ h)
  | _, _, .scr h => .scr (sqL_ex e h)
  | _, _, .exc h f => .exc (e _ _ h) (f.ex e)
  | _, _, .ty n => .ty n
  | _, _, .cls C => .cls C
theorem RpAll.ex (e : Ex H H') : ∀ {vs : List V} {ds : List PyData}, RpAll K H vs ds → RpAll K H' vs ds
  | _, _, .nil => .nil
  | _, _, .cons h r => .cons (Rp.ex e h) (RpAll.ex e r)
end
theorem RpAll.length : ∀ {vs : List V} {ds : List PyData}, RpAll K H vs ds → vs.length = ds.length
  | _, _, .nil => rfl
  | _, _, .cons _ r => by
    rw [List.length_cons, List.length_cons, RpAll.length r]
theorem RpAll.append : ∀ {vs : List V} {ds : List PyData}, RpAll K H vs ds → RpAll K H us es → RpAll K H (vs ++ us) (ds ++ es)
  | _, _, .nil, s => s
  | _, _, .cons h r, s => .cons h (RpAll.append r s)
theorem RpAll.get : ∀ {vs : List V} {ds : List PyData} {i : Nat}, RpAll K H vs ds → ds[i]? = some d → ∃ v, vs[i]? = some v ∧ Rp K H v d
  | _, _, _, .nil, e => by simp at e
  | _, _, 0, .cons h _, e => by
    have q := Option.some.inj e
    subst q
    exact ⟨_, rfl, h⟩
  | _, _, i + 1, .cons _ r, e => RpAll.get (i := i) r e
theorem RpAll.getV : ∀ {vs : List V} {ds : List PyData} {i : Nat}, RpAll K H vs ds → vs[i]? = some v → ∃ d, ds[i]? = some d ∧ Rp K H v d
  | _, _, _, .nil, e => by simp at e
  | _, _, 0, .cons h _, e => by
    have q := Option.some.inj e
    subst q
    exact ⟨_, rfl, h⟩
  | _, _, i + 1, .cons _ r, e => RpAll.getV (i := i) r e
theorem RpAll.take : ∀ {vs : List V} {ds : List PyData} (n : Nat), RpAll K H vs ds → RpAll K H (vs.take n) (ds.take n)
  | _, _, 0, _ => .nil
  | _, _, n + 1, .nil => .nil
  | _, _, n + 1, .cons h r => .cons h (RpAll.take n r)
theorem RpAll.drop : ∀ {vs : List V} {ds : List PyData} (n : Nat), RpAll K H vs ds → RpAll K H (vs.drop n) (ds.drop n)
  | _, _, 0, r => r
  | _, _, n + 1, .nil => .nil
  | _, _, n + 1, .cons _ r => RpAll.drop n r
theorem RpAll.reverse : ∀ {vs : List V} {ds : List PyData}, RpAll K H vs ds → RpAll K H vs.reverse ds.reverse
  | _, _, .nil => .nil
  | _, _, .cons h r => by
    rw [List.reverse_cons, List.reverse_cons]
    exact (RpAll.reverse r).append (.cons h .nil)
theorem RpAll.ints : ∀ (ns : List Int), RpAll K H (ns.map V.int) (ns.map PyData.int)
  | [] => .nil
  | n :: ns => .cons (.int n) (RpAll.ints ns)
theorem RpAll.split : ∀ {ds : List PyData} {vs : List V}, RpAll K H vs (ds ++ es) → ∃ xs ys, vs = xs ++ ys ∧ RpAll K H xs ds ∧ RpAll K H ys es
  | [], vs, h => ⟨[], vs, rfl, .nil, h⟩
  | d :: ds, _, .cons h r => by
    obtain ⟨xs, ys, e, a, b⟩ := RpAll.split (ds := ds) r
    exact ⟨_ :: xs, ys, by rw [e]; rfl, .cons h a, b⟩
theorem RpAll.rep {v : V} {d : PyData} (h : Rp K H v d) : ∀ n : Nat, RpAll K H (List.replicate n v) (List.replicate n d)
  | 0 => .nil
  | n + 1 => .cons h (RpAll.rep h n)
theorem Rp.int_inv {i : Int} (h : Rp K H v (.int i)) : v = .int i := by cases h; rfl
theorem Rp.bool_inv {b : Bool} (h : Rp K H v (.bool b)) : v = .bl b := by cases h; rfl
theorem Rp.none_inv (h : Rp K H v .none) : v = .non := by cases h; rfl
theorem Rp.str_inv {x : Str} (h : Rp K H v (.str x)) : v = .str x := by cases h; rfl
theorem Rp.tup_inv (h : Rp K H v (.tuple ds)) : ∃ a xs, v = .ref a ∧ H a = some (.tup xs) ∧ RpAll K H xs ds := by
  cases h with
  | tup h r => exact ⟨_, _, rfl, h, r⟩
theorem Rp.lst_inv (h : Rp K H v (.list ds)) : ∃ a xs, v = .ref a ∧ H a = some (.lst xs) ∧ RpAll K H xs ds := by
  cases h with
  | lst h r => exact ⟨_, _, rfl, h, r⟩
theorem RpAll.ints_inv : ∀ {ns : List Int} {vs : List V}, RpAll K H vs (ns.map PyData.int) → vs = ns.map V.int
  | [], _, .nil => rfl
  | n :: ns, _, .cons h r => by
    rw [h.int_inv, RpAll.ints_inv r]
    rfl
theorem RpAll.bools_inv : ∀ {ns : List Bool} {vs : List V}, RpAll K H vs (ns.map PyData.bool) → vs = ns.map V.bl
  | [], _, .nil => rfl
  | n :: ns, _, .cons h r => by
    rw [h.bool_inv, RpAll.bools_inv r]
    rfl
mutual
theorem Rp.dp : ∀ {v : V} {d : PyData}, d.canLay0 = true → Rp K H v d → Dp K H v d
  | _, _, _, .non => .non
  | _, _, _, .bl b => .bl b
  | _, _, _, .int i => .int i
  | _, _, _, .str x => .str x
  | _, _, c, .lst h r => .lst (SqL.of h) (RpAll.dp (by simpa [PyData.canLay0] using c) r)
  | _, .dict _, c, _ => by simp [PyData.canLay0] at c
  | _, _, c, .tup h r => .tup (SqT.of h) (RpAll.dp (by simpa [PyData.canLay0] using c) r)
theorem RpAll.dp : ∀ {vs : List V} {ds : List PyData}, PyData.canLayAll0 ds = true → RpAll K H vs ds → DpAll K H vs ds
  | _, _, _, .nil => .nil
  | _, _, c, .cons h r => by
    have c' := (Bool.and_eq_true_iff.mp (show (PyData.canLay0 _ && PyData.canLayAll0 _) = true from by simpa [PyData.canLayAll0] using c))
    exact .cons (Rp.dp c'.1 h) (RpAll.dp c'.2 r)
end
end

/-! ### states -/
/-- what a slot holds: data; or a list of its own that nothing else knows, and that may be changed -/
inductive Cel where
  | val (d : PyData)
  | own (ds : List PyData)
abbrev DEnv := List (Option Cel)
abbrev cv (d : PyData) : Option Cel := some (Cel.val d)
abbrev ci (i : Int) : Option Cel := some (Cel.val (.int i))

structure EnvOk (K : PySem.W.Frag) (H0 G H : Hp) (σ : L2.St) (δ : DEnv) : Prop where
  len : σ.length = δ.length
  val : ∀ (i : Nat) (d : PyData), δ[i]? = some (some (Cel.val d)) → ∃ v, σ[i]? = some (some v) ∧ Rp K G v d
  own : ∀ (i : Nat) (ds : List PyData), δ[i]? = some (some (Cel.own ds)) → ∃ p vs, σ[i]? = some (some (V.ref p)) ∧ H0 p = none ∧ G p = none ∧ H p = some (.lst vs) ∧ RpAll K G vs ds
  dis : ∀ (i j : Nat) (ds es : List PyData), δ[i]? = some (some (Cel.own ds)) → δ[j]? = some (some (Cel.own es)) → σ[i]? = σ[j]? → i = j
/-- the heaps at the beginning; what is wished of an exception -/
structure Cc where
  G : Hp
  H : Hp
  W : WX
def Sta (K : PySem.W.Frag) (c : Cc) (δ : DEnv) (σ : L2.St) (ts : List V) (td : List PyData) (H : Hp) : Prop :=
  ∃ G, Run c.G c.H G H ∧ EnvOk K c.H G H σ δ ∧ RpAll K G ts td
/-- .. and a new list at p -/
def StaN (K : PySem.W.Frag) (c : Cc) (δ : DEnv) (σ : L2.St) (ts : List V) (td : List PyData) (p : Addr) (ds : List PyData) (H : Hp) : Prop :=
  ∃ G vs, Run c.G c.H G H ∧ EnvOk K c.H G H σ δ ∧ RpAll K G ts td ∧ c.H p = none ∧ G p = none ∧ H p = some (.lst vs) ∧ RpAll K G vs ds ∧ ∀ (i : Nat) (es : List PyData), δ[i]? = some (some (Cel.own es)) → σ[i]? ≠ some (some (V.ref p))
section
variable {K : PySem.W.Frag} {c : Cc} {δ : DEnv} {σ : L2.St} {ts : List V} {td : List PyData} {G H G' H' H0 : Hp} {p : Addr} {d : PyData} {ds : List PyData} {v : V}
theorem EnvOk.run (e : EnvOk K H0 G H σ δ) (r : Run G H G' H') : EnvOk K H0 G' H' σ δ :=
  ⟨e.len, fun i d h => by
    obtain ⟨v, a, b⟩ := e.val i d h
    exact ⟨v, a, b.ex r.g⟩, fun i ds h => by
    obtain ⟨p, vs, a, b, c, f, g⟩ := e.own i ds h
    obtain ⟨c', f'⟩ := r.own c f
    exact ⟨p, vs, a, b, c', f', g.ex r.g⟩, e.dis⟩
/-- a change of something that is neither known nor owned -/
theorem EnvOk.mut {o : HO} (e : EnvOk K H0 G H σ δ) (ne : ∀ (i : Nat) (es : List PyData), δ[i]? = some (some (Cel.own es)) → σ[i]? ≠ some (some (V.ref p))) : EnvOk K H0 G (upd H p o) σ δ :=
  ⟨e.len, e.val, fun i ds h => by
    obtain ⟨q, vs, a, b, c, f, g⟩ := e.own i ds h
    have nq : q ≠ p := fun z => ne i ds h (by rw [a, z])
    exact ⟨q, vs, a, b, c, by rw [upd_ne nq]; exact f, g⟩, e.dis⟩
theorem EnvOk.know {vs : List V} (e : EnvOk K H0 G H σ δ) (ne : ∀ (i : Nat) (es : List PyData), δ[i]? = some (some (Cel.own es)) → σ[i]? ≠ some (some (V.ref p))) (gp : G p = none) : EnvOk K H0 (upd G p (.lst vs)) H σ δ :=
  ⟨e.len, fun i d h => by
    obtain ⟨v, a, b⟩ := e.val i d h
    exact ⟨v, a, b.ex (Ex.new gp)⟩, fun i ds h => by
    obtain ⟨q, vs, a, b, c, f, g⟩ := e.own i ds h
    have nq : q ≠ p := fun z => ne i ds h (by rw [a, z])
    exact ⟨q, vs, a, b, by rw [upd_ne nq]; exact c, f, g.ex (Ex.new gp)⟩, e.dis⟩
theorem Sta.run (s : Sta K c δ σ ts td H) : ∃ G, Run c.G c.H G H ∧ EnvOk K c.H G H σ δ ∧ RpAll K G ts td := s
theorem StaN.sta (s : StaN K c δ σ ts td p ds H) : Sta K c δ σ (.ref p :: ts) (.list ds :: td) H := by
  obtain ⟨G, vs, r, e, t, hp, gp, q, a, ne⟩ := s
  exact ⟨upd G p (.lst vs), r.know gp hp q, e.know ne gp, .cons (.lst upd_same (a.ex (Ex.new gp))) (t.ex (Ex.new gp))⟩
theorem Sta.pop (s : Sta K c δ σ (v :: ts) (d :: td) H) : Sta K c δ σ ts td H := by
  obtain ⟨G, r, e, t⟩ := s
  cases t with
  | cons _ t => exact ⟨G, r, e, t⟩
theorem EnvOk.set {i : Nat} (e : EnvOk K H0 G H σ δ) (h : Rp K G v d) : EnvOk K H0 G H (σ.set i (some v)) (δ.set i (some (Cel.val d))) := by
  have hne : ∀ {j : Nat} {x : Option Cel}, j ≠ i → (δ.set i (some (Cel.val d)))[j]? = some x → δ[j]? = some x := fun {j x} hj q => by
    rw [List.getElem?_set_ne (Ne.symm hj)] at q
    exact q
  have own_ne : ∀ {j : Nat} {ds : List PyData}, (δ.set i (some (Cel.val d)))[j]? = some (some (Cel.own ds)) → j ≠ i := fun {j ds} q z => by
    subst z
    by_cases hl : j < δ.length
    · rw [List.getElem?_set_self hl] at q
      cases q
    · rw [List.getElem?_eq_none (by rw [List.length_set]; omega)] at q
      cases q
  refine ⟨by rw [List.length_set, List.length_set, e.len], fun j d' q => ?_, fun j ds q => ?_, fun j k ds es q1 q2 q3 => ?_⟩
  · by_cases hj : j = i
    · subst hj
      by_cases hl : j < δ.length
      · rw [List.getElem?_set_self hl] at q
        cases q
        exact ⟨v, by rw [List.getElem?_set_self (by rw [e.len]; exact hl)], h⟩
      · rw [List.getElem?_eq_none (by rw [List.length_set]; omega)] at q
        cases q
    · obtain ⟨w, a, b⟩ := e.val j d' (hne hj q)
      exact ⟨w, by rw [List.getElem?_set_ne (Ne.symm hj)]; exact a, b⟩
  · have hj := own_ne q
    obtain ⟨p, vs, a, b⟩ := e.own j ds (hne hj q)
    exact ⟨p, vs, by rw [List.getElem?_set_ne (Ne.symm hj)]; exact a, b⟩
  · have hj := own_ne q1
    have hk := own_ne q2
    rw [List.getElem?_set_ne (Ne.symm hj), List.getElem?_set_ne (Ne.symm hk)] at q3
    exact e.dis j k ds es (hne hj q1) (hne hk q2) q3
theorem Sta.set {i : Nat} (s : Sta K c δ σ (v :: ts) (d :: td) H) : Sta K c (δ.set i (some (Cel.val d))) (σ.set i (some v)) ts td H := by
  obtain ⟨G, r, e, t⟩ := s
  cases t with
  | cons h t => exact ⟨G, r, e.set h, t⟩
theorem StaN.set {i : Nat} (s : StaN K c δ σ ts td p ds H) : Sta K c (δ.set i (some (Cel.own ds))) (σ.set i (some (V.ref p))) ts td H := by
  obtain ⟨G, vs, r, e, t, hp, gp, q, a, ne⟩ := s
  have hne : ∀ {j : Nat} {x : Option Cel}, j ≠ i → (δ.set i (some (Cel.own ds)))[j]? = some x → δ[j]? = some x := fun {j x} hj q => by
    rw [List.getElem?_set_ne (Ne.symm hj)] at q
    exact q
  have at_i : ∀ {es : Cel}, (δ.set i (some (Cel.own ds)))[i]? = some (some es) → es = Cel.own ds ∧ i < δ.length := fun {es} q => by
    by_cases hl : i < δ.length
    · rw [List.getElem?_set_self hl] at q
      cases q
      exact ⟨rfl, hl⟩
    · rw [List.getElem?_eq_none (by rw [List.length_set]; omega)] at q
      cases q
  refine ⟨G, r, ⟨by rw [List.length_set, List.length_set, e.len], fun j d' q => ?_, fun j ds' q' => ?_, fun j k es fs q1 q2 q3 => ?_⟩, t⟩
  · by_cases hj : j = i
    · subst hj
      have z := (at_i q).1
      cases z
    · obtain ⟨w, x, y⟩ := e.val j d' (hne hj q)
      exact ⟨w, by rw [List.getElem?_set_ne (Ne.symm hj)]; exact x, y⟩
  · by_cases hj : j = i
    · subst hj
      obtain ⟨z, hl⟩ := at_i q'
      cases z
      exact ⟨p, vs, by rw [List.getElem?_set_self (by rw [e.len]; exact hl)], hp, gp, q, a⟩
    · obtain ⟨w, x, y⟩ := e.own j ds' (hne hj q')
      exact ⟨w, x, by rw [List.getElem?_set_ne (Ne.symm hj)]; exact y.1, y.2⟩
  · by_cases hj : j = i
    · subst hj
      obtain ⟨_, hl⟩ := at_i q1
      by_cases hk : k = j
      · exact hk.symm
      · rw [List.getElem?_set_self (by rw [e.len]; exact hl), List.getElem?_set_ne (Ne.symm hk)] at q3
        exact absurd q3.symm (ne k fs (hne hk q2))
    · by_cases hk : k = i
      · subst hk
        obtain ⟨_, hl⟩ := at_i q2
        rw [List.getElem?_set_self (by rw [e.len]; exact hl), List.getElem?_set_ne (Ne.symm hj)] at q3
        exact absurd q3 (ne j es (hne hj q1))
      · rw [List.getElem?_set_ne (Ne.symm hj), List.getElem?_set_ne (Ne.symm hk)] at q3
        exact e.dis j k es fs (hne hj q1) (hne hk q2) q3
/-- less is known -/
def Le (δ' δ : DEnv) : Prop := δ'.length = δ.length ∧ ∀ (i : Nat) (x : Cel), δ'[i]? = some (some x) → δ[i]? = some (some x)
theorem EnvOk.le {δ' : DEnv} (e : EnvOk K H0 G H σ δ) (h : Le δ' δ) : EnvOk K H0 G H σ δ' :=
  ⟨e.len.trans h.1.symm, fun i d q => e.val i d (h.2 _ _ q), fun i ds q => e.own i ds (h.2 _ _ q), fun i j ds es q1 q2 => e.dis i j ds es (h.2 _ _ q1) (h.2 _ _ q2)⟩
theorem Sta.le {δ' : DEnv} (s : Sta K c δ σ ts td H) (h : Le δ' δ) : Sta K c δ' σ ts td H := by
  obtain ⟨G, r, e, t⟩ := s
  exact ⟨G, r, e.le h, t⟩
/-- an own list comes to be data -/
theorem Sta.freeze {i : Nat} (s : Sta K c δ σ ts td H) (h : δ[i]? = some (some (Cel.own ds))) : Sta K c (δ.set i (some (Cel.val (.list ds)))) σ ts td H := by
  obtain ⟨G, r, e, t⟩ := s
  obtain ⟨p, vs, sp, hp, gp, q, a⟩ := e.own i ds h
  obtain ⟨hi, _⟩ := List.getElem?_eq_some_iff.mp h
  have ne : ∀ (j : Nat) (es : List PyData), (δ.set i (some (Cel.val (.list ds))))[j]? = some (some (Cel.own es)) → δ[j]? = some (some (Cel.own es)) ∧ σ[j]? ≠ some (some (V.ref p)) := fun j es z => by
    by_cases hj : j = i
    · subst hj
      rw [List.getElem?_set_self hi] at z
      cases z
    · rw [List.getElem?_set_ne (Ne.symm hj)] at z
      exact ⟨z, fun y => hj (e.dis j i es ds z h (by rw [y, sp]))⟩
  refine ⟨upd G p (.lst vs), r.know gp hp q, ⟨by rw [List.length_set, e.len], fun j d' z => ?_, fun j es z => ?_, fun j k es fs q1 q2 q3 => ?_⟩, t.ex (Ex.new gp)⟩
  · by_cases hj : j = i
    · subst hj
      rw [List.getElem?_set_self hi] at z
      cases z
      exact ⟨_, sp, .lst upd_same (a.ex (Ex.new gp))⟩
    · rw [List.getElem?_set_ne (Ne.symm hj)] at z
      obtain ⟨w, x, y⟩ := e.val j d' z
      exact ⟨w, x, y.ex (Ex.new gp)⟩
  · obtain ⟨z1, z2⟩ := ne j es z
    obtain ⟨q', vs', a1, a2, a3, a4, a5⟩ := e.own j es z1
    have nq : q' ≠ p := fun y => z2 (by rw [a1, y])
    exact ⟨q', vs', a1, a2, by rw [upd_ne nq]; exact a3, a4, a5.ex (Ex.new gp)⟩
  · exact e.dis j k es fs (ne j es q1).1 (ne k fs q2).1 q3
end
end Pd

namespace Pd
open PySem PySem.Spec PyProof.Rows L2

/-! ### what evaluates to what -/
section
variable (K : PySem.W.Frag) (c : Cc)
def EvD (te : TE) (δ : DEnv) (d : PyData) : Prop := ∀ (σ : L2.St) (H : Hp) (ts : List V) (td : List PyData), Sta K c δ σ ts td H → ∀ Q : VK, (∀ v H', Sta K c δ σ (v :: ts) (d :: td) H' → Q v H') → te σ H Q
/-- a new list -/
def EvN (te : TE) (δ : DEnv) (ds : List PyData) : Prop := ∀ (σ : L2.St) (H : Hp) (ts : List V) (td : List PyData), Sta K c δ σ ts td H → ∀ Q : VK, (∀ p H', StaN K c δ σ ts td p ds H' → Q (.ref p) H') → te σ H Q
def EvT (tt : TT) (δ : DEnv) (b : Bool) : Prop := ∀ (σ : L2.St) (H : Hp) (ts : List V) (td : List PyData), Sta K c δ σ ts td H → ∀ Q : Bool → Hp → Prop, (∀ H', Sta K c δ σ ts td H' → Q b H') → tt σ H Q
def EvA (ta : TA) (δ : DEnv) (ds : List PyData) : Prop := ∀ (σ : L2.St) (H : Hp) (ts : List V) (td : List PyData), Sta K c δ σ ts td H → ∀ Q : List V → Hp → Prop, (∀ vs H', vs.length = ds.length → Sta K c δ σ (vs ++ ts) (ds ++ td) H' → Q vs H') → ta σ H Q
def EvO (to : TO) (δ : DEnv) (o : Option Int) : Prop := ∀ (σ : L2.St) (H : Hp) (ts : List V) (td : List PyData), Sta K c δ σ ts td H → ∀ Q : Option Int → Hp → Prop, (∀ H', Sta K c δ σ ts td H' → Q o H') → to σ H Q
end
/-- an operation on two values; one that makes a list; a call by values -/
def OpD (K : PySem.W.Frag) (r : R2) (x y z : PyData) : Prop := ∀ (G H : Hp) (v u : V), Ex G H → Rp K G v x → Rp K G u y → ∀ Q : VK, (∀ w G' H', Run G H G' H' → Rp K G' w z → Q w H') → r v u H Q
def OpN (K : PySem.W.Frag) (r : R2) (x y : PyData) (zs : List PyData) : Prop := ∀ (G H : Hp) (v u : V), Ex G H → Rp K G v x → Rp K G u y → ∀ Q : VK, (∀ p vs G' H', Run G H G' H' → H p = none → G' p = none → H' p = some (.lst vs) → RpAll K G' vs zs → Q (.ref p) H') → r v u H Q
def CallD (K : PySem.W.Frag) (r : List V → Hp → VK → Prop) (ds : List PyData) (z : PyData) : Prop := ∀ (G H : Hp) (vs : List V), Ex G H → RpAll K G vs ds → ∀ Q : VK, (∀ w G' H', Run G H G' H' → Rp K G' w z → Q w H') → r vs H Q
def CallN (K : PySem.W.Frag) (r : List V → Hp → VK → Prop) (ds : List PyData) (zs : List PyData) : Prop := ∀ (G H : Hp) (vs : List V), Ex G H → RpAll K G vs ds → ∀ Q : VK, (∀ p us G' H', Run G H G' H' → H p = none → G' p = none → H' p = some (.lst us) → RpAll K G' us zs → Q (.ref p) H') → r vs H Q
/-- a def's promise, by data -/
def Pr (K : PySem.W.Frag) (vs : List V) (H : Hp) (Q : VK) (ds : List PyData) (z : PyData) : Prop := ∃ G, Ex G H ∧ RpAll K G vs ds ∧ ∀ w G' H', Run G H G' H' → Rp K G' w z → Q w H'
def PrN (K : PySem.W.Frag) (vs : List V) (H : Hp) (Q : VK) (ds : List PyData) (zs : List PyData) : Prop := ∃ G, Ex G H ∧ RpAll K G vs ds ∧ ∀ p us G' H', Run G H G' H' → H p = none → G' p = none → H' p = some (.lst us) → RpAll K G' us zs → Q (.ref p) H'

section
variable {K : PySem.W.Frag} {c : Cc} {δ : DEnv} {x y z d : PyData} {ds es zs : List PyData} {te ta tb tx : TE} {tr : TA} {t u : TT} {r : R2} {rc : List V → Hp → VK → Prop} {i j : Int} {a b : Bool}
theorem EvN.val (h : EvN K c te δ ds) : EvD K c te δ (.list ds) := fun σ H ts td s Q q => h σ H ts td s Q fun p H' s' => q _ H' s'.sta
theorem EvD.eq (h : EvD K c te δ x) (e : x = y) : EvD K c te δ y := e ▸ h
theorem EvT.eq (h : EvT K c t δ a) (e : a = b) : EvT K c t δ b := e ▸ h
theorem EvN.eq (h : EvN K c te δ ds) (e : ds = es) : EvN K c te δ es := e ▸ h
theorem ev_var {n : Nat} (h : δ[n]? = some (some (Cel.val d))) : EvD K c (tVar n) δ d := fun σ H ts td s Q q => by
  obtain ⟨G, r, e, t⟩ := s
  obtain ⟨v, a, b⟩ := e.val n d h
  exact ⟨v, a, q v H ⟨G, r, e, .cons b t⟩⟩
theorem ev_push {v : V} (h : ∀ G, Rp K G v d) {σ : L2.St} {H : Hp} {ts : List V} {td : List PyData} (s : Sta K c δ σ ts td H) : Sta K c δ σ (v :: ts) (d :: td) H := by
  obtain ⟨G, r, e, t⟩ := s
  exact ⟨G, r, e, .cons (h G) t⟩
theorem ev_c {v : V} (h : ∀ G, Rp K G v d) : EvD K c (tC v) δ d := fun _ H _ _ s _ q => q v H (ev_push h s)
theorem ev_int : EvD K c (tC (.int i)) δ (.int i) := ev_c fun _ => .int i
theorem ev_bl : EvD K c (tC (.bl a)) δ (.bool a) := ev_c fun _ => .bl a
theorem ev_non : EvD K c (tC .non) δ .none := ev_c fun _ => .non
theorem ev_str {s : Str} : EvD K c (tC (.str s)) δ (.str s) := ev_c fun _ => .str s
theorem ev_op (ha : EvD K c ta δ x) (hb : EvD K c tb δ y) (hr : OpD K r x y z) : EvD K c (tOp r ta tb) δ z := fun σ H ts td s Q q =>
  ha σ H ts td s _ fun v H1 s1 => hb σ H1 _ _ s1 _ fun u H2 s2 => by
    obtain ⟨G, rn, e, t⟩ := s2
    cases t with
    | cons hu t =>
      cases t with
      | cons hv t => exact hr G H2 v u rn.h hv hu Q fun w G' H' r' hw => q w H' ⟨G', rn.trans r', e.run r', .cons hw (t.ex r'.g)⟩
theorem own_ne {σ : L2.St} {H0 G H : Hp} {p : Addr} (e : EnvOk K H0 G H σ δ) (n : H p = none) : ∀ (i : Nat) (es : List PyData), δ[i]? = some (some (Cel.own es)) → σ[i]? ≠ some (some (V.ref p)) := fun i es h z => by
  obtain ⟨q, vs, a, b, c, f, g⟩ := e.own i es h
  rw [z] at a
  cases a
  rw [n] at f
  cases f
theorem ev_opN (ha : EvD K c ta δ x) (hb : EvD K c tb δ y) (hr : OpN K r x y zs) : EvN K c (tOp r ta tb) δ zs := fun σ H ts td s Q q =>
  ha σ H ts td s _ fun v H1 s1 => hb σ H1 _ _ s1 _ fun u H2 s2 => by
    obtain ⟨G, rn, e, t⟩ := s2
    cases t with
    | cons hu t =>
      cases t with
      | cons hv t => exact hr G H2 v u rn.h hv hu Q fun p vs G' H' r' hp gp ep hw => q p H' ⟨G', vs, rn.trans r', e.run r', t.ex r'.g, rn.k.free hp, gp, ep, hw, own_ne e hp⟩
theorem ev_un {ru : V → Hp → VK → Prop} (ha : EvD K c ta δ x) (hr : ∀ (G H : Hp) (v : V), Ex G H → Rp K G v x → ∀ Q : VK, (∀ w, Rp K G w z → Q w H) → ru v H Q) : EvD K c (tUn ru ta) δ z := fun σ H ts td s Q q =>
  ha σ H ts td s _ fun v H1 s1 => by
    obtain ⟨G, rn, e, t⟩ := s1
    cases t with
    | cons hv t => exact hr G H1 v rn.h hv Q fun w hw => q w H1 ⟨G, rn, e, .cons hw t⟩
theorem ea_nil : EvA K c tNil δ [] := fun _ H _ _ s _ q => q [] H rfl s
theorem ea_cons (h : EvD K c te δ d) (hr : EvA K c tr δ ds) : EvA K c (tCons te tr) δ (d :: ds) := fun σ H ts td s Q q =>
  h σ H ts td s _ fun v H1 s1 => hr σ H1 _ _ s1 _ fun vs H2 hl s2 => by
    refine q (v :: vs) H2 (by rw [List.length_cons, List.length_cons, hl]) ?_
    obtain ⟨G, rn, e, t⟩ := s2
    obtain ⟨xs, ys, e1, r1, r2⟩ := RpAll.split (ds := ds) t
    have hx : xs = vs := List.append_inj_left e1.symm (by rw [r1.length, hl])
    subst hx
    have hy : ys = v :: ts := List.append_cancel_left e1.symm
    subst hy
    cases r2 with
    | cons h1 h2 => exact ⟨G, rn, e, .cons h1 (r1.append h2)⟩
/-- the values on the stack, apart -/
theorem sta_split {σ : L2.St} {H : Hp} {vs ts : List V} {td : List PyData} (hl : vs.length = ds.length) (s : Sta K c δ σ (vs ++ ts) (ds ++ td) H) : ∃ G, Run c.G c.H G H ∧ EnvOk K c.H G H σ δ ∧ RpAll K G vs ds ∧ RpAll K G ts td := by
  obtain ⟨G, rn, e, t⟩ := s
  obtain ⟨xs, ys, e1, r1, r2⟩ := RpAll.split (ds := ds) t
  have hx : xs = vs := List.append_inj_left e1.symm (by rw [r1.length, hl])
  subst hx
  have hy : ys = ts := List.append_cancel_left e1.symm
  subst hy
  exact ⟨G, rn, e, r1, r2⟩
theorem sz_le {n : Nat} (h : n ≤ 100000) : n ≤ sizeLine := Nat.le_trans h (by decide)
theorem sz_lt {n : Nat} (h : n < 100000) : n < sizeLine := Nat.lt_of_lt_of_le h (by decide)
theorem ev_tup (h : EvA K c tr δ ds) (hl : ds.length ≤ 100000 := by first | decide | (simp; done) | omega) : EvD K c (tTup tr) δ (.tuple ds) := fun σ H ts td s Q q =>
  h σ H ts td s _ fun vs H1 hv s1 => by
    obtain ⟨G, rn, e, r1, r2⟩ := sta_split hv s1
    refine ⟨sz_le (by rw [hv]; exact hl), fun p hp => q _ _ ?_⟩
    have r' := Run.new (o := .tup vs) rn.h hp
    exact ⟨_, rn.trans r', e.run r', .cons (.tup upd_same (r1.ex r'.g)) (r2.ex r'.g)⟩
theorem ev_lstN (h : EvA K c tr δ ds) (hl : ds.length ≤ 100000 := by first | decide | (simp; done) | omega) : EvN K c (tLst tr) δ ds := fun σ H ts td s Q q =>
  h σ H ts td s _ fun vs H1 hv s1 => by
    obtain ⟨G, rn, e, r1, r2⟩ := sta_split hv s1
    refine ⟨sz_le (by rw [hv]; exact hl), fun p hp => q _ _ ?_⟩
    have r' := Run.newg (o := .lst vs) rn.h hp
    exact ⟨G, vs, rn.trans r', e.run r', r2, rn.k.free hp, rn.h.free hp, upd_same, r1, own_ne e hp⟩
theorem ev_cb (h : EvA K c tr δ ds) (hr : CallD K rc ds z) : EvD K c (tCB rc tr) δ z := fun σ H ts td s Q q =>
  h σ H ts td s _ fun vs H1 hv s1 => by
    obtain ⟨G, rn, e, r1, r2⟩ := sta_split hv s1
    exact hr G H1 vs rn.h r1 Q fun w G' H' r' hw => q w H' ⟨G', rn.trans r', e.run r', .cons hw (r2.ex r'.g)⟩
theorem ev_cbN (h : EvA K c tr δ ds) (hr : CallN K rc ds zs) : EvN K c (tCB rc tr) δ zs := fun σ H ts td s Q q =>
  h σ H ts td s _ fun vs H1 hv s1 => by
    obtain ⟨G, rn, e, r1, r2⟩ := sta_split hv s1
    exact hr G H1 vs rn.h r1 Q fun p us G' H' r' hp gp ep hw => q p H' ⟨G', us, rn.trans r', e.run r', r2.ex r'.g, rn.k.free hp, gp, ep, hw, own_ne e hp⟩
theorem ev_call {sp : Sp} {E : XK} (h : EvA K c tr δ ds) (hs : ∀ vs H Q, Pr K vs H Q ds z → sp vs H Q E) : EvD K c (tCall sp [] E tr) δ z := fun σ H ts td s Q q =>
  h σ H ts td s _ fun vs H1 hv s1 => by
    obtain ⟨G, rn, e, r1, r2⟩ := sta_split hv s1
    show sp (vs ++ []) H1 Q E
    rw [List.append_nil]
    exact hs vs H1 Q ⟨G, rn.h, r1, fun w G' H' r' hw => q w H' ⟨G', rn.trans r', e.run r', .cons hw (r2.ex r'.g)⟩⟩
theorem ev_callN {sp : Sp} {E : XK} (h : EvA K c tr δ ds) (hs : ∀ vs H Q, PrN K vs H Q ds zs → sp vs H Q E) : EvN K c (tCall sp [] E tr) δ zs := fun σ H ts td s Q q =>
  h σ H ts td s _ fun vs H1 hv s1 => by
    obtain ⟨G, rn, e, r1, r2⟩ := sta_split hv s1
    show sp (vs ++ []) H1 Q E
    rw [List.append_nil]
    exact hs vs H1 Q ⟨G, rn.h, r1, fun p us G' H' r' hp gp ep hw => q p H' ⟨G', us, rn.trans r', e.run r', r2.ex r'.g, rn.k.free hp, gp, ep, hw, own_ne e hp⟩⟩
/-- a promise of a new list is one of a list -/
theorem Pr.n {vs : List V} {H : Hp} {Q : VK} (h : Pr K vs H Q ds (.list zs)) : PrN K vs H Q ds zs := by
  obtain ⟨G, e, r, q⟩ := h
  refine ⟨G, e, r, fun p us G' H' r' hp gp ep hw => q (.ref p) (upd G' p (.lst us)) H' ?_ (.lst upd_same (hw.ex (Ex.new gp)))⟩
  exact ⟨r'.g.trans (Ex.new gp), fun a o h => by
    by_cases z : a = p
    · rw [z, upd_same] at h
      rw [z, ep]
      exact h
    · rw [upd_ne z] at h
      exact r'.h a o h, r'.k, fun a o h n t => by
    by_cases z : a = p
    · rw [z]
      exact hp
    · rw [upd_ne z] at h
      exact r'.f a o h n t⟩

/-! ### tests -/
theorem et_val (h : EvD K c te δ (.bool a)) : EvT K c (tB te) δ a := fun σ H ts td s Q q => h σ H ts td s _ fun v H1 s1 => by
  obtain ⟨G, rn, e, t⟩ := s1
  cases t with
  | cons h1 t => exact ⟨a, h1.bool_inv, q H1 ⟨G, rn, e, t⟩⟩
theorem et_test (h : EvD K c te δ (.bool a)) : EvT K c (tTest te) δ a := fun σ H ts td s Q q => h σ H ts td s _ fun v H1 s1 => by
  obtain ⟨G, rn, e, t⟩ := s1
  cases t with
  | cons h1 t => exact ⟨a, h1.bool_inv, q H1 ⟨G, rn, e, t⟩⟩
theorem et_and (h1 : EvT K c t δ a) (h2 : a = true → EvT K c u δ b) : EvT K c (tAnd t u) δ (a && b) := fun σ H ts td s Q q => h1 σ H ts td s _ fun H1 s1 => by
  cases a with
  | true =>
    show u σ H1 Q
    exact h2 rfl σ H1 ts td s1 Q q
  | false =>
    show Q false H1
    exact q H1 s1
theorem et_or (h1 : EvT K c t δ a) (h2 : a = false → EvT K c u δ b) : EvT K c (tOr t u) δ (a || b) := fun σ H ts td s Q q => h1 σ H ts td s _ fun H1 s1 => by
  cases a with
  | true =>
    show Q true H1
    exact q H1 s1
  | false =>
    show u σ H1 Q
    exact h2 rfl σ H1 ts td s1 Q q
theorem et_not (h1 : EvT K c t δ a) : EvT K c (tNot t) δ (!a) := fun σ H ts td s Q q => h1 σ H ts td s _ fun H1 s1 => q H1 s1
theorem ev_andV (h1 : EvD K c ta δ (.bool a)) (h2 : a = true → EvD K c tb δ (.bool b)) : EvD K c (tAndV ta tb) δ (.bool (a && b)) := fun σ H ts td s Q q => h1 σ H ts td s _ fun v H1 s1 => by
  obtain ⟨G, rn, e, r⟩ := s1
  cases r with
  | cons hv r =>
    refine ⟨a, hv.bool_inv, ?_⟩
    cases a with
    | true =>
      rw [if_pos rfl]
      exact h2 rfl σ H1 ts td ⟨G, rn, e, r⟩ Q q
    | false =>
      rw [if_neg Bool.false_ne_true]
      exact q _ H1 ⟨G, rn, e, .cons (.bl false) r⟩
theorem ev_orV (h1 : EvD K c ta δ (.bool a)) (h2 : a = false → EvD K c tb δ (.bool b)) : EvD K c (tOrV ta tb) δ (.bool (a || b)) := fun σ H ts td s Q q => h1 σ H ts td s _ fun v H1 s1 => by
  obtain ⟨G, rn, e, r⟩ := s1
  cases r with
  | cons hv r =>
    refine ⟨a, hv.bool_inv, ?_⟩
    cases a with
    | true =>
      rw [if_pos rfl]
      exact q _ H1 ⟨G, rn, e, .cons (.bl true) r⟩
    | false =>
      rw [if_neg Bool.false_ne_true]
      exact h2 rfl σ H1 ts td ⟨G, rn, e, r⟩ Q q
theorem ev_notV (h1 : EvD K c ta δ (.bool a)) : EvD K c (tNotV ta) δ (.bool (!a)) := fun σ H ts td s Q q => h1 σ H ts td s _ fun v H1 s1 => by
  obtain ⟨G, rn, e, r⟩ := s1
  cases r with
  | cons hv r => exact ⟨a, hv.bool_inv, q _ H1 ⟨G, rn, e, .cons (.bl _) r⟩⟩
theorem ev_if (h : EvT K c t δ a) (h1 : a = true → EvD K c ta δ x) (h2 : a = false → EvD K c tb δ x) : EvD K c (tIf t ta tb) δ x := fun σ H ts td s Q q => h σ H ts td s _ fun H1 s1 => by
  cases a with
  | true =>
    show ta σ H1 Q
    exact h1 rfl σ H1 ts td s1 Q q
  | false =>
    show tb σ H1 Q
    exact h2 rfl σ H1 ts td s1 Q q
theorem ev_chain {r' : R2} (ha : EvD K c ta δ x) (hb : EvD K c tb δ y) (hr : OpD K r x y (.bool a)) (hc : a = true → EvD K c tx δ z) (hr' : a = true → OpD K r' y z (.bool b)) : EvD K c (tChain r r' ta tb tx) δ (.bool (a && b)) := fun σ H ts td s Q q =>
  ha σ H ts td s _ fun v H1 s1 => hb σ H1 _ _ s1 _ fun w H2 s2 => by
    obtain ⟨G, rn, e, t⟩ := s2
    cases t with
    | cons hu t =>
      cases t with
      | cons hv t =>
        refine hr G H2 v w rn.h hv hu _ fun k G' H' r1 hk => ⟨a, hk.bool_inv, ?_⟩
        have s3 : Sta K c δ σ (w :: ts) (y :: td) H' := ⟨G', rn.trans r1, e.run r1, .cons (hu.ex r1.g) (t.ex r1.g)⟩
        cases a with
        | true =>
          rw [if_pos rfl]
          refine hc rfl σ H' _ _ s3 _ fun x' H4 s4 => ?_
          obtain ⟨G4, rn4, e4, t4⟩ := s4
          cases t4 with
          | cons hx t4 =>
            cases t4 with
            | cons hw t4 => exact hr' rfl G4 H4 w x' rn4.h hw hx Q fun k' G5 H5 r5 hk' => q k' H5 ⟨G5, rn4.trans r5, e4.run r5, .cons hk' (t4.ex r5.g)⟩
        | false =>
          rw [if_neg Bool.false_ne_true]
          exact q _ H' ⟨G', rn.trans r1, e.run r1, .cons (.bl false) (t.ex r1.g)⟩
theorem eo_none : EvO K c tNoPart δ none := fun _ H _ _ s _ q => q H s
theorem eo_some (h : EvD K c te δ (.int i)) : EvO K c (tPart te) δ (some i) := fun σ H ts td s Q q => h σ H ts td s _ fun v H1 s1 => by
  obtain ⟨G, rn, e, t⟩ := s1
  cases t with
  | cons h1 t => exact ⟨i, h1.int_inv, q H1 ⟨G, rn, e, t⟩⟩
end
end Pd

namespace Pd
open PySem PySem.Spec PyProof.Rows L2

/-! ### statements: N what holds of the data behind it, R what may be given back -/
inductive Rs where
  | val (d : PyData)
  | new (ds : List PyData)
  | exc (C : Addr) (f : PyData) (δ : DEnv)
  | gen (φ : Hp → Hp → V → Hp → Prop)
def StaR (K : PySem.W.Frag) (c : Cc) : Rs → V → Hp → Prop
  | .val d, v, H => ∃ G, Run c.G c.H G H ∧ Rp K G v d
  | .new ds, v, H => ∃ G p vs, v = .ref p ∧ Run c.G c.H G H ∧ c.H p = none ∧ G p = none ∧ H p = some (.lst vs) ∧ RpAll K G vs ds
  | .exc _ _ _, _, _ => False
  | .gen φ, v, H => ∃ G, Run c.G c.H G H ∧ φ c.H G v H
/-- an exception is in the air, d its dict, f its field -/
def StaX (K : PySem.W.Frag) (c : Cc) (δ : DEnv) (σ : L2.St) (H : Hp) (d : Option Addr) (f : PyData) : Prop := ∃ G, Run c.G c.H G H ∧ EnvOk K c.H G H σ δ ∧ ExF G d f
def SD (K : PySem.W.Frag) (c : Cc) (t : TS) (δ : DEnv) (N : DEnv → Prop) (R : Rs → Prop) : Prop := ∀ (σ : L2.St) (H : Hp) (D : Ends), Sta K c δ σ [] [] H →
  (∀ δ' σ' H', N δ' → Sta K c δ' σ' [] [] H' → D.nx σ' H') → (∀ r v H', R r → StaR K c r v H' → D.rt v H') →
  (∀ C f δ' d σ' H', R (.exc C f δ') → StaX K c δ' σ' H' d f → c.W (.ref C) d σ' H') → t D σ H
section
variable {K : PySem.W.Frag} {c : Cc} {δ δ' : DEnv} {x y z d : PyData} {ds es zs : List PyData} {te ta tb tx : TE} {tr : TA} {tt : TT} {t u : TS} {N M : DEnv → Prop} {R : Rs → Prop} {a b : Bool} {n : Nat}
theorem sd_imp {N' : DEnv → Prop} {R' : Rs → Prop} (h : SD K c t δ N R) (hN : ∀ δ, N δ → N' δ) (hR : ∀ r, R r → R' r) : SD K c t δ N' R' := fun σ H D s q1 q2 q3 => h σ H D s (fun δ' σ' H' n s' => q1 δ' σ' H' (hN _ n) s') (fun r v H' rr s' => q2 r v H' (hR _ rr) s') fun C f δ' d σ' H' x => q3 C f δ' d σ' H' (hR _ x)
theorem sd_le (h : SD K c t δ' N R) (l : Le δ' δ) : SD K c t δ N R := fun σ H D s q1 q2 q3 => h σ H D (s.le l) q1 q2 q3
theorem sd_weak {N' : DEnv → Prop} (h : SD K c t δ N R) (hN : ∀ δ, N δ → ∃ δ', Le δ' δ ∧ N' δ') : SD K c t δ N' R := fun σ H D s q1 q2 q3 => h σ H D s (fun δ1 σ' H' n s' => by
  obtain ⟨δ2, l, n2⟩ := hN _ n
  exact q1 δ2 σ' H' n2 (s'.le l)) q2 q3
theorem sd_next (h : N δ) : SD K c tNext δ N R := fun σ H D s q1 _ _ => q1 δ σ H h s
theorem sd_seq (h : SD K c t δ M R) (h2 : ∀ δ', M δ' → SD K c u δ' N R) : SD K c (tSeq t u) δ N R := fun σ H D s q1 q2 q3 => h σ H { D with nx := u D } s (fun δ' σ' H' m s' => h2 δ' m σ' H' D s' q1 q2 q3) q2 q3
theorem sd_asg (h : EvD K c te δ d) (hn : N (δ.set n (some (Cel.val d)))) : SD K c (tAsg te (gName n)) δ N R := fun σ H D s q1 _ _ => h σ H [] [] s _ fun v H1 s1 => q1 _ _ H1 hn s1.set
theorem sd_asgN (h : EvN K c te δ ds) (hn : N (δ.set n (some (Cel.own ds)))) : SD K c (tAsg te (gName n)) δ N R := fun σ H D s q1 _ _ => h σ H [] [] s _ fun p H1 s1 => q1 _ _ H1 hn s1.set
theorem sd_drop (h : EvD K c te δ d) (hn : N δ) : SD K c (tDrop te) δ N R := fun σ H D s q1 _ _ => h σ H [] [] s _ fun v H1 s1 => q1 _ _ H1 hn s1.pop
theorem sd_ret (h : EvD K c te δ d) (hr : R (.val d)) : SD K c (tRet te) δ N R := fun σ H D s _ q2 _ => h σ H [] [] s _ fun v H1 s1 => by
  obtain ⟨G, rn, e, r⟩ := s1
  cases r with
  | cons h1 _ => exact q2 _ v H1 hr ⟨G, rn, h1⟩
theorem sd_retN (h : EvN K c te δ ds) (hr : R (.new ds)) : SD K c (tRet te) δ N R := fun σ H D s _ q2 _ => h σ H [] [] s _ fun p H1 s1 => by
  obtain ⟨G, vs, rn, e, r, hp, gp, ep, hw, ne⟩ := s1
  exact q2 _ _ H1 hr ⟨G, p, vs, rfl, rn, hp, gp, ep, hw⟩
/-- return of an own list -/
theorem sd_retO {i : Nat} (h : δ[i]? = some (some (Cel.own ds))) (hr : R (.new ds)) : SD K c (tRet (tVar i)) δ N R := fun σ H D s _ q2 _ => by
  obtain ⟨G, rn, e, r⟩ := s
  obtain ⟨p, vs, sp, hp, gp, ep, hw⟩ := e.own i ds h
  exact ⟨_, sp, q2 _ _ H hr ⟨G, p, vs, rfl, rn, hp, gp, ep, hw⟩⟩
theorem sd_retNone (hr : R (.val .none)) : SD K c tRetN δ N R := fun σ H D s _ q2 _ => by
  obtain ⟨G, rn, e, r⟩ := s
  exact q2 _ .non H hr ⟨G, rn, .non⟩
theorem sd_if (h : EvT K c tt δ a) (h1 : a = true → SD K c t δ N R) (h2 : a = false → SD K c u δ N R) : SD K c (tIfS tt t u) δ N R := fun σ H D s q1 q2 q3 => h σ H [] [] s _ fun H1 s1 => by
  cases a with
  | true =>
    show t D σ H1
    exact h1 rfl σ H1 D s1 q1 q2 q3
  | false =>
    show u D σ H1
    exact h2 rfl σ H1 D s1 q1 q2 q3
/-- an own list comes to be data -/
theorem sd_freeze {i : Nat} (h : δ[i]? = some (some (Cel.own ds))) (k : SD K c t (δ.set i (some (Cel.val (.list ds)))) N R) : SD K c t δ N R := fun σ H D s q1 q2 q3 => k σ H D (s.freeze h) q1 q2 q3
theorem sta_own {σ : L2.St} {H : Hp} {ts : List V} {td : List PyData} {i : Nat} (s : Sta K c δ σ ts td H) (h : δ[i]? = some (some (Cel.own ds))) :
    ∃ p vs, σ[i]? = some (some (.ref p)) ∧ H p = some (.lst vs) ∧ vs.length = ds.length := by
  obtain ⟨G, rn, e, r⟩ := s
  obtain ⟨p, vs, sp, hp, gp, ep, hw⟩ := e.own i ds h
  exact ⟨p, vs, sp, ep, hw.length⟩
/-- xs.append(e), xs an own list -/
theorem sd_app {i : Nat} (h : δ[i]? = some (some (Cel.own ds))) (he : EvD K c te δ d) (hz : ds.length < 100000) (hn : N (δ.set i (some (Cel.own (ds ++ [d]))))) :
    SD K c (tDrop (tBM K "list" rAppend (tVar i) (tCons te tNil))) δ N R := fun σ H D s q1 _ _ => by
  obtain ⟨p, vs, sp, ep, hl⟩ := sta_own s h
  refine ⟨.ref p, sp, .inl ⟨rfl, vs, SqL.of ep⟩, he σ H [] [] s _ fun v H1 s1 => ?_⟩
  obtain ⟨G, rn, e, r⟩ := s1
  obtain ⟨p', vs', sp', hp', gp', ep', hw'⟩ := e.own i ds h
  rw [sp] at sp'
  cases sp'
  cases r with
  | cons hv _ =>
    refine ⟨p, vs', v, rfl, rfl, ep', sz_lt (by rw [hw'.length]; exact hz), q1 _ σ _ hn ⟨G, rn.mut gp' hp', ?_, .nil⟩⟩
    obtain ⟨hi, _⟩ := List.getElem?_eq_some_iff.mp h
    have ne : ∀ (j : Nat) (es : List PyData), j ≠ i → δ[j]? = some (some (Cel.own es)) → σ[j]? ≠ some (some (V.ref p)) := fun j es hj z y => hj (e.dis j i es ds z h (by rw [y, sp]))
    have old : ∀ {j : Nat} {x : Option Cel}, j ≠ i → (δ.set i (some (Cel.own (ds ++ [d]))))[j]? = some x → δ[j]? = some x := fun {j x} hj q => by
      rw [List.getElem?_set_ne (Ne.symm hj)] at q
      exact q
    have slf : (δ.set i (some (Cel.own (ds ++ [d]))))[i]? = some (some (Cel.own (ds ++ [d]))) := List.getElem?_set_self hi
    refine ⟨by rw [List.length_set, e.len], fun j d' q => ?_, fun j es q => ?_, fun j k es fs z1 z2 z3 => ?_⟩
    · have hj : j ≠ i := fun z => by
        rw [z, slf] at q
        cases q
      exact e.val j d' (old hj q)
    · by_cases hj : j = i
      · subst hj
        rw [slf] at q
        cases q
        exact ⟨p, _, sp, hp', gp', upd_same, hw'.append (.cons hv .nil)⟩
      · obtain ⟨q', ws, a1, a2, a3, a4, a5⟩ := e.own j es (old hj q)
        have nq : q' ≠ p := fun z => ne j es hj (old hj q) (by rw [a1, z])
        exact ⟨q', ws, a1, a2, a3, by rw [upd_ne nq]; exact a4, a5⟩
    · have own_of : ∀ {m : Nat} {gs : List PyData}, (δ.set i (some (Cel.own (ds ++ [d]))))[m]? = some (some (Cel.own gs)) → ∃ gs', δ[m]? = some (some (Cel.own gs')) := fun {m gs} z => by
        by_cases hm : m = i
        · exact ⟨ds, hm ▸ h⟩
        · exact ⟨gs, old hm z⟩
      obtain ⟨es', y1⟩ := own_of z1
      obtain ⟨fs', y2⟩ := own_of z2
      exact e.dis j k es' fs' y1 y2 z3

/-! ### targets -/
/-- the value of d stored; js: the slots it may write -/
def TgD (K : PySem.W.Frag) (g : TG) (js : List Nat) (d : PyData) (δ δ' : DEnv) : Prop := ∀ (c : Cc) (σ : L2.St) (H : Hp) (v : V) (ts : List V) (td : List PyData), Sta K c δ σ (v :: ts) (d :: td) H → ∀ Q : L2.St → Hp → Prop,
  (∀ σ', Sta K c δ' σ' ts td H → (∀ i, i ∉ js → σ'[i]? = σ[i]?) → σ'.length = σ.length → Q σ' H) → g v σ H Q
theorem tg_name {i : Nat} : TgD K (gName i) [i] d δ (δ.set i (some (Cel.val d))) := fun c σ H v ts td s Q q => q _ s.set (fun j hj => by rw [List.getElem?_set_ne (fun z => hj (by simp [z]))]) (by rw [List.length_set])
/-- targets of a tuple's items, one by one -/
def TgsD (K : PySem.W.Frag) (g : TGs) (js : List Nat) (ds : List PyData) (δ δ' : DEnv) : Prop := ∀ (c : Cc) (σ : L2.St) (H : Hp) (vs ts : List V) (td : List PyData), vs.length = ds.length → Sta K c δ σ (vs ++ ts) (ds ++ td) H → ∀ Q : L2.St → Hp → Prop,
  (∀ σ', Sta K c δ' σ' ts td H → (∀ i, i ∉ js → σ'[i]? = σ[i]?) → σ'.length = σ.length → Q σ' H) → g vs σ H Q
theorem tgs_nil : TgsD K gNil [] [] δ δ := fun c σ H vs ts td hl s Q q => by
  have e : vs = [] := List.eq_nil_of_length_eq_zero hl
  subst e
  exact ⟨rfl, q σ s (fun _ _ => rfl) rfl⟩
theorem tgs_cons {g : TG} {gs : TGs} {js ks : List Nat} {δ1 δ2 : DEnv} (h1 : TgD K g js d δ δ1) (h2 : TgsD K gs ks ds δ1 δ2) : TgsD K (gCons g gs) (js ++ ks) (d :: ds) δ δ2 := fun c σ H vs ts td hl s Q q => by
  cases vs with
  | nil => cases hl
  | cons v vs =>
    refine ⟨v, vs, rfl, h1 c σ H v (vs ++ ts) (ds ++ td) s _ fun σ1 s1 k1 l1 => h2 c σ1 H vs ts td (Nat.succ.inj hl) s1 Q fun σ2 s2 k2 l2 => q σ2 s2 (fun i hi => ?_) (l2.trans l1)⟩
    rw [k2 i (fun z => hi (List.mem_append_right _ z)), k1 i (fun z => hi (List.mem_append_left _ z))]
theorem tg_tup {gs : TGs} {js : List Nat} (h : TgsD K gs js ds δ δ') : TgD K (gTup K ds.length gs) js (.tuple ds) δ δ' := fun c σ H v ts td s Q q => by
  obtain ⟨G, rn, e, r⟩ := s
  cases r with
  | cons hv r =>
    obtain ⟨a, xs, rfl, hq, hx⟩ := hv.tup_inv
    exact ⟨a, xs, rfl, SqT.of (rn.h _ _ hq), hx.length, h c σ H xs ts td hx.length ⟨G, rn, e, hx.append r⟩ Q q⟩
theorem sd_asgT {g : TG} {js : List Nat} (h : EvD K c te δ d) (hg : TgD K g js d δ δ') (hn : N δ') : SD K c (tAsg te g) δ N R := fun σ H D s q1 _ _ => h σ H [] [] s _ fun v H1 s1 => hg c σ H1 v [] [] s1 _ fun σ' s' _ _ => q1 δ' σ' H1 hn s'

/-! ### what is walked -/
structure ItD (K : PySem.W.Frag) (J : It) (ds : List PyData) (G : Hp) : Prop where
  go : ∀ i H, i < ds.length → Ex G H → J.go i H
  stop : ∀ H, Ex G H → J.stop ds.length H
  yld : ∀ i H v H' d, ds[i]? = some d → Ex G H → J.yld i H v H' → ∃ G', Run G H G' H' ∧ Rp K G' v d
def IvD (K : PySem.W.Frag) (c : Cc) (ti : TI) (δ : DEnv) (ds : List PyData) : Prop := ∀ (σ : L2.St) (H : Hp) (ts : List V) (td : List PyData), Sta K c δ σ ts td H → ∀ R : It → Hp → Prop,
  (∀ J G H', Run c.G c.H G H' → EnvOk K c.H G H' σ δ → RpAll K G ts td → ItD K J ds G → R J H') → ti σ H R
/-- Run from what is known at G on -/
theorem Run.up {G0 H0 G H G' H' : Hp} (a : Run G0 H0 G H) (b : Run G H0 G' H') : Run G0 H0 G' H' := b.from a.g a.f
theorem Sta.down {G0 H0 G1 H1 H : Hp} {W W' : WX} {σ : L2.St} {ts : List V} {td : List PyData} (a : Run G0 H0 G1 H1) (s : Sta K ⟨G1, H0, W⟩ δ σ ts td H) : Sta K ⟨G0, H0, W'⟩ δ σ ts td H := by
  obtain ⟨G, rn, e, r⟩ := s
  exact ⟨G, a.up rn, e, r⟩
theorem StaX.down {G0 H0 G1 H1 H : Hp} {W W' : WX} {σ : L2.St} {o : Option Addr} {f : PyData} (a : Run G0 H0 G1 H1) (s : StaX K ⟨G1, H0, W⟩ δ σ H o f) : StaX K ⟨G0, H0, W'⟩ δ σ H o f := by
  obtain ⟨G, rn, e, r⟩ := s
  exact ⟨G, a.up rn, e, r⟩
theorem StaR.down {G0 H0 G1 H1 H : Hp} {W W' : WX} {v : V} {r : Rs} (a : Run G0 H0 G1 H1) (s : StaR K ⟨G1, H0, W⟩ r v H) : StaR K ⟨G0, H0, W'⟩ r v H := by
  cases r with
  | val d =>
    obtain ⟨G, rn, h⟩ := s
    exact ⟨G, a.up rn, h⟩
  | new ds =>
    obtain ⟨G, p, vs, e, rn, h⟩ := s
    exact ⟨G, p, vs, e, a.up rn, h⟩
  | exc C f δ => exact s.elim
  | gen φ =>
    obtain ⟨G, rn, h⟩ := s
    exact ⟨G, a.up rn, h⟩
/-- what an iterator gives, known beside what is known -/
theorem ItD.more {J : It} {H H' : Hp} {v : V} {i : Nat} {G1 G H0 : Hp} (it : ItD K J ds G1) (rn : Run G1 H0 G H) (hd : ds[i]? = some d) (y : J.yld i H v H') : ∃ G2, Run G H G2 H' ∧ Rp K G2 v d := by
  obtain ⟨G', r', hv⟩ := it.yld i H v H' d hd (rn.g.trans rn.h) y
  refine ⟨fun a => (G a).or (G' a), ⟨fun a o h => by simp only [h, Option.some_or], fun a o h => ?_, r'.k, fun a o h n => ?_⟩, hv.ex fun a o h => ?_⟩
  · cases q : G a with
    | some u =>
      rw [q, Option.some_or] at h
      cases h
      exact r'.k a _ (rn.h a _ q)
    | none =>
      rw [q, Option.none_or] at h
      exact r'.h a o h
  · rw [n, Option.none_or] at h
    cases q : G1 a with
    | some u =>
      have z := rn.g a u q
      rw [n] at z
      cases z
    | none => exact r'.f a o h q
  · show (G a).or (G' a) = some o
    cases q : G a with
    | some u =>
      have z1 := r'.k a _ (rn.h a _ q)
      have z2 := r'.h a o h
      rw [z1] at z2
      cases z2
      rw [Option.some_or]
    | none =>
      rw [Option.none_or]
      exact h
theorem ItD.push {J : It} {σ : L2.St} {H H' : Hp} {v : V} {i : Nat} {G1 H0 : Hp} {ts : List V} {td : List PyData} (it : ItD K J ds G1) {W : WX} (s : Sta K ⟨G1, H0, W⟩ δ σ ts td H) (hd : ds[i]? = some d) (y : J.yld i H v H') : Sta K ⟨G1, H0, W⟩ δ σ (v :: ts) (d :: td) H' := by
  obtain ⟨G, rn, e, r⟩ := s
  obtain ⟨G2, r2, hv⟩ := it.more rn hd y
  exact ⟨G2, rn.trans r2, e.run r2, .cons hv (r.ex r2.g)⟩

/-! ### for -/
theorem sd_for {ti : TI} {g : TG} {js : List Nat} {Tg : PyData → DEnv → DEnv} (hi : IvD K c ti δ ds) (P : Nat → DEnv → Prop) (h0 : P 0 δ) (hg : ∀ i d δ', ds[i]? = some d → P i δ' → TgD K g js d δ' (Tg d δ'))
    (hb : ∀ (c' : Cc), c'.H = c.H ∧ c'.W = c.W → Ex c.G c'.G → ∀ i d δ', ds[i]? = some d → P i δ' → SD K c' t (Tg d δ') (fun δ'' => ∃ δ3, Le δ3 δ'' ∧ P (i + 1) δ3) R) (hd : ∀ δ', P ds.length δ' → N δ') : SD K c (tFor ti g t) δ N R := fun σ H D s q1 q2 q3 => by
  refine hi σ H [] [] s _ fun J G1 H1 rn e _ it => ?_
  obtain ⟨G0, H0, W0⟩ := c
  refine ⟨fun i m σ H => m = ds.length - i ∧ i ≤ ds.length ∧ ∃ δ', P i δ' ∧ Sta K ⟨G1, H0, W0⟩ δ' σ [] [] H, ⟨_, rfl, Nat.zero_le _, δ, h0, ⟨G1, ⟨Ex.refl _, rn.h, rn.k, fun a o h n => by have n' : G1 a = none := n; rw [h] at n'; cases n'⟩, e, .nil⟩⟩, ?_⟩
  rintro i m σ' H' ⟨rfl, hi', δ', hP, s'⟩
  have ex : Ex G1 H' := by
    obtain ⟨G, r, _, _⟩ := s'
    exact r.g.trans r.h
  by_cases hlt : i < ds.length
  · refine .inr ⟨it.go i H' hlt ex, fun σ2 H2 => ∃ δ2, P (i + 1) δ2 ∧ Sta K ⟨G1, H0, W0⟩ δ2 σ2 [] [] H2, fun σ2 H2 ⟨δ2, p2, s2⟩ => ⟨ds.length - (i + 1), by omega, rfl, hlt, δ2, p2, s2⟩, fun v H2 y => ?_⟩
    have hdi : ds[i]? = some ds[i] := List.getElem?_eq_getElem hlt
    refine hg i _ δ' hdi hP ⟨G1, H0, W0⟩ σ' H2 v [] [] (it.push s' hdi y) _ fun σ2 s2 _ _ => ?_
    refine hb ⟨G1, H0, W0⟩ ⟨rfl, rfl⟩ rn.g i _ δ' hdi hP σ2 H2 _ s2 (fun δ3 σ3 H3 n3 s3 => ?_) (fun r v3 H3 hr s3 => q2 r v3 H3 hr (s3.down rn)) fun C f δ3 d3 σ3 H3 hr s3 => q3 C f δ3 d3 σ3 H3 hr (s3.down rn)
    obtain ⟨δ4, l, p4⟩ := n3
    exact ⟨δ4, p4, s3.le l⟩
  · have ei : i = ds.length := by omega
    subst ei
    exact .inl ⟨it.stop H' ex, q1 δ' σ' H' (hd δ' hP) (s'.down rn)⟩
/-! ### while -/
theorem sd_while (P : Nat → DEnv → Prop) {n0 : Nat} (h0 : P n0 δ)
    (hb : ∀ m δ', P m δ' → ∃ b, EvT K c tt δ' b ∧ (b = true → SD K c t δ' (fun δ'' => ∃ δ3 m', Le δ3 δ'' ∧ m' < m ∧ P m' δ3) R) ∧ (b = false → N δ')) : SD K c (tWhile tt t) δ N R := fun σ H D s q1 q2 q3 => by
  refine ⟨fun m σ H => ∃ δ', P m δ' ∧ Sta K c δ' σ [] [] H, ⟨n0, δ, h0, s⟩, ?_⟩
  rintro m σ' H' ⟨δ', hP, s'⟩
  obtain ⟨b, hT, h1, h2⟩ := hb m δ' hP
  refine hT σ' H' [] [] s' _ fun H1 s1 => ?_
  cases b with
  | true =>
    rw [if_pos rfl]
    refine ⟨fun σ2 H2 => ∃ m', m' < m ∧ ∃ δ2, P m' δ2 ∧ Sta K c δ2 σ2 [] [] H2, fun σ2 H2 h => h, h1 rfl σ' H1 _ s1 (fun δ3 σ3 H3 n3 s3 => ?_) q2 q3⟩
    obtain ⟨δ4, m', l, hm, p4⟩ := n3
    exact ⟨m', hm, δ4, p4, s3.le l⟩
  | false =>
    rw [if_neg Bool.false_ne_true]
    exact q1 δ' σ' H1 (h2 rfl) s1

/-! ### comprehensions -/
def wipeE (δ : DEnv) : List Nat → DEnv
  | [] => δ
  | v :: vs => (wipeE δ vs).set v none
theorem wipe_get (σ : L2.St) : ∀ (vs : List Nat) (i : Nat), (wipe σ vs)[i]? = if i ∈ vs ∧ i < σ.length then some none else σ[i]?
  | [], i => by simp [wipe]
  | v :: vs, i => by
    show ((wipe σ vs).set v none)[i]? = _
    by_cases hv : v = i
    · subst hv
      by_cases hl : v < σ.length
      · rw [List.getElem?_set_self (by rw [wipe_length]; exact hl), if_pos ⟨List.mem_cons_self, hl⟩]
      · rw [List.getElem?_eq_none (by rw [List.length_set, wipe_length]; omega), if_neg (fun z => hl z.2), List.getElem?_eq_none (by omega)]
    · rw [List.getElem?_set_ne hv, wipe_get σ vs i]
      have e : i ∈ v :: vs ↔ i ∈ vs := by
        rw [List.mem_cons]
        exact ⟨fun z => z.resolve_left (fun y => hv y.symm), .inr⟩
      simp only [e]
theorem wipe_same {σ σ' : L2.St} {vs : List Nat} (h : ∀ i, i ∉ vs → σ'[i]? = σ[i]?) (hl : σ'.length = σ.length) : wipe σ' vs = wipe σ vs := by
  apply List.ext_getElem?
  intro i
  rw [wipe_get, wipe_get, hl]
  by_cases hi : i ∈ vs
  · by_cases hz : i < σ.length
    · rw [if_pos ⟨hi, hz⟩, if_pos ⟨hi, hz⟩]
    · rw [if_neg (fun z => hz z.2), if_neg (fun z => hz z.2), List.getElem?_eq_none (by omega), List.getElem?_eq_none (by omega)]
  · rw [if_neg (fun z => hi z.1), if_neg (fun z => hi z.1), h i hi]
theorem wipe_wipe {σ : L2.St} {vs : List Nat} : wipe (wipe σ vs) vs = wipe σ vs := wipe_same (fun i hi => by rw [wipe_get, if_neg (fun z => hi z.1)]) (wipe_length σ vs)
theorem wipeE_len (δ : DEnv) : ∀ vs, (wipeE δ vs).length = δ.length
  | [] => rfl
  | v :: vs => by
    show ((wipeE δ vs).set v none).length = _
    rw [List.length_set, wipeE_len δ vs]
theorem wipeE_some {δ : DEnv} {i : Nat} {x : Cel} : ∀ {vs : List Nat}, (wipeE δ vs)[i]? = some (some x) → δ[i]? = some (some x) ∧ i ∉ vs
  | [], h => ⟨h, by simp⟩
  | v :: vs, h => by
    have h' : ((wipeE δ vs).set v none)[i]? = some (some x) := h
    by_cases hv : v = i
    · subst hv
      by_cases hl : v < (wipeE δ vs).length
      · rw [List.getElem?_set_self hl] at h'
        cases h'
      · rw [List.getElem?_eq_none (by rw [List.length_set]; omega)] at h'
        cases h'
    · rw [List.getElem?_set_ne hv] at h'
      obtain ⟨h1, h2⟩ := wipeE_some h'
      exact ⟨h1, fun z => by
        rcases List.mem_cons.mp z with z | z
        · exact hv z.symm
        · exact h2 z⟩
theorem EnvOk.wipe {H0 G H : Hp} {σ : L2.St} (e : EnvOk K H0 G H σ δ) (vs : List Nat) : EnvOk K H0 G H (L2.wipe σ vs) (wipeE δ vs) := by
  have at_ : ∀ {i : Nat}, i ∉ vs → (L2.wipe σ vs)[i]? = σ[i]? := fun {i} hi => by rw [wipe_get, if_neg (fun z => hi z.1)]
  refine ⟨by rw [wipe_length, wipeE_len, e.len], fun i d h => ?_, fun i ds h => ?_, fun i j ds es h1 h2 h3 => ?_⟩
  · obtain ⟨a, b⟩ := wipeE_some h
    rw [at_ b]
    exact e.val i d a
  · obtain ⟨a, b⟩ := wipeE_some h
    rw [at_ b]
    exact e.own i ds a
  · obtain ⟨a1, b1⟩ := wipeE_some h1
    obtain ⟨a2, b2⟩ := wipeE_some h2
    rw [at_ b1, at_ b2] at h3
    exact e.dis i j ds es a1 a2 h3
/-- own lists are read by nothing in a comprehension -/
def noOwn : Option Cel → Option Cel
  | some (.own _) => none
  | x => x
def cleanE (δ : DEnv) (vs : List Nat) : DEnv := (wipeE δ vs).map noOwn
theorem cleanE_no {vs : List Nat} {i : Nat} {es : List PyData} : (cleanE δ vs)[i]? ≠ some (some (Cel.own es)) := fun h => by
  unfold cleanE at h
  rw [List.getElem?_map] at h
  cases q : (wipeE δ vs)[i]? with
  | none =>
    rw [q] at h
    cases h
  | some x =>
    rw [q] at h
    have h' : noOwn x = some (Cel.own es) := Option.some.inj h
    cases x with
    | none => cases h'
    | some y => cases y <;> cases h'
theorem EnvOk.clean {H0 G H H1 : Hp} {σ : L2.St} (e : EnvOk K H0 G H σ δ) (vs : List Nat) : EnvOk K H1 G H (L2.wipe σ vs) (cleanE δ vs) := by
  have w := e.wipe vs
  refine ⟨by rw [w.len]; exact (List.length_map ..).symm, fun i d h => ?_, fun i ds h => absurd h cleanE_no, fun i j ds es h => absurd h cleanE_no⟩
  refine w.val i d ?_
  unfold cleanE at h
  rw [List.getElem?_map] at h
  cases q : (wipeE δ vs)[i]? with
  | none =>
    rw [q] at h
    cases h
  | some x =>
    rw [q] at h
    have h' : noOwn x = some (Cel.val d) := Option.some.inj h
    cases x with
    | none => cases h'
    | some y =>
      cases y with
      | val d' =>
        cases h'
        rfl
      | own es => cases h'
/-- the items kept -/
def kept (ds : List PyData) (f : PyData → Bool) (r : PyData → PyData) : List PyData := (ds.filter f).map r
theorem kept_yes {f : PyData → Bool} {r : PyData → PyData} {i : Nat} (h : ds[i]? = some d) (hf : f d = true) : kept (ds.take (i + 1)) f r = kept (ds.take i) f r ++ [r d] := by
  unfold kept
  rw [List.take_add_one, h, Option.toList_some, List.filter_append, List.map_append, List.filter_cons, if_pos hf] <;> rfl
theorem kept_no {f : PyData → Bool} {r : PyData → PyData} {i : Nat} (h : ds[i]? = some d) (hf : f d = false) : kept (ds.take (i + 1)) f r = kept (ds.take i) f r := by
  unfold kept
  rw [List.take_add_one, h, Option.toList_some, List.filter_append, List.map_append, List.filter_cons, if_neg (by rw [hf]; decide)]
  show _ ++ [] = _
  rw [List.append_nil]
theorem kept_len {f : PyData → Bool} {r : PyData → PyData} : (kept ds f r).length ≤ ds.length := by
  unfold kept
  rw [List.length_map]
  exact List.length_filter_le f ds
theorem ev_lc {ti : TI} {g : TG} {js vs : List Nat} {Tg : PyData → DEnv → DEnv} (f : PyData → Bool) (r : PyData → PyData) (hi : IvD K c ti δ ds) (hz : ds.length < 100000) (hg : ∀ d, d ∈ ds → TgD K g js d (cleanE δ vs) (Tg d (cleanE δ vs))) (hj : ∀ i, i ∈ js → i ∈ vs)
    (hb : ∀ (c' : Cc), ∀ d, d ∈ ds → EvT K c' tt (Tg d (cleanE δ vs)) (f d) ∧ (f d = true → EvD K c' te (Tg d (cleanE δ vs)) (r d))) : EvN K c (tLc ti g tt te vs) δ (kept ds f r) := fun σ H ts td s Q q => by
  refine hi σ H ts td s _ fun J G1 H1 rn e rt it => ?_
  intro p hp
  obtain ⟨G0, H0, W0⟩ := c
  have gp1 : G1 p = none := rn.h.free hp
  have hp0 : H0 p = none := rn.k.free hp
  have ne := own_ne e hp
  refine ⟨fun i m H => m = ds.length - i ∧ i ≤ ds.length ∧ ∃ G acc, Run G1 H0 G H ∧ EnvOk K H0 G H σ δ ∧ RpAll K G ts td ∧ G p = none ∧ H p = some (.lst acc) ∧ RpAll K G acc (kept (ds.take i) f r), ⟨_, rfl, Nat.zero_le _, G1, [], ?_⟩, ?_⟩
  · have r1 := Run.newg (o := .lst []) rn.h hp
    exact ⟨⟨Ex.refl _, r1.h, rn.k.trans r1.k, fun a o h n => by rw [h] at n; cases n⟩, e.run r1, rt, gp1, upd_same, .nil⟩
  rintro i m H' ⟨rfl, hi', G, acc, rn', e', rt', gp, ep, hacc⟩
  have ex : Ex G1 H' := rn'.g.trans rn'.h
  by_cases hlt : i < ds.length
  · refine .inr ⟨it.go i H' hlt ex, fun H2 => ∃ G acc, Run G1 H0 G H2 ∧ EnvOk K H0 G H2 σ δ ∧ RpAll K G ts td ∧ G p = none ∧ H2 p = some (.lst acc) ∧ RpAll K G acc (kept (ds.take (i + 1)) f r), fun H2 h => ⟨ds.length - (i + 1), by omega, rfl, hlt, h⟩, fun v H2 y => ?_⟩
    have hdi : ds[i]? = some ds[i] := List.getElem?_eq_getElem hlt
    have hmem : ds[i] ∈ ds := List.getElem_mem hlt
    obtain ⟨G2, r2, hv⟩ := it.more rn' hdi y
    obtain ⟨hT, hE⟩ := hb ⟨G2, H2, W0⟩ _ hmem
    refine hg _ hmem ⟨G2, H2, W0⟩ (L2.wipe σ vs) H2 v [] [] ⟨G2, Run.refl r2.h, (e'.run r2).clean vs, .cons hv .nil⟩ _ fun σ2 s2 k2 l2 => ⟨?_, hT σ2 H2 [] [] s2 _ fun H3 s3 => ?_⟩
    · rw [wipe_same (σ := L2.wipe σ vs) (fun i hi => k2 i fun z => hi (hj i z)) l2, wipe_wipe]
    · cases hf : f ds[i] with
      | true =>
        rw [if_pos rfl]
        refine hE hf σ2 H3 [] [] s3 _ fun w H4 s4 => ?_
        obtain ⟨G4, r4, _, t4⟩ := s4
        have r5 : Run G H' G4 H4 := r2.trans r4
        cases t4 with
        | cons hw _ =>
          obtain ⟨gp4, ep4⟩ := r5.own gp ep
          refine ⟨acc, ep4, sz_lt (by rw [hacc.length]; have := kept_len (ds := ds.take i) (f := f) (r := r); rw [List.length_take] at this; omega), G4, acc ++ [w], (rn'.trans r5).mut gp4 hp0, (e'.run r5).mut ne, rt'.ex r5.g, gp4, upd_same, ?_⟩
          rw [kept_yes hdi hf]
          exact (hacc.ex r5.g).append (.cons hw .nil)
      | false =>
        rw [if_neg Bool.false_ne_true]
        obtain ⟨G3, r3, _, _⟩ := s3
        have r5 : Run G H' G3 H3 := r2.trans r3
        obtain ⟨gp3, ep3⟩ := r5.own gp ep
        refine ⟨G3, acc, rn'.trans r5, e'.run r5, rt'.ex r5.g, gp3, ep3, ?_⟩
        rw [kept_no hdi hf]
        exact hacc.ex r5.g
  · have ei : i = ds.length := by omega
    subst ei
    rw [List.take_length] at hacc
    exact .inl ⟨it.stop H' ex, q p H' ⟨G, acc, rn.up rn', e', rt', hp0, gp, ep, hacc, ne⟩⟩
theorem et_yes : EvT K c tYes δ true := fun σ H ts td s Q q => q H s

/-! ### the body of a def -/
/-- the slots at the beginning -/
def env0 (n : Nat) (ds : List PyData) : DEnv := ds.map cv ++ List.replicate (n - ds.length) none
theorem sta0 {W : WX} {G H : Hp} {vs : List V} {N : List Str} (e : Ex G H) (r : RpAll K G vs ds) (hl : ds.length ≤ N.length) : Sta K ⟨G, H, W⟩ (env0 N.length ds) (L2.start N vs) [] [] H := by
  have hv := r.length
  refine ⟨G, Run.refl e, ⟨?_, fun i d h => ?_, fun i es h => ?_, fun i j es fs h => ?_⟩, .nil⟩
  · unfold L2.start env0
    simp only [List.length_append, List.length_map, List.length_replicate]
    omega
  · unfold env0 at h
    unfold L2.start
    by_cases hi : i < ds.length
    · rw [List.getElem?_append_left (by rw [List.length_map]; exact hi), List.getElem?_map] at h
      cases q : ds[i]? with
      | none =>
        rw [q] at h
        cases h
      | some x =>
        rw [q] at h
        cases h
        obtain ⟨v, a, b⟩ := r.get q
        refine ⟨v, ?_, b⟩
        rw [List.getElem?_append_left (by rw [List.length_map]; omega), List.getElem?_map, a]
        rfl
    · rw [List.getElem?_append_right (by rw [List.length_map]; omega)] at h
      obtain ⟨_, h2⟩ := List.getElem?_eq_some_iff.mp h
      rw [List.getElem_replicate] at h2
      cases h2
  · exfalso
    unfold env0 at h
    by_cases hi : i < ds.length
    · rw [List.getElem?_append_left (by rw [List.length_map]; exact hi), List.getElem?_map] at h
      cases q : ds[i]? with
      | none =>
        rw [q] at h
        cases h
      | some x =>
        rw [q] at h
        cases h
    · rw [List.getElem?_append_right (by rw [List.length_map]; omega)] at h
      obtain ⟨_, h2⟩ := List.getElem?_eq_some_iff.mp h
      rw [List.getElem_replicate] at h2
      cases h2
  · exfalso
    unfold env0 at h
    by_cases hi : i < ds.length
    · rw [List.getElem?_append_left (by rw [List.length_map]; exact hi), List.getElem?_map] at h
      cases q : ds[i]? with
      | none =>
        rw [q] at h
        cases h
      | some x =>
        rw [q] at h
        cases h
    · rw [List.getElem?_append_right (by rw [List.length_map]; omega)] at h
      obtain ⟨_, h2⟩ := List.getElem?_eq_some_iff.mp h
      rw [List.getElem_replicate] at h2
      cases h2
/-- a def whose body gives back z -/
theorem body_val {vs : List V} {H : Hp} {Q : VK} {N : List Str} (p : Pr K vs H Q ds z) (hl : ds.length ≤ N.length) (h : ∀ c, SD K c t (env0 N.length ds) (fun _ => z = .none) (fun r => r = .val z)) : t { nx := fun _ H' => Q .non H', rt := Q } (L2.start N vs) H := by
  obtain ⟨G, e, r, q⟩ := p
  refine h ⟨G, H, fun _ _ _ _ => False⟩ (L2.start N vs) H _ (sta0 e r hl) (fun δ' σ' H' n s => ?_) (fun r v H' hr s => ?_) fun C f δ' d σ' H' hr _ => by cases hr
  · obtain ⟨G', rn, _, _⟩ := s
    subst n
    exact q .non G' H' rn .non
  · subst hr
    obtain ⟨G', rn, hv⟩ := s
    exact q v G' H' rn hv
/-- .. a new list of zs -/
theorem body_new {vs : List V} {H : Hp} {Q : VK} {N : List Str} (p : PrN K vs H Q ds zs) (hl : ds.length ≤ N.length) (h : ∀ c, SD K c t (env0 N.length ds) (fun _ => False) (fun r => r = .new zs)) : t { nx := fun _ H' => Q .non H', rt := Q } (L2.start N vs) H := by
  obtain ⟨G, e, r, q⟩ := p
  refine h ⟨G, H, fun _ _ _ _ => False⟩ (L2.start N vs) H _ (sta0 e r hl) (fun δ' σ' H' n s => n.elim) (fun r v H' hr s => ?_) fun C f δ' d σ' H' hr _ => by cases hr
  subst hr
  obtain ⟨G', p, ws, rfl, rn, hp, gp, ep, hw⟩ := s
  exact q p ws G' H' rn hp gp ep hw
theorem Pr.len {vs : List V} {H : Hp} {Q : VK} (p : Pr K vs H Q ds z) : vs.length = ds.length := let ⟨_, _, r, _⟩ := p; r.length
theorem PrN.len {vs : List V} {H : Hp} {Q : VK} (p : PrN K vs H Q ds zs) : vs.length = ds.length := let ⟨_, _, r, _⟩ := p; r.length
end
end Pd
namespace Pd
open PySem PySem.Spec PyProof.Rows L2
section
variable {K : PySem.W.Frag} {c : Cc} {δ δ' : DEnv} {x y z d : PyData} {ds es zs : List PyData} {te ta tb tx : TE} {tr : TA} {tt : TT} {t u v : TS} {N M : DEnv → Prop} {R : Rs → Prop} {a b : Bool} {n m : Nat} {i j : Int}
/-! ### a statement and what follows -/
theorem sd_asgS (h : EvD K c te δ d) (k : SD K c u (δ.set n (some (Cel.val d))) N R) : SD K c (tSeq (tAsg te (gName n)) u) δ N R := sd_seq (M := fun δ' => δ' = δ.set n (some (Cel.val d))) (sd_asg h rfl) fun δ' e => e ▸ k
theorem sd_asgNS (h : EvN K c te δ ds) (k : SD K c u (δ.set n (some (Cel.own ds))) N R) : SD K c (tSeq (tAsg te (gName n)) u) δ N R := sd_seq (M := fun δ' => δ' = δ.set n (some (Cel.own ds))) (sd_asgN h rfl) fun δ' e => e ▸ k
theorem sd_dropS (h : EvD K c te δ d) (k : SD K c u δ N R) : SD K c (tSeq (tDrop te) u) δ N R := sd_seq (M := fun δ' => δ' = δ) (sd_drop h rfl) fun δ' e => e ▸ k
theorem sd_aug (hx : δ[n]? = some (some (Cel.val (.int i)))) (h : EvD K c te δ (.int j)) (hn : N (δ.set n (some (Cel.val (.int (i + j)))))) : SD K c (tAug n te (ipI fun i j => i + j)) δ N R := fun σ H D s q1 _ _ => by
  obtain ⟨G, rn, e, r⟩ := id s
  obtain ⟨v, hv, hr⟩ := e.val n _ hx
  refine ⟨v, hv, h σ H [] [] s _ fun w H1 s1 => ?_⟩
  obtain ⟨G1, rn1, e1, r1⟩ := s1
  cases r1 with
  | cons hw _ => exact ⟨i, j, hr.int_inv, hw.int_inv, q1 _ _ H1 hn (Sta.set (v := .int (i + j)) (ts := []) (td := []) ⟨G1, rn1, e1, .cons (.int _) .nil⟩)⟩
theorem sd_augS (hx : δ[n]? = some (some (Cel.val (.int i)))) (h : EvD K c te δ (.int j)) (k : SD K c u (δ.set n (some (Cel.val (.int (i + j))))) N R) : SD K c (tSeq (tAug n te (ipI fun i j => i + j)) u) δ N R := sd_seq (M := fun δ' => δ' = δ.set n (some (Cel.val (.int (i + j))))) (sd_aug hx h rfl) fun δ' e => e ▸ k
/-- a, b = e1, e2 -/
theorem sd_par (h : EvA K c tr δ [x, y]) (hn : N ((δ.set n (some (Cel.val x))).set m (some (Cel.val y)))) : SD K c (tPar n m tr) δ N R := fun σ H D s q1 _ _ => h σ H [] [] s _ fun vs H1 hl s1 => by
  obtain ⟨G, rn, e, r1, r2⟩ := sta_split hl s1
  obtain ⟨v, u, rfl, hv, hu⟩ : ∃ v u, vs = [v, u] ∧ Rp K G v x ∧ Rp K G u y := by
    cases r1 with
    | cons h1 r =>
      cases r with
      | cons h2 r =>
        cases r
        exact ⟨_, _, rfl, h1, h2⟩
  exact ⟨v, u, rfl, q1 _ _ H1 hn ⟨G, rn, (e.set hv).set hu, .nil⟩⟩
theorem sd_parS (h : EvA K c tr δ [x, y]) (k : SD K c u ((δ.set n (some (Cel.val x))).set m (some (Cel.val y))) N R) : SD K c (tSeq (tPar n m tr) u) δ N R := sd_seq (M := fun δ' => δ' = (δ.set n (some (Cel.val x))).set m (some (Cel.val y))) (sd_par h rfl) fun δ' e => e ▸ k
theorem sd_asgTS {g : TG} {js : List Nat} (h : EvD K c te δ d) (hg : TgD K g js d δ δ') (k : SD K c u δ' N R) : SD K c (tSeq (tAsg te g) u) δ N R := sd_seq (M := fun δ2 => δ2 = δ') (sd_asgT h hg rfl) fun δ2 e => e ▸ k
/-- if, then what follows: told way by way -/
theorem sd_ifS (h : EvT K c tt δ a) (h1 : a = true → SD K c (tSeq t v) δ N R) (h2 : a = false → SD K c (tSeq u v) δ N R) : SD K c (tSeq (tIfS tt t u) v) δ N R := fun σ H D s q1 q2 q3 => h σ H [] [] s _ fun H1 s1 => by
  cases a with
  | true =>
    show t { D with nx := v D } σ H1
    exact h1 rfl σ H1 D s1 q1 q2 q3
  | false =>
    show u { D with nx := v D } σ H1
    exact h2 rfl σ H1 D s1 q1 q2 q3
theorem sd_nextS (k : SD K c u δ N R) : SD K c (tSeq tNext u) δ N R := k
theorem sd_seqA {w : TS} (k : SD K c (tSeq t (tSeq u w)) δ N R) : SD K c (tSeq (tSeq t u) w) δ N R := k
theorem sd_appS {k0 : Nat} (h : δ[k0]? = some (some (Cel.own ds))) (he : EvD K c te δ d) (hz : ds.length < 100000) (k : SD K c u (δ.set k0 (some (Cel.own (ds ++ [d])))) N R) :
    SD K c (tSeq (tDrop (tBM K "list" rAppend (tVar k0) (tCons te tNil))) u) δ N R := sd_seq (M := fun δ' => δ' = δ.set k0 (some (Cel.own (ds ++ [d])))) (sd_app h he hz rfl) fun δ' e => e ▸ k
/-- the same in the middle of a block -/
theorem sd_whole (k : SD K c (tSeq t tNext) δ N R) : SD K c t δ N R := k
theorem sd_retS (h : SD K c (tRet te) δ N R) : SD K c (tSeq (tRet te) u) δ N R := h
end
end Pd

namespace Pd
open PySem PySem.Spec PyProof.Rows L2
/-! ### values that are told by what holds of them -/
def PrE (K : PySem.W.Frag) (vs : List V) (H : Hp) (Q : VK) (ds : List PyData) (Z : PyData → Prop) : Prop := ∃ G, Ex G H ∧ RpAll K G vs ds ∧ ∀ z, Z z → ∀ w G' H', Run G H G' H' → Rp K G' w z → Q w H'
def EvE (K : PySem.W.Frag) (c : Cc) (te : TE) (δ : DEnv) (Z : PyData → Prop) : Prop := ∀ (σ : L2.St) (H : Hp) (ts : List V) (td : List PyData), Sta K c δ σ ts td H → ∀ Q : VK, (∀ z, Z z → ∀ v H', Sta K c δ σ (v :: ts) (z :: td) H' → Q v H') → te σ H Q
section
variable {K : PySem.W.Frag} {c : Cc} {δ δ' : DEnv} {ds : List PyData} {te : TE} {tr : TA} {t u : TS} {N : DEnv → Prop} {R : Rs → Prop} {n : Nat} {Z : PyData → Prop}
theorem PrE.len {vs : List V} {H : Hp} {Q : VK} (p : PrE K vs H Q ds Z) : vs.length = ds.length := let ⟨_, _, r, _⟩ := p; r.length
theorem body_valE {vs : List V} {H : Hp} {Q : VK} {N : List Str} (p : PrE K vs H Q ds Z) (hl : ds.length ≤ N.length) (h : ∀ c, SD K c t (env0 N.length ds) (fun _ => False) (fun r => ∃ z, Z z ∧ r = .val z)) : t { nx := fun _ H' => Q .non H', rt := Q } (L2.start N vs) H := by
  obtain ⟨G, e, r, q⟩ := p
  refine h ⟨G, H, fun _ _ _ _ => False⟩ (L2.start N vs) H _ (sta0 e r hl) (fun δ' σ' H' n s => n.elim) (fun r v H' hr s => ?_) fun C f δ' d σ' H' hr _ => by obtain ⟨z, _, hr⟩ := hr; cases hr
  obtain ⟨z, hz, rfl⟩ := hr
  obtain ⟨G', rn, hv⟩ := s
  exact q z hz v G' H' rn hv
theorem ev_callE {sp : Sp} {E : XK} (h : EvA K c tr δ ds) (hs : ∀ vs H Q, PrE K vs H Q ds Z → sp vs H Q E) : EvE K c (tCall sp [] E tr) δ Z := fun σ H ts td s Q q =>
  h σ H ts td s _ fun vs H1 hv s1 => by
    obtain ⟨G, rn, e, r1, r2⟩ := sta_split hv s1
    show sp (vs ++ []) H1 Q E
    rw [List.append_nil]
    exact hs vs H1 Q ⟨G, rn.h, r1, fun z hz w G' H' r' hw => q z hz w H' ⟨G', rn.trans r', e.run r', .cons hw (r2.ex r'.g)⟩⟩
theorem sd_asgES (h : EvE K c te δ Z) (k : ∀ z, Z z → SD K c u (δ.set n (some (Cel.val z))) N R) : SD K c (tSeq (tAsg te (gName n)) u) δ N R := fun σ H D s q1 q2 q3 => h σ H [] [] s _ fun z hz v H1 s1 => k z hz _ H1 D s1.set q1 q2 q3
theorem sd_asgETS {g : TG} {js : List Nat} {Tg : PyData → DEnv → DEnv} (h : EvE K c te δ Z) (hg : ∀ z, Z z → TgD K g js z δ (Tg z δ)) (k : ∀ z, Z z → SD K c u (Tg z δ) N R) : SD K c (tSeq (tAsg te g) u) δ N R := fun σ H D s q1 q2 q3 => h σ H [] [] s _ fun z hz v H1 s1 => hg z hz c σ H1 v [] [] s1 _ fun σ' s' _ _ => k z hz σ' H1 D s' q1 q2 q3
end
end Pd

namespace Pd
open PySem PySem.Spec PyProof.Rows L2

/-! ### operations -/
section
variable {K : PySem.W.Frag} {i j : Int} {a b : Bool} {x y z : PyData} {ds es : List PyData}
theorem opd_I0 {g : Int → Int → V} (h : ∀ G, Rp K G (g i j) z) : OpD K (rI0 g) (.int i) (.int j) z := fun G H v u e hv hu Q q => ⟨i, j, hv.int_inv, hu.int_inv, q _ G H (Run.refl e) (h G)⟩
theorem opd_I {C : Int → Int → Prop} {g : Int → Int → V} (hc : C i j) (h : ∀ G, Rp K G (g i j) z) : OpD K (rI C g) (.int i) (.int j) z := fun G H v u e hv hu Q q => ⟨i, j, hv.int_inv, hu.int_inv, hc, q _ G H (Run.refl e) (h G)⟩
theorem OpD.inl {r r' : R2} (h : OpD K r x y z) : OpD K (fun x y H Q => r x y H Q ∨ r' x y H Q) x y z := fun G H v u e hv hu Q q => .inl (h G H v u e hv hu Q q)
theorem OpD.inr {r r' : R2} (h : OpD K r' x y z) : OpD K (fun x y H Q => r x y H Q ∨ r' x y H Q) x y z := fun G H v u e hv hu Q q => .inr (h G H v u e hv hu Q q)
theorem OpN.inl {r r' : R2} {zs : List PyData} (h : OpN K r x y zs) : OpN K (fun x y H Q => r x y H Q ∨ r' x y H Q) x y zs := fun G H v u e hv hu Q q => .inl (h G H v u e hv hu Q q)
theorem OpN.inr {r r' : R2} {zs : List PyData} (h : OpN K r' x y zs) : OpN K (fun x y H Q => r x y H Q ∨ r' x y H Q) x y zs := fun G H v u e hv hu Q q => .inr (h G H v u e hv hu Q q)
/-- + : ints, lists, tuples -/
def rAddP (K : PySem.W.Frag) : R2 := fun x y H Q => rI0 (fun i j => .int (i + j)) x y H Q ∨ (fun x y H Q => rCat x y H Q ∨ rCatA K x y H Q) x y H Q
theorem op_addP {X : Cx} : OpR X (binaryOp .Add) (rAddP X.K) := op_add.or (op_cat.or op_catA)
theorem od_add : OpD K (rAddP K) (.int i) (.int j) (.int (i + j)) := OpD.inl (opd_I0 fun _ => .int _)
theorem on_cat (hz : ds.length + es.length ≤ 100000) : OpN K (rAddP K) (.list ds) (.list es) (ds ++ es) := OpN.inr (OpN.inl fun G H v u e hv hu Q q => by
  obtain ⟨p, xs, rfl, hp, r1⟩ := hv.lst_inv
  obtain ⟨p2, ys, rfl, hp2, r2⟩ := hu.lst_inv
  exact ⟨p, p2, xs, ys, rfl, rfl, e _ _ hp, e _ _ hp2, sz_le (by rw [r1.length, r2.length]; exact hz), fun l hl => q l _ G _ (Run.newg e hl) hl (e.free hl) upd_same (r1.append r2)⟩)
theorem od_catT (hz : ds.length + es.length ≤ 100000) : OpD K (rAddP K) (.tuple ds) (.tuple es) (.tuple (ds ++ es)) := OpD.inr (OpD.inr fun G H v u e hv hu Q q => by
  obtain ⟨p, xs, rfl, hp, r1⟩ := hv.tup_inv
  obtain ⟨p2, ys, rfl, hp2, r2⟩ := hu.tup_inv
  have r3 := r1.append r2
  refine ⟨p, p2, xs, ys, rfl, rfl, SqT.of (e _ _ hp), SqT.of (e _ _ hp2), sz_le (by rw [r1.length, r2.length]; exact hz), fun z => ?_, fun _ z => ?_, fun _ _ l hl => ?_⟩
  · subst z
    exact q _ G H (Run.refl e) (.tup hp2 r3)
  · subst z
    rw [List.append_nil] at r3
    exact q _ G H (Run.refl e) (.tup hp r3)
  · have r' := Run.new (o := .tup (xs ++ ys)) e hl
    exact q _ _ _ r' (.tup upd_same (r3.ex r'.g)))
theorem od_sub : OpD K (rI0 fun i j => .int (i - j)) (.int i) (.int j) (.int (i - j)) := opd_I0 fun _ => .int _
theorem od_fdivW (h0 : 0 < j) (h1 : j.natAbs.log2 < 9000) : OpD K (rI CDivW fun i j => .int (i / j)) (.int i) (.int j) (.int (i / j)) := opd_I ⟨h0, h1⟩ fun _ => .int _
theorem od_mod (h0 : 0 < j) : OpD K (rI (fun _ j => 0 < j) fun i j => .int (i % j)) (.int i) (.int j) (.int (i % j)) := opd_I h0 fun _ => .int _
theorem od_shl (h : CPow i j) : OpD K (rI CPow fun i j => .int (i * 2 ^ j.toNat)) (.int i) (.int j) (.int (i * 2 ^ j.toNat)) := opd_I h fun _ => .int _
theorem od_pow (h : CPow i j) : OpD K (rI CPow fun i j => .int (i ^ j.toNat)) (.int i) (.int j) (.int (i ^ j.toNat)) := opd_I h fun _ => .int _
theorem od_shr (h : 0 ≤ j) : OpD K (rI (fun _ j => 0 ≤ j) fun i j => .int (i / 2 ^ j.toNat)) (.int i) (.int j) (.int (i / 2 ^ j.toNat)) := opd_I h fun _ => .int _
theorem od_and : OpD K (rI0 fun i j => .int (Builtin.bitAnd i j)) (.int i) (.int j) (.int (Builtin.bitAnd i j)) := opd_I0 fun _ => .int _
theorem od_lt : OpD K (rI0 fun i j => .bl (decide (i < j))) (.int i) (.int j) (.bool (decide (i < j))) := opd_I0 fun _ => .bl _
theorem od_le : OpD K (rI0 fun i j => .bl (decide (i ≤ j))) (.int i) (.int j) (.bool (decide (i ≤ j))) := opd_I0 fun _ => .bl _
theorem od_gt : OpD K (rI0 fun i j => .bl (decide (j < i))) (.int i) (.int j) (.bool (decide (j < i))) := opd_I0 fun _ => .bl _
theorem od_ge : OpD K (rI0 fun i j => .bl (decide (j ≤ i))) (.int i) (.int j) (.bool (decide (j ≤ i))) := opd_I0 fun _ => .bl _
theorem od_eq (hx : SeqAt.shaped x = true) (hy : SeqAt.shaped y = true) : OpD K (rEqD K) x y (.bool (PyData.eqv x y)) := fun G H v u e hv hu Q q =>
  ⟨x, y, (hv.ex e).dp (SeqAt.canLay_of_shaped hx), (hu.ex e).dp (SeqAt.canLay_of_shaped hy), hx, hy, q _ G H (Run.refl e) (.bl _)⟩
theorem od_ne (hx : SeqAt.shaped x = true) (hy : SeqAt.shaped y = true) : OpD K (rNeD K) x y (.bool (!PyData.eqv x y)) := fun G H v u e hv hu Q q =>
  ⟨x, y, (hv.ex e).dp (SeqAt.canLay_of_shaped hx), (hu.ex e).dp (SeqAt.canLay_of_shaped hy), hx, hy, q _ G H (Run.refl e) (.bl _)⟩
theorem od_eqI : OpD K (rEqD K) (.int i) (.int j) (.bool (decide (i = j))) := by
  have h := od_eq (K := K) (x := .int i) (y := .int j) rfl rfl
  rwa [show PyData.eqv (.int i) (.int j) = decide (i = j) by simp [PyData.eqv, Bool.beq_eq_decide_eq]] at h
theorem od_neI : OpD K (rNeD K) (.int i) (.int j) (.bool (!decide (i = j))) := by
  have h := od_ne (K := K) (x := .int i) (y := .int j) rfl rfl
  rwa [show PyData.eqv (.int i) (.int j) = decide (i = j) by simp [PyData.eqv, Bool.beq_eq_decide_eq]] at h
def isNon : PyData → Bool
  | .none => true
  | _ => false
theorem rp_non {H : Hp} {v : V} (h : Rp K H v x) : decide (v = .non) = isNon x := by
  cases h <;> rfl
theorem od_isN : OpD K (fun x y H Q => y = .non ∧ Q (.bl (decide (x = .non))) H) x .none (.bool (isNon x)) := fun G H v u e hv hu Q q => ⟨hu.none_inv, by rw [rp_non hv]; exact q _ G H (Run.refl e) (.bl _)⟩
theorem od_notN : OpD K (fun x y H Q => y = .non ∧ Q (.bl (!decide (x = .non))) H) x .none (.bool (!isNon x)) := fun G H v u e hv hu Q q => ⟨hu.none_inv, by rw [rp_non hv]; exact q _ G H (Run.refl e) (.bl _)⟩
theorem od_isB : OpD K rIsB (.bool a) (.bool b) (.bool (decide (a = b))) := fun G H v u e hv hu Q q => ⟨a, b, hv.bool_inv, hu.bool_inv, q _ G H (Run.refl e) (.bl _)⟩
theorem od_notB : OpD K rNotB (.bool a) (.bool b) (.bool (!decide (a = b))) := fun G H v u e hv hu Q q => ⟨a, b, hv.bool_inv, hu.bool_inv, q _ G H (Run.refl e) (.bl _)⟩
/-! ### subscripts -/
theorem rp_at {H : Hp} {xs : List V} {n : Int} (r : RpAll K H xs ds) (h : atI ds n = some x) : ∃ v, atI xs n = some v ∧ Rp K H v x := by
  unfold atI at h ⊢
  rw [r.length]
  cases q : ixN ds.length n with
  | none =>
    rw [q] at h
    cases h
  | some k =>
    rw [q] at h
    exact r.get h
def rIxP (K : PySem.W.Frag) : R2 := rIx K
theorem od_ixT (h : atI ds i = some x) : OpD K (rIx K) (.tuple ds) (.int i) x := fun G H v u e hv hu Q q => by
  obtain ⟨p, xs, rfl, hp, r1⟩ := hv.tup_inv
  obtain ⟨w, hw, rw'⟩ := rp_at r1 h
  exact .inr (.inl ⟨p, xs, i, w, rfl, hu.int_inv, SqT.of (e _ _ hp), hw, q w G H (Run.refl e) rw'⟩)
theorem od_ixL (h : atI ds i = some x) : OpD K (rIx K) (.list ds) (.int i) x := fun G H v u e hv hu Q q => by
  obtain ⟨p, xs, rfl, hp, r1⟩ := hv.lst_inv
  obtain ⟨w, hw, rw'⟩ := rp_at r1 h
  exact .inl ⟨p, xs, i, w, rfl, hu.int_inv, SqL.of (e _ _ hp), hw, q w G H (Run.refl e) rw'⟩
theorem Rp.scr_inv {H : Hp} {v : V} {ns : List Int} (h : Rp K H v (dScr ns)) : ∃ a, v = .ref a ∧ SqL K H a (ns.map V.int) := by
  generalize hd : dScr ns = d at h
  cases h with
  | @scr a ms hq =>
    have e : ms.map PyData.int = ns.map PyData.int := by
      have z := PyData.dict.inj hd
      have z2 := List.cons.inj z
      have z3 := (Prod.mk.inj z2.1).2
      exact (PyData.list.inj z3).symm
    have e2 : ms = ns := by
      have inj : ∀ (l1 l2 : List Int), l1.map PyData.int = l2.map PyData.int → l1 = l2 := by
        intro l1
        induction l1 with
        | nil =>
          intro l2 h
          cases l2 with
          | nil => rfl
          | cons _ _ => cases h
        | cons a l1 ih =>
          intro l2 h
          cases l2 with
          | nil => cases h
          | cons b l2 =>
            have h' := List.cons.inj h
            rw [PyData.int.inj h'.1, ih l2 h'.2]
      exact inj _ _ e
    subst e2
    exact ⟨a, rfl, hq⟩
  | _ => cases hd
theorem od_ixS {ns : List Int} {n : Int} (h : atI ns i = some n) : OpD K (rIx K) (dScr ns) (.int i) (.int n) := fun G H v u e hv hu Q q => by
  obtain ⟨p, rfl, hp⟩ := hv.scr_inv
  refine .inl ⟨p, _, i, .int n, rfl, hu.int_inv, sqL_ex e hp, ?_, q _ G H (Run.refl e) (.int n)⟩
  unfold atI at h ⊢
  rw [List.length_map]
  cases q : ixN ns.length i with
  | none =>
    rw [q] at h
    cases h
  | some k =>
    rw [q] at h
    show (ns.map V.int)[k]? = _
    rw [List.getElem?_map, show ns[k]? = some n from h]
    rfl
theorem canLay_ints : ∀ ns : List Int, PyData.canLayAll0 (ns.map PyData.int) = true
  | [] => rfl
  | n :: ns => by simp [PyData.canLayAll0, PyData.canLay0, canLay_ints ns]
theorem depth_ints : ∀ ns : List Int, PyData.depthAll (ns.map PyData.int) ≤ 1
  | [] => by simp [PyData.depthAll]
  | n :: ns => by
    have := depth_ints ns
    simp only [List.map_cons, PyData.depthAll, PyData.depth]
    omega
theorem shaped_ints (ns : List Int) : SeqAt.shaped (.list (ns.map PyData.int)) = true := by
  show (PyData.canLay0 (.list (ns.map PyData.int)) && decide (PyData.depth (.list (ns.map PyData.int)) ≤ 64)) = true
  have h := depth_ints ns
  rw [Bool.and_eq_true]
  refine ⟨?_, decide_eq_true ?_⟩
  · simp only [PyData.canLay0]
    exact canLay_ints ns
  · simp only [PyData.depth]
    omega
/-- script != [] -/
theorem od_neS {ns : List Int} : OpD K (rNeD K) (dScr ns) (.list []) (.bool (!ns.isEmpty)) := fun G H v u e hv hu Q q => by
  obtain ⟨a, rfl, hq⟩ := hv.scr_inv
  have dp : ∀ l : List Int, DpAll K H (l.map V.int) (l.map PyData.int) := by
    intro l
    induction l with
    | nil => exact .nil
    | cons x l ih => exact .cons (.int x) ih
  refine ⟨.list (ns.map PyData.int), .list [], .lst (sqL_ex e hq) (dp ns), (hu.ex e).dp rfl, shaped_ints ns, rfl, ?_⟩
  have ee : PyData.eqv (.list (ns.map PyData.int)) (.list []) = ns.isEmpty := by
    cases ns with
    | nil => simp [PyData.eqv, PyData.eqvAll]
    | cons a l => simp [PyData.eqv, PyData.eqvAll]
  rw [ee]
  exact q _ G H (Run.refl e) (.bl _)
/-! ### in -/
def flatD : PyData → Bool
  | .none => true
  | .bool _ => true
  | .int _ => true
  | .str _ => true
  | _ => false
theorem flat_v {H : Hp} {v : V} (h : Rp K H v x) (f : flatD x = true) : flatV v = true := by
  cases h <;> first
    | rfl
    | cases f
def absD : PyData → V
  | .none => .non
  | .bool b => .bl b
  | .int i => .int i
  | .str s => .str s
  | _ => .non
theorem flat_abs {H : Hp} {v : V} (h : Rp K H v x) (f : flatD x = true) : v = absD x := by
  cases h <;> first
    | rfl
    | cases f
def inF (x : PyData) (ds : List PyData) : Bool := ds.any fun y => eqV (absD y) (absD x)
theorem flat_all {H : Hp} : ∀ {vs : List V} {ds : List PyData}, RpAll K H vs ds → ds.all flatD = true → vs.all flatV = true ∧ vs = ds.map absD
  | _, _, .nil, _ => ⟨rfl, rfl⟩
  | _, _, .cons h r, f => by
    have f' := Bool.and_eq_true_iff.mp (show (flatD _ && List.all _ flatD) = true from by simpa using f)
    obtain ⟨h1, h2⟩ := flat_all r f'.2
    refine ⟨?_, by rw [h2, flat_abs h f'.1]; rfl⟩
    show (flatV _ && List.all _ flatV) = true
    rw [flat_v h f'.1, h1] <;> rfl
theorem inV_map {v : V} : ∀ ds : List PyData, inV v (ds.map absD) = ds.any fun y => eqV (absD y) v := fun ds => by
  unfold inV
  rw [List.any_map]
  rfl
/-- in, not in: of flat things; of data in a list -/
def rInP (K : PySem.W.Frag) : R2 := fun x y H Q => rIn K false x y H Q ∨ rInD K x y H Q
def rNiP (K : PySem.W.Frag) : R2 := fun x y H Q => rIn K true x y H Q ∨ rNotInD K x y H Q
theorem op_inP {X : Cx} (hu : X.A.units + 65 < cLine) : OpR X (compareOp .In) (rInP X.K) := op_in_seq.or (op_inD hu)
theorem op_niP {X : Cx} (hu : X.A.units + 65 < cLine) : OpR X (compareOp .NotIn) (rNiP X.K) := op_notIn_seq.or (op_notInD hu)
theorem od_inT (hx : flatD x = true) (hd : ds.all flatD = true) : OpD K (rInP K) x (.tuple ds) (.bool (inF x ds)) := OpD.inl fun G H v u e hv hu Q q => by
  obtain ⟨p, xs, rfl, hp, r1⟩ := hu.tup_inv
  obtain ⟨a1, a2⟩ := flat_all r1 hd
  refine ⟨p, xs, rfl, .inr (SqT.of (e _ _ hp)), flat_v hv hx, a1, ?_⟩
  have ei : inV v xs = inF x ds := by rw [a2, inV_map, flat_abs hv hx]; rfl
  show Q (.bl (inV v xs)) H
  rw [ei]
  exact q _ G H (Run.refl e) (.bl _)
theorem od_niT (hx : flatD x = true) (hd : ds.all flatD = true) : OpD K (rNiP K) x (.tuple ds) (.bool (!inF x ds)) := OpD.inl fun G H v u e hv hu Q q => by
  obtain ⟨p, xs, rfl, hp, r1⟩ := hu.tup_inv
  obtain ⟨a1, a2⟩ := flat_all r1 hd
  refine ⟨p, xs, rfl, .inr (SqT.of (e _ _ hp)), flat_v hv hx, a1, ?_⟩
  have ei : inV v xs = inF x ds := by rw [a2, inV_map, flat_abs hv hx]; rfl
  show Q (.bl (!inV v xs)) H
  rw [ei]
  exact q _ G H (Run.refl e) (.bl _)
theorem od_inL (hx : SeqAt.shaped x = true) (hd : SeqAt.shaped (.list ds) = true) : OpD K (rInP K) x (.list ds) (.bool (ds.any fun z => PyData.eqv z x)) := OpD.inr fun G H v u e hv hu Q q =>
  ⟨x, ds, (hv.ex e).dp (SeqAt.canLay_of_shaped hx), (hu.ex e).dp (SeqAt.canLay_of_shaped hd), hx, hd, q _ G H (Run.refl e) (.bl _)⟩
theorem od_niL (hx : SeqAt.shaped x = true) (hd : SeqAt.shaped (.list ds) = true) : OpD K (rNiP K) x (.list ds) (.bool (!ds.any fun z => PyData.eqv z x)) := OpD.inr fun G H v u e hv hu Q q =>
  ⟨x, ds, (hv.ex e).dp (SeqAt.canLay_of_shaped hx), (hu.ex e).dp (SeqAt.canLay_of_shaped hd), hx, hd, q _ G H (Run.refl e) (.bl _)⟩
/-! ### slices -/
def cutD (ds : List PyData) (lo hi : Option Int) : List PyData := (ds.drop (HT.sIx ds.length 0 lo)).take (HT.sIx ds.length ds.length hi - HT.sIx ds.length 0 lo)
theorem rp_cut {H : Hp} {xs : List V} {lo hi : Option Int} (r : RpAll K H xs ds) : RpAll K H (cutV xs lo hi) (cutD ds lo hi) := by
  unfold cutV cutD
  rw [r.length]
  exact (r.drop _).take _
def rSlP (K : PySem.W.Frag) : V → Option Int → Option Int → Hp → VK → Prop := fun x lo hi H Q => rSlA K x lo hi H Q ∨ rSlL K x lo hi H Q
theorem sl_any {X : Cx} : SlR X (rSlP X.K) := by
  intro pins s σ H x v vl vu lo hi sl Q I rx hs pl pu h
  rcases h with h | h
  · exact sl_tupA pins s σ H x v vl vu lo hi sl Q I rx hs pl pu h
  · exact sl_list pins s σ H x v vl vu lo hi sl Q I rx hs pl pu h
theorem cut_whole {lo hi : Option Int} (h : HT.sIx ds.length 0 lo = 0 ∧ HT.sIx ds.length ds.length hi = ds.length) : cutD ds lo hi = ds := by
  unfold cutD
  rw [h.1, h.2, List.drop_zero, Nat.sub_zero, List.take_length]
variable {c : Cc} {δ : DEnv} {te : TE} {tl th : TO} {lo hi : Option Int}
theorem ev_slT (h : EvD K c te δ (.tuple ds)) (hl : EvO K c tl δ lo) (hh : EvO K c th δ hi) : EvD K c (tSl (rSlP K) te tl th) δ (.tuple (cutD ds lo hi)) := fun σ H ts td s Q q =>
  h σ H ts td s _ fun v H1 s1 => hl σ H1 _ _ s1 _ fun H2 s2 => hh σ H2 _ _ s2 _ fun H3 s3 => by
    obtain ⟨G, rn, e, t⟩ := s3
    cases t with
    | cons hv t =>
      obtain ⟨p, xs, rfl, hp, r1⟩ := hv.tup_inv
      refine .inl ⟨p, xs, rfl, SqT.of (rn.h _ _ hp), fun w => ?_, fun w l hl => ?_⟩
      · rw [r1.length] at w
        refine q _ H3 ⟨G, rn, e, .cons (.tup hp ?_) t⟩
        rw [cut_whole w]
        exact r1
      · have r' := Run.new (o := .tup (cutV xs lo hi)) rn.h hl
        exact q _ _ ⟨_, rn.trans r', e.run r', .cons (.tup upd_same ((rp_cut r1).ex r'.g)) (t.ex r'.g)⟩
theorem ev_slL (h : EvD K c te δ (.list ds)) (hl : EvO K c tl δ lo) (hh : EvO K c th δ hi) : EvN K c (tSl (rSlP K) te tl th) δ (cutD ds lo hi) := fun σ H ts td s Q q =>
  h σ H ts td s _ fun v H1 s1 => hl σ H1 _ _ s1 _ fun H2 s2 => hh σ H2 _ _ s2 _ fun H3 s3 => by
    obtain ⟨G, rn, e, t⟩ := s3
    cases t with
    | cons hv t =>
      obtain ⟨p, xs, rfl, hp, r1⟩ := hv.lst_inv
      refine .inr ⟨p, xs, rfl, SqL.of (rn.h _ _ hp), fun l hl => ?_⟩
      have r' := Run.newg (o := .lst (cutV xs lo hi)) rn.h hl
      exact q _ _ ⟨G, _, rn.trans r', e.run r', t, rn.k.free hl, rn.h.free hl, upd_same, rp_cut r1, own_ne e hl⟩
theorem cut_to {k : Nat} (h : k ≤ ds.length) : cutD ds none (some (k : Int)) = ds.take k := by
  unfold cutD
  rw [HT.sIx_none, HT.sIx_nat, Nat.min_eq_left h, List.drop_zero, Nat.sub_zero]
theorem cut_from {k : Nat} : cutD ds (some (k : Int)) none = ds.drop k := by
  unfold cutD
  rw [HT.sIx_none, HT.sIx_nat]
  by_cases h : k ≤ ds.length
  · rw [Nat.min_eq_left h, List.take_of_length_le (by rw [List.length_drop]; exact Nat.le_refl _)]
  · rw [Nat.min_eq_right (by omega), List.drop_length, List.take_nil, List.drop_eq_nil_of_le (by omega)]
/-! ### calls of built-ins -/
theorem RpAll.one {H : Hp} {vs : List V} (h : RpAll K H vs [x]) : ∃ v, vs = [v] ∧ Rp K H v x := by
  cases h with
  | cons h r =>
    cases r
    exact ⟨_, rfl, h⟩
theorem RpAll.two {H : Hp} {vs : List V} (h : RpAll K H vs [x, y]) : ∃ v u, vs = [v, u] ∧ Rp K H v x ∧ Rp K H u y := by
  cases h with
  | cons h r =>
    obtain ⟨u, rfl, q⟩ := r.one
    exact ⟨_, u, rfl, h, q⟩
abbrev rLenP (K : PySem.W.Frag) : List V → Hp → VK → Prop := fun xs H Q => ∃ p ys, xs = [.ref p] ∧ (SqL K H p ys ∨ SqT K H p ys) ∧ Q (.int ys.length) H
theorem cd_lenT : CallD K (rLenP K) [.tuple ds] (.int (ds.length : Int)) := fun G H vs e r Q q => by
  obtain ⟨v, rfl, hv⟩ := r.one
  obtain ⟨p, xs, rfl, hp, r1⟩ := hv.tup_inv
  refine ⟨p, xs, rfl, .inr (SqT.of (e _ _ hp)), ?_⟩
  rw [r1.length]
  exact q _ G H (Run.refl e) (.int _)
theorem cd_lenL : CallD K (rLenP K) [.list ds] (.int (ds.length : Int)) := fun G H vs e r Q q => by
  obtain ⟨v, rfl, hv⟩ := r.one
  obtain ⟨p, xs, rfl, hp, r1⟩ := hv.lst_inv
  refine ⟨p, xs, rfl, .inl (SqL.of (e _ _ hp)), ?_⟩
  rw [r1.length]
  exact q _ G H (Run.refl e) (.int _)
theorem cd_lenS {ns : List Int} : CallD K (rLenP K) [dScr ns] (.int (ns.length : Int)) := fun G H vs e r Q q => by
  obtain ⟨v, rfl, hv⟩ := r.one
  obtain ⟨p, rfl, hp⟩ := hv.scr_inv
  refine ⟨p, _, rfl, .inl (sqL_ex e hp), ?_⟩
  rw [List.length_map]
  exact q _ G H (Run.refl e) (.int _)
abbrev rAbs : List V → Hp → VK → Prop := fun xs H Q => ∃ i, xs = [.int i] ∧ Q (.int (if i < 0 then -i else i)) H
theorem cd_abs : CallD K rAbs [.int i] (.int (if i < 0 then -i else i)) := fun G H vs e r Q q => by
  obtain ⟨v, rfl, hv⟩ := r.one
  exact ⟨i, by rw [hv.int_inv], q _ G H (Run.refl e) (.int _)⟩
abbrev rMin2 : List V → Hp → VK → Prop := fun xs H Q => ∃ i j, xs = [.int i, .int j] ∧ Q (.int (if j < i then j else i)) H
theorem cd_min2 : CallD K rMin2 [.int i, .int j] (.int (if j < i then j else i)) := fun G H vs e r Q q => by
  obtain ⟨v, u, rfl, hv, hu⟩ := r.two
  exact ⟨i, j, by rw [hv.int_inv, hu.int_inv], q _ G H (Run.refl e) (.int _)⟩
theorem cd_all {bs : List Bool} : CallD K (rAll K) [.list (bs.map PyData.bool)] (.bool (bs.all id)) := fun G H vs e r Q q => by
  obtain ⟨v, rfl, hv⟩ := r.one
  obtain ⟨p, xs, rfl, hp, r1⟩ := hv.lst_inv
  rw [r1.bools_inv] at hp
  exact ⟨p, bs, rfl, SqL.of (e _ _ hp), q _ G H (Run.refl e) (.bl _)⟩
theorem cd_sum {ns : List Int} : CallD K (rSum K) [.list (ns.map PyData.int)] (.int ns.sum) := fun G H vs e r Q q => by
  obtain ⟨v, rfl, hv⟩ := r.one
  obtain ⟨p, xs, rfl, hp, r1⟩ := hv.lst_inv
  rw [r1.ints_inv] at hp
  exact ⟨p, ns, rfl, SqL.of (e _ _ hp), q _ G H (Run.refl e) (.int _)⟩
abbrev rIntP : List V → Hp → VK → Prop := fun xs H Q => (∃ i, xs = [.int i] ∧ Q (.int i) H) ∨ ∃ k, xs = [.bl k] ∧ Q (.int (if k then 1 else 0)) H
theorem cd_intB : CallD K rIntP [.bool a] (.int (if a then 1 else 0)) := fun G H vs e r Q q => by
  obtain ⟨v, rfl, hv⟩ := r.one
  exact .inr ⟨a, by rw [hv.bool_inv], q _ G H (Run.refl e) (.int _)⟩
abbrev rListP (K : PySem.W.Frag) : List V → Hp → VK → Prop := fun xs H Q => ∃ p ys, xs = [.ref p] ∧ (SqL K H p ys ∨ SqT K H p ys) ∧ ∀ l, H l = none → Q (.ref l) (upd H l (.lst ys))
theorem cn_list : CallN K (rListP K) [.list ds] ds := fun G H vs e r Q q => by
  obtain ⟨v, rfl, hv⟩ := r.one
  obtain ⟨p, xs, rfl, hp, r1⟩ := hv.lst_inv
  exact ⟨p, xs, rfl, .inl (SqL.of (e _ _ hp)), fun l hl => q l xs G _ (Run.newg e hl) hl (e.free hl) upd_same r1⟩
abbrev rTupP (K : PySem.W.Frag) : List V → Hp → VK → Prop := fun xs H Q => ∃ p ys, xs = [.ref p] ∧ ((SqL K H p ys ∧ ∀ l, H l = none → Q (.ref l) (upd H l (.tup ys))) ∨ (SqT K H p ys ∧ Q (.ref p) H))
theorem cd_tup : CallD K (rTupP K) [.list ds] (.tuple ds) := fun G H vs e r Q q => by
  obtain ⟨v, rfl, hv⟩ := r.one
  obtain ⟨p, xs, rfl, hp, r1⟩ := hv.lst_inv
  refine ⟨p, xs, rfl, .inl ⟨SqL.of (e _ _ hp), fun l hl => ?_⟩⟩
  have r' := Run.new (o := .tup xs) e hl
  exact q _ _ _ r' (.tup upd_same (r1.ex r'.g))
/-- the name of a value's class -/
def tyD : PyData → String
  | .none => "NoneType"
  | .bool _ => "bool"
  | .int _ => "int"
  | .str _ => "str"
  | .list _ => "list"
  | .tuple _ => "tuple"
  | .dict _ => "dict"
/-- plain: no script, no error, no class -/
def plainD : PyData → Bool
  | .dict kvs => kvs.isEmpty
  | _ => true
theorem rp_ty {H : Hp} {v : V} (h : Rp K H v x) (p : plainD x = true) : TyX K H v (.type (tyD x)) := by
  cases h with
  | non => exact .base .non
  | bl b => exact .base (.bl b)
  | int i => exact .base (.int i)
  | str s => exact .base (.str s)
  | lst h r => exact .base (.lst h)
  | tup h r => exact .base (.tup h)
  | emp h => exact .base (.dK h)
  | scr h => cases p
  | exc h f => cases p
  | ty n => cases p
  | cls C => cases p
theorem Rp.ty_inv {H : Hp} {v : V} {n : String} (h : Rp K H v (dTy n)) : v = .ty n := by
  generalize hd : dTy n = d at h
  cases h with
  | ty m =>
    have z := PyData.dict.inj hd
    have z2 := (Prod.mk.inj (List.cons.inj z).1).2
    have z3 := PyData.list.inj z2
    have inj : ∀ (l1 l2 : List Char), (l1.map fun ch => PyData.int (ch.toNat : Int)) = (l2.map fun ch => PyData.int (ch.toNat : Int)) → l1 = l2 := by
      intro l1
      induction l1 with
      | nil =>
        intro l2 h
        cases l2 with
        | nil => rfl
        | cons _ _ => cases h
      | cons a l1 ih =>
        intro l2 h
        cases l2 with
        | nil => cases h
        | cons b l2 =>
          have h' := List.cons.inj h
          have h1 : (a.toNat : Int) = (b.toNat : Int) := PyData.int.inj h'.1
          have h2 : a = b := Char.toNat_inj.mp (by omega)
          rw [ih l2 h'.2, h2]
    have z4 : n = m := String.toList_inj.mp (inj _ _ z3)
    rw [z4]
  | _ => cases hd
theorem cd_isi {n : String} (hp : plainD x = true) (hb : kitB (tyD x) n = some b) : CallD K (rIsi K) [x, dTy n] (.bool b) := fun G H vs e r Q q => by
  obtain ⟨v, u, rfl, hv, hu⟩ := r.two
  cases hu.ty_inv
  exact ⟨v, .ty n, _, _, b, rfl, .ty n, rp_ty (hv.ex e) hp, kit_ty hb, q _ G H (Run.refl e) (.bl _)⟩
theorem ev_ty {n : String} : EvD K c (tC (.ty n)) δ (dTy n) := ev_c fun _ => .ty n
theorem ev_cls {C : Addr} : EvD K c (tC (.ref C)) δ (dCls C) := ev_c fun _ => .cls C
end
end Pd

namespace PySem
open Sem (wp)
open AutoSeq1 (wpAny_loadPart')
theorem pd_enumerate_newT (l : Addr) (items : Array Value) (n : Nat) (dct : Option Addr) (sl : Array (Option Value)) :
    Meets (Builtin.«enumerate.__new__» ⟨[.type "enumerate", .ref l], []⟩) (fun _ R s => s.heap.get? l = some { cls := .type "tuple", dict := dct, data := .seq items n, slots := sl } ∧
      R (.ok (.ret (.ref (s.heap.push { cls := .type "tuple_iterator", data := .fields #[.ref l, .int 0 0] }).objs.size)))
        { s with heap := (s.heap.push { cls := .type "tuple_iterator", data := .fields #[.ref l, .int 0 0] }).push { cls := .type "enumerate", data := .fields #[.none, .bool false, .ref s.heap.objs.size, rawInt 0, .none, .none] } }) :=
  .of_wp fun prog w A R s h => by
    obtain ⟨hp, g, d, tk, os⟩ := s; obtain ⟨hl, h⟩ := h
    have hsub := sub_enumerate
    have hL : Heap.IsTuple (Shared.heap ⟨hp, g, d, tk, os⟩) l items := ⟨_, hl, rfl, n, rfl⟩
    wp_walk using wpAny_loadPart' hl
    refine wpAny_stack_any fun st => wpAny_pure ?_
    split
    · rename_i c _ _ _ _ _
      cases (c == Value.type "enumerate")
      · wp_walk using wpAny_loadPart' hl, wpAny_pyIter_tuple hL
        exact ⟨_, rfl, h⟩
      · wp_walk using wpAny_loadPart' hl, wpAny_pyIter_tuple hL
        exact ⟨_, rfl, h⟩
    · wp_walk using wpAny_loadPart' hl, wpAny_pyIter_tuple hL
      exact ⟨_, rfl, h⟩
section
variable {prog : Program} {w : World} {A : Around} {E : Value → Shared → Prop} {s : Shared}
theorem pd_call_enumerate_tuple {l : Addr} {items : Array Value} {Q : Value → Shared → Prop} (hL : s.heap.IsTuple l items)
    (h : ∀ h', IsEnum h' (s.heap.objs.size + 1) s.heap.objs.size 0 .none → h'.IsTupleIter s.heap.objs.size l 0 → h'.objs.size = s.heap.objs.size + 2 →
      (∀ b o, s.heap.get? b = some o → h'.get? b = some o) → Q (.ref (s.heap.objs.size + 1)) { s with heap := h' }) :
    wpAny (model prog w) A (call (.type "enumerate") [.ref l]) Q E s := by
  obtain ⟨⟨c, dct, dt, sl⟩, hl, hc, n, hd⟩ := hL
  replace hc : c = .type "tuple" := hc
  replace hd : dt = .seq items n := hd
  subst hc hd
  refine callType_new F.called_enumerate (by decide) (F.typeCall_enumerate_1 _) (F.newCall_enumerate_1 _) (fun obj => F.args_object_init_2 obj _) F.entry_enumerate_new
    (pd_enumerate_newT l items n dct sl) ⟨hl, ?_⟩
  have hz : (s.heap.push { cls := .type "tuple_iterator", data := .fields #[.ref l, .int 0 0] }).objs.size = s.heap.objs.size + 1 := Heap.size_push ..
  show _ ∧ _
  rw [hz]
  have he : IsEnum ((s.heap.push { cls := .type "tuple_iterator", data := .fields #[.ref l, .int 0 0] }).push
      { cls := .type "enumerate", data := .fields #[.none, .bool false, .ref s.heap.objs.size, rawInt 0, .none, .none] }) (s.heap.objs.size + 1) s.heap.objs.size 0 .none := by
    have := Heap.get?_push_size (s.heap.push { cls := .type "tuple_iterator", data := .fields #[.ref l, .int 0 0] })
      (o := { cls := .type "enumerate", data := .fields #[.none, .bool false, .ref s.heap.objs.size, rawInt 0, .none, .none] }) rfl
    rw [hz] at this; exact this
  refine ⟨⟨_, he, rfl⟩, h _ he ⟨_, Heap.get?_push_of_some _ (Heap.get?_push_size _ rfl), rfl, rfl⟩ (by rw [Heap.size_push, hz]) fun b o x => Heap.get?_push_of_some _ (Heap.get?_push_of_some _ x)⟩
end
end PySem

namespace Pd
open PySem PySem.Spec PyProof.Rows L2
/-! ### enumerate(tuple) -/
def ItE (K : PySem.W.Frag) (a : Addr) (xs : List V) : It :=
  ⟨fun i H => i < xs.length ∧ SqT K H a xs, fun i H v H' => ∃ T x, v = .ref T ∧ H T = none ∧ H' = upd H T (.tup [.int (i : Nat), x]) ∧ xs[i]? = some x, fun i H => xs.length ≤ i ∧ SqT K H a xs⟩
theorem turn_enumT {P : Program} {w : World} {K : PySem.W.Frag} {elts : List Expr} {kk : Nat} {tpos : Pos} (a e it : Addr) (xs : List V) :
    Turn P w K (.Tuple elts kk tpos) (ItE K a xs) [e, it] e (fun i h => (∃ old, IsEnum h e it ((i : Nat) : Int) old) ∧ h.IsTupleIter it a i ∧ e ≠ it) where
  mem := by simp
  obj := fun i h st b hb => by
    obtain ⟨⟨old, he⟩, ⟨o, ho, hc, hd⟩, _⟩ := st
    have e' : b = e ∨ b = it := by simpa using hb
    rcases e' with z | z
    · rw [z]; exact ⟨_, he, fun v q => nomatch q⟩
    · rw [z]; exact ⟨o, ho, fun v q => by rw [hd] at q; cases q⟩
  keep := fun i h h' st k => let ⟨⟨old, he⟩, hi, hne⟩ := st; ⟨⟨old, k e (by simp) _ he⟩, hi.at fun o q => k it (by simp) o q, hne⟩
  item := by
    intro X hP hw hK hc i pins s σ H E I hf st hg
    subst hP hw hK
    obtain ⟨⟨old, he⟩, hit, hne⟩ := st
    obtain ⟨hlt, hq⟩ := hg
    have hx : xs[i]? = some xs[i] := List.getElem?_eq_getElem hlt
    obtain ⟨its, rv, p, hz⟩ := I.tuple hq
    obtain ⟨u, hu, ru⟩ := rv.get hx
    have hel : e < s.heap.objs.size := Heap.lt_size he
    have hil : it < s.heap.objs.size := by obtain ⟨_, q, _⟩ := hit; exact Heap.lt_size q
    have hT0 : s.heap.IsTuple a its.toArray := p
    have hae : a ≠ e := fun z => by
      obtain ⟨o, ho, hcl, _⟩ := hT0
      have he' : s.heap.get? e = some _ := he
      rw [z, he'] at ho
      cases ho
      exact absurd (Value.type.inj (show Value.type "enumerate" = Value.type "tuple" from hcl)) (by decide)
    have hai : a ≠ it := fun z => by
      obtain ⟨o, ho, hcl, _⟩ := hT0
      obtain ⟨o2, ho2, hcl2, _⟩ := hit
      rw [z, ho2] at ho
      cases ho
      rw [hcl2] at hcl
      exact absurd (Value.type.inj hcl) (by decide)
    have DD := Draws.tuple (prog := X.prog) (w := X.w) (A := X.A.in1) (by exact I.ok.hd hc) it a hai its.toArray
    have hsz : its.toArray.size = xs.length := by rw [List.size_toArray]; exact rv.length.symm
    refine wpAny_pyNext_enum_itemD DD (i := i) he ⟨hit, hT0⟩ (by rw [hsz]; exact hlt) hne (by simp only [List.mem_cons, List.not_mem_nil, or_false, not_or]; exact ⟨hne, Ne.symm hae⟩) fun x h' tk hP ho hst' hT hsz' hk => ?_
    have hxu : x = u := by
      have h1 : its.toArray[i]? = some x := hP
      rw [List.getElem?_toArray, hu] at h1
      exact (Option.some.inj h1).symm
    subst hxu
    refine ⟨_, rfl, wpAny_letOwnedTupleGo_enum (s := { s with heap := h', toks := tk + 1 }) ho fun h'' he' sb => ?_⟩
    have hT2 : h''.get? s.heap.objs.size = some { cls := .type "tuple", data := .seq #[.int i tk, x] } := (sb.2 _ (Nat.ne_of_gt hel)).trans hT
    have new : ObjOk X.prog X.w (upd H s.heap.objs.size (.tup [.int (i : Nat), xs[i]])) h'' s.heap.objs.size (.tup [.int (i : Nat), xs[i]]) :=
      ⟨by show 2 ≤ sizeLine; decide, [.int i tk, x], .cons ⟨_, rfl⟩ (.cons ru .nil), ⟨_, hT2, rfl, _, rfl⟩⟩
    have I1 : Inv X pins σ (upd H s.heap.objs.size (.tup [.int (i : Nat), xs[i]])) { s with heap := h'', toks := tk + 1 } :=
      I.turnedNew (ch := [e, it]) (fun b ob hb q => (sb.2 b (fun z => hb (by simp [z]))).trans (hk b ob (fun z => hb (by simp [z])) (fun z => hb (by simp [z])) q)) hf (Nat.le_refl _) new
    refine ⟨.ref s.heap.objs.size, _, I1, rfl, ⟨_, xs[i], rfl, I.hok.fresh (Nat.le_refl _), rfl, hx⟩, ⟨⟨x, ?_⟩, hst'.1.at fun o q => (sb.2 it (Ne.symm hne)).trans q, hne⟩, fun b hb => ?_⟩
    · have e1 : ((i + 1 : Nat) : Int) = (i : Int) + 1 := by omega
      rw [e1]; exact he'
    · have hb' : b < s.heap.objs.size := by
        have e' : b = e ∨ b = it := by simpa using hb
        rcases e' with z | z
        · rw [z]; exact hel
        · rw [z]; exact hil
      rw [upd_ne (Nat.ne_of_lt hb')]
      exact (hf b hb).1
  done := by
    intro X hP hw hK hc i pins s σ H E I hf st hg
    subst hP hw hK
    obtain ⟨⟨old, he⟩, hit, hne⟩ := st
    obtain ⟨hx, hq⟩ := hg
    obtain ⟨its, rv, p, hz⟩ := I.tuple hq
    obtain ⟨f0, f1, f2, f3, f4, f5⟩ := hf it (by simp)
    have hl := rv.length
    have hT0 : s.heap.IsTuple a its.toArray := p
    have hai : a ≠ it := fun z => by
      obtain ⟨o, ho, hcl, _⟩ := hT0
      obtain ⟨o2, ho2, hcl2, _⟩ := hit
      rw [z, ho2] at ho
      cases ho
      rw [hcl2] at hcl
      exact absurd (Value.type.inj hcl) (by decide)
    have hT : s.TypeIs (.ref e) "enumerate" := ⟨_, he, rfl⟩
    unfold pyNext
    refine wpAny_bind (wpAny_attempt (wpAny_callSpecial?_slot (name := Str.ofString "__next__") hT F.slot_enumerate_next
      (wpAny_call_entry F.slot_enumerate_next hT F.entry_enumerate_next ?_ (F.args_enumerate_next_1 _))))
    show wpAny _ _ (field (.ref e) 2 >>= _) _ _ _
    refine wpAny_bind (wpAny_field he rfl (x := .ref it) rfl ?_)
    refine wpAny_bind (wpAny_nextOf_tuple_end (by exact I.ok.hd hc) hit hT0 (by simp; omega) fun h' x eb hx' => ?_)
    obtain ⟨o, ho, hc'⟩ := hx'
    refine wpAny_bind (wpAny_isInstance (T := "StopIteration") (b := true) ⟨o, ho, hc'⟩ isSubtype_stop ?_)
    exact wpAny_pure ⟨rfl, I.turned (t' := s.toks) (fun b o hb q => eb b o hb q) f0 f1 f3 f4 f5⟩
  self := fun A i s Q E st h => let ⟨⟨_, he⟩, _⟩ := st; wpAny_pyIter_enum he h
def iEnumT (K : PySem.W.Frag) (ta : TA) : TI := fun σ H R => ta σ H fun vs H1 => ∃ a xs, vs = [.ref a] ∧ SqT K H1 a xs ∧ R (ItE K a xs) H1
theorem pi_enumT {X : Cx} {e : Expr} {ta : TA} {p pos tpos : Pos} {elts : List Expr} {kk : Nat} (hg : Gl X "enumerate") (hm : X.mg "enumerate" = none) (ha : PA X [e] ta) (hs : starEach [e] X.env = [(false, eval e X.env)] := by rfl) :
    PI X (.Tuple elts kk tpos) (.Call (.Name "enumerate" p) [e] [] pos) (iEnumT X.K ta) := by
  refine ⟨fun pins s σ H R I h => ?_⟩
  refine Call_ (ld_blt I hg hm boot_enumerate (PyProof.Rows.callWith_type1 (thn (ha.run pos pins s σ H _ I h) fun us s1 ⟨vs, H1, I1, r1, q1⟩ => ?_) hs rfl))
  obtain ⟨a, xs, ex, hq, q⟩ := q1
  subst ex
  cases r1 with
  | cons r rr =>
    cases rr
    cases r
    obtain ⟨its, rv, p', hz⟩ := I1.tuple hq
    refine pd_call_enumerate_tuple (show s1.heap.IsTuple a its.toArray from p') fun h' he hit hsz hk => wpAny_pyIter_enum he ?_
    have I2 : Inv X pins σ H1 { s1 with heap := h' } := I1.kept (t' := s1.toks) hk
    refine ⟨s1.heap.objs.size + 1, [s1.heap.objs.size + 1, s1.heap.objs.size], _, _, H1, rfl, I2, turn_enumT a (s1.heap.objs.size + 1) s1.heap.objs.size xs, ⟨⟨.none, he⟩, hit, Nat.succ_ne_self _⟩, fun b hb => ?_, q⟩
    have e' : b = s1.heap.objs.size + 1 ∨ b = s1.heap.objs.size := by simpa using hb
    have hle : s1.heap.objs.size ≤ b := by
      rcases e' with z | z
      · rw [z]; exact Nat.le_add_right _ _
      · rw [z]; exact Nat.le_refl _
    exact I1.fpOk hle (I1.hok.fresh hle)
/-! ### a list or a tuple walked -/
def iSeq (K : PySem.W.Frag) (tl : TE) : TI := fun σ H R => tl σ H fun x H1 => ∃ a, x = .ref a ∧ (((∃ xs, SqL K H1 a xs) ∧ R (Itl K a) H1) ∨ ((∃ xs, SqT K H1 a xs) ∧ R (Itt K a) H1))
theorem pi_seq {X : Cx} {tg l : Expr} {tl : TE} (hl : PE X l tl) : PI X tg l (iSeq X.K tl) := by
  refine ⟨fun pins s σ H R I h => ?_⟩
  refine thn (hl.run pins s σ H _ I h) fun v s1 ⟨x, H1, I1, r1, q1⟩ => ?_
  obtain ⟨a, e, ⟨⟨xs, hq⟩, q⟩ | ⟨⟨xs, hq⟩, q⟩⟩ := q1
  · subst e
    cases r1
    obtain ⟨its, rv, p, hz⟩ := I1.list hq
    refine wpAny_pyIter_list p.isList ?_
    refine ⟨s1.heap.objs.size, [s1.heap.objs.size], _, _, H1, rfl, I1.kept (t' := s1.toks) fun b o e => Heap.get?_push_of_some _ e, turn_list a _, ⟨_, Heap.get?_push_size _ rfl, rfl, rfl⟩, fun b hb => ?_, q⟩
    have e : b = s1.heap.objs.size := by simpa using hb
    subst e
    exact I1.fpOk (Nat.le_refl _) (I1.hok.fresh (Nat.le_refl _))
  · subst e
    cases r1
    obtain ⟨its, rv, p, hz⟩ := I1.tuple hq
    refine wpAny_pyIter_tuple (show s1.heap.IsTuple a its.toArray from p) ?_
    refine ⟨s1.heap.objs.size, [s1.heap.objs.size], _, _, H1, rfl, I1.kept (t' := s1.toks) fun b o e => Heap.get?_push_of_some _ e, turn_tuple a _, ⟨_, Heap.get?_push_size _ rfl, rfl, rfl⟩, fun b hb => ?_, q⟩
    have e : b = s1.heap.objs.size := by simpa using hb
    subst e
    exact I1.fpOk (Nat.le_refl _) (I1.hok.fresh (Nat.le_refl _))
section
variable {K : PySem.W.Frag} {c : Cc} {δ : DEnv} {ds es : List PyData} {te tb : TE} {tr : TA} {d : PyData} {n i j : Int}
theorem iv_T (h : EvD K c te δ (.tuple ds)) : IvD K c (iSeq K te) δ ds := fun σ H ts td s R q => h σ H ts td s _ fun v H1 s1 => by
  obtain ⟨G, rn, e, t⟩ := s1
  cases t with
  | cons hv t =>
    obtain ⟨a, xs, rfl, hp, r1⟩ := hv.tup_inv
    refine ⟨a, rfl, .inr ⟨⟨xs, SqT.of (rn.h _ _ hp)⟩, q _ G H1 rn e t ⟨fun i H hi ex => ?_, fun H ex => ⟨xs, SqT.of (ex _ _ hp), by rw [r1.length]; exact Nat.le_refl _⟩, fun i H v H' d hd ex y => ?_⟩⟩⟩
    · obtain ⟨v, hv, _⟩ := r1.get (List.getElem?_eq_getElem hi)
      exact ⟨xs, v, SqT.of (ex _ _ hp), hv⟩
    · obtain ⟨rfl, y⟩ := y
      obtain ⟨w, hw, rw'⟩ := r1.get hd
      have z := y xs (SqT.of (ex _ _ hp))
      rw [hw] at z
      cases z
      exact ⟨G, Run.refl ex, rw'⟩
theorem iv_L (h : EvD K c te δ (.list ds)) : IvD K c (iSeq K te) δ ds := fun σ H ts td s R q => h σ H ts td s _ fun v H1 s1 => by
  obtain ⟨G, rn, e, t⟩ := s1
  cases t with
  | cons hv t =>
    obtain ⟨a, xs, rfl, hp, r1⟩ := hv.lst_inv
    refine ⟨a, rfl, .inl ⟨⟨xs, SqL.of (rn.h _ _ hp)⟩, q _ G H1 rn e t ⟨fun i H hi ex => ?_, fun H ex => ⟨xs, SqL.of (ex _ _ hp), by rw [r1.length]; exact Nat.le_refl _⟩, fun i H v H' d hd ex y => ?_⟩⟩⟩
    · obtain ⟨v, hv, _⟩ := r1.get (List.getElem?_eq_getElem hi)
      exact ⟨xs, v, SqL.of (ex _ _ hp), hv⟩
    · obtain ⟨rfl, y⟩ := y
      obtain ⟨w, hw, rw'⟩ := r1.get hd
      have z := y xs (SqL.of (ex _ _ hp))
      rw [hw] at z
      cases z
      exact ⟨G, Run.refl ex, rw'⟩
theorem iv_S {ns : List Int} (h : EvD K c te δ (dScr ns)) : IvD K c (iSeq K te) δ (ns.map PyData.int) := fun σ H ts td s R q => h σ H ts td s _ fun v H1 s1 => by
  obtain ⟨G, rn, e, t⟩ := s1
  cases t with
  | cons hv t =>
    obtain ⟨a, rfl, hp⟩ := hv.scr_inv
    refine ⟨a, rfl, .inl ⟨⟨_, sqL_ex rn.h hp⟩, q _ G H1 rn e t ⟨fun i H hi ex => ?_, fun H ex => ⟨_, sqL_ex ex hp, by rw [List.length_map, List.length_map]; exact Nat.le_refl _⟩, fun i H v H' d hd ex y => ?_⟩⟩⟩
    · rw [List.length_map] at hi
      exact ⟨_, .int ns[i], sqL_ex ex hp, by rw [List.getElem?_map, List.getElem?_eq_getElem hi]; rfl⟩
    · obtain ⟨rfl, y⟩ := y
      have z := y _ (sqL_ex ex hp)
      rw [List.getElem?_map] at hd z
      cases w : ns[i]? with
      | none =>
        rw [w] at hd
        cases hd
      | some m =>
        rw [w] at hd z
        cases hd
        cases z
        exact ⟨G, Run.refl ex, .int m⟩
/-- ints from lo on -/
def dRange (lo : Int) (n : Nat) : List PyData := (List.range n).map fun (k : Nat) => PyData.int (lo + (k : Int))
/-- n - 1, .., 0 -/
def dDown (n : Nat) : List PyData := (List.range n).map fun (k : Nat) => PyData.int ((n : Int) - 1 - (k : Int))
theorem dRange_len {lo : Int} {n : Nat} : (dRange lo n).length = n := by simp [dRange]
theorem dDown_len {n : Nat} : (dDown n).length = n := by simp [dDown]
theorem dRange_get {lo : Int} {n k : Nat} (h : (dRange lo n)[k]? = some d) : k < n ∧ d = .int (lo + (k : Int)) := by
  unfold dRange at h
  rw [List.getElem?_map] at h
  by_cases hk : k < n
  · rw [List.getElem?_range hk] at h
    exact ⟨hk, (Option.some.inj h).symm⟩
  · rw [List.getElem?_eq_none (by rw [List.length_range]; omega)] at h
    cases h
theorem dDown_get {n k : Nat} (h : (dDown n)[k]? = some d) : k < n ∧ d = .int ((n : Int) - 1 - (k : Int)) := by
  unfold dDown at h
  rw [List.getElem?_map] at h
  by_cases hk : k < n
  · rw [List.getElem?_range hk] at h
    exact ⟨hk, (Option.some.inj h).symm⟩
  · rw [List.getElem?_eq_none (by rw [List.length_range]; omega)] at h
    cases h
theorem itd_range {lo : Int} {n : Nat} {G : Hp} : ItD K (Itr lo n) (dRange lo n) G := ⟨fun i H hi _ => by rw [dRange_len] at hi; exact hi, fun H _ => by rw [dRange_len]; exact Nat.le_refl _, fun i H v H' d hd ex y => by
  obtain ⟨rfl, rfl⟩ := y
  obtain ⟨_, rfl⟩ := dRange_get hd
  exact ⟨G, Run.refl ex, .int _⟩⟩
theorem iv_rng1 (h : EvA K c tr δ [.int n]) (h1 : -(2 ^ 62) ≤ n) (h2 : n < 2 ^ 62) : IvD K c (iRng1 tr) δ (dRange 0 n.toNat) := fun σ H ts td s R q => h σ H ts td s _ fun vs H1 hl s1 => by
  obtain ⟨G, rn, e, r1, r2⟩ := sta_split hl s1
  obtain ⟨v, rfl, hv⟩ := r1.one
  exact ⟨n, by rw [hv.int_inv], h1, h2, q _ G H1 rn e r2 itd_range⟩
theorem iv_rng2 (h : EvA K c tr δ [.int i, .int j]) (h1 : -(2 ^ 62) ≤ i) (h2 : i < 2 ^ 62) (h3 : -(2 ^ 62) ≤ j) (h4 : j < 2 ^ 62) : IvD K c (iRng2 tr) δ (dRange i (j - i).toNat) := fun σ H ts td s R q => h σ H ts td s _ fun vs H1 hl s1 => by
  obtain ⟨G, rn, e, r1, r2⟩ := sta_split hl s1
  obtain ⟨v, u, rfl, hv, hu⟩ := r1.two
  exact ⟨i, j, by rw [hv.int_inv, hu.int_inv], ⟨h1, h2, h3, h4⟩, q _ G H1 rn e r2 itd_range⟩
theorem iv_rev1 {m : Nat} (h : EvD K c te δ (.int (m : Int))) (h2 : m < 2 ^ 62) : IvD K c (iRevR (tRg1 te)) δ (dDown m) := fun σ H ts td s R q => h σ H ts td s _ fun v H1 s1 => by
  obtain ⟨G, rn, e, t⟩ := s1
  cases t with
  | cons hv t =>
    have e0 : (((m : Int) - 0).toNat) = m := by omega
    refine ⟨m, hv.int_inv, by omega, by omega, by omega, by omega, ?_⟩
    rw [e0]
    refine q _ G H1 rn e t ⟨fun i H hi _ => by rw [dDown_len] at hi; exact hi, fun H _ => by rw [dDown_len]; exact Nat.le_refl _, fun i H v H' d hd ex y => ?_⟩
    obtain ⟨rfl, rfl⟩ := y
    obtain ⟨_, rfl⟩ := dDown_get hd
    exact ⟨G, Run.refl ex, by rw [show (0 : Int) + (m : Int) - 1 + ((i : Nat) : Int) * -1 = (m : Int) - 1 - (i : Int) by omega]; exact .int _⟩
/-- items with their places -/
def dEnum (ds : List PyData) : List PyData := (List.range ds.length).map fun (k : Nat) => PyData.tuple [.int (k : Int), ds.getD k .none]
theorem dEnum_len : (dEnum ds).length = ds.length := by simp [dEnum]
theorem dEnum_get {k : Nat} (h : (dEnum ds)[k]? = some d) : ∃ x, ds[k]? = some x ∧ d = .tuple [.int (k : Int), x] := by
  unfold dEnum at h
  rw [List.getElem?_map] at h
  by_cases hk : k < ds.length
  · rw [List.getElem?_range hk] at h
    refine ⟨ds[k], List.getElem?_eq_getElem hk, ?_⟩
    have e := (Option.some.inj h).symm
    rw [e]
    show PyData.tuple [.int (k : Int), ds.getD k .none] = _
    rw [List.getD_eq_getElem?_getD, List.getElem?_eq_getElem hk]
    rfl
  · rw [List.getElem?_eq_none (by rw [List.length_range]; omega)] at h
    cases h
theorem iv_enumT (h : EvA K c tr δ [.tuple ds]) : IvD K c (iEnumT K tr) δ (dEnum ds) := fun σ H ts td s R q => h σ H ts td s _ fun vs H1 hl s1 => by
  obtain ⟨G, rn, e, r1, r2⟩ := sta_split hl s1
  obtain ⟨v, rfl, hv⟩ := r1.one
  obtain ⟨a, xs, rfl, hp, r3⟩ := hv.tup_inv
  refine ⟨a, xs, rfl, SqT.of (rn.h _ _ hp), q _ G H1 rn e r2 ⟨fun i H hi ex => ⟨by rw [dEnum_len] at hi; rw [r3.length]; exact hi, SqT.of (ex _ _ hp)⟩, fun H ex => ⟨by rw [dEnum_len, r3.length]; exact Nat.le_refl _, SqT.of (ex _ _ hp)⟩, fun i H v H' d hd ex y => ?_⟩⟩
  obtain ⟨T, x, rfl, nT, rfl, hx⟩ := y
  obtain ⟨z, hz, rfl⟩ := dEnum_get hd
  obtain ⟨w, hw, rw'⟩ := r3.get hz
  rw [hx] at hw
  cases hw
  have r' := Run.new (o := .tup [.int (i : Nat), x]) ex nT
  exact ⟨_, r', .tup upd_same (.cons (.int _) (.cons (rw'.ex r'.g) .nil))⟩
end
section
variable {K : PySem.W.Frag} {c : Cc} {δ δ' : DEnv} {ds : List PyData} {te : TE} {tr : TA} {tl th : TO} {lo hi : Option Int} {t u : TS} {N : DEnv → Prop} {R : Rs → Prop} {n : Nat} {Z : PyData → Prop}
/-- from m - 1 down to 0 -/
theorem iv_rng3 {m : Nat} (h : EvA K c tr δ [.int ((m : Int) - 1), .int (-1), .int (-1)]) (h2 : m < 2 ^ 62) : IvD K c (iRng3 tr) δ (dDown m) := fun σ H ts td s R q => h σ H ts td s _ fun vs H1 hl s1 => by
  obtain ⟨G, rn, e, r1, r2⟩ := sta_split hl s1
  have e0 : (((m : Int) - 1 - (-1)).toNat) = m := by omega
  have sm := RgC.neg (i := (m : Int) - 1) (j := -1) (by omega) (by omega) (by omega) (by omega)
  rw [e0] at sm
  cases r1 with
  | cons a r1 =>
    cases r1 with
    | cons b r1 =>
      cases r1 with
      | cons d r1 =>
        cases r1
        refine ⟨(m : Int) - 1, -1, -1, m, by rw [a.int_inv, b.int_inv, d.int_inv], sm, ?_⟩
        refine q _ G H1 rn e r2 ⟨fun i H hi _ => by rw [dDown_len] at hi; exact hi, fun H _ => by rw [dDown_len]; exact Nat.le_refl _, fun i H v H' d hd ex y => ?_⟩
        obtain ⟨rfl, rfl⟩ := y
        obtain ⟨_, rfl⟩ := dDown_get hd
        exact ⟨G, Run.refl ex, by rw [show (m : Int) - 1 + ((i : Nat) : Int) * -1 = (m : Int) - 1 - (i : Int) by omega]; exact .int _⟩
theorem ev_slTE (h : EvE K c te δ Z) (hz : ∀ z, Z z → ∃ ds, z = .tuple ds) (hl : EvO K c tl δ lo) (hh : EvO K c th δ hi) : EvE K c (tSl (rSlP K) te tl th) δ (fun z => ∃ ds, Z (.tuple ds) ∧ z = .tuple (cutD ds lo hi)) := fun σ H ts td s Q q =>
  h σ H ts td s _ fun z zz v H1 s1 => hl σ H1 _ _ s1 _ fun H2 s2 => hh σ H2 _ _ s2 _ fun H3 s3 => by
    obtain ⟨ds, rfl⟩ := hz z zz
    obtain ⟨G, rn, e, t⟩ := s3
    cases t with
    | cons hv t =>
      obtain ⟨p, xs, rfl, hp, r1⟩ := hv.tup_inv
      refine .inl ⟨p, xs, rfl, SqT.of (rn.h _ _ hp), fun w => ?_, fun w l hl => ?_⟩
      · rw [r1.length] at w
        refine q _ ⟨ds, zz, rfl⟩ _ H3 ⟨G, rn, e, .cons (.tup hp ?_) t⟩
        rw [cut_whole w]
        exact r1
      · have r' := Run.new (o := .tup (cutV xs lo hi)) rn.h hl
        exact q _ ⟨ds, zz, rfl⟩ _ _ ⟨_, rn.trans r', e.run r', .cons (.tup upd_same ((rp_cut r1).ex r'.g)) (t.ex r'.g)⟩
theorem sd_asgET {g : TG} {js : List Nat} {Tg : PyData → DEnv → DEnv} (h : EvE K c te δ Z) (hg : ∀ z, Z z → TgD K g js z δ (Tg z δ)) (hn : ∀ z, Z z → N (Tg z δ)) : SD K c (tAsg te g) δ N R := fun σ H D s q1 q2 _ => h σ H [] [] s _ fun z hz v H1 s1 => hg z hz c σ H1 v [] [] s1 _ fun σ' s' _ _ => q1 _ σ' H1 (hn z hz) s'
end
end Pd

namespace Pd
open PySem PySem.Spec PyProof.Rows L2
theorem tuple_mul1 (l : Addr) (items : Array Value) (n : Nat) (dd : Option Addr) (sl : Array (Option Value)) (x : Int) (u : Tok) (c0 : (decide (x < -(2 ^ 63)) || decide (x ≥ 2 ^ 63)) = false) (c1 : (items.isEmpty || x == 1) = true) :
    Meets (Builtin.«tuple.__mul__» ⟨[.ref l, .int x u], []⟩) (fun _ R s => s.heap.get? l = some { cls := .type "tuple", dict := dd, data := .seq items n, slots := sl } ∧
      R (.ok (.ret (Value.ref l))) s) :=
  .of_wp fun prog w A R s h => by
    obtain ⟨hp, g, d, tk, os⟩ := s
    obtain ⟨hl, h⟩ := h
    have f1 := AutoSeq1.idx_int
    wp_walk using wpAny_loadPart' hl
    repeat (first
      | (refine wpAny_ite_false (decide_eq_false (by rw [c0]; exact Bool.false_ne_true)) ?_; wp_walk using wpAny_loadPart' hl)
      | (refine wpAny_ite_true (decide_eq_true c1) ?_; wp_walk using wpAny_loadPart' hl))
    exact ⟨_, rfl, h⟩
theorem tuple_mul0 (l : Addr) (items : Array Value) (n : Nat) (dd : Option Addr) (sl : Array (Option Value)) (x : Int) (u : Tok) (c0 : (decide (x < -(2 ^ 63)) || decide (x ≥ 2 ^ 63)) = false) (c1 : (items.isEmpty || x == 1) = false) (c2 : (decide (x ≤ 0) || items.isEmpty) = true) :
    Meets (Builtin.«tuple.__mul__» ⟨[.ref l, .int x u], []⟩) (fun _ R s => s.heap.get? l = some { cls := .type "tuple", dict := dd, data := .seq items n, slots := sl } ∧
      R (.ok (.ret (Value.ref s.heap.objs.size))) { s with heap := s.heap.push { cls := Value.type "tuple", data := Data.seq #[] }, toks := s.toks }) :=
  .of_wp fun prog w A R s h => by
    obtain ⟨hp, g, d, tk, os⟩ := s
    obtain ⟨hl, h⟩ := h
    have f1 := AutoSeq1.idx_int
    wp_walk using wpAny_loadPart' hl
    repeat (first
      | (refine wpAny_ite_false (decide_eq_false (by rw [c0]; exact Bool.false_ne_true)) ?_; wp_walk using wpAny_loadPart' hl)
      | (refine wpAny_ite_false (decide_eq_false (by rw [c1]; exact Bool.false_ne_true)) ?_; wp_walk using wpAny_loadPart' hl)
      | (refine wpAny_ite_true (decide_eq_true c2) ?_; wp_walk using wpAny_loadPart' hl))
    exact ⟨_, rfl, h⟩
def rRepA (K : PySem.W.Frag) : R2 := fun x y H Q => ∃ l k xs, x = .ref l ∧ y = .int k ∧ SqT K H l xs ∧ xs ≠ [] ∧ 0 ≤ k ∧ k ≤ 1000 ∧ xs.length ≤ 1000 ∧ (k = 1 → Q (.ref l) H) ∧ (k ≠ 1 → ∀ p, H p = none → Q (.ref p) (upd H p (.tup (List.replicate k.toNat xs).flatten)))
section
variable {X : Cx}
theorem op_repA : OpR X (binaryOp .Mult) (rRepA X.K) := by
  intro pins s σ H x y v u Q I rx ry h
  obtain ⟨l, k, xs, rfl, rfl, hT, hne, h1, h2, hz, q1, q2⟩ := h
  by_cases hk2 : 2 ≤ k
  · exact op_repT pins s σ H _ _ v u Q I rx ry ⟨l, k, xs, rfl, rfl, hT, hne, hk2, h2, hz, q2 (by omega)⟩
  cases rx
  obtain ⟨t, rfl⟩ := ry
  obtain ⟨its, r, ⟨⟨cls, dd, data, sl⟩, ho, hc, n, hd⟩, hs⟩ := I.tuple hT
  simp only at hc hd
  subst hc hd
  have hle : its.length = xs.length := r.length.symm
  have hn : its ≠ [] := fun e => hne (by
    rw [e] at hle
    exact List.eq_nil_of_length_eq_zero hle.symm)
  have hi : its.toArray.isEmpty = false := by
    cases its with
    | nil => exact absurd rfl hn
    | cons a b => rfl
  have c0 : (decide (k < -(2 ^ 63)) || decide (k ≥ 2 ^ 63)) = false := by
    rw [decide_eq_false (by omega), decide_eq_false (by omega)] <;> rfl
  by_cases hk1 : k = 1
  · have c1 : (its.toArray.isEmpty || k == 1) = true := by
      rw [hi, Bool.false_or, hk1]
      rfl
    exact wpAny_binaryOp_repeat_ref (T := "tuple") (U := "int") (by decide) ⟨_, ho, rfl⟩ (fun s' => typeIs_int s' k t) noFill_tuple_mul F.fills_int_mul F.slot_int_rmul repeat_tuple F.slot_int_index.lookup
      (call_meets F.slot_int_rmul (typeIs_int s k t) F.entry_int_rmul (F.args_int_rmul_2 _ _) (int_rmul_tuple k t l its.toArray n dd sl)
        ⟨ho, rfl, ⟨_, ho, rfl⟩, call_meets F.slot_tuple_mul ⟨_, ho, rfl⟩ F.entry_tuple_mul (F.args_tuple_mul_2 _ _) (tuple_mul1 l its.toArray n dd sl k t c0 c1) ⟨ho, ⟨.ref l, H, I, rfl, q1 hk1⟩⟩⟩)
  · have hk0 : k = 0 := by omega
    have c1 : (its.toArray.isEmpty || k == 1) = false := by
      rw [hi, Bool.false_or, hk0]
      rfl
    have c2 : (decide (k ≤ 0) || its.toArray.isEmpty) = true := by
      rw [hk0]
      rfl
    refine wpAny_binaryOp_repeat_ref (T := "tuple") (U := "int") (by decide) ⟨_, ho, rfl⟩ (fun s' => typeIs_int s' k t) noFill_tuple_mul F.fills_int_mul F.slot_int_rmul repeat_tuple F.slot_int_index.lookup
      (call_meets F.slot_int_rmul (typeIs_int s k t) F.entry_int_rmul (F.args_int_rmul_2 _ _) (int_rmul_tuple k t l its.toArray n dd sl)
        ⟨ho, rfl, ⟨_, ho, rfl⟩, call_meets F.slot_tuple_mul ⟨_, ho, rfl⟩ F.entry_tuple_mul (F.args_tuple_mul_2 _ _) (tuple_mul0 l its.toArray n dd sl k t c0 c1 c2) ⟨ho, ?_⟩⟩)
    have q := q2 hk1 _ (I.hok.fresh (Nat.le_refl _))
    have e : (List.replicate k.toNat xs).flatten = [] := by
      rw [hk0]
      rfl
    rw [e] at q
    refine ⟨.ref s.heap.objs.size, _, I.laid (t' := s.toks) (o := .tup []) (fun b ob q => Heap.get?_push_of_some _ q) (Nat.le_refl _) ?_, rfl, q⟩
    exact ⟨Nat.zero_le _, [], .nil, IsTup.new _ _⟩
/-- * : ints; a list, a tuple with an int -/
def rMulP (K : PySem.W.Frag) : R2 := fun x y H Q => rI CMul (fun i j => .int (i * j)) x y H Q ∨ (fun x y H Q => rRep x y H Q ∨ rRepA K x y H Q) x y H Q
theorem op_mulP : OpR X (binaryOp .Mult) (rMulP X.K) := op_mul.or (op_rep.or op_repA)
end
section
variable {K : PySem.W.Frag} {i j : Int} {d : PyData} {ds : List PyData}
theorem od_mul (h : CMul i j) : OpD K (rMulP K) (.int i) (.int j) (.int (i * j)) := OpD.inl (opd_I h fun _ => .int _)
theorem RpAll.flat {H : Hp} {vs : List V} (r : RpAll K H vs ds) : ∀ n : Nat, RpAll K H (List.replicate n vs).flatten (List.replicate n ds).flatten
  | 0 => .nil
  | n + 1 => by
    rw [List.replicate_succ, List.replicate_succ, List.flatten_cons, List.flatten_cons]
    exact r.append (RpAll.flat r n)
theorem flat_one {α : Type} (x : α) : ∀ n : Nat, (List.replicate n [x]).flatten = List.replicate n x
  | 0 => rfl
  | n + 1 => by
    rw [List.replicate_succ, List.flatten_cons, flat_one x n]
    rfl
theorem on_rep (h0 : -(2 ^ 63) ≤ i) (h1 : i < 2 ^ 63) (hz : ds.length * i.toNat ≤ 100000) : OpN K (rMulP K) (.list ds) (.int i) (List.replicate i.toNat ds).flatten := OpN.inr (OpN.inl fun G H v u e hv hu Q q => by
  obtain ⟨p, xs, rfl, hp, r1⟩ := hv.lst_inv
  exact ⟨p, i, xs, rfl, hu.int_inv, e _ _ hp, h0, h1, sz_le (by rw [r1.length]; exact hz), fun l hl => q l _ G _ (Run.newg e hl) hl (e.free hl) upd_same (r1.flat _)⟩)
theorem od_repT (h0 : 0 ≤ i) (h1 : i ≤ 1000) : OpD K (rMulP K) (.tuple [d]) (.int i) (.tuple (List.replicate i.toNat d)) := OpD.inr (OpD.inr fun G H v u e hv hu Q q => by
  obtain ⟨p, xs, rfl, hp, r1⟩ := hv.tup_inv
  have rr := r1.flat i.toNat
  rw [flat_one] at rr
  have hl := r1.length
  refine ⟨p, i, xs, rfl, hu.int_inv, SqT.of (e _ _ hp), (fun z => by rw [z] at hl; cases hl), h0, h1, (by rw [hl]; show 1 ≤ 1000; decide), fun z => ?_, fun _ l hl => ?_⟩
  · subst z
    exact q _ G H (Run.refl e) (.tup hp r1)
  · have r' := Run.new (o := .tup (List.replicate i.toNat xs).flatten) e hl
    exact q _ _ _ r' (.tup upd_same (rr.ex r'.g)))
end
end Pd

/-! the mathematics: discs on three pegs -/
namespace Peg
abbrev Pg := Fin 3
/-- the third peg -/
def thd (a b : Pg) : Pg := 3 - a - b
theorem thd_val : ∀ a b : Pg, a ≠ b → ((3 : Int) - (a.val : Int)) - (b.val : Int) = ((thd a b).val : Int) := by decide
theorem thd_comm : ∀ a b : Pg, thd a b = thd b a := by decide
theorem thd_ne : ∀ a b : Pg, a ≠ b → thd a b ≠ a ∧ thd a b ≠ b := by decide
theorem thd_thd : ∀ a b : Pg, a ≠ b → thd a (thd a b) = b := by decide
theorem thd_thd2 : ∀ a b : Pg, a ≠ b → thd b (thd a b) = a := by decide
theorem pg_cases : ∀ a b c : Pg, a ≠ b → c = a ∨ c = b ∨ c = thd a b := by decide

/-! ### the greatest disc ahead -/
/-- how many moves bring all discs to a peg -/
def toP : List Pg → Pg → Nat
  | [], _ => 0
  | q :: r, p => if q = p then toP r p else 2 ^ r.length + toP r (thd q p)
/-- .. the least discs, so many, of a setting (the least disc ahead) -/
def toPg (s : List Pg) (p : Pg) (n : Nat) : Nat := toP (s.take n).reverse p
/-- the first move by which all discs come to a peg -/
def firstTo : List Pg → Pg → Option (Nat × Pg)
  | [], _ => none
  | q :: r, p => if q = p then firstTo r p else (firstTo r (thd q p)).or (some (r.length, p))
def firstG (s : List Pg) (p : Pg) (n : Nat) : Option (Nat × Pg) := firstTo (s.take n).reverse p
theorem take_rev {s : List Pg} {m : Nat} (h : m < s.length) : (s.take (m + 1)).reverse = s[m] :: (s.take m).reverse := by
  rw [List.take_succ_eq_append_getElem h, List.reverse_append]
  rfl
theorem take_len {s : List Pg} {m : Nat} (h : m ≤ s.length) : (s.take m).reverse.length = m := by
  rw [List.length_reverse, List.length_take]
  omega
/-- the greatest disc on unlike pegs -/
def gu : List Pg → List Pg → Option Nat
  | a :: r, b :: s => if a = b then gu r s else some r.length
  | _, _ => none
def guG (s t : List Pg) (n : Nat) : Option Nat := gu (s.take n).reverse (t.take n).reverse
/-- both counts -/
def once : List Pg → List Pg → Nat
  | a :: r, b :: s => if a = b then once r s else toP r (thd a b) + 1 + toP s (thd a b)
  | _, _ => 0
def twice : List Pg → List Pg → Nat
  | a :: r, b :: s => if a = b then twice r s else toP r b + 2 ^ r.length + 1 + toP s a
  | _, _ => 0
def far (r s : List Pg) : Nat := min (once r s) (twice r s)
def many (r s : List Pg) : Nat := if once r s = twice r s ∧ r ≠ s then 2 else 1
def nextM : List Pg → List Pg → Option (Nat × Pg)
  | a :: r, b :: s => if a = b then nextM r s else
      if once (a :: r) (b :: s) ≤ twice (a :: r) (b :: s) then (firstTo r (thd a b)).or (some (r.length, b)) else (firstTo r b).or (some (r.length, thd a b))
  | _, _ => none
/-! ### the least disc ahead -/
theorem gu_some {s t : List Pg} {m : Nat} (hl : t.length = s.length) (h : gu s.reverse t.reverse = some m) :
    ∃ (h1 : m < s.length) (h2 : m < t.length), s[m] ≠ t[m] ∧ once s.reverse t.reverse = toPg s (thd s[m] t[m]) m + 1 + toPg t (thd s[m] t[m]) m ∧ twice s.reverse t.reverse = toPg s t[m] m + 2 ^ m + 1 + toPg t s[m] m := by
  have key : ∀ k, k ≤ s.length → gu (s.take k).reverse (t.take k).reverse = some m → ∃ (h1 : m < s.length) (h2 : m < t.length), s[m] ≠ t[m] ∧
      once (s.take k).reverse (t.take k).reverse = toPg s (thd s[m] t[m]) m + 1 + toPg t (thd s[m] t[m]) m ∧ twice (s.take k).reverse (t.take k).reverse = toPg s t[m] m + 2 ^ m + 1 + toPg t s[m] m := by
    intro k
    induction k with
    | zero =>
      intro _ h
      simp [gu] at h
    | succ k ih =>
      intro hk h
      have h1 : k < s.length := by omega
      have h2 : k < t.length := by omega
      rw [take_rev h1, take_rev h2] at h ⊢
      by_cases e : s[k] = t[k]
      · rw [gu, if_pos e] at h
        rw [once, if_pos e, twice, if_pos e]
        exact ih (by omega) h
      · rw [gu, if_neg e, take_len (by omega)] at h
        cases h
        refine ⟨h1, h2, e, ?_, ?_⟩
        · rw [once, if_neg e]
          rfl
        · rw [twice, if_neg e, take_len (by omega)]
          rfl
  have := key s.length (Nat.le_refl _)
  rw [List.take_length, List.take_of_length_le (show t.length ≤ s.length by omega)] at this
  exact this h
theorem gu_nextN : ∀ {r s : List Pg}, gu r s = none → nextM r s = none
  | [], _, _ => by simp [nextM]
  | _ :: _, [], _ => by simp [nextM]
  | a :: r, b :: s, h => by
    by_cases e : a = b
    · rw [gu, if_pos e] at h
      rw [nextM, if_pos e]
      exact gu_nextN h
    · rw [gu, if_neg e] at h
      cases h
theorem gu_next {s t : List Pg} {m : Nat} (hl : t.length = s.length) (h : gu s.reverse t.reverse = some m) (h1 : m < s.length) (h2 : m < t.length) :
    nextM s.reverse t.reverse = if once s.reverse t.reverse ≤ twice s.reverse t.reverse then (firstG s (thd s[m] t[m]) m).or (some (m, t[m])) else (firstG s t[m] m).or (some (m, thd s[m] t[m])) := by
  have key : ∀ k, k ≤ s.length → gu (s.take k).reverse (t.take k).reverse = some m →
      nextM (s.take k).reverse (t.take k).reverse = if once (s.take k).reverse (t.take k).reverse ≤ twice (s.take k).reverse (t.take k).reverse then (firstG s (thd s[m] t[m]) m).or (some (m, t[m])) else (firstG s t[m] m).or (some (m, thd s[m] t[m])) := by
    intro k
    induction k with
    | zero =>
      intro _ h
      simp [gu] at h
    | succ k ih =>
      intro hk h
      have h1 : k < s.length := by omega
      have h2 : k < t.length := by omega
      rw [take_rev h1, take_rev h2] at h ⊢
      by_cases e : s[k] = t[k]
      · rw [gu, if_pos e] at h
        rw [nextM, if_pos e, once, if_pos e, twice, if_pos e]
        exact ih (by omega) h
      · rw [gu, if_neg e, take_len (by omega)] at h
        cases h
        rw [nextM, if_neg e, take_len (by omega)]
        rfl
  have := key s.length (Nat.le_refl _)
  rw [List.take_length, List.take_of_length_le (show t.length ≤ s.length by omega)] at this
  exact this h

/-! ### which moves may be -/
def top (s : List Pg) (p : Pg) : Option Nat := (List.range s.length).find? fun k => decide (s[k]? = some p)
theorem top_some {s : List Pg} {p : Pg} {a : Nat} : top s p = some a ↔ s[a]? = some p ∧ ∀ k, k < a → s[k]? ≠ some p := by
  unfold top
  rw [List.find?_range_eq_some]
  constructor
  · rintro ⟨h1, h2, h3⟩
    refine ⟨of_decide_eq_true h1, fun k hk => ?_⟩
    have := h3 k hk
    simpa using this
  · rintro ⟨h1, h2⟩
    refine ⟨decide_eq_true h1, ?_, fun k hk => ?_⟩
    · obtain ⟨h, _⟩ := List.getElem?_eq_some_iff.mp h1
      exact List.mem_range.mpr h
    · simpa using h2 k hk
theorem top_none {s : List Pg} {p : Pg} : top s p = none ↔ ∀ k : Nat, s[k]? ≠ some p := by
  unfold top
  rw [List.find?_eq_none]
  constructor
  · intro h k hk
    obtain ⟨hl, _⟩ := List.getElem?_eq_some_iff.mp hk
    exact h k (List.mem_range.mpr hl) (decide_eq_true hk)
  · intro h k _ hk
    exact h k (of_decide_eq_true hk)
def cand (s : List Pg) (o p : Pg) : Option (Nat × Pg) := match top s o with
  | none => none
  | some a => if p = o then none else match top s p with
    | none => some (a, p)
    | some b => if a < b then some (a, p) else none
def okM (s : List Pg) (m : Nat × Pg) : Prop := ∃ o, s[m.1]? = some o ∧ m.2 ≠ o ∧ ∀ k, k < m.1 → s[k]? ≠ some o ∧ s[k]? ≠ some m.2
theorem cand_iff {s : List Pg} {o p : Pg} {m : Nat × Pg} : cand s o p = some m ↔ m.2 = p ∧ s[m.1]? = some o ∧ okM s m := by
  obtain ⟨d, q⟩ := m
  unfold cand
  cases h : top s o with
  | none =>
    constructor
    · intro z
      cases z
    · rintro ⟨_, h1, _⟩
      exact absurd h1 (top_none.mp h d)
  | some a =>
    obtain ⟨h1, h2⟩ := top_some.mp h
    show (if p = o then none else _) = some (d, q) ↔ _
    by_cases e : p = o
    · rw [if_pos e]
      constructor
      · intro z
        cases z
      · rintro ⟨z, z1, o', z2, z3, _⟩
        dsimp only at z z1 z2 z3
        rw [z1] at z2
        cases z2
        exact absurd (z.trans e) z3
    · rw [if_neg e]
      have back : ∀ {d : Nat} {q : Pg}, q = p → s[d]? = some o → okM s (d, q) → d = a ∧ ∀ k, k < d → s[k]? ≠ some p := by
        rintro d q rfl z1 ⟨o', z2, z3, z4⟩
        dsimp only at z1 z2 z3 z4
        rw [z1] at z2
        cases z2
        refine ⟨?_, fun k hk => (z4 k hk).2⟩
        rcases Nat.lt_trichotomy d a with l | l | l
        · exact absurd z1 (h2 d l)
        · exact l
        · exact absurd h1 (z4 a l).1
      cases h' : top s p with
      | none =>
        have h3 := top_none.mp h'
        constructor
        · intro z
          cases z
          exact ⟨rfl, h1, o, h1, e, fun k hk => ⟨h2 k hk, h3 k⟩⟩
        · rintro ⟨z, z1, z2⟩
          obtain ⟨z3, _⟩ := back z z1 z2
          dsimp only at z z3
          rw [z, z3]
      | some b =>
        obtain ⟨h3, h4⟩ := top_some.mp h'
        show (if a < b then some (a, p) else none) = some (d, q) ↔ _
        by_cases l : a < b
        · rw [if_pos l]
          constructor
          · intro z
            cases z
            exact ⟨rfl, h1, o, h1, e, fun k hk => ⟨h2 k hk, h4 k (by omega)⟩⟩
          · rintro ⟨z, z1, z2⟩
            obtain ⟨z3, _⟩ := back z z1 z2
            dsimp only at z z3
            rw [z, z3]
        · rw [if_neg l]
          constructor
          · intro z
            cases z
          · rintro ⟨z, z1, z2⟩
            obtain ⟨z3, z4⟩ := back z z1 z2
            subst z3
            rcases Nat.lt_or_ge b d with y | y
            · exact absurd h3 (z4 b y)
            · have : d = b := by omega
              rw [this, h3] at h1
              cases h1
              exact absurd rfl e
/-- the candidates, by the peg where from, then where to -/
def pgN (k : Nat) : Pg := ⟨k % 3, Nat.mod_lt _ (by decide)⟩
def fl (s : List Pg) (m : Nat) : List (Nat × Pg) := (List.range m).filterMap fun k => cand s (pgN (k / 3)) (pgN k)
theorem fl_succ (s : List Pg) (m : Nat) : fl s (m + 1) = fl s m ++ (cand s (pgN (m / 3)) (pgN m)).toList := by
  unfold fl
  rw [List.range_succ, List.filterMap_append]
  cases h : cand s (pgN (m / 3)) (pgN m) <;> simp [h]
theorem fl_len (s : List Pg) (m : Nat) : (fl s m).length ≤ m := by
  unfold fl
  have := List.length_filterMap_le (fun k => cand s (pgN (k / 3)) (pgN k)) (List.range m)
  rw [List.length_range] at this
  exact this
theorem mem_fl {s : List Pg} {m : Nat × Pg} : m ∈ fl s 9 ↔ okM s m := by
  unfold fl
  rw [List.mem_filterMap]
  constructor
  · rintro ⟨k, _, h⟩
    exact (cand_iff.mp h).2.2
  · intro h
    obtain ⟨o, h1, _⟩ := id h
    refine ⟨3 * o.val + m.2.val, List.mem_range.mpr (by have := o.isLt; have := m.2.isLt; omega), ?_⟩
    have e1 : pgN ((3 * o.val + m.2.val) / 3) = o := Fin.ext (by show (3 * o.val + m.2.val) / 3 % 3 = o.val; have := o.isLt; have := m.2.isLt; omega)
    have e2 : pgN (3 * o.val + m.2.val) = m.2 := Fin.ext (by show (3 * o.val + m.2.val) % 3 = m.2.val; have := m.2.isLt; omega)
    rw [e1, e2]
    exact cand_iff.mpr ⟨rfl, h1, h⟩
theorem fl_nodup (s : List Pg) : (fl s 9).Nodup := by
  unfold fl
  rw [List.Nodup, List.pairwise_filterMap]
  refine List.Pairwise.imp_of_mem ?_ (List.nodup_range (n := 9))
  intro a b ha hb hne x hx y hy e
  subst e
  obtain ⟨h1, h2, _⟩ := cand_iff.mp hx
  obtain ⟨h3, h4, _⟩ := cand_iff.mp hy
  rw [h2] at h4
  have e1 := Option.some.inj h4
  have e2 : pgN a = pgN b := h1.symm.trans h3
  have f1 : a / 3 % 3 = b / 3 % 3 := congrArg Fin.val e1
  have f2 : a % 3 = b % 3 := congrArg Fin.val e2
  have := List.mem_range.mp ha
  have := List.mem_range.mp hb
  omega
def okB (s : List Pg) (d : Nat) (p : Pg) : Bool := match s[d]? with
  | none => false
  | some o => decide (p ≠ o) && (List.range d).all fun k => decide (s[k]? ≠ some o) && decide (s[k]? ≠ some p)
theorem okB_iff {s : List Pg} {d : Nat} {p : Pg} : okB s d p = true ↔ okM s (d, p) := by
  unfold okB okM
  cases h : s[d]? with
  | none => simp
  | some o =>
    simp only [Bool.and_eq_true, decide_eq_true_eq, List.all_eq_true, List.mem_range]
    constructor
    · rintro ⟨a, b⟩
      exact ⟨o, rfl, a, b⟩
    · rintro ⟨o', a, b, c⟩
      cases a
      exact ⟨b, c⟩
def pgs : List Pg := [0, 1, 2]
def may (s : List Pg) : List (Nat × Pg) := (List.range s.length).flatMap fun d => pgs.filterMap fun p => if okB s d p = true then some (d, p) else none
theorem mem_pgs : ∀ p : Pg, p ∈ pgs := by decide
theorem mem_may {s : List Pg} {m : Nat × Pg} : m ∈ may s ↔ okM s m := by
  unfold may
  rw [List.mem_flatMap]
  constructor
  · rintro ⟨d, _, h⟩
    rw [List.mem_filterMap] at h
    obtain ⟨p, _, h⟩ := h
    by_cases e : okB s d p = true
    · rw [if_pos e] at h
      cases h
      exact okB_iff.mp e
    · rw [if_neg e] at h
      cases h
  · intro h
    obtain ⟨o, h1, _⟩ := id h
    obtain ⟨hl, _⟩ := List.getElem?_eq_some_iff.mp h1
    refine ⟨m.1, List.mem_range.mpr hl, List.mem_filterMap.mpr ⟨m.2, mem_pgs _, ?_⟩⟩
    rw [if_pos (okB_iff.mpr h)]
/-- pairs of whole numbers, in order -/
def toPr (m : Nat × Pg) : Int × Int := ((m.1 : Int), ((m.2.val : Nat) : Int))
theorem toPr_inj {m n : Nat × Pg} (h : toPr m = toPr n) : m = n := by
  obtain ⟨a, b⟩ := m
  obtain ⟨c, d⟩ := n
  have h1 : (a : Int) = c := congrArg Prod.fst h
  have h2 : ((b.val : Nat) : Int) = ((d.val : Nat) : Int) := congrArg Prod.snd h
  have e1 : a = c := by omega
  have e2 : b = d := Fin.ext (by omega)
  rw [e1, e2]
def mLt (a b : Nat × Pg) : Prop := a.1 < b.1 ∨ a.1 = b.1 ∧ a.2 < b.2
theorem may_sorted (s : List Pg) : (may s).Pairwise mLt := by
  unfold may
  rw [List.pairwise_flatMap]
  constructor
  · intro d _
    rw [List.pairwise_filterMap]
    refine List.Pairwise.imp ?_ (show pgs.Pairwise (· < ·) by decide)
    intro p q hpq x hx y hy
    by_cases e : okB s d p = true
    · rw [if_pos e] at hx
      cases hx
      by_cases e' : okB s d q = true
      · rw [if_pos e'] at hy
        cases hy
        exact .inr ⟨rfl, hpq⟩
      · rw [if_neg e'] at hy
        cases hy
    · rw [if_neg e] at hx
      cases hx
  · refine List.Pairwise.imp ?_ (List.pairwise_lt_range (n := s.length))
    intro d e hde x hx y hy
    rw [List.mem_filterMap] at hx hy
    obtain ⟨p, _, hx⟩ := hx
    obtain ⟨q, _, hy⟩ := hy
    by_cases e1 : okB s d p = true
    · rw [if_pos e1] at hx
      cases hx
      by_cases e2 : okB s e q = true
      · rw [if_pos e2] at hy
        cases hy
        exact .inl hde
      · rw [if_neg e2] at hy
        cases hy
    · rw [if_neg e1] at hx
      cases hx
theorem may_nodup (s : List Pg) : (may s).Nodup := by
  refine List.Pairwise.imp ?_ (may_sorted s)
  rintro ⟨a, b⟩ ⟨c, d⟩ h e
  cases e
  rcases h with h | ⟨_, h⟩
  · exact Nat.lt_irrefl _ h
  · exact Nat.lt_irrefl _ h
theorem fl_perm (s : List Pg) : (fl s 9).Perm (may s) := (List.perm_ext_iff_of_nodup (fl_nodup s) (may_nodup s)).mpr fun m => mem_fl.trans mem_may.symm
theorem may_uniq {s : List Pg} {l : List (Int × Int)} (hp : l.Perm ((fl s 9).map toPr)) (hs : l.Pairwise fun a b => a.1 < b.1 ∨ a.1 = b.1 ∧ a.2 ≤ b.2) : l = (may s).map toPr := by
  refine List.Perm.eq_of_pairwise ?_ hs ?_ (hp.trans ((fl_perm s).map toPr))
  · rintro ⟨a, b⟩ ⟨c, d⟩ _ _ h1 h2
    have e1 : a = c := by
      dsimp only at h1 h2
      omega
    have e2 : b = d := by
      dsimp only at h1 h2
      omega
    rw [e1, e2]
  · rw [List.pairwise_map]
    refine List.Pairwise.imp ?_ (may_sorted s)
    rintro ⟨a, b⟩ ⟨c, d⟩ h
    rcases h with h | ⟨h, h'⟩
    · exact .inl (by show (a : Int) < c; have : a < c := h; omega)
    · refine .inr ⟨by show (a : Int) = c; have : a = c := h; omega, ?_⟩
      have : b.val < d.val := h'
      show ((b.val : Nat) : Int) ≤ ((d.val : Nat) : Int)
      omega
end Peg

/-! the mathematics, 2: how moves change how far it is to a peg -/
namespace Peg
theorem toP_lt : ∀ (r : List Pg) (p : Pg), toP r p < 2 ^ r.length
  | [], _ => by simp [toP]
  | q :: r, p => by
    rw [toP, List.length_cons, Nat.pow_succ]
    have h1 := toP_lt r p
    have h2 := toP_lt r (thd q p)
    split <;> omega
theorem toP_zero : ∀ (r : List Pg) (p : Pg), toP r p = 0 ↔ r = List.replicate r.length p
  | [], _ => by simp [toP]
  | q :: r, p => by
    rw [toP, List.length_cons, List.replicate_succ]
    have h0 : 0 < 2 ^ r.length := Nat.pow_pos (by decide)
    by_cases e : q = p
    · rw [if_pos e, toP_zero r p, e]
      constructor
      · intro h
        rw [← h]
      · intro h
        exact (List.cons.inj h).2
    · rw [if_neg e]
      constructor
      · intro h
        omega
      · intro h
        exact absurd (List.cons.inj h).1 e
theorem toP_rep (n : Nat) (p q : Pg) : toP (List.replicate n p) q = if p = q then 0 else 2 ^ n - 1 := by
  induction n generalizing q with
  | zero => simp [toP]
  | succ n ih =>
    rw [List.replicate_succ, toP]
    by_cases e : p = q
    · rw [if_pos e, if_pos e, ih, if_pos e]
    · have h0 : 0 < 2 ^ n := Nat.pow_pos (by decide)
      rw [if_neg e, if_neg e, ih, if_neg (fun z => (thd_ne p q e).1 z.symm), List.length_replicate, Nat.pow_succ]
      omega
theorem toP_rep_ne {n : Nat} {p q : Pg} (h : p ≠ q) : toP (List.replicate n p) q = 2 ^ n - 1 := by rw [toP_rep, if_neg h]
theorem toP_rep_eq {n : Nat} {p : Pg} : toP (List.replicate n p) p = 0 := by rw [toP_rep, if_pos rfl]
theorem toP_sum : ∀ r : List Pg, toP r 0 + toP r 1 + toP r 2 = 2 * (2 ^ r.length - 1)
  | [] => rfl
  | q :: r => by
    have ih := toP_sum r
    have h0 : 0 < 2 ^ r.length := Nat.pow_pos (by decide)
    rw [toP, toP, toP, List.length_cons, Nat.pow_succ]
    have c : q = 0 ∨ q = 1 ∨ q = 2 := by revert q; decide
    rcases c with rfl | rfl | rfl
    · rw [if_pos rfl, if_neg (by decide), if_neg (by decide), show thd 0 1 = 2 by decide, show thd 0 2 = 1 by decide]
      omega
    · rw [if_neg (by decide), if_pos rfl, if_neg (by decide), show thd 1 0 = 2 by decide, show thd 1 2 = 0 by decide]
      omega
    · rw [if_neg (by decide), if_neg (by decide), if_pos rfl, show thd 2 0 = 1 by decide, show thd 2 1 = 0 by decide]
      omega
theorem firstTo_none : ∀ (r : List Pg) (p : Pg), firstTo r p = none ↔ r = List.replicate r.length p
  | [], _ => by simp [firstTo]
  | q :: r, p => by
    rw [firstTo, List.length_cons, List.replicate_succ]
    by_cases e : q = p
    · rw [if_pos e, firstTo_none r p, e]
      constructor
      · intro h
        rw [← h]
      · intro h
        exact (List.cons.inj h).2
    · rw [if_neg e]
      constructor
      · intro h
        cases z : firstTo r (thd q p) with
        | none =>
          rw [z] at h
          cases h
        | some m =>
          rw [z] at h
          cases h
      · intro h
        exact absurd (List.cons.inj h).1 e
/-! ### a setting with a greater disc more -/
/-- the moves of the greatest disc, the lesser ones t -/
def topM (t : List Pg) (q : Pg) : List (Nat × Pg) := pgs.filterMap fun p => if p ≠ q ∧ t = List.replicate t.length (thd q p) then some (t.length, p) else none
theorem okM_lt {t : List Pg} {q p : Pg} {d : Nat} (h : d < t.length) : okM (t ++ [q]) (d, p) ↔ okM t (d, p) := by
  unfold okM
  have e : ∀ k, k ≤ d → (t ++ [q])[k]? = t[k]? := fun k hk => List.getElem?_append_left (by omega)
  dsimp only
  rw [e d (Nat.le_refl _)]
  constructor
  · rintro ⟨o, h1, h2, h3⟩
    exact ⟨o, h1, h2, fun k hk => by rw [← e k (by omega)]; exact h3 k hk⟩
  · rintro ⟨o, h1, h2, h3⟩
    exact ⟨o, h1, h2, fun k hk => by rw [e k (by omega)]; exact h3 k hk⟩
theorem okM_top {t : List Pg} {q p : Pg} : okM (t ++ [q]) (t.length, p) ↔ p ≠ q ∧ t = List.replicate t.length (thd q p) := by
  unfold okM
  dsimp only
  rw [List.getElem?_concat_length]
  constructor
  · rintro ⟨o, h1, h2, h3⟩
    have e := Option.some.inj h1
    subst e
    refine ⟨h2, ?_⟩
    rw [List.eq_replicate_iff]
    refine ⟨rfl, fun b hb => ?_⟩
    obtain ⟨k, hk, e⟩ := List.getElem_of_mem hb
    have h4 := h3 k hk
    rw [List.getElem?_append_left hk, List.getElem?_eq_getElem hk, e] at h4
    rcases pg_cases q p b (Ne.symm h2) with z | z | z
    · exact absurd (by rw [z]) h4.1
    · exact absurd (by rw [z]) h4.2
    · exact z
  · rintro ⟨h1, h2⟩
    refine ⟨q, rfl, h1, fun k hk => ?_⟩
    rw [List.getElem?_append_left hk, List.getElem?_eq_getElem hk]
    have e : t[k] = thd q p := List.eq_of_mem_replicate (n := t.length) (by rw [← h2]; exact List.getElem_mem hk)
    rw [e]
    have n := thd_ne q p (Ne.symm h1)
    exact ⟨fun z => n.1 (Option.some.inj z), fun z => n.2 (Option.some.inj z)⟩
theorem may_snoc (t : List Pg) (q : Pg) : may (t ++ [q]) = may t ++ topM t q := by
  unfold may topM
  rw [List.length_append, List.length_singleton, List.range_succ, List.flatMap_append]
  congr 1
  · unfold List.flatMap
    congr 1
    apply List.map_congr_left
    intro d hd
    have hl := List.mem_range.mp hd
    congr 1
    funext p
    have e : (okB (t ++ [q]) d p = true) = (okB t d p = true) := by
      rw [okB_iff, okB_iff]
      exact propext (okM_lt hl)
    simp only [e]
  · rw [List.flatMap_singleton]
    congr 1
    funext p
    have e : (okB (t ++ [q]) t.length p = true) = (p ≠ q ∧ t = List.replicate t.length (thd q p)) := by
      rw [okB_iff]
      exact propext okM_top
    simp only [e]
theorem filterMap_one {β : Type} (h : Pg → Option β) (p0 : Pg) (hn : ∀ p, p ≠ p0 → h p = none) : pgs.filterMap h = (h p0).toList := by
  have c : p0 = 0 ∨ p0 = 1 ∨ p0 = 2 := (by decide : ∀ p : Pg, p = 0 ∨ p = 1 ∨ p = 2) p0
  unfold pgs
  rcases c with rfl | rfl | rfl
  · have h1 := hn 1 (by decide)
    have h2 := hn 2 (by decide)
    cases h0 : h 0 <;> simp [h0, h1, h2]
  · have h1 := hn 0 (by decide)
    have h2 := hn 2 (by decide)
    cases h0 : h 1 <;> simp [h0, h1, h2]
  · have h1 := hn 0 (by decide)
    have h2 := hn 1 (by decide)
    cases h0 : h 2 <;> simp [h0, h1, h2]
/-- the setting behind a move -/
def aft (s : List Pg) (m : Nat × Pg) : List Pg := s.set m.1 m.2
theorem aft_len (s : List Pg) (m : Nat × Pg) : (aft s m).length = s.length := List.length_set
theorem may_len {s : List Pg} {m : Nat × Pg} (h : m ∈ may s) : m.1 < s.length := by
  obtain ⟨o, h1, _⟩ := mem_may.mp h
  exact (List.getElem?_eq_some_iff.mp h1).1
theorem aft_lt {t : List Pg} {q : Pg} {m : Nat × Pg} (h : m.1 < t.length) : aft (t ++ [q]) m = aft t m ++ [q] := by
  unfold aft
  rw [List.set_append_left _ _ h]
theorem aft_top {t : List Pg} {q p : Pg} : aft (t ++ [q]) (t.length, p) = t ++ [p] := by
  unfold aft
  rw [List.set_append_right _ _ (Nat.le_refl _), Nat.sub_self]
  rfl
theorem mem_topM {t : List Pg} {q : Pg} {m : Nat × Pg} : m ∈ topM t q ↔ m.1 = t.length ∧ m.2 ≠ q ∧ t = List.replicate t.length (thd q m.2) := by
  unfold topM
  rw [List.mem_filterMap]
  constructor
  · rintro ⟨p, _, h⟩
    by_cases e : p ≠ q ∧ t = List.replicate t.length (thd q p)
    · rw [if_pos e] at h
      cases h
      exact ⟨rfl, e⟩
    · rw [if_neg e] at h
      cases h
  · rintro ⟨h1, h2⟩
    obtain ⟨d, p⟩ := m
    exact ⟨p, mem_pgs p, by rw [if_pos h2]; dsimp only at h1; rw [h1]⟩
theorem may_le (s : List Pg) : (may s).length ≤ 9 := by
  rw [← (fl_perm s).length_eq]
  exact fl_len s 9
/-- how far all discs are from a peg -/
def L (s : List Pg) (p : Pg) : Nat := toP s.reverse p
theorem L_snoc (t : List Pg) (q p : Pg) : L (t ++ [q]) p = if q = p then L t p else 2 ^ t.length + L t (thd q p) := by
  unfold L
  rw [List.reverse_append, List.reverse_singleton, List.singleton_append, toP, List.length_reverse]
theorem L_nil (p : Pg) : L [] p = 0 := rfl
theorem L_rep (n : Nat) (p q : Pg) : L (List.replicate n p) q = if p = q then 0 else 2 ^ n - 1 := by
  unfold L
  rw [List.reverse_replicate, toP_rep]
theorem L_lt (s : List Pg) (p : Pg) : L s p < 2 ^ s.length := by
  have := toP_lt s.reverse p
  rwa [List.length_reverse] at this
theorem L_rep' {t : List Pg} {p q : Pg} (h : t = List.replicate t.length p) : L t q = if p = q then 0 else 2 ^ t.length - 1 := by
  have := L_rep t.length p q
  rwa [← h] at this
theorem snoc_ind {P : List Pg → Prop} (h0 : P []) (h1 : ∀ t q, P t → P (t ++ [q])) : ∀ s, P s := by
  intro s
  rw [← List.reverse_reverse s]
  induction s.reverse with
  | nil => exact h0
  | cons q r ih =>
    rw [List.reverse_cons]
    exact h1 _ _ ih
/-- a move changes it by one at the most -/
theorem L_step : ∀ (s : List Pg) (p : Pg) (m : Nat × Pg), m ∈ may s → L (aft s m) p ≤ L s p + 1 ∧ L s p ≤ L (aft s m) p + 1 := by
  refine snoc_ind (fun p m h => by simp [may] at h) fun t q ih p m h => ?_
  have p0 : 0 < 2 ^ t.length := Nat.pow_pos (by decide)
  rw [may_snoc] at h
  rcases List.mem_append.mp h with h | h
  · have hl := may_len h
    rw [aft_lt hl, L_snoc, L_snoc, aft_len]
    have i1 := ih p m h
    have i2 := ih (thd q p) m h
    by_cases e : q = p
    · rw [if_pos e, if_pos e]
      exact i1
    · rw [if_neg e, if_neg e]
      omega
  · obtain ⟨d, p'⟩ := m
    obtain ⟨h1, h2, h3⟩ := mem_topM.mp h
    dsimp only at h1 h2 h3
    subst h1
    rw [aft_top, L_snoc, L_snoc]
    have hr := fun q => L_rep' (q := q) h3
    have n1 := thd_ne q p' (Ne.symm h2)
    by_cases e : q = p
    · subst e
      rw [if_pos rfl, if_neg h2, hr, hr, thd_comm p' q, if_pos rfl, if_neg n1.1]
      omega
    · rw [if_neg e]
      by_cases e2 : p' = p
      · subst e2
        rw [if_pos rfl, hr, hr, if_neg n1.2, if_pos rfl]
        omega
      · rw [if_neg e2]
        have e3 : p = thd q p' := by
          rcases pg_cases q p' p (Ne.symm h2) with z | z | z
          · exact absurd z.symm e
          · exact absurd z.symm e2
          · exact z
        subst e3
        rw [hr, hr, if_neg (fun z => (thd_ne p' (thd q p') e2).2 z.symm), if_neg (fun z => (thd_ne q (thd q p') e).2 z.symm)]
        omega
/-- just one lowers it, where it isn't nought -/
theorem L_lower : ∀ (s : List Pg) (p : Pg), (may s).filter (fun m => decide (L (aft s m) p + 1 = L s p)) = (firstTo s.reverse p).toList := by
  refine snoc_ind (fun p => by simp [may, firstTo]) fun t q ih p => ?_
  have p0 : 0 < 2 ^ t.length := Nat.pow_pos (by decide)
  rw [may_snoc, List.filter_append, List.reverse_append, List.reverse_singleton, List.singleton_append, firstTo, List.length_reverse]
  have there : (may t).filter (fun m => decide (L (aft (t ++ [q]) m) p + 1 = L (t ++ [q]) p)) = (firstTo t.reverse (if q = p then p else thd q p)).toList := by
    rw [← ih]
    refine List.filter_congr fun m hm => ?_
    rw [aft_lt (may_len hm), L_snoc, L_snoc, aft_len]
    by_cases e : q = p
    · rw [if_pos e, if_pos e, if_pos e]
    · rw [if_neg e, if_neg e, if_neg e]
      congr 1
      exact propext ⟨fun z => by omega, fun z => by omega⟩
  have top : (topM t q).filter (fun m => decide (L (aft (t ++ [q]) m) p + 1 = L (t ++ [q]) p)) = if q ≠ p ∧ t = List.replicate t.length (thd q p) then [(t.length, p)] else [] := by
    unfold topM
    rw [List.filter_filterMap, filterMap_one _ p]
    · by_cases hc : p ≠ q ∧ t = List.replicate t.length (thd q p)
      · rw [if_pos hc, if_pos ⟨Ne.symm hc.1, hc.2⟩]
        have hr := fun q => L_rep' (q := q) hc.2
        have e : L (aft (t ++ [q]) (t.length, p)) p + 1 = L (t ++ [q]) p := by
          rw [aft_top, L_snoc, L_snoc, if_pos rfl, if_neg (Ne.symm hc.1), hr, hr, if_pos rfl, if_neg (thd_ne q p (Ne.symm hc.1)).2]
          omega
        simp [Option.filter, e]
      · rw [if_neg hc, if_neg (fun z => hc ⟨Ne.symm z.1, z.2⟩)]
        rfl
    · intro p' hp'
      by_cases hc : p' ≠ q ∧ t = List.replicate t.length (thd q p')
      · rw [if_pos hc]
        have hr := fun q => L_rep' (q := q) hc.2
        have n1 := thd_ne q p' (Ne.symm hc.1)
        have e : ¬ (L (aft (t ++ [q]) (t.length, p')) p + 1 = L (t ++ [q]) p) := by
          rw [aft_top, L_snoc, L_snoc, if_neg hp']
          by_cases e : q = p
          · subst e
            rw [if_pos rfl, hr, hr, thd_comm p' q, if_pos rfl, if_neg n1.1]
            omega
          · rw [if_neg e]
            have e3 : p = thd q p' := by
              rcases pg_cases q p' p (Ne.symm hc.1) with z | z | z
              · exact absurd z.symm e
              · exact absurd z.symm hp'
              · exact z
            subst e3
            rw [hr, hr, if_neg (fun z => (thd_ne p' (thd q p') hp').2 z.symm), if_neg (fun z => (thd_ne q (thd q p') e).2 z.symm)]
            omega
        simp [Option.filter, e]
      · rw [if_neg hc]
        rfl
  rw [there, top]
  by_cases e : q = p
  · rw [if_pos e, if_neg (fun z => z.1 e), if_pos e, List.append_nil]
  · rw [if_neg e, if_neg e]
    by_cases hc : t = List.replicate t.length (thd q p)
    · rw [if_pos ⟨e, hc⟩]
      have hn : firstTo t.reverse (thd q p) = none := by
        rw [firstTo_none, List.length_reverse]
        have := congrArg List.reverse hc
        rwa [List.reverse_replicate] at this
      rw [hn]
      rfl
    · rw [if_neg (fun z => hc z.2), List.append_nil]
      cases hn : firstTo t.reverse (thd q p) with
      | none =>
        rw [firstTo_none, List.length_reverse] at hn
        have := congrArg List.reverse hn
        rw [List.reverse_reverse, List.reverse_replicate] at this
        exact absurd this hc
      | some m => rfl
theorem next_rep : ∀ (r : List Pg) (p : Pg), nextM r (List.replicate r.length p) = firstTo r p
  | [], p => by simp [nextM, firstTo]
  | q :: r, p => by
    rw [List.length_cons, List.replicate_succ, nextM, firstTo]
    by_cases e : q = p
    · rw [if_pos e, if_pos e]
      exact next_rep r p
    · rw [if_neg e, if_neg e, once, twice, if_neg e, if_neg e]
      have n1 := thd_ne q p e
      have l1 := toP_lt r (thd q p)
      have p0 : 0 < 2 ^ r.length := Nat.pow_pos (by decide)
      rw [toP_rep_ne (Ne.symm n1.2), toP_rep_ne (Ne.symm e), if_pos (by omega)]
end Peg

/-! the mathematics, 3: how far two settings are, and by how many ways -/
namespace Peg
def On (s t : List Pg) : Nat := once s.reverse t.reverse
def Tw (s t : List Pg) : Nat := twice s.reverse t.reverse
def Fr (s t : List Pg) : Nat := far s.reverse t.reverse
def Mn (s t : List Pg) : Nat := many s.reverse t.reverse
theorem Fr_eq (s t : List Pg) : Fr s t = min (On s t) (Tw s t) := rfl
theorem Mn_eq (s t : List Pg) : Mn s t = if On s t = Tw s t ∧ s ≠ t then 2 else 1 := by
  unfold Mn many On Tw
  have e : (s.reverse ≠ t.reverse) = (s ≠ t) := propext ⟨fun h z => h (by rw [z]), fun h z => h (List.reverse_inj.mp z)⟩
  simp only [e]
theorem On_snoc (s t : List Pg) (a b : Pg) : On (s ++ [a]) (t ++ [b]) = if a = b then On s t else L s (thd a b) + 1 + L t (thd a b) := by
  unfold On L
  rw [List.reverse_append, List.reverse_append, List.reverse_singleton, List.reverse_singleton, List.singleton_append, List.singleton_append, once]
theorem Tw_snoc (s t : List Pg) (a b : Pg) : Tw (s ++ [a]) (t ++ [b]) = if a = b then Tw s t else L s b + 2 ^ s.length + 1 + L t a := by
  unfold Tw L
  rw [List.reverse_append, List.reverse_append, List.reverse_singleton, List.reverse_singleton, List.singleton_append, List.singleton_append, twice, List.length_reverse]
theorem Fr_same (s t : List Pg) (a : Pg) : Fr (s ++ [a]) (t ++ [a]) = Fr s t := by
  rw [Fr_eq, Fr_eq, On_snoc, Tw_snoc, if_pos rfl, if_pos rfl]
theorem snoc_inj {s t : List Pg} {a b : Pg} : s ++ [a] = t ++ [b] ↔ s = t ∧ a = b := by
  constructor
  · intro h
    have := List.append_inj' h rfl
    exact ⟨this.1, (List.cons.inj this.2).1⟩
  · rintro ⟨rfl, rfl⟩
    rfl
theorem Mn_same (s t : List Pg) (a : Pg) : Mn (s ++ [a]) (t ++ [a]) = Mn s t := by
  rw [Mn_eq, Mn_eq, On_snoc, Tw_snoc, if_pos rfl, if_pos rfl]
  have e : (s ++ [a] ≠ t ++ [a]) = (s ≠ t) := propext ⟨fun h z => h (by rw [z]), fun h z => h (snoc_inj.mp z).1⟩
  simp only [e]
theorem snoc2_ind {P : List Pg → List Pg → Prop} (h0 : P [] []) (h1 : ∀ s t a b, s.length = t.length → P s t → P (s ++ [a]) (t ++ [b])) : ∀ s t, s.length = t.length → P s t := by
  refine snoc_ind (fun t h => ?_) fun s a ih t h => ?_
  · have : t = [] := List.eq_nil_of_length_eq_zero h.symm
    rw [this]
    exact h0
  · rcases List.eq_nil_or_concat t with z | ⟨t', b, z⟩
    · rw [z, List.length_append] at h
      simp at h
    · rw [List.concat_eq_append] at z
      subst z
      have hl : s.length = t'.length := by
        simp only [List.length_append, List.length_singleton] at h
        omega
      exact h1 s t' a b hl (ih t' hl)
theorem OT_sym : ∀ s t : List Pg, s.length = t.length → On s t = On t s ∧ Tw s t = Tw t s := by
  refine snoc2_ind ⟨rfl, rfl⟩ fun s t a b hl ih => ?_
  rw [On_snoc, On_snoc, Tw_snoc, Tw_snoc, thd_comm b a]
  by_cases e : a = b
  · rw [if_pos e, if_pos e.symm, if_pos e, if_pos e.symm]
    exact ih
  · rw [if_neg e, if_neg (Ne.symm e), if_neg e, if_neg (Ne.symm e), hl]
    omega
theorem Fr_sym {s t : List Pg} (h : s.length = t.length) : Fr s t = Fr t s := by
  rw [Fr_eq, Fr_eq, (OT_sym s t h).1, (OT_sym s t h).2]
theorem Mn_sym {s t : List Pg} (h : s.length = t.length) : Mn s t = Mn t s := by
  rw [Mn_eq, Mn_eq, (OT_sym s t h).1, (OT_sym s t h).2]
  have e : (s ≠ t) = (t ≠ s) := propext ⟨Ne.symm, Ne.symm⟩
  simp only [e]
theorem OT_zero : ∀ s t : List Pg, s.length = t.length → (s = t → On s t = 0 ∧ Tw s t = 0) ∧ (s ≠ t → 0 < On s t ∧ 0 < Tw s t) := by
  refine snoc2_ind ⟨fun _ => ⟨rfl, rfl⟩, fun h => absurd rfl h⟩ fun s t a b hl ih => ?_
  rw [On_snoc, Tw_snoc]
  by_cases e : a = b
  · rw [if_pos e, if_pos e]
    exact ⟨fun h => ih.1 (snoc_inj.mp h).1, fun h => ih.2 fun z => h (snoc_inj.mpr ⟨z, e⟩)⟩
  · rw [if_neg e, if_neg e]
    have p0 : 0 < 2 ^ s.length := Nat.pow_pos (by decide)
    exact ⟨fun h => absurd (snoc_inj.mp h).2 e, fun _ => ⟨by omega, by omega⟩⟩
theorem Fr_zero {s t : List Pg} (h : s.length = t.length) : Fr s t = 0 ↔ s = t := by
  have z := OT_zero s t h
  rw [Fr_eq]
  constructor
  · intro h0
    by_cases e : s = t
    · exact e
    · have := z.2 e
      omega
  · intro e
    have := z.1 e
    omega
/-- from all discs on one peg -/
theorem rep_OT : ∀ (t : List Pg) (c : Pg), (t = List.replicate t.length c → On (List.replicate t.length c) t = 0 ∧ Tw (List.replicate t.length c) t = 0) ∧
    (t ≠ List.replicate t.length c → On (List.replicate t.length c) t = L t c ∧ L t c < Tw (List.replicate t.length c) t) := by
  refine snoc_ind (fun c => ⟨fun _ => ⟨rfl, rfl⟩, fun h => absurd rfl h⟩) fun t b ih c => ?_
  have hr : List.replicate (t ++ [b]).length c = List.replicate t.length c ++ [c] := by
    rw [List.length_append, List.length_singleton, List.replicate_succ']
  have p0 : 0 < 2 ^ t.length := Nat.pow_pos (by decide)
  rw [hr, On_snoc, Tw_snoc, ne_eq, snoc_inj, L_snoc, List.length_replicate]
  by_cases e : c = b
  · rw [if_pos e, if_pos e, if_pos e.symm]
    exact ⟨fun h => (ih c).1 h.1, fun h => (ih c).2 fun z => h ⟨z, e.symm⟩⟩
  · rw [if_neg e, if_neg e, if_neg (Ne.symm e), L_rep, L_rep, if_neg (thd_ne c b e).1.symm, if_neg e, thd_comm b c]
    have l1 := L_lt t (thd c b)
    exact ⟨fun h => absurd h.2 (Ne.symm e), fun _ => by omega⟩
theorem rep_Fr (t : List Pg) (c : Pg) : Fr (List.replicate t.length c) t = L t c := by
  rw [Fr_eq]
  by_cases e : t = List.replicate t.length c
  · have h := (rep_OT t c).1 e
    have : L t c = 0 := by
      have := L_rep' (q := c) e
      rwa [if_pos rfl] at this
    omega
  · have h := (rep_OT t c).2 e
    omega
theorem rep_Mn (t : List Pg) (c : Pg) : Mn (List.replicate t.length c) t = 1 := by
  rw [Mn_eq, if_neg]
  rintro ⟨h1, h2⟩
  have h := (rep_OT t c).2 (Ne.symm h2)
  omega
/-! ### one move -/
section
variable {s t : List Pg} {a b : Pg}
/-- a lesser disc moves -/
theorem OT_lt {m : Nat × Pg} (h : m ∈ may s) (e : a ≠ b) : On (aft (s ++ [a]) m) (t ++ [b]) = L (aft s m) (thd a b) + 1 + L t (thd a b) ∧ Tw (aft (s ++ [a]) m) (t ++ [b]) = L (aft s m) b + 2 ^ s.length + 1 + L t a := by
  rw [aft_lt (may_len h), On_snoc, Tw_snoc, if_neg e, if_neg e, aft_len]
  exact ⟨rfl, rfl⟩
/-- the greatest disc moves, which is on the other's peg -/
theorem top_same {p : Pg} (hl : s.length = t.length) (h2 : p ≠ a) (h3 : s = List.replicate s.length (thd a p)) : Fr (s ++ [p]) (t ++ [a]) = Fr (s ++ [a]) (t ++ [a]) + 1 := by
  have p0 : 0 < 2 ^ t.length := Nat.pow_pos (by decide)
  rw [Fr_same]
  have f : Fr s t = L t (thd a p) := by
    rw [h3, hl]
    exact rep_Fr t _
  have hr := fun q => L_rep' (q := q) h3
  have n1 := thd_ne a p (Ne.symm h2)
  have l1 := L_lt t (thd a p)
  rw [f, Fr_eq, On_snoc, Tw_snoc, if_neg h2, if_neg h2, thd_comm p a, hr, hr, if_pos rfl, if_neg n1.1, hl]
  omega
/-- .. it comes to the other's peg -/
theorem top_once (hl : s.length = t.length) (e : a ≠ b) (h3 : s = List.replicate s.length (thd a b)) : Fr (s ++ [b]) (t ++ [b]) + 1 = Fr (s ++ [a]) (t ++ [b]) ∧ On (s ++ [a]) (t ++ [b]) < Tw (s ++ [a]) (t ++ [b]) ∧ Mn (s ++ [b]) (t ++ [b]) = 1 := by
  have p0 : 0 < 2 ^ t.length := Nat.pow_pos (by decide)
  have f : Fr s t = L t (thd a b) := by
    rw [h3, hl]
    exact rep_Fr t _
  have g : Mn s t = 1 := by
    rw [h3, hl]
    exact rep_Mn t _
  have hr := fun q => L_rep' (q := q) h3
  have n1 := thd_ne a b e
  have l1 := L_lt t (thd a b)
  have o : On (s ++ [a]) (t ++ [b]) = 1 + L t (thd a b) := by
    rw [On_snoc, if_neg e, hr, if_pos rfl, Nat.zero_add]
  have w : Tw (s ++ [a]) (t ++ [b]) = 2 * 2 ^ t.length + L t a := by
    rw [Tw_snoc, if_neg e, hr, if_neg n1.2, hl]
    omega
  refine ⟨?_, by omega, by rw [Mn_same]; exact g⟩
  rw [Fr_same, f, Fr_eq, o, w]
  omega
/-- .. it comes to the third peg -/
theorem top_twice (hl : s.length = t.length) (e : a ≠ b) (h3 : s = List.replicate s.length b) : On (s ++ [thd a b]) (t ++ [b]) + 1 = Tw (s ++ [a]) (t ++ [b]) ∧ Tw (s ++ [thd a b]) (t ++ [b]) = On (s ++ [a]) (t ++ [b]) + 1 := by
  have p0 : 0 < 2 ^ t.length := Nat.pow_pos (by decide)
  have hr := fun q => L_rep' (q := q) h3
  have n1 := thd_ne a b e
  have e2 : thd (thd a b) b = a := by rw [thd_comm, thd_thd2 a b e]
  rw [On_snoc, Tw_snoc, On_snoc, Tw_snoc, if_neg n1.2, if_neg n1.2, if_neg e, if_neg e, e2, hr, hr, hr, if_neg (Ne.symm e), if_pos rfl, if_neg (Ne.symm n1.2), hl]
  omega
theorem top_pegs {p : Pg} (e : a ≠ b) (h : p ≠ a) : p = b ∨ p = thd a b := by
  rcases pg_cases a b p e with z | z | z
  · exact absurd z h
  · exact .inl z
  · exact .inr z
end
/-- a move changes how far they are by one at the most -/
theorem Fr_step : ∀ s t : List Pg, s.length = t.length → ∀ m ∈ may s, Fr (aft s m) t ≤ Fr s t + 1 ∧ Fr s t ≤ Fr (aft s m) t + 1 := by
  refine snoc2_ind (fun m h => by simp [may] at h) fun s t a b hl ih m h => ?_
  rw [may_snoc] at h
  rcases List.mem_append.mp h with h | h
  · by_cases e : a = b
    · subst e
      rw [aft_lt (may_len h), Fr_same, Fr_same]
      exact ih m h
    · obtain ⟨h1, h2⟩ := OT_lt (t := t) h e
      have s1 := L_step s (thd a b) m h
      have s2 := L_step s b m h
      rw [Fr_eq, Fr_eq, h1, h2, On_snoc, Tw_snoc, if_neg e, if_neg e]
      omega
  · obtain ⟨d, p⟩ := m
    obtain ⟨h1, h2, h3⟩ := mem_topM.mp h
    dsimp only at h1 h2 h3
    subst h1
    rw [aft_top]
    by_cases e : a = b
    · subst e
      have := top_same hl h2 h3
      omega
    · rcases top_pegs e h2 with rfl | rfl
      · have := (top_once hl e h3).1
        omega
      · rw [thd_thd a b e] at h3
        have := top_twice hl e h3
        rw [Fr_eq, Fr_eq]
        omega
/-! ### how many -/
def nearW (s t : List Pg) (m : Nat × Pg) : Nat := if Fr (aft s m) t + 1 = Fr s t then Mn (aft s m) t else 0
theorem sum_if (l : List (Nat × Pg)) (f : Nat × Pg → Bool) : (l.map fun m => if f m = true then 1 else 0).sum = (l.filter f).length := by
  induction l with
  | nil => rfl
  | cons x l ih =>
    rw [List.map_cons, List.sum_cons, ih, List.filter_cons]
    by_cases h : f x = true
    · rw [if_pos h, if_pos h, List.length_cons]
      omega
    · rw [if_neg h, if_neg h]
      omega
theorem sum_add (l : List (Nat × Pg)) (f g : Nat × Pg → Nat) : (l.map fun m => f m + g m).sum = (l.map f).sum + (l.map g).sum := by
  induction l with
  | nil => rfl
  | cons x l ih =>
    rw [List.map_cons, List.sum_cons, ih, List.map_cons, List.sum_cons, List.map_cons, List.sum_cons]
    omega
theorem sum_congr {l : List (Nat × Pg)} {f g : Nat × Pg → Nat} (h : ∀ m ∈ l, f m = g m) : (l.map f).sum = (l.map g).sum := by
  rw [List.map_congr_left h]
theorem sum_zero {l : List (Nat × Pg)} {f : Nat × Pg → Nat} (h : ∀ m ∈ l, f m = 0) : (l.map f).sum = 0 := by
  induction l with
  | nil => rfl
  | cons x l ih =>
    rw [List.map_cons, List.sum_cons, h x List.mem_cons_self, ih fun m hm => h m (List.mem_cons_of_mem _ hm)]
theorem lower_len (s : List Pg) (p : Pg) : ((may s).filter fun m => decide (L (aft s m) p + 1 = L s p)).length = if s = List.replicate s.length p then 0 else 1 := by
  rw [L_lower]
  have hn := firstTo_none s.reverse p
  rw [List.length_reverse] at hn
  have e : (s.reverse = List.replicate s.length p) = (s = List.replicate s.length p) := propext ⟨fun h => by
    have := congrArg List.reverse h
    rwa [List.reverse_reverse, List.reverse_replicate] at this, fun h => by
    have := congrArg List.reverse h
    rwa [List.reverse_replicate] at this⟩
  rw [e] at hn
  cases h : firstTo s.reverse p with
  | none =>
    rw [if_pos (hn.mp h)]
    rfl
  | some m =>
    rw [if_neg fun z => by rw [hn.mpr z] at h; cases h]
    rfl
theorem pegs_sum (G : Pg → Nat) {a b : Pg} (e : a ≠ b) (h : G a = 0) : (pgs.map G).sum = G b + G (thd a b) := by
  have t : (pgs.map G).sum = G 0 + (G 1 + (G 2 + 0)) := rfl
  rw [t]
  have c : ∀ x : Pg, x = 0 ∨ x = 1 ∨ x = 2 := by decide
  rcases c a with rfl | rfl | rfl <;> rcases c b with rfl | rfl | rfl
  · exact absurd rfl e
  · have : thd 0 1 = 2 := by decide
    rw [this]
    omega
  · have : thd 0 2 = 1 := by decide
    rw [this]
    omega
  · have : thd 1 0 = 2 := by decide
    rw [this]
    omega
  · exact absurd rfl e
  · have : thd 1 2 = 0 := by decide
    rw [this]
    omega
  · have : thd 2 0 = 1 := by decide
    rw [this]
    omega
  · have : thd 2 1 = 0 := by decide
    rw [this]
    omega
  · exact absurd rfl e
theorem fm_sum (l : List Pg) (g : Pg → Option (Nat × Pg)) (f : Nat × Pg → Nat) : ((l.filterMap g).map f).sum = (l.map fun p => match g p with | some m => f m | none => 0).sum := by
  induction l with
  | nil => rfl
  | cons x l ih =>
    rw [List.map_cons, List.sum_cons, ← ih]
    cases h : g x with
    | none => rw [List.filterMap_cons_none h, Nat.zero_add]
    | some m => rw [List.filterMap_cons_some h, List.map_cons, List.sum_cons]
theorem topM_sum {s : List Pg} {a b : Pg} (e : a ≠ b) (f : Nat × Pg → Nat) : ((topM s a).map f).sum = (if s = List.replicate s.length (thd a b) then f (s.length, b) else 0) + (if s = List.replicate s.length b then f (s.length, thd a b) else 0) := by
  unfold topM
  rw [fm_sum, pegs_sum _ e]
  · congr 1
    · by_cases h : s = List.replicate s.length (thd a b)
      · rw [if_pos ⟨Ne.symm e, h⟩, if_pos h]
      · rw [if_neg fun z => h z.2, if_neg h]
    · rw [thd_thd a b e]
      by_cases h : s = List.replicate s.length b
      · rw [if_pos ⟨(thd_ne a b e).1, h⟩, if_pos h]
      · rw [if_neg fun z => h z.2, if_neg h]
  · rw [if_neg fun z => z.1 rfl]
theorem Mn_sum : ∀ s t : List Pg, s.length = t.length → s ≠ t → ((may s).map (nearW s t)).sum = Mn s t := by
  refine snoc2_ind (fun h => absurd rfl h) fun s t a b hl ih hne => ?_
  rw [may_snoc, List.map_append, List.sum_append]
  by_cases e : a = b
  · subst e
    have hst : s ≠ t := fun z => hne (by rw [z])
    rw [Mn_same, ← ih hst]
    have z : ((topM s a).map (nearW (s ++ [a]) (t ++ [a]))).sum = 0 := by
      refine sum_zero fun m hm => ?_
      obtain ⟨d, p⟩ := m
      obtain ⟨h1, h2, h3⟩ := mem_topM.mp hm
      dsimp only at h1 h2 h3
      subst h1
      have := top_same hl h2 h3
      unfold nearW
      rw [aft_top, if_neg (by omega)]
    rw [z, Nat.add_zero]
    refine sum_congr fun m hm => ?_
    unfold nearW
    rw [aft_lt (may_len hm), Fr_same, Fr_same, Mn_same]
  · have p0 : 0 < 2 ^ t.length := Nat.pow_pos (by decide)
    have n1 := thd_ne a b e
    have o := On_snoc s t a b
    have w := Tw_snoc s t a b
    rw [if_neg e] at o w
    have there : ((may s).map (nearW (s ++ [a]) (t ++ [b]))).sum = (if On (s ++ [a]) (t ++ [b]) ≤ Tw (s ++ [a]) (t ++ [b]) then (if s = List.replicate s.length (thd a b) then 0 else 1) else 0) + (if Tw (s ++ [a]) (t ++ [b]) ≤ On (s ++ [a]) (t ++ [b]) then (if s = List.replicate s.length b then 0 else 1) else 0) := by
      rw [← lower_len, ← lower_len, ← sum_if, ← sum_if]
      have k1 : ∀ (c : Prop) [Decidable c] (p : Pg), (if c then ((may s).map fun m => if decide (L (aft s m) p + 1 = L s p) = true then 1 else 0).sum else 0) = ((may s).map fun m => if c ∧ L (aft s m) p + 1 = L s p then 1 else 0).sum := by
        intro c _ p
        by_cases h : c
        · rw [if_pos h]
          refine sum_congr fun m _ => ?_
          by_cases h2 : L (aft s m) p + 1 = L s p
          · rw [if_pos (decide_eq_true h2), if_pos ⟨h, h2⟩]
          · rw [if_neg (by simpa using h2), if_neg fun z => h2 z.2]
        · rw [if_neg h]
          exact (sum_zero fun m _ => if_neg fun z => h z.1).symm
      rw [k1, k1, ← sum_add]
      refine sum_congr fun m hm => ?_
      obtain ⟨h1, h2⟩ := OT_lt (t := t) hm e
      have s1 := L_step s (thd a b) m hm
      have s2 := L_step s b m hm
      have hne2 : aft (s ++ [a]) m ≠ t ++ [b] := by
        rw [aft_lt (may_len hm)]
        exact fun z => e (snoc_inj.mp z).2
      unfold nearW
      rw [Mn_eq, Fr_eq, Fr_eq, h1, h2, o, w]
      by_cases q : L (aft s m) (thd a b) + 1 + L t (thd a b) = L (aft s m) b + 2 ^ s.length + 1 + L t a
      · have i1 : (if L (aft s m) (thd a b) + 1 + L t (thd a b) = L (aft s m) b + 2 ^ s.length + 1 + L t a ∧ aft (s ++ [a]) m ≠ t ++ [b] then 2 else 1) = 2 := if_pos ⟨q, hne2⟩
        rw [i1]
        repeat' split
        all_goals omega
      · have i1 : (if L (aft s m) (thd a b) + 1 + L t (thd a b) = L (aft s m) b + 2 ^ s.length + 1 + L t a ∧ aft (s ++ [a]) m ≠ t ++ [b] then 2 else 1) = 1 := if_neg fun z => q z.1
        rw [i1]
        repeat' split
        all_goals omega
    have top : ((topM s a).map (nearW (s ++ [a]) (t ++ [b]))).sum = (if s = List.replicate s.length (thd a b) then 1 else 0) + (if s = List.replicate s.length b then (if Tw (s ++ [a]) (t ++ [b]) ≤ On (s ++ [a]) (t ++ [b]) then 1 else 0) else 0) := by
      rw [topM_sum e]
      congr 1
      · by_cases h : s = List.replicate s.length (thd a b)
        · rw [if_pos h, if_pos h]
          obtain ⟨h1, h2, h3⟩ := top_once hl e h
          unfold nearW
          rw [aft_top, if_pos h1, h3]
        · rw [if_neg h, if_neg h]
      · by_cases h : s = List.replicate s.length b
        · rw [if_pos h, if_pos h]
          obtain ⟨h1, h2⟩ := top_twice hl e h
          unfold nearW
          rw [aft_top, Mn_eq, Fr_eq, Fr_eq]
          by_cases q : Tw (s ++ [a]) (t ++ [b]) ≤ On (s ++ [a]) (t ++ [b])
          · rw [if_pos (by omega), if_neg (fun z => by omega), if_pos q]
          · rw [if_neg (by omega), if_neg q]
        · rw [if_neg h, if_neg h]
    have hne2 : s ++ [a] ≠ t ++ [b] := fun z => e (snoc_inj.mp z).2
    have mn : Mn (s ++ [a]) (t ++ [b]) = if On (s ++ [a]) (t ++ [b]) = Tw (s ++ [a]) (t ++ [b]) then 2 else 1 := by
      rw [Mn_eq]
      by_cases q : On (s ++ [a]) (t ++ [b]) = Tw (s ++ [a]) (t ++ [b])
      · rw [if_pos ⟨q, hne2⟩, if_pos q]
      · rw [if_neg fun z => q z.1, if_neg q]
    rw [there, top, mn]
    by_cases c1 : s = List.replicate s.length (thd a b)
    · have h2 := (top_once hl e c1).2.1
      have c2 : s = List.replicate s.length b → s = [] := by
        intro c2
        rw [c2, List.replicate_inj] at c1
        cases s with
        | nil => rfl
        | cons x r =>
          exfalso
          rcases c1.2 with z | z
          · cases z
          · exact n1.2 z.symm
      simp only [if_pos c1, if_neg (show ¬ Tw (s ++ [a]) (t ++ [b]) ≤ On (s ++ [a]) (t ++ [b]) by omega), if_pos (show On (s ++ [a]) (t ++ [b]) ≤ Tw (s ++ [a]) (t ++ [b]) by omega), if_neg (show ¬ On (s ++ [a]) (t ++ [b]) = Tw (s ++ [a]) (t ++ [b]) by omega)]
      (repeat' split) <;> omega
    · simp only [if_neg c1]
      by_cases c2 : s = List.replicate s.length b
      · simp only [if_pos c2]
        have h2 := top_twice hl e c2
        (repeat' split) <;> omega
      · simp only [if_neg c2]
        (repeat' split) <;> omega
theorem Mn_two (s t : List Pg) : Mn s t = 1 ∨ Mn s t = 2 := by
  rw [Mn_eq]
  split
  · exact .inr rfl
  · exact .inl rfl
theorem Mn_self (s : List Pg) : Mn s s = 1 := by
  rw [Mn_eq, if_neg fun z => z.2 rfl]
/-! ### the first move -/
theorem first_mem {s : List Pg} {p : Pg} {m : Nat × Pg} (h : firstTo s.reverse p = some m) : m ∈ may s ∧ L (aft s m) p + 1 = L s p := by
  have hl := L_lower s p
  rw [h] at hl
  have hm : m ∈ (may s).filter fun m => decide (L (aft s m) p + 1 = L s p) := by
    rw [hl]
    exact List.mem_singleton.mpr rfl
  obtain ⟨h1, h2⟩ := List.mem_filter.mp hm
  exact ⟨h1, of_decide_eq_true h2⟩
theorem first_rep {s : List Pg} {p : Pg} (h : firstTo s.reverse p = none) : s = List.replicate s.length p := by
  rw [firstTo_none, List.length_reverse] at h
  have := congrArg List.reverse h
  rwa [List.reverse_reverse, List.reverse_replicate] at this
theorem next_near : ∀ s t : List Pg, s.length = t.length → s ≠ t → ∃ m, nextM s.reverse t.reverse = some m ∧ m ∈ may s ∧ Fr (aft s m) t + 1 = Fr s t := by
  refine snoc2_ind (fun h => absurd rfl h) fun s t a b hl ih hne => ?_
  rw [List.reverse_append, List.reverse_append, List.reverse_singleton, List.reverse_singleton, List.singleton_append, List.singleton_append, nextM]
  have up : ∀ {m}, m ∈ may s → m ∈ may (s ++ [a]) := fun {m} h => by
    rw [may_snoc]
    exact List.mem_append_left _ h
  by_cases e : a = b
  · subst e
    rw [if_pos rfl]
    obtain ⟨m, h1, h2, h3⟩ := ih fun z => hne (by rw [z])
    exact ⟨m, h1, up h2, by rw [aft_lt (may_len h2), Fr_same, Fr_same]; exact h3⟩
  · rw [if_neg e]
    have o := On_snoc s t a b
    have w := Tw_snoc s t a b
    rw [if_neg e] at o w
    have o' : once (a :: s.reverse) (b :: t.reverse) = On (s ++ [a]) (t ++ [b]) := by
      unfold On
      rw [List.reverse_append, List.reverse_append]
      rfl
    have w' : twice (a :: s.reverse) (b :: t.reverse) = Tw (s ++ [a]) (t ++ [b]) := by
      unfold Tw
      rw [List.reverse_append, List.reverse_append]
      rfl
    rw [o', w', List.length_reverse]
    by_cases le : On (s ++ [a]) (t ++ [b]) ≤ Tw (s ++ [a]) (t ++ [b])
    · rw [if_pos le]
      cases hf : firstTo s.reverse (thd a b) with
      | some m =>
        obtain ⟨h1, h2⟩ := first_mem hf
        refine ⟨m, rfl, up h1, ?_⟩
        obtain ⟨q1, q2⟩ := OT_lt (t := t) h1 e
        have s2 := L_step s b m h1
        rw [Fr_eq, Fr_eq, q1, q2, o, w]
        omega
      | none =>
        have hr := first_rep hf
        refine ⟨(s.length, b), rfl, ?_, ?_⟩
        · rw [may_snoc]
          exact List.mem_append_right _ (mem_topM.mpr ⟨rfl, Ne.symm e, hr⟩)
        · rw [aft_top]
          exact (top_once hl e hr).1
    · rw [if_neg le]
      cases hf : firstTo s.reverse b with
      | some m =>
        obtain ⟨h1, h2⟩ := first_mem hf
        refine ⟨m, rfl, up h1, ?_⟩
        obtain ⟨q1, q2⟩ := OT_lt (t := t) h1 e
        have s2 := L_step s (thd a b) m h1
        rw [Fr_eq, Fr_eq, q1, q2, o, w]
        omega
      | none =>
        have hr := first_rep hf
        refine ⟨(s.length, thd a b), rfl, ?_, ?_⟩
        · rw [may_snoc]
          exact List.mem_append_right _ (mem_topM.mpr ⟨rfl, (thd_ne a b e).1, by rw [thd_thd a b e]; exact hr⟩)
        · rw [aft_top]
          have := top_twice hl e hr
          rw [Fr_eq, Fr_eq]
          omega
theorem gu_self : ∀ r : List Pg, gu r r = none
  | [] => rfl
  | a :: r => by rw [gu, if_pos rfl]; exact gu_self r
theorem gu_same : ∀ {r s : List Pg}, r.length = s.length → gu r s = none → r = s
  | [], [], _, _ => rfl
  | [], _ :: _, h, _ => by cases h
  | _ :: _, [], h, _ => by cases h
  | a :: r, b :: s, h, g => by
    by_cases e : a = b
    · rw [gu, if_pos e] at g
      rw [e, gu_same (Nat.succ.inj h) g]
    · rw [gu, if_neg e] at g
      cases g
theorem gu_eq {s t : List Pg} (hl : t.length = s.length) (h : gu s.reverse t.reverse = none) : s = t := by
  have := gu_same (by rw [List.length_reverse, List.length_reverse, hl]) h
  exact List.reverse_inj.mp this
theorem gu_far {s t : List Pg} (hl : t.length = s.length) (h : gu s.reverse t.reverse = none) : Fr s t = 0 ∧ Mn s t = 1 := by
  have e := gu_eq hl h
  subst e
  exact ⟨(Fr_zero rfl).mpr rfl, Mn_self s⟩
def unl (s t : List Pg) : List Nat := (List.range s.length).filter fun i => decide (s[i]? ≠ t[i]?)
theorem unl_last : ∀ s t : List Pg, s.length = t.length → (unl s t).getLast? = gu s.reverse t.reverse := by
  refine snoc2_ind rfl fun s t a b hl ih => ?_
  rw [List.reverse_append, List.reverse_append, List.reverse_singleton, List.reverse_singleton, List.singleton_append, List.singleton_append, gu, List.length_reverse]
  unfold unl
  rw [List.length_append, List.length_singleton, List.range_succ, List.filter_append]
  have e1 : (List.range s.length).filter (fun i => decide ((s ++ [a])[i]? ≠ (t ++ [b])[i]?)) = unl s t := by
    unfold unl
    refine List.filter_congr fun i hi => ?_
    have hi := List.mem_range.mp hi
    rw [List.getElem?_append_left hi, List.getElem?_append_left (by omega)]
  rw [e1]
  have e2 : (s ++ [a])[s.length]? = some a := by simp
  have e3 : (t ++ [b])[s.length]? = some b := by rw [hl]; simp
  have e4 : [s.length].filter (fun i => decide ((s ++ [a])[i]? ≠ (t ++ [b])[i]?)) = if a = b then [] else [s.length] := by
    rw [List.filter_cons, e2, e3, List.filter_nil]
    by_cases e : a = b
    · rw [e, if_neg (by simp), if_pos rfl]
    · rw [if_pos (by simp [e]), if_neg e]
  rw [e4]
  by_cases e : a = b
  · rw [if_pos e, if_pos e, List.append_nil, ih]
  · rw [if_neg e, if_neg e, List.getLast?_append, List.getLast?_singleton]
    rfl
theorem unl_nil {s t : List Pg} (hl : s.length = t.length) (h : gu s.reverse t.reverse = none) : unl s t = [] := by
  rw [← unl_last s t hl, List.getLast?_eq_none_iff] at h
  exact h
theorem unl_some {s t : List Pg} {m : Nat} (hl : s.length = t.length) (h : gu s.reverse t.reverse = some m) : unl s t ≠ [] ∧ (unl s t).getLast? = some m := by
  rw [← unl_last s t hl] at h
  refine ⟨fun z => ?_, h⟩
  rw [z] at h
  cases h
end Peg

/-! the mathematics, 4: towers by numbers -/
namespace Peg
def atR : Nat → Pg → Pg → Nat → List Pg
  | 0, _, _, _ => []
  | n + 1, b, e, k => if k < 2 ^ n then atR n b (thd b e) k ++ [b] else atR n (thd b e) e (k - 2 ^ n) ++ [e]
theorem atR_len : ∀ (n : Nat) (b e : Pg) (k : Nat), (atR n b e k).length = n
  | 0, _, _, _ => rfl
  | n + 1, b, e, k => by
    rw [atR]
    split <;> rw [List.length_append, atR_len] <;> rfl
theorem atR_L : ∀ (n : Nat) (b e : Pg) (k : Nat), b ≠ e → k < 2 ^ n → L (atR n b e k) b = k ∧ L (atR n b e k) e = 2 ^ n - 1 - k
  | 0, b, e, k, _, h => by
    have : k = 0 := by simpa using h
    subst this
    exact ⟨rfl, rfl⟩
  | n + 1, b, e, k, he, h => by
    have hp : 2 ^ (n + 1) = 2 * 2 ^ n := by rw [Nat.pow_succ]; omega
    have n1 := thd_ne b e he
    rw [atR]
    by_cases hk : k < 2 ^ n
    · rw [if_pos hk, L_snoc, L_snoc, if_pos rfl, if_neg he, atR_len]
      obtain ⟨h1, h2⟩ := atR_L n b (thd b e) k (Ne.symm n1.1) hk
      rw [h1, h2]
      omega
    · rw [if_neg hk, L_snoc, L_snoc, if_pos rfl, if_neg (Ne.symm he), atR_len, thd_comm e b]
      obtain ⟨h1, h2⟩ := atR_L n (thd b e) e (k - 2 ^ n) n1.2 (by omega)
      rw [h1, h2]
      omega
theorem L_zero' {s : List Pg} {p : Pg} (h : L s p = 0) : s = List.replicate s.length p := by
  unfold L at h
  rw [toP_zero, List.length_reverse] at h
  have := congrArg List.reverse h
  rwa [List.reverse_reverse, List.reverse_replicate] at this
theorem atR_next : ∀ (n : Nat) (b e : Pg) (k : Nat), b ≠ e → k + 1 < 2 ^ n → ∃ m ∈ may (atR n b e k), aft (atR n b e k) m = atR n b e (k + 1)
  | 0, b, e, k, _, h => by
    simp at h
  | n + 1, b, e, k, he, h => by
    have hp : 2 ^ (n + 1) = 2 * 2 ^ n := by rw [Nat.pow_succ]; omega
    have n1 := thd_ne b e he
    rw [atR, atR]
    by_cases hk : k + 1 < 2 ^ n
    · rw [if_pos (show k < 2 ^ n by omega), if_pos hk]
      obtain ⟨m, h1, h2⟩ := atR_next n b (thd b e) k (Ne.symm n1.1) hk
      exact ⟨m, by rw [may_snoc]; exact List.mem_append_left _ h1, by rw [aft_lt (may_len h1), h2]⟩
    · by_cases hk2 : k < 2 ^ n
      · rw [if_pos hk2, if_neg hk]
        have e1 := (atR_L n b (thd b e) k (Ne.symm n1.1) hk2).2
        have e2 := (atR_L n (thd b e) e (k + 1 - 2 ^ n) n1.2 (by omega)).1
        have r1 := L_zero' (e1.trans (by omega))
        have r2 := L_zero' (e2.trans (by omega))
        rw [atR_len] at r1 r2
        refine ⟨(n, e), ?_, ?_⟩
        · rw [may_snoc]
          refine List.mem_append_right _ (mem_topM.mpr ⟨(atR_len _ _ _ _).symm, Ne.symm he, ?_⟩)
          rw [atR_len]
          exact r1
        · have := aft_top (t := atR n b (thd b e) k) (q := b) (p := e)
          rw [atR_len] at this
          rw [this, r1, r2]
      · rw [if_neg hk2, if_neg hk]
        obtain ⟨m, h1, h2⟩ := atR_next n (thd b e) e (k - 2 ^ n) n1.2 (by omega)
        rw [show k + 1 - 2 ^ n = k - 2 ^ n + 1 by omega]
        exact ⟨m, by rw [may_snoc]; exact List.mem_append_left _ h1, by rw [aft_lt (may_len h1), h2]⟩
theorem atR_bit (n : Nat) (b e : Pg) (k : Nat) : atR (n + 1) b e (k % 2 ^ (n + 1)) = if k / 2 ^ n % 2 = 0 then atR n b (thd b e) (k % 2 ^ n) ++ [b] else atR n (thd b e) e (k % 2 ^ n) ++ [e] := by
  have hm := Nat.mod_pow_succ (b := 2) (k := n) (x := k)
  have hl : k % 2 ^ n < 2 ^ n := Nat.mod_lt _ (Nat.pow_pos (by decide))
  rw [atR]
  have h2 : k / 2 ^ n % 2 = 0 ∨ k / 2 ^ n % 2 = 1 := by omega
  rcases h2 with h2 | h2
  · have hm : k % 2 ^ (n + 1) = k % 2 ^ n := by
      rw [hm, h2]
      omega
    rw [if_pos h2, hm, if_pos hl]
  · have hm : k % 2 ^ (n + 1) = k % 2 ^ n + 2 ^ n := by
      rw [hm, h2]
      omega
    rw [if_neg (by omega), hm, if_neg (by omega), Nat.add_sub_cancel]
/-- the greatest disc ahead -/
def numG : List Pg → Pg → Pg → Option Nat
  | [], _, _ => some 0
  | x :: r, b, e => if x = thd b e then none else if x = b then numG r b (thd b e) else (numG r (thd b e) e).map fun k => 2 ^ r.length + k
theorem numG_eq : ∀ (r : List Pg) (b e : Pg), b ≠ e → numG r b e = if toP r b + toP r e = 2 ^ r.length - 1 then some (toP r b) else none
  | [], _, _, _ => rfl
  | x :: r, b, e, he => by
    have hp : 2 ^ (r.length + 1) = 2 * 2 ^ r.length := by rw [Nat.pow_succ]; omega
    have p0 : 0 < 2 ^ r.length := Nat.pow_pos (by decide)
    have n1 := thd_ne b e he
    rw [numG, toP, toP, List.length_cons]
    by_cases h1 : x = thd b e
    · subst h1
      rw [if_pos rfl, if_neg n1.1, if_neg n1.2, if_neg (by omega)]
    · rw [if_neg h1]
      by_cases h2 : x = b
      · subst h2
        rw [if_pos rfl, if_pos rfl, if_neg he, numG_eq r x (thd x e) (Ne.symm n1.1)]
        by_cases h3 : toP r x + toP r (thd x e) = 2 ^ r.length - 1
        · rw [if_pos h3, if_pos (by omega)]
        · rw [if_neg h3, if_neg (by omega)]
      · have h3 : x = e := by
          rcases pg_cases b e x he with z | z | z
          · exact absurd z h2
          · exact z
          · exact absurd z h1
        subst h3
        rw [if_neg h2, if_neg h2, if_pos rfl, numG_eq r (thd b x) x n1.2, thd_comm x b]
        by_cases h3 : toP r (thd b x) + toP r x = 2 ^ r.length - 1
        · rw [if_pos h3, if_pos (by omega)]
          rfl
        · rw [if_neg h3, if_neg (by omega)]
          rfl
def numF (s : List Pg) (b e : Pg) : Option Nat := if L s b + L s e = 2 ^ s.length - 1 then some (L s b) else none
theorem numF_eq {s : List Pg} {b e : Pg} (he : b ≠ e) : numG s.reverse b e = numF s b e := by
  rw [numG_eq _ _ _ he, List.length_reverse]
  rfl
/-- .. of the least discs -/
def numS (s : List Pg) (b e : Pg) (n : Nat) : Option Nat := numG (s.take n).reverse b e
end Peg

/-! the mathematics, 5: the row, the triangle, the pegs called otherwise, the ways -/
namespace Peg
/-! ### the row -/
def rnS (n q r : Nat) : Nat := 3 ^ n * q + (if q = 1 then 3 ^ n - 1 - r else r)
def rnF : List Pg → Nat × Nat → Nat × Nat
  | [], a => a
  | q :: s, (r, z) => rnF s (z * q.val + (if q = 1 then z - 1 - r else r), z * 3)
def rn (s : List Pg) : Nat := (rnF s (0, 1)).1
theorem rnF_append : ∀ (s t : List Pg) (a : Nat × Nat), rnF (s ++ t) a = rnF t (rnF s a)
  | [], _, _ => rfl
  | q :: s, t, (r, z) => by
    rw [List.cons_append, rnF, rnF]
    exact rnF_append s t _
theorem rnF_size : ∀ (s : List Pg) (a : Nat × Nat), (rnF s a).2 = a.2 * 3 ^ s.length
  | [], a => by simp [rnF]
  | q :: s, (r, z) => by
    rw [rnF, rnF_size s]
    show z * 3 * 3 ^ s.length = z * 3 ^ (s.length + 1)
    rw [Nat.pow_succ, Nat.mul_assoc, Nat.mul_comm 3]
theorem rn_snoc (s : List Pg) (q : Pg) : rn (s ++ [q]) = 3 ^ s.length * q.val + (if q = 1 then 3 ^ s.length - 1 - rn s else rn s) := by
  unfold rn
  rw [rnF_append]
  have h := rnF_size s (0, 1)
  rw [Nat.one_mul] at h
  generalize rnF s (0, 1) = a at h
  obtain ⟨r, z⟩ := a
  have h : z = 3 ^ s.length := h
  subst h
  rfl
theorem p3 (n : Nat) : 0 < 3 ^ n := Nat.pow_pos (by decide)
theorem p3s (n : Nat) : 3 ^ (n + 1) = 3 * 3 ^ n := by rw [Nat.pow_succ, Nat.mul_comm]
theorem pg3 (q : Pg) : q = 0 ∨ q = 1 ∨ q = 2 := by
  revert q
  decide
theorem rn_cases (s : List Pg) : rn (s ++ [0]) = rn s ∧ rn (s ++ [1]) = 3 ^ s.length + (3 ^ s.length - 1 - rn s) ∧ rn (s ++ [2]) = 2 * 3 ^ s.length + rn s := by
  refine ⟨?_, ?_, ?_⟩ <;> rw [rn_snoc]
  · rw [if_neg (by decide)]
    show 3 ^ s.length * 0 + rn s = rn s
    omega
  · rw [if_pos rfl]
    show 3 ^ s.length * 1 + _ = _
    omega
  · rw [if_neg (by decide)]
    show 3 ^ s.length * 2 + rn s = _
    omega
theorem rn_lt : ∀ s : List Pg, rn s < 3 ^ s.length := by
  refine snoc_ind (by decide) fun s q ih => ?_
  have h := rn_cases s
  have h3 := p3s s.length
  rw [List.length_append, List.length_singleton]
  rcases pg3 q with rfl | rfl | rfl <;> omega
theorem rn_ends : ∀ s : List Pg, (rn s = 0 ↔ s = List.replicate s.length 0) ∧ (rn s + 1 = 3 ^ s.length ↔ s = List.replicate s.length 2) := by
  refine snoc_ind ⟨by decide, by decide⟩ fun s q ih => ?_
  have h := rn_cases s
  have h3 := p3s s.length
  have hp := p3 s.length
  have hl := rn_lt s
  rw [List.length_append, List.length_singleton, List.replicate_succ', List.replicate_succ', snoc_inj, snoc_inj, ← ih.1, ← ih.2]
  rcases pg3 q with rfl | rfl | rfl
  · exact ⟨⟨fun z => ⟨by omega, rfl⟩, fun z => by omega⟩, ⟨fun z => by omega, fun z => absurd z.2 (by decide)⟩⟩
  · exact ⟨⟨fun z => by omega, fun z => absurd z.2 (by decide)⟩, ⟨fun z => by omega, fun z => absurd z.2 (by decide)⟩⟩
  · exact ⟨⟨fun z => by omega, fun z => absurd z.2 (by decide)⟩, ⟨fun z => ⟨by omega, rfl⟩, fun z => by omega⟩⟩
theorem rn_inj : ∀ s t : List Pg, s.length = t.length → rn s = rn t → s = t := by
  refine snoc2_ind (fun _ => rfl) fun s t a b hl ih h => ?_
  have h1 := rn_cases s
  have h2 := rn_cases t
  have l1 := rn_lt s
  have l2 := rn_lt t
  rw [hl] at h1 l1
  have hp := p3 t.length
  rcases pg3 a with rfl | rfl | rfl <;> rcases pg3 b with rfl | rfl | rfl <;> first | (exfalso; omega) | (rw [ih (by omega)])
structure Hid (P : Prop) : Prop where
  h : P
theorem rn_near : ∀ s : List Pg, (rn s + 1 < 3 ^ s.length → ∃ m ∈ may s, rn (aft s m) = rn s + 1) ∧ (0 < rn s → ∃ m ∈ may s, rn (aft s m) + 1 = rn s) := by
  refine snoc_ind ⟨fun h => absurd h (by decide), fun h => absurd h (by decide)⟩ fun s q ih0 => ?_
  have ih := Hid.mk ih0
  clear ih0
  have h := rn_cases s
  have h3 := p3s s.length
  have hp := p3 s.length
  have hl := rn_lt s
  have he := rn_ends s
  rw [List.length_append, List.length_singleton]
  have low : ∀ m ∈ may s, m ∈ may (s ++ [q]) ∧ aft (s ++ [q]) m = aft s m ++ [q] := fun m hm => ⟨by rw [may_snoc]; exact List.mem_append_left _ hm, aft_lt (may_len hm)⟩
  have top : ∀ p, p ≠ q → s = List.replicate s.length (thd q p) → (s.length, p) ∈ may (s ++ [q]) ∧ aft (s ++ [q]) (s.length, p) = s ++ [p] := fun p hp hr => ⟨by rw [may_snoc]; exact List.mem_append_right _ (mem_topM.mpr ⟨rfl, hp, hr⟩), aft_top⟩
  have up0 : rn s + 1 < 3 ^ s.length → ∃ m ∈ may (s ++ [q]), ∃ t, aft (s ++ [q]) m = t ++ [q] ∧ t.length = s.length ∧ rn t = rn s + 1 := fun hu => by
    obtain ⟨m, hm, e⟩ := ih.h.1 hu
    exact ⟨m, (low m hm).1, aft s m, (low m hm).2, aft_len s m, e⟩
  have dn0 : 0 < rn s → ∃ m ∈ may (s ++ [q]), ∃ t, aft (s ++ [q]) m = t ++ [q] ∧ t.length = s.length ∧ rn t + 1 = rn s := fun hu => by
    obtain ⟨m, hm, e⟩ := ih.h.2 hu
    exact ⟨m, (low m hm).1, aft s m, (low m hm).2, aft_len s m, e⟩
  have up := Hid.mk up0
  have dn := Hid.mk dn0
  clear up0 dn0
  rcases pg3 q with rfl | rfl | rfl
  · constructor
    · intro hu
      by_cases hx : rn s + 1 < 3 ^ s.length
      · obtain ⟨m, hm, t, e1, e2, e3⟩ := up.h hx
        have ht := rn_cases t
        exact ⟨m, hm, by rw [e1]; omega⟩
      · obtain ⟨h1, h2⟩ := top 1 (by decide) (he.2.mp (by omega))
        exact ⟨_, h1, by rw [h2]; omega⟩
    · intro hu
      obtain ⟨m, hm, t, e1, e2, e3⟩ := dn.h (by omega)
      have ht := rn_cases t
      exact ⟨m, hm, by rw [e1]; omega⟩
  · constructor
    · intro hu
      by_cases hx : 0 < rn s
      · obtain ⟨m, hm, t, e1, e2, e3⟩ := dn.h hx
        have ht := rn_cases t
        rw [e2] at ht
        exact ⟨m, hm, by rw [e1]; omega⟩
      · obtain ⟨h1, h2⟩ := top 2 (by decide) (he.1.mp (by omega))
        exact ⟨_, h1, by rw [h2]; omega⟩
    · intro hu
      by_cases hx : rn s + 1 < 3 ^ s.length
      · obtain ⟨m, hm, t, e1, e2, e3⟩ := up.h hx
        have ht := rn_cases t
        rw [e2] at ht
        exact ⟨m, hm, by rw [e1]; omega⟩
      · obtain ⟨h1, h2⟩ := top 0 (by decide) (he.2.mp (by omega))
        exact ⟨_, h1, by rw [h2]; omega⟩
  · constructor
    · intro hu
      obtain ⟨m, hm, t, e1, e2, e3⟩ := up.h (by omega)
      have ht := rn_cases t
      rw [e2] at ht
      exact ⟨m, hm, by rw [e1]; omega⟩
    · intro hu
      by_cases hx : 0 < rn s
      · obtain ⟨m, hm, t, e1, e2, e3⟩ := dn.h hx
        have ht := rn_cases t
        rw [e2] at ht
        exact ⟨m, hm, by rw [e1]; omega⟩
      · obtain ⟨h1, h2⟩ := top 1 (by decide) (he.1.mp (by omega))
        exact ⟨_, h1, by rw [h2]; omega⟩
theorem near_ge : ∀ (d : Nat) (s t : List Pg), s.length = t.length → rn s + d = rn t → Fr s t ≤ d
  | 0, s, t, hl, h => by
    have := rn_inj s t hl (by omega)
    subst this
    rw [(Fr_zero rfl).mpr rfl]
    exact Nat.le_refl _
  | d + 1, s, t, hl, h => by
    have h1 := rn_lt t
    obtain ⟨m, hm, e⟩ := (rn_near s).1 (by rw [hl]; omega)
    have h2 := near_ge d (aft s m) t (by rw [aft_len]; exact hl) (by omega)
    have h3 := (Fr_step s t hl m hm).2
    omega
/-! ### the triangle -/
theorem triangle : ∀ (d : Nat) (s u t : List Pg), s.length = u.length → u.length = t.length → Fr s u = d → Fr s t ≤ d + Fr u t
  | 0, s, u, t, h1, h2, e => by
    have := (Fr_zero h1).mp e
    subst this
    omega
  | d + 1, s, u, t, h1, h2, e => by
    have hne : s ≠ u := fun z => by
      rw [(Fr_zero h1).mpr z] at e
      cases e
    obtain ⟨m, _, hm, hf⟩ := next_near s u h1 hne
    have ih := triangle d (aft s m) u t (by rw [aft_len]; exact h1) h2 (by omega)
    have h3 := (Fr_step s t (h1.trans h2) m hm).2
    omega
/-! ### the pegs called otherwise -/
section
variable {f : Pg → Pg} (hf : ∀ a b, f a = f b → a = b)
include hf
theorem thd_map {a b : Pg} (h : a ≠ b) : thd (f a) (f b) = f (thd a b) := by
  have n1 := thd_ne a b h
  rcases pg_cases (f a) (f b) (f (thd a b)) (fun z => h (hf _ _ z)) with z | z | z
  · exact absurd (hf _ _ z) n1.1
  · exact absurd (hf _ _ z) n1.2
  · exact z.symm
theorem toP_map : ∀ (r : List Pg) (p : Pg), toP (r.map f) (f p) = toP r p
  | [], _ => rfl
  | q :: r, p => by
    rw [List.map_cons, toP, toP, List.length_map]
    by_cases e : q = p
    · rw [if_pos e, if_pos (congrArg f e), toP_map r p]
    · rw [if_neg e, if_neg (fun z => e (hf _ _ z)), thd_map hf e, toP_map r _]
theorem firstTo_map : ∀ (r : List Pg) (p : Pg), firstTo (r.map f) (f p) = (firstTo r p).map fun m => (m.1, f m.2)
  | [], _ => rfl
  | q :: r, p => by
    rw [List.map_cons, firstTo, firstTo, List.length_map]
    by_cases e : q = p
    · rw [if_pos e, if_pos (congrArg f e), firstTo_map r p]
    · rw [if_neg e, if_neg (fun z => e (hf _ _ z)), thd_map hf e, firstTo_map r _]
      cases firstTo r (thd q p) <;> rfl
theorem gu_map : ∀ r s : List Pg, gu (r.map f) (s.map f) = gu r s
  | [], [] => rfl
  | [], _ :: _ => rfl
  | _ :: _, [] => rfl
  | a :: r, b :: s => by
    rw [List.map_cons, List.map_cons, gu, gu, List.length_map]
    by_cases e : a = b
    · rw [if_pos e, if_pos (congrArg f e), gu_map r s]
    · rw [if_neg e, if_neg (fun z => e (hf _ _ z))]
theorem once_map : ∀ r s : List Pg, once (r.map f) (s.map f) = once r s
  | [], [] => rfl
  | [], _ :: _ => rfl
  | _ :: _, [] => rfl
  | a :: r, b :: s => by
    rw [List.map_cons, List.map_cons, once, once]
    by_cases e : a = b
    · rw [if_pos e, if_pos (congrArg f e), once_map r s]
    · rw [if_neg e, if_neg (fun z => e (hf _ _ z)), thd_map hf e, toP_map hf, toP_map hf]
theorem twice_map : ∀ r s : List Pg, twice (r.map f) (s.map f) = twice r s
  | [], [] => rfl
  | [], _ :: _ => rfl
  | _ :: _, [] => rfl
  | a :: r, b :: s => by
    rw [List.map_cons, List.map_cons, twice, twice, List.length_map]
    by_cases e : a = b
    · rw [if_pos e, if_pos (congrArg f e), twice_map r s]
    · rw [if_neg e, if_neg (fun z => e (hf _ _ z)), toP_map hf, toP_map hf]
theorem map_inj0 : ∀ s t : List Pg, s.map f = t.map f → s = t
  | [], [], _ => rfl
  | [], _ :: _, h => by cases h
  | _ :: _, [], h => by cases h
  | a :: s, b :: t, h => by
    rw [List.map_cons, List.map_cons, List.cons.injEq] at h
    rw [hf _ _ h.1, map_inj0 s t h.2]
theorem map_inj {s t : List Pg} : s.map f = t.map f ↔ s = t := ⟨map_inj0 hf s t, fun h => by rw [h]⟩
theorem Fr_map (s t : List Pg) : Fr (s.map f) (t.map f) = Fr s t := by
  unfold Fr far
  rw [← List.map_reverse, ← List.map_reverse, once_map hf, twice_map hf]
theorem Mn_map (s t : List Pg) : Mn (s.map f) (t.map f) = Mn s t := by
  have e : (s.map f ≠ t.map f) = (s ≠ t) := propext ⟨fun h z => h (by rw [z]), fun h z => h ((map_inj hf).mp z)⟩
  rw [Mn_eq, Mn_eq]
  unfold On Tw
  rw [← List.map_reverse, ← List.map_reverse, once_map hf, twice_map hf]
  simp only [e]
theorem nextM_map : ∀ r s : List Pg, nextM (r.map f) (s.map f) = (nextM r s).map fun m => (m.1, f m.2)
  | [], [] => rfl
  | [], _ :: _ => rfl
  | _ :: _, [] => rfl
  | a :: r, b :: s => by
    have h1 := once_map hf (a :: r) (b :: s)
    have h2 := twice_map hf (a :: r) (b :: s)
    rw [List.map_cons, List.map_cons] at h1 h2
    rw [List.map_cons, List.map_cons, nextM, nextM, h1, h2, List.length_map]
    by_cases e : a = b
    · rw [if_pos e, if_pos (congrArg f e), nextM_map r s]
    · rw [if_neg e, if_neg (fun z => e (hf _ _ z)), thd_map hf e, firstTo_map hf, firstTo_map hf]
      by_cases le : once (a :: r) (b :: s) ≤ twice (a :: r) (b :: s)
      · rw [if_pos le, if_pos le]
        cases firstTo r (thd a b) <;> rfl
      · rw [if_neg le, if_neg le]
        cases firstTo r b <;> rfl
theorem atR_map : ∀ (n : Nat) (b e : Pg) (k : Nat), b ≠ e → (atR n b e k).map f = atR n (f b) (f e) k
  | 0, _, _, _, _ => rfl
  | n + 1, b, e, k, h => by
    have n1 := thd_ne b e h
    rw [atR, atR, thd_map hf h]
    by_cases hk : k < 2 ^ n
    · rw [if_pos hk, if_pos hk, List.map_append, atR_map n b (thd b e) k (Ne.symm n1.1)]
      rfl
    · rw [if_neg hk, if_neg hk, List.map_append, atR_map n (thd b e) e _ n1.2]
      rfl
end
/-! ### the ways -/
abbrev St3 := Nat × Pg × Pg
def stF : Nat → List Pg → Pg → Nat → List St3
  | 0, _, _, _ => []
  | k + 1, s, p, n => match firstG s p n with
    | none => []
    | some m => (m.1, s.getD m.1 0, m.2) :: stF k (s.set m.1 m.2) p n
def stepsTo (s : List Pg) (p : Pg) (n : Nat) : List St3 := stF (toPg s p n) s p n
def turn3 (x : St3) : St3 := (x.1, x.2.2, x.2.1)
def stepsFrom (s : List Pg) (p : Pg) (n : Nat) : List St3 := (stepsTo s p n).reverse.map turn3
theorem stF_len : ∀ (k : Nat) (s : List Pg) (p : Pg) (n : Nat), (stF k s p n).length ≤ k
  | 0, _, _, _ => Nat.le_refl _
  | k + 1, s, p, n => by
    rw [stF]
    cases firstG s p n with
    | none => exact Nat.zero_le _
    | some m => exact Nat.succ_le_succ (stF_len k _ p n)
theorem first_step {s : List Pg} {p : Pg} {n : Nat} {m : Nat × Pg} (hn : n ≤ s.length) (h : firstG s p n = some m) : m.1 < n ∧ toPg (s.set m.1 m.2) p n + 1 = toPg s p n := by
  unfold firstG at h
  obtain ⟨h1, h2⟩ := first_mem h
  have hl := may_len h1
  rw [List.length_take] at hl
  refine ⟨by omega, ?_⟩
  unfold toPg
  rw [List.take_set]
  exact h2
theorem first_none {s : List Pg} {p : Pg} {n : Nat} (h : firstG s p n = none) : toPg s p n = 0 := by
  unfold firstG at h
  have := (firstTo_none _ _).mp h
  unfold toPg
  exact (toP_zero _ _).mpr this
theorem steps_more {s : List Pg} {p : Pg} {n : Nat} {m : Nat × Pg} (hn : n ≤ s.length) (h : firstG s p n = some m) : stepsTo s p n = (m.1, s.getD m.1 0, m.2) :: stepsTo (s.set m.1 m.2) p n := by
  obtain ⟨_, e⟩ := first_step hn h
  unfold stepsTo
  rw [← e, stF, h]
theorem steps_none {s : List Pg} {p : Pg} {n : Nat} (h : firstG s p n = none) : stepsTo s p n = [] := by
  unfold stepsTo
  rw [first_none h]
  rfl
def onceW (s t : List Pg) (m : Nat) (a b : Pg) : List St3 := stepsTo s (thd a b) m ++ [(m, a, b)] ++ stepsFrom t (thd a b) m
def twiceW (s t : List Pg) (m : Nat) (a b : Pg) : List St3 := (stepsTo s b m ++ [(m, a, thd a b)]) ++ stepsTo (List.replicate m b) a m ++ [(m, thd a b, b)] ++ stepsFrom t a m
theorem stepsTo_len (s : List Pg) (p : Pg) (n : Nat) : (stepsTo s p n).length ≤ toPg s p n := stF_len _ _ _ _
theorem stepsFrom_len (s : List Pg) (p : Pg) (n : Nat) : (stepsFrom s p n).length ≤ toPg s p n := by
  unfold stepsFrom
  rw [List.length_map, List.length_reverse]
  exact stepsTo_len s p n
theorem onceW_len (s t : List Pg) (m : Nat) (a b : Pg) : (onceW s t m a b).length ≤ toPg s (thd a b) m + 1 + toPg t (thd a b) m := by
  have h1 := stepsTo_len s (thd a b) m
  have h2 := stepsFrom_len t (thd a b) m
  unfold onceW
  simp only [List.length_append, List.length_cons, List.length_nil]
  omega
theorem rep_toPg (m : Nat) (a b : Pg) : toPg (List.replicate m b) a m < 2 ^ m := by
  unfold toPg
  have := toP_lt (List.take m (List.replicate m b)).reverse a
  rwa [List.length_reverse, List.length_take, List.length_replicate, Nat.min_self] at this
theorem twiceW_len (s t : List Pg) (m : Nat) (a b : Pg) : (twiceW s t m a b).length ≤ toPg s b m + 2 ^ m + 1 + toPg t a m := by
  have h1 := stepsTo_len s b m
  have h2 := stepsFrom_len t a m
  have h3 := stepsTo_len (List.replicate m b) a m
  have h4 := rep_toPg m a b
  unfold twiceW
  simp only [List.length_append, List.length_cons, List.length_nil]
  omega
def out3 (x : St3) : Nat × Pg := (x.1, x.2.2)
def waysF (s t : List Pg) : List (List (Nat × Pg)) := match gu s.reverse t.reverse with
  | none => [[]]
  | some m => (((if once s.reverse t.reverse ≤ twice s.reverse t.reverse then [onceW s t m (s.getD m 0) (t.getD m 0)] else []) ++ (if twice s.reverse t.reverse ≤ once s.reverse t.reverse then [twiceW s t m (s.getD m 0) (t.getD m 0)] else [])).map fun w => w.map out3)
theorem waysF_len (s t : List Pg) : (waysF s t).length ≤ 2 := by
  unfold waysF
  split
  · decide
  · rw [List.length_map, List.length_append]
    split <;> split <;> simp
theorem waysF_lens {s t : List Pg} (hl : t.length = s.length) (h : Fr s t ≤ 3000) : ∀ w ∈ waysF s t, w.length ≤ 50000 := by
  intro w hw
  unfold waysF at hw
  cases hg : gu s.reverse t.reverse with
  | none =>
    rw [hg] at hw
    rw [List.mem_singleton.mp hw]
    decide
  | some m =>
    obtain ⟨h1, h2, hne, e1, e2⟩ := gu_some hl hg
    have g1 : s.getD m 0 = s[m] := by rw [List.getD_eq_getElem?_getD, List.getElem?_eq_getElem h1]; rfl
    have g2 : t.getD m 0 = t[m] := by rw [List.getD_eq_getElem?_getD, List.getElem?_eq_getElem h2]; rfl
    rw [hg] at hw
    dsimp only at hw
    rw [g1, g2] at hw
    have hfr : min (once s.reverse t.reverse) (twice s.reverse t.reverse) ≤ 3000 := h
    have o1 := onceW_len s t m s[m] t[m]
    have o2 := twiceW_len s t m s[m] t[m]
    obtain ⟨x, hx, rfl⟩ := List.mem_map.mp hw
    rw [List.length_map]
    rcases List.mem_append.mp hx with hx | hx
    · by_cases hle : once s.reverse t.reverse ≤ twice s.reverse t.reverse
      · rw [if_pos hle, List.mem_singleton] at hx
        subst hx
        omega
      · rw [if_neg hle] at hx
        cases hx
    · by_cases hle : twice s.reverse t.reverse ≤ once s.reverse t.reverse
      · rw [if_pos hle, List.mem_singleton] at hx
        subst hx
        omega
      · rw [if_neg hle] at hx
        cases hx
section
variable {f : Pg → Pg} (hf : ∀ a b, f a = f b → a = b)
include hf
def map3 (f : Pg → Pg) (x : St3) : St3 := (x.1, f x.2.1, f x.2.2)
theorem stF_map : ∀ (k : Nat) (s : List Pg) (p : Pg) (n : Nat), n ≤ s.length → stF k (s.map f) (f p) n = (stF k s p n).map (map3 f)
  | 0, _, _, _, _ => rfl
  | k + 1, s, p, n, hn => by
    have h : firstG (s.map f) (f p) n = (firstG s p n).map fun m => (m.1, f m.2) := by
      unfold firstG
      rw [← List.map_take, ← List.map_reverse, firstTo_map hf]
    rw [stF, stF, h]
    cases hm : firstG s p n with
    | none => rfl
    | some m =>
      have hl := (first_step hn hm).1
      show ((m.1, (s.map f).getD m.1 0, f m.2) : St3) :: stF k ((s.map f).set m.1 (f m.2)) (f p) n = (map3 f (m.1, s.getD m.1 0, m.2)) :: (stF k (s.set m.1 m.2) p n).map (map3 f)
      rw [← List.map_set, stF_map k _ p n (by rw [List.length_set]; exact hn)]
      congr 1
      unfold map3
      rw [List.getD_eq_getElem?_getD, List.getD_eq_getElem?_getD, List.getElem?_map, List.getElem?_eq_getElem (show m.1 < s.length by omega)]
      rfl
theorem toPg_map (s : List Pg) (p : Pg) (n : Nat) : toPg (s.map f) (f p) n = toPg s p n := by
  unfold toPg
  rw [← List.map_take, ← List.map_reverse, toP_map hf]
theorem stepsTo_map (s : List Pg) (p : Pg) (n : Nat) (hn : n ≤ s.length) : stepsTo (s.map f) (f p) n = (stepsTo s p n).map (map3 f) := by
  unfold stepsTo
  rw [toPg_map hf, stF_map hf _ _ _ _ hn]
theorem stepsFrom_map (s : List Pg) (p : Pg) (n : Nat) (hn : n ≤ s.length) : stepsFrom (s.map f) (f p) n = (stepsFrom s p n).map (map3 f) := by
  unfold stepsFrom
  rw [stepsTo_map hf _ _ _ hn, List.map_map, ← List.map_reverse, List.map_map]
  rfl
theorem waysF_map (s t : List Pg) (hl : t.length = s.length) : waysF (s.map f) (t.map f) = (waysF s t).map fun w => w.map fun m => (m.1, f m.2) := by
  unfold waysF
  rw [← List.map_reverse, ← List.map_reverse, gu_map hf, once_map hf, twice_map hf]
  cases hg : gu s.reverse t.reverse with
  | none => rfl
  | some m =>
    obtain ⟨h1, h2, hne, _, _⟩ := gu_some hl hg
    have g1 : s.getD m 0 = s[m] := by rw [List.getD_eq_getElem?_getD, List.getElem?_eq_getElem h1]; rfl
    have g2 : t.getD m 0 = t[m] := by rw [List.getD_eq_getElem?_getD, List.getElem?_eq_getElem h2]; rfl
    have g3 : (s.map f).getD m 0 = f s[m] := by rw [List.getD_eq_getElem?_getD, List.getElem?_map, List.getElem?_eq_getElem h1]; rfl
    have g4 : (t.map f).getD m 0 = f t[m] := by rw [List.getD_eq_getElem?_getD, List.getElem?_map, List.getElem?_eq_getElem h2]; rfl
    have a1 : onceW (s.map f) (t.map f) m (f s[m]) (f t[m]) = (onceW s t m s[m] t[m]).map (map3 f) := by
      unfold onceW
      rw [thd_map hf hne, stepsTo_map hf _ _ _ (by omega), stepsFrom_map hf _ _ _ (by omega), List.map_append, List.map_append]
      rfl
    have a2 : twiceW (s.map f) (t.map f) m (f s[m]) (f t[m]) = (twiceW s t m s[m] t[m]).map (map3 f) := by
      have r : List.replicate m (f t[m]) = (List.replicate m t[m]).map f := by rw [List.map_replicate]
      unfold twiceW
      rw [thd_map hf hne, r, stepsTo_map hf _ _ _ (by omega), stepsFrom_map hf _ _ _ (by omega), stepsTo_map hf _ _ _ (by rw [List.length_replicate]; exact Nat.le_refl _), List.map_append, List.map_append, List.map_append, List.map_append]
      rfl
    dsimp only
    rw [g1, g2, g3, g4, a1, a2, List.map_map]
    have k : ∀ w : List St3, (w.map (map3 f)).map out3 = (w.map out3).map fun m => (m.1, f m.2) := fun w => by
      rw [List.map_map, List.map_map]
      rfl
    split <;> split <;> simp [k]
end
end Peg

namespace Pd
open PySem PySem.Spec PyProof.Rows L2 Peg
abbrev dP (p : Pg) : PyData := .int ((p.val : Nat) : Int)
abbrev dS (s : List Pg) : PyData := .tuple (s.map dP)
abbrev dN (n : Nat) : PyData := .int (n : Int)
abbrev dPr (p : Int × Int) : PyData := .tuple [.int p.1, .int p.2]
abbrev dM (m : Nat × Pg) : PyData := .tuple [dN m.1, dP m.2]
abbrev dMs (ms : List (Nat × Pg)) : PyData := .list (ms.map dM)
def isAmong : PyData → Int → Int → Bool
  | .int i, lo, hi => decide (lo ≤ i) && decide (i ≤ hi)
  | _, _, _ => false
def isIntB : PyData → Bool
  | .int _ => true
  | .bool _ => true
  | _ => false
def isBoolB : PyData → Bool
  | .bool _ => true
  | _ => false
def isTupB : PyData → Bool
  | .tuple _ => true
  | _ => false
def isLstB : PyData → Bool
  | .list _ => true
  | _ => false
theorem kit_int : ∀ d : PyData, kitB (tyD d) "int" = some (isIntB d)
  | .none => (by decide +kernel : kitB "NoneType" "int" = some false)
  | .bool _ => (by decide +kernel : kitB "bool" "int" = some true)
  | .int _ => (by decide +kernel : kitB "int" "int" = some true)
  | .str _ => (by decide +kernel : kitB "str" "int" = some false)
  | .list _ => (by decide +kernel : kitB "list" "int" = some false)
  | .tuple _ => (by decide +kernel : kitB "tuple" "int" = some false)
  | .dict _ => (by decide +kernel : kitB "dict" "int" = some false)
theorem kit_bool : ∀ d : PyData, kitB (tyD d) "bool" = some (isBoolB d)
  | .none => (by decide +kernel : kitB "NoneType" "bool" = some false)
  | .bool _ => (by decide +kernel : kitB "bool" "bool" = some true)
  | .int _ => (by decide +kernel : kitB "int" "bool" = some false)
  | .str _ => (by decide +kernel : kitB "str" "bool" = some false)
  | .list _ => (by decide +kernel : kitB "list" "bool" = some false)
  | .tuple _ => (by decide +kernel : kitB "tuple" "bool" = some false)
  | .dict _ => (by decide +kernel : kitB "dict" "bool" = some false)
theorem kit_tup : ∀ d : PyData, kitB (tyD d) "tuple" = some (isTupB d)
  | .none => (by decide +kernel : kitB "NoneType" "tuple" = some false)
  | .bool _ => (by decide +kernel : kitB "bool" "tuple" = some false)
  | .int _ => (by decide +kernel : kitB "int" "tuple" = some false)
  | .str _ => (by decide +kernel : kitB "str" "tuple" = some false)
  | .list _ => (by decide +kernel : kitB "list" "tuple" = some false)
  | .tuple _ => (by decide +kernel : kitB "tuple" "tuple" = some true)
  | .dict _ => (by decide +kernel : kitB "dict" "tuple" = some false)
theorem kit_lst : ∀ d : PyData, kitB (tyD d) "list" = some (isLstB d)
  | .none => (by decide +kernel : kitB "NoneType" "list" = some false)
  | .bool _ => (by decide +kernel : kitB "bool" "list" = some false)
  | .int _ => (by decide +kernel : kitB "int" "list" = some false)
  | .str _ => (by decide +kernel : kitB "str" "list" = some false)
  | .list _ => (by decide +kernel : kitB "list" "list" = some true)
  | .tuple _ => (by decide +kernel : kitB "tuple" "list" = some false)
  | .dict _ => (by decide +kernel : kitB "dict" "list" = some false)
theorem at_pg {s : List Pg} {m : Nat} (h : m < s.length) : atI (s.map dP) ((m : Nat) : Int) = some (dP s[m]) := atI_nat (by rw [List.getElem?_map, List.getElem?_eq_getElem h]; rfl)
theorem pg_ne {a b : Pg} : (((a.val : Nat) : Int) = ((b.val : Nat) : Int)) ↔ a = b := ⟨fun h => Fin.ext (by omega), fun h => by rw [h]⟩
theorem shl_nat {a m : Nat} : ((a : Int) + 1 * 2 ^ ((m : Int)).toNat) = ((a + 2 ^ m : Nat) : Int) := by simp
/-- None, or a number -/
def dNo : Option Nat → PyData
  | some n => dN n
  | none => .none
def isSetD : PyData → Bool
  | .tuple ds => decide (ds.length ≤ 60) && ds.all fun d => isAmong d 0 2
  | _ => false
def okD : PyData → Bool
  | .tuple ds => decide (ds.length < 100000) && ds.all plainD
  | d => plainD d
theorem okD_plain : ∀ {d : PyData}, okD d = true → plainD d = true
  | .none, _ | .bool _, _ | .int _, _ | .str _, _ | .list _, _ | .tuple _, _ => rfl
  | .dict _, h => h
theorem okD_tup {ds : List PyData} (h : okD (.tuple ds) = true) : ds.length < 100000 ∧ ∀ d ∈ ds, plainD d = true := by
  have h' := Bool.and_eq_true_iff.mp (show (decide (ds.length < 100000) && ds.all plainD) = true from h)
  exact ⟨of_decide_eq_true h'.1, List.all_eq_true.mp h'.2⟩
theorem kept_all {ds : List PyData} {r : PyData → PyData} : kept ds (fun _ => true) r = ds.map r := by
  unfold kept
  rw [List.filter_eq_self.mpr fun _ _ => rfl]
theorem kept_bools {ds : List PyData} : kept ds (fun _ => true) (fun d => .bool (isAmong d 0 2)) = (ds.map fun d => isAmong d 0 2).map PyData.bool := by
  rw [kept_all, List.map_map]
  rfl
theorem isSet_tup {ds : List PyData} : Rs.val (.bool (isTupB (.tuple ds) && (decide ((ds.length : Int) ≤ 60) && (ds.map fun d => isAmong d 0 2).all id))) = Rs.val (.bool (isSetD (.tuple ds))) := by
  have e1 : decide ((ds.length : Int) ≤ 60) = decide (ds.length ≤ 60) := by
    by_cases h : ds.length ≤ 60
    · rw [decide_eq_true h, decide_eq_true (by omega)]
    · rw [decide_eq_false h, decide_eq_false (by omega)]
  have e2 : (ds.map fun d => isAmong d 0 2).all id = ds.all fun d => isAmong d 0 2 := by
    rw [List.all_map]
    rfl
  rw [e1, e2]
  rfl
theorem isAmong_dP (p : Pg) : isAmong (dP p) 0 2 = true := by
  have h := p.isLt
  show (decide ((0 : Int) ≤ ((p.val : Nat) : Int)) && decide (((p.val : Nat) : Int) ≤ 2)) = true
  rw [decide_eq_true (by omega), decide_eq_true (by omega)]
  rfl
theorem isSetD_dS {s : List Pg} (h : s.length ≤ 60) : isSetD (dS s) = true := by
  show (decide ((s.map dP).length ≤ 60) && (s.map dP).all fun d => isAmong d 0 2) = true
  rw [List.length_map, decide_eq_true h, Bool.true_and, List.all_map, List.all_eq_true]
  exact fun p _ => isAmong_dP p
theorem okD_dS {s : List Pg} (h : s.length ≤ 60) : okD (dS s) = true := by
  show (decide ((s.map dP).length < 100000) && (s.map dP).all plainD) = true
  rw [List.length_map, decide_eq_true (by omega), Bool.true_and, List.all_map, List.all_eq_true]
  exact fun p _ => rfl
/-- None, or a move -/
def dMo : Option (Nat × Pg) → PyData
  | some m => dM m
  | none => .none
/-- what choices tells, the greatest disc ahead -/
def dCho (r s : List Pg) : PyData := match gu r s with
  | some m => .tuple [dN m, dN (once r s), dN (twice r s)]
  | none => .none
theorem ev_ifN {K : PySem.W.Frag} {c : Cc} {δ : DEnv} {tt : TT} {ta tb : TE} {o : Option (Nat × Pg)} {m : Nat × Pg} (h : EvT K c tt δ (isNon (dMo o))) (h1 : EvD K c ta δ (dM m)) (h2 : EvD K c tb δ (dMo o)) : EvD K c (tIf tt ta tb) δ (dMo (o.or (some m))) := by
  cases o with
  | none => exact ev_if h (fun _ => h1) (fun z => by cases z)
  | some m' => exact ev_if h (fun z => by cases z) (fun _ => h2)
/-! ### the law's draws -/
def cellH (ns : List Int) (k : Nat) : Int := if ns = [] then 5 else ns.getD ((k : Int) % (ns.length : Int)).toNat 0
theorem cellH_at {ns : List Int} {k : Nat} (h : ns ≠ []) : atI ns ((k : Int) % (ns.length : Int)) = some (cellH ns k) := by
  have hp := List.length_pos_iff.mpr h
  have h0 : 0 ≤ (k : Int) % (ns.length : Int) := Int.emod_nonneg _ (by omega)
  have h1 : (k : Int) % (ns.length : Int) < ns.length := Int.emod_lt_of_pos _ (by omega)
  obtain ⟨m, hm⟩ : ∃ m : Nat, (k : Int) % (ns.length : Int) = (m : Int) := ⟨((k : Int) % (ns.length : Int)).toNat, by omega⟩
  rw [cellH, if_neg h, hm]
  have hml : m < ns.length := by omega
  refine atI_nat ?_
  rw [Int.toNat_natCast, List.getD_eq_getElem?_getD, List.getElem?_eq_getElem hml]
  rfl
def cellI (ns : List Int) (k : Nat) : Int := ((cellH ns k % 2147483629 * 48271 + ((k : Int) + 3) * ((k : Int) + 3) * 40692) % 2147483647 * 16807 + 31 * (k : Int)) % 2147483629 / 3
def cellF (ns : List Int) (k : Nat) : Nat := (cellI ns k).toNat
theorem cellF_eq {ns : List Int} {k : Nat} : ((cellF ns k : Nat) : Int) = ((cellH ns k % 2147483629 * 48271 + ((k : Int) + 3) * ((k : Int) + 3) * 40692) % 2147483647 * 16807 + 31 * (k : Int)) % 2147483629 / 3 := by
  have h : 0 ≤ cellI ns k := by
    unfold cellI
    omega
  rw [cellF, Int.toNat_of_nonneg h]
  rfl
def greatG (k : Nat) (ns : List Int) : Int := ns.foldl (fun f x => (f * 1000003 + x % 10 ^ (40 : Int).toNat + 69621 * (k : Int)) % 10 ^ (40 : Int).toNat) (7 + 48271 * (k : Int))
theorem greatG_more {ns : List Int} {k i : Nat} {n : Int} (h : ns[i]? = some n) : greatG k (ns.take (i + 1)) = (greatG k (ns.take i) * 1000003 + n % 10 ^ (40 : Int).toNat + 69621 * (k : Int)) % 10 ^ (40 : Int).toNat := by
  unfold greatG
  rw [List.take_add_one, h, Option.toList_some, List.foldl_append]
  rfl
theorem greatG_pos (k : Nat) : ∀ (l : List Int) (a : Int), 0 ≤ a → 0 ≤ l.foldl (fun f x => (f * 1000003 + x % 10 ^ (40 : Int).toNat + 69621 * (k : Int)) % 10 ^ (40 : Int).toNat) a
  | [], a, h => h
  | x :: l, a, h => greatG_pos k l _ (Int.emod_nonneg _ (by decide))
def greatF (ns : List Int) (k : Nat) : Nat := (greatG k ns).toNat
theorem greatF_eq {ns : List Int} {k : Nat} : ((greatF ns k : Nat) : Int) = greatG k ns := by
  have h : 0 ≤ greatG k ns := greatG_pos k ns _ (by omega)
  rw [greatF, Int.toNat_of_nonneg h]
/-! ### the law's moves -/
theorem cut_to' {ds : List PyData} {k : Nat} : cutD ds none (some (k : Int)) = ds.take k := by
  unfold cutD
  rw [HT.sIx_none, HT.sIx_nat, List.drop_zero, Nat.sub_zero]
  by_cases h : k ≤ ds.length
  · rw [Nat.min_eq_left h]
  · rw [Nat.min_eq_right (by omega), List.take_length, List.take_of_length_le (by omega)]
def snd2 : PyData → PyData
  | .tuple [_, y] => y
  | _ => .none
def fst2 : PyData → PyData
  | .tuple [x, _] => x
  | _ => .none
def eqI : PyData → PyData → Bool
  | .int i, .int j => decide (i = j)
  | _, _ => false
def tp (s : List Pg) (p : Pg) : List PyData := (top s p).toList.map dN
theorem kept_top {s : List Pg} {p : Pg} : (kept (dEnum (s.map dP)) (fun d => eqI (snd2 d) (dP p)) fst2).take 1 = tp s p := by
  unfold kept dEnum tp top
  rw [List.length_map, List.filter_map, List.map_map, ← List.head?_filter, ← List.map_take]
  have e : (List.range s.length).filter ((fun d => eqI (snd2 d) (dP p)) ∘ fun (k : Nat) => PyData.tuple [.int (k : Int), (s.map dP).getD k .none]) = (List.range s.length).filter fun k => decide (s[k]? = some p) := by
    refine List.filter_congr fun k hk => ?_
    have hl := List.mem_range.mp hk
    show eqI ((s.map dP).getD k .none) (dP p) = _
    rw [List.getD_eq_getElem?_getD, List.getElem?_map, List.getElem?_eq_getElem hl]
    show decide (((s[k].val : Nat) : Int) = ((p.val : Nat) : Int)) = decide (some s[k] = some p)
    by_cases h : s[k] = p
    · rw [decide_eq_true (pg_ne.mpr h), decide_eq_true (by rw [h])]
    · rw [decide_eq_false (fun z => h (pg_ne.mp z)), decide_eq_false (fun z => h (Option.some.inj z))]
  rw [e]
  cases (List.range s.length).filter fun k => decide (s[k]? = some p) with
  | nil => rfl
  | cons a l => rfl
def pgD : PyData → Pg
  | .int i => pgN i.toNat
  | _ => 0
def dTops (s : List Pg) : PyData := .list [.list (tp s 0), .list (tp s 1), .list (tp s 2)]
theorem at_tops {s : List Pg} {k : Nat} (h : k < 3) : atI [PyData.list (tp s 0), .list (tp s 1), .list (tp s 2)] (k : Int) = some (.list (tp s (pgN k))) := by
  refine atI_nat ?_
  match k, h with
  | 0, _ => rfl
  | 1, _ => rfl
  | 2, _ => rfl
theorem tp_cases (s : List Pg) (p : Pg) : (tp s p = [] ∧ top s p = none) ∨ ∃ a, tp s p = [dN a] ∧ top s p = some a := by
  unfold tp
  cases h : top s p with
  | none => exact .inl ⟨rfl, rfl⟩
  | some a => exact .inr ⟨a, rfl, rfl⟩
theorem dMs_pr (ms : List (Nat × Pg)) : ms.map dM = (ms.map toPr).map dPr := by
  rw [List.map_map]
  rfl
theorem eqv_nil (ds : List PyData) : PyData.eqv (.list ds) (.list []) = ds.isEmpty := by
  cases ds with
  | nil => simp [PyData.eqv, PyData.eqvAll]
  | cons a l => simp [PyData.eqv, PyData.eqvAll]
theorem od_eqNil {K : PySem.W.Frag} {ds : List PyData} (h : SeqAt.shaped (.list ds) = true) : OpD K (rEqD K) (.list ds) (.list []) (.bool ds.isEmpty) := by
  have := od_eq (K := K) h (show SeqAt.shaped (.list []) = true from rfl)
  rwa [eqv_nil] at this
theorem od_neNil {K : PySem.W.Frag} {ds : List PyData} (h : SeqAt.shaped (.list ds) = true) : OpD K (rNeD K) (.list ds) (.list []) (.bool (!ds.isEmpty)) := by
  have := od_ne (K := K) h (show SeqAt.shaped (.list []) = true from rfl)
  rwa [eqv_nil] at this
theorem shp_one (n : Nat) : SeqAt.shaped (.list [dN n]) = true := shaped_ints [(n : Int)]
theorem pgN_val {k : Nat} (h : k < 3) : dP (pgN k) = dN k := by
  show PyData.int ((k % 3 : Nat) : Int) = _
  rw [Nat.mod_eq_of_lt h]
theorem dS_set {s : List Pg} {m : Nat} {p : Pg} (h : m < s.length) : Rs.val (.tuple ((s.map dP).take m ++ [dP p] ++ (s.map dP).drop (m + 1))) = Rs.val (dS (s.set m p)) := by
  unfold dS
  rw [List.map_set, List.set_eq_take_append_cons_drop, if_pos (by rw [List.length_map]; exact h), List.append_assoc]
  rfl
/-! ### settings, moves compared -/
theorem canLay_pgs : ∀ s : List Pg, PyData.canLayAll0 (s.map dP) = true
  | [] => rfl
  | n :: ns => by simp [PyData.canLayAll0, PyData.canLay0, canLay_pgs ns]
theorem depth_pgs : ∀ s : List Pg, PyData.depthAll (s.map dP) ≤ 1
  | [] => by simp [PyData.depthAll]
  | n :: ns => by
    have := depth_pgs ns
    simp only [List.map_cons, PyData.depthAll, PyData.depth]
    omega
theorem shp_dS (s : List Pg) : SeqAt.shaped (dS s) = true := by
  show (PyData.canLay0 (.tuple (s.map dP)) && decide (PyData.depth (.tuple (s.map dP)) ≤ 64)) = true
  have h := depth_pgs s
  rw [Bool.and_eq_true]
  refine ⟨?_, decide_eq_true ?_⟩
  · simp only [PyData.canLay0]
    exact canLay_pgs s
  · simp only [PyData.depth]
    omega
theorem eqv_pgs : ∀ s t : List Pg, PyData.eqvAll (s.map dP) (t.map dP) = decide (s = t)
  | [], [] => by simp [PyData.eqvAll]
  | [], b :: t => by simp [PyData.eqvAll]
  | a :: s, [] => by simp [PyData.eqvAll]
  | a :: s, b :: t => by
    simp only [List.map_cons, PyData.eqvAll, PyData.eqv, eqv_pgs s t]
    by_cases e : a = b
    · by_cases e2 : s = t <;> simp [e, e2]
    · have : ¬ ((a.val : Nat) : Int) = ((b.val : Nat) : Int) := fun z => e (pg_ne.mp z)
      simp [e, this]
theorem eqv_dS (s t : List Pg) : PyData.eqv (dS s) (dS t) = decide (s = t) := by
  simp only [PyData.eqv, eqv_pgs]
theorem od_eqS {K : PySem.W.Frag} {s t : List Pg} : OpD K (rEqD K) (dS s) (dS t) (.bool (decide (s = t))) := by
  have := od_eq (K := K) (shp_dS s) (shp_dS t)
  rwa [eqv_dS] at this
theorem od_neS' {K : PySem.W.Frag} {s t : List Pg} : OpD K (rNeD K) (dS s) (dS t) (.bool (!decide (s = t))) := by
  have := od_ne (K := K) (shp_dS s) (shp_dS t)
  rwa [eqv_dS] at this
theorem od_neB {K : PySem.W.Frag} {a b : Bool} : OpD K (rNeD K) (.bool a) (.bool b) (.bool (!decide (a = b))) := by
  have h := od_ne (K := K) (x := .bool a) (y := .bool b) rfl rfl
  rwa [show PyData.eqv (.bool a) (.bool b) = decide (a = b) by simp [PyData.eqv, Bool.beq_eq_decide_eq]] at h
theorem canLay_ms : ∀ s : List (Nat × Pg), PyData.canLayAll0 (s.map dM) = true
  | [] => rfl
  | n :: ns => by simp [PyData.canLayAll0, PyData.canLay0, canLay_ms ns]
theorem depth_ms : ∀ s : List (Nat × Pg), PyData.depthAll (s.map dM) ≤ 2
  | [] => by simp [PyData.depthAll]
  | n :: ns => by
    have := depth_ms ns
    simp only [List.map_cons, PyData.depthAll, PyData.depth]
    omega
theorem shp_ms (s : List (Nat × Pg)) : SeqAt.shaped (dMs s) = true := by
  show (PyData.canLay0 (.list (s.map dM)) && decide (PyData.depth (.list (s.map dM)) ≤ 64)) = true
  have h := depth_ms s
  rw [Bool.and_eq_true]
  refine ⟨?_, decide_eq_true ?_⟩
  · simp only [PyData.canLay0]
    exact canLay_ms s
  · simp only [PyData.depth]
    omega
theorem shp_dM (m : Nat × Pg) : SeqAt.shaped (dM m) = true := rfl
theorem eqv_dM (m n : Nat × Pg) : PyData.eqv (dM m) (dM n) = decide (m = n) := by
  obtain ⟨a, b⟩ := m
  obtain ⟨c, d⟩ := n
  simp only [PyData.eqv, PyData.eqvAll]
  by_cases e : a = c
  · by_cases e2 : b = d
    · simp [e, e2]
    · have : ¬ ((b.val : Nat) : Int) = ((d.val : Nat) : Int) := fun z => e2 (pg_ne.mp z)
      simp [e, e2]
      intro z
      omega
  · have : ¬ (a : Int) = (c : Int) := by omega
    simp [e]
    intro z
    omega
theorem eqv_mss : ∀ s t : List (Nat × Pg), PyData.eqvAll (s.map dM) (t.map dM) = decide (s = t)
  | [], [] => by simp [PyData.eqvAll]
  | [], b :: t => by simp [PyData.eqvAll]
  | a :: s, [] => by simp [PyData.eqvAll]
  | a :: s, b :: t => by
    have h1 := eqv_dM a b
    simp only [List.map_cons, PyData.eqvAll, eqv_mss s t, h1]
    by_cases e : a = b
    · by_cases e2 : s = t <;> simp [e, e2]
    · simp [e]
theorem eqv_dMs (s t : List (Nat × Pg)) : PyData.eqv (dMs s) (dMs t) = decide (s = t) := by
  simp only [PyData.eqv, eqv_mss]
theorem eqv_ms (s : List (Nat × Pg)) : PyData.eqv (.list (s.map dM)) (.list (s.map dM)) = true := by
  rw [eqv_dMs]
  exact decide_eq_true rfl
theorem L_zero (s : List Pg) (p : Pg) : toP s.reverse p = 0 ↔ s = List.replicate s.length p := by
  rw [toP_zero, List.length_reverse]
  constructor
  · intro h
    have := congrArg List.reverse h
    rwa [List.reverse_reverse, List.reverse_replicate] at this
  · intro h
    have := congrArg List.reverse h
    rwa [List.reverse_replicate] at this
def discsF (x : Nat) : Nat := if x / 64 % 2 = 0 then x % 9 else x % 61
theorem discs_at (x : Nat) : atI [PyData.int ((x : Int) % 9), .int ((x : Int) % 61)] ((x : Int) / 64 % 2) = some (dN (discsF x)) := by
  have e : (x : Int) / 64 % 2 = ((x / 64 % 2 : Nat) : Int) := by omega
  rw [e]
  refine atI_nat ?_
  unfold discsF
  have : x / 64 % 2 = 0 ∨ x / 64 % 2 = 1 := by omega
  rcases this with h | h
  · rw [h, if_pos rfl]
    rfl
  · rw [h, if_neg (by decide)]
    rfl
theorem discs_le (x : Nat) : discsF x ≤ 60 := by
  unfold discsF
  split <;> omega
theorem Le.refl (δ : DEnv) : Le δ δ := ⟨rfl, fun _ _ h => h⟩
theorem dmin {a b : Nat} : PyData.int (if (b : Int) < (a : Int) then (b : Int) else (a : Int)) = dN (min a b) := by
  split
  · rw [show min a b = b by omega]
  · rw [show min a b = a by omega]
theorem at_last {l : List Nat} {m : Nat} (h : l.getLast? = some m) : atI (l.map dN) (-1) = some (dN m) := by
  obtain ⟨ys, rfl⟩ := List.getLast?_eq_some_iff.mp h
  rw [List.map_append]
  exact atI_last _ _
def fU (s t : List Pg) : PyData → Bool
  | .int i => !decide (s[i.toNat]? = t[i.toNat]?)
  | _ => false
theorem kept_unl (s t : List Pg) : kept (dRange 0 s.length) (fU s t) id = (unl s t).map dN := by
  unfold kept dRange unl
  rw [List.filter_map, List.map_id]
  have e1 : (fun (k : Nat) => PyData.int (0 + (k : Int))) = dN := by
    funext k
    rw [Int.zero_add]
  rw [e1]
  congr 1
  refine List.filter_congr fun i _ => ?_
  show (!decide (s[((i : Nat) : Int).toNat]? = t[((i : Nat) : Int).toNat]?)) = _
  rw [Int.toNat_natCast]
  by_cases h : s[i]? = t[i]? <;> simp [h]
theorem eqv_three (a b c : Nat) : PyData.eqv (.tuple [dN a, dN b, dN c]) (.tuple [dN a, dN b, dN c]) = true := by simp [PyData.eqv, PyData.eqvAll]
theorem shp_dNs (l : List Nat) : SeqAt.shaped (.list (l.map dN)) = true := by
  have := shaped_ints (l.map fun k : Nat => (k : Int))
  rwa [List.map_map] at this
theorem any_ms {l : List (Nat × Pg)} {m : Nat × Pg} (h : m ∈ l) : ((l.map dM).any fun z => PyData.eqv z (dM m)) = true := by
  rw [List.any_map, List.any_eq_true]
  exact ⟨m, h, by
    show PyData.eqv (dM m) (dM m) = true
    rw [eqv_dM]
    exact decide_eq_true rfl⟩
theorem pgD_dP (p : Pg) : pgD (dP p) = p := by
  refine Fin.ext ?_
  show ((p.val : Nat) : Int).toNat % 3 = p.val
  have := p.isLt
  omega
def mvD : PyData → Nat × Pg
  | .tuple [.int a, .int b] => (a.toNat, pgN b.toNat)
  | _ => (0, 0)
theorem mvD_dM (m : Nat × Pg) : mvD (dM m) = m := by
  obtain ⟨a, p⟩ := m
  show ((a : Int).toNat, pgN ((p.val : Nat) : Int).toNat) = (a, p)
  rw [Int.toNat_natCast, show pgN ((p.val : Nat) : Int).toNat = p from pgD_dP p]
def setD : PyData → List Pg
  | .tuple ds => ds.map pgD
  | _ => []
theorem setD_dS (s : List Pg) : setD (dS s) = s := by
  show (s.map dP).map pgD = s
  rw [List.map_map]
  have : pgD ∘ dP = id := funext pgD_dP
  rw [this, List.map_id]
/-- the settings behind the moves -/
theorem kept_behind (s : List Pg) : kept ((may s).map dM) (fun _ => true) (fun d => dS (aft s (mvD d))) = ((may s).map (aft s)).map dS := by
  rw [kept_all, List.map_map, List.map_map]
  refine List.map_congr_left fun m _ => ?_
  show dS (aft s (mvD (dM m))) = dS (aft s m)
  rw [mvD_dM]
theorem kept_sets (l : List (List Pg)) (f : List Pg → Bool) : kept (l.map dS) (fun d => f (setD d)) id = (l.filter f).map dS := by
  unfold kept
  rw [List.filter_map, List.map_id]
  congr 1
  refine List.filter_congr fun x _ => ?_
  show f (setD (dS x)) = f x
  rw [setD_dS]
theorem kept_ints (l : List (List Pg)) (g : List Pg → Nat) : kept (l.map dS) (fun _ => true) (fun d => dN (g (setD d))) = (l.map fun x => ((g x : Nat) : Int)).map PyData.int := by
  rw [kept_all, List.map_map, List.map_map]
  refine List.map_congr_left fun x _ => ?_
  show dN (g (setD (dS x))) = dN (g x)
  rw [setD_dS]
theorem sum_nats (l : List (List Pg)) (g : List Pg → Nat) : (l.map fun x => ((g x : Nat) : Int)).sum = (((l.map g).sum : Nat) : Int) := by
  induction l with
  | nil => rfl
  | cons x l ih =>
    rw [List.map_cons, List.sum_cons, ih, List.map_cons, List.sum_cons]
    omega
theorem near_sum (s t : List Pg) (l : List (Nat × Pg)) : (((l.map (aft s)).filter fun x => decide (Peg.Fr x t + 1 = Peg.Fr s t)).map fun x => Mn x t).sum = (l.map (nearW s t)).sum := by
  induction l with
  | nil => rfl
  | cons m l ih =>
    rw [List.map_cons, List.filter_cons, List.map_cons, List.sum_cons, ← ih, nearW]
    by_cases h : Peg.Fr (aft s m) t + 1 = Peg.Fr s t
    · rw [if_pos (decide_eq_true h), if_pos h, List.map_cons, List.sum_cons]
    · rw [if_neg (by simpa using h), if_neg h, Nat.zero_add]
end Pd

namespace Pd
open PySem PySem.Spec PyProof.Rows L2 Peg
section
variable {K : PySem.W.Frag}
def keyP (H : Hp) : V → Int × Int
  | .ref t => match H t with
    | some (.tup [.int i, .int j]) => (i, j)
    | _ => (0, 0)
  | _ => (0, 0)
theorem rp_pr {G : Hp} {v : V} {p : Int × Int} (h : Rp K G v (dPr p)) : ∃ t, v = .ref t ∧ G t = some (.tup [.int p.1, .int p.2]) := by
  obtain ⟨a, xs, rfl, hp, r⟩ := h.tup_inv
  refine ⟨a, rfl, ?_⟩
  cases r with
  | cons h1 r =>
    cases r with
    | cons h2 r =>
      cases r
      rw [h1.int_inv, h2.int_inv] at hp
      exact hp
theorem keyP_of {G H : Hp} {v : V} {p : Int × Int} (e : Ex G H) (h : Rp K G v (dPr p)) : keyP H v = p := by
  obtain ⟨t, rfl, ht⟩ := rp_pr h
  unfold keyP
  simp only [e _ _ ht]
theorem rpAll_keys {G H : Hp} (e : Ex G H) : ∀ {xs : List V} {ps : List (Int × Int)}, RpAll K G xs (ps.map dPr) → xs.map (keyP H) = ps ∧ ∀ x ∈ xs, Rp K G x (dPr (keyP H x))
  | [], [], .nil => ⟨rfl, fun _ h => nomatch h⟩
  | x :: xs, p :: ps, .cons h r => by
    obtain ⟨a, b⟩ := rpAll_keys e (ps := ps) r
    have k := keyP_of e h
    refine ⟨by rw [List.map_cons, k, a], fun y hy => ?_⟩
    rcases List.mem_cons.mp hy with z | z
    · rw [z, k]
      exact h
    · exact b y z
theorem rpAll_of {G : Hp} {f : V → PyData} : ∀ {xs : List V}, (∀ x ∈ xs, Rp K G x (f x)) → RpAll K G xs (xs.map f)
  | [], _ => .nil
  | x :: xs, h => .cons (h x List.mem_cons_self) (rpAll_of fun y hy => h y (List.mem_cons_of_mem _ hy))
def lexLe (a b : Int × Int) : Prop := a.1 < b.1 ∨ a.1 = b.1 ∧ a.2 ≤ b.2
theorem cn_sortedP {ps qs : List (Int × Int)} (hq : ∀ l : List (Int × Int), l.Perm ps → l.Pairwise lexLe → l = qs) : CallN K (rSortedPO K) [.list (ps.map dPr)] (qs.map dPr) := fun G H vs e r Q q => by
  obtain ⟨v, rfl, hv⟩ := r.one
  obtain ⟨a, xs, rfl, hp, r1⟩ := hv.lst_inv
  obtain ⟨h1, h2⟩ := rpAll_keys e r1
  refine ⟨a, xs, keyP H, rfl, SqL.of (e _ _ hp), fun x hx => ?_, fun ys p hs hst hn => ?_⟩
  · obtain ⟨t, ht, hg⟩ := rp_pr (h2 x hx)
    exact ⟨t, ht, e _ _ hg⟩
  · have pm : ys.Perm xs := hst.perm
    have pk : (ys.map (keyP H)).Perm ps := by
      rw [← h1]
      exact pm.map _
    have sr : (ys.map (keyP H)).Pairwise lexLe := by
      rw [List.pairwise_map]
      refine List.Pairwise.imp ?_ hs
      intro x y h
      have := SrtO.lexB_no.mp h
      unfold lexLe
      omega
    have eq := hq _ pk sr
    refine q p ys G _ (Run.newg e hn) hn (e.free hn) upd_same ?_
    rw [← eq, List.map_map]
    exact rpAll_of fun y hy => h2 y (pm.mem_iff.mp hy)
theorem cn_sortedI {ps qs : List Int} (hq : ∀ l : List Int, l.Perm ps → l.Pairwise (· ≤ ·) → l = qs) : CallN K (rSortedI K) [.list (ps.map PyData.int)] (qs.map PyData.int) := fun G H vs e r Q q => by
  obtain ⟨v, rfl, hv⟩ := r.one
  obtain ⟨a, xs, rfl, hp, r1⟩ := hv.lst_inv
  rw [r1.ints_inv] at hp
  refine ⟨a, ps, rfl, SqL.of (e _ _ hp), fun ns' p pm sr hn => ?_⟩
  rw [hq _ pm sr]
  exact q p _ G _ (Run.newg e hn) hn (e.free hn) upd_same (RpAll.ints qs)
end
end Pd

namespace Pd
open PySem PySem.Spec PyProof.Rows L2 Peg
/-! ### the rules with the written part by its name (within a comprehension the context's own is not to be seen from outside) -/
section
variable {X : Cx} {tg e : Expr} {te : TE} {ta : TA}
theorem op_addK (K : PySem.W.Frag) (h : X.K = K) : OpR X (binaryOp .Add) (rAddP K) := by subst h; exact op_addP
theorem op_mulK (K : PySem.W.Frag) (h : X.K = K) : OpR X (binaryOp .Mult) (rMulP K) := by subst h; exact op_mulP
theorem op_eqK (K : PySem.W.Frag) (h : X.K = K) (hu : X.A.units + 64 < cLine) : OpR X (compareOp .Eq) (rEqD K) := by subst h; exact op_eqD hu
theorem op_neK (K : PySem.W.Frag) (h : X.K = K) (hu : X.A.units + 64 < cLine) : OpR X (compareOp .NotEq) (rNeD K) := by subst h; exact op_neD hu
theorem op_inK (K : PySem.W.Frag) (h : X.K = K) (hu : X.A.units + 65 < cLine) : OpR X (compareOp .In) (rInP K) := by subst h; exact op_inP hu
theorem op_niK (K : PySem.W.Frag) (h : X.K = K) (hu : X.A.units + 65 < cLine) : OpR X (compareOp .NotIn) (rNiP K) := by subst h; exact op_niP hu
theorem ix_seqK (K : PySem.W.Frag) (h : X.K = K) : IxR X (rIx K) := by subst h; exact ix_seq
theorem sl_anyK (K : PySem.W.Frag) (h : X.K = K) : SlR X (rSlP K) := by subst h; exact sl_any
theorem call_lenK (K : PySem.W.Frag) (h : X.K = K) : CallR X (.builtin "len") (rLenP K) := by subst h; exact call_len_seq
theorem cr_allK (K : PySem.W.Frag) (h : X.K = K) (hc : X.calm = true) : CallR X (.builtin "all") (rAll K) := by subst h; exact cr_all hc
theorem cr_sumK (K : PySem.W.Frag) (h : X.K = K) (hc : X.calm = true) : CallR X (.builtin "sum") (rSum K) := by subst h; exact cr_sum hc
theorem call_isiK' (K : PySem.W.Frag) (h : X.K = K) : CallR X (.builtin "isinstance") (rIsi K) := by subst h; exact call_isi
theorem cr_sortedPK (K : PySem.W.Frag) (h : X.K = K) : CallR X (.builtin "sorted") (rSortedPO K) := by subst h; exact cr_sortedPO
theorem cr_sortedIK (K : PySem.W.Frag) (h : X.K = K) : CallR X (.builtin "sorted") (rSortedI K) := by subst h; exact cr_sortedI
theorem call_listK (K : PySem.W.Frag) (h : X.K = K) : CallR X (.type "list") (rListP K) := by subst h; exact call_list_of
theorem call_tupK (K : PySem.W.Frag) (h : X.K = K) : CallR X (.type "tuple") (rTupP K) := by subst h; exact call_tuple_of
theorem pi_seqK (K : PySem.W.Frag) (h : X.K = K) (hl : PE X e te) : PI X tg e (iSeq K te) := by subst h; exact pi_seq hl
theorem pi_enumK {p pos tpos : Pos} {elts : List Expr} {kk : Nat} (K : PySem.W.Frag) (h : X.K = K) (hg : Gl X "enumerate") (hm : X.mg "enumerate" = none) (ha : PA X [e] ta) (hs : starEach [e] X.env = [(false, eval e X.env)] := by rfl) :
    PI X (.Tuple elts kk tpos) (.Call (.Name "enumerate" p) [e] [] pos) (iEnumT K ta) := by subst h; exact pi_enumT hg hm ha hs
theorem pi_zipK {e2 : Expr} {p pos tpos : Pos} {elts : List Expr} {kk : Nat} (K : PySem.W.Frag) (h : X.K = K) (hg : Gl X "zip") (hm : X.mg "zip" = none) (ha : PA X [e, e2] ta)
    (hs : starEach [e, e2] X.env = (false, eval e X.env) :: starEach [e2] X.env := by rfl) (hpl : (backTo pos (starEach [e2] X.env)).any (·.1) = false := by rfl) :
    PI X (.Tuple elts kk tpos) (.Call (.Name "zip" p) [e, e2] [] pos) (iZip K ta) := by subst h; exact pi_zip hg hm ha hs hpl
theorem pe_revLK {k : Nat} {p1 p2 p3 pos : Pos} (K : PySem.W.Frag) (h : X.K = K) (he : PE X e te) : PE X (.Subscript e (.Slice none none (some (.UnaryOp .USub (.Constant (.int 1) k p1) p2)) p3) pos) (tRevL K te) := by subst h; exact pe_revL he
end
end Pd

namespace Pd
open PySem PySem.Spec PyProof.Rows L2

/-! ### an exception is laid into the tracked heap -/
theorem exT_ok {P : Program} {w : World} {H : Hp} {h : Heap} {a : Addr} {cls : Value} {d : Option Addr} {oe : Obj} {vs : Array Value} (he : h.get? a = some oe) (hz : Zc cls d oe) (hd : oe.data = .fields vs) : ObjOk P w H h a (exT cls d a) :=
  ⟨⟨oe, vs, he, hz, hd⟩, ⟨_, he⟩, fun h1 h2 z k => by
    obtain ⟨o, v, e, z1, z2⟩ := z
    exact ⟨o, v, k _ e, z1, z2⟩⟩
theorem exT_at {P : Program} {w : World} {H : Hp} {h : Heap} {a : Addr} {cls : Value} {d : Option Addr} (hok : HOk P w H h) (e : H a = some (exT cls d a)) : ∃ oe vs, h.get? a = some oe ∧ Zc cls d oe ∧ oe.data = .fields vs := by
  have x : ObjOk P w H h a (.ext fun h => ∃ (oe : Obj) (vs : Array Value), h.get? a = some oe ∧ Zc cls d oe ∧ oe.data = .fields vs) := hok a _ e
  exact x.1
section
variable {X : Cx} {pins : List (Addr × Obj)} {σ : L2.St} {H : Hp} {sI s s' : Shared} {B : Heap}
/-- back on the ground, and one object of the air is tracked -/
theorem landedE {a : Addr} {o : HO} (J : Inv X pins σ H sI) (gr : ∀ b u, sI.heap.get? b = some u → b ∉ frs X.stack → B.get? b = some u) (sta : B.StaysIn s'.heap) (sl : sI.heap.UpToSlots s'.heap) (eo : s'.os = sI.os) (bg : AllBare s'.gens)
    (hz : sI.heap.get? a = none) (hn : H a = none) (new : ObjOk X.prog X.w (upd H a o) s'.heap a o) : Inv X pins σ (upd H a o) s' := by
  have fr : ∀ b u, sI.heap.get? b = some u → b ∈ frs X.stack → ∃ l, s'.heap.get? b = some { u with slots := l } := fun b u e hm => by
    obtain ⟨_, u2, e2, nf⟩ := J.stack.mem hm
    have z := e.symm.trans e2
    cases z
    exact sl b u e nf
  have ne : ∀ b u, sI.heap.get? b = some u → b ≠ a := fun b u e z => by
    rw [z, hz] at e
    cases e
  have ok1 : HOk X.prog X.w H s'.heap := (J.inGround gr).kept sta
  have ok2 : HOk X.prog X.w (upd H a o) s'.heap := fun b u e => by
    by_cases hb : b = a
    · subst hb
      rw [upd_same] at e
      cases e
      exact new
    · rw [upd_ne hb] at e
      exact (ok1 b u e).stay (fun _ _ _ q => q) (fun c q => by rw [upd_ne (ne_of_none q hn)]; exact q) fun c xs q => by rw [upd_ne (ne_of_none q hn)]; exact q
  have un : Un (frs X.stack) [] H (upd H a o) sI.heap s'.heap := {
    keep := fun b u e _ hm _ => sta b u (gr b u e hm)
    slot := fun b u e _ hm _ => fr b u e hm
    free := fun b u e n _ => by
      rw [upd_ne (ne b u e)]
      exact n
    there := fun b u e _ => by
      by_cases hm : b ∈ frs X.stack
      · obtain ⟨l, q⟩ := fr b u e hm
        exact ⟨_, q⟩
      · exact ⟨u, sta b u (gr b u e hm)⟩
    tups := fun b xs e => by
      rw [upd_ne (ne_of_none e hn)]
      exact e
    frzs := fun b u xs e => by
      rw [upd_ne (ne_of_none e hn)]
      exact e
    tbls := fun b ps e => ⟨#[], by rw [upd_ne (ne_of_none e hn), e]; simp⟩ }
  have K1 := J.call (ch := []) (g' := s'.gens) (t' := s'.toks) (d' := s'.drawn) un ok2 bg fun _ z => nomatch z
  obtain ⟨h1, g1, d1, t1, o1⟩ := s'
  have e5 : o1 = sI.os := eo
  subst e5
  exact K1
theorem Inv.inSuite (I : Inv X pins σ H s) (a : Addr) : Inv (X.suite a (X.pn ++ pins)) [] σ H s :=
  ⟨I.ok.suite _ _, I.os, I.bare, I.base, I.loc, I.cell, I.free, I.freeC, fun p hp => I.pin p (by rwa [List.append_nil] at hp), I.hok, I.len⟩
theorem Inv.outSuite {a : Addr} {ps : List (Addr × Obj)} (I : Inv (X.suite a (X.pn ++ pins)) ps σ H s) (ok : X.Ok) : Inv X pins σ H s :=
  ⟨ok, I.os, I.bare, I.base, I.loc, I.cell, I.free, I.freeC, fun p hp => I.pin p (List.mem_append_left _ hp), I.hok, I.len⟩
end
/-- the suite's ends: the clause's name goes -/
abbrev goneD (i : Nat) (D : Ends) : Ends := { nx := fun σ H => D.nx (σ.set i none) H, rt := D.rt, bk := fun σ H => D.bk (σ.set i none) H, ct := fun σ H => D.ct (σ.set i none) H }
/-- what try: .. except x as n: suite wishes of its body's exceptions: each is the clause's; it is tracked from the suite on -/
def wAsT (K : PySem.W.Frag) (c : Value) (i : Nat) (ts : TS) (D : Ends) : WX := fun cls d σ H =>
  PySem.W.exmOne K cls c = some true ∧ ∀ a, H a = none → ts (goneD i D) (σ.set i (some (.ref a))) (upd H a (exT cls d a))
section
variable {X : Cx} {x n : Str} {c : Value} {i : Nat} {body suite : List Stmt} {b₀ : Stmt} {np pos pos' : Pos} {tb : WX → TS} {ts : TS}
theorem ps_tryT (hst : X.stack = X.env :: X.outer) (hfr : X.env.frame = some X.env.locals) (hN : X.N.Nodup) (hi : X.N[i]? = some n) (hk : X.env.kindOf n = some .local) (hc : Names X x c)
    (hb : ∀ (W : WX) (pn : List (Addr × Obj)) (xe : Value → Shared → Prop), Takes (X.tr pn xe) W → PassesOwn (model X.prog X.w) X.A X.env xe → PSs (X.tr pn xe) body (tb W))
    (hsu : ∀ (a : Addr) (pn : List (Addr × Obj)), PSs (X.suite a pn) (b₀ :: suite) ts) :
    PS X (.Try body [.ExceptHandler (some (.Name x np)) (some n) (b₀ :: suite) pos'] [] [] pos) (fun D σ H => tb (wAsT X.K c i ts D) D σ H) := by
  refine ⟨fun pins s σ H D I h => wpAny_Try_except ?_⟩
  have okX := I.ok
  have afr : X.A.frames = some (X.env :: X.outer) := by rw [okX.frames, hst]
  have body' := (hb (wAsT X.K c i ts D) (X.pn ++ pins) (fun e s1 => wpAny (model X.prog X.w) X.A (noteFrame e X.env) (fun _ s2 => wpAny (model X.prog X.w) X.A (setFlight e none) (fun _ s3 =>
    wpAny (model X.prog X.w) X.A (handleBy e X.env [.ExceptHandler (some (.Name x np)) (some n) (b₀ :: suite) pos']) (SP X pins D) X.xe s3) X.xe s2) X.xe s1) (fun u s1 air => ?air) PassesOwn.looking).run [] s σ H D (I.toTry _) h
  case air =>
    obtain ⟨a, B, sI, pi, σ1, H1, cls, d, rfl, I1, gr, sl, sky, hn, eo, bg, hcl, hsuite⟩ := air
    have J : Inv X pins σ1 H1 sI := I1.ofTry okX
    have sky' : Sky B (X.env :: X.outer) a (Zc cls d) X.env.locals s1.heap := hst ▸ sky
    show wpAny (model X.prog X.w) X.A (noteFrame (.ref a) X.env) _ _ _
    refine Sky.land Zc.steady afr hfr sky' fun h3 fly3 sl3 => ?_
    obtain ⟨o3, v3, get3, z3, d3⟩ := fly3.there
    have hz : sI.heap.get? a = none := by
      cases q : sI.heap.get? a with
      | none => rfl
      | some u =>
        have nm : a ∉ frs X.stack := fun hm => by
          rw [hst] at hm
          obtain ⟨_, u2, e2, nf⟩ := fly3.2.2.1.mem hm
          rw [get3] at e2
          cases e2
          exact nf _ d3
        have z := gr a u q nm
        rw [fly3.2.1] at z
        cases z
    have J3 : Inv X pins σ1 (upd H1 a (exT cls d a)) { s1 with heap := h3 } := landedE J gr fly3.1 (sl.trans sl3) eo bg hz hn (exT_ok get3 z3 d3)
    have S3 := Inv.inSuite J3 a
    refine wpAny_handleBy_cons (codeAny_handlers_test ?_) fun z => nomatch z
    have LT : PySem.W.Looks (model X.prog X.w) h3 (typeOf (.ref a)) cls := fun A Q E s2 k q => wpAny_typeOf_ref (k _ _ get3) (by rw [z3.1]; exact q)
    have LM := PySem.W.exm_one (M := model X.prog X.w) J3.kIn LT hcl
    have named : ∀ {Q E : Value → Shared → Prop}, Q c { s1 with heap := h3 } → wpAny (model X.prog X.w) (X.A.mark (some (.ref a))) (eval (.Name x np) X.env) Q E { s1 with heap := h3 } := fun {Q E} q => by
      rcases hc with ⟨g1, g2, g3 | ⟨g3, g4, g5⟩⟩
      · exact ld_glob (X := X.suite a (X.pn ++ pins)) S3 g1 g3 q g2
      · exact ld_blt (X := X.suite a (X.pn ++ pins)) S3 g1 g3 g4 q g5 g2
    refine named (LM.here (codeAny_handlers_suite_as (HandSPX.lands_againZ fly3 fun h4 fly4 sl4 => ?_)))
    obtain ⟨o4, v4, get4, z4, d4⟩ := fly4.there
    have J4 : Inv X pins σ1 (upd H1 a (exT cls d a)) { s1 with heap := h4 } := landedE J gr fly4.1 ((sl.trans sl3).trans sl4) eo bg hz hn (exT_ok get4 z4 d4)
    refine store_ok (X := X.suite a (X.pn ++ pins)) (v := .ref a) (Inv.inSuite J4 a) hN hi (.inl hk) rfl (fun s5 S5 => ?_) (.inr hk)
    refine wpAny_mono ((hsu a (X.pn ++ pins)).run [] s5 _ _ (goneD i D) S5 (hsuite a hn)) (fun f s6 end6 => ?_) fun _ _ z => False.elim z
    cases f with
    | next =>
      obtain ⟨σ6, H6, S6, q6⟩ := end6
      exact gone_ok (Inv.outSuite S6 okX) hN hi hk fun s7 J7 => ⟨_, _, J7, q6⟩
    | brk =>
      obtain ⟨σ6, H6, S6, q6⟩ := end6
      exact gone_ok (Inv.outSuite S6 okX) hN hi hk fun s7 J7 => ⟨_, _, J7, q6⟩
    | cont =>
      obtain ⟨σ6, H6, S6, q6⟩ := end6
      exact gone_ok (Inv.outSuite S6 okX) hN hi hk fun s7 J7 => ⟨_, _, J7, q6⟩
    | ret u =>
      obtain ⟨v6, σ6, H6, S6, r6, q6⟩ := end6
      exact gone_ok (Inv.outSuite S6 okX) hN hi hk fun s7 J7 => ⟨_, _, _, J7, r6, q6⟩
  refine wpAny_mono body' (fun f s1 en => ?_) fun _ _ z => z
  cases f with
  | next =>
    obtain ⟨σ1, H1, J1, q⟩ := en
    exact wpAny_execs_nil ⟨σ1, H1, J1.ofTry okX, q⟩
  | brk =>
    obtain ⟨σ1, H1, J1, q⟩ := en
    exact ⟨σ1, H1, J1.ofTry okX, q⟩
  | cont =>
    obtain ⟨σ1, H1, J1, q⟩ := en
    exact ⟨σ1, H1, J1.ofTry okX, q⟩
  | ret u =>
    obtain ⟨v, σ1, H1, J1, r, q⟩ := en
    exact ⟨v, σ1, H1, J1.ofTry okX, r, q⟩
end

/-! ### the same by data -/
section
variable {K : PySem.W.Frag} {c : Cc} {δ δ' : DEnv} {x y z d f : PyData} {ds es zs : List PyData} {te tb : TE} {tr : TA} {t u ts : TS} {N : DEnv → Prop} {R : Rs → Prop} {i n : Nat} {C D : Addr} {W : WX}
theorem EnvOk.unset {H0 G H : Hp} {σ : L2.St} (e : EnvOk K H0 G H σ δ) (i : Nat) : EnvOk K H0 G H (σ.set i none) (δ.set i none) := by
  have old : ∀ {j : Nat} {q : Cel}, (δ.set i none)[j]? = some (some q) → j ≠ i ∧ δ[j]? = some (some q) := fun {j q} h => by
    by_cases hj : j = i
    · subst hj
      by_cases hl : j < δ.length
      · rw [List.getElem?_set_self hl] at h
        cases h
      · rw [List.getElem?_eq_none (by rw [List.length_set]; omega)] at h
        cases h
    · rw [List.getElem?_set_ne (Ne.symm hj)] at h
      exact ⟨hj, h⟩
  refine ⟨by rw [List.length_set, List.length_set, e.len], fun j d' h => ?_, fun j es h => ?_, fun j k es fs h1 h2 h3 => ?_⟩
  · obtain ⟨hj, h⟩ := old h
    rw [List.getElem?_set_ne (Ne.symm hj)]
    exact e.val j d' h
  · obtain ⟨hj, h⟩ := old h
    rw [List.getElem?_set_ne (Ne.symm hj)]
    exact e.own j es h
  · obtain ⟨hj, h1⟩ := old h1
    obtain ⟨hk, h2⟩ := old h2
    rw [List.getElem?_set_ne (Ne.symm hj), List.getElem?_set_ne (Ne.symm hk)] at h3
    exact e.dis j k es fs h1 h2 h3
theorem Sta.unset {σ : L2.St} {H : Hp} {ts : List V} {td : List PyData} (s : Sta K c δ σ ts td H) (i : Nat) : Sta K c (δ.set i none) (σ.set i none) ts td H := by
  obtain ⟨G, r, e, t⟩ := s
  exact ⟨G, r, e.unset i, t⟩
/-- the returns of a try's body are those of the whole; its exceptions X1 are caught -/
def trR (R : Rs → Prop) (X1 : Addr → PyData → DEnv → Prop) : Rs → Prop
  | .exc C f δ => X1 C f δ
  | .val d => R (.val d)
  | .new ds => R (.new ds)
  | .gen φ => R (.gen φ)
theorem sd_tryT {tb : WX → TS} {cv1 : Value} (X1 : Addr → PyData → DEnv → Prop) (hb : ∀ W, SD K ⟨c.G, c.H, W⟩ (tb W) δ N (trR R X1)) (hcl : ∀ C f δ', X1 C f δ' → PySem.W.exmOne K (.ref C) cv1 = some true)
    (hsu : ∀ C f δ', X1 C f δ' → SD K c ts (δ'.set i (cv (dExc C f))) (fun δ2 => N (δ2.set i none)) R) : SD K c (fun D σ H => tb (wAsT K cv1 i ts D) D σ H) δ N R := fun σ H D s q1 q2 q3 => by
  refine hb (wAsT K cv1 i ts D) σ H D s q1 (fun r v H' hr st => ?_) fun C f δ' d σ' H' hx sx => ⟨hcl C f δ' hx, fun a ha => ?_⟩
  · cases r with
    | val d => exact q2 _ v H' hr st
    | new ds => exact q2 _ v H' hr st
    | exc C f δ => exact st.elim
    | gen φ => exact q2 _ v H' hr st
  · obtain ⟨G, rn, e, xf⟩ := sx
    have r' := Run.new (o := exT (.ref C) d a) rn.h ha
    have s1 : Sta K c δ' σ' [.ref a] [dExc C f] (upd H' a (exT (.ref C) d a)) := ⟨_, rn.trans r', e.run r', .cons (.exc upd_same (xf.ex r'.g)) .nil⟩
    exact hsu C f δ' hx _ _ (goneD i D) s1.set (fun δ2 σ2 H2 n2 s2 => q1 _ _ H2 n2 (s2.unset i)) q2 q3
/-! ### what raises -/
def EvX (K : PySem.W.Frag) (c : Cc) (te : TE) (δ : DEnv) (C : Addr) (f : PyData) : Prop := ∀ (σ : L2.St) (H : Hp) (ts : List V) (td : List PyData), Sta K c δ σ ts td H → ∀ Q : VK, (∀ d H', StaX K c δ σ H' d f → c.W (.ref C) d σ H') → te σ H Q
theorem sd_dropX (h : EvX K c te δ C f) (hr : R (.exc C f δ)) : SD K c (tDrop te) δ N R := fun σ H D s _ _ q3 => h σ H [] [] s _ fun d H' sx => q3 C f δ d σ H' hr sx
theorem sd_dropXS (h : EvX K c te δ C f) (hr : R (.exc C f δ)) : SD K c (tSeq (tDrop te) u) δ N R := fun σ H D s _ _ q3 => h σ H [] [] s _ fun d H' sx => q3 C f δ d σ H' hr sx
theorem sd_asgX {g : TG} (h : EvX K c te δ C f) (hr : R (.exc C f δ)) : SD K c (tAsg te g) δ N R := fun σ H D s _ _ q3 => h σ H [] [] s _ fun d H' sx => q3 C f δ d σ H' hr sx
theorem sd_asgXS {g : TG} (h : EvX K c te δ C f) (hr : R (.exc C f δ)) : SD K c (tSeq (tAsg te g) u) δ N R := fun σ H D s _ _ q3 => h σ H [] [] s _ fun d H' sx => q3 C f δ d σ H' hr sx
theorem sd_retX (h : EvX K c te δ C f) (hr : R (.exc C f δ)) : SD K c (tRet te) δ N R := fun σ H D s _ _ q3 => h σ H [] [] s _ fun d H' sx => q3 C f δ d σ H' hr sx
theorem evx_op1 {r : R2} (h : EvX K c te δ C f) : EvX K c (tOp r te tb) δ C f := fun σ H ts td s Q q => h σ H ts td s _ q
theorem evx_op2 {r : R2} (h1 : EvD K c te δ x) (h : EvX K c tb δ C f) : EvX K c (tOp r te tb) δ C f := fun σ H ts td s Q q => h1 σ H ts td s _ fun v H1 s1 => h σ H1 _ _ s1 _ q
/-- the promise of a def that may raise -/
def PrX (K : PySem.W.Frag) (vs : List V) (H : Hp) (Q : VK) (E : XK) (ds : List PyData) : Rs → Prop
  | .val z => Pr K vs H Q ds z
  | .new zs => PrN K vs H Q ds zs
  | .exc C f _ => ∃ G, Ex G H ∧ RpAll K G vs ds ∧ ∀ d G' H', Run G H G' H' → ExF G' d f → E (.ref C) d H'
  | .gen φ => ∃ G, Ex G H ∧ RpAll K G vs ds ∧ ∀ w G' H', Run G H G' H' → φ H G' w H' → Q w H'
theorem PrX.len {vs : List V} {H : Hp} {Q : VK} {E : XK} {o : Rs} (p : PrX K vs H Q E ds o) : vs.length = ds.length := by
  cases o with
  | val z => exact Pr.len p
  | new zs => exact PrN.len p
  | exc C f δ =>
    obtain ⟨_, _, r, _⟩ := p
    exact r.length
  | gen φ =>
    obtain ⟨_, _, r, _⟩ := p
    exact r.length
/-- the same outcome -/
def eqO : Rs → Rs → Prop
  | .exc C f _, r => ∃ δ', r = .exc C f δ'
  | .val z, r => r = .val z
  | .new zs, r => r = .new zs
  | .gen φ, r => r = .gen φ
theorem body_x {vs : List V} {H : Hp} {Q : VK} {E : XK} {Ns : List Str} {o : Rs} (p : PrX K vs H Q E ds o) (hl : ds.length ≤ Ns.length)
    (h : ∀ c, c.W = (fun cls d _ H => E cls d H) → SD K c t (env0 Ns.length ds) (fun _ => o = .val .none) (eqO o)) : t { nx := fun _ H' => Q .non H', rt := Q } (L2.start Ns vs) H := by
  obtain ⟨G, e, r⟩ : ∃ G, Ex G H ∧ RpAll K G vs ds := by
    cases o with
    | val z => obtain ⟨G, e, r, _⟩ := p; exact ⟨G, e, r⟩
    | new z => obtain ⟨G, e, r, _⟩ := p; exact ⟨G, e, r⟩
    | exc C f δ => obtain ⟨G, e, r, _⟩ := p; exact ⟨G, e, r⟩
    | gen φ => obtain ⟨G, e, r, _⟩ := p; exact ⟨G, e, r⟩
  cases o with
  | val z =>
    obtain ⟨G, e, r, q⟩ := p
    refine h ⟨G, H, _⟩ rfl (L2.start Ns vs) H _ (sta0 e r hl) (fun δ' σ' H' n s => ?_) (fun r v H' hr s => ?_) fun C f δ' d σ' H' hr _ => by cases hr
    · obtain ⟨G', rn, _, _⟩ := s
      cases n
      exact q .non G' H' rn .non
    · cases hr
      obtain ⟨G', rn, hv⟩ := s
      exact q v G' H' rn hv
  | new zs =>
    obtain ⟨G, e, r, q⟩ := p
    refine h ⟨G, H, _⟩ rfl (L2.start Ns vs) H _ (sta0 e r hl) (fun δ' σ' H' n s => by cases n) (fun r v H' hr s => ?_) fun C f δ' d σ' H' hr _ => by cases hr
    cases hr
    obtain ⟨G', p, ws, rfl, rn, hp, gp, ep, hw⟩ := s
    exact q p ws G' H' rn hp gp ep hw
  | exc C f δ =>
    obtain ⟨G, e, r, q⟩ := p
    refine h ⟨G, H, _⟩ rfl (L2.start Ns vs) H _ (sta0 e r hl) (fun δ' σ' H' n s => by cases n) (fun r v H' hr s => ?_) fun C f δ' d σ' H' hr s => ?_
    · obtain ⟨δ', rfl⟩ := hr
      exact s.elim
    · obtain ⟨δ2, hr⟩ := hr
      cases hr
      obtain ⟨G', rn, _, xf⟩ := s
      exact q d G' H' rn xf
  | gen φ =>
    obtain ⟨G, e, r, q⟩ := p
    refine h ⟨G, H, _⟩ rfl (L2.start Ns vs) H _ (sta0 e r hl) (fun δ' σ' H' n s => by cases n) (fun r v H' hr s => ?_) fun C f δ' d σ' H' hr _ => by cases hr
    cases hr
    obtain ⟨G', rn, hv⟩ := s
    exact q v G' H' rn hv
/-- a call that raises -/
theorem evx_callS {sp : Sp} (hw : c.W = W) (h : EvA K c tr δ ds) (hs : ∀ vs H Q E δ', PrX K vs H Q E ds (.exc C f δ') → sp vs H Q E) : EvX K c (tCallS sp (WE W) tr) δ C f := fun σ H ts td s Q q =>
  h σ H ts td s _ fun vs H1 hv s1 => by
    obtain ⟨G, rn, e, r1, r2⟩ := sta_split hv s1
    refine hs vs H1 Q _ δ ⟨G, rn.h, r1, fun d G' H' r' xf => ?_⟩
    have z := q d H' ⟨G', rn.trans r', e.run r', xf⟩
    rw [hw] at z
    exact z
theorem ev_callS {sp : Sp} {E : L2.St → XK} (h : EvA K c tr δ ds) (hs : ∀ vs H Q E, Pr K vs H Q ds z → sp vs H Q E) : EvD K c (tCallS sp E tr) δ z := fun σ H ts td s Q q =>
  h σ H ts td s _ fun vs H1 hv s1 => by
    obtain ⟨G, rn, e, r1, r2⟩ := sta_split hv s1
    exact hs vs H1 Q _ ⟨G, rn.h, r1, fun w G' H' r' hw => q w H' ⟨G', rn.trans r', e.run r', .cons hw (r2.ex r'.g)⟩⟩
theorem ev_callSN {sp : Sp} {E : L2.St → XK} (h : EvA K c tr δ ds) (hs : ∀ vs H Q E, PrN K vs H Q ds zs → sp vs H Q E) : EvN K c (tCallS sp E tr) δ zs := fun σ H ts td s Q q =>
  h σ H ts td s _ fun vs H1 hv s1 => by
    obtain ⟨G, rn, e, r1, r2⟩ := sta_split hv s1
    exact hs vs H1 Q _ ⟨G, rn.h, r1, fun p us G' H' r' hp gp ep hw => q p H' ⟨G', us, rn.trans r', e.run r', r2.ex r'.g, rn.k.free hp, gp, ep, hw, own_ne e hp⟩⟩
/-- raise C('..') -/
theorem sd_raise (hw : c.W = W) (hr : R (.exc C (.tuple []) δ)) : SD K c (fun _ σ H => W (.ref C) none σ H) δ N R := fun σ H D s _ _ q3 => by
  obtain ⟨G, rn, e, _⟩ := s
  have z := q3 C (.tuple []) δ none σ H hr ⟨G, rn, e, .non⟩
  rw [hw] at z
  exact z
/-! ### isinstance of an error that is held -/
theorem Rp.exc_inv {H : Hp} {v : V} (h : Rp K H v (dExc C f)) : ∃ a d, v = .ref a ∧ H a = some (exT (.ref C) d a) ∧ ExF H d f := by
  generalize hd : dExc C f = q at h
  cases h with
  | @exc a C' d f' h1 h2 =>
    have z := (Prod.mk.inj (List.cons.inj (PyData.dict.inj hd)).1)
    have z1 : (C : Int) = (C' : Int) := PyData.int.inj z.1
    have z2 : C = C' := Int.ofNat.inj z1
    have z3 := z.2
    subst z2 z3
    exact ⟨a, d, rfl, h1, h2⟩
  | _ => cases hd
theorem Rp.cls_inv {H : Hp} {v : V} (h : Rp K H v (dCls C)) : v = .ref C := by
  generalize hd : dCls C = q at h
  cases h with
  | cls C' =>
    have z := (Prod.mk.inj (List.cons.inj (PyData.dict.inj hd)).1)
    have z1 : (C : Int) = (C' : Int) := PyData.int.inj z.2
    have z2 : C = C' := Int.ofNat.inj z1
    rw [z2]
  | _ => cases hd
def rIsX (K : PySem.W.Frag) : List V → Hp → VK → Prop := fun xs H Q => ∃ (a C : Addr) (tv : V) (cv : Value) (b : Bool), xs = [.ref a, tv] ∧ H a = some (exT (.ref C) none a) ∧ ExcC K C ∧ (∀ u, RelV tv u → u = cv) ∧ PySem.W.kitOne K (.ref C) cv = some b ∧ Q (.bl b) H
theorem call_isX {X : Cx} : CallR X (.builtin "isinstance") (rIsX X.K) := by
  intro pins s σ H xs us Q I r h
  obtain ⟨a, C, tv, cv1, b, rfl, ha, T, hcv, e, q⟩ := h
  cases r with
  | cons rx rr =>
    cases rr with
    | cons rt rr =>
      cases rr
      cases rx
      have ec := hcv _ rt
      subst ec
      obtain ⟨oe, vs, hget, hz, hd⟩ := exT_at I.hok ha
      have J : PySem.W.InstAt s.heap a oe C none := by
        obtain ⟨oc, od, oda, osl⟩ := oe
        obtain ⟨h1, h2⟩ := hz
        dsimp only at h1 h2 hd
        subst h1 h2 hd
        exact ⟨hget, rfl, rfl, trivial⟩
      exact PySem.W.kia_one (PySem.W.handS_kitx_exc T.hg T.hk T.hs T.hd T.ha T.hn T.ht T.hm) I.kIn J e (fun z => nomatch z) fun tk => ⟨.bl b, H, I.kept (t' := tk) fun _ _ z => z, rfl, q⟩
theorem call_isXK {X : Cx} (K : PySem.W.Frag) (h : X.K = K) : CallR X (.builtin "isinstance") (rIsX K) := by subst h; exact call_isX
theorem cd_isXc {b : Bool} (T : ExcC K C) (e : PySem.W.kitOne K (.ref C) (.ref D) = some b) : CallD K (rIsX K) [dExc C (.tuple []), dCls D] (.bool b) := fun G H vs ex r Q q => by
  obtain ⟨v, u, rfl, hv, hu⟩ := r.two
  obtain ⟨a, d, rfl, ha, xf⟩ := hv.exc_inv
  cases hu.cls_inv
  cases xf
  exact ⟨a, C, _, .ref D, b, rfl, ex _ _ ha, T, fun u h => h, e, q _ G H (Run.refl ex) (.bl _)⟩
theorem cd_isXt {b : Bool} {n : String} (T : ExcC K C) (e : PySem.W.kitOne K (.ref C) (.type n) = some b) : CallD K (rIsX K) [dExc C (.tuple []), dTy n] (.bool b) := fun G H vs ex r Q q => by
  obtain ⟨v, u, rfl, hv, hu⟩ := r.two
  obtain ⟨a, d, rfl, ha, xf⟩ := hv.exc_inv
  cases hu.ty_inv
  cases xf
  exact ⟨a, C, _, .type n, b, rfl, ex _ _ ha, T, fun u h => h, e, q _ G H (Run.refl ex) (.bl _)⟩
/-- what a class says that is raised and caught -/
structure RaiC (K : PySem.W.Frag) (C : Addr) : Prop where
  x : PySem.W.excIn K C [.type "ValueError", .type "Exception", .type "BaseException", .type "object"] "ValueError.__new__" = true
  k : PySem.W.keepIn K (.ref C) = true
  b : PySem.W.subIn K (.ref C) (.type "BaseException") = some true
  t : PySem.W.typeIn K (.ref C) = some (.type "type")
end
end Pd

namespace Pd
open PySem PySem.Spec PyProof.Rows L2
/-! ### range with a step and bounds of any size -/
theorem turn_rangeL {P : Program} {w : World} {K : PySem.W.Frag} {tg : Expr} (it : Addr) (lo c : Int) (n : Nat) : Turn P w K tg (Itc lo c n) [it] it (fun i h => IsLongIter h it (lo + (i : Nat) * c) ((n : Int) - (i : Nat)) c) where
  mem := by simp
  obj := fun i h st b hb => by
    have e : b = it := by simpa using hb
    subst e
    exact ⟨_, st, fun v z => nomatch z⟩
  keep := fun i h h' st k => k it (by simp) _ st
  item := by
    intro X hP hw hK hc i pins s σ H E I hf st hg
    subst hP hw hK
    obtain ⟨f0, f1, f2, f3, f4, f5⟩ := hf it (by simp)
    have hlt : i < n := hg
    refine wpAny_pyNext_long_item st (by omega) fun h' st' sb => ?_
    have I1 : Inv X pins σ H { s with heap := h', toks := s.toks + 1 } := I.turned (fun b o hb e => (sb.2 b hb).trans e) f0 f1 f3 f4 f5
    have e1 : lo + ((i : Nat) : Int) * c + c = lo + (((i + 1 : Nat)) : Int) * c := by rw [Int.natCast_add, Int.add_mul]; omega
    have e2 : (n : Int) - ((i : Nat) : Int) - 1 = (n : Int) - ((i + 1 : Nat) : Int) := by omega
    rw [e1, e2] at st'
    exact ⟨_, rfl, go_of (s := { s with heap := h', toks := s.toks + 1 }) (n := "longrange_iterator") st' rfl rfl (by decide) ⟨.int (lo + (i : Nat) * c), H, I1, ⟨_, rfl⟩, ⟨rfl, rfl⟩, st', fun b hb => (hf b hb).1⟩⟩
  done := by
    intro X hP hw hK hc i pins s σ H E I hf st hg
    subst hP hw hK
    obtain ⟨f0, f1, f2, f3, f4, f5⟩ := hf it (by simp)
    exact wpAny_pyNext_long_end (I.ok.hd hc) st (by have : n ≤ i := hg; omega) fun h' eb => ⟨rfl, I.turned (t' := s.toks) (fun b o hb e => eb b o hb e) f0 f1 f3 f4 f5⟩
  self := fun A i s Q E st h => wpAny_pyIter_longiter st h
def RgA (i j c : Int) (n : Nat) : Prop := c ≠ 0 ∧ c.natAbs < 1073741824 ∧ Builtin.Range.rangeSize i j c = n
def iRng3A (ta : TA) : TI := fun σ H R => ta σ H fun vs H1 => ∃ (i j c : Int) (n : Nat), vs = [.int i, .int j, .int c] ∧ RgA i j c n ∧ R (Itc i c n) H1
theorem pi_range3A {X : Cx} {tg a b c : Expr} {ta : TA} {p pos : Pos} (hg : Gl X "range") (hm : X.mg "range" = none) (ha : PA X [a, b, c] ta)
    (hs : starEach [a, b, c] X.env = (false, eval a X.env) :: starEach [b, c] X.env := by rfl) (hpl : (backTo pos (starEach [b, c] X.env)).any (·.1) = false := by rfl) :
    PI X tg (.Call (.Name "range" p) [a, b, c] [] pos) (iRng3A ta) := by
  refine ⟨fun pins s σ H R I h => Call_ (ld_blt I hg hm boot_range (PyProof.Rows.callWith_type1 (thn (ha.run pos pins s σ H _ I h) fun us s1 got => ?_) hs hpl))⟩
  obtain ⟨vs, H1, I1, r1, i, j, k, n, rfl, ⟨k0, k1, k2⟩, q⟩ := got
  cases r1 with
  | cons ra rr =>
    cases rr with
    | cons rb rr =>
      cases rr with
      | cons rc rr =>
        cases rr
        obtain ⟨ta, rfl⟩ := ra
        obtain ⟨tb, rfl⟩ := rb
        obtain ⟨tc, rfl⟩ := rc
        refine call_range_3 k0 ?_ (.inl (PyProof.noPylong_small k1))
        have I2 : Inv X pins σ H1 { s1 with heap := s1.heap.push { cls := .type "range", data := .fields #[.int i ta, .int j tb, .int k tc] } } := I1.kept (t' := s1.toks) fun b o e => Heap.get?_push_of_some _ e
        have e1 : i + ((0 : Nat) : Int) * k = i := by simp
        have e2 : (n : Int) - ((0 : Nat) : Int) = Builtin.Range.rangeSize i j k := by rw [k2]; simp
        cases sm : Builtin.Range.small i j k with
        | true =>
          refine wpAny_pyIter_range (IsRange.new ..) sm (pi_one (tk := s1.toks) I2 _ (turn_rangeC _ i k n) ?_ q)
          show IsRangeIter _ _ (i + ((0 : Nat) : Int) * k) ((n : Int) - ((0 : Nat) : Int)) k
          rw [e1, e2]
          exact Heap.get?_push_size _ rfl
        | false =>
          refine wpAny_pyIter_longrange (IsRange.new ..) sm (pi_one (tk := s1.toks) I2 _ (turn_rangeL _ i k n) ?_ q)
          show IsLongIter _ _ (i + ((0 : Nat) : Int) * k) ((n : Int) - ((0 : Nat) : Int)) k
          rw [e1, e2]
          exact Heap.get?_push_size _ rfl
section
variable {K : PySem.W.Frag} {c : Cc} {δ : DEnv} {ds es : List PyData} {tr : TA} {d : PyData} {i j k : Int}
/-- n ints from i on, by k -/
def dStep (i k : Int) (n : Nat) : List PyData := (List.range n).map fun (m : Nat) => PyData.int (i + (m : Int) * k)
theorem dStep_len {n : Nat} : (dStep i k n).length = n := by simp [dStep]
theorem dStep_get {n m : Nat} (h : (dStep i k n)[m]? = some d) : m < n ∧ d = .int (i + (m : Int) * k) := by
  unfold dStep at h
  rw [List.getElem?_map] at h
  by_cases hk : m < n
  · rw [List.getElem?_range hk] at h
    exact ⟨hk, (Option.some.inj h).symm⟩
  · rw [List.getElem?_eq_none (by rw [List.length_range]; omega)] at h
    cases h
theorem iv_rng3A {n : Nat} (h : EvA K c tr δ [.int i, .int j, .int k]) (g : RgA i j k n) : IvD K c (iRng3A tr) δ (dStep i k n) := fun σ H ts td s R q => h σ H ts td s _ fun vs H1 hl s1 => by
  obtain ⟨G, rn, e, r1, r2⟩ := sta_split hl s1
  cases r1 with
  | cons a r1 =>
    cases r1 with
    | cons b r1 =>
      cases r1 with
      | cons e3 r1 =>
        cases r1
        refine ⟨i, j, k, n, by rw [a.int_inv, b.int_inv, e3.int_inv], g, ?_⟩
        refine q _ G H1 rn e r2 ⟨fun i H hi _ => by rw [dStep_len] at hi; exact hi, fun H _ => by rw [dStep_len]; exact Nat.le_refl _, fun i H v H' d hd ex y => ?_⟩
        obtain ⟨rfl, rfl⟩ := y
        obtain ⟨_, rfl⟩ := dStep_get hd
        exact ⟨G, Run.refl ex, .int _⟩
/-- pairs of two lists' items -/
def dZip (xs ys : List PyData) : List PyData := List.zipWith (fun a b => PyData.tuple [a, b]) xs ys
theorem dZip_get {xs ys : List PyData} {m : Nat} (h : (dZip xs ys)[m]? = some d) : ∃ x y, xs[m]? = some x ∧ ys[m]? = some y ∧ d = .tuple [x, y] := by
  unfold dZip at h
  rw [List.getElem?_zipWith] at h
  cases h1 : xs[m]? with
  | none =>
    rw [h1] at h
    cases h
  | some x =>
    cases h2 : ys[m]? with
    | none =>
      rw [h1, h2] at h
      cases h
    | some y =>
      rw [h1, h2] at h
      exact ⟨x, y, rfl, rfl, (Option.some.inj h).symm⟩
theorem iv_zipL {xs ys : List PyData} (h : EvA K c tr δ [.list xs, .list ys]) : IvD K c (iZip K tr) δ (dZip xs ys) := fun σ H ts td s R q => h σ H ts td s _ fun vs H1 hl s1 => by
  obtain ⟨G, rn, e, r1, r2⟩ := sta_split hl s1
  obtain ⟨v, u, rfl, hv, hu⟩ := r1.two
  obtain ⟨a, vx, rfl, ha, rx⟩ := hv.lst_inv
  obtain ⟨b, vy, rfl, hb, ry⟩ := hu.lst_inv
  refine ⟨a, b, vx, vy, rfl, SqL.of (rn.h _ _ ha), SqL.of (rn.h _ _ hb), q _ G H1 rn e r2 ⟨fun i H hi ex => ?_, fun H ex => ⟨vx, vy, SqL.of (ex _ _ ha), SqL.of (ex _ _ hb), ?_⟩, fun i H v H' d hd ex y => ?_⟩⟩
  · obtain ⟨x, y, hx, hy, _⟩ := dZip_get (List.getElem?_eq_getElem hi)
    obtain ⟨v1, w1, _⟩ := rx.get hx
    obtain ⟨v2, w2, _⟩ := ry.get hy
    exact ⟨vx, vy, v1, v2, SqL.of (ex _ _ ha), SqL.of (ex _ _ hb), w1, w2⟩
  · unfold dZip
    rw [List.length_zipWith, rx.length, ry.length]
    omega
  · obtain ⟨T, x, y', rfl, nT, rfl, hx, hy⟩ := y
    obtain ⟨z1, z2, hz1, hz2, rfl⟩ := dZip_get hd
    obtain ⟨w1, e1, q1⟩ := rx.get hz1
    obtain ⟨w2, e2, q2⟩ := ry.get hz2
    have y1 := hx _ (SqL.of (ex _ _ ha))
    have y2 := hy _ (SqL.of (ex _ _ hb))
    rw [e1] at y1
    rw [e2] at y2
    cases y1
    cases y2
    have r' := Run.new (o := .tup [x, y']) ex nT
    exact ⟨_, r', .tup upd_same (.cons (q1.ex r'.g) (.cons (q2.ex r'.g) .nil))⟩
end
end Pd

namespace Pd
open PySem PySem.Spec PyProof.Rows L2
/-! ### own lists are read as data for a while -/
def frzC : Option Cel → Option Cel
  | some (.own ds) => some (.val (.list ds))
  | x => x
def frzE (δ : DEnv) : DEnv := δ.map frzC
section
variable {K : PySem.W.Frag} {c : Cc} {δ : DEnv} {ds : List PyData} {d : PyData} {te : TE} {tt : TT} {b : Bool} {N : DEnv → Prop} {R : Rs → Prop} {u : TS} {i n : Nat}
/-- with the own lists known -/
theorem Sta.lent {σ : L2.St} {H : Hp} {ts : List V} {td : List PyData} (s : Sta K c δ σ ts td H) :
    ∃ G G1 : Hp, Run c.G c.H G H ∧ EnvOk K c.H G H σ δ ∧ RpAll K G ts td ∧ Ex G G1 ∧ Ex G1 H ∧ Sta K ⟨G1, c.H, c.W⟩ (frzE δ) σ [] [] H ∧ (∀ (i : Nat) (es : List PyData) p, δ[i]? = some (some (Cel.own es)) → σ[i]? = some (some (V.ref p)) → G1 p = H p) := by
  classical
  obtain ⟨G, r, e, t⟩ := s
  let G1 : Hp := fun a => (G a).or (if ∃ (i : Nat) (es : List PyData), δ[i]? = some (some (Cel.own es)) ∧ σ[i]? = some (some (V.ref a)) then H a else none)
  have e1 : Ex G G1 := fun a o h => by
    show (G a).or _ = some o
    rw [h, Option.some_or]
  have e2 : Ex G1 H := fun a o h => by
    have h' : (G a).or (if ∃ (i : Nat) (es : List PyData), δ[i]? = some (some (Cel.own es)) ∧ σ[i]? = some (some (V.ref a)) then H a else none) = some o := h
    cases q : G a with
    | some u =>
      rw [q, Option.some_or] at h'
      cases h'
      exact r.h a _ q
    | none =>
      rw [q, Option.none_or] at h'
      split at h'
      · exact h'
      · cases h'
  have own1 : ∀ (i : Nat) (es : List PyData) p, δ[i]? = some (some (Cel.own es)) → σ[i]? = some (some (V.ref p)) → G1 p = H p := fun i es p h1 h2 => by
    show (G p).or _ = H p
    obtain ⟨p', vs, sp, hp, gp, ep, hw⟩ := e.own i es h1
    rw [h2] at sp
    cases sp
    rw [gp, Option.none_or, if_pos ⟨i, es, h1, h2⟩]
  refine ⟨G, G1, r, e, t, e1, e2, ⟨G1, ⟨Ex.refl _, e2, r.k, fun a o h n => by
    have n' : G1 a = none := n
    rw [h] at n'
    cases n'⟩, ⟨?_, fun i d h => ?_, fun i es h => ?_, fun i j es fs h => ?_⟩, .nil⟩, own1⟩
  · unfold frzE
    rw [List.length_map]
    exact e.len
  · unfold frzE at h
    rw [List.getElem?_map] at h
    cases q : δ[i]? with
    | none =>
      rw [q] at h
      cases h
    | some x =>
      rw [q] at h
      have h' : frzC x = some (Cel.val d) := Option.some.inj h
      cases x with
      | none => cases h'
      | some y =>
        cases y with
        | val d' =>
          cases h'
          obtain ⟨v, a1, a2⟩ := e.val i d q
          exact ⟨v, a1, a2.ex e1⟩
        | own es =>
          cases h'
          obtain ⟨p, vs, sp, hp, gp, ep, hw⟩ := e.own i es q
          exact ⟨_, sp, .lst (by rw [own1 i es p q sp]; exact ep) (hw.ex e1)⟩
  · exfalso
    unfold frzE at h
    rw [List.getElem?_map] at h
    cases q : δ[i]? with
    | none =>
      rw [q] at h
      cases h
    | some x =>
      rw [q] at h
      have h' : frzC x = some (Cel.own es) := Option.some.inj h
      cases x with
      | none => cases h'
      | some y => cases y <;> cases h'
  · exfalso
    unfold frzE at h
    rw [List.getElem?_map] at h
    cases q : δ[i]? with
    | none =>
      rw [q] at h
      cases h
    | some x =>
      rw [q] at h
      have h' : frzC x = some (Cel.own es) := Option.some.inj h
      cases x with
      | none => cases h'
      | some y => cases y <;> cases h'
/-- .. and back -/
theorem lent_back {σ : L2.St} {G G1 H H' : Hp} {ts : List V} {td : List PyData} {δ2 : DEnv} {σ2 : L2.St} {vs2 : List V} {ds2 : List PyData} (r : Run c.G c.H G H) (e : EnvOk K c.H G H σ δ) (t : RpAll K G ts td) (e1 : Ex G G1) (own1 : ∀ (i : Nat) (es : List PyData) p, δ[i]? = some (some (Cel.own es)) → σ[i]? = some (some (V.ref p)) → G1 p = H p)
    (s : Sta K ⟨G1, c.H, c.W⟩ δ2 σ2 vs2 ds2 H') : Run c.G c.H G H' ∧ EnvOk K c.H G H' σ δ ∧ RpAll K G ts td := by
  obtain ⟨G', r', _, _⟩ := s
  have e3 : Ex G1 H' := r'.g.trans r'.h
  refine ⟨⟨r.g, e1.trans e3, r'.k, r.f⟩, ⟨e.len, e.val, fun i es h => ?_, e.dis⟩, t⟩
  obtain ⟨p, vs, sp, hp, gp, ep, hw⟩ := e.own i es h
  exact ⟨p, vs, sp, hp, gp, e3 p _ (by rw [own1 i es p h sp]; exact ep), hw⟩
theorem et_lend (k : ∀ c', EvT K c' tt (frzE δ) b) : EvT K c tt δ b := fun σ H ts td s Q q => by
  obtain ⟨G, G1, r, e, t, e1, e2, s1, own1⟩ := s.lent
  exact k _ σ H [] [] s1 Q fun H' s2 => q H' ⟨G, lent_back r e t e1 own1 s2⟩
/-- a flat thing's value is known anywhere -/
theorem rp_flat {G G' : Hp} {v : V} (h : Rp K G v d) (f : flatD d = true) : Rp K G' v d := by
  cases h with
  | non => exact .non
  | bl b => exact .bl b
  | int i => exact .int i
  | str x => exact .str x
  | lst _ _ => cases f
  | tup _ _ => cases f
  | emp _ => cases f
  | scr _ => cases f
  | exc _ _ => cases f
  | ty _ => cases f
  | cls _ => cases f
theorem ev_lend (f : flatD d = true) (k : ∀ c', EvD K c' te (frzE δ) d) : EvD K c te δ d := fun σ H ts td s Q q => by
  obtain ⟨G, G1, r, e, t, e1, e2, s1, own1⟩ := s.lent
  refine k _ σ H [] [] s1 Q fun v H' s2 => q v H' ?_
  have z := lent_back r e t e1 own1 s2
  obtain ⟨G', _, _, t2⟩ := s2
  cases t2 with
  | cons hv _ => exact ⟨G, z.1, z.2.1, .cons (rp_flat hv f) z.2.2⟩
/-- list(xs), xs an own list -/
theorem ev_listO (h : δ[i]? = some (some (Cel.own ds))) : EvN K c (tCB (rListP K) (tCons (tVar i) tNil)) δ ds := fun σ H ts td s Q q => by
  obtain ⟨G, r, e, t⟩ := s
  obtain ⟨p, vs, sp, hp, gp, ep, hw⟩ := e.own i ds h
  refine ⟨_, sp, p, vs, rfl, .inl (SqL.of ep), fun l hl => ?_⟩
  have r' := Run.newg (o := .lst vs) r.h hl
  exact q _ _ ⟨G, vs, r.trans r', e.run r', t, r.k.free hl, r.h.free hl, upd_same, hw, own_ne e hl⟩
/-- return (own list) if t else e, t true -/
theorem sd_retIfO (h : δ[i]? = some (some (Cel.own ds))) (ht : EvT K c tt δ true) (hr : R (.new ds)) : SD K c (tRet (tIf tt (tVar i) te)) δ N R := fun σ H D s _ q2 _ => ht σ H [] [] s _ fun H1 s1 => by
  show tVar i σ H1 _
  obtain ⟨G, rn, e, r⟩ := s1
  obtain ⟨p, vs, sp, hp, gp, ep, hw⟩ := e.own i ds h
  exact ⟨_, sp, q2 _ _ H1 hr ⟨G, p, vs, rfl, rn, hp, gp, ep, hw⟩⟩
end
end Pd

namespace Pd
open PySem PySem.Spec PyProof.Rows L2
/-! ### an own class over an own class: B.__init__(self, ..), self.f = v -/
section
variable {X : Cx} {e : Expr} {es : List Expr} {ta : TA} {x : Str} {B : Addr} {p1 p2 pos : Pos}
theorem pe_cinit {pl : Sem Bool} (hg : Gl X x) (hm : X.mg x = some (.ref B)) (rd : PySem.W.readsIn X.K B (.type "type") = true) (ga : PySem.W.specialIn X.K (.ref B) "__getattribute__" = some (some (.builtin "type.__getattribute__")))
    (vI : PySem.W.findCls X.K (.ref B) (.type "type") "__init__" = some (.val (.builtin "ValueError.__init__"))) (ha : PA X (e :: es) ta) (hdb : (x == ("__debug__" : Str)) = false := by decide)
    (hc : eval (.Call (.Attribute (.Name x p1) "__init__" p2) (e :: es) [] pos) X.env = (do
      let ov ← eval (.Name x p1) X.env
      standAt p2.atName
      let (f, first) ← holding [ov] (getMethod ov "__init__" pl)
      callWith pos f first (backTo pos (starEach (e :: es) X.env)) (backToKw pos (keywordEach [] X.env))) := by rfl)
    (he : starEach (e :: es) X.env = (false, eval e X.env) :: starEach es X.env := by rfl) (hpl : (backTo pos (starEach es X.env)).any (·.1) = false := by rfl) :
    PE X (.Call (.Attribute (.Name x p1) "__init__" p2) (e :: es) [] pos) (tVeI X.K ta) := by
  refine ⟨fun pins s σ H Q I h => PySem.W.methodCall_KW (ld_glob I hg hm ?_ hdb) hc⟩
  refine PySem.W.method_cls I.kIn ga (PySem.W.cls_value I.kIn rd vI (by decide +kernel) ?_)
  show wpAny _ _ (callWith pos (Value.builtin "ValueError.__init__") [] (backTo pos (starEach (e :: es) X.env)) []) _ _ _
  refine PyProof.Rows.callWith_method1 (thn (ha.run pos pins _ σ H _ (I.tok _) h) fun us s1 got => ?_) he hpl
  obtain ⟨vs, H1, I1, r1, a, C, ws, rfl, hl, T, ea, q⟩ := got
  cases r1 with
  | @cons _ u0 _ ur ra rr =>
    have e0 : u0 = Value.ref a := ra
    subst e0
    exact oinit_ok T I1 ea (by rw [← Paired.length rr, sizeLine_eq]; omega) fun s' J => ⟨.non, H1, J, rfl, q⟩
end
/-- the __init__ of such a class: at's field is what is handed -/
def spInit (K : PySem.W.Frag) (C : Addr) : Sp := fun vs H Q _ => ∃ (a : Addr) (v : V), vs = [.ref a, v] ∧ H a = some (exo a C none) ∧ ∀ dx, H dx = none → dx ≠ a → Q .non (upd (upd H dx (exd dx [("at", v)])) a (exo a C (some dx)))
theorem init_pure {K : PySem.W.Frag} {C : Addr} {m : Str} (T : OexC K C) (no : PySem.W.findIn K (.ref C) "at" = some none) {vs : List V} {H : Hp} {Q : VK} {E : XK} (h : spInit K C vs H Q E) :
    tSeq (tDrop (tVeI K (tCons (tVar 0) (tCons (tC (.str m)) tNil)))) (tOst K "at" (tVar 0) (tVar 1)) { nx := fun _ H' => Q .non H', rt := Q } (L2.start ["self", "at"] vs) H := by
  obtain ⟨a, v, rfl, ha, q⟩ := h
  refine ⟨_, rfl, a, C, [.str m], rfl, by show 1 ≤ 1000; decide, T, ha, ?_⟩
  exact ⟨_, rfl, _, rfl, a, C, rfl, T, no, .inl ⟨ha, fun dx h1 h2 => q dx h1 h2⟩⟩
section
variable {K : PySem.W.Frag} {c : Cc} {δ : DEnv} {x d f : PyData} {te : TE} {tr : TA} {N : DEnv → Prop} {R : Rs → Prop} {C D : Addr} {W : WX}
/-- what may stand in the field -/
def fldD : PyData → Bool
  | .none => true
  | .int _ => true
  | _ => false
theorem exf_of {H : Hp} {dx : Addr} {v : V} (h : Rp K H v x) (f : fldD x = true) {H' : Hp} (e : H' dx = some (.xd [("at", v)])) : ExF H' (some dx) (.tuple [x]) := by
  cases h with
  | non => exact .atN e
  | int i => exact .atI e
  | bl _ => cases f
  | str _ => cases f
  | lst _ _ => cases f
  | tup _ _ => cases f
  | emp _ => cases f
  | scr _ => cases f
  | exc _ _ => cases f
  | ty _ => cases f
  | cls _ => cases f
/-- raise C(x) -/
theorem sd_raiseAt (hw : c.W = W) (h : EvA K c tr δ [x]) (hx : fldD x = true) (hr : R (.exc C (.tuple [x]) δ)) : SD K c (fun _ σ H => tMkO C (spInit K C) [] tr σ H fun cls d H' => W cls d σ H') δ N R := fun σ H D s _ _ q3 => by
  refine h σ H [] [] s _ fun vs H1 hl s1 => ?_
  obtain ⟨G, rn, e, r1, _⟩ := sta_split hl s1
  obtain ⟨v, rfl, hv⟩ := r1.one
  refine ⟨by show 1 ≤ 1000; decide, fun a ha => ⟨a, v, rfl, upd_same, fun dx h1 h2 => ⟨rfl, dx, [("at", v)], upd_same, ?_, ?_, ?_⟩⟩⟩
  · rw [upd_ne h2, upd_same]
  · rw [upd_ne h2] at h1
    exact h1
  · rw [upd_ne h2] at h1
    have eH : upd (del (upd (upd (upd H1 a (exo a C none)) dx (exd dx [("at", v)])) a (exo a C (some dx))) a) dx (.xd [("at", v)]) = upd H1 dx (.xd [("at", v)]) := by
      funext b
      by_cases hb : b = dx
      · rw [hb, upd_same, upd_same]
      · rw [upd_ne hb, upd_ne hb]
        by_cases hba : b = a
        · rw [hba, del_same, ha]
        · rw [del_ne hba, upd_ne hba, upd_ne hb, upd_ne hba]
    rw [eH]
    have r' := Run.new (o := .xd [("at", v)]) rn.h h1
    have z := q3 C (.tuple [x]) δ (some dx) σ _ hr ⟨_, rn.trans r', e.run r', exf_of hv hx upd_same⟩
    rw [hw] at z
    exact z
/-! ### isinstance, with a field -/
def rIsY (K : PySem.W.Frag) : List V → Hp → VK → Prop := fun xs H Q => ∃ (a C : Addr) (d : Option Addr) (tv : V) (cv : Value) (b : Bool), xs = [.ref a, tv] ∧ H a = some (exT (.ref C) d a) ∧ (d = none ∨ ∃ dd fs, d = some dd ∧ H dd = some (.xd fs)) ∧ ExcC K C ∧ (∀ u, RelV tv u → u = cv) ∧ PySem.W.kitOne K (.ref C) cv = some b ∧ Q (.bl b) H
theorem exc_inst {X : Cx} {pins : List (Addr × Obj)} {σ : L2.St} {H : Hp} {s : Shared} {a : Addr} {d : Option Addr} (I : Inv X pins σ H s) (ha : H a = some (exT (.ref C) d a)) (hd : d = none ∨ ∃ dd fs, d = some dd ∧ H dd = some (.xd fs)) : ∃ ox od, PySem.W.InstAt s.heap a ox C od := by
  obtain ⟨oe, vs, hget, hz, hdt⟩ := exT_at I.hok ha
  obtain ⟨oc, odc, oda, osl⟩ := oe
  obtain ⟨h1, h2⟩ := hz
  dsimp only at h1 h2 hdt
  subst h1 h2 hdt
  rcases hd with rfl | ⟨dd, fs, rfl, hdd⟩
  · exact ⟨_, none, hget, rfl, rfl, trivial⟩
  · have hx : ObjOk X.prog X.w H s.heap dd (.xd fs) := I.hok dd _ hdd
    obtain ⟨mA, hns, _⟩ := hx
    obtain ⟨od, ho, _⟩ := lookIn_ns hns
    exact ⟨_, some od, hget, rfl, rfl, ho⟩
theorem call_isY {X : Cx} : CallR X (.builtin "isinstance") (rIsY X.K) := by
  intro pins s σ H xs us Q I r h
  obtain ⟨a, C, d, tv, cv1, b, rfl, ha, hd, T, hcv, e, q⟩ := h
  cases r with
  | cons rx rr =>
    cases rr with
    | cons rt rr =>
      cases rr
      cases rx
      have ec := hcv _ rt
      subst ec
      obtain ⟨ox, od, J⟩ := exc_inst I ha hd
      have hcl : (PySem.W.clsIn X.K C).isSome = true := by
        obtain ⟨cd, hc, _⟩ := PySem.W.any_some T.hd
        rw [hc]
        rfl
      exact PySem.W.kia_one (PySem.W.kitx_exc hcl T.hg T.hk T.hs T.ha T.hn T.ht T.hm) I.kIn J e (fun z => nomatch z) fun tk => ⟨.bl b, H, I.kept (t' := tk) fun _ _ z => z, rfl, q⟩
theorem call_isYK {X : Cx} (K : PySem.W.Frag) (h : X.K = K) : CallR X (.builtin "isinstance") (rIsY K) := by subst h; exact call_isY
theorem exf_d {G H : Hp} {d : Option Addr} (ex : Ex G H) (xf : ExF G d f) : d = none ∨ ∃ dd fs, d = some dd ∧ H dd = some (.xd fs) := by
  cases xf with
  | non => exact .inl rfl
  | atI h => exact .inr ⟨_, _, rfl, ex _ _ h⟩
  | atN h => exact .inr ⟨_, _, rfl, ex _ _ h⟩
theorem cd_isYc {b : Bool} (T : ExcC K C) (e : PySem.W.kitOne K (.ref C) (.ref D) = some b) : CallD K (rIsY K) [dExc C f, dCls D] (.bool b) := fun G H vs ex r Q q => by
  obtain ⟨v, u, rfl, hv, hu⟩ := r.two
  obtain ⟨a, d, rfl, ha, xf⟩ := hv.exc_inv
  cases hu.cls_inv
  exact ⟨a, C, d, _, .ref D, b, rfl, ex _ _ ha, exf_d ex xf, T, fun u h => h, e, q _ G H (Run.refl ex) (.bl _)⟩
theorem cd_isYt {b : Bool} {n : String} (T : ExcC K C) (e : PySem.W.kitOne K (.ref C) (.type n) = some b) : CallD K (rIsY K) [dExc C f, dTy n] (.bool b) := fun G H vs ex r Q q => by
  obtain ⟨v, u, rfl, hv, hu⟩ := r.two
  obtain ⟨a, d, rfl, ha, xf⟩ := hv.exc_inv
  cases hu.ty_inv
  exact ⟨a, C, d, _, .type n, b, rfl, ex _ _ ha, exf_d ex xf, T, fun u h => h, e, q _ G H (Run.refl ex) (.bl _)⟩
/-! ### e.at, e an error that is held -/
def tAt (K : PySem.W.Frag) (n : Str) (te : TE) : TE := fun σ H Q => te σ H fun x H1 => ∃ (a C dd : Addr) (fs : List (Str × V)) (v : V), x = .ref a ∧ H1 a = some (exT (.ref C) (some dd) a) ∧ XfC K C ∧ PySem.W.findIn K (.ref C) n = some none ∧ H1 dd = some (.xd fs) ∧ fs.lookup n = some v ∧ Q v H1
theorem pe_at {X : Cx} {e : Expr} {n : Str} {pos : Pos} (he : PE X e te) (hb : attributeBase e n X.env (eval e X.env) = eval e X.env := by rfl) : PE X (.Attribute e n pos) (tAt X.K n te) := by
  refine ⟨fun pins s σ H Q I h => attr_of hb (thn (he.run pins s σ H _ I h) fun u s1 got => ?_)⟩
  obtain ⟨x, H1, I1, rx, a, C, dd, fs, v, rfl, ha, T, hno, hdd, l, q⟩ := got
  have eu : u = Value.ref a := rx
  subst eu
  obtain ⟨oe, vs, hget, hz, hdt⟩ := exT_at I1.hok ha
  have hx : ObjOk X.prog X.w H1 s1.heap dd (.xd fs) := I1.hok dd _ hdd
  obtain ⟨mA, hns, hr⟩ := hx
  obtain ⟨od, ho, hl⟩ := lookIn_ns hns
  obtain ⟨u, hu, ru⟩ := RelO.some_of (v := v) (o := mA n) (by rw [← l]; exact hr n)
  have J : PySem.W.InstAt s1.heap a oe C (some od) := ⟨hget, hz.1, by unfold PySem.W.notCls; rw [hdt] <;> rfl, by rw [hz.2]; exact ho⟩
  exact HandSPX.exc_get I1.kIn J T.ga T.gg T.exC (PySem.W.findObj_own T.hdC hno rfl (by rw [hl, hu])) (handed_of ru) ⟨v, H1, I1.tok _, ru, q⟩
theorem pe_atK {X : Cx} {e : Expr} {n : Str} {pos : Pos} (K : PySem.W.Frag) (h : X.K = K) (he : PE X e te) (hb : attributeBase e n X.env (eval e X.env) = eval e X.env := by rfl) : PE X (.Attribute e n pos) (tAt K n te) := by subst h; exact pe_at he hb
theorem ev_at (T : XfC K C) (no : PySem.W.findIn K (.ref C) "at" = some none) (h : EvD K c te δ (dExc C (.tuple [x]))) : EvD K c (tAt K "at" te) δ x := fun σ H ts td s Q q => h σ H ts td s _ fun v H1 s1 => by
  obtain ⟨G, rn, e, t⟩ := s1
  cases t with
  | cons hv t =>
    obtain ⟨a, d, rfl, ha, xf⟩ := hv.exc_inv
    cases xf with
    | @atI dd i hd => exact ⟨a, C, dd, _, .int i, rfl, rn.h _ _ ha, T, no, rn.h _ _ hd, rfl, q _ H1 ⟨G, rn, e, .cons (.int i) t⟩⟩
    | @atN dd hd => exact ⟨a, C, dd, _, .non, rfl, rn.h _ _ ha, T, no, rn.h _ _ hd, rfl, q _ H1 ⟨G, rn, e, .cons .non t⟩⟩
end
end Pd

namespace Pd
open PySem PySem.Spec PyProof.Rows L2
theorem pi_enumLK {X : Cx} {e : Expr} {ta : TA} {p pos tpos : Pos} {elts : List Expr} {kk : Nat} (K : PySem.W.Frag) (h : X.K = K) (hg : Gl X "enumerate") (hm : X.mg "enumerate" = none) (ha : PA X [e] ta) (hs : starEach [e] X.env = [(false, eval e X.env)] := by rfl) :
    PI X (.Tuple elts kk tpos) (.Call (.Name "enumerate" p) [e] [] pos) (iEnum K ta) := by subst h; exact pi_enum hg hm ha hs
/-- a tuple of an own new list and a thing -/
def tupF (K : PySem.W.Frag) (zs : List PyData) (y : PyData) : Hp → Hp → V → Hp → Prop := fun H0 G v H => ∃ tp p us w, v = .ref tp ∧ H tp = some (.tup [.ref p, w]) ∧ H0 p = none ∧ G p = none ∧ H p = some (.lst us) ∧ RpAll K G us zs ∧ Rp K G w y
section
variable {K : PySem.W.Frag} {c : Cc} {δ : DEnv} {ds zs : List PyData} {d x y : PyData} {te : TE} {tr : TA} {N : DEnv → Prop} {R : Rs → Prop} {t u : TS} {i j n m : Nat} {k : Int}
theorem iv_enumL (h : EvA K c tr δ [.list ds]) : IvD K c (iEnum K tr) δ (dEnum ds) := fun σ H ts td s R q => h σ H ts td s _ fun vs H1 hl s1 => by
  obtain ⟨G, rn, e, r1, r2⟩ := sta_split hl s1
  obtain ⟨v, rfl, hv⟩ := r1.one
  obtain ⟨a, xs, rfl, hp, r3⟩ := hv.lst_inv
  refine ⟨a, xs, rfl, SqL.of (rn.h _ _ hp), q _ G H1 rn e r2 ⟨fun i H hi ex => ?_, fun H ex => ⟨xs, SqL.of (ex _ _ hp), by rw [dEnum_len, r3.length]; exact Nat.le_refl _⟩, fun i H v H' d hd ex y => ?_⟩⟩
  · rw [dEnum_len] at hi
    obtain ⟨w, hw, _⟩ := r3.get (List.getElem?_eq_getElem hi)
    exact ⟨xs, w, SqL.of (ex _ _ hp), hw⟩
  · obtain ⟨T, x, rfl, nT, rfl, hx⟩ := y
    obtain ⟨z, hz, rfl⟩ := dEnum_get hd
    obtain ⟨w, hw, rw'⟩ := r3.get hz
    have z2 := hx xs (SqL.of (ex _ _ hp))
    rw [hw] at z2
    cases z2
    have r' := Run.new (o := .tup [.int (i : Nat), x]) ex nT
    exact ⟨_, r', .tup upd_same (.cons (.int _) (.cons (rw'.ex r'.g) .nil))⟩
/-- an item of an own list -/
theorem ev_ixO (h : δ[i]? = some (some (Cel.own ds))) (he : EvD K c te δ (.int k)) (ha : atI ds k = some d) : EvD K c (tOp (rIx K) (tVar i) te) δ d := fun σ H ts td s Q q => by
  obtain ⟨p, vs0, sp, _, _⟩ := sta_own s h
  refine ⟨_, sp, he σ H ts td s _ fun v H1 s1 => ?_⟩
  obtain ⟨G, rn, e, r⟩ := s1
  obtain ⟨p', vs, sp', hp, gp, ep, hw⟩ := e.own i ds h
  rw [sp] at sp'
  cases sp'
  cases r with
  | cons hv r =>
    obtain ⟨w, hw1, hw2⟩ := rp_at hw ha
    exact .inl ⟨p, vs, k, w, rfl, hv.int_inv, SqL.of ep, hw1, q w H1 ⟨G, rn, e, .cons hw2 r⟩⟩
/-- return (own list, e) -/
theorem sd_retTup (h : δ[i]? = some (some (Cel.own zs))) (he : EvD K c te δ y) (hr : R (.gen (tupF K zs y))) : SD K c (tRet (tTup (tCons (tVar i) (tCons te tNil)))) δ N R := fun σ H D s _ q2 _ => by
  obtain ⟨p, vs0, sp, _, _⟩ := sta_own s h
  refine ⟨_, sp, he σ H [] [] s _ fun w H1 s1 => ⟨by show 2 ≤ sizeLine; exact sz_le (by decide), fun tp hp => ?_⟩⟩
  obtain ⟨G, rn, e, r⟩ := s1
  obtain ⟨p', vs, sp', hp0, gp, ep, hw⟩ := e.own i zs h
  rw [sp] at sp'
  cases sp'
  cases r with
  | cons hy _ =>
    have r' := Run.newg (o := .tup [.ref p, w]) rn.h hp
    exact q2 _ _ _ hr ⟨G, rn.trans r', tp, p, vs, w, rfl, upd_same, hp0, gp, r'.k _ _ ep, hw, hy⟩
/-- a call that gives back such a tuple, its parts stored: the first is an own list -/
theorem sd_asgTup {sp : Sp} {E : XK} (h : EvA K c tr δ ds) (hs : ∀ vs H Q, (∃ G, Ex G H ∧ RpAll K G vs ds ∧ ∀ w G' H', Run G H G' H' → tupF K zs y H G' w H' → Q w H') → sp vs H Q E)
    (k : SD K c u ((δ.set n (some (Cel.own zs))).set m (some (Cel.val y))) N R) : SD K c (tSeq (tAsg (tCall sp [] E tr) (gTup K 2 (gCons (gName n) (gCons (gName m) gNil)))) u) δ N R := fun σ H D s q1 q2 q3 =>
  h σ H [] [] s _ fun vs H1 hv s1 => by
    obtain ⟨G, rn, e, r1, r2⟩ := sta_split hv s1
    show sp (vs ++ []) H1 _ E
    rw [List.append_nil]
    refine hs vs H1 _ ⟨G, rn.h, r1, fun w G' H' r' hf => ?_⟩
    obtain ⟨tp, p, us, x, rfl, ht, hp, gp, ep, hw, hy⟩ := hf
    refine ⟨tp, _, rfl, SqT.of ht, rfl, _, _, rfl, _, _, rfl, rfl, ?_⟩
    have s2 : StaN K c δ σ [x] [y] p zs H' := ⟨G', us, rn.trans r', e.run r', .cons hy .nil, rn.k.free hp, gp, ep, hw, own_ne e hp⟩
    have s4 : Sta K c (δ.set n (some (Cel.own zs))) (σ.set n (some (.ref p))) [x] [y] H' := s2.set
    exact k _ _ D s4.set q1 q2 q3
end
end Pd

namespace Pd
open PySem PySem.Spec PyProof.Rows L2
/-! ### a new list of new lists -/
inductive RowsAt (K : PySem.W.Frag) (H0 G H : Hp) : List V → List (List PyData) → Prop
  | nil : RowsAt K H0 G H [] []
  | cons {q : Addr} {us vs : List V} {ds : List PyData} {dss : List (List PyData)} : H0 q = none → G q = none → H q = some (.lst us) → RpAll K G us ds → RowsAt K H0 G H vs dss → RowsAt K H0 G H (.ref q :: vs) (ds :: dss)
def TreeAt (K : PySem.W.Frag) (H0 G H : Hp) (p : Addr) (vs : List V) (dss : List (List PyData)) : Prop := H0 p = none ∧ G p = none ∧ H p = some (.lst vs) ∧ V.ref p ∉ vs ∧ RowsAt K H0 G H vs dss
/-- a promise's outcome: such a list -/
def treeF (K : PySem.W.Frag) (dss : List (List PyData)) : Hp → Hp → V → Hp → Prop := fun H0 G v H => ∃ p vs, v = .ref p ∧ TreeAt K H0 G H p vs dss
abbrev dTree (dss : List (List PyData)) : PyData := .list (dss.map PyData.list)
def noOwnE (δ : DEnv) : Prop := ∀ (i : Nat) (es : List PyData), δ[i]? ≠ some (some (Cel.own es))
section
variable {K : PySem.W.Frag} {H0 H1 G H G' H' : Hp} {vs : List V} {ds : List PyData} {dss : List (List PyData)} {p : Addr}
theorem RowsAt.length (r : RowsAt K H0 G H vs dss) : vs.length = dss.length := by
  induction r with
  | nil => rfl
  | cons _ _ _ _ _ ih => rw [List.length_cons, List.length_cons, ih]
theorem RowsAt.run (r : RowsAt K H0 G H vs dss) (rn : Run G H G' H') : RowsAt K H0 G' H' vs dss := by
  induction r with
  | nil => exact .nil
  | cons h1 h2 h3 h4 _ ih =>
    obtain ⟨k1, k2⟩ := rn.own h2 h3
    exact .cons h1 k1 k2 (h4.ex rn.g) ih
theorem RowsAt.keep (r : RowsAt K H0 G H vs dss) (k : ∀ q, V.ref q ∈ vs → H' q = H q) : RowsAt K H0 G H' vs dss := by
  induction r with
  | nil => exact .nil
  | cons h1 h2 h3 h4 _ ih => exact .cons h1 h2 (by rw [k _ List.mem_cons_self]; exact h3) h4 (ih fun q hq => k q (List.mem_cons_of_mem _ hq))
theorem RowsAt.base (r : RowsAt K H0 G H vs dss) (k : ∀ q, H0 q = none → H1 q = none) : RowsAt K H1 G H vs dss := by
  induction r with
  | nil => exact .nil
  | cons h1 h2 h3 h4 _ ih => exact .cons (k _ h1) h2 h3 h4 ih
theorem RowsAt.mem (r : RowsAt K H0 G H vs dss) {v : V} (h : v ∈ vs) : ∃ q, v = .ref q ∧ H0 q = none ∧ G q = none ∧ ∃ us, H q = some (.lst us) := by
  induction r with
  | nil => cases h
  | cons h1 h2 h3 _ _ ih =>
    rcases List.mem_cons.mp h with rfl | h
    · exact ⟨_, rfl, h1, h2, _, h3⟩
    · exact ih h
theorem RowsAt.get {i : Nat} (r : RowsAt K H0 G H vs dss) (h : dss[i]? = some ds) : ∃ q us, vs[i]? = some (.ref q) ∧ H q = some (.lst us) ∧ RpAll K G us ds := by
  induction r generalizing i with
  | nil => simp at h
  | cons h1 h2 h3 h4 _ ih =>
    cases i with
    | zero =>
      have e := Option.some.inj h
      subst e
      exact ⟨_, _, rfl, h3, h4⟩
    | succ i => exact ih h
theorem RowsAt.rp (r : RowsAt K H0 G H vs dss) (e : Ex G G') (k : ∀ q, V.ref q ∈ vs → G' q = H q) : RpAll K G' vs (dss.map PyData.list) := by
  induction r with
  | nil => exact .nil
  | cons h1 h2 h3 h4 _ ih => exact .cons (.lst (by rw [k _ List.mem_cons_self]; exact h3) (h4.ex e)) (ih fun q hq => k q (List.mem_cons_of_mem _ hq))
theorem RowsAt.append (r : RowsAt K H0 G H vs dss) {q : Addr} {us : List V} (h1 : H0 q = none) (h2 : G q = none) (h3 : H q = some (.lst us)) (h4 : RpAll K G us ds) : RowsAt K H0 G H (vs ++ [.ref q]) (dss ++ [ds]) := by
  induction r with
  | nil => exact .cons h1 h2 h3 h4 .nil
  | cons g1 g2 g3 g4 _ ih => exact .cons g1 g2 g3 g4 ih
/-- .. as data, known -/
theorem TreeAt.know (t : TreeAt K H0 G H p vs dss) (e : Ex G H) : ∃ G1, Ex G G1 ∧ Ex G1 H ∧ Rp K G1 (.ref p) (dTree dss) ∧ G1 p = H p ∧ (∀ q, V.ref q ∈ vs → G1 q = H q) ∧ ∀ a o, G1 a = some o → G a = none → H0 a = none := by
  classical
  obtain ⟨t1, t2, t3, t4, t5⟩ := t
  let G1 : Hp := fun a => (G a).or (if a = p ∨ V.ref a ∈ vs then H a else none)
  have e1 : Ex G G1 := fun a o h => by
    show (G a).or _ = some o
    rw [h, Option.some_or]
  have g0 : ∀ a, G a = none → (a = p ∨ V.ref a ∈ vs) → G1 a = H a := fun a h1 h2 => by
    show (G a).or _ = H a
    rw [h1, Option.none_or, if_pos h2]
  have kp : G1 p = H p := g0 p t2 (.inl rfl)
  have kq : ∀ q, V.ref q ∈ vs → G1 q = H q := fun q hq => by
    obtain ⟨q', e', _, h2, _⟩ := t5.mem hq
    cases e'
    exact g0 q h2 (.inr hq)
  refine ⟨G1, e1, fun a o h => ?_, .lst (by rw [kp]; exact t3) (t5.rp e1 kq), kp, kq, fun a o h n => ?_⟩
  · have h' : (G a).or (if a = p ∨ V.ref a ∈ vs then H a else none) = some o := h
    cases q : G a with
    | some u =>
      rw [q, Option.some_or] at h'
      cases h'
      exact e a _ q
    | none =>
      rw [q, Option.none_or] at h'
      split at h'
      · exact h'
      · cases h'
  · have h' : (G a).or (if a = p ∨ V.ref a ∈ vs then H a else none) = some o := h
    rw [n, Option.none_or] at h'
    split at h'
    · rename_i hc
      rcases hc with rfl | hc
      · exact t1
      · obtain ⟨q', e', h1, _, _⟩ := t5.mem hc
        cases e'
        exact h1
    · cases h'
/-- a promise of such a list is kept where one of data is wanted -/
theorem gen_of_pr {us : List V} {Q : VK} (h : Pr K us H Q ds (dTree dss)) : ∃ G, Ex G H ∧ RpAll K G us ds ∧ ∀ w G' H', Run G H G' H' → treeF K dss H G' w H' → Q w H' := by
  obtain ⟨G, e, r, q⟩ := h
  refine ⟨G, e, r, fun w G' H' rn ht => ?_⟩
  obtain ⟨p, vs, rfl, t⟩ := ht
  obtain ⟨G1, e1, e2, rp, _, _, k⟩ := t.know rn.h
  exact q _ G1 H' ⟨rn.g.trans e1, e2, rn.k, fun a o h n t => by
    cases z : G' a with
    | some u =>
      have y := e1 a u z
      rw [h] at y
      cases y
      exact rn.f a _ z n t
    | none => exact k a o h z⟩ rp
end
/-! ### states with such a list at slot i -/
def StaT (K : PySem.W.Frag) (c : Cc) (δ : DEnv) (σ : L2.St) (H : Hp) (i : Nat) (dss : List (List PyData)) : Prop :=
  ∃ G p vs, Run c.G c.H G H ∧ EnvOk K c.H G H σ δ ∧ noOwnE δ ∧ σ[i]? = some (some (V.ref p)) ∧ TreeAt K c.H G H p vs dss
def SDT (K : PySem.W.Frag) (c : Cc) (t : TS) (δ : DEnv) (i : Nat) (dss : List (List PyData)) (N : DEnv → Prop) (R : Rs → Prop) : Prop := ∀ (σ : L2.St) (H : Hp) (D : Ends), StaT K c δ σ H i dss →
  (∀ δ' σ' H', N δ' → Sta K c δ' σ' [] [] H' → D.nx σ' H') → (∀ r v H', R r → StaR K c r v H' → D.rt v H') →
  (∀ C f δ' d σ' H', R (.exc C f δ') → StaX K c δ' σ' H' d f → c.W (.ref C) d σ' H') → t D σ H
/-- what makes such a list -/
def EvTr (K : PySem.W.Frag) (c : Cc) (te : TE) (δ : DEnv) (dss : List (List PyData)) : Prop := ∀ (σ : L2.St) (H : Hp) (ts : List V) (td : List PyData), Sta K c δ σ ts td H → ∀ Q : VK, (∀ p vs G H', Run c.G c.H G H' → EnvOk K c.H G H' σ δ → TreeAt K c.H G H' p vs dss → Q (.ref p) H') → te σ H Q
section
variable {K : PySem.W.Frag} {c : Cc} {δ : DEnv} {ds es : List PyData} {dss : List (List PyData)} {d : PyData} {te : TE} {tr : TA} {tt : TT} {N : DEnv → Prop} {R : Rs → Prop} {t u w : TS} {i j n m : Nat} {b : Bool}
theorem noOwn_base {H0 H1 G H : Hp} {σ : L2.St} (e : EnvOk K H0 G H σ δ) (no : noOwnE δ) : EnvOk K H1 G H σ δ := ⟨e.len, e.val, fun i es h => absurd h (no i es), fun i j es fs h => absurd h (no i es)⟩
theorem noOwn_at {H0 G H H' : Hp} {σ : L2.St} (e : EnvOk K H0 G H σ δ) (no : noOwnE δ) : EnvOk K H0 G H' σ δ := ⟨e.len, e.val, fun i es h => absurd h (no i es), fun i j es fs h => absurd h (no i es)⟩
theorem noOwn_set (no : noOwnE δ) (x : Option Cel) (hx : ∀ es, x ≠ some (Cel.own es)) : noOwnE (δ.set j x) := fun i es h => by
  by_cases hj : i = j
  · subst hj
    by_cases hl : i < δ.length
    · rw [List.getElem?_set_self hl] at h
      exact hx es (Option.some.inj h)
    · rw [List.getElem?_eq_none (by rw [List.length_set]; omega)] at h
      cases h
  · rw [List.getElem?_set_ne (Ne.symm hj)] at h
    exact no i es h
theorem EnvOk.put {H0 G H : Hp} {σ : L2.St} (e : EnvOk K H0 G H σ δ) (x : Option V) : EnvOk K H0 G H (σ.set i x) (δ.set i none) := by
  have e1 := e.unset i
  have old : ∀ {j : Nat} {q : Cel}, (δ.set i none)[j]? = some (some q) → j ≠ i := fun {j q} h z => by
    subst z
    by_cases hl : j < δ.length
    · rw [List.getElem?_set_self hl] at h
      cases h
    · rw [List.getElem?_eq_none (by rw [List.length_set]; omega)] at h
      cases h
  have sm : ∀ {j : Nat}, j ≠ i → (σ.set i x)[j]? = (σ.set i none)[j]? := fun {j} h => by rw [List.getElem?_set_ne (Ne.symm h), List.getElem?_set_ne (Ne.symm h)]
  refine ⟨by rw [List.length_set, List.length_set, e.len], fun j d h => ?_, fun j es h => ?_, fun j k es fs h1 h2 h3 => ?_⟩
  · rw [sm (old h)]
    exact e1.val j d h
  · rw [sm (old h)]
    exact e1.own j es h
  · rw [sm (old h1), sm (old h2)] at h3
    exact e1.dis j k es fs h1 h2 h3
theorem set_same {σ : L2.St} {v : V} (h : σ[i]? = some (some v)) : σ.set i (some v) = σ := by
  apply List.ext_getElem?
  intro j
  by_cases hj : j = i
  · subst hj
    rw [List.getElem?_set_self (List.getElem?_eq_some_iff.mp h).1, h]
  · rw [List.getElem?_set_ne (Ne.symm hj)]
/-- the list known for a while -/
theorem StaT.lent {σ : L2.St} {H : Hp} (s : StaT K c δ σ H i dss) : ∃ G G1 p vs, Run c.G c.H G H ∧ EnvOk K c.H G H σ δ ∧ noOwnE δ ∧ σ[i]? = some (some (V.ref p)) ∧ TreeAt K c.H G H p vs dss ∧ Ex G G1 ∧ G1 p = H p ∧ (∀ q, V.ref q ∈ vs → G1 q = H q) ∧ Run G1 c.H G1 H ∧
    EnvOk K c.H G1 H σ (δ.set i (cv (dTree dss))) := by
  obtain ⟨G, p, vs, r, e, no, sp, t⟩ := s
  obtain ⟨G1, e1, e2, rp, kp, kq, _⟩ := t.know r.h
  refine ⟨G, G1, p, vs, r, e, no, sp, t, e1, kp, kq, ⟨Ex.refl _, e2, r.k, fun a o h n => by rw [h] at n; cases n⟩, ?_⟩
  have e3 : EnvOk K c.H G1 H σ δ := ⟨e.len, fun j d h => by
    obtain ⟨v, a, b⟩ := e.val j d h
    exact ⟨v, a, b.ex e1⟩, fun j es h => absurd h (no j es), fun j k es fs h => absurd h (no j es)⟩
  have e4 := e3.set (i := i) rp
  rwa [set_same sp] at e4
theorem tree_back {σ : L2.St} {G G1 H H' : Hp} {p : Addr} {vs : List V} (r : Run c.G c.H G H) (e : EnvOk K c.H G H σ δ) (no : noOwnE δ) (sp : σ[i]? = some (some (V.ref p))) (t : TreeAt K c.H G H p vs dss) (e1 : Ex G G1) (kp : G1 p = H p) (kq : ∀ q, V.ref q ∈ vs → G1 q = H q) (h3 : Ex G1 H') (k3 : Ex c.H H') :
    Run c.G c.H G H' ∧ EnvOk K c.H G H' σ δ ∧ TreeAt K c.H G H' p vs dss := by
  obtain ⟨t1, t2, t3, t4, t5⟩ := t
  refine ⟨⟨r.g, e1.trans h3, k3, r.f⟩, noOwn_at e no, t1, t2, h3 p _ (by rw [kp]; exact t3), t4, t5.keep fun q hq => ?_⟩
  obtain ⟨q', e', _, _, us, hu⟩ := t5.mem hq
  cases e'
  rw [hu]
  exact h3 q _ (by rw [kq q hq]; exact hu)
theorem sdt_ifS (h : ∀ c', EvT K c' tt (δ.set i (cv (dTree dss))) b) (h1 : b = true → SDT K c (tSeq t w) δ i dss N R) (h2 : b = false → SDT K c (tSeq u w) δ i dss N R) : SDT K c (tSeq (tIfS tt t u) w) δ i dss N R := fun σ H D s q1 q2 q3 => by
  obtain ⟨G, G1, p, vs, r, e, no, sp, tr, e1, kp, kq, rr, e4⟩ := s.lent
  refine h ⟨G1, c.H, c.W⟩ σ H [] [] ⟨G1, rr, e4, .nil⟩ _ fun H1 s1 => ?_
  obtain ⟨G2, r2, _, _⟩ := s1
  obtain ⟨a1, a2, a3⟩ := tree_back r e no sp tr e1 kp kq (r2.g.trans r2.h) r2.k
  have s2 : StaT K c δ σ H1 i dss := ⟨G, p, vs, a1, a2, no, sp, a3⟩
  cases b with
  | true => exact h1 rfl σ H1 D s2 q1 q2 q3
  | false => exact h2 rfl σ H1 D s2 q1 q2 q3
theorem sdt_nextS (k : SDT K c u δ i dss N R) : SDT K c (tSeq tNext u) δ i dss N R := k
theorem sdt_ret (f : flatD d = true) (h : ∀ c', EvD K c' te (δ.set i (cv (dTree dss))) d) (hr : R (.val d)) : SDT K c (tRet te) δ i dss N R := fun σ H D s q1 q2 q3 => by
  obtain ⟨G, G1, p, vs, r, e, no, sp, tr, e1, kp, kq, rr, e4⟩ := s.lent
  refine h ⟨G1, c.H, c.W⟩ σ H [] [] ⟨G1, rr, e4, .nil⟩ _ fun v H1 s1 => ?_
  obtain ⟨G2, r2, _, t2⟩ := s1
  obtain ⟨a1, a2, a3⟩ := tree_back r e no sp tr e1 kp kq (r2.g.trans r2.h) r2.k
  cases t2 with
  | cons hv _ => exact q2 _ v H1 hr ⟨G, a1, rp_flat hv f⟩
theorem sdt_retS (h : SDT K c (tRet te) δ i dss N R) : SDT K c (tSeq (tRet te) u) δ i dss N R := h
/-- x = e, e without the list -/
theorem sdt_asgS (h : ∀ c', EvD K c' te δ d) (hn : n ≠ i) (k : SDT K c u (δ.set n (cv d)) i dss N R) : SDT K c (tSeq (tAsg te (gName n)) u) δ i dss N R := fun σ H D s q1 q2 q3 => by
  obtain ⟨G, p, vs, r, e, no, sp, t1, t2, t3, t4, t5⟩ := s
  refine h ⟨G, H, c.W⟩ σ H [] [] ⟨G, Run.refl r.h, noOwn_base e no, .nil⟩ _ fun v H1 s1 => ?_
  obtain ⟨G2, r2, e2, v2⟩ := s1
  cases v2 with
  | cons hv _ =>
    obtain ⟨k1, k2⟩ := r2.own t2 t3
    refine k _ H1 D ⟨G2, p, vs, r.trans r2, (noOwn_base (H1 := c.H) e2 no).set hv, noOwn_set no _ (fun es z => by cases z), ?_, t1, k1, k2, t4, t5.run r2⟩ q1 q2 q3
    rw [List.getElem?_set_ne hn]
    exact sp
/-- x = f(..), a list of lists comes -/
theorem sd_asgTree {sp : Sp} {E : XK} (h : EvA K c tr δ ds) (hs : ∀ vs H Q, (∃ G, Ex G H ∧ RpAll K G vs ds ∧ ∀ w G' H', Run G H G' H' → treeF K dss H G' w H' → Q w H') → sp vs H Q E) (hi : i < δ.length) (no : noOwnE δ) (k : SDT K c u (δ.set i none) i dss N R) :
    SD K c (tSeq (tAsg (tCall sp [] E tr) (gName i)) u) δ N R := fun σ H D s q1 q2 q3 =>
  h σ H [] [] s _ fun vs H1 hv s1 => by
    obtain ⟨G, rn, e, r1, r2⟩ := sta_split hv s1
    show sp (vs ++ []) H1 _ E
    rw [List.append_nil]
    refine hs vs H1 _ ⟨G, rn.h, r1, fun w G' H' r' hf => ?_⟩
    obtain ⟨p, us, rfl, t1, t2, t3, t4, t5⟩ := hf
    refine k _ H' D ⟨G', p, us, rn.trans r', (e.run r').put _, noOwn_set no _ (fun es z => by cases z), ?_, rn.k.free t1, t2, t3, t4, t5.base fun q hq => rn.k.free hq⟩ q1 q2 q3
    rw [List.getElem?_set_self (by rw [e.len]; exact hi)]
/-- for x in xs: if test: .., the test false at each -/
theorem sdt_forS (hn : n ≠ i) (hnl : n < δ.length) (h : ∀ row, row ∈ dss → ∀ c', EvT K c' tt ((δ.set i (cv (dTree dss))).set n (cv (.list row))) false) (next : SDT K c u (δ.set n none) i dss N R) : SDT K c (tSeq (tFor (iSeq K (tVar i)) (gName n) (tIfS tt t tNext)) u) δ i dss N R := fun σ H D s q1 q2 q3 => by
  obtain ⟨G, p, vs, r, e, no, sp, tr⟩ := s
  have no2 : noOwnE (δ.set n none) := noOwn_set no _ (fun es z => by cases z)
  refine ⟨.ref p, sp, p, rfl, .inl ⟨⟨vs, SqL.of tr.2.2.1⟩, ?_⟩⟩
  refine ⟨fun k m σ' H' => m = dss.length - k ∧ k ≤ dss.length ∧ σ'[i]? = some (some (V.ref p)) ∧ StaT K c (δ.set n none) σ' H' i dss, ⟨_, rfl, Nat.zero_le _, sp, G, p, vs, r, ?_, no2, sp, tr⟩, ?_⟩
  · have hl : n < σ.length := by rw [e.len]; exact hnl
    have e5 : EnvOk K c.H G H (σ.set n σ[n]) (δ.set n none) := e.put σ[n]
    have e6 : σ.set n σ[n] = σ := List.set_getElem_self hl
    rwa [e6] at e5
  rintro k m σ' H' ⟨rfl, hk, sp', s'⟩
  obtain ⟨G', p', vs', r', e', no', sp2, tr'⟩ := id s'
  have hpp : p' = p := by
    rw [sp'] at sp2
    cases sp2
    rfl
  subst hpp
  have hlen := tr'.2.2.2.2.length
  by_cases hlt : k < dss.length
  · have hdk : dss[k]? = some dss[k] := List.getElem?_eq_getElem hlt
    obtain ⟨q, us, hq, hu, _⟩ := tr'.2.2.2.2.get hdk
    refine .inr ⟨⟨vs', .ref q, SqL.of tr'.2.2.1, hq⟩, fun σ2 H2 => σ2[i]? = some (some (V.ref p')) ∧ StaT K c (δ.set n none) σ2 H2 i dss, fun σ2 H2 ⟨a, b⟩ => ⟨dss.length - (k + 1), by omega, rfl, hlt, a, b⟩, fun v H2 y => ?_⟩
    obtain ⟨rfl, hy⟩ := y
    have hvq := hy vs' (SqL.of tr'.2.2.1)
    rw [hq] at hvq
    cases hvq
    show tIfS tt t tNext _ (σ'.set n (some (.ref q))) H2
    have sp3 : (σ'.set n (some (V.ref q)))[i]? = some (some (V.ref p')) := by rw [List.getElem?_set_ne hn]; exact sp'
    have s2 : StaT K c (δ.set n none) (σ'.set n (some (V.ref q))) H2 i dss := by
      refine ⟨G', p', vs', r', ?_, no2, sp3, tr'⟩
      have e5 := e'.put (i := n) (some (.ref q))
      rwa [List.set_set] at e5
    obtain ⟨G0, G1, p2, vs2, r3, e3, no3, sp4, tr3, e1, kp, kq, rr, e4⟩ := s2.lent
    have hp2 : p2 = p' := by
      rw [sp3] at sp4
      cases sp4
      rfl
    subst hp2
    have hrow : Rp K G1 (.ref q) (.list dss[k]) := by
      obtain ⟨q', us', hq', hu', hr'⟩ := tr3.2.2.2.2.get hdk
      have hvv : vs2 = vs' := by
        have z1 := tr3.2.2.1
        rw [tr'.2.2.1] at z1
        cases z1
        rfl
      subst hvv
      rw [hq] at hq'
      cases hq'
      exact .lst (by rw [kq q (List.mem_of_getElem? hq)]; exact hu') (hr'.ex e1)
    have e7 := e4.set (i := n) hrow
    have e8 : ((δ.set n none).set i (cv (dTree dss))).set n (cv (.list dss[k])) = (δ.set i (cv (dTree dss))).set n (cv (.list dss[k])) := by
      rw [List.set_comm _ _ hn, List.set_set]
    rw [show (σ'.set n (some (V.ref q))).set n (some (.ref q)) = σ'.set n (some (V.ref q)) by rw [List.set_set], e8] at e7
    refine h dss[k] (List.getElem_mem hlt) ⟨G1, c.H, c.W⟩ (σ'.set n (some (V.ref q))) H2 [] [] ⟨G1, rr, e7, .nil⟩ _ fun H3 s3 => ?_
    obtain ⟨G3, r4, _, _⟩ := s3
    obtain ⟨a1, a2, a3⟩ := tree_back r3 e3 no3 sp4 tr3 e1 kp kq (r4.g.trans r4.h) r4.k
    exact ⟨sp3, G0, p2, vs2, a1, a2, no3, sp4, a3⟩
  · have ek : k = dss.length := by omega
    subst ek
    exact .inl ⟨⟨vs', SqL.of tr'.2.2.1, by rw [hlen]; exact Nat.le_refl _⟩, next σ' H' D s' q1 q2 q3⟩
/-- y = [list(x) for x in xs] -/
theorem sdt_keptS (hn : n ≠ i) (hnl : n < δ.length) (hm : m ≠ i) (hz : dss.length < 100000) (next : SDT K c u (δ.set m (cv (dTree dss))) i dss N R) :
    SDT K c (tSeq (tAsg (tLc (iSeq K (tVar i)) (gName n) tYes (tCB (rListP K) (tCons (tVar n) tNil)) [n]) (gName m)) u) δ i dss N R := fun σ H D s q1 q2 q3 => by
  obtain ⟨G, p, vs, r, e, no, sp, tr⟩ := s
  have hlen := tr.2.2.2.2.length
  refine ⟨.ref p, sp, p, rfl, .inl ⟨⟨vs, SqL.of tr.2.2.1⟩, fun l hl => ?_⟩⟩
  have gl : G l = none := r.h.free hl
  refine ⟨fun k m H' => m = dss.length - k ∧ k ≤ dss.length ∧ ∃ G' acc, Run G H G' H' ∧ G' l = none ∧ H' l = some (.lst acc) ∧ RpAll K G' acc ((dss.take k).map PyData.list), ⟨_, rfl, Nat.zero_le _, G, [], Run.newg r.h hl, gl, upd_same, .nil⟩, ?_⟩
  rintro k m' H' ⟨rfl, hk, G', acc, rn, gl', hl', hacc⟩
  have tr' : TreeAt K c.H G' H' p vs dss := by
    obtain ⟨t1, t2, t3, t4, t5⟩ := tr
    obtain ⟨k1, k2⟩ := rn.own t2 t3
    exact ⟨t1, k1, k2, t4, t5.run rn⟩
  by_cases hlt : k < dss.length
  · have hdk : dss[k]? = some dss[k] := List.getElem?_eq_getElem hlt
    obtain ⟨q, us, hq, hu, hru⟩ := tr'.2.2.2.2.get hdk
    refine .inr ⟨⟨vs, .ref q, SqL.of tr'.2.2.1, hq⟩, fun H2 => ∃ G2 acc2, Run G H G2 H2 ∧ G2 l = none ∧ H2 l = some (.lst acc2) ∧ RpAll K G2 acc2 ((dss.take (k + 1)).map PyData.list), fun H2 hh => ⟨dss.length - (k + 1), by omega, rfl, hlt, hh⟩, fun v H2 y => ?_⟩
    obtain ⟨rfl, hy⟩ := y
    have hvq := hy vs (SqL.of tr'.2.2.1)
    rw [hq] at hvq
    cases hvq
    refine ⟨?_, ?_⟩
    · exact wipe_same (vs := [n]) (fun j hj => by rw [List.getElem?_set_ne (fun z => hj (by simp [z]))]; rw [wipe_get, if_neg (fun z => hj z.1)]) (by rw [List.length_set, wipe_length])
    dsimp only [tYes]
    rw [if_pos rfl]
    have hwn : n < (wipe σ [n]).length := by rw [wipe_length, e.len]; exact hnl
    · refine ⟨.ref q, by rw [List.getElem?_set_self hwn], q, us, rfl, .inl (SqL.of hu), fun b hb => ?_⟩
      have r2 := Run.new (o := .lst us) rn.h hb
      have hbl : l ≠ b := fun z => by
        rw [z, hb] at hl'
        cases hl'
      refine ⟨acc, by rw [upd_ne hbl]; exact hl', sz_lt (by rw [hacc.length, List.length_map, List.length_take]; omega), upd G' b (.lst us), acc ++ [.ref b], ?_, by rw [upd_ne hbl]; exact gl', upd_same, ?_⟩
      · exact (rn.trans r2).mut (by rw [upd_ne hbl]; exact gl') hl
      · rw [List.take_add_one, hdk, Option.toList_some, List.map_append]
        exact (hacc.ex r2.g).append (.cons (.lst upd_same (hru.ex r2.g)) .nil)
  · have ek : k = dss.length := by omega
    subst ek
    rw [List.take_length] at hacc
    have r3 : Run G H (upd G' l (.lst acc)) H' := rn.know gl' hl hl'
    have e3 : EnvOk K c.H (upd G' l (.lst acc)) H' σ δ := noOwn_at (⟨e.len, fun j d h => by
      obtain ⟨v, a, b⟩ := e.val j d h
      exact ⟨v, a, b.ex r3.g⟩, fun j es h => absurd h (no j es), fun j k es fs h => absurd h (no j es)⟩ : EnvOk K c.H (upd G' l (.lst acc)) H σ δ) no
    have tr3 : TreeAt K c.H (upd G' l (.lst acc)) H' p vs dss := by
      obtain ⟨t1, t2, t3, t4, t5⟩ := tr
      obtain ⟨k1, k2⟩ := r3.own t2 t3
      exact ⟨t1, k1, k2, t4, t5.run r3⟩
    have e4 := e3.set (i := m) (v := .ref l) (d := dTree dss) (.lst upd_same (hacc.ex (Ex.new gl')))
    exact .inl ⟨⟨vs, SqL.of tr'.2.2.1, by rw [hlen]; exact Nat.le_refl _⟩, next _ H' D ⟨_, p, vs, r.trans r3, e4, noOwn_set no _ (fun es z => by cases z), by rw [List.getElem?_set_ne hm]; exact sp, tr3⟩ q1 q2 q3⟩
/-- xs[0].append(0); xs.append(0): the list is let go -/
theorem sdt_app2S {a b : Int} {row : List PyData} {rest : List (List PyData)} (hd : dss = row :: rest) (hz : row.length < 100000) (hz2 : dss.length < 100000) (next : SD K c u δ N R) :
    SDT K c (tSeq (tDrop (tBM K "list" rAppend (tOp (rIx K) (tVar i) (tC (.int 0))) (tCons (tC (.int a)) tNil))) (tSeq (tDrop (tBM K "list" rAppend (tVar i) (tCons (tC (.int b)) tNil))) u)) δ i dss N R := fun σ H D s q1 q2 q3 => by
  obtain ⟨G, p, vs, r, e, no, sp, t1, t2, t3, t4, t5⟩ := s
  subst hd
  have hlen := t5.length
  cases t5 with
  | @cons q us vs' _ _ g1 g2 g3 g4 t5 =>
    have hqp : q ≠ p := fun z => t4 (by rw [z]; exact List.mem_cons_self)
    refine ⟨_, sp, .inl ⟨p, _, 0, .ref q, rfl, rfl, SqL.of t3, (by show atI _ ((0 : Nat) : Int) = _; exact atI_nat rfl), .inl ⟨rfl, us, SqL.of g3⟩, q, us, .int a, rfl, rfl, g3, sz_lt (by rw [g4.length]; exact hz), ?_⟩⟩
    have t3' : (upd H q (.lst (us ++ [.int a]))) p = some (.lst (.ref q :: vs')) := by rw [upd_ne (Ne.symm hqp)]; exact t3
    refine ⟨_, sp, .inl ⟨rfl, _, SqL.of t3'⟩, p, _, .int b, rfl, rfl, t3', sz_lt (by rw [hlen]; exact hz2), ?_⟩
    exact next σ _ D ⟨G, (r.mut g2 g1).mut t2 t1, noOwn_at e no, .nil⟩ q1 q2 q3
/-! ### what makes such a list -/
theorem sd_retTree (h : EvTr K c te δ dss) (hr : R (.gen (treeF K dss))) : SD K c (tRet te) δ N R := fun σ H D s _ q2 _ => h σ H [] [] s _ fun p vs G H' rn _ t => q2 _ _ H' hr ⟨G, rn, p, vs, rfl, t⟩
theorem ev_tr_one : EvTr K c (tLst (tCons (tLst tNil) tNil)) δ [[]] := fun σ H ts td s Q q => by
  obtain ⟨G, rn, e, _⟩ := s
  refine ⟨by show 0 ≤ sizeLine; exact Nat.zero_le _, fun b hb => ?_⟩
  refine ⟨by show 1 ≤ sizeLine; exact sz_le (by decide), fun l hl => ?_⟩
  have r1 := Run.newg (o := .lst []) rn.h hb
  have r2 := Run.newg (o := .lst [V.ref b]) r1.h hl
  have hlb : l ≠ b := fun z => by
    rw [z, upd_same] at hl
    cases hl
  have hl0 : H l = none := by rwa [upd_ne hlb] at hl
  exact q l [.ref b] G _ ((rn.trans r1).trans r2) ((e.run r1).run r2) ⟨rn.k.free hl0, rn.h.free hl0, upd_same, fun z => hlb (by cases z with | head => rfl | tail _ h => cases h), .cons (rn.k.free hb) (rn.h.free hb) (by rw [upd_ne (Ne.symm hlb), upd_same]) .nil .nil⟩
/-- [[..] for x in xs] -/
theorem ev_tr_lc {ti : TI} {g : TG} {js vs : List Nat} {Tg : PyData → DEnv → DEnv} (f : PyData → List PyData) (hi : IvD K c ti δ ds) (hz : ds.length < 100000) (hg : ∀ d, d ∈ ds → TgD K g js d (cleanE δ vs) (Tg d (cleanE δ vs))) (hj : ∀ i, i ∈ js → i ∈ vs)
    (hb : ∀ (c' : Cc), ∀ d, d ∈ ds → EvN K c' te (Tg d (cleanE δ vs)) (f d)) : EvTr K c (tLc ti g tYes te vs) δ (ds.map f) := fun σ H ts td s Q q => by
  refine hi σ H ts td s _ fun J G1 H1 rn e rt it => ?_
  intro p hp
  have gp1 : G1 p = none := rn.h.free hp
  have hp0 : c.H p = none := rn.k.free hp
  refine ⟨fun k m H' => m = ds.length - k ∧ k ≤ ds.length ∧ ∃ G' acc, Run G1 H1 G' H' ∧ G' p = none ∧ H' p = some (.lst acc) ∧ V.ref p ∉ acc ∧ RowsAt K c.H G' H' acc ((ds.take k).map f), ⟨_, rfl, Nat.zero_le _, G1, [], Run.newg rn.h hp, gp1, upd_same, (fun z => by cases z), .nil⟩, ?_⟩
  rintro k m H' ⟨rfl, hk, G', acc, rn', gp, ep, npa, rows⟩
  have ex : Ex G1 H' := rn'.g.trans rn'.h
  by_cases hlt : k < ds.length
  · refine .inr ⟨it.go k H' hlt ex, fun H2 => ∃ G2 acc2, Run G1 H1 G2 H2 ∧ G2 p = none ∧ H2 p = some (.lst acc2) ∧ V.ref p ∉ acc2 ∧ RowsAt K c.H G2 H2 acc2 ((ds.take (k + 1)).map f), fun H2 hh => ⟨ds.length - (k + 1), by omega, rfl, hlt, hh⟩, fun v H2 y => ?_⟩
    have hdi : ds[k]? = some ds[k] := List.getElem?_eq_getElem hlt
    have hmem : ds[k] ∈ ds := List.getElem_mem hlt
    obtain ⟨G2, r2, hv⟩ := it.more rn' hdi y
    have hE := hb ⟨G2, H2, c.W⟩ _ hmem
    refine hg _ hmem ⟨G2, H2, c.W⟩ (L2.wipe σ vs) H2 v [] [] ⟨G2, Run.refl r2.h, (((e.run rn').run r2).clean vs), .cons hv .nil⟩ _ fun σ2 s2 k2 l2 => ⟨?_, ?_⟩
    · rw [wipe_same (σ := L2.wipe σ vs) (fun i hi => k2 i fun z => hi (hj i z)) l2, wipe_wipe]
    dsimp only [tYes]
    rw [if_pos rfl]
    refine hE σ2 H2 [] [] s2 _ fun b H3 s3 => ?_
    obtain ⟨G3, us, r3, _, _, hb0, gb, eb, hus, _⟩ := s3
    have r23 : Run G' H' G3 H3 := r2.trans r3
    obtain ⟨gp3, ep3⟩ := r23.own gp ep
    have hbH' : H' b = none := r2.k.free hb0
    have hbp : b ≠ p := fun z => by
      rw [z, ep] at hbH'
      cases hbH'
    have hbH1 : H1 b = none := by
      cases w : H1 b with
      | none => rfl
      | some o =>
        have z := rn'.k b o w
        rw [hbH'] at z
        cases z
    have rows3 := rows.run r23
    have rows4 := rows3.append (q := b) (us := us) (ds := f ds[k]) (rn.k.free hbH1) gb eb hus
    refine ⟨acc, ep3, sz_lt (by rw [rows.length, List.length_map, List.length_take]; omega), G3, acc ++ [.ref b], (rn'.trans r23).mut gp3 hp, gp3, upd_same, fun z => ?_, ?_⟩
    · rcases List.mem_append.mp z with z | z
      · exact npa z
      · have z' := List.mem_singleton.mp z
        exact hbp (by cases z'; rfl)
    · rw [List.take_add_one, hdi, Option.toList_some, List.map_append]
      refine rows4.keep fun q hq => upd_ne fun z => ?_
      rcases List.mem_append.mp hq with hq | hq
      · exact npa (by rw [← z]; exact hq)
      · have z' := List.mem_singleton.mp hq
        exact hbp (by cases z'; exact z)
  · have ek : k = ds.length := by omega
    subst ek
    rw [List.take_length] at rows
    exact .inl ⟨it.stop H' ex, q p acc G' H' (rn.trans rn') (e.run rn') ⟨hp0, gp, ep, npa, rows⟩⟩
end
end Pd

/-! the mathematics, 6: near moves, the row told -/
namespace Peg
def nearB (s : List Pg) (m : Nat × Pg) : Bool := match s[m.1]? with
  | some q => decide (q.val = m.2.val + 1 ∨ m.2.val = q.val + 1)
  | none => false
def nearMs (s : List Pg) : List (Nat × Pg) := (may s).filter (nearB s)
theorem near_iff : ∀ s : List Pg, ∀ m ∈ may s, (nearB s m = true ↔ rn (aft s m) = rn s + 1 ∨ rn (aft s m) + 1 = rn s) := by
  refine snoc_ind (fun m hm => absurd hm (by intro h; cases h)) fun t q ih m hm => ?_
  rw [may_snoc] at hm
  rcases List.mem_append.mp hm with hm | hm
  · have hl := may_len hm
    have h1 := ih m hm
    rw [aft_lt hl]
    have h2 : nearB (t ++ [q]) m = nearB t m := by
      unfold nearB
      rw [List.getElem?_append_left hl]
    rw [h2, h1]
    have e1 := rn_cases t
    have e2 := rn_cases (aft t m)
    rw [aft_len] at e2
    have l1 := rn_lt t
    have l2 := rn_lt (aft t m)
    rw [aft_len] at l2
    rcases pg3 q with rfl | rfl | rfl <;> omega
  · obtain ⟨h1, h2, h3⟩ := mem_topM.mp hm
    obtain ⟨d, p⟩ := m
    dsimp only at h1 h2 h3
    subst h1
    rw [aft_top]
    have hn : nearB (t ++ [q]) (t.length, p) = decide (q.val = p.val + 1 ∨ p.val = q.val + 1) := by
      unfold nearB
      dsimp only
      rw [List.getElem?_concat_length]
    rw [hn, decide_eq_true_iff]
    have e := rn_cases t
    have he := rn_ends t
    have hp := p3 t.length
    have hl := rn_lt t
    have v0 : ((0 : Pg).val = 0) := rfl
    have v1 : ((1 : Pg).val = 1) := rfl
    have v2 : ((2 : Pg).val = 2) := rfl
    rcases pg3 q with rfl | rfl | rfl <;> rcases pg3 p with rfl | rfl | rfl
    · exact absurd rfl h2
    · have z := he.2.mpr h3
      rw [v0, v1]
      omega
    · rw [v0, v2]
      omega
    · have z := he.2.mpr h3
      rw [v0, v1]
      omega
    · exact absurd rfl h2
    · have z := he.1.mpr h3
      rw [v1, v2]
      omega
    · rw [v0, v2]
      omega
    · have z := he.1.mpr h3
      rw [v1, v2]
      omega
    · exact absurd rfl h2
theorem near_up {s : List Pg} (h : rn s + 1 < 3 ^ s.length) : ∃ m ∈ nearMs s, rn (aft s m) = rn s + 1 := by
  obtain ⟨m, hm, e⟩ := (rn_near s).1 h
  exact ⟨m, List.mem_filter.mpr ⟨hm, (near_iff s m hm).mpr (.inl e)⟩, e⟩
theorem near_dn {s : List Pg} (h : 0 < rn s) : ∃ m ∈ nearMs s, rn (aft s m) + 1 = rn s := by
  obtain ⟨m, hm, e⟩ := (rn_near s).2 h
  exact ⟨m, List.mem_filter.mpr ⟨hm, (near_iff s m hm).mpr (.inr e)⟩, e⟩
theorem may_ne {s : List Pg} {m : Nat × Pg} (h : m ∈ may s) : s[m.1]? ≠ some m.2 := fun z => by
  obtain ⟨o, h1, h2, _⟩ := mem_may.mp h
  rw [h1] at z
  exact h2 (Option.some.inj z).symm
theorem aft_at {s : List Pg} {m : Nat × Pg} (h : m ∈ may s) : (aft s m)[m.1]? = some m.2 := by
  unfold aft
  rw [List.getElem?_set_self (may_len h)]
theorem aft_inj {s : List Pg} {m n : Nat × Pg} (hm : m ∈ may s) (hn : n ∈ may s) (e : aft s m = aft s n) : m = n := by
  have h1 := aft_at hm
  by_cases h : m.1 = n.1
  · rw [e, h, aft_at hn] at h1
    exact Prod.ext h (Option.some.inj h1).symm
  · rw [e] at h1
    unfold aft at h1
    rw [List.getElem?_set_ne (Ne.symm h)] at h1
    exact absurd h1 (may_ne hm)
/-- the numbers beside -/
def beside (s : List Pg) : List Nat := (if 0 < rn s then [rn s - 1] else []) ++ (if rn s + 1 < 3 ^ s.length then [rn s + 1] else [])
theorem map_nodup {α β : Type} (f : α → β) : ∀ {l : List α}, l.Nodup → (∀ a ∈ l, ∀ b ∈ l, f a = f b → a = b) → (l.map f).Nodup
  | [], _, _ => List.nodup_nil
  | a :: l, h, hf => by
    rw [List.map_cons, List.nodup_cons]
    have h' := List.nodup_cons.mp h
    refine ⟨fun z => ?_, map_nodup f h'.2 fun x hx y hy => hf x (List.mem_cons_of_mem _ hx) y (List.mem_cons_of_mem _ hy)⟩
    obtain ⟨b, hb, e⟩ := List.mem_map.mp z
    have := hf b (List.mem_cons_of_mem _ hb) a List.mem_cons_self e
    subst this
    exact h'.1 hb
theorem near_perm (s : List Pg) : ((nearMs s).map fun m => rn (aft s m)).Perm (beside s) := by
  refine (List.perm_ext_iff_of_nodup ?_ ?_).mpr fun k => ?_
  · refine map_nodup _ ((may_nodup s).filter _) fun a ha b hb e => ?_
    have h1 := (List.mem_filter.mp ha).1
    have h2 := (List.mem_filter.mp hb).1
    exact aft_inj h1 h2 (rn_inj _ _ (by rw [aft_len, aft_len]) e)
  · unfold beside
    split <;> split <;> simp <;> omega
  · rw [List.mem_map]
    constructor
    · rintro ⟨m, hm, rfl⟩
      obtain ⟨h1, h2⟩ := List.mem_filter.mp hm
      have h3 := (near_iff s m h1).mp h2
      have h4 := rn_lt (aft s m)
      rw [aft_len] at h4
      unfold beside
      rcases h3 with h3 | h3
      · rw [if_pos (show rn s + 1 < 3 ^ s.length by omega), h3]
        exact List.mem_append_right _ List.mem_cons_self
      · rw [if_pos (show 0 < rn s by omega), show rn (aft s m) = rn s - 1 by omega]
        exact List.mem_append_left _ List.mem_cons_self
    · intro hk
      unfold beside at hk
      rcases List.mem_append.mp hk with hk | hk
      · split at hk
        · rename_i h
          obtain ⟨m, hm, e⟩ := near_dn h
          have : k = rn s - 1 := by simpa using hk
          exact ⟨m, hm, by omega⟩
        · cases hk
      · split at hk
        · rename_i h
          obtain ⟨m, hm, e⟩ := near_up h
          have : k = rn s + 1 := by simpa using hk
          exact ⟨m, hm, by omega⟩
        · cases hk
theorem beside_uniq {s : List Pg} {l : List Int} (hp : l.Perm ((nearMs s).map fun m => ((rn (aft s m) : Nat) : Int))) (hs : l.Pairwise (· ≤ ·)) : l = (beside s).map fun k : Nat => (k : Int) := by
  have h1 : l.Perm ((beside s).map fun k : Nat => (k : Int)) := by
    refine hp.trans ?_
    have := (near_perm s).map (fun k : Nat => (k : Int))
    rwa [List.map_map] at this
  have h2 : ((beside s).map fun k : Nat => (k : Int)).Pairwise (· ≤ ·) := by
    unfold beside
    split <;> split <;> simp <;> omega
  refine List.Perm.eq_of_pairwise (le := fun (a b : Int) => decide (a ≤ b)) ?_ ?_ ?_ h1
  · intro a b _ _ x y
    have := of_decide_eq_true x
    have := of_decide_eq_true y
    omega
  · exact hs.imp fun x => decide_eq_true x
  · exact h2.imp fun x => decide_eq_true x
/-! ### the setting of a number -/
def rowS : Nat → Nat → List Pg
  | 0, _ => []
  | n + 1, k => rowS n (if k / 3 ^ n = 1 then 3 ^ n - 1 - k % 3 ^ n else k % 3 ^ n) ++ [pgN (k / 3 ^ n)]
theorem rowS_len : ∀ n k : Nat, (rowS n k).length = n
  | 0, _ => rfl
  | n + 1, k => by
    rw [rowS, List.length_append, rowS_len]
    rfl
theorem rowS_rn : ∀ n k : Nat, k < 3 ^ n → rn (rowS n k) = k
  | 0, k, h => by
    have : k = 0 := by
      have : 3 ^ 0 = 1 := rfl
      omega
    subst this
    rfl
  | n + 1, k, h => by
    have hp := p3 n
    have h3 := p3s n
    have hq : k / 3 ^ n < 3 := (Nat.div_lt_iff_lt_mul hp).mpr (by omega)
    have hr : k % 3 ^ n < 3 ^ n := Nat.mod_lt _ hp
    have hd := Nat.div_add_mod k (3 ^ n)
    rw [rowS]
    generalize k / 3 ^ n = q at *
    generalize k % 3 ^ n = r at *
    have ih := rowS_rn n (if q = 1 then 3 ^ n - 1 - r else r) (by split <;> omega)
    have hl := rowS_len n (if q = 1 then 3 ^ n - 1 - r else r)
    generalize rowS n (if q = 1 then 3 ^ n - 1 - r else r) = s at ih hl ⊢
    have e := rn_cases s
    rw [hl] at e
    have : q = 0 ∨ q = 1 ∨ q = 2 := by omega
    rcases this with rfl | rfl | rfl
    · rw [show pgN 0 = 0 from rfl, e.1, ih, if_neg (by decide)]
      omega
    · rw [show pgN 1 = 1 from rfl, e.2.1, ih, if_pos rfl]
      omega
    · rw [show pgN 2 = 2 from rfl, e.2.2, ih, if_neg (by decide)]
      omega
theorem rowS_of (s : List Pg) : rowS s.length (rn s) = s := rn_inj _ _ (rowS_len _ _) (rowS_rn _ _ (rn_lt s))
theorem rowS_to {s : List Pg} {k : Nat} (h : rn s = k) : rowS s.length k = s := by
  subst h
  exact rowS_of s
/-! ### the row between two settings, told by moves -/
def dist (s t : List Pg) : Nat := ((rn s : Int) - (rn t : Int)).natAbs
def rowAt (s t : List Pg) (i : Nat) : List Pg := if rn s ≤ rn t then rowS s.length (rn s + i) else rowS s.length (rn s - i)
theorem rowAt_len (s t : List Pg) (i : Nat) : (rowAt s t i).length = s.length := by
  unfold rowAt
  split <;> exact rowS_len _ _
theorem rowAt_zero (s t : List Pg) : rowAt s t 0 = s := by
  unfold rowAt
  split
  · exact rowS_of s
  · exact rowS_of s
theorem rowAt_end {s t : List Pg} (h : s.length = t.length) : rowAt s t (dist s t) = t := by
  unfold rowAt dist
  rw [h]
  split
  · rw [show rn s + ((rn s : Int) - (rn t : Int)).natAbs = rn t by omega]
    exact rowS_of t
  · rw [show rn s - ((rn s : Int) - (rn t : Int)).natAbs = rn t by omega]
    exact rowS_of t
theorem rowAt_rn {s t : List Pg} (h : s.length = t.length) {i : Nat} (hi : i ≤ dist s t) : rn (rowAt s t i) = if rn s ≤ rn t then rn s + i else rn s - i := by
  have h1 := rn_lt s
  have h2 := rn_lt t
  rw [← h] at h2
  unfold dist at hi
  unfold rowAt
  split
  · exact rowS_rn _ _ (by omega)
  · exact rowS_rn _ _ (by omega)
theorem filter_one {n i : Nat} (f : Nat → Bool) (hi : i < n) (h : ∀ k, k < n → (f k = true ↔ k = i)) : (List.range n).filter f = [i] := by
  have h1 : ∀ m, m ≤ n → (List.range m).filter f = if i < m then [i] else [] := by
    intro m
    induction m with
    | zero => intro _; simp
    | succ m ih =>
      intro hm
      rw [List.range_succ, List.filter_append, ih (by omega)]
      have hk := h m (by omega)
      by_cases e : m = i
      · have : f m = true := hk.mpr e
        rw [if_neg (by omega), if_pos (by omega), List.filter_cons, if_pos this, e]
        rfl
      · have : ¬ f m = true := fun z => e (hk.mp z)
        rw [List.filter_cons, if_neg this]
        by_cases l : i < m
        · rw [if_pos l, if_pos (by omega)]
          rfl
        · rw [if_neg l, if_neg (by omega)]
          rfl
  rw [h1 n (Nat.le_refl _), if_pos hi]
theorem unl_aft {s : List Pg} {m : Nat × Pg} (hm : m ∈ may s) : unl s (aft s m) = [m.1] := by
  unfold unl
  refine filter_one _ (may_len hm) fun k hk => ?_
  rw [decide_eq_true_iff]
  by_cases e : k = m.1
  · subst e
    rw [aft_at hm]
    exact ⟨fun _ => rfl, fun _ => may_ne hm⟩
  · unfold aft
    rw [List.getElem?_set_ne (Ne.symm e)]
    exact ⟨fun z => absurd rfl z, fun z => absurd z e⟩
def stepM (x y : List Pg) : Nat × Pg := ((unl x y).headD 0, y.getD ((unl x y).headD 0) 0)
theorem stepM_aft {s : List Pg} {m : Nat × Pg} (hm : m ∈ may s) : stepM s (aft s m) = m := by
  unfold stepM
  rw [unl_aft hm]
  show (m.1, (aft s m).getD m.1 0) = m
  rw [List.getD_eq_getElem?_getD, aft_at hm]
  rfl
theorem row_step {s t : List Pg} (h : s.length = t.length) {i : Nat} (hi : i < dist s t) : ∃ m ∈ nearMs (rowAt s t i), aft (rowAt s t i) m = rowAt s t (i + 1) ∧ stepM (rowAt s t i) (rowAt s t (i + 1)) = m := by
  have h1 := rn_lt s
  have h2 := rn_lt t
  rw [← h] at h2
  have e1 := rowAt_rn h (Nat.le_of_lt hi)
  have e2 := rowAt_rn h (i := i + 1) hi
  have l1 := rowAt_len s t i
  have l2 := rowAt_len s t (i + 1)
  generalize rowAt s t i = x at *
  generalize rowAt s t (i + 1) = y at *
  have key : ∃ m ∈ nearMs x, aft x m = y := by
    unfold dist at hi
    by_cases hle : rn s ≤ rn t
    · rw [if_pos hle] at e1 e2
      obtain ⟨m, hm, e⟩ := near_up (s := x) (by rw [l1]; omega)
      exact ⟨m, hm, rn_inj _ _ (by rw [aft_len, l1, l2]) (by omega)⟩
    · rw [if_neg hle] at e1 e2
      obtain ⟨m, hm, e⟩ := near_dn (s := x) (by omega)
      exact ⟨m, hm, rn_inj _ _ (by rw [aft_len, l1, l2]) (by omega)⟩
  obtain ⟨m, hm, e⟩ := key
  refine ⟨m, hm, e, ?_⟩
  rw [← e]
  exact stepM_aft (List.mem_filter.mp hm).1
def nwF (s t : List Pg) : List (Nat × Pg) := (List.range (dist s t)).map fun i => stepM (rowAt s t i) (rowAt s t (i + 1))
theorem nwF_len (s t : List Pg) : (nwF s t).length = dist s t := by simp [nwF]
theorem nwF_at {s t : List Pg} {i : Nat} {m : Nat × Pg} (h : s.length = t.length) (hm : (nwF s t)[i]? = some m) : i < dist s t ∧ m ∈ nearMs (rowAt s t i) ∧ aft (rowAt s t i) m = rowAt s t (i + 1) := by
  unfold nwF at hm
  rw [List.getElem?_map] at hm
  by_cases hi : i < dist s t
  · rw [List.getElem?_range hi] at hm
    obtain ⟨n, h1, h2, h3⟩ := row_step h hi
    have e : stepM (rowAt s t i) (rowAt s t (i + 1)) = m := Option.some.inj hm
    rw [h3] at e
    subst e
    exact ⟨hi, h1, h2⟩
  · rw [List.getElem?_eq_none (by rw [List.length_range]; omega)] at hm
    cases hm
/-! ### the moves, disc by disc -/
def mayT (s : List Pg) (n : Nat) : List (Nat × Pg) := (List.range n).flatMap fun d => pgs.filterMap fun p => if okB s d p = true then some (d, p) else none
def mayR (s : List Pg) (d j : Nat) : List (Nat × Pg) := (pgs.take j).filterMap fun p => if okB s d p = true then some (d, p) else none
theorem mayT_all (s : List Pg) : mayT s s.length = may s := rfl
theorem mayT_succ (s : List Pg) (n : Nat) : mayT s (n + 1) = mayT s n ++ mayR s n 3 := by
  unfold mayT
  rw [List.range_succ, List.flatMap_append, List.flatMap_singleton]
  rfl
theorem mayR_succ (s : List Pg) (d : Nat) {j : Nat} (h : j < 3) : mayR s d (j + 1) = mayR s d j ++ (if okB s d (pgN j) = true then [(d, pgN j)] else []) := by
  unfold mayR
  have e : pgs.take (j + 1) = pgs.take j ++ [pgN j] := by
    match j, h with
    | 0, _ => rfl
    | 1, _ => rfl
    | 2, _ => rfl
  rw [e, List.filterMap_append]
  congr 1
  by_cases h : okB s d (pgN j) = true
  · rw [List.filterMap_cons, if_pos h, if_pos h]
    rfl
  · rw [List.filterMap_cons, if_neg h, if_neg h]
    rfl
theorem mayR_len (s : List Pg) (d j : Nat) : (mayR s d j).length ≤ 3 := by
  unfold mayR
  refine Nat.le_trans (List.length_filterMap_le _ _) ?_
  rw [List.length_take]
  show min j 3 ≤ 3
  omega
theorem mayT_len (s : List Pg) : ∀ n, (mayT s n).length ≤ 3 * n
  | 0 => Nat.le_refl _
  | n + 1 => by
    rw [mayT_succ, List.length_append]
    have := mayT_len s n
    have := mayR_len s n 3
    omega
theorem okB_is {s : List Pg} {d : Nat} {o p : Pg} (h : s[d]? = some o) : okB s d p = (decide (p ≠ o) && (!decide (p ∈ s.take d) && !decide (o ∈ s.take d))) := by
  unfold okB
  rw [h]
  dsimp only
  congr 1
  rw [Bool.eq_iff_iff, List.all_eq_true]
  simp only [List.mem_range, Bool.and_eq_true, decide_eq_true_eq, Bool.not_eq_true', decide_eq_false_iff_not]
  have mem : ∀ q : Pg, (q ∈ s.take d) ↔ ∃ k, k < d ∧ s[k]? = some q := fun q => by
    rw [List.mem_iff_getElem?]
    constructor
    · rintro ⟨k, hk⟩
      rw [List.getElem?_take] at hk
      split at hk
      · exact ⟨k, ‹_›, hk⟩
      · cases hk
    · rintro ⟨k, hk, e⟩
      exact ⟨k, by rw [List.getElem?_take, if_pos hk]; exact e⟩
  rw [mem, mem]
  constructor
  · intro z
    exact ⟨fun ⟨k, hk, e⟩ => (z k hk).2 e, fun ⟨k, hk, e⟩ => (z k hk).1 e⟩
  · rintro ⟨z1, z2⟩ k hk
    exact ⟨fun e => z2 ⟨k, hk, e⟩, fun e => z1 ⟨k, hk, e⟩⟩
end Peg

/-! the mathematics, 7: the told ways are walked -/
namespace Peg
/-- a list of moves is gone through -/
def Legal : List Pg → List (Nat × Pg) → List Pg → Prop
  | s, [], t => s = t
  | s, m :: ms, t => m ∈ may s ∧ Legal (aft s m) ms t
/-- .. of steps, where each disc was told too -/
def Legal3 : List Pg → List St3 → List Pg → Prop
  | s, [], t => s = t
  | s, x :: w, t => s[x.1]? = some x.2.1 ∧ (x.1, x.2.2) ∈ may s ∧ Legal3 (s.set x.1 x.2.2) w t
theorem Legal3.out : ∀ {w : List St3} {s t : List Pg}, Legal3 s w t → Legal s (w.map out3) t
  | [], _, _, h => h
  | _ :: _, _, _, h => ⟨h.2.1, Legal3.out h.2.2⟩
theorem Legal3.append : ∀ {v w : List St3} {s u t : List Pg}, Legal3 s v u → Legal3 u w t → Legal3 s (v ++ w) t
  | [], _, _, _, _, h, k => by
    have h' : _ = _ := h
    subst h'
    exact k
  | _ :: _, _, _, _, _, h, k => ⟨h.1, h.2.1, Legal3.append h.2.2 k⟩
theorem may_back {s : List Pg} {d : Nat} {a b : Pg} (h1 : s[d]? = some a) (h2 : (d, b) ∈ may s) : (d, a) ∈ may (s.set d b) := by
  obtain ⟨o, e, hne, hk⟩ := mem_may.mp h2
  dsimp only at e hne hk
  rw [h1] at e
  cases e
  refine mem_may.mpr ⟨b, ?_, fun z => hne z.symm, fun k hk' => ?_⟩
  · show (s.set d b)[d]? = some b
    rw [List.getElem?_set_self (may_len h2)]
  · show (s.set d b)[k]? ≠ some b ∧ (s.set d b)[k]? ≠ some a
    rw [List.getElem?_set_ne (by have : k < d := hk'; omega)]
    exact ⟨(hk k hk').2, (hk k hk').1⟩
theorem set_back {s : List Pg} {d : Nat} {a b : Pg} (h : s[d]? = some a) : (s.set d b).set d a = s := by
  apply List.ext_getElem?
  intro i
  by_cases e : d = i
  · subst e
    have hl := (List.getElem?_eq_some_iff.mp h).1
    rw [List.getElem?_set_self (by rw [List.length_set]; exact hl), h]
  · rw [List.getElem?_set_ne e, List.getElem?_set_ne e]
theorem Legal3.back : ∀ {w : List St3} {s t : List Pg}, Legal3 s w t → Legal3 t (w.reverse.map turn3) s
  | [], _, _, h => Eq.symm h
  | (d, a, b) :: w, s, t, h => by
    obtain ⟨h1, h2, h3⟩ := h
    dsimp only at h1 h2 h3
    rw [List.reverse_cons, List.map_append]
    refine Legal3.append (Legal3.back h3) ⟨?_, may_back h1 h2, ?_⟩
    · show (s.set d b)[d]? = some b
      rw [List.getElem?_set_self (may_len h2)]
    · exact set_back h1
theorem may_more {s : List Pg} {m : Nat × Pg} (r : List Pg) (h : m ∈ may s) : m ∈ may (s ++ r) := by
  have hl := may_len h
  obtain ⟨o, h1, h2, h3⟩ := mem_may.mp h
  refine mem_may.mpr ⟨o, by rw [List.getElem?_append_left hl]; exact h1, h2, fun k hk => ?_⟩
  rw [List.getElem?_append_left (by omega)]
  exact h3 k hk
theorem Legal3.ctx (r : List Pg) : ∀ {w : List St3} {s t : List Pg}, Legal3 s w t → Legal3 (s ++ r) w (t ++ r)
  | [], _, _, h => congrArg (· ++ r) h
  | x :: w, s, t, h => by
    obtain ⟨h1, h2, h3⟩ := h
    have hl := may_len h2
    dsimp only at hl
    refine ⟨by rw [List.getElem?_append_left hl]; exact h1, may_more r h2, ?_⟩
    have e : (s ++ r).set x.1 x.2.2 = s.set x.1 x.2.2 ++ r := List.set_append_left _ _ hl
    rw [e]
    exact Legal3.ctx r h3
theorem steps_legal {p : Pg} {n : Nat} : ∀ (k : Nat) (s : List Pg), n ≤ s.length → toPg s p n = k → Legal3 s (stepsTo s p n) (List.replicate n p ++ s.drop n) ∧ (stepsTo s p n).length = k ∧ ∀ x ∈ stepsTo s p n, x.1 < n := fun k => by
  induction k with
  | zero =>
    intro s hn hk
    cases hf : firstG s p n with
    | some m =>
      have := (first_step hn hf).2
      omega
    | none =>
      rw [steps_none hf]
      have h := first_rep (s := s.take n) hf
      rw [List.length_take, Nat.min_eq_left hn] at h
      refine ⟨?_, rfl, fun x hx => by cases hx⟩
      show s = List.replicate n p ++ s.drop n
      rw [← h, List.take_append_drop]
  | succ k ih =>
    intro s hn hk
    cases hf : firstG s p n with
    | none =>
      have := first_none hf
      omega
    | some m =>
      obtain ⟨h1, h2⟩ := first_step hn hf
      obtain ⟨i1, i2, i3⟩ := ih (s.set m.1 m.2) (by rw [List.length_set]; exact hn) (by omega)
      rw [steps_more hn hf]
      have hml : m.1 < s.length := by omega
      have hm : m ∈ may s := by
        have hf' : firstTo (s.take n).reverse p = some m := hf
        have := may_more (s.drop n) (first_mem hf').1
        rwa [List.take_append_drop] at this
      refine ⟨⟨?_, hm, ?_⟩, by rw [List.length_cons, i2], fun x hx => ?_⟩
      · show s[m.1]? = some (s.getD m.1 0)
        rw [List.getD_eq_getElem?_getD, List.getElem?_eq_getElem hml]
        rfl
      · show Legal3 (s.set m.1 m.2) _ _
        rwa [List.drop_set_of_lt h1] at i1
      · rcases List.mem_cons.mp hx with rfl | hx
        · exact h1
        · exact i3 x hx
theorem stepsTo3 {s : List Pg} {p : Pg} {n : Nat} (hn : n ≤ s.length) : Legal3 s (stepsTo s p n) (List.replicate n p ++ s.drop n) ∧ (stepsTo s p n).length = toPg s p n ∧ ∀ x ∈ stepsTo s p n, x.1 < n := steps_legal _ s hn rfl
theorem stepsFrom3 {t : List Pg} {p : Pg} {n : Nat} (hn : n ≤ t.length) : Legal3 (List.replicate n p ++ t.drop n) (stepsFrom t p n) t ∧ (stepsFrom t p n).length = toPg t p n ∧ ∀ x ∈ stepsFrom t p n, x.1 < n := by
  obtain ⟨h1, h2, h3⟩ := stepsTo3 (p := p) hn
  refine ⟨h1.back, ?_, fun x hx => ?_⟩
  · unfold stepsFrom
    rw [List.length_map, List.length_reverse, h2]
  · unfold stepsFrom at hx
    obtain ⟨y, hy, rfl⟩ := List.mem_map.mp hx
    exact h3 y (List.mem_reverse.mp hy)
/-- the greatest disc goes, all lesser ones on the third peg -/
theorem top3 (m : Nat) (f a b : Pg) (r : List Pg) (h1 : b ≠ a) (h2 : f ≠ a) (h3 : f ≠ b) : Legal3 (List.replicate m f ++ a :: r) [(m, a, b)] (List.replicate m f ++ b :: r) := by
  have hl : (List.replicate m f).length = m := List.length_replicate ..
  have e0 : (List.replicate m f ++ a :: r)[m]? = some a := by
    rw [List.getElem?_append_right (by omega), hl, Nat.sub_self]
    rfl
  refine ⟨e0, mem_may.mpr ⟨a, e0, h1, fun k hk => ?_⟩, ?_⟩
  · have hk' : k < m := hk
    rw [List.getElem?_append_left (by omega), List.getElem?_replicate, if_pos hk']
    exact ⟨fun z => h2 (Option.some.inj z), fun z => h3 (Option.some.inj z)⟩
  · show (List.replicate m f ++ a :: r).set m b = _
    rw [List.set_append_right _ _ (by omega), hl, Nat.sub_self]
    rfl
theorem gu_drop : ∀ s t : List Pg, s.length = t.length → ∀ m, gu s.reverse t.reverse = some m → s.drop (m + 1) = t.drop (m + 1) := by
  refine snoc2_ind (fun m h => by simp [gu] at h) fun s t a b hl ih m h => ?_
  rw [List.reverse_append, List.reverse_append, List.reverse_singleton, List.reverse_singleton, List.singleton_append, List.singleton_append] at h
  by_cases e : a = b
  · rw [gu, if_pos e] at h
    have hm := (gu_some hl.symm h).1
    rw [List.drop_append_of_le_length (by omega), List.drop_append_of_le_length (by omega), ih m h, e]
  · rw [gu, if_neg e, List.length_reverse] at h
    have := Option.some.inj h
    subst this
    rw [List.drop_eq_nil_of_le (by simp), List.drop_eq_nil_of_le (by simp; omega)]
section
variable {s t : List Pg} {m : Nat} (hl : t.length = s.length) (hg : gu s.reverse t.reverse = some m) (h1 : m < s.length) (h2 : m < t.length) (hne : s[m] ≠ t[m])
include hl hg h1 h2 hne
theorem once3 : Legal3 s (onceW s t m s[m] t[m]) t := by
  have hd := gu_drop s t hl.symm m hg
  have ht := thd_ne s[m] t[m] hne
  unfold onceW
  refine Legal3.append (Legal3.append (stepsTo3 (by omega)).1 ?_) (stepsFrom3 (by omega)).1
  rw [List.drop_eq_getElem_cons h1, List.drop_eq_getElem_cons h2, hd]
  exact top3 m _ _ _ _ (Ne.symm hne) ht.1 ht.2
theorem twice3 : Legal3 s (twiceW s t m s[m] t[m]) t := by
  have hd := gu_drop s t hl.symm m hg
  have ht := thd_ne s[m] t[m] hne
  unfold twiceW
  refine Legal3.append (u := List.replicate m s[m] ++ t.drop m) (Legal3.append (u := List.replicate m s[m] ++ thd s[m] t[m] :: t.drop (m + 1)) (Legal3.append (u := List.replicate m t[m] ++ thd s[m] t[m] :: t.drop (m + 1)) (Legal3.append (stepsTo3 (by omega)).1 ?_) ?_) ?_) (stepsFrom3 (by omega)).1
  · rw [List.drop_eq_getElem_cons h1, hd]
    exact top3 m _ _ _ _ ht.1 (Ne.symm hne) (Ne.symm ht.2)
  · have h := (stepsTo3 (s := List.replicate m t[m]) (p := s[m]) (n := m) (by rw [List.length_replicate]; exact Nat.le_refl _)).1
    rw [List.drop_eq_nil_of_le (by rw [List.length_replicate]; exact Nat.le_refl _), List.append_nil] at h
    exact Legal3.ctx _ h
  · rw [List.drop_eq_getElem_cons h2]
    exact top3 m _ _ _ _ (Ne.symm ht.2) (Ne.symm ht.1) hne
theorem once_len : (onceW s t m s[m] t[m]).length = toPg s (thd s[m] t[m]) m + 1 + toPg t (thd s[m] t[m]) m := by
  unfold onceW
  rw [List.length_append, List.length_append, (stepsTo3 (by omega)).2.1, (stepsFrom3 (by omega)).2.1]
  rfl
theorem twice_len : (twiceW s t m s[m] t[m]).length = toPg s t[m] m + 2 ^ m + 1 + toPg t s[m] m := by
  have hr : toPg (List.replicate m t[m]) s[m] m = 2 ^ m - 1 := by
    unfold toPg
    rw [List.take_of_length_le (by rw [List.length_replicate]; exact Nat.le_refl _), List.reverse_replicate]
    exact toP_rep_ne (Ne.symm hne)
  have hp : 0 < 2 ^ m := Nat.pow_pos (by decide)
  unfold twiceW
  rw [List.length_append, List.length_append, List.length_append, List.length_append, (stepsTo3 (by omega)).2.1, (stepsFrom3 (by omega)).2.1, (stepsTo3 (s := List.replicate m t[m]) (by rw [List.length_replicate]; exact Nat.le_refl _)).2.1, hr]
  show _ + 1 + (2 ^ m - 1) + 1 + _ = _
  omega
end
/-- how often a disc goes -/
def goesN (m : Nat) (w : List (Nat × Pg)) : List (Nat × Pg) := w.filter fun x => decide (x.1 = m)
theorem goes_none {m : Nat} {w : List St3} (h : ∀ x ∈ w, x.1 < m) : goesN m (w.map out3) = [] := by
  unfold goesN
  rw [List.filter_eq_nil_iff]
  intro x hx
  obtain ⟨y, hy, rfl⟩ := List.mem_map.mp hx
  have := h y hy
  have e : (out3 y).1 = y.1 := rfl
  rw [e, decide_eq_true_iff]
  omega
theorem goes_append (m : Nat) (v w : List (Nat × Pg)) : goesN m (v ++ w) = goesN m v ++ goesN m w := List.filter_append ..
theorem goes_one (m : Nat) (a b : Pg) : goesN m ([(m, a, b)].map out3) = [(m, b)] := by
  unfold goesN
  simp [out3]
section
variable {s t : List Pg} {m : Nat} (h1 : m ≤ s.length) (h2 : m ≤ t.length)
include h1 h2
theorem goes_once (a b : Pg) : (goesN m ((onceW s t m a b).map out3)).length = 1 := by
  unfold onceW
  rw [List.map_append, List.map_append, goes_append, goes_append, goes_none (stepsTo3 h1).2.2, goes_none (stepsFrom3 h2).2.2, goes_one]
  rfl
theorem goes_twice (a b : Pg) : (goesN m ((twiceW s t m a b).map out3)).length = 2 := by
  unfold twiceW
  rw [List.map_append, List.map_append, List.map_append, List.map_append, goes_append, goes_append, goes_append, goes_append, goes_none (stepsTo3 h1).2.2, goes_none (stepsFrom3 h2).2.2,
    goes_none (stepsTo3 (s := List.replicate m b) (by rw [List.length_replicate]; exact Nat.le_refl _)).2.2, goes_one, goes_one]
  rfl
end
theorem head_steps {s : List Pg} {p : Pg} {n : Nat} (hn : n ≤ s.length) (r : List (Nat × Pg)) (x : Nat × Pg) : ((stepsTo s p n).map out3 ++ x :: r).head? = (firstG s p n).or (some x) := by
  cases hf : firstG s p n with
  | none =>
    rw [steps_none hf]
    rfl
  | some m =>
    rw [steps_more hn hf]
    rfl
/-- all of the ways together -/
theorem ways_good {s t : List Pg} (hl : t.length = s.length) : (∀ w ∈ waysF s t, Legal s w t ∧ w.length = Fr s t) ∧ (waysF s t).length = Mn s t := by
  unfold waysF
  cases hg : gu s.reverse t.reverse with
  | none =>
    have e := gu_eq hl hg
    subst e
    refine ⟨fun w hw => ?_, (Mn_self s).symm⟩
    rw [List.mem_singleton.mp hw]
    exact ⟨rfl, ((Fr_zero rfl).mpr rfl).symm⟩
  | some m =>
    obtain ⟨h1, h2, hne, e1, e2⟩ := gu_some hl hg
    have g1 : s.getD m 0 = s[m] := by rw [List.getD_eq_getElem?_getD, List.getElem?_eq_getElem h1]; rfl
    have g2 : t.getD m 0 = t[m] := by rw [List.getD_eq_getElem?_getD, List.getElem?_eq_getElem h2]; rfl
    have hst : s ≠ t := fun z => by
      subst z
      exact hne rfl
    have o1 := once_len hl hg h1 h2 hne
    have o2 := twice_len hl hg h1 h2 hne
    have hM := Mn_eq s t
    have hO : On s t = once s.reverse t.reverse := rfl
    have hT : Tw s t = twice s.reverse t.reverse := rfl
    dsimp only
    rw [g1, g2]
    refine ⟨fun w hw => ?_, ?_⟩
    · obtain ⟨x, hx, rfl⟩ := List.mem_map.mp hw
      rw [List.length_map, Fr_eq]
      rcases List.mem_append.mp hx with hx | hx
      · by_cases hle : once s.reverse t.reverse ≤ twice s.reverse t.reverse
        · rw [if_pos hle, List.mem_singleton] at hx
          subst hx
          exact ⟨(once3 hl hg h1 h2 hne).out, by omega⟩
        · rw [if_neg hle] at hx
          cases hx
      · by_cases hle : twice s.reverse t.reverse ≤ once s.reverse t.reverse
        · rw [if_pos hle, List.mem_singleton] at hx
          subst hx
          exact ⟨(twice3 hl hg h1 h2 hne).out, by omega⟩
        · rw [if_neg hle] at hx
          cases hx
    · rw [List.length_map, List.length_append, hM]
      by_cases hle : once s.reverse t.reverse ≤ twice s.reverse t.reverse
      · by_cases hle2 : twice s.reverse t.reverse ≤ once s.reverse t.reverse
        · rw [if_pos hle, if_pos hle2, if_pos ⟨by omega, hst⟩]
          rfl
        · rw [if_pos hle, if_neg hle2, if_neg (fun z => hle2 (by omega))]
          rfl
      · rw [if_neg hle, if_pos (by omega), if_neg (fun z => hle (by omega))]
        rfl
theorem ways_goes {s t : List Pg} {m : Nat} (hl : t.length = s.length) (hg : gu s.reverse t.reverse = some m) : (waysF s t).map (fun w => (goesN m w).length) = (if once s.reverse t.reverse ≤ twice s.reverse t.reverse then [1] else []) ++ (if twice s.reverse t.reverse ≤ once s.reverse t.reverse then [2] else []) := by
  obtain ⟨h1, h2, hne, e1, e2⟩ := gu_some hl hg
  unfold waysF
  rw [hg]
  dsimp only
  have k1 := goes_once (s := s) (t := t) (m := m) (by omega) (by omega) (s.getD m 0) (t.getD m 0)
  have k2 := goes_twice (s := s) (t := t) (m := m) (by omega) (by omega) (s.getD m 0) (t.getD m 0)
  generalize s.getD m 0 = a at k1 ⊢
  generalize t.getD m 0 = b at k1 k2 ⊢
  clear h1 h2 hne e1 e2
  have k2' := goes_twice (s := s) (t := t) (m := m) (by have := (gu_some hl hg).1; omega) (by have := (gu_some hl hg).2.1; omega) a b
  by_cases hle : once s.reverse t.reverse ≤ twice s.reverse t.reverse <;> by_cases hle2 : twice s.reverse t.reverse ≤ once s.reverse t.reverse <;> simp [hle, hle2, k1, k2']
theorem ways_head {s t : List Pg} (hl : t.length = s.length) (hne : s ≠ t) : ∃ w r, waysF s t = w :: r ∧ ∃ x, w.head? = some x ∧ nextM s.reverse t.reverse = some x := by
  cases hg : gu s.reverse t.reverse with
  | none => exact absurd (gu_eq hl hg) hne
  | some m =>
    obtain ⟨h1, h2, hne', e1, e2⟩ := gu_some hl hg
    have hn := gu_next hl hg h1 h2
    have g1 : s.getD m 0 = s[m] := by rw [List.getD_eq_getElem?_getD, List.getElem?_eq_getElem h1]; rfl
    have g2 : t.getD m 0 = t[m] := by rw [List.getD_eq_getElem?_getD, List.getElem?_eq_getElem h2]; rfl
    unfold waysF
    rw [hg]
    dsimp only
    rw [g1, g2]
    have orS : ∀ (o : Option (Nat × Pg)) (y : Nat × Pg), ∃ x, o.or (some y) = some x := fun o y => by
      cases o with
      | none => exact ⟨y, rfl⟩
      | some z => exact ⟨z, rfl⟩
    by_cases hle : once s.reverse t.reverse ≤ twice s.reverse t.reverse
    · rw [if_pos hle] at hn ⊢
      refine ⟨_, _, rfl, ?_⟩
      obtain ⟨x, hx⟩ := orS (firstG s (thd s[m] t[m]) m) (m, t[m])
      refine ⟨x, ?_, by rw [hn, hx]⟩
      rw [← hx, ← head_steps (s := s) (by omega) ((stepsFrom t (thd s[m] t[m]) m).map out3) (m, t[m])]
      unfold onceW
      dsimp only
      rw [List.map_append, List.map_append, List.append_assoc]
      rfl
    · rw [if_neg hle] at hn ⊢
      rw [if_pos (by omega)]
      refine ⟨_, _, rfl, ?_⟩
      obtain ⟨x, hx⟩ := orS (firstG s t[m] m) (m, thd s[m] t[m])
      refine ⟨x, ?_, by rw [hn, hx]⟩
      rw [← hx, ← head_steps (s := s) (by omega) (((stepsTo (List.replicate m t[m]) s[m] m ++ [(m, thd s[m] t[m], t[m])]) ++ stepsFrom t s[m] m).map out3) (m, thd s[m] t[m])]
      unfold twiceW
      dsimp only
      rw [List.map_append, List.map_append, List.map_append, List.map_append, List.map_append, List.map_append, List.append_assoc, List.append_assoc, List.append_assoc, List.append_assoc]
      rfl
end Peg

namespace Pd
open PySem PySem.Spec PyProof.Rows L2 Peg
theorem isAmong_nat {k : Nat} {hi : Int} (h : (k : Int) ≤ hi) : isAmong (dN k) 0 hi = true := by
  show (decide ((0 : Int) ≤ (k : Int)) && decide ((k : Int) ≤ hi)) = true
  rw [decide_eq_true (by omega), decide_eq_true h]
  rfl
theorem powZ (n : Nat) : (1 : Int) * 2 ^ ((n : Int)).toNat = ((2 ^ n : Nat) : Int) := by simp
theorem bitZ (k m : Nat) : Builtin.bitAnd ((k : Int) / 2 ^ ((m : Int)).toNat) 1 = ((k / 2 ^ m % 2 : Nat) : Int) := by
  rw [bitAnd_m1, Int.toNat_natCast]
  simp
theorem depth_dS (s : List Pg) : PyData.depth (dS s) ≤ 2 := by
  have h := depth_pgs s
  simp only [PyData.depth]
  omega
theorem canLay_sets : ∀ l : List (List Pg), PyData.canLayAll0 (l.map dS) = true
  | [] => rfl
  | s :: l => by
    simp only [List.map_cons, PyData.canLayAll0, PyData.canLay0, canLay_pgs s, canLay_sets l]
    rfl
theorem depth_sets : ∀ l : List (List Pg), PyData.depthAll (l.map dS) ≤ 2
  | [] => by simp [PyData.depthAll]
  | s :: l => by
    have := depth_sets l
    have := depth_dS s
    simp only [List.map_cons, PyData.depthAll]
    omega
theorem shp_sets (l : List (List Pg)) : SeqAt.shaped (.list (l.map dS)) = true := by
  show (PyData.canLay0 (.list (l.map dS)) && decide (PyData.depth (.list (l.map dS)) ≤ 64)) = true
  have h := depth_sets l
  rw [Bool.and_eq_true]
  refine ⟨?_, decide_eq_true ?_⟩
  · simp only [PyData.canLay0]
    exact canLay_sets l
  · simp only [PyData.depth]
    omega
theorem any_sets {l : List (List Pg)} {t : List Pg} (h : t ∈ l) : ((l.map dS).any fun z => PyData.eqv z (dS t)) = true := by
  rw [List.any_map, List.any_eq_true]
  exact ⟨t, h, by
    show PyData.eqv (dS t) (dS t) = true
    rw [eqv_dS]
    exact decide_eq_true rfl⟩
theorem kept_whole (s : List Pg) : kept (s.map dP) (fun _ => true) (fun d => .bool (isIntB d && !isBoolB d)) = (List.replicate s.length true).map PyData.bool := by
  rw [kept_all, List.map_map, List.map_replicate]
  induction s with
  | nil => rfl
  | cons p s ih => rw [List.map_cons, ih]; rfl
theorem all_true (n : Nat) : (List.replicate n true).all id = true := by
  rw [List.all_eq_true]
  exact fun b hb => by rw [List.eq_of_mem_replicate hb]; rfl
theorem at_four {a b c d : Int} (x : Nat) : ∃ i : Int, atI [PyData.int a, .int b, .int c, .int d] ((x : Int) / 8 % 4) = some (.int i) := by
  have e : (x : Int) / 8 % 4 = ((x / 8 % 4 : Nat) : Int) := by omega
  rw [e]
  have : x / 8 % 4 = 0 ∨ x / 8 % 4 = 1 ∨ x / 8 % 4 = 2 ∨ x / 8 % 4 = 3 := by omega
  rcases this with h | h | h | h <;> rw [h]
  · exact ⟨a, rfl⟩
  · exact ⟨b, rfl⟩
  · exact ⟨c, rfl⟩
  · exact ⟨d, rfl⟩
theorem ev_revN {K : PySem.W.Frag} {c : Cc} {δ : DEnv} {te : TE} {ds : List PyData} (h : EvD K c te δ (.list ds)) : EvN K c (tRevL K te) δ ds.reverse := fun σ H ts td s Q q =>
  h σ H ts td s _ fun v H3 s3 => by
    obtain ⟨G, rn, e, t⟩ := s3
    cases t with
    | cons hv t =>
      obtain ⟨p, xs, rfl, hp, r1⟩ := hv.lst_inv
      refine ⟨p, xs, rfl, SqL.of (rn.h _ _ hp), fun l hl => ?_⟩
      have r' := Run.newg (o := .lst xs.reverse) rn.h hl
      exact q _ _ ⟨G, _, rn.trans r', e.run r', t, rn.k.free hl, rn.h.free hl, upd_same, r1.reverse, own_ne e hl⟩
abbrev dT3 (x : St3) : PyData := .tuple [dN x.1, dP x.2.1, dP x.2.2]
abbrev dRow (w : List St3) : PyData := .list (w.map dT3)
def t3D : PyData → St3
  | .tuple [.int a, .int b, .int c] => (a.toNat, pgN b.toNat, pgN c.toNat)
  | _ => (0, 0, 0)
theorem t3D_dT3 (x : St3) : t3D (dT3 x) = x := by
  obtain ⟨a, p, q⟩ := x
  show ((a : Int).toNat, pgN ((p.val : Nat) : Int).toNat, pgN ((q.val : Nat) : Int).toNat) = (a, p, q)
  rw [Int.toNat_natCast, show pgN ((p.val : Nat) : Int).toNat = p from pgD_dP p, show pgN ((q.val : Nat) : Int).toNat = q from pgD_dP q]
def rowD : PyData → List St3
  | .list ds => ds.map t3D
  | _ => []
theorem rowD_dRow (w : List St3) : rowD (dRow w) = w := by
  show (w.map dT3).map t3D = w
  rw [List.map_map]
  have : t3D ∘ dT3 = id := funext t3D_dT3
  rw [this, List.map_id]
theorem kept_t3 (l : List St3) (g : St3 → PyData) : kept (l.map dT3) (fun _ => true) (fun d => g (t3D d)) = l.map g := by
  rw [kept_all, List.map_map]
  refine List.map_congr_left fun x _ => ?_
  show g (t3D (dT3 x)) = g x
  rw [t3D_dT3]
theorem kept_rows (l : List (List St3)) (g : List St3 → PyData) : kept (l.map dRow) (fun _ => true) (fun d => g (rowD d)) = l.map g := by
  rw [kept_all, List.map_map]
  refine List.map_congr_left fun x _ => ?_
  show g (rowD (dRow x)) = g x
  rw [rowD_dRow]
/-- an order of the pegs -/
abbrev dO (f : Pg → Pg) : PyData := .tuple [dP (f 0), dP (f 1), dP (f 2)]
theorem at_ord (f : Pg → Pg) (p : Pg) : atI [dP (f 0), dP (f 1), dP (f 2)] ((p.val : Nat) : Int) = some (dP (f p)) := by
  rcases pg3 p with rfl | rfl | rfl <;> rfl
theorem kept_called (s : List Pg) (f : Pg → Pg) : kept (s.map dP) (fun _ => true) (fun d => dP (f (pgD d))) = (s.map f).map dP := by
  rw [kept_all, List.map_map, List.map_map]
  refine List.map_congr_left fun x _ => ?_
  show dP (f (pgD (dP x))) = dP (f x)
  rw [pgD_dP]
def ordF : Fin 6 → Pg → Pg
  | 0, p => p
  | 1, p => if p = 0 then 0 else if p = 1 then 2 else 1
  | 2, p => if p = 0 then 1 else if p = 1 then 0 else 2
  | 3, p => if p = 0 then 1 else if p = 1 then 2 else 0
  | 4, p => if p = 0 then 2 else if p = 1 then 0 else 1
  | 5, p => if p = 0 then 2 else if p = 1 then 1 else 0
theorem ordF_inj : ∀ k a b, ordF k a = ordF k b → a = b := by decide
abbrev dOrders : List PyData := [.tuple [.int 0, .int 1, .int 2], .tuple [.int 0, .int 2, .int 1], .tuple [.int 1, .int 0, .int 2], .tuple [.int 1, .int 2, .int 0], .tuple [.int 2, .int 0, .int 1], .tuple [.int 2, .int 1, .int 0]]
theorem at_orders (x : Nat) : ∃ f : Pg → Pg, (∀ a b, f a = f b → a = b) ∧ atI dOrders ((x : Int) / 128 % 6) = some (dO f) := by
  have e : (x : Int) / 128 % 6 = ((x / 128 % 6 : Nat) : Int) := by omega
  rw [e]
  have : x / 128 % 6 = 0 ∨ x / 128 % 6 = 1 ∨ x / 128 % 6 = 2 ∨ x / 128 % 6 = 3 ∨ x / 128 % 6 = 4 ∨ x / 128 % 6 = 5 := by omega
  rcases this with h | h | h | h | h | h <;> rw [h]
  · exact ⟨ordF 0, ordF_inj 0, rfl⟩
  · exact ⟨ordF 1, ordF_inj 1, rfl⟩
  · exact ⟨ordF 2, ordF_inj 2, rfl⟩
  · exact ⟨ordF 3, ordF_inj 3, rfl⟩
  · exact ⟨ordF 4, ordF_inj 4, rfl⟩
  · exact ⟨ordF 5, ordF_inj 5, rfl⟩
/-! lists of lists of moves -/
theorem canLay_rows : ∀ l : List (List (Nat × Pg)), PyData.canLayAll0 (l.map dMs) = true
  | [] => rfl
  | s :: l => by
    simp only [List.map_cons, PyData.canLayAll0, PyData.canLay0, canLay_ms s, canLay_rows l]
    rfl
theorem depth_rows : ∀ l : List (List (Nat × Pg)), PyData.depthAll (l.map dMs) ≤ 3
  | [] => by simp [PyData.depthAll]
  | s :: l => by
    have := depth_rows l
    have := depth_ms s
    simp only [List.map_cons, PyData.depthAll, PyData.depth]
    omega
theorem shp_rows (l : List (List (Nat × Pg))) : SeqAt.shaped (.list (l.map dMs)) = true := by
  show (PyData.canLay0 (.list (l.map dMs)) && decide (PyData.depth (.list (l.map dMs)) ≤ 64)) = true
  have h := depth_rows l
  rw [Bool.and_eq_true]
  refine ⟨?_, decide_eq_true ?_⟩
  · simp only [PyData.canLay0]
    exact canLay_rows l
  · simp only [PyData.depth]
    omega
theorem eqv_rowsA : ∀ l : List (List (Nat × Pg)), PyData.eqvAll (l.map dMs) (l.map dMs) = true
  | [] => by simp [PyData.eqvAll]
  | s :: l => by
    have h := eqv_ms s
    simp only [List.map_cons, PyData.eqvAll, eqv_rowsA l, h]
    rfl
theorem eqv_rows (l : List (List (Nat × Pg))) : PyData.eqv (.list (l.map dMs)) (.list (l.map dMs)) = true := by
  simp only [PyData.eqv, eqv_rowsA]
theorem ev_ifS {K : PySem.W.Frag} {c : Cc} {δ : DEnv} {tt : TT} {ta tb : TE} {a : Bool} {x y : PyData} (h : EvT K c tt δ a) (h1 : a = true → EvD K c ta δ x) (h2 : a = false → EvD K c tb δ y) : EvD K c (tIf tt ta tb) δ (if a = true then x else y) := by
  cases a with
  | true => exact ev_if h (fun e => (h1 rfl)) (fun e => by cases e)
  | false => exact ev_if h (fun e => by cases e) (fun e => h2 rfl)
theorem kept_mv (l : List (Nat × Pg)) (g : Nat × Pg → PyData) : kept (l.map dM) (fun _ => true) (fun d => g (mvD d)) = l.map g := by
  rw [kept_all, List.map_map]
  refine List.map_congr_left fun x _ => ?_
  show g (mvD (dM x)) = g x
  rw [mvD_dM]
def rowM : PyData → List (Nat × Pg)
  | .list ds => ds.map mvD
  | _ => []
theorem rowM_dMs (w : List (Nat × Pg)) : rowM (dMs w) = w := by
  show (w.map dM).map mvD = w
  rw [List.map_map]
  have : mvD ∘ dM = id := funext mvD_dM
  rw [this, List.map_id]
theorem kept_rowM (l : List (List (Nat × Pg))) (g : List (Nat × Pg) → PyData) : kept (l.map dMs) (fun _ => true) (fun d => g (rowM d)) = l.map g := by
  rw [kept_all, List.map_map]
  refine List.map_congr_left fun x _ => ?_
  show g (rowM (dMs x)) = g x
  rw [rowM_dMs]
theorem shp_Mo (o : Option (Nat × Pg)) : SeqAt.shaped (dMo o) = true := by
  cases o with
  | none => rfl
  | some m => exact shp_dM m
theorem eqv_Mo (o : Option (Nat × Pg)) : PyData.eqv (dMo o) (dMo o) = true := by
  cases o with
  | none => rfl
  | some m =>
    show PyData.eqv (dM m) (dM m) = true
    rw [eqv_dM]
    exact decide_eq_true rfl
def discs11 (x : Nat) : Nat := if x / 64 % 2 = 0 then x % 9 else x % 60
theorem discs11_at (x : Nat) : atI [PyData.int ((x : Int) % 9), .int ((x : Int) % 60)] ((x : Int) / 64 % 2) = some (dN (discs11 x)) := by
  have e : (x : Int) / 64 % 2 = ((x / 64 % 2 : Nat) : Int) := by omega
  rw [e]
  refine atI_nat ?_
  unfold discs11
  have : x / 64 % 2 = 0 ∨ x / 64 % 2 = 1 := by omega
  rcases this with h | h
  · rw [h, if_pos rfl]
    rfl
  · rw [h, if_neg (by decide)]
    rfl
theorem discs11_le (x : Nat) : discs11 x ≤ 59 := by
  unfold discs11
  split <;> omega
/-! ### moves to the peg beside -/
theorem flat_pgs : ∀ s : List Pg, (s.map dP).all flatD = true
  | [] => rfl
  | p :: s => by
    rw [List.map_cons, List.all_cons, flat_pgs s]
    rfl
theorem eqV_int (i j : Int) : eqV (.int i) (.int j) = decide (i = j) := by
  unfold eqV
  by_cases h : i = j <;> simp [h]
theorem inF_pgs (p : Pg) (s : List Pg) : inF (dP p) (s.map dP) = decide (p ∈ s) := by
  unfold inF
  rw [List.any_map]
  induction s with
  | nil => simp
  | cons q s ih =>
    rw [List.any_cons, ih]
    show (eqV (.int ((q.val : Nat) : Int)) (.int ((p.val : Nat) : Int)) || decide (p ∈ s)) = decide (p ∈ q :: s)
    rw [eqV_int]
    by_cases e : p = q
    · subst e
      simp
    · have : ¬ ((q.val : Nat) : Int) = ((p.val : Nat) : Int) := fun z => e (pg_ne.mp z).symm
      simp [this, e]
theorem kept_near (s : List Pg) : kept ((may s).map dM) (fun d => nearB s (mvD d)) id = (nearMs s).map dM := by
  unfold kept nearMs
  rw [List.filter_map, List.map_id]
  congr 1
  refine List.filter_congr fun x _ => ?_
  show nearB s (mvD (dM x)) = nearB s x
  rw [mvD_dM]
theorem near_abs {s : List Pg} {m : Nat × Pg} (h : m.1 < s.length) : decide ((if ((s[m.1].val : Nat) : Int) - ((m.2.val : Nat) : Int) < 0 then -(((s[m.1].val : Nat) : Int) - ((m.2.val : Nat) : Int)) else ((s[m.1].val : Nat) : Int) - ((m.2.val : Nat) : Int)) = 1) = nearB s m := by
  unfold nearB
  rw [List.getElem?_eq_getElem h]
  dsimp only
  generalize s[m.1].val = a
  generalize m.2.val = b
  by_cases e : a = b + 1 ∨ b = a + 1
  · rw [decide_eq_true e, decide_eq_true]
    split <;> omega
  · rw [decide_eq_false e, decide_eq_false]
    split <;> omega
theorem lg60 {n : Nat} (h : n ≤ 3 ^ 60) (h0 : 0 < n) : ((n : Int)).natAbs.log2 < 9000 := by
  rw [Int.natAbs_natCast]
  have : n.log2 < 100 := (Nat.log2_lt (by omega)).mpr (Nat.lt_of_le_of_lt h (by decide))
  omega
def rowD1 (n : Nat) : PyData → List Pg
  | .int i => rowS n i.toNat
  | _ => []
theorem rowAt_num {s t : List Pg} (h : s.length = t.length) {i : Nat} (hi : i ≤ dist s t) : ∃ k : Nat, (rn s : Int) + (i : Int) * (if rn s ≤ rn t then 1 else -1) = (k : Int) ∧ k < 3 ^ s.length := by
  have h1 := rn_lt s
  have h2 := rn_lt t
  rw [← h] at h2
  unfold dist at hi
  by_cases e : rn s ≤ rn t
  · rw [if_pos e]
    exact ⟨rn s + i, by omega, by omega⟩
  · rw [if_neg e]
    exact ⟨rn s - i, by omega, by omega⟩
theorem rowAt_is {s t : List Pg} (h : s.length = t.length) {i k : Nat} (hi : i ≤ dist s t) (e : (rn s : Int) + (i : Int) * (if rn s ≤ rn t then 1 else -1) = (k : Int)) : rowS s.length k = rowAt s t i := by
  unfold rowAt
  unfold dist at hi
  by_cases q : rn s ≤ rn t
  · rw [if_pos q] at e ⊢
    congr 1
    omega
  · rw [if_neg q] at e ⊢
    congr 1
    omega
theorem row_pairs {s t : List Pg} {n i : Nat} {x y : PyData} (hx : ((List.range (n + 1)).map fun i => dS (rowAt s t i))[i]? = some x) (hy : (((List.range (n + 1)).map fun i => dS (rowAt s t i)).drop 1)[i]? = some y) : i < n ∧ x = dS (rowAt s t i) ∧ y = dS (rowAt s t (i + 1)) := by
  rw [List.getElem?_drop, List.getElem?_map] at hy
  rw [List.getElem?_map] at hx
  by_cases h : i < n
  · rw [List.getElem?_range (by omega)] at hx hy
    refine ⟨h, (Option.some.inj hx).symm, ?_⟩
    rw [Nat.add_comm 1 i] at hy
    exact (Option.some.inj hy).symm
  · rw [List.getElem?_eq_none (by rw [List.length_range]; omega)] at hy
    cases hy
theorem row_zip (s t : List Pg) (n : Nat) : dZip ((List.range (n + 1)).map fun i => dS (rowAt s t i)) (((List.range (n + 1)).map fun i => dS (rowAt s t i)).drop 1) = (List.range n).map fun i => PyData.tuple [dS (rowAt s t i), dS (rowAt s t (i + 1))] := by
  apply List.ext_getElem?
  intro i
  cases h : (dZip ((List.range (n + 1)).map fun i => dS (rowAt s t i)) (((List.range (n + 1)).map fun i => dS (rowAt s t i)).drop 1))[i]? with
  | some d =>
    obtain ⟨x, y, hx, hy, rfl⟩ := dZip_get h
    obtain ⟨hi, rfl, rfl⟩ := row_pairs hx hy
    rw [List.getElem?_map, List.getElem?_range hi]
    rfl
  | none =>
    have hl := List.getElem?_eq_none_iff.mp h
    unfold dZip at hl
    rw [List.length_zipWith, List.length_drop, List.length_map, List.length_range] at hl
    rw [List.getElem?_eq_none (by rw [List.length_map, List.length_range]; omega)]
def boolD : PyData → Bool
  | .bool b => b
  | _ => false
theorem near_abs2 {s : List Pg} {m : Nat × Pg} (h : m.1 < s.length) : decide ((if ((m.2.val : Nat) : Int) - ((s[m.1].val : Nat) : Int) < 0 then -(((m.2.val : Nat) : Int) - ((s[m.1].val : Nat) : Int)) else ((m.2.val : Nat) : Int) - ((s[m.1].val : Nat) : Int)) = 1) = nearB s m := by
  unfold nearB
  rw [List.getElem?_eq_getElem h]
  dsimp only
  generalize s[m.1].val = a
  generalize m.2.val = b
  by_cases e : a = b + 1 ∨ b = a + 1
  · rw [decide_eq_true e, decide_eq_true]
    split <;> omega
  · rw [decide_eq_false e, decide_eq_false]
    split <;> omega
end Pd

namespace Pd
open PySem PySem.Spec PyProof.Rows L2 Peg
def inRow (z : Nat) : PyData → Bool
  | .int j => decide ((0 : Int) ≤ j) && decide (j < (z : Int))
  | _ => false
theorem kept_beside (s : List Pg) : kept [PyData.int ((rn s : Int) - 1), .int ((rn s : Int) + 1)] (inRow (3 ^ s.length)) id = ((beside s).map fun k : Nat => (k : Int)).map PyData.int := by
  have hl := rn_lt s
  unfold kept beside
  rw [List.map_id, List.filter_cons, List.filter_cons, List.filter_nil]
  have e1 : inRow (3 ^ s.length) (.int ((rn s : Int) - 1)) = decide (0 < rn s) := by
    show (decide ((0 : Int) ≤ (rn s : Int) - 1) && decide ((rn s : Int) - 1 < ((3 ^ s.length : Nat) : Int))) = _
    by_cases h : 0 < rn s
    · rw [decide_eq_true h, decide_eq_true (by omega), decide_eq_true (by omega)]
      rfl
    · rw [decide_eq_false h, decide_eq_false (by omega)]
      rfl
  have e2 : inRow (3 ^ s.length) (.int ((rn s : Int) + 1)) = decide (rn s + 1 < 3 ^ s.length) := by
    show (decide ((0 : Int) ≤ (rn s : Int) + 1) && decide ((rn s : Int) + 1 < ((3 ^ s.length : Nat) : Int))) = _
    by_cases h : rn s + 1 < 3 ^ s.length
    · rw [decide_eq_true h, decide_eq_true (by omega), decide_eq_true (by omega)]
      rfl
    · rw [decide_eq_false h, decide_eq_true (by omega), decide_eq_false (by omega)]
      rfl
  rw [e1, e2]
  by_cases h1 : 0 < rn s <;> by_cases h2 : rn s + 1 < 3 ^ s.length <;> simp only [h1, h2, decide_true, decide_false, if_true, if_false, List.nil_append, List.append_nil, List.map_nil, List.map_cons, List.cons_append, Bool.false_eq_true]
  · congr 2
    · omega
  · congr 2
    omega
  · rfl
theorem eqv_dNs (l : List Nat) : PyData.eqv (.list (l.map (PyData.int ∘ fun k : Nat => (k : Int)))) (.list (l.map (PyData.int ∘ fun k : Nat => (k : Int)))) = true := by
  have h : ∀ l : List Nat, PyData.eqvAll (l.map (PyData.int ∘ fun k : Nat => (k : Int))) (l.map (PyData.int ∘ fun k : Nat => (k : Int))) = true := by
    intro l
    induction l with
    | nil => simp [PyData.eqvAll]
    | cons a l ih =>
      rw [List.map_cons, PyData.eqvAll, ih]
      simp [PyData.eqv]
  simp only [PyData.eqv, h]
theorem far_on {x i : Nat} : ∃ f : Nat, atI [PyData.int ((x : Int) / 256 % 40), .int (2990 + (x : Int) / 256 % 20)] ((x : Int) / 16384 % 4 / 3 * (if decide ((i : Int) < 6) = true then 1 else 0)) = some (dN f) := by
  have h : (x : Int) / 16384 % 4 / 3 * (if decide ((i : Int) < 6) = true then 1 else 0) = ((0 : Nat) : Int) ∨ (x : Int) / 16384 % 4 / 3 * (if decide ((i : Int) < 6) = true then 1 else 0) = ((1 : Nat) : Int) := by
    split <;> omega
  rcases h with h | h
  · rw [h]
    exact ⟨x / 256 % 40, atI_nat (by show some (PyData.int ((x : Int) / 256 % 40)) = some (PyData.int ((x / 256 % 40 : Nat) : Int)); rfl)⟩
  · rw [h]
    exact ⟨2990 + x / 256 % 20, atI_nat (by show some (PyData.int (2990 + (x : Int) / 256 % 20)) = some (PyData.int ((2990 + x / 256 % 20 : Nat) : Int)); rfl)⟩
theorem shp_str {x : Str} (h : PyData.strOk x = true) : SeqAt.shaped (.str x) = true := by
  show (PyData.canLay0 (.str x) && decide (PyData.depth (.str x) ≤ 64)) = true
  simp [PyData.canLay0, PyData.depth, h]
theorem eqv_str (x : Str) : PyData.eqv (.str x) (.str x) = true := by simp [PyData.eqv]
end Pd

namespace Pd
open PySem PySem.Spec PyProof.Rows L2 Peg
/-! ### what is refused -/
/-- no two unlike pegs -/
def badPegs (x y : PyData) : Prop := isAmong x 0 2 = false ∨ (∃ a : Pg, x = dP a ∧ isAmong y 0 2 = false) ∨ ∃ a : Pg, x = dP a ∧ y = dP a
/-- what two askings' setting and other one do: the class that is due -/
def RaiseP (aS aU : Addr) (x y : PyData) (C : Addr) : Prop := okD x = true ∧ okD y = true ∧ ((isSetD x = false ∧ C = aS) ∨ (∃ s : List Pg, x = dS s ∧ s.length ≤ 60 ∧ isSetD y = false ∧ C = aS) ∨
  ∃ s t : List Pg, x = dS s ∧ y = dS t ∧ s.length ≤ 60 ∧ t.length ≤ 60 ∧ s.length ≠ t.length ∧ C = aU)
def MoreBad (aP aD aC : Addr) (e : Int) (ds : List PyData) (C : Addr) : Prop :=
  (e = 0 ∧ ∃ (s : List Pg) (p : PyData), ds = [dS s, p] ∧ s.length ≤ 60 ∧ plainD p = true ∧ isAmong p 0 2 = false ∧ C = aP) ∨
  (e = 1 ∧ ∃ (s : List Pg) (p q : PyData), ds = [dS s, p, q] ∧ s.length ≤ 60 ∧ (plainD p = true ∧ plainD q = true) ∧ badPegs p q ∧ C = aP) ∨
  (e = 2 ∧ ∃ x p : PyData, ds = [x, p] ∧ (plainD x = true ∧ plainD p = true) ∧ ((isAmong x 0 60 = false ∧ C = aD) ∨ ∃ n : Nat, x = dN n ∧ n ≤ 60 ∧ isAmong p 0 2 = false ∧ C = aP)) ∨
  (e = 3 ∧ ∃ x k : PyData, ds = [x, k] ∧ (plainD x = true ∧ plainD k = true) ∧ ((isAmong x 0 60 = false ∧ C = aD) ∨ ∃ n : Nat, x = dN n ∧ n ≤ 60 ∧ isAmong k 0 (((3 ^ n : Nat) : Int) - 1) = false ∧ C = aC)) ∨
  (e = 4 ∧ ∃ x p q k : PyData, ds = [x, p, q, k] ∧ (plainD x = true ∧ plainD p = true ∧ plainD q = true ∧ plainD k = true) ∧
    ((isAmong x 0 60 = false ∧ C = aD) ∨ (∃ n : Nat, x = dN n ∧ n ≤ 60 ∧ badPegs p q ∧ C = aP) ∨ ∃ (n : Nat) (a b : Pg), x = dN n ∧ n ≤ 60 ∧ a ≠ b ∧ p = dP a ∧ q = dP b ∧ isAmong k 0 (((2 ^ n : Nat) : Int) - 1) = false ∧ C = aC))
def TriedP (aS aU aP aD aC : Addr) (kind e : Int) (ds : List PyData) (C : Addr) : Prop :=
  (kind = 0 ∧ ∃ x : PyData, ds = [x] ∧ (0 ≤ e ∧ e ≤ 6) ∧ okD x = true ∧ isSetD x = false ∧ C = aS) ∨
  (kind = 1 ∧ ∃ x y : PyData, ds = [x, y] ∧ (0 ≤ e ∧ e ≤ 7) ∧ RaiseP aS aU x y C) ∨ (kind = 2 ∧ MoreBad aP aD aC e ds C)
section
variable {K : PySem.W.Frag} {c : Cc} {δ : DEnv} {ds : List PyData} {te tb : TE} {g : TG} {tt : TT} {vs : List Nat} {C : Addr} {f : PyData}
theorem evx_lc (h : EvX K c te δ C f) : EvX K c (tLc (iSeq K te) g tt tb vs) δ C f := fun σ H ts td s Q q => h σ H ts td s _ q
theorem ev_emp : EvD K c tDNewK δ dEmp := fun σ H ts td s Q q => fun p hp => by
  obtain ⟨G, rn, e, t⟩ := s
  have r' := Run.new (o := .dK []) rn.h hp
  exact q _ _ ⟨_, rn.trans r', e.run r', .cons (.emp upd_same) (t.ex r'.g)⟩
theorem cn_listT : CallN K (rListP K) [.tuple ds] ds := fun G H vs e r Q q => by
  obtain ⟨v, rfl, hv⟩ := r.one
  obtain ⟨p, xs, rfl, hp, r1⟩ := hv.tup_inv
  exact ⟨p, xs, rfl, .inr (SqT.of (e _ _ hp)), fun l hl => q l xs G _ (Run.newg e hl) hl (e.free hl) upd_same r1⟩
end
/-- one of a list's items by a number's rest -/
theorem at_mod {ds : List PyData} {m : Int} {n : Nat} (h0 : 0 ≤ m) (hn : ds.length = n) (hp : 0 < n) : ∃ z ∈ ds, atI ds (m % (n : Int)) = some z := by
  have h1 : 0 ≤ m % (n : Int) := Int.emod_nonneg _ (by omega)
  have h2 : m % (n : Int) < n := Int.emod_lt_of_pos _ (by omega)
  obtain ⟨k, hk⟩ : ∃ k : Nat, m % (n : Int) = (k : Int) := ⟨(m % (n : Int)).toNat, by omega⟩
  have hl : k < ds.length := by omega
  refine ⟨ds[k], List.getElem_mem hl, ?_⟩
  rw [hk]
  exact atI_nat (List.getElem?_eq_getElem hl)
theorem among_no {i lo hi : Int} (h : ¬ (lo ≤ i ∧ i ≤ hi)) : isAmong (.int i) lo hi = false := by
  show (decide (lo ≤ i) && decide (i ≤ hi)) = false
  by_cases h1 : lo ≤ i
  · rw [decide_eq_false (p := i ≤ hi) fun z => h ⟨h1, z⟩, Bool.and_false]
  · rw [decide_eq_false h1, Bool.false_and]
theorem isSetD_more (s : List Pg) : isSetD (.tuple ((s.map dP).take 59 ++ [.int 3])) = false := by
  show (decide (((s.map dP).take 59 ++ [PyData.int 3]).length ≤ 60) && ((s.map dP).take 59 ++ [PyData.int 3]).all fun d => isAmong d 0 2) = false
  rw [List.all_append, show ([PyData.int 3].all fun d => isAmong d 0 2) = false by decide, Bool.and_false, Bool.and_false]
theorem isSetD_long (n : Nat) (h : 60 < n) (d : PyData) : isSetD (.tuple (List.replicate n d)) = false := by
  show (decide ((List.replicate n d).length ≤ 60) && _) = false
  rw [List.length_replicate, decide_eq_false (by omega), Bool.false_and]
end Pd

namespace Pd
open PySem PySem.Spec PyProof.Rows L2 Peg
theorem cut_last (s : List Pg) : PyData.tuple (cutD (s.map dP) none (some (-1))) = dS s.dropLast := by
  unfold cutD
  rw [HT.sIx_none, List.drop_zero, Nat.sub_zero]
  have e : HT.sIx (s.map dP).length (s.map dP).length (some (-1)) = s.length - 1 := by
    show (if (-1 : Int) < 0 then ((-1 : Int) + ((s.map dP).length : Int)).toNat else min (-1 : Int).toNat (s.map dP).length) = s.length - 1
    rw [if_pos (by decide), List.length_map]
    omega
  rw [e, dS, List.dropLast_eq_take, List.map_take]
theorem eqv_words {a b : Str} (h : a = b) : PyData.eqv (.str a) (.str b) = true := by
  subst h
  exact eqv_str a
end Pd

namespace Pd
open PySem PySem.Spec PyProof.Rows L2 Peg
/-! ### moves that may be, or not -/
def mvOf : PyData → Option (Nat × Pg)
  | .tuple [.int i, .int j] => if 0 ≤ i ∧ 0 ≤ j ∧ j ≤ 2 then some (i.toNat, pgN j.toNat) else none
  | _ => none
def moveB (s : List Pg) (d : PyData) : Bool := match mvOf d with
  | some m => decide (m ∈ may s)
  | none => false
theorem mvOf_dM (m : Nat × Pg) : mvOf (dM m) = some m := by
  obtain ⟨a, p⟩ := m
  have h := p.isLt
  show (if (0 : Int) ≤ (a : Int) ∧ (0 : Int) ≤ ((p.val : Nat) : Int) ∧ ((p.val : Nat) : Int) ≤ 2 then some ((a : Int).toNat, pgN ((p.val : Nat) : Int).toNat) else none) = some (a, p)
  rw [if_pos ⟨by omega, by omega, by omega⟩, Int.toNat_natCast, show pgN ((p.val : Nat) : Int).toNat = p from pgD_dP p]
theorem moveB_dM (s : List Pg) (m : Nat × Pg) : moveB s (dM m) = decide (m ∈ may s) := by
  unfold moveB
  rw [mvOf_dM]
theorem any_may (s : List Pg) (m : Nat × Pg) : ((may s).map dM).any (fun z => PyData.eqv z (dM m)) = decide (m ∈ may s) := by
  rw [List.any_map]
  induction may s with
  | nil => simp
  | cons a l ih =>
    rw [List.any_cons, ih]
    show (PyData.eqv (dM a) (dM m) || decide (m ∈ l)) = decide (m ∈ a :: l)
    rw [eqv_dM]
    by_cases e : a = m
    · subst e
      simp
    · have e' : ¬ m = a := fun z => e z.symm
      simp [e, e']
theorem moveB_len {s : List Pg} {ds : List PyData} (h : ds.length ≠ 2) : moveB s (.tuple ds) = false := by
  unfold moveB mvOf
  split
  · rename_i m hm
    split at hm
    · rename_i i j heq
      cases heq
      exact absurd rfl h
    · cases hm
  · rfl
/-- two ints in range are a move's -/
theorem moveB_in {s : List Pg} {a b : PyData} (h1 : isAmong a 0 ((s.length : Int) - 1) = true) (h2 : isAmong b 0 2 = true) : ∃ m : Nat × Pg, PyData.tuple [a, b] = dM m := by
  cases a with
  | int i =>
    cases b with
    | int j =>
      have h1' := Bool.and_eq_true_iff.mp (show (decide (0 ≤ i) && decide (i ≤ (s.length : Int) - 1)) = true from h1)
      have h2' := Bool.and_eq_true_iff.mp (show (decide (0 ≤ j) && decide (j ≤ 2)) = true from h2)
      have a1 := of_decide_eq_true h1'.1
      have b1 := of_decide_eq_true h2'.1
      have b2 := of_decide_eq_true h2'.2
      obtain ⟨p, hp⟩ : ∃ p : Nat, j = (p : Int) := ⟨j.toNat, by omega⟩
      obtain ⟨q, hq⟩ : ∃ q : Nat, i = (q : Int) := ⟨i.toNat, by omega⟩
      subst hp hq
      exact ⟨(q, ⟨p, by omega⟩), rfl⟩
    | _ => cases h2
  | _ => cases h1
theorem moveB_out {s : List Pg} {a b : PyData} (h : ¬ (isAmong a 0 ((s.length : Int) - 1) = true ∧ isAmong b 0 2 = true)) : moveB s (.tuple [a, b]) = false := by
  cases q : moveB s (.tuple [a, b]) with
  | false => rfl
  | true =>
    exfalso
    unfold moveB at q
    cases hm : mvOf (.tuple [a, b]) with
    | none =>
      rw [hm] at q
      cases q
    | some m =>
      rw [hm] at q
      have q' := may_len (of_decide_eq_true q)
      cases a with
      | int i =>
        cases b with
        | int j =>
          have hm' : (if 0 ≤ i ∧ 0 ≤ j ∧ j ≤ 2 then some (i.toNat, pgN j.toNat) else none) = some m := hm
          split at hm'
          · rename_i hc
            have e := Option.some.inj hm'
            subst e
            have q2 : i.toNat < s.length := q'
            refine h ⟨?_, ?_⟩
            · show (decide (0 ≤ i) && decide (i ≤ (s.length : Int) - 1)) = true
              rw [decide_eq_true hc.1, decide_eq_true (by omega)]
              rfl
            · show (decide (0 ≤ j) && decide (j ≤ 2)) = true
              rw [decide_eq_true hc.2.1, decide_eq_true hc.2.2]
              rfl
          · cases hm'
        | _ => cases hm
      | _ => cases hm
theorem sd_retAtI {K : PySem.W.Frag} {c : Cc} {δ : DEnv} {te : TE} {N : DEnv → Prop} {R : Rs → Prop} {i n : Nat} {m : Int} {ds : List PyData} (h : δ[i]? = some (some (Cel.val (.list ds)))) (hl : ds.length = n) (hp : 0 < n) (h0 : 0 ≤ m) (hi : EvD K c te δ (.int (m % (n : Int)))) (hR : ∀ z ∈ ds, R (.val z)) :
    SD K c (tRet (tOp (rIx K) (tVar i) te)) δ N R := by
  obtain ⟨z, hz, hat⟩ := at_mod h0 hl hp
  exact sd_ret (ev_op (ev_var h) hi (od_ixL hat)) (hR z hz)
/-- a disc's moves that may not be -/
theorem kept_not (s : List Pg) (k : Nat) : ∃ l : List (Nat × Pg), l.length ≤ 3 ∧ (∀ m ∈ l, m ∉ may s) ∧ kept (dRange 0 3) (fun d => match d with | .int j => !decide ((k, pgN j.toNat) ∈ may s) | _ => false) (fun d => match d with | .int j => dM (k, pgN j.toNat) | _ => .none) = l.map dM := by
  refine ⟨(pgs.filter fun p => !decide ((k, p) ∈ may s)).map fun p => (k, p), ?_, fun m hm => ?_, ?_⟩
  · rw [List.length_map]
    exact Nat.le_trans (List.length_filter_le _ _) (by decide)
  · obtain ⟨p, hp, rfl⟩ := List.mem_map.mp hm
    have h := (List.mem_filter.mp hp).2
    simpa using h
  · show ((dRange 0 3).filter _).map _ = _
    have e : dRange 0 3 = pgs.map dP := rfl
    rw [e, List.filter_map, List.map_map, List.map_map]
    have e2 : ∀ p : Pg, pgN ((p.val : Nat) : Int).toNat = p := fun p => pgD_dP p
    have e3 : ((fun d => match d with | .int j => !decide ((k, pgN j.toNat) ∈ may s) | _ => false) ∘ dP) = fun p => !decide ((k, p) ∈ may s) := by
      funext p
      show (!decide ((k, pgN ((p.val : Nat) : Int).toNat) ∈ may s)) = _
      rw [e2]
    rw [e3]
    refine List.map_congr_left fun p _ => ?_
    show dM (k, pgN ((p.val : Nat) : Int).toNat) = dM (k, p)
    rw [e2]
theorem eqv_tups (s : List Pg) : PyData.eqv (dS s) (dS s) = true := by
  rw [eqv_dS]
  exact decide_eq_true rfl
end Pd

namespace Pd
open PySem PySem.Spec PyProof.Rows L2 Peg
/-! ### a walk -/
def WalkOk (x : Nat → List Pg) (ms : List (Nat × Pg)) : Prop := ∀ i m, ms[i]? = some m → m ∈ may (x i) ∧ aft (x i) m = x (i + 1)
def rowL (x : Nat → List Pg) (n : Nat) : List PyData := ((List.range (n + 1)).map x).map dS
theorem rowL_len (x : Nat → List Pg) (n : Nat) : (rowL x n).length = n + 1 := by simp [rowL]
theorem rowL_succ (x : Nat → List Pg) (n : Nat) : rowL x (n + 1) = rowL x n ++ [dS (x (n + 1))] := by
  unfold rowL
  rw [List.range_succ, List.map_append, List.map_append]
  rfl
theorem rowL_last (x : Nat → List Pg) (n : Nat) : atI (rowL x n) (-1) = some (dS (x n)) := by
  unfold rowL
  rw [List.range_succ, List.map_append, List.map_append]
  exact atI_last _ _
theorem rowL_at (x : Nat → List Pg) {n a : Nat} (h : a ≤ n) : atI (rowL x n) (a : Int) = some (dS (x a)) := by
  refine atI_nat ?_
  unfold rowL
  rw [List.getElem?_map, List.getElem?_map, List.getElem?_range (by omega)]
  rfl
theorem walk_len {x : Nat → List Pg} {ms : List (Nat × Pg)} (h : WalkOk x ms) : ∀ i, i ≤ ms.length → (x i).length = (x 0).length
  | 0, _ => rfl
  | i + 1, hi => by
    have h1 : ms[i]? = some ms[i] := List.getElem?_eq_getElem (by omega)
    obtain ⟨_, h2⟩ := h i _ h1
    rw [← h2, aft_len]
    exact walk_len h i (by omega)
def WalkA (x : Nat → List Pg) (d : PyData) (ms : List (Nat × Pg)) : Prop := d = dMs ms ∧ ms.length ≤ 1000 ∧ WalkOk x ms
def WalkB (x : Nat → List Pg) (d f : PyData) : Prop := (plainD d = true ∧ isLstB d = false ∧ f = .none) ∨ ∃ (ms : List (Nat × Pg)) (w : PyData) (rest : List PyData), d = .list (ms.map dM ++ w :: rest) ∧ (ms.map dM ++ w :: rest).length ≤ 1000 ∧ WalkOk x ms ∧ okD w = true ∧ moveB (x ms.length) w = false ∧ f = .int (ms.length : Int)
theorem WalkB.fld {x : Nat → List Pg} {d f : PyData} (h : WalkB x d f) : fldD f = true := by
  rcases h with ⟨_, _, rfl⟩ | ⟨ms, w, rest, _, _, _, _, _, rfl⟩ <;> rfl
/-- where one is behind so many moves -/
def walkAt (s : List Pg) (ms : List (Nat × Pg)) (i : Nat) : List Pg := (ms.take i).foldl aft s
theorem walkAt_more (s : List Pg) (ms : List (Nat × Pg)) (m : Nat × Pg) {i : Nat} (h : i ≤ ms.length) : walkAt s (ms ++ [m]) i = walkAt s ms i := by
  unfold walkAt
  rw [List.take_append_of_le_length h]
theorem walkAt_end (s : List Pg) (ms : List (Nat × Pg)) (m : Nat × Pg) : walkAt s (ms ++ [m]) (ms.length + 1) = aft (walkAt s ms ms.length) m := by
  unfold walkAt
  rw [List.take_of_length_le (by simp), List.take_length, List.foldl_append]
  rfl
theorem walk_more {s : List Pg} {ms : List (Nat × Pg)} {m : Nat × Pg} (h : WalkOk (walkAt s ms) ms) (hm : m ∈ may (walkAt s ms ms.length)) : WalkOk (walkAt s (ms ++ [m])) (ms ++ [m]) := fun i k hk => by
  by_cases hi : i < ms.length
  · rw [List.getElem?_append_left hi] at hk
    rw [walkAt_more s ms m (by omega), walkAt_more s ms m (by omega)]
    exact h i k hk
  · have e : i = ms.length := by
      have := (List.getElem?_eq_some_iff.mp hk).1
      rw [List.length_append, List.length_singleton] at this
      omega
    subst e
    rw [List.getElem?_concat_length] at hk
    cases hk
    rw [walkAt_more s ms m (Nat.le_refl _), walkAt_end]
    exact ⟨hm, rfl⟩
theorem row_more (s : List Pg) (ms : List (Nat × Pg)) (m : Nat × Pg) : rowL (walkAt s (ms ++ [m])) (ms.length + 1) = rowL (walkAt s ms) ms.length ++ [dS (aft (walkAt s ms ms.length) m)] := by
  rw [rowL_succ, walkAt_end]
  congr 1
  unfold rowL
  rw [List.map_map, List.map_map]
  refine List.map_congr_left fun i hi => ?_
  have := List.mem_range.mp hi
  show dS (walkAt s (ms ++ [m]) i) = dS (walkAt s ms i)
  rw [walkAt_more s ms m (by omega)]
theorem walk_take {x : Nat → List Pg} {ms : List (Nat × Pg)} (h : WalkOk x ms) (a : Nat) : WalkOk x (ms.take a) := fun i m hm => by
  rw [List.getElem?_take] at hm
  split at hm
  · exact h i m hm
  · cases hm
theorem eqv_setsA : ∀ l : List (List Pg), PyData.eqvAll (l.map dS) (l.map dS) = true
  | [] => by simp [PyData.eqvAll]
  | s :: l => by
    rw [List.map_cons, PyData.eqvAll, eqv_setsA l, eqv_tups]
    rfl
theorem eqv_sets (l : List (List Pg)) : PyData.eqv (.list (l.map dS)) (.list (l.map dS)) = true := by
  simp only [PyData.eqv, eqv_setsA]
theorem kept_tups (l : List (List Pg)) : kept (l.map dS) (fun _ => true) (fun d => .bool (isTupB d)) = (List.replicate l.length true).map PyData.bool := by
  rw [kept_all, List.map_map, List.map_replicate]
  induction l with
  | nil => rfl
  | cons p s ih => rw [List.map_cons, ih]; rfl
end Pd

namespace Pd
open PySem PySem.Spec PyProof.Rows L2 Peg
theorem kept_goes (m : Nat) (ms : List (Nat × Pg)) : kept (ms.map dM) (fun d => decide ((mvD d).1 = m)) id = (goesN m ms).map dM := by
  unfold kept goesN
  rw [List.filter_map, List.map_id]
  congr 1
end Pd

/-! own dicts with tuples of ints as keys, beside the data of a state -/
namespace Pd
open PySem PySem.Spec PyProof.Rows L2
/-! ### tables -/
abbrev Tab := List (List Int × PyData)
abbrev Lck := Option (Obj × Addr)
abbrev DSt := Nat → Option (Lck × Tab)
def lckO : Lck → List (List Key × V) → HO
  | none, kvs => .dT kvs
  | some (o, _), kvs => .frz o (.dT kvs)
def look (tb : Tab) (k : List Int) : Option PyData := (tb.find? fun x => decide (x.1 = k)).map (·.2)
def putT (tb : Tab) (k : List Int) (d : PyData) : Tab := if (tb.any fun x => decide (x.1 = k)) = true then tb.map (fun x => if x.1 = k then (x.1, d) else x) else tb ++ [(k, d)]
abbrev keyT (k : List Int) : PyData := .tuple (k.map PyData.int)
abbrev keysT (tb : Tab) : List PyData := tb.map fun x => keyT x.1
abbrev kI (k : List Int) : List Key := k.map Sum.inl
theorem kI_inj : ∀ {a b : List Int}, kI a = kI b ↔ a = b
  | [], [] => by simp
  | [], _ :: _ => by simp
  | _ :: _, [] => by simp
  | x :: xs, y :: ys => by
    have ih := kI_inj (a := xs) (b := ys)
    simp only [List.map_cons, List.cons.injEq, Sum.inl.injEq] at ih ⊢
    rw [ih]
theorem kI_kV (k : List Int) : (kI k).map kV = k.map V.int := by
  rw [List.map_map]
  rfl
inductive TabR (K : PySem.W.Frag) (G : Hp) : List (List Key × V) → Tab → Prop
  | nil : TabR K G [] []
  | cons {k : List Int} {v : V} {d : PyData} {kvs : List (List Key × V)} {tb : Tab} : Rp K G v d → TabR K G kvs tb → TabR K G ((kI k, v) :: kvs) ((k, d) :: tb)
section
variable {K : PySem.W.Frag} {G G' H H' : Hp} {kvs : List (List Key × V)} {tb : Tab} {k : List Int} {d : PyData} {v : V}
theorem TabR.ex (e : Ex G G') (r : TabR K G kvs tb) : TabR K G' kvs tb := by
  induction r with
  | nil => exact .nil
  | cons h _ ih => exact .cons (h.ex e) ih
theorem TabR.length (r : TabR K G kvs tb) : kvs.length = tb.length := by
  induction r with
  | nil => rfl
  | cons _ _ ih => rw [List.length_cons, List.length_cons, ih]
theorem look_nil : look [] k = none := rfl
theorem look_cons (x : List Int × PyData) (tb : Tab) : look (x :: tb) k = if x.1 = k then some x.2 else look tb k := by
  unfold look
  rw [List.find?_cons]
  by_cases h : x.1 = k
  · rw [decide_eq_true h, if_pos h]
    rfl
  · rw [decide_eq_false h, if_neg h]
theorem TabR.val (r : TabR K G kvs tb) : (∀ d, look tb k = some d → ∃ v, valV kvs (kI k) = some v ∧ Rp K G v d) ∧ (look tb k = none → valV kvs (kI k) = none) := by
  induction r with
  | nil => exact ⟨fun d h => (by cases h), fun _ => rfl⟩
  | @cons k' v d' kvs tb h _ ih =>
    rw [look_cons]
    by_cases e : k' = k
    · rw [if_pos e, valV_pos (p := (kI k', v)) (kI_inj.mpr e)]
      exact ⟨fun d q => ⟨v, rfl, by cases q; exact h⟩, fun q => by cases q⟩
    · rw [if_neg e, valV_neg (p := (kI k', v)) (fun q => e (kI_inj.mp q))]
      exact ih
theorem TabR.any (r : TabR K G kvs tb) : (kvs.any fun kv => decide (kv.1 = kI k)) = tb.any fun x => decide (x.1 = k) := by
  induction r with
  | nil => rfl
  | @cons k' v d' kvs tb h _ ih =>
    rw [List.any_cons, List.any_cons, ih]
    congr 1
    exact decide_eq_decide.mpr kI_inj
theorem TabR.map (r : TabR K G kvs tb) (h : Rp K G v d) : TabR K G (kvs.map fun kv => if kv.1 = kI k then (kv.1, v) else kv) (tb.map fun x => if x.1 = k then (x.1, d) else x) := by
  induction r with
  | nil => exact .nil
  | @cons k' v' d' kvs tb h' _ ih =>
    rw [List.map_cons, List.map_cons]
    by_cases e : k' = k
    · rw [if_pos (show (kI k', v').1 = kI k from kI_inj.mpr e), if_pos e]
      exact .cons h ih
    · rw [if_neg (show ¬ (kI k', v').1 = kI k from fun q => e (kI_inj.mp q)), if_neg e]
      exact .cons h' ih
theorem TabR.snoc (r : TabR K G kvs tb) (h : Rp K G v d) : TabR K G (kvs ++ [(kI k, v)]) (tb ++ [(k, d)]) := by
  induction r with
  | nil => exact .cons h .nil
  | cons h' _ ih => exact .cons h' ih
theorem TabR.put (r : TabR K G kvs tb) (h : Rp K G v d) : TabR K G (putK kvs (kI k) v) (putT tb k d) := by
  unfold putK putT
  rw [r.any]
  by_cases e : (tb.any fun x => decide (x.1 = k)) = true
  · rw [if_pos e, if_pos e]
    exact r.map h
  · rw [if_neg e, if_neg e]
    exact r.snoc h
theorem TabR.get {i : Nat} (r : TabR K G kvs tb) {q : List Key × V} (h : kvs[i]? = some q) : ∃ k d, tb[i]? = some (k, d) ∧ q.1 = kI k := by
  induction r generalizing i with
  | nil => simp at h
  | @cons k' v d' kvs tb h' _ ih =>
    cases i with
    | zero =>
      have e := Option.some.inj h
      subst e
      exact ⟨k', d', rfl, rfl⟩
    | succ i => exact ih h
theorem lck_rd (l : Lck) {a : Addr} (h : H a = some (lckO l kvs)) : Rd H a (.dT kvs) := by
  cases l with
  | none => exact .inl h
  | some x => exact .inr ⟨x.1, h⟩
/-! ### what is known of all but some dicts -/
def Nd : HO → Prop
  | .dT _ => False
  | .frz _ (.dT _) => False
  | _ => True
theorem nd_lck (l : Lck) : ¬ Nd (lckO l kvs) := by
  cases l <;> exact id
theorem sqL_nd {a : Addr} {xs : List V} (e : ∀ a o, G a = some o → Nd o → G' a = some o) (h : SqL K G a xs) : SqL K G' a xs := by
  rcases h with (h | ⟨o, h⟩) | h
  · exact .inl (.inl (e _ _ h trivial))
  · exact .inl (.inr ⟨o, e _ _ h trivial⟩)
  · exact .inr h
theorem ExF.nd {o : Option Addr} {f : PyData} (e : ∀ a o, G a = some o → Nd o → G' a = some o) : ExF G o f → ExF G' o f
  | .non => .non
  | .atI h => .atI (e _ _ h trivial)
  | .atN h => .atN (e _ _ h trivial)
mutual
theorem Rp.nd (e : ∀ a o, G a = some o → Nd o → G' a = some o) : ∀ {v : V} {d : PyData}, Rp K G v d → Rp K G' v d
  | _, _, .non => .non
  | _, _, .bl b => .bl b
  | _, _, .int i => .int i
  | _, _, .str x => .str x
  | _, _, .lst h r => .lst (e _ _ h trivial) (RpAll.nd e r)
  | _, _, .tup h r => .tup (e _ _ h trivial) (RpAll.nd e r)
  | _, _, .emp h => .emp (e _ _ h trivial)
  | _, _, .scr h => .scr (sqL_nd e h)
  | _, _, .exc h f => .exc (e _ _ h trivial) (f.nd e)
  | _, _, .ty n => .ty n
  | _, _, .cls C => .cls C
theorem RpAll.nd (e : ∀ a o, G a = some o → Nd o → G' a = some o) : ∀ {vs : List V} {ds : List PyData}, RpAll K G vs ds → RpAll K G' vs ds
  | _, _, .nil => .nil
  | _, _, .cons h r => .cons (Rp.nd e h) (RpAll.nd e r)
end
theorem TabR.nd (e : ∀ a o, G a = some o → Nd o → G' a = some o) (r : TabR K G kvs tb) : TabR K G' kvs tb := by
  induction r with
  | nil => exact .nil
  | cons h _ ih => exact .cons (h.nd e) ih
/-- a key that is there comes to be known -/
theorem see_key {a : Addr} (e : Ex G H) (h : H a = some (.tup ((kI k).map kV))) : ∃ G', Run G H G' H ∧ Rp K G' (.ref a) (keyT k) := by
  rw [kI_kV] at h
  exact ⟨_, Run.seeT e h, .tup (if_pos rfl) (RpAll.ints k)⟩
theorem see_keys (e : Ex G H) : ∀ {kvs : List (List Key × V)} {tb : Tab} {bs : List Addr}, TabR K G kvs tb → IsKeys H kvs bs → ∃ G', Run G H G' H ∧ RpAll K G' (bs.map V.ref) (keysT tb)
  | _, _, _, .nil, .nil => ⟨G, Run.refl e, .nil⟩
  | _, _, _, .cons h r, .cons h1 t => by
    obtain ⟨G1, r1, x1⟩ := see_keys e r t
    obtain ⟨G2, r2, x2⟩ := see_key (K := K) r1.h h1
    exact ⟨G2, r1.trans r2, .cons x2 (x1.ex r2.g)⟩
theorem lenK (r : TabR K G kvs tb) : (keysT tb).length = kvs.length := by rw [List.length_map, r.length]
end
/-! ### readings of dicts that are known -/
def DK (K : PySem.W.Frag) (c : Cc) (p : Addr) (l : Lck) (tb : Tab) : Prop := ∃ kvs, c.G p = some (lckO l kvs) ∧ TabR K c.G kvs tb
section
variable {K : PySem.W.Frag} {c : Cc} {δ : DEnv} {p : Addr} {l : Lck} {tb : Tab} {k : List Int} {d x : PyData} {td tk tx : TE}
theorem dget_at {G H : Hp} {y : V} (hd : DK K c p l tb) (e : Ex c.G G) (eh : Ex G H) (hy : Rp K G y (keyT k)) : ∃ o, DGet H p y o ∧ (∀ d, look tb k = some d → ∃ v, o = some v ∧ Rp K G v d) ∧ (look tb k = none → o = none) := by
  obtain ⟨kvs, h1, h2⟩ := hd
  obtain ⟨b, xs, rfl, hb, hxs⟩ := hy.tup_inv
  have hx := hxs.ints_inv
  subst hx
  have h3 := h2.ex e
  obtain ⟨q1, q2⟩ := h3.val (k := k)
  exact ⟨valV kvs (kI k), .inr ⟨kvs, kI k, b, lck_rd l (eh _ _ (e _ _ h1)), rfl, by rw [kI_kV]; exact eh _ _ hb, rfl⟩, q1, q2⟩
theorem ev_dget (hd : DK K c p l tb) (ha : EvD K c td δ (dCls p)) (hb : EvD K c tk δ (keyT k)) (hl : look tb k = some d) : EvD K c (tDGet td tk) δ d := fun σ H ts td' s Q q =>
  ha σ H ts td' s _ fun v H1 s1 => hb σ H1 _ _ s1 _ fun y H2 s2 => by
    obtain ⟨G, rn, e, t⟩ := s2
    cases t with
    | cons hy t =>
      cases t with
      | cons hv t =>
        obtain ⟨o, g, g1, _⟩ := dget_at hd rn.g rn.h hy
        obtain ⟨w, rfl, hw⟩ := g1 d hl
        exact ⟨p, w, hv.cls_inv, g, q w H2 ⟨G, rn, e, .cons hw t⟩⟩
theorem ev_dnotin (hd : DK K c p l tb) (hb : EvD K c tk δ (keyT k)) (ha : EvD K c td δ (dCls p)) : EvD K c (tDNotIn tk td) δ (.bool (!(look tb k).isSome)) := fun σ H ts td' s Q q =>
  hb σ H ts td' s _ fun y H1 s1 => ha σ H1 _ _ s1 _ fun v H2 s2 => by
    obtain ⟨G, rn, e, t⟩ := s2
    cases t with
    | cons hv t =>
      cases t with
      | cons hy t =>
        obtain ⟨o, g, g1, g2⟩ := dget_at hd rn.g rn.h hy
        have ho : o.isSome = (look tb k).isSome := by
          cases hl : look tb k with
          | none => rw [g2 hl]; rfl
          | some d =>
            obtain ⟨w, rfl, _⟩ := g1 d hl
            rfl
        refine ⟨p, o, hv.cls_inv, g, q _ H2 ⟨G, rn, e, .cons ?_ t⟩⟩
        rw [ho]
        exact .bl _
theorem ev_dget2 (hd : DK K c p l tb) (ha : EvD K c td δ (dCls p)) (hb : EvD K c tk δ (keyT k)) (hx : EvD K c tx δ x) : EvD K c (tDGet2 td tk tx) δ ((look tb k).getD x) := fun σ H ts td' s Q q =>
  ha σ H ts td' s _ fun v H1 s1 => by
    have hisd : v = .ref p ∧ IsD H1 p := by
      obtain ⟨G, rn, e, t⟩ := s1
      cases t with
      | cons hv t =>
        obtain ⟨kvs, h1, _⟩ := hd
        exact ⟨hv.cls_inv, .inr ⟨kvs, lck_rd l (rn.h _ _ (rn.g _ _ h1))⟩⟩
    refine ⟨p, hisd.1, hisd.2, hb σ H1 _ _ s1 _ fun y H2 s2 => hx σ H2 _ _ s2 _ fun z H3 s3 => ?_⟩
    obtain ⟨G, rn, e, t⟩ := s3
    cases t with
    | cons hz t =>
      cases t with
      | cons hy t =>
        cases t with
        | cons hv t =>
          obtain ⟨o, g, g1, g2⟩ := dget_at hd rn.g rn.h hy
          refine ⟨o, g, q _ H3 ⟨G, rn, e, .cons ?_ t⟩⟩
          cases hl : look tb k with
          | none =>
            rw [g2 hl]
            exact hz
          | some d =>
            obtain ⟨w, rfl, hw⟩ := g1 d hl
            exact hw
theorem ev_dlen {i : Nat} (hd : DK K c p none tb) (h : δ[i]? = some (cv (dCls p))) : EvD K c (tCB rLenT (tCons (tVar i) tNil)) δ (.int (tb.length : Int)) := fun σ H ts td' s Q q => by
  obtain ⟨G, rn, e, t⟩ := s
  obtain ⟨v, sp, hv⟩ := e.val i _ h
  have hv' := hv.cls_inv
  subst hv'
  obtain ⟨kvs, h1, h2⟩ := hd
  refine ⟨_, sp, p, kvs, rfl, rn.h _ _ (rn.g _ _ h1), q _ H ⟨G, rn, e, .cons ?_ t⟩⟩
  rw [h2.length]
  exact .int _
end
/-! ### states -/
structure Dcs (K : PySem.W.Frag) (H0 G H : Hp) (σ : L2.St) (Δ : DSt) : Prop where
  un : ∀ i tb, Δ i = some (none, tb) → ∃ p kvs, σ[i]? = some (some (V.ref p)) ∧ H0 p = none ∧ G p = none ∧ H p = some (.dT kvs) ∧ TabR K G kvs tb
  lk : ∀ i o p tb, Δ i = some (some (o, p), tb) → σ[i]? = some (some (V.ref p)) ∧ ∃ kvs, G p = some (.frz o (.dT kvs)) ∧ TabR K G kvs tb
  dis : ∀ i j x y, Δ i = some x → Δ j = some y → σ[i]? = σ[j]? → i = j
def up (Δ : DSt) (i : Nat) (x : Option (Lck × Tab)) : DSt := fun j => if j = i then x else Δ j
def StaD (K : PySem.W.Frag) (c : Cc) (δ : DEnv) (Δ : DSt) (σ : L2.St) (H : Hp) : Prop := ∃ G, Run c.G c.H G H ∧ EnvOk K c.H G H σ δ ∧ noOwnE δ ∧ Dcs K c.H G H σ Δ
def SDD (K : PySem.W.Frag) (c : Cc) (t : TS) (δ : DEnv) (Δ : DSt) (N : DEnv → DSt → Prop) (R : Rs → Prop) : Prop := ∀ (σ : L2.St) (H : Hp) (D : Ends), StaD K c δ Δ σ H →
  (∀ δ' Δ' σ' H', N δ' Δ' → StaD K c δ' Δ' σ' H' → D.nx σ' H') → (∀ r v H', R r → StaR K c r v H' → D.rt v H') → t D σ H
section
variable {K : PySem.W.Frag} {c : Cc} {δ δ' : DEnv} {Δ Δ' : DSt} {σ σ' : L2.St} {G H G' H' H0 H1 : Hp} {i j n : Nat} {l : Lck} {tb : Tab} {p : Addr} {d : PyData} {v : V} {ds : List PyData}
theorem up_self {x : Option (Lck × Tab)} : up Δ i x i = x := if_pos rfl
theorem up_ne {x : Option (Lck × Tab)} (h : j ≠ i) : up Δ i x j = Δ j := if_neg h
theorem up_up {x y : Option (Lck × Tab)} : up (up Δ i x) i y = up Δ i y := by
  funext j
  unfold up
  split <;> rfl
theorem up_same {x : Option (Lck × Tab)} (h : Δ i = x) : up Δ i x = Δ := by
  funext j
  unfold up
  split
  · rename_i e
    rw [e, h]
  · rfl
theorem Dcs.run (s : Dcs K H0 G H σ Δ) (r : Run G H G' H') : Dcs K H0 G' H' σ Δ :=
  ⟨fun i tb h => by
    obtain ⟨p, kvs, a, b, c, d, e⟩ := s.un i tb h
    obtain ⟨k1, k2⟩ := r.own c d
    exact ⟨p, kvs, a, b, k1, k2, e.ex r.g⟩, fun i o p tb h => by
    obtain ⟨a, kvs, b, e⟩ := s.lk i o p tb h
    exact ⟨a, kvs, r.g _ _ b, e.ex r.g⟩, s.dis⟩
theorem Dcs.sig (s : Dcs K H0 G H σ Δ) (h : ∀ i, Δ i ≠ none → σ'[i]? = σ[i]?) : Dcs K H0 G H σ' Δ := by
  have ne : ∀ {i x}, Δ i = some x → Δ i ≠ none := fun q => by rw [q]; exact fun z => by cases z
  refine ⟨fun i tb q => ?_, fun i o p tb q => ?_, fun i j x y q1 q2 q3 => ?_⟩
  · rw [h i (ne q)]
    exact s.un i tb q
  · rw [h i (ne q)]
    exact s.lk i o p tb q
  · rw [h i (ne q1), h j (ne q2)] at q3
    exact s.dis i j x y q1 q2 q3
/-- a slot is let go -/
theorem Dcs.drop (s : Dcs K H0 G H σ Δ) (n : Nat) : Dcs K H0 G H σ (up Δ n none) := by
  have old : ∀ {i x}, up Δ n none i = some x → i ≠ n ∧ Δ i = some x := fun {i x} q => by
    by_cases e : i = n
    · rw [e, up_self] at q
      cases q
    · rw [up_ne e] at q
      exact ⟨e, q⟩
  exact ⟨fun i tb q => s.un i tb (old q).2, fun i o p tb q => s.lk i o p tb (old q).2, fun i j x y q1 q2 q3 => s.dis i j x y (old q1).2 (old q2).2 q3⟩
theorem Dcs.unset (s : Dcs K H0 G H σ Δ) {x : Option V} : Dcs K H0 G H (σ.set n x) (up Δ n none) :=
  (s.drop n).sig fun i h => List.getElem?_set_ne fun e => h (by rw [← e]; exact up_self)
theorem StaD.le (s : StaD K c δ Δ σ H) (l : Le δ' δ) : StaD K c δ' Δ σ H := by
  obtain ⟨G, r, e, no, dc⟩ := s
  exact ⟨G, r, e.le l, fun i es h => no i es (l.2 _ _ h), dc⟩
theorem envOk_ex (e : EnvOk K H0 G H σ δ) (no : noOwnE δ) (x : Ex G G') : EnvOk K H1 G' H' σ δ :=
  ⟨e.len, fun i d h => by
    obtain ⟨v, a, b⟩ := e.val i d h
    exact ⟨v, a, b.ex x⟩, fun i es h => absurd h (no i es), fun i j es fs h => absurd h (no i es)⟩
theorem envOk_nd (e : EnvOk K H0 G H σ δ) (no : noOwnE δ) (x : ∀ a o, G a = some o → Nd o → G' a = some o) : EnvOk K H1 G' H' σ δ :=
  ⟨e.len, fun i d h => by
    obtain ⟨v, a, b⟩ := e.val i d h
    exact ⟨v, a, b.nd x⟩, fun i es h => absurd h (no i es), fun i j es fs h => absurd h (no i es)⟩
/-- all the dicts known for a while -/
theorem StaD.lent (s : StaD K c δ Δ σ H) : ∃ (A : Nat → Addr) (G1 : Hp), (∀ i l tb, Δ i = some (l, tb) → σ[i]? = some (some (V.ref (A i))) ∧ DK K ⟨G1, c.H, c.W⟩ (A i) l tb) ∧ Run G1 c.H G1 H ∧ EnvOk K c.H G1 H σ δ ∧ noOwnE δ ∧
    (∀ G2 H1, Run G1 c.H G2 H1 → ∃ Gn, Run c.G c.H Gn H1 ∧ EnvOk K c.H Gn H1 σ δ ∧ Dcs K c.H Gn H1 σ Δ ∧ ∀ v d, Rp K G2 v d → Rp K Gn v d) := by
  classical
  obtain ⟨G, r, e, no, dc⟩ := s
  let B : Addr → Prop := fun a => ∃ i tb, Δ i = some (none, tb) ∧ σ[i]? = some (some (V.ref a))
  have hB : ∀ a, B a → G a = none ∧ c.H a = none ∧ ∃ kvs, H a = some (.dT kvs) := fun a ⟨i, tb, h1, h2⟩ => by
    obtain ⟨p, kvs, q1, q2, q3, q4, _⟩ := dc.un i tb h1
    rw [h2] at q1
    cases q1
    exact ⟨q3, q2, kvs, q4⟩
  let G1 : Hp := fun a => (G a).or (if B a then H a else none)
  have e1 : Ex G G1 := fun a o h => by
    show (G a).or _ = some o
    rw [h, Option.some_or]
  have g0 : ∀ a, B a → G1 a = H a := fun a h => by
    show (G a).or _ = H a
    rw [(hB a h).1, Option.none_or, if_pos h]
  have gn : ∀ a, ¬ B a → G1 a = G a := fun a h => by
    show (G a).or _ = G a
    rw [if_neg h, Option.or_none]
  have e2 : Ex G1 H := fun a o h => by
    by_cases b : B a
    · rw [g0 a b] at h
      exact h
    · rw [gn a b] at h
      exact r.h a o h
  let A : Nat → Addr := fun i => match σ[i]? with
    | some (some (V.ref a)) => a
    | _ => 0
  have hA : ∀ i a, σ[i]? = some (some (V.ref a)) → A i = a := fun i a h => by
    show (match σ[i]? with
    | some (some (V.ref a)) => a
    | _ => 0) = a
    rw [h]
  refine ⟨A, G1, fun i l tb h => ?_, ⟨Ex.refl _, e2, r.k, fun a o h n => by
    have n' : G1 a = none := n
    rw [h] at n'
    cases n'⟩, envOk_ex e no e1, no, fun G2 H1 rn => ?_⟩
  · cases l with
    | none =>
      obtain ⟨p, kvs, q1, q2, q3, q4, q5⟩ := dc.un i tb h
      rw [hA i p q1]
      exact ⟨q1, kvs, (g0 p ⟨i, tb, h, q1⟩).trans q4, q5.ex e1⟩
    | some x =>
      obtain ⟨o, p⟩ := x
      obtain ⟨q1, kvs, q2, q3⟩ := dc.lk i o p tb h
      rw [hA i p q1]
      exact ⟨q1, kvs, e1 _ _ q2, q3.ex e1⟩
  · let Gn : Hp := fun a => if B a then none else G2 a
    have n1 : ∀ a, B a → Gn a = none := fun a h => if_pos h
    have n2 : ∀ a, ¬ B a → Gn a = G2 a := fun a h => if_neg h
    have eg : Ex G Gn := fun a o h => by
      have nb : ¬ B a := fun b => by
        rw [(hB a b).1] at h
        cases h
      rw [n2 a nb]
      exact rn.g a o (e1 a o h)
    have nd : ∀ a o, G2 a = some o → Nd o → Gn a = some o := fun a o h q => by
      have nb : ¬ B a := fun b => by
        obtain ⟨_, _, kvs, hk⟩ := hB a b
        have y := rn.g a _ ((g0 a b).trans hk)
        rw [h] at y
        cases y
        exact q
      rw [n2 a nb]
      exact h
    refine ⟨Gn, ⟨r.g.trans eg, fun a o h => ?_, rn.k, fun a o h nn t => ?_⟩, envOk_ex e no eg, ⟨fun i tb h => ?_, fun i o p tb h => ?_, dc.dis⟩, fun v d h => h.nd nd⟩
    · by_cases b : B a
      · rw [n1 a b] at h
        cases h
      · rw [n2 a b] at h
        exact rn.h a o h
    · by_cases b : B a
      · rw [n1 a b] at h
        cases h
      · rw [n2 a b] at h
        cases q : G1 a with
        | none => exact rn.f a o h q t
        | some u =>
          have y := rn.g a u q
          rw [h] at y
          cases y
          rw [gn a b] at q
          exact r.f a _ q nn t
    · obtain ⟨p, kvs, q1, q2, q3, q4, q5⟩ := dc.un i tb h
      have b : B p := ⟨i, tb, h, q1⟩
      exact ⟨p, kvs, q1, q2, n1 p b, rn.h _ _ (rn.g _ _ ((g0 p b).trans q4)), q5.ex eg⟩
    · obtain ⟨q1, kvs, q2, q3⟩ := dc.lk i o p tb h
      exact ⟨q1, kvs, eg _ _ q2, q3.ex eg⟩
end
/-! ### lent environments -/
/-- δ' is δ with the addresses of dicts at some of their slots -/
def Lent (A : Nat → Addr) (is : List Nat) (δ : DEnv) : DEnv := is.foldl (fun δ i => δ.set i (cv (dCls (A i)))) δ
section
variable {K : PySem.W.Frag} {c : Cc} {δ δ' : DEnv} {Δ Δ' : DSt} {σ σ' : L2.St} {G H G' H' H0 H1 : Hp} {i j n : Nat} {l : Lck} {tb : Tab} {p : Addr} {d : PyData} {v : V} {ds : List PyData}
variable {N M : DEnv → DSt → Prop} {R : Rs → Prop} {te ta tk : TE} {tt : TT} {t u w : TS} {b : Bool} {is : List Nat}
theorem lent_ok {A : Nat → Addr} : ∀ (is : List Nat) {δ : DEnv}, (∀ i ∈ is, σ[i]? = some (some (V.ref (A i)))) → EnvOk K H0 G H σ δ → EnvOk K H0 G H σ (Lent A is δ)
  | [], _, _, e => e
  | i :: is, δ, h, e => by
    have e1 := e.set (i := i) (v := .ref (A i)) (d := dCls (A i)) (.cls _)
    rw [set_same (h i List.mem_cons_self)] at e1
    exact lent_ok is (fun j hj => h j (List.mem_cons_of_mem _ hj)) e1
/-- what is said of an expression where the dicts at the slots is are known -/
def Known (K : PySem.W.Frag) (Δ : DSt) (is : List Nat) (P : Cc → (Nat → Addr) → Prop) : Prop := ∀ c' A, (∀ i l tb, Δ i = some (l, tb) → DK K c' (A i) l tb) → P c' A
theorem sdd_eval (s : StaD K c δ Δ σ H) (hi : ∀ i ∈ is, Δ i ≠ none) (h : Known K Δ is fun c' A => EvD K c' te (Lent A is δ) d) {Q : VK} (q : ∀ v Gn H1, Run c.G c.H Gn H1 → EnvOk K c.H Gn H1 σ δ → noOwnE δ → Dcs K c.H Gn H1 σ Δ → Rp K Gn v d → Q v H1) : te σ H Q := by
  obtain ⟨A, G1, hA, r1, e1, no, back⟩ := s.lent
  have e2 := lent_ok (A := A) is (fun i hm => by
    cases q : Δ i with
    | none => exact absurd q (hi i hm)
    | some x => exact (hA i x.1 x.2 q).1) e1
  refine h ⟨G1, c.H, c.W⟩ A (fun i l tb q => (hA i l tb q).2) σ H [] [] ⟨G1, r1, e2, .nil⟩ _ fun v H1 s1 => ?_
  obtain ⟨G2, r2, _, t⟩ := s1
  obtain ⟨Gn, a1, a2, a3, a4⟩ := back G2 H1 r2
  cases t with
  | cons hv _ => exact q v Gn H1 a1 a2 no a3 (a4 _ _ hv)
theorem sdd_test (s : StaD K c δ Δ σ H) (hi : ∀ i ∈ is, Δ i ≠ none) (h : Known K Δ is fun c' A => EvT K c' tt (Lent A is δ) b) {Q : Bool → Hp → Prop} (q : ∀ H1, StaD K c δ Δ σ H1 → Q b H1) : tt σ H Q := by
  obtain ⟨A, G1, hA, r1, e1, no, back⟩ := s.lent
  have e2 := lent_ok (A := A) is (fun i hm => by
    cases q : Δ i with
    | none => exact absurd q (hi i hm)
    | some x => exact (hA i x.1 x.2 q).1) e1
  refine h ⟨G1, c.H, c.W⟩ A (fun i l tb q => (hA i l tb q).2) σ H [] [] ⟨G1, r1, e2, .nil⟩ _ fun H1 s1 => ?_
  obtain ⟨G2, r2, _, t⟩ := s1
  obtain ⟨Gn, a1, a2, a3, a4⟩ := back G2 H1 r2
  exact q H1 ⟨Gn, a1, a2, no, a3⟩
theorem sdd_seq (h : SDD K c t δ Δ M R) (h2 : ∀ δ' Δ', M δ' Δ' → SDD K c u δ' Δ' N R) : SDD K c (tSeq t u) δ Δ N R := fun σ H D s q1 q2 => h σ H { D with nx := u D } s (fun δ' Δ' σ' H' m s' => h2 δ' Δ' m σ' H' D s' q1 q2) q2
theorem sdd_next (h : N δ Δ) : SDD K c tNext δ Δ N R := fun σ H D s q1 _ => q1 δ Δ σ H h s
theorem sdd_nextS (k : SDD K c u δ Δ N R) : SDD K c (tSeq tNext u) δ Δ N R := k
theorem sdd_imp {N' : DEnv → DSt → Prop} (h : SDD K c t δ Δ N R) (hN : ∀ δ Δ, N δ Δ → N' δ Δ) : SDD K c t δ Δ N' R := fun σ H D s q1 q2 => h σ H D s (fun δ' Δ' σ' H' n s' => q1 δ' Δ' σ' H' (hN _ _ n) s') q2
/-- x = e -/
theorem sdd_asg (hi : ∀ i ∈ is, Δ i ≠ none) (h : Known K Δ is fun c' A => EvD K c' te (Lent A is δ) d) (hn : Δ n = none) (k : N (δ.set n (cv d)) Δ) : SDD K c (tAsg te (gName n)) δ Δ N R := fun σ H D s q1 _ =>
  sdd_eval s hi h fun v Gn H1 a1 a2 no a3 hv => q1 _ _ _ H1 k ⟨Gn, a1, a2.set hv, noOwn_set no _ (fun es z => by cases z), a3.sig fun i hi => List.getElem?_set_ne fun e => hi (by rw [← e]; exact hn)⟩
theorem sdd_asgS (hi : ∀ i ∈ is, Δ i ≠ none) (h : Known K Δ is fun c' A => EvD K c' te (Lent A is δ) d) (hn : Δ n = none) (k : SDD K c u (δ.set n (cv d)) Δ N R) : SDD K c (tSeq (tAsg te (gName n)) u) δ Δ N R :=
  sdd_seq (M := fun δ' Δ' => δ' = δ.set n (cv d) ∧ Δ' = Δ) (sdd_asg hi h hn ⟨rfl, rfl⟩) fun δ' Δ' hM => by
    obtain ⟨rfl, rfl⟩ := hM
    exact k
theorem sdd_if (hi : ∀ i ∈ is, Δ i ≠ none) (h : Known K Δ is fun c' A => EvT K c' tt (Lent A is δ) b) (h1 : b = true → SDD K c t δ Δ N R) (h2 : b = false → SDD K c u δ Δ N R) : SDD K c (tIfS tt t u) δ Δ N R := fun σ H D s q1 q2 =>
  sdd_test s hi h fun H1 s1 => by
    cases b with
    | true => exact h1 rfl σ H1 D s1 q1 q2
    | false => exact h2 rfl σ H1 D s1 q1 q2
theorem sdd_ifS (hi : ∀ i ∈ is, Δ i ≠ none) (h : Known K Δ is fun c' A => EvT K c' tt (Lent A is δ) b) (h1 : b = true → SDD K c (tSeq t w) δ Δ N R) (h2 : b = false → SDD K c (tSeq u w) δ Δ N R) : SDD K c (tSeq (tIfS tt t u) w) δ Δ N R := fun σ H D s q1 q2 =>
  sdd_test s hi h fun H1 s1 => by
    cases b with
    | true => exact h1 rfl σ H1 D s1 q1 q2
    | false => exact h2 rfl σ H1 D s1 q1 q2
/-- d[x] = e -/
theorem sdd_put {k : List Int} (hi : ∀ i ∈ is, Δ i ≠ none) (hd : Δ n = some (none, tb)) (hk : δ[j]? = some (cv (keyT k))) (hz : tb.length < 100000) (h : Known K Δ is fun c' A => EvD K c' te (Lent A is δ) d) (hn : N δ (up Δ n (some (none, putT tb k d)))) :
    SDD K c (sDPut (tVar n) (tVar j) te) δ Δ N R := fun σ H D s q1 _ =>
  sdd_eval s hi h fun v Gn H1 a1 a2 no a3 hv => by
    obtain ⟨p, kvs, b1, b2, b3, b4, b5⟩ := a3.un n tb hd
    obtain ⟨w, w1, w2⟩ := a2.val j _ hk
    obtain ⟨a, xs, rfl, hb, hxs⟩ := w2.tup_inv
    have hx := hxs.ints_inv
    subst hx
    refine ⟨_, b1, _, w1, p, upd H1 p (.dT (putK kvs (kI k) v)), rfl, .inr ⟨kvs, kI k, a, b4, rfl, by rw [kI_kV]; exact a1.h _ _ hb, sz_lt (by rw [b5.length]; exact hz), rfl⟩, q1 _ _ _ _ hn ⟨Gn, a1.mut b3 b2, noOwn_at a2 no, no, ?_⟩⟩
    refine ⟨fun i tb' q => ?_, fun i o p' tb' q => ?_, fun i i2 x y y1 y2 y3 => ?_⟩
    · by_cases e : i = n
      · subst e
        rw [up_self] at q
        cases q
        exact ⟨p, _, b1, b2, b3, upd_same, b5.put hv⟩
      · rw [up_ne e] at q
        obtain ⟨p2, kvs2, c1, c2, c3, c4, c5⟩ := a3.un i tb' q
        have np : p2 ≠ p := fun z => e (a3.dis i n _ _ q hd (by rw [c1, b1, z]))
        exact ⟨p2, kvs2, c1, c2, c3, by rw [upd_ne np]; exact c4, c5⟩
    · by_cases e : i = n
      · subst e
        rw [up_self] at q
        cases q
      · rw [up_ne e] at q
        exact a3.lk i o p' tb' q
    · have old : ∀ {i x}, up Δ n (some (none, putT tb k d)) i = some x → ∃ x', Δ i = some x' := fun {i x} q => by
        by_cases e : i = n
        · exact ⟨_, e ▸ hd⟩
        · rw [up_ne e] at q
          exact ⟨_, q⟩
      obtain ⟨x', z1⟩ := old y1
      obtain ⟨y', z2⟩ := old y2
      exact a3.dis i i2 x' y' z1 z2 y3
/-- a new dict at a slot -/
theorem dcs_new {kvs : List (List Key × V)} (dc : Dcs K H0 G H σ Δ) (hl : n < σ.length) (h0 : H0 p = none) (hg : G p = none) (hp : H p = some (.dT kvs)) (ht : TabR K G kvs tb) (hf : ∀ i x, Δ i = some x → i ≠ n → σ[i]? ≠ some (some (V.ref p))) : Dcs K H0 G H (σ.set n (some (.ref p))) (up Δ n (some (none, tb))) := by
  have sp : (σ.set n (some (V.ref p)))[n]? = some (some (V.ref p)) := List.getElem?_set_self hl
  have so : ∀ {i : Nat}, i ≠ n → (σ.set n (some (V.ref p)))[i]? = σ[i]? := fun e => List.getElem?_set_ne (Ne.symm e)
  refine ⟨fun i tb' q => ?_, fun i o p' tb' q => ?_, fun i j x y y1 y2 y3 => ?_⟩
  · by_cases e : i = n
    · subst e
      rw [up_self] at q
      cases q
      exact ⟨p, kvs, sp, h0, hg, hp, ht⟩
    · rw [up_ne e] at q
      rw [so e]
      exact dc.un i tb' q
  · by_cases e : i = n
    · subst e
      rw [up_self] at q
      cases q
    · rw [up_ne e] at q
      rw [so e]
      exact dc.lk i o p' tb' q
  · by_cases e : i = n
    · by_cases e2 : j = n
      · rw [e, e2]
      · rw [up_ne e2] at y2
        rw [e, sp, so e2] at y3
        exact absurd y3.symm (hf j y y2 e2)
    · rw [up_ne e] at y1
      by_cases e2 : j = n
      · rw [e2, sp, so e] at y3
        exact absurd y3 (hf i x y1 e)
      · rw [up_ne e2] at y2
        rw [so e, so e2] at y3
        exact dc.dis i j x y y1 y2 y3
theorem dcs_free (dc : Dcs K H0 G H σ Δ) (e : Ex G H) (hp : H p = none) : ∀ i x, Δ i = some x → σ[i]? ≠ some (some (V.ref p)) := fun i x h z => by
  obtain ⟨l, tb⟩ := x
  cases l with
  | none =>
    obtain ⟨q, kvs, a, _, _, b, _⟩ := dc.un i tb h
    rw [z] at a
    cases a
    rw [hp] at b
    cases b
  | some y =>
    obtain ⟨a, kvs, b, _⟩ := dc.lk i y.1 y.2 tb h
    rw [z] at a
    cases a
    rw [e.free hp] at b
    cases b
theorem sdd_newD (hn : n < δ.length) (k : N (δ.set n none) (up Δ n (some (none, [])))) : SDD K c (tAsg tDNewT (gName n)) δ Δ N R := fun σ H D s q1 _ p hp => by
  obtain ⟨G, r, e, no, dc⟩ := s
  have r1 := Run.newg (o := .dT []) r.h hp
  exact q1 _ _ _ _ k ⟨G, r.trans r1, (e.run r1).put _, noOwn_set no _ (fun es z => by cases z), dcs_new (dc.run r1) (by rw [e.len]; exact hn) (r.k.free hp) (r.h.free hp) upd_same .nil fun i x h _ => dcs_free dc r.h hp i x h⟩
/-- {k: v} -/
def tDispT (tk tv : TE) : TE := fun σ H Q => ∀ p, H p = none → tk σ (upd H p (.dT [])) fun x H1 => tv σ H1 fun y H2 => H2 p = some (.dT []) ∧ ∃ b ks, x = .ref b ∧ H2 b = some (.tup (ks.map kV)) ∧ Q (.ref p) (upd H2 p (.dT [(ks, y)]))
theorem sdd_disp {k : List Int} {tv : TE} (hn : n < δ.length) (h1 : ∀ c', EvD K c' tk δ (keyT k)) (h2 : ∀ c', EvD K c' tv δ d) (kk : N (δ.set n none) (up Δ n (some (none, [(k, d)])))) : SDD K c (tAsg (tDispT tk tv) (gName n)) δ Δ N R := fun σ H D s q1 _ p hp => by
  obtain ⟨G, r, e, no, dc⟩ := s
  have r1 := Run.newg (o := .dT []) r.h hp
  have r2 := r.trans r1
  refine h1 ⟨G, upd H p (.dT []), c.W⟩ σ (upd H p (.dT [])) [] [] ⟨G, Run.refl r1.h, noOwn_base (e.run r1) no, .nil⟩ _ fun x H1 s1 => ?_
  refine h2 _ σ H1 _ _ s1 _ fun y H2 s2 => ?_
  obtain ⟨G2, r3, e3, t⟩ := s2
  cases t with
  | cons hy t =>
    cases t with
    | cons hx _ =>
      obtain ⟨b, xs, rfl, hb, hxs⟩ := hx.tup_inv
      have hxx := hxs.ints_inv
      subst hxx
      obtain ⟨k1, k2⟩ := r3.own (r.h.free hp) upd_same
      refine ⟨k2, b, kI k, rfl, by rw [kI_kV]; exact r3.h _ _ hb, q1 _ _ _ _ kk ⟨G2, (r2.trans r3).mut k1 (r.k.free hp), (noOwn_at (noOwn_base e3 no) no).put _, noOwn_set no _ (fun es z => by cases z), ?_⟩⟩
      have dc2 := (dc.run r1).run r3
      have fr := dcs_free dc r.h hp
      refine dcs_new (tb := [(k, d)]) ?_ (by rw [e.len]; exact hn) (r.k.free hp) k1 upd_same (.cons hy .nil) fun i x h _ => fr i x h
      refine ⟨fun i tb q => ?_, dc2.lk, dc2.dis⟩
      obtain ⟨p2, kvs2, c1, c2, c3, c4, c5⟩ := dc2.un i tb q
      have np : p2 ≠ p := fun z => fr i _ q (by rw [c1, z])
      exact ⟨p2, kvs2, c1, c2, c3, by rw [upd_ne np]; exact c4, c5⟩
/-- x = list(d) -/
abbrev rListD : List V → Hp → VK → Prop := fun xs H Q => ∃ d kvs, xs = [V.ref d] ∧ Rd H d (.dT kvs) ∧ ∀ p bs, H p = none → IsKeys H kvs bs → Q (.ref p) (upd H p (.lst (bs.map V.ref)))
theorem sdd_list (hd : Δ i = some (none, tb)) (hn : Δ n = none) (k : N (δ.set n (cv (.list (keysT tb)))) Δ) : SDD K c (tAsg (tCB rListD (tCons (tVar i) tNil)) (gName n)) δ Δ N R := fun σ H D s q1 _ => by
  obtain ⟨G, r, e, no, dc⟩ := s
  obtain ⟨p, kvs, b1, b2, b3, b4, b5⟩ := dc.un i tb hd
  refine ⟨_, b1, p, kvs, rfl, .inl b4, fun q bs hq hb => ?_⟩
  obtain ⟨G1, r1, x1⟩ := see_keys r.h b5 hb
  have r2 := Run.new (o := .lst (bs.map V.ref)) r1.h hq
  have r3 := r1.trans r2
  refine q1 _ _ _ _ k ⟨_, r.trans r3, (e.run r3).set (.lst upd_same (x1.ex r2.g)), noOwn_set no _ (fun es z => by cases z), (dc.run r3).sig fun i hi => List.getElem?_set_ne fun e => hi (by rw [← e]; exact hn)⟩
/-- what comes back is a new dict -/
def dctF (K : PySem.W.Frag) (tb : Tab) : Hp → Hp → V → Hp → Prop := fun H0 G v H => ∃ p kvs, v = .ref p ∧ H0 p = none ∧ G p = none ∧ H p = some (.dT kvs) ∧ TabR K G kvs tb
theorem sdd_retD (hd : Δ i = some (none, tb)) (hr : R (.gen (dctF K tb))) : SDD K c (tRet (tVar i)) δ Δ N R := fun σ H D s _ q2 => by
  obtain ⟨G, r, e, no, dc⟩ := s
  obtain ⟨p, kvs, b1, b2, b3, b4, b5⟩ := dc.un i tb hd
  exact ⟨_, b1, q2 _ _ H hr ⟨G, r, p, kvs, rfl, b2, b3, b4, b5⟩⟩
theorem sdd_ret (hi : ∀ i ∈ is, Δ i ≠ none) (h : Known K Δ is fun c' A => EvD K c' te (Lent A is δ) d) (hr : R (.val d)) : SDD K c (tRet te) δ Δ N R := fun σ H D s _ q2 =>
  sdd_eval s hi h fun v Gn H1 a1 a2 no a3 hv => q2 _ v H1 hr ⟨Gn, a1, hv⟩
/-- x = f(..), a new dict comes -/
theorem sdd_asgDct {sp : Sp} {E : XK} {tr : TA} (h : ∀ c', EvA K c' tr δ ds) (hs : ∀ vs H Q, (∃ G, Ex G H ∧ RpAll K G vs ds ∧ ∀ w G' H', Run G H G' H' → dctF K tb H G' w H' → Q w H') → sp vs H Q E) (hn : n < δ.length) (k : N (δ.set n none) (up Δ n (some (none, tb)))) :
    SDD K c (tAsg (tCall sp [] E tr) (gName n)) δ Δ N R := fun σ H D s q1 _ => by
  obtain ⟨G, r, e, no, dc⟩ := s
  refine h ⟨G, H, c.W⟩ σ H [] [] ⟨G, Run.refl r.h, noOwn_base e no, .nil⟩ _ fun vs H1 hv s1 => ?_
  obtain ⟨G1, r1, e1, x1, _⟩ := sta_split hv s1
  show sp (vs ++ []) H1 _ E
  rw [List.append_nil]
  refine hs vs H1 _ ⟨G1, r1.h, x1, fun w G' H' r' hf => ?_⟩
  obtain ⟨p, kvs, rfl, f1, f2, f3, f4⟩ := hf
  have r3 := r1.trans r'
  have dc1 := dc.run r1
  exact q1 _ _ _ _ k ⟨G', r.trans r3, (noOwn_base (e1.run r') no).put _, noOwn_set no _ (fun es z => by cases z), dcs_new (dc.run r3) (by rw [e.len]; exact hn) ((r.trans r1).k.free f1) f2 f3 f4 fun i x h _ => dcs_free dc1 r1.h f1 i x h⟩
/-- in and out -/
theorem sd_sdd {N' : DEnv → Prop} (no : noOwnE δ) (h : SDD K c t δ (fun _ => none) (fun δ' _ => ∃ δ3, Le δ3 δ' ∧ N' δ3) R) : SD K c t δ (fun δ'' => ∃ δ3, Le δ3 δ'' ∧ N' δ3) R := fun σ H D s q1 q2 _ => by
  obtain ⟨G, r, e, _⟩ := s
  refine h σ H D ⟨G, r, e, no, ⟨fun i tb q => (by cases q), fun i o p tb q => (by cases q), fun i j x y q => (by cases q)⟩⟩ (fun δ' Δ' σ' H' n s' => ?_) q2
  obtain ⟨G', r', e', _, _⟩ := s'
  exact q1 δ' σ' H' n ⟨G', r', e', .nil⟩
/-- a slot's dict is let go -/
theorem sdd_weak {N' : DEnv → DSt → Prop} (h : SDD K c t δ Δ N R) (hN : ∀ δ Δ, N δ Δ → ∃ δ', Le δ' δ ∧ N' δ' Δ) : SDD K c t δ Δ N' R := fun σ H D s q1 q2 => h σ H D s (fun δ' Δ' σ' H' n s' => by
  obtain ⟨δ2, l, n2⟩ := hN _ _ n
  exact q1 δ2 Δ' σ' H' n2 (s'.le l)) q2
end
end Pd

/-! loops beside own dicts -/
namespace Pd
open PySem PySem.Spec PyProof.Rows L2
section
variable {K : PySem.W.Frag} {c : Cc} {δ δ' : DEnv} {Δ Δ' : DSt} {σ σ' : L2.St} {G H G' H' H0 H1 : Hp} {i j n : Nat} {l : Lck} {tb : Tab} {p : Addr} {d : PyData} {v : V} {ds : List PyData}
variable {N M : DEnv → DSt → Prop} {R : Rs → Prop} {te ta tk : TE} {tt : TT} {t u w : TS} {b : Bool} {is : List Nat}
theorem sdd_core {J : It} {G1 H0 : Hp} {W0 : WX} {g : TG} {js : List Nat} {Tg : PyData → DEnv → DEnv} {nx : L2.St → Hp → Prop} {rt : VK} (it : ItD K J ds G1) (P : Nat → DEnv → DSt → Prop) (h0 : P 0 δ Δ) (s0 : StaD K ⟨G1, H0, W0⟩ δ Δ σ H)
    (hg : ∀ i d δ' Δ', ds[i]? = some d → P i δ' Δ' → TgD K g js d δ' (Tg d δ') ∧ (∀ j ∈ js, Δ' j = none) ∧ (noOwnE δ' → noOwnE (Tg d δ')))
    (hb : ∀ i d δ' Δ', ds[i]? = some d → P i δ' Δ' → SDD K ⟨G1, H0, W0⟩ t (Tg d δ') Δ' (fun δ'' Δ'' => ∃ δ3, Le δ3 δ'' ∧ P (i + 1) δ3 Δ'') R)
    (q1 : ∀ δ' Δ' σ' H', P ds.length δ' Δ' → StaD K ⟨G1, H0, W0⟩ δ' Δ' σ' H' → nx σ' H') (q2 : ∀ r v H', R r → StaR K ⟨G1, H0, W0⟩ r v H' → rt v H') :
    ∃ W : Nat → Nat → L2.St → Hp → Prop, (∃ m, W 0 m σ H) ∧ ∀ i m σ H, W i m σ H → (J.stop i H ∧ nx σ H) ∨ (J.go i H ∧ ∃ N : L2.St → Hp → Prop, (∀ σ' H', N σ' H' → ∃ m', m' < m ∧ W (i + 1) m' σ' H') ∧ ∀ x H', J.yld i H x H' → g x σ H' fun σ2 H2 => t ⟨N, rt, nx, N⟩ σ2 H2) := by
  refine ⟨fun i m σ H => m = ds.length - i ∧ i ≤ ds.length ∧ ∃ δ' Δ', P i δ' Δ' ∧ StaD K ⟨G1, H0, W0⟩ δ' Δ' σ H, ⟨_, rfl, Nat.zero_le _, δ, Δ, h0, s0⟩, ?_⟩
  rintro i m σ' H' ⟨rfl, hi', δ', Δ', hP, s'⟩
  obtain ⟨G, r, e, no, dc⟩ := id s'
  have ex : Ex G1 H' := r.g.trans r.h
  by_cases hlt : i < ds.length
  · refine .inr ⟨it.go i H' hlt ex, fun σ2 H2 => ∃ δ2 Δ2, P (i + 1) δ2 Δ2 ∧ StaD K ⟨G1, H0, W0⟩ δ2 Δ2 σ2 H2, fun σ2 H2 ⟨δ2, Δ2, p2, s2⟩ => ⟨ds.length - (i + 1), by omega, rfl, hlt, δ2, Δ2, p2, s2⟩, fun v H2 y => ?_⟩
    have hdi : ds[i]? = some ds[i] := List.getElem?_eq_getElem hlt
    obtain ⟨G2, r2, hv⟩ := it.more r hdi y
    obtain ⟨hT, hj, hno⟩ := hg i _ δ' Δ' hdi hP
    refine hT ⟨G2, H2, W0⟩ σ' H2 v [] [] ⟨G2, Run.refl r2.h, noOwn_base (e.run r2) no, .cons hv .nil⟩ _ fun σ2 s2 k2 l2 => ?_
    obtain ⟨G3, r3, e3, _⟩ := s2
    have r4 := r2.trans r3
    refine hb i _ δ' Δ' hdi hP σ2 H2 _ ⟨G3, r.trans r4, noOwn_base e3 (hno no), hno no, (dc.run r4).sig fun m hm => k2 m fun z => hm (hj m z)⟩ (fun δ3 Δ3 σ3 H3 n3 s3 => ?_) q2
    obtain ⟨δ4, l4, p4⟩ := n3
    exact ⟨δ4, Δ3, p4, s3.le l4⟩
  · have ei : i = ds.length := by omega
    subst ei
    exact .inl ⟨it.stop H' ex, q1 δ' Δ' σ' H' hP s'⟩
theorem sdd_for {ti : TI} {g : TG} {js : List Nat} {Tg : PyData → DEnv → DEnv} (hi : ∀ c', IvD K c' ti δ ds) (P : Nat → DEnv → DSt → Prop) (h0 : P 0 δ Δ)
    (hg : ∀ i d δ' Δ', ds[i]? = some d → P i δ' Δ' → TgD K g js d δ' (Tg d δ') ∧ (∀ j ∈ js, Δ' j = none) ∧ (noOwnE δ' → noOwnE (Tg d δ')))
    (hb : ∀ (c' : Cc), ∀ i d δ' Δ', ds[i]? = some d → P i δ' Δ' → SDD K c' t (Tg d δ') Δ' (fun δ'' Δ'' => ∃ δ3, Le δ3 δ'' ∧ P (i + 1) δ3 Δ'') R) (hd : ∀ δ' Δ', P ds.length δ' Δ' → N δ' Δ') : SDD K c (tFor ti g t) δ Δ N R := fun σ H D s q1 q2 => by
  obtain ⟨G, r, e, no, dc⟩ := s
  refine hi ⟨G, H, c.W⟩ σ H [] [] ⟨G, Run.refl r.h, noOwn_base e no, .nil⟩ _ fun J G1 H1 rn e1 _ it => ?_
  have rb : Run c.G c.H G1 H1 := r.trans rn
  refine sdd_core (W0 := c.W) (H0 := c.H) it P h0 ⟨G1, ⟨Ex.refl _, rn.h, rb.k, fun a o h n => by
    have n' : G1 a = none := n
    rw [h] at n'
    cases n'⟩, noOwn_base e1 no, no, dc.run rn⟩ hg (fun i d δ' Δ' => hb _ i d δ' Δ') (fun δ' Δ' σ' H' p s' => ?_) fun r' v H' hr s' => q2 r' v H' hr (s'.down rb)
  obtain ⟨G2, r2, e2, no2, dc2⟩ := s'
  exact q1 δ' Δ' σ' H' (hd δ' Δ' p) ⟨G2, rb.up r2, e2, no2, dc2⟩
theorem itD_keys {kvs : List (List Key × V)} {od : Obj} (hG : G p = some (.frz od (.dT kvs))) (r : TabR K G kvs tb) : ItD K (Itkt p od kvs) (keysT tb) G :=
  ⟨fun i H hi e => ⟨e _ _ hG, by rw [lenK r] at hi; exact hi⟩, fun H e => ⟨e _ _ hG, by rw [lenK r]; exact Nat.le_refl _⟩, fun i H v H' d hd e y => by
    obtain ⟨rfl, k', v', q, hk, rfl, hq⟩ := y
    obtain ⟨k, d', ht, hkk⟩ := r.get hk
    have hkk' : k' = kI k := hkk
    subst hkk'
    have hd' : d = keyT k := by
      rw [List.getElem?_map, ht] at hd
      exact (Option.some.inj hd).symm
    subst hd'
    exact see_key e hq⟩
/-- for x in d: .. -/
theorem sdd_forD (hd : Δ i = some (none, tb)) (hn : n ≠ i) (P : Nat → DEnv → DSt → Prop) (h0 : P 0 δ Δ) (hP : ∀ k δ' Δ', P k δ' Δ' → Δ' i = some (none, tb) ∧ Δ' n = none)
    (hb : ∀ (c' : Cc) (l : Lck) k key δ' Δ', tb[k]? = some key → P k δ' Δ' → SDD K c' t (δ'.set n (cv (keyT key.1))) (up Δ' i (some (l, tb))) (fun δ'' Δ'' => ∃ δ3 Δ3, Le δ3 δ'' ∧ Δ'' = up Δ3 i (some (l, tb)) ∧ P (k + 1) δ3 Δ3) (fun _ => False)) (hN : ∀ δ' Δ', P tb.length δ' Δ' → N δ' Δ') :
    SDD K c (tLock (tFor (iKeys (tVar i)) (gName n) t)) δ Δ N R := fun σ H D s q1 q2 => by
  obtain ⟨G, r, e, no, dc⟩ := s
  obtain ⟨p, kvs, b1, b2, b3, b4, b5⟩ := dc.un i tb hd
  refine ⟨p, .dT kvs, b4, trivial, fun od => ?_⟩
  let Gl : Hp := upd G p (.frz od (.dT kvs))
  let Hl : Hp := upd H p (.frz od (.dT kvs))
  have eg : Ex G Gl := Ex.new b3
  have gl : Gl p = some (.frz od (.dT kvs)) := upd_same
  have el : Ex Gl Hl := r.h.upd2
  have kl : Ex c.H Hl := r.k.mut b2
  refine ⟨_, b1, p, od, rfl, .inr ⟨kvs, upd_same, ?_⟩⟩
  have ne : ∀ {j x}, Δ j = some x → j ≠ i → σ[j]? ≠ some (some (V.ref p)) := fun {j x} q z y => z (dc.dis j i x _ q hd (by rw [y, b1]))
  refine sdd_core (ds := keysT tb) (js := [n]) (Tg := fun d δ => δ.set n (cv d)) (R := fun _ => False) (W0 := c.W) (H0 := c.H) (itD_keys gl (b5.ex eg)) (fun k δ' Δ' => ∃ Δ3, Δ' = up Δ3 i (some (some (od, p), tb)) ∧ P k δ' Δ3) ⟨Δ, rfl, h0⟩ ⟨Gl, ⟨Ex.refl _, el, kl, fun a o h n => by
    have n' : Gl a = none := n
    rw [h] at n'
    cases n'⟩, envOk_ex e no eg, no, ⟨fun j tb' q => ?_, fun j o p' tb' q => ?_, fun j k x y y1 y2 y3 => ?_⟩⟩ (fun k d δ' Δ' hk hp => ?_) (fun k d δ' Δ' hk hp => ?_) (fun δ' Δ' σ' H' hp s' => ?_) fun r' v H' hr _ => hr.elim
  · by_cases z : j = i
    · rw [z, up_self] at q
      cases q
    · rw [up_ne z] at q
      obtain ⟨p2, kvs2, c1, c2, c3, c4, c5⟩ := dc.un j tb' q
      have np : p2 ≠ p := fun y => ne q z (by rw [c1, y])
      exact ⟨p2, kvs2, c1, c2, (upd_ne np).trans c3, (upd_ne np).trans c4, c5.ex eg⟩
  · by_cases z : j = i
    · rw [z, up_self] at q
      cases q
      rw [z]
      exact ⟨b1, kvs, gl, b5.ex eg⟩
    · rw [up_ne z] at q
      obtain ⟨c1, kvs2, c2, c3⟩ := dc.lk j o p' tb' q
      exact ⟨c1, kvs2, eg _ _ c2, c3.ex eg⟩
  · have old : ∀ {j x}, up Δ i (some (some (od, p), tb)) j = some x → ∃ x', Δ j = some x' := fun {j x} q => by
      by_cases z : j = i
      · exact ⟨_, z ▸ hd⟩
      · rw [up_ne z] at q
        exact ⟨_, q⟩
    obtain ⟨x', z1⟩ := old y1
    obtain ⟨y', z2⟩ := old y2
    exact dc.dis j k x' y' z1 z2 y3
  · obtain ⟨Δ3, rfl, hp⟩ := hp
    refine ⟨tg_name, fun j hj => ?_, fun no' => noOwn_set no' _ fun es z => by cases z⟩
    have ej : j = n := List.mem_singleton.mp hj
    rw [ej, up_ne hn]
    exact (hP k δ' Δ3 hp).2
  · obtain ⟨Δ3, rfl, hp⟩ := hp
    have hk' : ∃ key, tb[k]? = some key ∧ d = keyT key.1 := by
      rw [List.getElem?_map] at hk
      cases z : tb[k]? with
      | none =>
        rw [z] at hk
        cases hk
      | some key =>
        rw [z] at hk
        exact ⟨key, rfl, (Option.some.inj hk).symm⟩
    obtain ⟨key, hkey, rfl⟩ := hk'
    refine sdd_imp (hb _ (some (od, p)) k key δ' Δ3 hkey hp) fun δ'' Δ'' h => ?_
    obtain ⟨δ4, Δ4, l4, e4, p4⟩ := h
    exact ⟨δ4, l4, Δ4, e4, p4⟩
  · obtain ⟨Δ3, rfl, hp⟩ := hp
    rw [List.length_map] at hp
    obtain ⟨hi3, _⟩ := hP _ _ _ hp
    obtain ⟨G', r', e', no', dc'⟩ := s'
    have hp' : H' p = some (.frz od (.dT kvs)) := r'.h _ _ (r'.g _ _ gl)
    have gp' : G' p = some (.frz od (.dT kvs)) := r'.g _ _ gl
    refine ⟨hp', ?_⟩
    let Gn : Hp := fun a => if a = p then none else G' a
    have n1 : Gn p = none := if_pos rfl
    have n2 : ∀ {a}, a ≠ p → Gn a = G' a := fun h => if_neg h
    have nd : ∀ a o, G' a = some o → Nd o → Gn a = some o := fun a o h q => by
      have na : a ≠ p := fun z => by
        rw [z, gp'] at h
        cases h
        exact q
      rw [n2 na]
      exact h
    have eGn : Ex G Gn := fun a o h => by
      have na : a ≠ p := fun z => by
        rw [z, b3] at h
        cases h
      rw [n2 na]
      exact r'.g a o (eg a o h)
    refine q1 δ' Δ3 σ' _ (hN δ' Δ3 hp) ⟨Gn, ⟨r.g.trans eGn, fun a o h => ?_, r'.k.mut b2, fun a o h nn t => ?_⟩, envOk_nd e' no' nd, no', ⟨fun j tb' q => ?_, fun j o p' tb' q => ?_, fun j k x y y1 y2 y3 => ?_⟩⟩
    · have na : a ≠ p := fun z => by
        rw [z, n1] at h
        cases h
      rw [n2 na] at h
      rw [upd_ne na]
      exact r'.h a o h
    · have na : a ≠ p := fun z => by
        rw [z, n1] at h
        cases h
      rw [n2 na] at h
      cases q : Gl a with
      | none => exact r'.f a o h q t
      | some u =>
        have y := r'.g a u q
        rw [h] at y
        cases y
        have q' : G a = some o := by
          have z : (upd G p (.frz od (.dT kvs))) a = some o := q
          rw [upd_ne na] at z
          exact z
        exact r.f a o q' nn t
    · by_cases z : j = i
      · rw [z] at q ⊢
        rw [hi3] at q
        cases q
        obtain ⟨c1, kvs2, c2, c3⟩ := dc'.lk i od p tb up_self
        rw [gp'] at c2
        cases c2
        exact ⟨p, kvs, c1, b2, n1, upd_same, c3.nd nd⟩
      · obtain ⟨p2, kvs2, c1, c2, c3, c4, c5⟩ := dc'.un j tb' (by rw [up_ne z]; exact q)
        have np : p2 ≠ p := fun y => by
          rw [y, gp'] at c3
          cases c3
        exact ⟨p2, kvs2, c1, c2, (n2 np).trans c3, (upd_ne np).trans c4, c5.nd nd⟩
    · by_cases z : j = i
      · rw [z, hi3] at q
        cases q
      · obtain ⟨c1, kvs2, c2, c3⟩ := dc'.lk j o p' tb' (by rw [up_ne z]; exact q)
        have np : p' ≠ p := fun y => z (dc'.dis j i _ _ (by rw [up_ne z]; exact q) up_self (by rw [c1, (dc'.lk i od p tb up_self).1, y]))
        exact ⟨c1, kvs2, (n2 np).trans c2, c3.nd nd⟩
    · have new : ∀ {j x}, Δ3 j = some x → ∃ x', up Δ3 i (some (some (od, p), tb)) j = some x' := fun {j x} q => by
        by_cases z : j = i
        · rw [z]
          exact ⟨_, up_self⟩
        · exact ⟨_, (up_ne z).trans q⟩
      obtain ⟨x', z1⟩ := new y1
      obtain ⟨y', z2⟩ := new y2
      exact dc'.dis j k x' y' z1 z2 y3
theorem sdd_while (P : Nat → DEnv → DSt → Prop) {n0 : Nat} (h0 : P n0 δ Δ)
    (hb : ∀ m δ' Δ', P m δ' Δ' → ∃ b, (∀ c', EvT K c' tt δ' b) ∧ (b = true → SDD K c t δ' Δ' (fun δ'' Δ'' => ∃ δ3 m', Le δ3 δ'' ∧ m' < m ∧ P m' δ3 Δ'') R) ∧ (b = false → N δ' Δ')) : SDD K c (tWhile tt t) δ Δ N R := fun σ H D s q1 q2 => by
  refine ⟨fun m σ H => ∃ δ' Δ', P m δ' Δ' ∧ StaD K c δ' Δ' σ H, ⟨n0, δ, Δ, h0, s⟩, ?_⟩
  rintro m σ' H' ⟨δ', Δ', hP, s'⟩
  obtain ⟨b, hT, h1, h2⟩ := hb m δ' Δ' hP
  refine sdd_test (is := []) s' (fun i h => by cases h) (fun c' A _ => hT c') fun H1 s1 => ?_
  cases b with
  | true =>
    rw [if_pos rfl]
    refine ⟨fun σ2 H2 => ∃ m', m' < m ∧ ∃ δ2 Δ2, P m' δ2 Δ2 ∧ StaD K c δ2 Δ2 σ2 H2, fun σ2 H2 h => h, h1 rfl σ' H1 _ s1 (fun δ3 Δ3 σ3 H3 n3 s3 => ?_) q2⟩
    obtain ⟨δ4, m', l, hm, p4⟩ := n3
    exact ⟨m', hm, δ4, Δ3, p4, s3.le l⟩
  | false =>
    rw [if_neg Bool.false_ne_true]
    exact q1 δ' Δ' σ' H1 (h2 rfl) s1
end
end Pd

/-! a display of one pair, its key a tuple -/
namespace Pd
open PySem PySem.Spec PyProof.Rows L2
theorem un1 {A : Around} (h : A.units + 65 < cLine) : A.units + 1 < cLine := by omega
theorem unR {P : Program} {w : World} {A : Around} (h : A.units + 65 < cLine) : (tupleKind (mixKind P w)).room A := by
  show A.units < cLine
  omega
theorem pe_dispT {X : Cx} {k v : Expr} {pos : Pos} {tk tv : TE} (hu : (tupleKind (mixKind X.prog X.w)).room X.A) (hk : PE X k tk) (hv : PE X v tv) : PE X (.Dict [some k] [v] pos) (tDispT tk tv) := ⟨fun pins s σ H Q I q => by
  have fr : H s.heap.objs.size = none := I.hok.fresh (Nat.le_refl _)
  have J := I.laid (o := .dT []) (a := s.heap.objs.size) (t' := s.toks) (h' := s.heap.push { cls := .type "dict", data := .dict #[] }) (fun _ _ e => Heap.get?_push_of_some _ e) (Nat.le_refl _) (dt_empty s.heap I.big)
  have ne : pairTrees [some k] [v] X.env pos ≠ [] := fun z => by cases z
  have ln : (pairTrees [some k] [v] X.env pos).length = 1 := rfl
  rw [arm_eval_Dict, zip_pairTrees [some k] [v] X.env pos rfl rfl, dictDisplay_pairs (pairTrees [some k] [v] X.env pos) ne (by rw [ln]; decide)]
  refine wpAny_bind (wpAny_standAt (wpAny_bind ?_))
  refine wpAny_subDictH (knd := tupleKind (mixKind X.prog X.w)) hu (by rw [ln]; decide) (pairTrees_cons_walk (thn (hk.run pins _ σ _ _ J (q _ fr)) fun kv s1 ⟨x, H1, J1, rx, q1⟩ => thn (hv.run pins s1 σ H1 _ J1 q1) fun vv s2 ⟨y, H2, J2, ry, q2⟩ => pairTrees_nil_walk ?_))
  obtain ⟨hp, b, ks, rfl, hb, q3⟩ := q2
  cases (show kv = Value.ref b from rx)
  obtain ⟨_, hd, xs, rel, dd⟩ := dt_of J2.hok hp
  cases rel
  refine ⟨[(ks, b, vv)], ⟨rfl, rfl, key_of J2.hok hb, trivial⟩, dd, fun h' tk dd' sb => wpAny_pure ⟨.ref s.heap.objs.size, _, ?_, rfl, q3⟩⟩
  obtain ⟨ob, es, ep, ho, g2, g3, g4, _, g5⟩ := id dd'
  have ne2 : b ≠ s.heap.objs.size := fun z => by
    rw [z, hp] at hb
    cases hb
  refine d_write J2 (by rw [hp]; exact True.intro) sb ⟨ob, ho⟩ ⟨by show 1 ≤ sizeLine; decide, hd, _, ?_, ob, es, ep, ho, g2, g3, g4, g5⟩
  exact .cons ⟨rfl, by rw [upd_ne ne2]; exact hb, ry⟩ .nil⟩
end Pd

/-! the mathematics, 8: going out level by level -/
namespace Peg
open Pd
theorem back_ok {s : List Pg} {m : Nat × Pg} (h : m ∈ may s) : ∃ m' ∈ may (aft s m), aft (aft s m) m' = s := by
  obtain ⟨o, h1, h2, h3⟩ := mem_may.mp h
  have hl := may_len h
  have sm : ∀ k, k < m.1 → (aft s m)[k]? = s[k]? := fun k hk => List.getElem?_set_ne (by omega)
  refine ⟨(m.1, o), mem_may.mpr ⟨m.2, aft_at h, fun z => h2 z.symm, fun k hk => ?_⟩, ?_⟩
  · rw [sm k hk]
    exact ⟨(h3 k hk).2, (h3 k hk).1⟩
  · show (s.set m.1 m.2).set m.1 o = s
    rw [List.set_set]
    apply List.ext_getElem?
    intro k
    by_cases hk : k = m.1
    · rw [hk, List.getElem?_set_self hl, h1]
    · rw [List.getElem?_set_ne (Ne.symm hk)]
def nbs (s : List Pg) : List (List Pg) := (may s).map (aft s)
theorem nbs_len {s t : List Pg} (h : t ∈ nbs s) : t.length = s.length := by
  obtain ⟨m, _, rfl⟩ := List.mem_map.mp h
  exact aft_len s m
theorem nbs_sym {s t : List Pg} (h : t ∈ nbs s) : s ∈ nbs t := by
  obtain ⟨m, hm, rfl⟩ := List.mem_map.mp h
  obtain ⟨m', h1, h2⟩ := back_ok hm
  exact List.mem_map.mpr ⟨m', h1, h2⟩
theorem nodup_map {α β : Type} {f : α → β} : ∀ {l : List α}, (∀ a ∈ l, ∀ b ∈ l, f a = f b → a = b) → l.Nodup → (l.map f).Nodup
  | [], _, _ => List.nodup_nil
  | a :: l, h, n => by
    obtain ⟨n1, n2⟩ := List.nodup_cons.mp n
    rw [List.map_cons, List.nodup_cons]
    refine ⟨fun z => ?_, nodup_map (fun x hx y hy => h x (List.mem_cons_of_mem _ hx) y (List.mem_cons_of_mem _ hy)) n2⟩
    obtain ⟨b, hb, e⟩ := List.mem_map.mp z
    rw [h b (List.mem_cons_of_mem _ hb) a List.mem_cons_self e] at hb
    exact n1 hb
theorem nbs_nodup (s : List Pg) : (nbs s).Nodup := nodup_map (fun a ha b hb => aft_inj ha hb) (may_nodup s)
theorem nbs_step {s u t : List Pg} (hu : u.length = s.length) (h : t ∈ nbs u) : Fr s t ≤ Fr s u + 1 ∧ Fr s u ≤ Fr s t + 1 := by
  have ht := nbs_len h
  obtain ⟨m, hm, rfl⟩ := List.mem_map.mp h
  have q := Fr_step u s hu m hm
  rw [Fr_sym hu, Fr_sym (ht.trans hu)] at q
  exact q
theorem nbs_lower {s t : List Pg} (ht : t.length = s.length) (hne : Fr s t ≠ 0) : ∃ u ∈ nbs t, Fr s u + 1 = Fr s t := by
  have hn : t ≠ s := fun z => hne ((Fr_zero (by rw [z])).mpr z.symm)
  obtain ⟨m, _, hm, e⟩ := next_near t s ht hn
  refine ⟨aft t m, List.mem_map_of_mem hm, ?_⟩
  rw [Fr_sym (by rw [aft_len, ht]), Fr_sym ht.symm]
  exact e
theorem nbs_sum {s t : List Pg} (ht : t.length = s.length) (hne : t ≠ s) : (((nbs t).filter fun u => decide (Fr s u + 1 = Fr s t)).map fun u => Mn s u).sum = Mn s t := by
  have h := near_sum t s (may t)
  rw [Mn_sum t s ht hne, Mn_sym ht] at h
  rw [← h]
  congr 1
  have hl : ∀ u ∈ nbs t, u.length = s.length := fun u hu => (nbs_len hu).trans ht
  show ((nbs t).filter _).map _ = ((nbs t).filter _).map _
  rw [List.filter_congr (q := fun x => decide (Fr x s + 1 = Fr t s)) (fun u hu => by rw [Fr_sym (hl u hu), Fr_sym ht])]
  exact List.map_congr_left fun u hu => Mn_sym (hl u (List.mem_filter.mp hu).1).symm
theorem Fr_lt : ∀ s t : List Pg, s.length = t.length → Fr s t < 2 ^ s.length := by
  refine snoc2_ind (by decide) fun s t a b hl ih => ?_
  rw [List.length_append, List.length_singleton, Nat.pow_succ]
  by_cases e : a = b
  · rw [e, Fr_same]
    omega
  · have h1 := L_lt s (thd a b)
    have h2 := L_lt t (thd a b)
    rw [← hl] at h2
    have h3 : Fr (s ++ [a]) (t ++ [b]) ≤ On (s ++ [a]) (t ++ [b]) := by
      rw [Fr_eq]
      exact Nat.min_le_left _ _
    rw [On_snoc, if_neg e] at h3
    omega
/-! ### all settings -/
def allS : Nat → List (List Pg)
  | 0 => [[]]
  | n + 1 => (allS n).flatMap fun s => [0 :: s, 1 :: s, 2 :: s]
theorem mem_allS : ∀ {n : Nat} {t : List Pg}, t ∈ allS n ↔ t.length = n
  | 0, t => by
    cases t <;> simp [allS]
  | n + 1, t => by
    rw [allS, List.mem_flatMap]
    constructor
    · rintro ⟨s, hs, ht⟩
      have h := mem_allS.mp hs
      simp only [List.mem_cons, List.not_mem_nil, or_false] at ht
      rcases ht with rfl | rfl | rfl <;> rw [List.length_cons, h]
    · intro h
      cases t with
      | nil => cases h
      | cons p s =>
        refine ⟨s, mem_allS.mpr (Nat.succ.inj h), ?_⟩
        have hp : ∀ p : Pg, p = 0 ∨ p = 1 ∨ p = 2 := by decide
        rcases hp p with rfl | rfl | rfl <;> simp
theorem allS_len : ∀ n : Nat, (allS n).length = 3 ^ n
  | 0 => rfl
  | n + 1 => by
    have h : ∀ l : List (List Pg), (l.flatMap fun s => [0 :: s, 1 :: s, 2 :: s]).length = l.length * 3 := fun l => by
      induction l with
      | nil => rfl
      | cons x l ih =>
        rw [List.flatMap_cons, List.length_append, ih]
        show 3 + l.length * 3 = (l.length + 1) * 3
        omega
    rw [allS, h, allS_len n, Nat.pow_succ]
theorem allS_nodup : ∀ n : Nat, (allS n).Nodup
  | 0 => by decide
  | n + 1 => by
    have h : ∀ l : List (List Pg), l.Nodup → (l.flatMap fun s => [0 :: s, 1 :: s, 2 :: s]).Nodup := fun l => by
      induction l with
      | nil => exact fun _ => List.nodup_nil
      | cons x l ih =>
        intro hn
        obtain ⟨n1, n2⟩ := List.nodup_cons.mp hn
        rw [List.flatMap_cons, List.nodup_append]
        refine ⟨by simp, ih n2, fun a ha b hb e => ?_⟩
        subst e
        obtain ⟨y, hy, hb⟩ := List.mem_flatMap.mp hb
        have : x = y := by
          simp only [List.mem_cons, List.not_mem_nil, or_false] at ha hb
          rcases ha with rfl | rfl | rfl <;> rcases hb with h | h | h <;> first | exact (List.cons.inj h).2 | exact absurd (List.cons.inj h).1 (by decide)
        exact n1 (this ▸ hy)
    exact h _ (allS_nodup n)
theorem len_le_sub {α : Type} [DecidableEq α] : ∀ {l r : List α}, l.Nodup → (∀ x ∈ l, x ∈ r) → l.length ≤ r.length
  | [], _, _, _ => Nat.zero_le _
  | a :: l, r, n, h => by
    obtain ⟨n1, n2⟩ := List.nodup_cons.mp n
    have ha := h a List.mem_cons_self
    have ih := len_le_sub (r := r.erase a) n2 fun x hx => (List.mem_erase_of_ne (fun z => n1 (by rw [← z]; exact hx))).mpr (h x (List.mem_cons_of_mem _ hx))
    rw [List.length_erase_of_mem ha] at ih
    have := List.length_pos_of_mem ha
    rw [List.length_cons]
    omega
theorem all_len {n : Nat} {F : List (List Pg)} (hn : F.Nodup) (h : ∀ t, t ∈ F ↔ t.length = n) : F.length = 3 ^ n := by
  rw [← allS_len n]
  exact Nat.le_antisymm (len_le_sub hn fun x hx => mem_allS.mpr ((h x).mp hx)) (len_le_sub (allS_nodup n) fun x hx => (h x).mpr (mem_allS.mp hx))
theorem some_len {n : Nat} {F : List (List Pg)} (hn : F.Nodup) (h : ∀ t, t ∈ F → t.length = n) : F.length ≤ 3 ^ n := by
  rw [← allS_len n]
  exact len_le_sub hn fun x hx => mem_allS.mpr (h x hx)
/-! ### weighed settings -/
abbrev Wt := List (List Pg × Nat)
def lkW (M : Wt) (t : List Pg) : Option Nat := (M.find? fun x => decide (x.1 = t)).map (·.2)
def setW (M : Wt) (t : List Pg) (w : Nat) : Wt := if (M.any fun x => decide (x.1 = t)) = true then M.map (fun x => if x.1 = t then (x.1, w) else x) else M ++ [(t, w)]
def addW (M : Wt) (e : List Pg × Nat) : Wt := setW M e.1 ((lkW M e.1).getD 0 + e.2)
theorem lkW_cons (x : List Pg × Nat) (M : Wt) (t : List Pg) : lkW (x :: M) t = if x.1 = t then some x.2 else lkW M t := by
  unfold lkW
  rw [List.find?_cons]
  by_cases h : x.1 = t
  · rw [decide_eq_true h, if_pos h]
    rfl
  · rw [decide_eq_false h, if_neg h]
theorem lkW_mem : ∀ {M : Wt} {t : List Pg}, (lkW M t).isSome = true ↔ t ∈ M.map (·.1)
  | [], t => by simp [lkW]
  | x :: M, t => by
    rw [lkW_cons, List.map_cons, List.mem_cons]
    by_cases h : x.1 = t
    · rw [if_pos h]
      simp [h]
    · rw [if_neg h, lkW_mem]
      exact ⟨.inr, fun z => z.resolve_left fun y => h y.symm⟩
theorem any_mem (M : Wt) (t : List Pg) : (M.any fun x => decide (x.1 = t)) = decide (t ∈ M.map (·.1)) := by
  induction M with
  | nil => rfl
  | cons x M ih =>
    rw [List.any_cons, ih, List.map_cons]
    by_cases h : x.1 = t
    · simp [h]
    · have h' : ¬ t = x.1 := fun z => h z.symm
      simp [h, h']
theorem lkW_map (M : Wt) (t u : List Pg) (w : Nat) : lkW (M.map fun x => if x.1 = t then (x.1, w) else x) u = (lkW M u).map fun y => if u = t then w else y := by
  induction M with
  | nil => rfl
  | cons x M ih =>
    rw [List.map_cons, lkW_cons, lkW_cons, ih]
    by_cases h : x.1 = t
    · rw [if_pos h]
      by_cases e : x.1 = u
      · rw [if_pos e, if_pos e, Option.map_some, if_pos (e ▸ h)]
      · rw [if_neg e, if_neg e]
    · rw [if_neg h]
      by_cases e : x.1 = u
      · rw [if_pos e, if_pos e, Option.map_some, if_neg (e ▸ h)]
      · rw [if_neg e, if_neg e]
theorem lkW_snoc (M : Wt) (t u : List Pg) (w : Nat) : lkW (M ++ [(t, w)]) u = (lkW M u).or (if t = u then some w else none) := by
  induction M with
  | nil =>
    show lkW [(t, w)] u = _
    rw [lkW_cons]
    rfl
  | cons x M ih =>
    rw [List.cons_append, lkW_cons, lkW_cons, ih]
    by_cases e : x.1 = u
    · rw [if_pos e, if_pos e, Option.some_or]
    · rw [if_neg e, if_neg e]
theorem lkW_set (M : Wt) (t u : List Pg) (w : Nat) : lkW (setW M t w) u = if u = t then some w else lkW M u := by
  unfold setW
  rw [any_mem]
  by_cases h : t ∈ M.map (·.1)
  · rw [decide_eq_true h, if_pos rfl, lkW_map]
    by_cases e : u = t
    · rw [if_pos e]
      have h1 : (lkW M u).isSome = true := lkW_mem.mpr (e ▸ h)
      obtain ⟨y, hy⟩ := Option.isSome_iff_exists.mp h1
      rw [hy, Option.map_some, if_pos e]
    · rw [if_neg e]
      cases lkW M u with
      | none => rfl
      | some y => rw [Option.map_some, if_neg e]
  · rw [decide_eq_false h, if_neg Bool.false_ne_true, lkW_snoc]
    by_cases e : u = t
    · rw [if_pos e, if_pos e.symm]
      cases q : lkW M u with
      | none => rfl
      | some y => exact absurd (lkW_mem.mp (by rw [q]; rfl)) (e ▸ h)
    · rw [if_neg e, if_neg fun z => e z.symm, Option.or_none]
theorem keys_set (M : Wt) (t : List Pg) (w : Nat) : (setW M t w).map (·.1) = if t ∈ M.map (·.1) then M.map (·.1) else M.map (·.1) ++ [t] := by
  unfold setW
  rw [any_mem]
  by_cases h : t ∈ M.map (·.1)
  · rw [decide_eq_true h, if_pos rfl, if_pos h, List.map_map]
    exact List.map_congr_left fun x _ => by
      show (if x.1 = t then (x.1, w) else x).1 = x.1
      split <;> rfl
  · rw [decide_eq_false h, if_neg Bool.false_ne_true, if_neg h, List.map_append]
    rfl
theorem nodup_set {M : Wt} (t : List Pg) (w : Nat) (h : (M.map (·.1)).Nodup) : ((setW M t w).map (·.1)).Nodup := by
  rw [keys_set]
  split
  · exact h
  · rename_i q
    rw [List.nodup_append]
    exact ⟨h, by simp, fun a ha b hb e => q (by rw [← List.mem_singleton.mp hb, ← e]; exact ha)⟩
/-- what the edges es sum up to -/
def sumW (es : Wt) (t : List Pg) : Nat := ((es.filter fun e => decide (e.1 = t)).map (·.2)).sum
structure WOk (es M : Wt) : Prop where
  nd : (M.map (·.1)).Nodup
  lk : ∀ t, lkW M t = if t ∈ es.map (·.1) then some (sumW es t) else none
theorem WOk.nil : WOk [] [] := ⟨List.nodup_nil, fun t => rfl⟩
theorem WOk.add {es M : Wt} (h : WOk es M) (e : List Pg × Nat) : WOk (es ++ [e]) (addW M e) := by
  refine ⟨nodup_set _ _ h.nd, fun t => ?_⟩
  have hs : sumW (es ++ [e]) t = sumW es t + if e.1 = t then e.2 else 0 := by
    unfold sumW
    rw [List.filter_append, List.map_append, List.sum_append]
    congr 1
    by_cases q : e.1 = t
    · rw [if_pos q, List.filter_cons_of_pos (by simpa using q)]
      simp
    · rw [if_neg q, List.filter_cons_of_neg (by simpa using q)]
      rfl
  have hm : t ∈ (es ++ [e]).map (·.1) ↔ t ∈ es.map (·.1) ∨ t = e.1 := by
    rw [List.map_append, List.mem_append, List.map_singleton, List.mem_singleton]
  unfold addW
  rw [lkW_set, hs]
  by_cases q : t = e.1
  · rw [if_pos q, if_pos (hm.mpr (.inr q)), if_pos q.symm, ← q, h.lk t]
    by_cases z : t ∈ es.map (·.1)
    · rw [if_pos z, Option.getD_some]
    · rw [if_neg z, Option.getD_none]
      have : sumW es t = 0 := by
        unfold sumW
        have : es.filter (fun e => decide (e.1 = t)) = [] := List.filter_eq_nil_iff.mpr fun a ha hh => z (List.mem_map.mpr ⟨a, ha, by simpa using hh⟩)
        rw [this]
        rfl
      rw [this]
  · rw [if_neg q, if_neg (show ¬ e.1 = t from fun z => q z.symm), h.lk t, Nat.add_zero]
    by_cases z : t ∈ es.map (·.1)
    · rw [if_pos z, if_pos (hm.mpr (.inl z))]
    · rw [if_neg z, if_neg fun y => (hm.mp y).elim z q]
theorem WOk.mem {es M : Wt} (h : WOk es M) {t : List Pg} : t ∈ M.map (·.1) ↔ t ∈ es.map (·.1) := by
  rw [← lkW_mem, h.lk t]
  by_cases z : t ∈ es.map (·.1)
  · rw [if_pos z]
    exact ⟨fun _ => z, fun _ => rfl⟩
  · rw [if_neg z]
    exact ⟨fun y => (by cases y), fun y => absurd y z⟩
theorem WOk.val {es M : Wt} (h : WOk es M) {x : List Pg × Nat} (hx : x ∈ M) : x.2 = sumW es x.1 := by
  have hl : ∀ {M : Wt}, (M.map (·.1)).Nodup → x ∈ M → lkW M x.1 = some x.2 := fun {M} => by
    induction M with
    | nil => exact fun _ h => by cases h
    | cons y M ih =>
      intro hn hx
      rw [List.map_cons, List.nodup_cons] at hn
      rw [lkW_cons]
      rcases List.mem_cons.mp hx with rfl | hx
      · rw [if_pos rfl]
      · rw [if_neg fun z => hn.1 (List.mem_map.mpr ⟨x, hx, z.symm⟩)]
        exact ih hn.2 hx
  have h1 := hl h.nd hx
  rw [h.lk] at h1
  split at h1
  · exact (Option.some.inj h1).symm
  · cases h1
/-! ### levels -/
/-- F: all that are k away or nearer; L: all that are k away -/
structure LvOk (s : List Pg) (k : Nat) (F L : List (List Pg)) : Prop where
  fn : F.Nodup
  fm : ∀ t, t ∈ F ↔ t.length = s.length ∧ Fr s t ≤ k
  ln : L.Nodup
  lm : ∀ t, t ∈ L ↔ t.length = s.length ∧ Fr s t = k
theorem LvOk.zero (s : List Pg) : LvOk s 0 [s] [s] := by
  have h : ∀ t, t ∈ [s] ↔ t.length = s.length ∧ Fr s t = 0 := fun t => by
    rw [List.mem_singleton]
    exact ⟨fun e => by rw [e]; exact ⟨rfl, (Fr_zero rfl).mpr rfl⟩, fun ⟨a, b⟩ => ((Fr_zero a.symm).mp b).symm⟩
  refine ⟨by simp, fun t => ?_, by simp, h⟩
  rw [h, Nat.le_zero_eq]
/-- the edges out of u that lead further -/
def edg (s : List Pg) (k : Nat) (u : List Pg) : Wt := ((nbs u).filter fun t => decide (k < Fr s t)).map fun t => (t, Mn s u)
def edgs (s : List Pg) (k : Nat) (L : List (List Pg)) : Wt := L.flatMap (edg s k)
theorem edgs_mem {s : List Pg} {k : Nat} {F L : List (List Pg)} (h : LvOk s k F L) {t : List Pg} : t ∈ (edgs s k L).map (·.1) ↔ t.length = s.length ∧ Fr s t = k + 1 := by
  constructor
  · intro ht
    obtain ⟨e, he, rfl⟩ := List.mem_map.mp ht
    obtain ⟨u, hu, he⟩ := List.mem_flatMap.mp he
    obtain ⟨t', ht', rfl⟩ := List.mem_map.mp he
    obtain ⟨h1, h2⟩ := List.mem_filter.mp ht'
    obtain ⟨a, b⟩ := (h.lm u).mp hu
    have st := nbs_step a h1
    have h2' := of_decide_eq_true h2
    exact ⟨(nbs_len h1).trans a, by show Fr s t' = k + 1; omega⟩
  · rintro ⟨a, b⟩
    obtain ⟨u, hu, e⟩ := nbs_lower a (by omega)
    refine List.mem_map.mpr ⟨(t, Mn s u), List.mem_flatMap.mpr ⟨u, (h.lm u).mpr ⟨(nbs_len hu).trans a, by omega⟩, List.mem_map.mpr ⟨t, List.mem_filter.mpr ⟨nbs_sym hu, decide_eq_true (by omega)⟩, rfl⟩⟩, rfl⟩
theorem sum_edg {s u t : List Pg} {k : Nat} (hk : k < Fr s t) : sumW (edg s k u) t = if t ∈ nbs u then Mn s u else 0 := by
  have g : ∀ l : List (List Pg), l.Nodup → sumW ((l.filter fun t => decide (k < Fr s t)).map fun t => (t, Mn s u)) t = if t ∈ l then Mn s u else 0 := fun l => by
    induction l with
    | nil => exact fun _ => rfl
    | cons x l ih =>
      intro hn
      obtain ⟨n1, n2⟩ := List.nodup_cons.mp hn
      have ih := ih n2
      by_cases e : x = t
      · subst e
        rw [List.filter_cons_of_pos (by simpa using hk), if_pos List.mem_cons_self]
        rw [if_neg n1] at ih
        unfold sumW at ih ⊢
        rw [List.map_cons, List.filter_cons_of_pos (by simp), List.map_cons, List.sum_cons, ih]
        rfl
      · have hm : t ∈ x :: l ↔ t ∈ l := by
          rw [List.mem_cons]
          exact ⟨fun z => z.resolve_left fun y => e y.symm, .inr⟩
        have hi : (if t ∈ x :: l then Mn s u else 0) = if t ∈ l then Mn s u else 0 := by simp only [hm]
        rw [hi, ← ih]
        by_cases q : k < Fr s x
        · rw [List.filter_cons_of_pos (by simpa using q)]
          unfold sumW
          rw [List.map_cons, List.filter_cons_of_neg (by simpa using e)]
        · rw [List.filter_cons_of_neg (by simpa using q)]
  exact g _ (nbs_nodup u)
theorem sum_edgs {s t : List Pg} {k : Nat} (hk : k < Fr s t) : ∀ L : List (List Pg), sumW (edgs s k L) t = ((L.filter fun u => decide (t ∈ nbs u)).map fun u => Mn s u).sum
  | [] => rfl
  | u :: L => by
    have e : sumW (edgs s k (u :: L)) t = sumW (edg s k u) t + sumW (edgs s k L) t := by
      unfold edgs sumW
      rw [List.flatMap_cons, List.filter_append, List.map_append, List.sum_append]
    rw [e, sum_edg hk, sum_edgs hk L]
    by_cases q : t ∈ nbs u
    · rw [if_pos q, List.filter_cons_of_pos (by simpa using q), List.map_cons, List.sum_cons]
    · rw [if_neg q, List.filter_cons_of_neg (by simpa using q), Nat.zero_add]
theorem edgs_val {s : List Pg} {k : Nat} {F L : List (List Pg)} (h : LvOk s k F L) {t : List Pg} (hl : t.length = s.length) (hk : Fr s t = k + 1) : sumW (edgs s k L) t = Mn s t := by
  rw [sum_edgs (by omega)]
  have hne : t ≠ s := fun z => by
    have := (Fr_zero (s := s) (t := t) hl.symm).mpr z.symm
    omega
  rw [← nbs_sum hl hne]
  refine List.Perm.sum_nat (List.Perm.map _ ((List.perm_ext_iff_of_nodup (h.ln.filter _) ((nbs_nodup t).filter _)).mpr fun u => ?_))
  rw [List.mem_filter, List.mem_filter, h.lm u, decide_eq_true_iff, decide_eq_true_iff]
  constructor
  · rintro ⟨⟨a, b⟩, c⟩
    exact ⟨nbs_sym c, by omega⟩
  · rintro ⟨a, b⟩
    exact ⟨⟨(nbs_len a).trans hl, by omega⟩, nbs_sym a⟩
theorem LvOk.next {s : List Pg} {k : Nat} {F L : List (List Pg)} {M : Wt} (h : LvOk s k F L) (w : WOk (edgs s k L) M) : LvOk s (k + 1) (F ++ M.map (·.1)) (M.map (·.1)) := by
  have hm : ∀ t, t ∈ M.map (·.1) ↔ t.length = s.length ∧ Fr s t = k + 1 := fun t => w.mem.trans (edgs_mem h)
  refine ⟨?_, fun t => ?_, w.nd, hm⟩
  · rw [List.nodup_append]
    refine ⟨h.fn, w.nd, fun a ha b hb e => ?_⟩
    have h1 := ((h.fm a).mp ha).2
    have h2 := ((hm b).mp hb).2
    rw [e] at h1
    omega
  · rw [List.mem_append, h.fm, hm]
    constructor
    · rintro (⟨a, b⟩ | ⟨a, b⟩) <;> exact ⟨a, by omega⟩
    · rintro ⟨a, b⟩
      by_cases q : Fr s t ≤ k
      · exact .inl ⟨a, q⟩
      · exact .inr ⟨a, by omega⟩
/-- an empty level: there are no more -/
theorem LvOk.last {s : List Pg} {k : Nat} {F : List (List Pg)} (h : LvOk s k F []) : ∀ t, t ∈ F ↔ t.length = s.length := by
  have no : ∀ t : List Pg, t.length = s.length → Fr s t ≠ k := fun t a b => by
    have := (h.lm t).mpr ⟨a, b⟩
    cases this
  have up : ∀ d (t : List Pg), t.length = s.length → Fr s t ≠ k + d := fun d => by
    induction d with
    | zero => exact no
    | succ d ih =>
      intro t a b
      obtain ⟨u, hu, e⟩ := nbs_lower a (by omega)
      exact ih u ((nbs_len hu).trans a) (by omega)
  intro t
  rw [h.fm]
  refine ⟨fun z => z.1, fun a => ⟨a, ?_⟩⟩
  by_cases q : Fr s t ≤ k
  · exact q
  · exact absurd (show Fr s t = k + (Fr s t - k) by omega) (up _ t a)
end Peg

/-! settings as keys; what the going out tells -/
namespace Pd
open PySem PySem.Spec PyProof.Rows L2 Peg
def kS (t : List Pg) : List Int := t.map fun p => ((p.val : Nat) : Int)
theorem key_dS (t : List Pg) : keyT (kS t) = dS t := by
  show PyData.tuple ((t.map _).map _) = _
  rw [List.map_map]
  rfl
theorem kS_inj : ∀ {a b : List Pg}, kS a = kS b ↔ a = b
  | [], [] => by simp
  | [], _ :: _ => by simp [kS]
  | _ :: _, [] => by simp [kS]
  | x :: xs, y :: ys => by
    have ih := kS_inj (a := xs) (b := ys)
    unfold kS at ih ⊢
    rw [List.map_cons, List.map_cons, List.cons.injEq, List.cons.injEq, ih, pg_ne]
abbrev dFM (s t : List Pg) : PyData := .tuple [dN (Peg.Fr s t), dN (Mn s t)]
def tabF (s : List Pg) (F : List (List Pg)) : Tab := F.map fun t => (kS t, dFM s t)
def tabW (M : Wt) : Tab := M.map fun x => (kS x.1, dN x.2)
theorem tabF_len (s : List Pg) (F : List (List Pg)) : (tabF s F).length = F.length := List.length_map ..
theorem tabW_len (M : Wt) : (tabW M).length = M.length := List.length_map ..
theorem look_F (s t : List Pg) : ∀ F : List (List Pg), look (tabF s F) (kS t) = if t ∈ F then some (dFM s t) else none
  | [] => rfl
  | x :: F => by
    rw [tabF, List.map_cons, look_cons]
    by_cases e : x = t
    · subst e
      rw [if_pos rfl, if_pos List.mem_cons_self]
    · have e2 : (t ∈ x :: F) ↔ t ∈ F := by
        rw [List.mem_cons]
        exact ⟨fun z => z.resolve_left fun y => e y.symm, .inr⟩
      rw [if_neg (fun z => e (kS_inj.mp z))]
      have ih := look_F s t F
      rw [tabF] at ih
      rw [ih]
      simp only [e2]
theorem look_W (t : List Pg) : ∀ M : Wt, look (tabW M) (kS t) = (lkW M t).map dN
  | [] => rfl
  | x :: M => by
    rw [tabW, List.map_cons, look_cons, lkW_cons]
    by_cases e : x.1 = t
    · rw [if_pos (show kS x.1 = kS t by rw [e]), if_pos e]
      rfl
    · rw [if_neg (show ¬ kS x.1 = kS t from fun z => e (kS_inj.mp z)), if_neg e]
      exact look_W t M
theorem getD_W (t : List Pg) (M : Wt) : (look (tabW M) (kS t)).getD (.int 0) = dN ((lkW M t).getD 0) := by
  rw [look_W]
  cases lkW M t <;> rfl
theorem any_F (s t : List Pg) (F : List (List Pg)) : ((tabF s F).any fun x => decide (x.1 = kS t)) = decide (t ∈ F) := by
  induction F with
  | nil => rfl
  | cons x F ih =>
    rw [tabF, List.map_cons, List.any_cons]
    rw [tabF] at ih
    rw [ih]
    by_cases e : x = t
    · simp [e]
    · have e1 : ¬ kS x = kS t := fun z => e (kS_inj.mp z)
      have e2 : ¬ t = x := fun z => e z.symm
      simp [e1, e2]
theorem put_F {s t : List Pg} {F : List (List Pg)} (h : t ∉ F) : putT (tabF s F) (kS t) (dFM s t) = tabF s (F ++ [t]) := by
  unfold putT
  rw [any_F, decide_eq_false h, if_neg Bool.false_ne_true, tabF, tabF, List.map_append]
  rfl
theorem put_W (t : List Pg) (w : Nat) (M : Wt) : putT (tabW M) (kS t) (dN w) = tabW (setW M t w) := by
  unfold putT setW
  have ha : ((tabW M).any fun x => decide (x.1 = kS t)) = M.any fun x => decide (x.1 = t) := by
    rw [tabW, List.any_map]
    congr 1
    funext x
    exact decide_eq_decide.mpr kS_inj
  rw [ha]
  by_cases h : (M.any fun x => decide (x.1 = t)) = true
  · rw [if_pos h, if_pos h, tabW, tabW, List.map_map, List.map_map]
    refine List.map_congr_left fun x _ => ?_
    show (if kS x.1 = kS t then (kS x.1, dN w) else (kS x.1, dN x.2)) = _
    by_cases e : x.1 = t
    · rw [if_pos (by rw [e])]
      show _ = (kS (if x.1 = t then (x.1, w) else x).1, dN (if x.1 = t then (x.1, w) else x).2)
      rw [if_pos e]
    · rw [if_neg fun z => e (kS_inj.mp z)]
      show _ = (kS (if x.1 = t then (x.1, w) else x).1, dN (if x.1 = t then (x.1, w) else x).2)
      rw [if_neg e]
  · rw [if_neg h, if_neg h, tabW, tabW, List.map_append]
    rfl
theorem keys_W (M : Wt) : keysT (tabW M) = (M.map (·.1)).map dS := by
  show (tabW M).map _ = _
  rw [tabW, List.map_map, List.map_map]
  exact List.map_congr_left fun x _ => key_dS x.1
def GoneOk (s : List Pg) (F : List (List Pg)) : Prop := F.Nodup ∧ ∀ t, t ∈ F ↔ t.length = s.length
/-- the dicts of the going out: at slot 1 what is found, at slot 4 what is fresh -/
def dd (F W : Option (Lck × Tab)) : DSt := up (up (fun _ => none) 1 F) 4 W
theorem dd_up1 (F W x : Option (Lck × Tab)) : up (dd F W) 1 x = dd x W := by
  funext j
  unfold dd up
  by_cases h1 : j = 1
  · simp [h1]
  · by_cases h4 : j = 4 <;> simp [h1, h4]
theorem dd_up4 (F W x : Option (Lck × Tab)) : up (dd F W) 4 x = dd F x := up_up
theorem dd_1 (F W : Option (Lck × Tab)) : dd F W 1 = F := rfl
theorem dd_4 (F W : Option (Lck × Tab)) : dd F W 4 = W := rfl
theorem dd_0 (F : Option (Lck × Tab)) : up (fun _ => none) 1 F = dd F none := by
  funext j
  unfold dd up
  by_cases h4 : j = 4
  · simp [h4]
  · simp [h4]
theorem tabF_one (s : List Pg) : tabF s [s] = [(kS s, .tuple [dN 0, dN 1])] := by
  show [(kS s, dFM s s)] = _
  rw [dFM, (Fr_zero (s := s) rfl).mpr rfl, Mn_self]
/-- the edges to the first j settings beside u -/
def edgJ (s : List Pg) (k : Nat) (u : List Pg) (j : Nat) : Wt := (((nbs u).take j).filter fun t => decide (k < Peg.Fr s t)).map fun t => (t, Mn s u)
theorem edgJ_zero (s u : List Pg) (k : Nat) : edgJ s k u 0 = [] := rfl
theorem edgJ_all (s u : List Pg) (k : Nat) : edgJ s k u (may u).length = edg s k u := by
  have h : (nbs u).take (may u).length = nbs u := by
    rw [← show (nbs u).length = (may u).length from List.length_map .., List.take_length]
  rw [edgJ, h, edg]
theorem edgJ_more {s u t : List Pg} {k j : Nat} (h : (nbs u)[j]? = some t) : edgJ s k u (j + 1) = edgJ s k u j ++ if k < Peg.Fr s t then [(t, Mn s u)] else [] := by
  rw [edgJ, edgJ, List.take_add_one, h, Option.toList_some, List.filter_append, List.map_append]
  congr 1
  by_cases q : k < Peg.Fr s t
  · rw [if_pos q, List.filter_cons_of_pos (by simpa using q)]
    rfl
  · rw [if_neg q, List.filter_cons_of_neg (by simpa using q)]
    rfl
theorem edgs_more {s u : List Pg} {k i : Nat} {L : List (List Pg)} (h : L[i]? = some u) : edgs s k (L.take (i + 1)) = edgs s k (L.take i) ++ edg s k u := by
  rw [edgs, edgs, List.take_add_one, h, Option.toList_some, List.flatMap_append]
  congr 1
  rw [List.flatMap_cons, List.flatMap_nil, List.append_nil]
theorem hg_name {K : PySem.W.Frag} {d : PyData} {δ : DEnv} {Δ : DSt} {n : Nat} (h : Δ n = none) : TgD K (gName n) [n] d δ (δ.set n (cv d)) ∧ (∀ j ∈ [n], Δ j = none) ∧ (noOwnE δ → noOwnE (δ.set n (cv d))) :=
  ⟨tg_name, fun j hj => by rw [List.mem_singleton.mp hj]; exact h, fun no => noOwn_set no _ fun es z => by cases z⟩
theorem nodup_take {α : Type} {a : α} : ∀ {l : List α} {j : Nat}, l.Nodup → l[j]? = some a → a ∉ l.take j
  | [], _, _, h => by simp at h
  | b :: l, 0, _, _ => by simp
  | b :: l, j + 1, n, h => by
    obtain ⟨n1, n2⟩ := List.nodup_cons.mp n
    have h' : l[j]? = some a := h
    intro z
    rcases List.mem_cons.mp (show a ∈ b :: l.take j from z) with rfl | z
    · exact n1 (List.mem_of_getElem? h')
    · exact nodup_take n2 h' z
theorem noOwn_vals {δ : DEnv} (h : ∀ x ∈ δ, ∀ es, x ≠ some (Cel.own es)) : noOwnE δ := fun i es q => h _ (List.mem_of_getElem? q) es rfl
theorem lens_at {n : Nat} (h : n ≤ 4) : atI [PyData.int 1, .int 3, .int 9, .int 27, .int 81] (n : Int) = some (dN (3 ^ n)) := by
  match n, h with
  | 0, _ => rfl
  | 1, _ => rfl
  | 2, _ => rfl
  | 3, _ => rfl
  | 4, _ => rfl
theorem eqv_FM (s t : List Pg) : PyData.eqv (dFM s t) (dFM s t) = true := by simp [PyData.eqv, PyData.eqvAll]
theorem le_scr {a x1 x2 x3 x4 x5 x6 x7 : Option Cel} : Le [a, none, none, none, none, none, none, none] [a, x1, x2, x3, x4, x5, x6, x7] := ⟨rfl, fun i x h => match i, h with
  | 0, h => h
  | 1, h => by cases h
  | 2, h => by cases h
  | 3, h => by cases h
  | 4, h => by cases h
  | 5, h => by cases h
  | 6, h => by cases h
  | 7, h => by cases h
  | i + 8, h => by cases h⟩
theorem no_is {Δ : DSt} : ∀ i ∈ ([] : List Nat), Δ i ≠ none := fun i h => by cases h
/-! ### a promise of a new dict -/
def PrDc (K : PySem.W.Frag) (vs : List V) (H : Hp) (Q : VK) (ds : List PyData) (Z : Tab → Prop) : Prop := ∃ G, Ex G H ∧ RpAll K G vs ds ∧ ∀ tb, Z tb → ∀ w G' H', Run G H G' H' → dctF K tb H G' w H' → Q w H'
section
variable {K : PySem.W.Frag} {c : Cc} {δ : DEnv} {Δ : DSt} {ds : List PyData} {Z : Tab → Prop} {vs : List V} {H : Hp} {Q : VK} {t : TS} {N : DEnv → DSt → Prop} {R : Rs → Prop} {n i : Nat} {tb : Tab}
theorem PrDc.len (p : PrDc K vs H Q ds Z) : vs.length = ds.length := let ⟨_, _, r, _⟩ := p; r.length
theorem noOwn0 (n : Nat) (ds : List PyData) : noOwnE (env0 n ds) := fun i es h => by
  have hm := List.mem_of_getElem? h
  unfold env0 at hm
  simp at hm
theorem body_dc {Ns : List Str} (p : PrDc K vs H Q ds Z) (hl : ds.length ≤ Ns.length) (h : ∀ c, SDD K c t (env0 Ns.length ds) (fun _ => none) (fun _ _ => False) (fun r => ∃ tb, Z tb ∧ r = .gen (dctF K tb))) : t { nx := fun _ H' => Q .non H', rt := Q } (L2.start Ns vs) H := by
  obtain ⟨G, e, r, q⟩ := p
  have s : Sta K ⟨G, H, fun _ _ _ _ => False⟩ (env0 Ns.length ds) (L2.start Ns vs) [] [] H := sta0 e r hl
  obtain ⟨G1, r1, e1, _⟩ := s
  refine h ⟨G, H, fun _ _ _ _ => False⟩ (L2.start Ns vs) H _ ⟨G1, r1, e1, noOwn0 _ _, ⟨fun i tb q => (by cases q), fun i o p tb q => (by cases q), fun i j x y q => (by cases q)⟩⟩ (fun δ' Δ' σ' H' n s => n.elim) fun r v H' hr s => ?_
  obtain ⟨tb, hz, rfl⟩ := hr
  obtain ⟨G', rn, hf⟩ := s
  exact q tb hz v G' H' rn hf
theorem sdd_asgDcE {sp : Sp} {E : XK} {tr : TA} (h : ∀ c', EvA K c' tr δ ds) (hs : ∀ vs H Q, PrDc K vs H Q ds Z → sp vs H Q E) (hn : n < δ.length) (k : ∀ tb, Z tb → N (δ.set n none) (up Δ n (some (none, tb)))) :
    SDD K c (tAsg (tCall sp [] E tr) (gName n)) δ Δ N R := fun σ H D s q1 _ => by
  obtain ⟨G, r, e, no, dc⟩ := s
  refine h ⟨G, H, c.W⟩ σ H [] [] ⟨G, Run.refl r.h, noOwn_base e no, .nil⟩ _ fun vs H1 hv s1 => ?_
  obtain ⟨G1, r1, e1, x1, _⟩ := sta_split hv s1
  show sp (vs ++ []) H1 _ E
  rw [List.append_nil]
  refine hs vs H1 _ ⟨G1, r1.h, x1, fun tb hz w G' H' r' hf => ?_⟩
  obtain ⟨p, kvs, rfl, f1, f2, f3, f4⟩ := hf
  have r3 := r1.trans r'
  have dc1 := dc.run r1
  exact q1 _ _ _ _ (k tb hz) ⟨G', r.trans r3, (noOwn_base (e1.run r') no).put _, noOwn_set no _ (fun es z => by cases z), dcs_new (dc.run r3) (by rw [e.len]; exact hn) ((r.trans r1).k.free f1) f2 f3 f4 fun i x h _ => dcs_free dc1 r1.h f1 i x h⟩
end
end Pd

namespace PW
open PySem PySem.Spec PyProof.Rows L2 Pd
/-! ### the text by places -/
def topS (i : Nat) : Stmt := PySem.Challenge.pw_pegdiscs_k08_by_going_out.main.body.getD i (.Pass ⟨0, 0, 0, 0⟩)
abbrev s_is_among : Stmt := topS 8
theorem sc_is_among : FnScope ["thing", "least", "most"] ["thing", "least", "most"] (defScope s_is_among) := ⟨rfl, rfl, rfl, by decide +kernel, rfl, by decide +kernel, by decide +kernel⟩
abbrev s_is_peg : Stmt := topS 9
theorem sc_is_peg : FnScope ["thing"] ["thing"] (defScope s_is_peg) := ⟨rfl, rfl, rfl, by decide +kernel, rfl, by decide +kernel, by decide +kernel⟩
abbrev s_is_setting : Stmt := topS 10
theorem sc_is_setting : FnScope ["thing", "peg"] ["thing"] (defScope s_is_setting) := ⟨rfl, rfl, rfl, by decide +kernel, rfl, by decide +kernel, by decide +kernel⟩
abbrev s_need_setting : Stmt := topS 11
theorem sc_need_setting : FnScope ["thing"] ["thing"] (defScope s_need_setting) := ⟨rfl, rfl, rfl, by decide +kernel, rfl, by decide +kernel, by decide +kernel⟩
abbrev s_need_pair : Stmt := topS 12
theorem sc_need_pair : FnScope ["one", "other"] ["one", "other"] (defScope s_need_pair) := ⟨rfl, rfl, rfl, by decide +kernel, rfl, by decide +kernel, by decide +kernel⟩
abbrev s_need_peg : Stmt := topS 13
theorem sc_need_peg : FnScope ["peg"] ["peg"] (defScope s_need_peg) := ⟨rfl, rfl, rfl, by decide +kernel, rfl, by decide +kernel, by decide +kernel⟩
abbrev s_third : Stmt := topS 14
theorem sc_third : FnScope ["one", "other"] ["one", "other"] (defScope s_third) := ⟨rfl, rfl, rfl, by decide +kernel, rfl, by decide +kernel, by decide +kernel⟩
abbrev s_to_peg : Stmt := topS 16
theorem sc_to_peg : FnScope ["setting", "peg", "discs", "found", "disc"] ["setting", "peg", "discs"] (defScope s_to_peg) := ⟨rfl, rfl, rfl, by decide +kernel, rfl, by decide +kernel, by decide +kernel⟩
abbrev s_toward : Stmt := topS 17
theorem sc_toward : FnScope ["setting", "peg"] ["setting", "peg"] (defScope s_toward) := ⟨rfl, rfl, rfl, by decide +kernel, rfl, by decide +kernel, by decide +kernel⟩
abbrev s_greatest_unlike : Stmt := topS 18
theorem sc_greatest_unlike : FnScope ["one", "other", "disc"] ["one", "other"] (defScope s_greatest_unlike) := ⟨rfl, rfl, rfl, by decide +kernel, rfl, by decide +kernel, by decide +kernel⟩
abbrev s_choices : Stmt := topS 19
theorem sc_choices : FnScope ["one", "other", "disc", "begin", "end", "free", "once", "twice"] ["one", "other"] (defScope s_choices) := ⟨rfl, rfl, rfl, by decide +kernel, rfl, by decide +kernel, by decide +kernel⟩
abbrev s_far : Stmt := topS 20
theorem sc_far : FnScope ["one", "other", "told"] ["one", "other"] (defScope s_far) := ⟨rfl, rfl, rfl, by decide +kernel, rfl, by decide +kernel, by decide +kernel⟩
abbrev s_many_ways : Stmt := topS 21
theorem sc_many_ways : FnScope ["one", "other", "told"] ["one", "other"] (defScope s_many_ways) := ⟨rfl, rfl, rfl, by decide +kernel, rfl, by decide +kernel, by decide +kernel⟩
abbrev s_law_cell : Stmt := topS 23
theorem sc_law_cell : FnScope ["_law_script", "_law_k", "_law_cell_here"] ["_law_script", "_law_k"] (defScope s_law_cell) := ⟨rfl, rfl, rfl, by decide +kernel, rfl, by decide +kernel, by decide +kernel⟩
abbrev s_law_great : Stmt := topS 24
theorem sc_law_great : FnScope ["_law_script", "_law_k", "_law_found", "_law_cell_here"] ["_law_script", "_law_k"] (defScope s_law_great) := ⟨rfl, rfl, rfl, by decide +kernel, rfl, by decide +kernel, by decide +kernel⟩
abbrev s_law_setting : Stmt := topS 25
theorem sc_law_setting : FnScope ["_law_number", "_law_discs", "_law_pegs", "_law_rest", "_law_disc", "_law_peg", "_law_at", "_law_some"] ["_law_number", "_law_discs"] (defScope s_law_setting) := ⟨rfl, rfl, rfl, by decide +kernel, rfl, by decide +kernel, by decide +kernel⟩
abbrev s_law_may : Stmt := topS 26
theorem sc_law_may : FnScope ["_law_setting_here", "_law_tops", "_law_found", "_law_own", "_law_peg", "_law_disc"] ["_law_setting_here"] (defScope s_law_may) := ⟨rfl, rfl, rfl, by decide +kernel, rfl, by decide +kernel, by decide +kernel⟩
abbrev s_law_behind : Stmt := topS 27
theorem sc_law_behind : FnScope ["_law_setting_here", "_law_move"] ["_law_setting_here", "_law_move"] (defScope s_law_behind) := ⟨rfl, rfl, rfl, by decide +kernel, rfl, by decide +kernel, by decide +kernel⟩
abbrev s_law_gone_out : Stmt := topS 28
theorem sc_law_gone_out : FnScope ["_law_setting_here", "_law_found", "_law_level", "_law_away", "_law_fresh", "_law_here", "_law_move", "_law_there"] ["_law_setting_here"] (defScope s_law_gone_out) := ⟨rfl, rfl, rfl, by decide +kernel, rfl, by decide +kernel, by decide +kernel⟩
abbrev s_law : Stmt := topS 29
theorem sc_law : FnScope ["_law_script", "_law_k", "_law_number", "_law_discs", "_law_setting_here", "_law_found", "_law_other", "_law_peg"] ["_law_script"] (defScope s_law) := ⟨rfl, rfl, rfl, by decide +kernel, rfl, by decide +kernel, by decide +kernel⟩
theorem room65 {k : Nat} {A : Around} (r : Room k A) : A.units + 65 < cLine := by
  have := r.un
  omega
/-- where things stand -/
structure Ad where
  a_is_among : Addr
  d_is_among : FuncData
  a_is_peg : Addr
  d_is_peg : FuncData
  a_is_setting : Addr
  d_is_setting : FuncData
  a_need_setting : Addr
  d_need_setting : FuncData
  a_need_pair : Addr
  d_need_pair : FuncData
  a_need_peg : Addr
  d_need_peg : FuncData
  a_third : Addr
  d_third : FuncData
  a_to_peg : Addr
  d_to_peg : FuncData
  a_toward : Addr
  d_toward : FuncData
  a_greatest_unlike : Addr
  d_greatest_unlike : FuncData
  a_choices : Addr
  d_choices : FuncData
  a_far : Addr
  d_far : FuncData
  a_many_ways : Addr
  d_many_ways : FuncData
  a_law_cell : Addr
  d_law_cell : FuncData
  a_law_great : Addr
  d_law_great : FuncData
  a_law_setting : Addr
  d_law_setting : FuncData
  a_law_may : Addr
  d_law_may : FuncData
  a_law_behind : Addr
  d_law_behind : FuncData
  a_law_gone_out : Addr
  d_law_gone_out : FuncData
  a_law : Addr
  d_law : FuncData
  t_MOST_DISCS : Tok
  t_LAST_PEG : Tok
  a_PegError : Addr
  a_BadSetting : Addr
  a_Unlike : Addr
  a_BadPegs : Addr
/-- what the top has written -/
structure Txt (K : PySem.W.Frag) (mg : Str → Option Value) (A : Ad) : Prop where
  f_is_among : Fun K "is_among" "is_among" s_is_among A.a_is_among A.d_is_among
  g_is_among : mg "is_among" = some (.ref A.a_is_among)
  b_is_among : Binds K A.d_is_among ["thing", "least", "most"] []
  f_is_peg : Fun K "is_peg" "is_peg" s_is_peg A.a_is_peg A.d_is_peg
  g_is_peg : mg "is_peg" = some (.ref A.a_is_peg)
  b_is_peg : Binds K A.d_is_peg ["thing"] []
  f_is_setting : Fun K "is_setting" "is_setting" s_is_setting A.a_is_setting A.d_is_setting
  g_is_setting : mg "is_setting" = some (.ref A.a_is_setting)
  b_is_setting : Binds K A.d_is_setting ["thing"] []
  f_need_setting : Fun K "need_setting" "need_setting" s_need_setting A.a_need_setting A.d_need_setting
  g_need_setting : mg "need_setting" = some (.ref A.a_need_setting)
  b_need_setting : Binds K A.d_need_setting ["thing"] []
  f_need_pair : Fun K "need_pair" "need_pair" s_need_pair A.a_need_pair A.d_need_pair
  g_need_pair : mg "need_pair" = some (.ref A.a_need_pair)
  b_need_pair : Binds K A.d_need_pair ["one", "other"] []
  f_need_peg : Fun K "need_peg" "need_peg" s_need_peg A.a_need_peg A.d_need_peg
  g_need_peg : mg "need_peg" = some (.ref A.a_need_peg)
  b_need_peg : Binds K A.d_need_peg ["peg"] []
  f_third : Fun K "third" "third" s_third A.a_third A.d_third
  g_third : mg "third" = some (.ref A.a_third)
  b_third : Binds K A.d_third ["one", "other"] []
  f_to_peg : Fun K "to_peg" "to_peg" s_to_peg A.a_to_peg A.d_to_peg
  g_to_peg : mg "to_peg" = some (.ref A.a_to_peg)
  b_to_peg : Binds K A.d_to_peg ["setting", "peg", "discs"] []
  f_toward : Fun K "toward" "toward" s_toward A.a_toward A.d_toward
  g_toward : mg "toward" = some (.ref A.a_toward)
  b_toward : Binds K A.d_toward ["setting", "peg"] []
  f_greatest_unlike : Fun K "greatest_unlike" "greatest_unlike" s_greatest_unlike A.a_greatest_unlike A.d_greatest_unlike
  g_greatest_unlike : mg "greatest_unlike" = some (.ref A.a_greatest_unlike)
  b_greatest_unlike : Binds K A.d_greatest_unlike ["one", "other"] []
  f_choices : Fun K "choices" "choices" s_choices A.a_choices A.d_choices
  g_choices : mg "choices" = some (.ref A.a_choices)
  b_choices : Binds K A.d_choices ["one", "other"] []
  f_far : Fun K "far" "far" s_far A.a_far A.d_far
  g_far : mg "far" = some (.ref A.a_far)
  b_far : Binds K A.d_far ["one", "other"] []
  f_many_ways : Fun K "many_ways" "many_ways" s_many_ways A.a_many_ways A.d_many_ways
  g_many_ways : mg "many_ways" = some (.ref A.a_many_ways)
  b_many_ways : Binds K A.d_many_ways ["one", "other"] []
  f_law_cell : Fun K "_law_cell" "_law_cell" s_law_cell A.a_law_cell A.d_law_cell
  g_law_cell : mg "_law_cell" = some (.ref A.a_law_cell)
  b_law_cell : Binds K A.d_law_cell ["_law_script", "_law_k"] []
  f_law_great : Fun K "_law_great" "_law_great" s_law_great A.a_law_great A.d_law_great
  g_law_great : mg "_law_great" = some (.ref A.a_law_great)
  b_law_great : Binds K A.d_law_great ["_law_script", "_law_k"] []
  f_law_setting : Fun K "_law_setting" "_law_setting" s_law_setting A.a_law_setting A.d_law_setting
  g_law_setting : mg "_law_setting" = some (.ref A.a_law_setting)
  b_law_setting : Binds K A.d_law_setting ["_law_number", "_law_discs"] []
  f_law_may : Fun K "_law_may" "_law_may" s_law_may A.a_law_may A.d_law_may
  g_law_may : mg "_law_may" = some (.ref A.a_law_may)
  b_law_may : Binds K A.d_law_may ["_law_setting_here"] []
  f_law_behind : Fun K "_law_behind" "_law_behind" s_law_behind A.a_law_behind A.d_law_behind
  g_law_behind : mg "_law_behind" = some (.ref A.a_law_behind)
  b_law_behind : Binds K A.d_law_behind ["_law_setting_here", "_law_move"] []
  f_law_gone_out : Fun K "_law_gone_out" "_law_gone_out" s_law_gone_out A.a_law_gone_out A.d_law_gone_out
  g_law_gone_out : mg "_law_gone_out" = some (.ref A.a_law_gone_out)
  b_law_gone_out : Binds K A.d_law_gone_out ["_law_setting_here"] []
  f_law : Fun K "law" "law" s_law A.a_law A.d_law
  g_law : mg "law" = some (.ref A.a_law)
  b_law : Binds K A.d_law ["_law_script"] []
  c_MOST_DISCS : mg "MOST_DISCS" = some (.int 60 A.t_MOST_DISCS)
  c_LAST_PEG : mg "LAST_PEG" = some (.int 2 A.t_LAST_PEG)
  n_isinstance : mg "isinstance" = none
  n_int : mg "int" = none
  n_bool : mg "bool" = none
  n_tuple : mg "tuple" = none
  n_all : mg "all" = none
  n_len : mg "len" = none
  n_reversed : mg "reversed" = none
  n_range : mg "range" = none
  n_min : mg "min" = none
  n_sorted : mg "sorted" = none
  n_enumerate : mg "enumerate" = none
  n_list : mg "list" = none
section
variable {P : Program} {w : World} {K : PySem.W.Frag} {mg : Str → Option Value} {base : Heap} {A : Ad}
end
end PW
open PySem PySem.Spec PyProof.Rows L2 Pd Peg
local macro_rules | `(tactic| walk_at "sd") => `(tactic| first | assumption | trivial | omega | decide | rfl | (refine ⟨?_, ?_⟩ <;> walk_at "sd"))
local macro_rules | `(tactic| walk_at "opd") => `(tactic| first
  | with_reducible exact od_add | with_reducible exact od_sub | with_reducible exact od_lt | with_reducible exact od_le | with_reducible exact od_gt | with_reducible exact od_ge | with_reducible exact od_and
  | ((with_reducible refine' od_eqNil ?h0); (case h0 => walk_at "shp")) | ((with_reducible refine' od_neNil ?h0); (case h0 => walk_at "shp")) | with_reducible exact od_neS | with_reducible exact od_eqI | with_reducible exact od_neI | with_reducible exact od_isN | with_reducible exact od_notN | with_reducible exact od_isB | with_reducible exact od_notB
  | ((with_reducible refine' od_mod ?h0); (case h0 => walk_at "sd")) | ((with_reducible refine' od_fdivW ?h0 ?h1); (case h0 => walk_at "sd"); (case h1 => walk_at "sd")) | ((with_reducible refine' od_mul ?h0); (case h0 => walk_at "mul")) | ((with_reducible refine' od_shl ?h0); (case h0 => walk_at "pow")) | ((with_reducible refine' od_pow ?h0); (case h0 => walk_at "pow")) | ((with_reducible refine' od_shr ?h0); (case h0 => walk_at "sd"))
  | ((with_reducible refine' od_ixT ?h0); (case h0 => walk_at "at")) | ((with_reducible refine' od_ixL ?h0); (case h0 => walk_at "at")) | ((with_reducible refine' od_ixS ?h0); (case h0 => walk_at "at"))
  | ((with_reducible refine' od_catT ?h0); (case h0 => walk_at "len")) | ((with_reducible refine' od_repT ?h0 ?h1); (case h0 => walk_at "sd"); (case h1 => walk_at "sd"))
  | ((with_reducible refine' od_eq ?h0 ?h1); (case h0 => walk_at "shp"); (case h1 => walk_at "shp")) | ((with_reducible refine' od_ne ?h0 ?h1); (case h0 => walk_at "shp"); (case h1 => walk_at "shp"))
  | ((with_reducible refine' od_inT ?h0 ?h1); (case h0 => walk_at "flt"); (case h1 => walk_at "flt")) | ((with_reducible refine' od_niT ?h0 ?h1); (case h0 => walk_at "flt"); (case h1 => walk_at "flt")) | ((with_reducible refine' od_inL ?h0 ?h1); (case h0 => walk_at "shp"); (case h1 => walk_at "shp")) | ((with_reducible refine' od_niL ?h0 ?h1); (case h0 => walk_at "shp"); (case h1 => walk_at "shp")))
local macro_rules | `(tactic| walk_at "mul") => `(tactic| first | assumption | (unfold CMul; omega))
local macro_rules | `(tactic| walk_at "pow") => `(tactic| first | assumption | (unfold CPow; omega) | decide)
local macro_rules | `(tactic| walk_at "at") => `(tactic| first | assumption | exact atI_nat (by assumption) | rfl)
local macro_rules | `(tactic| walk_at "len") => `(tactic| first | assumption | (simp; omega) | (simp only [List.length_map, List.length_append, List.length_take, List.length_drop, List.length_cons, List.length_nil]; omega) | decide)
local macro_rules | `(tactic| walk_at "shp") => `(tactic| first | assumption | exact shp_one _ | rfl)
local macro_rules | `(tactic| walk_at "flt") => `(tactic| first | assumption | rfl)
local macro_rules | `(tactic| walk_at "opn") => `(tactic| first
  | ((with_reducible refine' on_cat ?h0); (case h0 => walk_at "len")) | ((with_reducible refine' on_rep ?h0 ?h1 ?h2); (case h0 => walk_at "sd"); (case h1 => walk_at "sd"); (case h2 => walk_at "sd")))
local macro_rules | `(tactic| walk_at "cd") => `(tactic| first
  | with_reducible exact cd_lenT | with_reducible exact cd_lenL | with_reducible exact cd_lenS | with_reducible exact cd_abs | with_reducible exact cd_min2 | with_reducible exact cd_all | with_reducible exact cd_sum | with_reducible exact cd_intB | with_reducible exact cd_tup
  | ((with_reducible refine' cd_isi ?h0 ?h1); (case h0 => walk_at "isi"); (case h1 => walk_at "isi")))
local macro_rules | `(tactic| walk_at "isi") => `(tactic| first | assumption | exact kit_int _ | exact kit_bool _ | exact kit_tup _ | exact kit_lst _ | rfl)
local macro_rules | `(tactic| walk_at "ev") => `(tactic| first
  | with_reducible exact ev_int | with_reducible exact ev_bl | with_reducible exact ev_non | with_reducible exact ev_str | with_reducible exact ev_ty | with_reducible exact ev_cls
  | ((with_reducible refine' ev_var ?h0); (case h0 => exact rfl))
  | ((with_reducible refine' ev_op ?h0 ?h1 ?h2); (case h0 => walk_at "ev"); (case h1 => walk_at "ev"); (case h2 => walk_at "opd"))
  | ((with_reducible refine' ev_un ?h0 ?h1); (case h0 => walk_at "ev"); (case h1 => exact fun _ _ _ _ hv _ q => ⟨_, hv.int_inv, q _ (.int _)⟩))
  | ((with_reducible refine' ev_cb ?h0 ?h1); (case h0 => walk_at "ea"); (case h1 => walk_at "cd"))
  | ((with_reducible refine' ev_call ?h0 ?h1); (case h0 => walk_at "ea"); (case h1 => walk_at "sp"))
  | ((with_reducible refine' ev_tup ?h0 ?h1); (case h0 => walk_at "ea"); (case h1 => walk_at "len"))
  | ((with_reducible refine' ev_slT ?h0 ?h1 ?h2); (case h0 => walk_at "ev"); (case h1 => walk_at "eo"); (case h2 => walk_at "eo"))
  | ((with_reducible refine' ev_andV ?h0 ?h1); (case h0 => walk_at "ev"); (case h1 => (intro _; walk_at "evt")))
  | ((with_reducible refine' ev_orV ?h0 ?h1); (case h0 => walk_at "ev"); (case h1 => (intro _; walk_at "evt")))
  | ((with_reducible refine' ev_notV ?h0); (case h0 => walk_at "ev"))
  | ((with_reducible refine' ev_chain ?h0 ?h1 ?h2 ?h3 ?h4); (case h0 => walk_at "ev"); (case h1 => walk_at "ev"); (case h2 => walk_at "opd"); (case h3 => (intro _; walk_at "ev")); (case h4 => (intro _; walk_at "opd")))
  | ((with_reducible refine' EvN.val ?h0); (case h0 => walk_at "en")))
local macro_rules | `(tactic| walk_at "evt") => `(tactic| first
  | exact (absurd (by assumption) Bool.false_ne_true : EvD _ _ _ _ (.bool true))
  | exact (absurd (by assumption) (fun z : true = false => Bool.false_ne_true z.symm) : EvD _ _ _ _ (.bool true))
  | walk_at "ev")
local macro_rules | `(tactic| walk_at "en") => `(tactic| first
  | ((with_reducible refine' ev_opN ?h0 ?h1 ?h2); (case h0 => walk_at "ev"); (case h1 => walk_at "ev"); (case h2 => walk_at "opn"))
  | ((with_reducible refine' ev_lstN ?h0 ?h1); (case h0 => walk_at "ea"); (case h1 => walk_at "len"))
  | ((with_reducible refine' ev_slL ?h0 ?h1 ?h2); (case h0 => walk_at "ev"); (case h1 => walk_at "eo"); (case h2 => walk_at "eo"))
  | ((with_reducible refine' ev_cbN ?h0 ?h1); (case h0 => walk_at "ea"); (case h1 => with_reducible exact cn_list))
  | ((with_reducible refine' ev_callN ?h0 ?h1); (case h0 => walk_at "ea"); (case h1 => walk_at "sp")))
local macro_rules | `(tactic| walk_at "ea") => `(tactic| first
  | with_reducible exact ea_nil
  | ((with_reducible refine' ea_cons ?h0 ?h1); (case h0 => walk_at "ev"); (case h1 => walk_at "ea")))
local macro_rules | `(tactic| walk_at "eo") => `(tactic| first
  | with_reducible exact eo_none
  | ((with_reducible refine' eo_some ?h0); (case h0 => walk_at "ev")))
local macro_rules | `(tactic| walk_at "et") => `(tactic| first
  | ((with_reducible refine' et_not ?h0); (case h0 => walk_at "et"))
  | ((with_reducible refine' et_and ?h0 ?h1); (case h0 => walk_at "et"); (case h1 => (intro _; walk_at "ett")))
  | ((with_reducible refine' et_or ?h0 ?h1); (case h0 => walk_at "et"); (case h1 => (intro _; walk_at "ett")))
  | ((with_reducible refine' et_test ?h0); (case h0 => walk_at "ev"))
  | ((with_reducible refine' et_val ?h0); (case h0 => walk_at "ev")))
local macro_rules | `(tactic| walk_at "ett") => `(tactic| first
  | exact (absurd (by assumption) Bool.false_ne_true : EvT _ _ _ _ true)
  | exact (absurd (by assumption) (fun z : true = false => Bool.false_ne_true z.symm) : EvT _ _ _ _ true)
  | walk_at "et")
local macro_rules | `(tactic| walk_at "sp") => `(tactic| first
  | exact fun vs H Q h => ⟨_, by walk_at "sd", h⟩
  | exact fun vs H Q h => ⟨_, _, by walk_at "sd", h⟩
  | exact fun vs H Q h => ⟨_, _, _, by walk_at "sd", h⟩
  | exact fun vs H Q h => ⟨_, _, _, _, by walk_at "sd", h⟩
  | exact fun vs H Q h => ⟨_, _, _, _, _, by walk_at "sd", h⟩)
local macro_rules | `(tactic| walk_at "ret") => `(tactic| (refine' sd_ret ?h0 ?h1; (case h0 => walk_at "ev"); try rfl))
local macro_rules | `(tactic| walk_at "retN") => `(tactic| (refine' sd_retN ?h0 ?h1; (case h0 => walk_at "en"); try rfl))
local macro_rules | `(tactic| walk_at "as") => `(tactic| (refine' sd_asgS ?h0 ?h1; (case h0 => walk_at "ev"); try simp only [List.set_cons_zero, List.set_cons_succ]))
local macro_rules | `(tactic| walk_at "asN") => `(tactic| (refine' sd_asgNS ?h0 ?h1; (case h0 => walk_at "en"); try simp only [List.set_cons_zero, List.set_cons_succ]))
local macro_rules | `(tactic| walk_at "aug") => `(tactic| (refine' sd_augS ?h0 ?h2 ?h1; (case h0 => exact rfl); (case h2 => walk_at "ev"); try simp only [List.set_cons_zero, List.set_cons_succ]))
local macro_rules | `(tactic| walk_at "drop") => `(tactic| (refine' sd_dropS ?h0 ?h1; (case h0 => walk_at "ev")))
local macro_rules | `(tactic| walk_at "par") => `(tactic| (refine' sd_parS ?h0 ?h1; (case h0 => walk_at "ea"); try simp only [List.set_cons_zero, List.set_cons_succ]))
local macro_rules | `(tactic| walk_at "if") => `(tactic| (refine' sd_if ?h0 ?h1 ?h2; (case h0 => walk_at "et")))
local macro_rules | `(tactic| walk_at "ifS") => `(tactic| (refine' sd_ifS ?h0 ?h1 ?h2; (case h0 => walk_at "et")))
local macro_rules | `(tactic| walk_at "go") => `(tactic| ((try dsimp only [cxOf, Cx.nox, Cx.wish, Cx.blk]); try simp only [env0, List.map_cons, List.map_nil, List.length_cons, List.length_nil, List.replicate, List.cons_append, List.nil_append, Nat.reduceAdd, Nat.reduceSub]))
local macro_rules | `(tactic| walk_at "asL") => `(tactic| (refine' sd_asg ?h0 ?h1; (case h0 => walk_at "ev")))
local macro_rules | `(tactic| walk_at "augL") => `(tactic| (refine' sd_aug ?h0 ?h2 ?h1; (case h0 => exact rfl); (case h2 => walk_at "ev")))
local macro_rules | `(tactic| walk_at "asE") => `(tactic| (refine' sd_asgES (Z := _) (ev_callE ?h0 ?h1) ?h2; (case h0 => walk_at "ea"); (case h1 => walk_at "sp"); try simp only [List.set_cons_zero, List.set_cons_succ]))

namespace PW
section
variable {P : Program} {w : World} {K : PySem.W.Frag} {mg : Str → Option Value} {base : Heap} {A : Ad}
/-- 0 one 1 other -/
def sp_third (K : PySem.W.Frag) : Sp := fun vs H Q _ => ∃ (a b : Pg), a ≠ b ∧ Pr K vs H Q [dP a, dP b] (dP (thd a b))
theorem ok_third (T : Txt K mg A) : FnOk P w K mg base CX0 1 A.a_third A.d_third ["one", "other"] (sp_third K) := by
  refine T.f_third.ok sc_third (fun vs H Q E h => ?_) (fun cdv A' outer s H vs Q E hr h => ?_)
  · obtain ⟨a, b, _, h⟩ := h
    exact h.len
  · obtain ⟨a, b, hp, h⟩ := h
    refine ⟨_, (pss_one (ps_ret (pe_op op_sub (pe_op op_sub pe_int (pv 0)) (pv 1)))), body_val h (Nat.le_of_ble_eq_true rfl) fun c => ?_⟩
    refine' sd_ret ?h0 ?h1
    case h0 => walk_at "ev"
    case h1 => rw [thd_val a b hp]

/-- 0 thing 1 least 2 most -/
def sp_is_among (K : PySem.W.Frag) : Sp := fun vs H Q _ => ∃ (d : PyData) (lo hi : Int), plainD d = true ∧ Pr K vs H Q [d, .int lo, .int hi] (.bool (isAmong d lo hi))
theorem ok_is_among (T : Txt K mg A) : FnOk P w K mg base CX0 1 A.a_is_among A.d_is_among ["thing", "least", "most"] (sp_is_among K) := by
  refine T.f_is_among.ok sc_is_among (fun vs H Q E h => ?_) (fun cdv A' outer s H vs Q E hr h => ?_)
  · obtain ⟨d, lo, hi, _, h⟩ := h
    exact h.len
  · obtain ⟨d, lo, hi, hp, h⟩ := h
    refine ⟨_, (pss_one (ps_ret (pe_and (pe_callB (call_isiK' K rfl) (by rfl) T.n_isinstance (by decide +kernel) (pa_cons (pv 0) (pa_cons (pe_bltn (v := .ty "int") (by rfl) T.n_int (by decide +kernel) rfl) pa_nil))) (pe_and (pe_not (pe_callB (call_isiK' K rfl) (by rfl) T.n_isinstance (by decide +kernel) (pa_cons (pv 0) (pa_cons (pe_bltn (v := .ty "bool") (by rfl) T.n_bool (by decide +kernel) rfl) pa_nil)))) (pe_one (pe_chain op_le op_le (pv 1) (pv 0) (pv 2))))))), body_val h (Nat.le_of_ble_eq_true rfl) fun c => ?_⟩
    walk_at "go"
    cases d <;> walk_at "ret"

/-- 0 setting 1 peg 2 discs 3 found 4 disc -/
def sp_to_peg (K : PySem.W.Frag) : Sp := fun vs H Q _ => ∃ (s : List Pg) (p : Pg) (n : Nat), (n ≤ s.length ∧ s.length ≤ 60) ∧ Pr K vs H Q [dS s, dP p, dN n] (dN (toPg s p n))
theorem ok_to_peg (T : Txt K mg A) : FnOk P w K mg base CX0 2 A.a_to_peg A.d_to_peg ["setting", "peg", "discs"] (sp_to_peg K) := by
  refine T.f_to_peg.ok sc_to_peg (fun vs H Q E h => ?_) (fun cdv A' outer s H vs Q E hr h => ?_)
  · obtain ⟨s, p, n, _, h⟩ := h
    exact h.len
  · obtain ⟨s, p, n, ⟨hn, hs⟩, h⟩ := h
    refine ⟨_, (pss_cons (ps_set (i := 3) sc_to_peg.nd rfl (by first | exact Or.inl rfl | exact Or.inr rfl) pe_int)
      (pss_cons (ps_for PassesOwn.never rfl (pi_revR (by rfl) T.n_reversed (prg_1 (by rfl) T.n_range (pv 2))) (pg_name (i := 4) sc_to_peg.nd rfl (by first | exact Or.inl rfl | exact Or.inr rfl)) (pss_one (ps_if (pt_cmpR (op_neK K rfl hr.units) (pe_ix (ix_seqK K rfl) (pv 0) (pv 4) (fun _ _ => rfl)) (pv 1) (nomark _)) (pss_cons (ps_aug (i := 3) sc_to_peg.nd rfl (by first | exact Or.inl rfl | exact Or.inr rfl) (pe_op op_shl pe_int (pv 4)) ip_add)
      (pss_one (ps_set (i := 1) sc_to_peg.nd rfl (by first | exact Or.inl rfl | exact Or.inr rfl) (pe_call (ok_third T) hr (by rfl) T.g_third T.f_third.kp T.b_third .nil pass0 (pa_cons (pe_ix (ix_seqK K rfl) (pv 0) (pv 4) (fun _ _ => rfl)) (pa_cons (pv 1) pa_nil)))))) pss_nil)))
      (pss_one (ps_ret (pv 3))))), body_val h (Nat.le_of_ble_eq_true rfl) fun c => ?_⟩
    walk_at "go"
    walk_at "as"
    refine sd_seq (M := fun δ' => ∃ pk x, δ' = [cv (dS s), cv (dP pk), cv (dN n), cv (dN (toPg s p n)), x])
      (sd_for (iv_rev1 (by walk_at "ev") (by omega)) (fun i δ' => ∃ pk fo x, δ' = [cv (dS s), cv (dP pk), cv (dN n), cv (dN fo), x] ∧ fo + toPg s pk (n - i) = toPg s p n)
        ⟨p, 0, none, rfl, by simp⟩ (fun i d δ' hd hP => tg_name) (fun c' _ _ i d δ' hd hP => ?_) (fun δ' hP => ?_)) (fun δ' hP => ?_)
    · obtain ⟨hi, rfl⟩ := dDown_get hd
      obtain ⟨pk, fo, x, rfl, e⟩ := hP
      obtain ⟨m, hm⟩ : ∃ m, n - i = m + 1 := ⟨n - i - 1, by omega⟩
      have em : (n : Int) - 1 - (i : Int) = (m : Int) := by omega
      have en : n - (i + 1) = m := by omega
      have hml : m < s.length := by omega
      have hat := at_pg hml
      rw [em]
      rw [hm, toPg, take_rev hml, toP, take_len (by omega)] at e
      simp only [List.set_cons_zero, List.set_cons_succ]
      walk_at "if"
      case h1 =>
        intro hc
        have hne : s[m] ≠ pk := by simpa [pg_ne] using hc
        rw [if_neg hne] at e
        walk_at "aug"
        walk_at "asL"
        refine ⟨_, Le.refl _, thd s[m] pk, fo + 2 ^ m, cv (dN m), ?_, ?_⟩
        · rw [shl_nat]
          rfl
        · rw [en, toPg]
          omega
      case h2 =>
        intro hc
        have he : s[m] = pk := by simpa [pg_ne] using hc
        rw [if_pos he] at e
        exact sd_next ⟨_, Le.refl _, pk, fo, _, rfl, by rw [en, toPg]; exact e⟩
    · rw [dDown_len] at hP
      obtain ⟨pk, fo, x, rfl, e⟩ := hP
      refine ⟨pk, x, ?_⟩
      rw [Nat.sub_self] at e
      rw [show fo = toPg s p n from e]
    · obtain ⟨pk, x, rfl⟩ := hP
      walk_at "ret"

/-- 0 thing -/
def sp_is_peg (K : PySem.W.Frag) : Sp := fun vs H Q _ => ∃ (d : PyData), plainD d = true ∧ Pr K vs H Q [d] (.bool (isAmong d 0 2))
theorem ok_is_peg (T : Txt K mg A) : FnOk P w K mg base CX0 2 A.a_is_peg A.d_is_peg ["thing"] (sp_is_peg K) := by
  refine T.f_is_peg.ok sc_is_peg (fun vs H Q E h => ?_) (fun cdv A' outer s H vs Q E hr h => ?_)
  · obtain ⟨d, _, h⟩ := h
    exact h.len
  · obtain ⟨d, hp, h⟩ := h
    refine ⟨_, (pss_one (ps_ret (pe_call (ok_is_among T) hr (by rfl) T.g_is_among T.f_is_among.kp T.b_is_among .nil pass0 (pa_cons (pv 0) (pa_cons pe_int (pa_cons (pe_glob (v := .int 2) (by rfl) T.c_LAST_PEG ⟨_, rfl⟩) pa_nil)))))), body_val h (Nat.le_of_ble_eq_true rfl) fun c => ?_⟩
    walk_at "go"
    walk_at "ret"

/-- 0 thing 1 peg -/
def sp_is_setting (K : PySem.W.Frag) : Sp := fun vs H Q _ => ∃ (d : PyData), okD d = true ∧ Pr K vs H Q [d] (.bool (isSetD d))
theorem ok_is_setting (T : Txt K mg A) : FnOk P w K mg base CX0 3 A.a_is_setting A.d_is_setting ["thing"] (sp_is_setting K) := by
  refine T.f_is_setting.ok sc_is_setting (fun vs H Q E h => ?_) (fun cdv A' outer s H vs Q E hr h => ?_)
  · obtain ⟨d, _, h⟩ := h
    exact h.len
  · obtain ⟨d, hp, h⟩ := h
    refine ⟨_, (pss_one (ps_ret (pe_and (pe_callB (call_isiK' K rfl) (by rfl) T.n_isinstance (by decide +kernel) (pa_cons (pv 0) (pa_cons (pe_bltn (v := .ty "tuple") (by rfl) T.n_tuple (by decide +kernel) rfl) pa_nil))) (pe_and (pe_cmpR op_le (pe_callB (call_lenK K rfl) (by rfl) T.n_len PySem.boot_len (pa_cons (pv 0) pa_nil)) (pe_glob (v := .int 60) (by rfl) T.c_MOST_DISCS ⟨_, rfl⟩) (nomark _)) (pe_one (pe_callB (cr_allK K rfl rfl) (by rfl) T.n_all (by decide +kernel) (pa_cons (pe_lc (own := [("peg", 1)]) (g := gName 1) rfl sc_is_setting.nd (pi_seqK K rfl (pv 0)) (blkOk_by (own := [("peg", 1)]) (N := _) (by kernel_rfl)) (fun _ _ _ _ _ => (pg_name (i := 1) sc_is_setting.nd rfl (by first | exact Or.inl rfl | exact Or.inr rfl))) (fun _ _ _ _ _ => pts_nil) (fun _ _ _ _ _ => (pe_call (ok_is_peg T) hr (by rfl) T.g_is_peg T.f_is_peg.kp T.b_is_peg .nil pass0 (pa_cons (pv 1) pa_nil)))) pa_nil))))))), body_val h (Nat.le_of_ble_eq_true rfl) fun c => ?_⟩
    walk_at "go"
    have hpl := okD_plain hp
    cases d with
    | tuple ds =>
      obtain ⟨h1, h2⟩ := okD_tup hp
      refine' sd_ret (ev_andV (by walk_at "ev") fun _ => ev_andV (by walk_at "ev") fun _ => ev_cb (ea_cons (EvN.val (EvN.eq (ev_lc (Tg := fun d δ => δ.set 1 (cv d)) (js := [1]) (fun _ => true) (fun d => .bool (isAmong d 0 2)) (iv_T (by walk_at "ev")) h1 (fun d _ => tg_name) (by simp) (fun c' d hd => ⟨et_yes, fun _ => ?g1⟩)) ?g2)) ea_nil) cd_all) ?g3
      case g1 =>
        have hpd := h2 d hd
        show EvD K c' _ [cv (.tuple ds), cv d] _
        walk_at "ev"
      case g2 => exact kept_bools
      case g3 => exact isSet_tup
    | none => walk_at "ret"
    | bool b => walk_at "ret"
    | int i => walk_at "ret"
    | str x => walk_at "ret"
    | list xs => walk_at "ret"
    | dict xs => walk_at "ret"

/-- 0 thing -/
def sp_need_setting (K : PySem.W.Frag) : Sp := fun vs H Q _ => ∃ (s : List Pg), s.length ≤ 60 ∧ Pr K vs H Q [dS s] .none
theorem ok_need_setting (T : Txt K mg A) : FnOk P w K mg base CX0 4 A.a_need_setting A.d_need_setting ["thing"] (sp_need_setting K) := by
  refine T.f_need_setting.ok sc_need_setting (fun vs H Q E h => ?_) (fun cdv A' outer s H vs Q E hr h => ?_)
  · obtain ⟨s, _, h⟩ := h
    exact h.len
  · obtain ⟨s, hs, h⟩ := h
    refine ⟨_, (pss_one (ps_if (pt_not (pt_val (pe_call (ok_is_setting T) hr (by rfl) T.g_is_setting T.f_is_setting.kp T.b_is_setting .nil pass0 (pa_cons (pv 0) pa_nil)))) (pss_one ps_never) pss_nil)), body_val h (Nat.le_of_ble_eq_true rfl) fun c => ?_⟩
    walk_at "go"
    have hk := okD_dS hs
    walk_at "if"
    case h1 =>
      intro hc
      rw [isSetD_dS hs] at hc
      cases hc
    case h2 => exact fun _ => sd_next (by first | rfl | trivial)

/-- 0 one 1 other -/
def sp_need_pair (K : PySem.W.Frag) : Sp := fun vs H Q _ => ∃ (s t : List Pg), (s.length ≤ 60 ∧ t.length = s.length) ∧ Pr K vs H Q [dS s, dS t] .none
theorem ok_need_pair (T : Txt K mg A) : FnOk P w K mg base CX0 5 A.a_need_pair A.d_need_pair ["one", "other"] (sp_need_pair K) := by
  refine T.f_need_pair.ok sc_need_pair (fun vs H Q E h => ?_) (fun cdv A' outer s H vs Q E hr h => ?_)
  · obtain ⟨s, t, _, h⟩ := h
    exact h.len
  · obtain ⟨s, t, ⟨hs, ht⟩, h⟩ := h
    refine ⟨_, (pss_cons (ps_expr (pe_call (ok_need_setting T) hr (by rfl) T.g_need_setting T.f_need_setting.kp T.b_need_setting .nil pass0 (pa_cons (pv 0) pa_nil)))
      (pss_cons (ps_expr (pe_call (ok_need_setting T) hr (by rfl) T.g_need_setting T.f_need_setting.kp T.b_need_setting .nil pass0 (pa_cons (pv 1) pa_nil)))
      (pss_one (ps_if (pt_cmpR (op_neK K rfl hr.units) (pe_callB (call_lenK K rfl) (by rfl) T.n_len PySem.boot_len (pa_cons (pv 0) pa_nil)) (pe_callB (call_lenK K rfl) (by rfl) T.n_len PySem.boot_len (pa_cons (pv 1) pa_nil)) (nomark _)) (pss_one ps_never) pss_nil)))), body_val h (Nat.le_of_ble_eq_true rfl) fun c => ?_⟩
    walk_at "go"
    walk_at "drop"
    walk_at "drop"
    walk_at "if"
    case h1 =>
      intro hc
      simp [ht] at hc
    case h2 => exact fun _ => sd_next (by first | rfl | trivial)

/-- 0 peg -/
def sp_need_peg (K : PySem.W.Frag) : Sp := fun vs H Q _ => ∃ (p : Pg), True ∧ Pr K vs H Q [dP p] .none
theorem ok_need_peg (T : Txt K mg A) : FnOk P w K mg base CX0 3 A.a_need_peg A.d_need_peg ["peg"] (sp_need_peg K) := by
  refine T.f_need_peg.ok sc_need_peg (fun vs H Q E h => ?_) (fun cdv A' outer s H vs Q E hr h => ?_)
  · obtain ⟨p, _, h⟩ := h
    exact h.len
  · obtain ⟨p, _, h⟩ := h
    refine ⟨_, (pss_one (ps_if (pt_not (pt_val (pe_call (ok_is_peg T) hr (by rfl) T.g_is_peg T.f_is_peg.kp T.b_is_peg .nil pass0 (pa_cons (pv 0) pa_nil)))) (pss_one ps_never) pss_nil)), body_val h (Nat.le_of_ble_eq_true rfl) fun c => ?_⟩
    walk_at "go"
    have hk : plainD (dP p) = true := rfl
    walk_at "if"
    case h1 =>
      intro hc
      rw [isAmong_dP p] at hc
      cases hc
    case h2 => exact fun _ => sd_next (by first | rfl | trivial)

/-- 0 setting 1 peg -/
def sp_toward (K : PySem.W.Frag) : Sp := fun vs H Q _ => ∃ (s : List Pg) (p : Pg), s.length ≤ 60 ∧ Pr K vs H Q [dS s, dP p] (dN (toP s.reverse p))
theorem ok_toward (T : Txt K mg A) : FnOk P w K mg base CX0 5 A.a_toward A.d_toward ["setting", "peg"] (sp_toward K) := by
  refine T.f_toward.ok sc_toward (fun vs H Q E h => ?_) (fun cdv A' outer s H vs Q E hr h => ?_)
  · obtain ⟨s, p, _, h⟩ := h
    exact h.len
  · obtain ⟨s, p, hs, h⟩ := h
    refine ⟨_, (pss_cons (ps_expr (pe_call (ok_need_setting T) hr (by rfl) T.g_need_setting T.f_need_setting.kp T.b_need_setting .nil pass0 (pa_cons (pv 0) pa_nil)))
      (pss_cons (ps_expr (pe_call (ok_need_peg T) (hr.mono (by decide)) (by rfl) T.g_need_peg T.f_need_peg.kp T.b_need_peg .nil pass0 (pa_cons (pv 1) pa_nil)))
      (pss_one (ps_ret (pe_call (ok_to_peg T) (hr.mono (by decide)) (by rfl) T.g_to_peg T.f_to_peg.kp T.b_to_peg .nil pass0 (pa_cons (pv 0) (pa_cons (pv 1) (pa_cons (pe_callB (call_lenK K rfl) (by rfl) T.n_len PySem.boot_len (pa_cons (pv 0) pa_nil)) pa_nil)))))))), body_val h (Nat.le_of_ble_eq_true rfl) fun c => ?_⟩
    walk_at "go"
    walk_at "drop"
    walk_at "drop"
    have e : (s.map dP).length = s.length := List.length_map ..
    rw [show toP s.reverse p = toPg s p s.length by rw [toPg, List.take_length]]
    rw [← e]
    walk_at "ret"

/-- 0 one 1 other 2 disc -/
def sp_greatest_unlike (K : PySem.W.Frag) : Sp := fun vs H Q _ => ∃ (s t : List Pg), (s.length ≤ 60 ∧ t.length = s.length) ∧ Pr K vs H Q [dS s, dS t] (dNo (gu s.reverse t.reverse))
theorem ok_greatest_unlike (T : Txt K mg A) : FnOk P w K mg base CX0 1 A.a_greatest_unlike A.d_greatest_unlike ["one", "other"] (sp_greatest_unlike K) := by
  refine T.f_greatest_unlike.ok sc_greatest_unlike (fun vs H Q E h => ?_) (fun cdv A' outer s H vs Q E hr h => ?_)
  · obtain ⟨s, t, _, h⟩ := h
    exact h.len
  · obtain ⟨s, t, ⟨hs, ht⟩, h⟩ := h
    refine ⟨_, (pss_cons (ps_for PassesOwn.never rfl (pi_revR (by rfl) T.n_reversed (prg_1 (by rfl) T.n_range (pe_callB (call_lenK K rfl) (by rfl) T.n_len PySem.boot_len (pa_cons (pv 0) pa_nil)))) (pg_name (i := 2) sc_greatest_unlike.nd rfl (by first | exact Or.inl rfl | exact Or.inr rfl)) (pss_one (ps_if (pt_cmpR (op_neK K rfl hr.units) (pe_ix (ix_seqK K rfl) (pv 0) (pv 2) (fun _ _ => rfl)) (pe_ix (ix_seqK K rfl) (pv 1) (pv 2) (fun _ _ => rfl)) (nomark _)) (pss_one (ps_ret (pv 2))) pss_nil)))
      (pss_one (ps_ret pe_non))), body_val h (Nat.le_of_ble_eq_true rfl) fun c => ?_⟩
    walk_at "go"
    have el : (s.map dP).length = s.length := List.length_map ..
    refine sd_seq (M := fun δ' => gu s.reverse t.reverse = none ∧ ∃ x, δ' = [cv (dS s), cv (dS t), x])
      (sd_for (iv_rev1 (m := (s.map dP).length) (by walk_at "ev") (by omega)) (fun i δ' => guG s t (s.length - i) = gu s.reverse t.reverse ∧ ∃ x, δ' = [cv (dS s), cv (dS t), x])
        ⟨by rw [Nat.sub_zero, guG, List.take_length, List.take_of_length_le (by omega)], none, rfl⟩ (fun i d δ' hd hP => tg_name) (fun c' _ _ i d δ' hd hP => ?_) (fun δ' hP => ?_)) (fun δ' hP => ?_)
    · rw [el] at hd
      obtain ⟨hi, rfl⟩ := dDown_get hd
      obtain ⟨e, x, rfl⟩ := hP
      obtain ⟨m, hm⟩ : ∃ m, s.length - i = m + 1 := ⟨s.length - i - 1, by omega⟩
      have em : (s.length : Int) - 1 - (i : Int) = (m : Int) := by omega
      have en : s.length - (i + 1) = m := by omega
      have hml : m < s.length := by omega
      have hmt : m < t.length := by omega
      have hat := at_pg hml
      have hat2 := at_pg hmt
      rw [em]
      rw [hm, guG, take_rev hml, take_rev hmt, gu, take_len (by omega)] at e
      simp only [List.set_cons_zero, List.set_cons_succ]
      walk_at "if"
      case h1 =>
        intro hc
        have hne : s[m] ≠ t[m] := by simpa [pg_ne] using hc
        rw [if_neg hne] at e
        walk_at "ret"
        rw [← e]
        rfl
      case h2 =>
        intro hc
        have he : s[m] = t[m] := by simpa [pg_ne] using hc
        rw [if_pos he] at e
        exact sd_next ⟨_, Le.refl _, by rw [en]; exact e, cv (dN m), rfl⟩
    · rw [dDown_len, el, Nat.sub_self] at hP
      obtain ⟨e, x, rfl⟩ := hP
      exact ⟨e.symm, x, rfl⟩
    · obtain ⟨e, x, rfl⟩ := hP
      walk_at "ret"
      rw [e]
      rfl

/-- 0 one 1 other 2 disc 3 begin 4 end 5 free 6 once 7 twice -/
def sp_choices (K : PySem.W.Frag) : Sp := fun vs H Q _ => ∃ (s t : List Pg), (s.length ≤ 60 ∧ t.length = s.length) ∧ Pr K vs H Q [dS s, dS t] (dCho s.reverse t.reverse)
theorem ok_choices (T : Txt K mg A) : FnOk P w K mg base CX0 6 A.a_choices A.d_choices ["one", "other"] (sp_choices K) := by
  refine T.f_choices.ok sc_choices (fun vs H Q E h => ?_) (fun cdv A' outer s H vs Q E hr h => ?_)
  · obtain ⟨s, t, _, h⟩ := h
    exact h.len
  · obtain ⟨s, t, ⟨hs, ht⟩, h⟩ := h
    refine ⟨_, (pss_cons (ps_expr (pe_call (ok_need_pair T) hr (by rfl) T.g_need_pair T.f_need_pair.kp T.b_need_pair .nil pass0 (pa_cons (pv 0) (pa_cons (pv 1) pa_nil))))
      (pss_cons (ps_set (i := 2) sc_choices.nd rfl (by first | exact Or.inl rfl | exact Or.inr rfl) (pe_call (ok_greatest_unlike T) (hr.mono (by decide)) (by rfl) T.g_greatest_unlike T.f_greatest_unlike.kp T.b_greatest_unlike .nil pass0 (pa_cons (pv 0) (pa_cons (pv 1) pa_nil))))
      (pss_cons (ps_if (pt_cmpR op_isN (pv 2) pe_non (nomark _)) (pss_one (ps_ret pe_non)) pss_nil)
      (pss_cons (ps_par (i := 3) (j := 4) (by rfl) sc_choices.nd rfl rfl (by decide) rfl rfl (pa_cons (pe_ix (ix_seqK K rfl) (pv 0) (pv 2) (fun _ _ => rfl)) (pa_cons (pe_ix (ix_seqK K rfl) (pv 1) (pv 2) (fun _ _ => rfl)) pa_nil)) (by rfl))
      (pss_cons (ps_set (i := 5) sc_choices.nd rfl (by first | exact Or.inl rfl | exact Or.inr rfl) (pe_call (ok_third T) (hr.mono (by decide)) (by rfl) T.g_third T.f_third.kp T.b_third .nil pass0 (pa_cons (pv 3) (pa_cons (pv 4) pa_nil))))
      (pss_cons (ps_set (i := 6) sc_choices.nd rfl (by first | exact Or.inl rfl | exact Or.inr rfl) (pe_op (op_addK K rfl) (pe_op (op_addK K rfl) (pe_call (ok_to_peg T) (hr.mono (by decide)) (by rfl) T.g_to_peg T.f_to_peg.kp T.b_to_peg .nil pass0 (pa_cons (pv 0) (pa_cons (pv 5) (pa_cons (pv 2) pa_nil)))) pe_int) (pe_call (ok_to_peg T) (hr.mono (by decide)) (by rfl) T.g_to_peg T.f_to_peg.kp T.b_to_peg .nil pass0 (pa_cons (pv 1) (pa_cons (pv 5) (pa_cons (pv 2) pa_nil))))))
      (pss_cons (ps_set (i := 7) sc_choices.nd rfl (by first | exact Or.inl rfl | exact Or.inr rfl) (pe_op (op_addK K rfl) (pe_op (op_addK K rfl) (pe_op (op_addK K rfl) (pe_call (ok_to_peg T) (hr.mono (by decide)) (by rfl) T.g_to_peg T.f_to_peg.kp T.b_to_peg .nil pass0 (pa_cons (pv 0) (pa_cons (pv 4) (pa_cons (pv 2) pa_nil)))) (pe_op op_shl pe_int (pv 2))) pe_int) (pe_call (ok_to_peg T) (hr.mono (by decide)) (by rfl) T.g_to_peg T.f_to_peg.kp T.b_to_peg .nil pass0 (pa_cons (pv 1) (pa_cons (pv 3) (pa_cons (pv 2) pa_nil))))))
      (pss_one (ps_ret (pe_tup (pa_cons (pv 2) (pa_cons (pv 6) (pa_cons (pv 7) pa_nil))))))))))))), body_val h (Nat.le_of_ble_eq_true rfl) fun c => ?_⟩
    walk_at "go"
    walk_at "drop"
    walk_at "as"
    cases hg : gu s.reverse t.reverse with
    | none =>
      rw [dCho, hg]
      walk_at "ifS"
      case h1 => intro _; walk_at "ret"
      case h2 => intro hc; cases hc
    | some m =>
      obtain ⟨h1, h2, hne, e1, e2⟩ := gu_some ht hg
      have a1 := at_pg h1
      have a2 := at_pg h2
      have hth : thd s[m] t[m] ≠ s[m] ∧ thd s[m] t[m] ≠ t[m] := thd_ne _ _ hne
      have l1 : m ≤ s.length := by omega
      have l2 : m ≤ t.length := by omega
      have l3 : t.length ≤ 60 := by omega
      walk_at "ifS"
      case h1 => intro hc; cases hc
      case h2 =>
        intro _
        show SD K c (tSeq tNext _) _ _ _
        refine sd_nextS ?_
        rw [show dNo (some m) = dN m from rfl]
        walk_at "par"
        walk_at "as"
        walk_at "as"
        walk_at "as"
        walk_at "ret"
        rw [dCho, hg, e1, e2]
        simp

/-- 0 one 1 other 2 told -/
def sp_far (K : PySem.W.Frag) : Sp := fun vs H Q _ => ∃ (s t : List Pg), (s.length ≤ 60 ∧ t.length = s.length) ∧ Pr K vs H Q [dS s, dS t] (dN (Peg.Fr s t))
theorem ok_far (T : Txt K mg A) : FnOk P w K mg base CX0 7 A.a_far A.d_far ["one", "other"] (sp_far K) := by
  refine T.f_far.ok sc_far (fun vs H Q E h => ?_) (fun cdv A' outer s H vs Q E hr h => ?_)
  · obtain ⟨s, t, _, h⟩ := h
    exact h.len
  · obtain ⟨s, t, ⟨hs, ht⟩, h⟩ := h
    refine ⟨_, (pss_cons (ps_set (i := 2) sc_far.nd rfl (by first | exact Or.inl rfl | exact Or.inr rfl) (pe_call (ok_choices T) hr (by rfl) T.g_choices T.f_choices.kp T.b_choices .nil pass0 (pa_cons (pv 0) (pa_cons (pv 1) pa_nil))))
      (pss_cons (ps_if (pt_cmpR op_isN (pv 2) pe_non (nomark _)) (pss_one (ps_ret pe_int)) pss_nil)
      (pss_one (ps_ret (pe_callB (call_min2 rfl) (by rfl) T.n_min (by decide +kernel) (pa_cons (pe_ix (ix_seqK K rfl) (pv 2) pe_int (fun _ _ => rfl)) (pa_cons (pe_ix (ix_seqK K rfl) (pv 2) pe_int (fun _ _ => rfl)) pa_nil))))))), body_val h (Nat.le_of_ble_eq_true rfl) fun c => ?_⟩
    walk_at "go"
    walk_at "as"
    cases hg : gu s.reverse t.reverse with
    | none =>
      rw [dCho, hg, (gu_far ht hg).1]
      walk_at "ifS"
      case h1 => intro _; walk_at "ret"
      case h2 => intro hc; cases hc
    | some m =>
      rw [dCho, hg]
      walk_at "ifS"
      case h1 => intro hc; cases hc
      case h2 =>
        intro _
        refine sd_nextS ?_
        refine sd_ret (ev_cb (ea_cons (ev_op (ev_var rfl) ev_int (od_ixT rfl)) (ea_cons (ev_op (ev_var rfl) ev_int (od_ixT rfl)) ea_nil)) cd_min2) ?_
        rw [Peg.Fr, Peg.far, dmin]

/-- 0 one 1 other 2 told -/
def sp_many_ways (K : PySem.W.Frag) : Sp := fun vs H Q _ => ∃ (s t : List Pg), (s.length ≤ 60 ∧ t.length = s.length) ∧ Pr K vs H Q [dS s, dS t] (dN (Mn s t))
theorem ok_many_ways (T : Txt K mg A) : FnOk P w K mg base CX0 7 A.a_many_ways A.d_many_ways ["one", "other"] (sp_many_ways K) := by
  refine T.f_many_ways.ok sc_many_ways (fun vs H Q E h => ?_) (fun cdv A' outer s H vs Q E hr h => ?_)
  · obtain ⟨s, t, _, h⟩ := h
    exact h.len
  · obtain ⟨s, t, ⟨hs, ht⟩, h⟩ := h
    refine ⟨_, (pss_cons (ps_set (i := 2) sc_many_ways.nd rfl (by first | exact Or.inl rfl | exact Or.inr rfl) (pe_call (ok_choices T) hr (by rfl) T.g_choices T.f_choices.kp T.b_choices .nil pass0 (pa_cons (pv 0) (pa_cons (pv 1) pa_nil))))
      (pss_cons (ps_if (PW.pt (pw_or (pt_cmpR op_isN (pv 2) pe_non (nomark _)) (pw_or1 (pt_cmpR (op_neK K rfl hr.units) (pe_ix (ix_seqK K rfl) (pv 2) pe_int (fun _ _ => rfl)) (pe_ix (ix_seqK K rfl) (pv 2) pe_int (fun _ _ => rfl)) (nomark _))))) (pss_one (ps_ret pe_int)) pss_nil)
      (pss_one (ps_ret pe_int)))), body_val h (Nat.le_of_ble_eq_true rfl) fun c => ?_⟩
    walk_at "go"
    walk_at "as"
    cases hg : gu s.reverse t.reverse with
    | none =>
      rw [dCho, hg, (gu_far ht hg).2]
      walk_at "ifS"
      case h1 => intro _; walk_at "ret"
      case h2 => intro hc; cases hc
    | some m =>
      have hne : s ≠ t := fun z => by
        subst z
        rw [gu_self] at hg
        cases hg
      have hM : Mn s t = if once s.reverse t.reverse = twice s.reverse t.reverse then 2 else 1 := by
        rw [Mn_eq, On, Tw]
        by_cases q : once s.reverse t.reverse = twice s.reverse t.reverse
        · rw [if_pos ⟨q, hne⟩, if_pos q]
        · rw [if_neg fun z => q z.1, if_neg q]
      rw [dCho, hg, hM]
      have x1 : EvT K c (tTest (tOp (fun x y H Q => y = .non ∧ Q (.bl (decide (x = .non))) H) (tVar 2) (tC .non))) [cv (dS s), cv (dS t), cv (.tuple [dN m, dN (once s.reverse t.reverse), dN (twice s.reverse t.reverse)])] false := et_test (ev_op (ev_var rfl) ev_non od_isN)
      refine sd_ifS (et_or (a := false) x1 fun _ => et_test (ev_op (ev_op (ev_var rfl) ev_int (od_ixT rfl)) (ev_op (ev_var rfl) ev_int (od_ixT rfl)) od_neI)) ?g1 ?g2
      case g1 =>
        intro hc
        have hq : ¬ once s.reverse t.reverse = twice s.reverse t.reverse := fun z => by
          rw [z] at hc
          simp at hc
        rw [if_neg hq]
        walk_at "ret"
      case g2 =>
        intro hc
        have hq : once s.reverse t.reverse = twice s.reverse t.reverse := by
          have := (Bool.or_eq_false_iff.mp hc).2
          simp at this
          omega
        rw [if_pos hq]
        refine sd_nextS ?_
        walk_at "ret"

/-- 0 _law_script 1 _law_k 2 _law_cell_here -/
def sp_law_cell (K : PySem.W.Frag) : Sp := fun vs H Q _ => ∃ (ns : List Int) (k : Nat), (k ≤ 1000) ∧ Pr K vs H Q [dScr ns, dN k] (dN (cellF ns k))
theorem ok_law_cell (T : Txt K mg A) : FnOk P w K mg base CX0 1 A.a_law_cell A.d_law_cell ["_law_script", "_law_k"] (sp_law_cell K) := by
  refine T.f_law_cell.ok sc_law_cell (fun vs H Q E h => ?_) (fun cdv A' outer s H vs Q E hr h => ?_)
  · obtain ⟨ns, k, _, h⟩ := h
    exact h.len
  · obtain ⟨ns, k, hk, h⟩ := h
    refine ⟨_, (pss_cons (ps_set (i := 2) sc_law_cell.nd rfl (by first | exact Or.inl rfl | exact Or.inr rfl) pe_int)
      (pss_cons (ps_if (pt_cmpR (op_neK K rfl hr.units) (pv 0) (pe_lst pa_nil) (nomark _)) (pss_one (ps_set (i := 2) sc_law_cell.nd rfl (by first | exact Or.inl rfl | exact Or.inr rfl) (pe_ix (ix_seqK K rfl) (pv 0) (pe_op op_mod (pv 1) (pe_callB (call_lenK K rfl) (by rfl) T.n_len PySem.boot_len (pa_cons (pv 0) pa_nil))) (fun _ _ => rfl)))) pss_nil)
      (pss_one (ps_ret (pe_op op_fdivW (pe_op op_mod (pe_op (op_addK K rfl) (pe_op (op_mulK K rfl) (pe_op op_mod (pe_op (op_addK K rfl) (pe_op (op_mulK K rfl) (pe_op op_mod (pv 2) pe_int) pe_int) (pe_op (op_mulK K rfl) (pe_op (op_mulK K rfl) (pe_op (op_addK K rfl) (pv 1) pe_int) (pe_op (op_addK K rfl) (pv 1) pe_int)) pe_int)) pe_int) pe_int) (pe_op (op_mulK K rfl) pe_int (pv 1))) pe_int) pe_int))))), body_val h (Nat.le_of_ble_eq_true rfl) fun c => ?_⟩
    walk_at "go"
    walk_at "as"
    refine sd_seq (M := fun δ' => δ' = [cv (dScr ns), cv (dN k), cv (.int (cellH ns k))]) ?_ (fun δ' hP => ?_)
    · walk_at "if"
      case h1 =>
        intro hc
        have hne : ns ≠ [] := by simpa using hc
        have hat := cellH_at (k := k) hne
        have hpos : 0 < (ns.length : Int) := by
          have := List.length_pos_iff.mpr hne
          omega
        walk_at "asL"
        rfl
      case h2 =>
        intro hc
        have he : ns = [] := by simpa using hc
        exact sd_next (by rw [he]; rfl)
    · subst hP
      walk_at "ret"
      rw [dN, cellF_eq]

/-- 0 _law_script 1 _law_k 2 _law_found 3 _law_cell_here -/
def sp_law_great (K : PySem.W.Frag) : Sp := fun vs H Q _ => ∃ (ns : List Int) (k : Nat), (k ≤ 1000) ∧ Pr K vs H Q [dScr ns, dN k] (dN (greatF ns k))
theorem ok_law_great (T : Txt K mg A) : FnOk P w K mg base CX0 1 A.a_law_great A.d_law_great ["_law_script", "_law_k"] (sp_law_great K) := by
  refine T.f_law_great.ok sc_law_great (fun vs H Q E h => ?_) (fun cdv A' outer s H vs Q E hr h => ?_)
  · obtain ⟨ns, k, _, h⟩ := h
    exact h.len
  · obtain ⟨ns, k, hk, h⟩ := h
    refine ⟨_, (pss_cons (ps_set (i := 2) sc_law_great.nd rfl (by first | exact Or.inl rfl | exact Or.inr rfl) (pe_op (op_addK K rfl) pe_int (pe_op (op_mulK K rfl) pe_int (pv 1))))
      (pss_cons (ps_for PassesOwn.never rfl (pi_seqK K rfl (pv 0)) (pg_name (i := 3) sc_law_great.nd rfl (by first | exact Or.inl rfl | exact Or.inr rfl)) (pss_one (ps_set (i := 2) sc_law_great.nd rfl (by first | exact Or.inl rfl | exact Or.inr rfl) (pe_op op_mod (pe_op (op_addK K rfl) (pe_op (op_addK K rfl) (pe_op (op_mulK K rfl) (pv 2) pe_int) (pe_op op_mod (pv 3) (pe_op op_pow pe_int pe_int))) (pe_op (op_mulK K rfl) pe_int (pv 1))) (pe_op op_pow pe_int pe_int)))))
      (pss_one (ps_ret (pv 2))))), body_val h (Nat.le_of_ble_eq_true rfl) fun c => ?_⟩
    walk_at "go"
    walk_at "as"
    refine sd_seq (M := fun δ' => ∃ x, δ' = [cv (dScr ns), cv (dN k), cv (.int (greatG k ns)), x])
      (sd_for (iv_S (ns := ns) (by walk_at "ev")) (fun i δ' => ∃ x, δ' = [cv (dScr ns), cv (dN k), cv (.int (greatG k (ns.take i))), x])
        ⟨none, rfl⟩ (fun i d δ' hd hP => tg_name) (fun c' _ _ i d δ' hd hP => ?_) (fun δ' hP => ?_)) (fun δ' hP => ?_)
    · obtain ⟨x, rfl⟩ := hP
      rw [List.getElem?_map] at hd
      cases hn : ns[i]? with
      | none => rw [hn] at hd; cases hd
      | some n =>
        rw [hn] at hd
        cases hd
        simp only [List.set_cons_zero, List.set_cons_succ]
        have p40 : (0 : Int) < 10 ^ (40 : Int).toNat := by decide
        walk_at "asL"
        exact ⟨_, Le.refl _, cv (.int n), by rw [greatG_more hn]; rfl⟩
    · obtain ⟨x, rfl⟩ := hP
      rw [List.length_map, List.take_length]
      exact ⟨x, rfl⟩
    · obtain ⟨x, rfl⟩ := hP
      walk_at "ret"
      rw [dN, greatF_eq]

/-- 0 _law_setting_here 1 _law_tops 2 _law_found 3 _law_own 4 _law_peg 5 _law_disc -/
def sp_law_may (K : PySem.W.Frag) : Sp := fun vs H Q _ => ∃ (s : List Pg), (s.length ≤ 60) ∧ PrN K vs H Q [dS s] ((may s).map dM)
theorem ok_law_may (T : Txt K mg A) : FnOk P w K mg base CX0 1 A.a_law_may A.d_law_may ["_law_setting_here"] (sp_law_may K) := by
  refine T.f_law_may.ok sc_law_may (fun vs H Q E h => ?_) (fun cdv A' outer s H vs Q E hr h => ?_)
  · obtain ⟨s, _, h⟩ := h
    exact h.len
  · obtain ⟨s, hs, h⟩ := h
    refine ⟨_, (pss_cons (ps_setLc (i := 1) (own := [("_law_own", 3)]) (g := gName 3) rfl sc_law_may.nd rfl rfl (sw_true rfl rfl rfl (by decide +kernel)) (pi_range1 (by rfl) T.n_range (pa_cons pe_int pa_nil)) (blkOk_by (own := [("_law_own", 3)]) (N := _) (by kernel_rfl)) (fun _ _ _ _ _ => (pg_name (i := 3) sc_law_may.nd rfl (by first | exact Or.inl rfl | exact Or.inr rfl))) (fun _ _ _ _ _ => pts_nil) (fun _ _ _ _ _ => (pe_slice (sl_anyK K rfl) (pe_lc (own := [("_law_disc", 5), ("_law_peg", 4)]) (g := gTup K 2 (gCons (gName 5) (gCons (gName 4) gNil))) rfl sc_law_may.nd (pi_enumK K rfl (by rfl) T.n_enumerate (pa_cons (pv 0) pa_nil)) (blkOk_by (own := [("_law_disc", 5), ("_law_peg", 4)]) (N := _) (by kernel_rfl)) (fun _ _ _ _ _ => (pg_tup rfl (pgs_cons (pg_name (i := 5) sc_law_may.nd rfl (by first | exact Or.inl rfl | exact Or.inr rfl)) (pgs_cons (pg_name (i := 4) sc_law_may.nd rfl (by first | exact Or.inl rfl | exact Or.inr rfl)) pgs_nil)))) (fun _ _ _ _ _ => (pts_one (pt_cmpR (op_eqK K rfl hr.units) (pv 4) (pv 3) (nomark _)))) (fun _ _ _ _ _ => (pv 5))) po_none (po_some pe_int))))
      (pss_cons (ps_set (i := 2) sc_law_may.nd rfl (by first | exact Or.inl rfl | exact Or.inr rfl) (pe_lst pa_nil))
      (pss_cons (ps_for PassesOwn.never rfl (pi_range1 (by rfl) T.n_range (pa_cons pe_int pa_nil)) (pg_name (i := 3) sc_law_may.nd rfl (by first | exact Or.inl rfl | exact Or.inr rfl)) (pss_one (ps_for PassesOwn.never rfl (pi_range1 (by rfl) T.n_range (pa_cons pe_int pa_nil)) (pg_name (i := 4) sc_law_may.nd rfl (by first | exact Or.inl rfl | exact Or.inr rfl)) (pss_one (ps_if (PW.pt (pw_and (pt_cmpR (op_neK K rfl hr.units) (pv 4) (pv 3) (nomark _)) (pw_and (pt_cmpR (op_neK K rfl hr.units) (pe_ix (ix_seqK K rfl) (pv 1) (pv 3) (fun _ _ => rfl)) (pe_lst pa_nil) (nomark _)) (pw_and1 (PW.pt (pw_or (pt_cmpR (op_eqK K rfl hr.units) (pe_ix (ix_seqK K rfl) (pv 1) (pv 4) (fun _ _ => rfl)) (pe_lst pa_nil) (nomark _)) (pw_or1 (pt_cmpR op_lt (pe_ix (ix_seqK K rfl) (pe_ix (ix_seqK K rfl) (pv 1) (pv 3) (fun _ _ => rfl)) pe_int (fun _ _ => rfl)) (pe_ix (ix_seqK K rfl) (pe_ix (ix_seqK K rfl) (pv 1) (pv 4) (fun _ _ => rfl)) pe_int (fun _ _ => rfl)) (nomark _))))))))) (pss_one (ps_expr (pe_bm PySem.F.plainAttrs_list PySem.F.slot_list_append PySem.F.type_list_append mt_append (pv 2) (pa_cons (pe_tup (pa_cons (pe_ix (ix_seqK K rfl) (pe_ix (ix_seqK K rfl) (pv 1) (pv 3) (fun _ _ => rfl)) pe_int (fun _ _ => rfl)) (pa_cons (pv 4) pa_nil))) pa_nil)))) pss_nil)))))
      (pss_one (ps_ret (pe_callB (cr_sortedPK K rfl) (by rfl) T.n_sorted (by decide +kernel) (pa_cons (pv 2) pa_nil))))))), body_new h (Nat.le_of_ble_eq_true rfl) fun c => ?_⟩
    walk_at "go"
    refine sd_asgNS (EvN.eq (ev_lc (Tg := fun d δ => δ.set 3 (cv d)) (js := [3]) (fun _ => true) (fun d => .list (tp s (pgD d))) (iv_rng1 (n := 3) (by walk_at "ea") (by decide) (by decide)) (by simp [dRange_len]) (fun d _ => tg_name) (by simp) (fun c' d hd => ⟨et_yes, fun _ => ?_⟩)) (show _ = [PyData.list (tp s 0), .list (tp s 1), .list (tp s 2)] by rw [kept_all]; rfl)) ?_
    · obtain ⟨k, hk⟩ := List.getElem?_of_mem hd
      obtain ⟨hk3, rfl⟩ := dRange_get hk
      have hk3' : k < 3 := hk3
      rw [Int.zero_add]
      show EvD K c' _ [cv (dS s), none, none, cv (dN k), none, none] (PyData.list (tp s (pgN k)))
      rw [← kept_top, ← cut_to']
      refine EvN.val (ev_slL (EvN.val ?_) eo_none (eo_some ev_int))
      refine ev_lc (Tg := fun d δ => (δ.set 5 (cv (fst2 d))).set 4 (cv (snd2 d))) (js := [5, 4]) (fun d => eqI (snd2 d) (dP (pgN k))) fst2 (iv_enumT (by walk_at "ea")) (by rw [dEnum_len, List.length_map]; omega) (fun d hd => ?_) (by simp) (fun c'' d hd => ?_)
      · obtain ⟨i, hi⟩ := List.getElem?_of_mem hd
        obtain ⟨x, hx, rfl⟩ := dEnum_get hi
        exact tg_tup (tgs_cons tg_name (tgs_cons tg_name tgs_nil))
      · obtain ⟨i, hi⟩ := List.getElem?_of_mem hd
        obtain ⟨x, hx, rfl⟩ := dEnum_get hi
        obtain ⟨p, hp, rfl⟩ := List.mem_map.mp (List.mem_of_getElem? hx)
        rw [pgN_val hk3']
        show EvT K c'' _ [cv (dS s), none, none, cv (dN k), cv (dP p), cv (.int (i : Int))] (eqI (dP p) (dN k)) ∧ (_ → EvD K c'' _ [cv (dS s), none, none, cv (dN k), cv (dP p), cv (.int (i : Int))] (.int (i : Int)))
        refine ⟨?_, fun _ => by walk_at "ev"⟩
        refine' EvT.eq ?q0 ?q1
        case q0 => walk_at "et"
        case q1 => rfl
    refine sd_freeze (i := 1) rfl ?_
    simp only [List.set_cons_zero, List.set_cons_succ]
    walk_at "asN"
    refine sd_seq (M := fun δ' => ∃ x3 x4, δ' = [cv (dS s), cv (dTops s), some (Cel.own ((fl s 9).map dM)), x3, x4, none])
      (sd_for (iv_rng1 (n := 3) (by walk_at "ea") (by decide) (by decide)) (fun i δ' => ∃ x3 x4, δ' = [cv (dS s), cv (dTops s), some (Cel.own ((fl s (3 * i)).map dM)), x3, x4, none])
        ⟨none, none, rfl⟩ (fun i d δ' hd hP => tg_name) (fun c' _ _ i d δ' hd hP => ?_) (fun δ' hP => ?_)) (fun δ' hP => ?_)
    · obtain ⟨hi, rfl⟩ := dRange_get hd
      obtain ⟨x3, x4, rfl⟩ := hP
      have hi3 : i < 3 := hi
      rw [Int.zero_add]
      simp only [List.set_cons_zero, List.set_cons_succ]
      refine sd_for (iv_rng1 (n := 3) (by walk_at "ea") (by decide) (by decide)) (fun j δ' => ∃ x4, δ' = [cv (dS s), cv (dTops s), some (Cel.own ((fl s (3 * i + j)).map dM)), cv (dN i), x4, none])
        ⟨x4, rfl⟩ (fun i d δ' hd hP => tg_name) (fun c'' _ _ j d δ' hd hP => ?_) (fun δ' hP => ?_)
      · obtain ⟨hj, rfl⟩ := dRange_get hd
        obtain ⟨x4, rfl⟩ := hP
        have hj3 : j < 3 := hj
        rw [Int.zero_add]
        simp only [List.set_cons_zero, List.set_cons_succ]
        have a1 := at_tops (s := s) hi3
        have a2 := at_tops (s := s) hj3
        have q1 : pgN ((3 * i + j) / 3) = pgN i := by rw [show (3 * i + j) / 3 = i by omega]
        have q2 : pgN (3 * i + j) = pgN j := Fin.ext (by show (3 * i + j) % 3 = j % 3; omega)
        have sc := fl_succ s (3 * i + j)
        rw [q1, q2] at sc
        have hlen : ((fl s (3 * i + j)).map dM).length < 100000 := by
          rw [List.length_map]
          have := fl_len s (3 * i + j)
          omega
        have hpq : (pgN j = pgN i) ↔ ((j : Int) = (i : Int)) := by
          constructor
          · intro e
            have : j % 3 = i % 3 := congrArg Fin.val e
            omega
          · intro e
            rw [show j = i by omega]
        have h34 : 3 * i + (j + 1) = 3 * i + j + 1 := rfl
        unfold dTops
        rcases tp_cases s (pgN i) with ⟨ea, ta⟩ | ⟨a, ea, ta⟩
        · rw [ea] at a1
          walk_at "if"
          case h1 => intro hc; simp at hc
          case h2 =>
            intro hc
            refine sd_next ⟨_, Le.refl _, cv (dN j), ?_⟩
            rw [h34, sc, cand, ta]
            simp [dTops]
        · rw [ea] at a1
          have hfst : atI [dN a] (0 : Int) = some (dN a) := rfl
          rcases tp_cases s (pgN j) with ⟨eb, tb⟩ | ⟨b, eb, tb⟩
          · rw [eb] at a2
            walk_at "if"
            case h1 =>
              intro hc
              have hne : ¬ pgN j = pgN i := by
                rw [hpq]
                simpa using hc
              refine sd_app rfl (by walk_at "ev") hlen ⟨_, Le.refl _, cv (dN j), ?_⟩
              rw [h34, sc, cand, ta, tb]
              simp [hne, dTops, pgN_val hj3]
            case h2 =>
              intro hc
              have he : pgN j = pgN i := by
                rw [hpq]
                simpa using hc
              refine sd_next ⟨_, Le.refl _, cv (dN j), ?_⟩
              rw [h34, sc, cand, ta, tb]
              simp [he, dTops]
          · rw [eb] at a2
            have hfs2 : atI [dN b] (0 : Int) = some (dN b) := rfl
            walk_at "if"
            case h1 =>
              intro hc
              have hc' : ¬ pgN j = pgN i ∧ a < b := by
                rw [hpq]
                simpa using hc
              refine sd_app rfl (by walk_at "ev") hlen ⟨_, Le.refl _, cv (dN j), ?_⟩
              rw [h34, sc, cand, ta, tb]
              simp [hc'.1, hc'.2, dTops, pgN_val hj3]
            case h2 =>
              intro hc
              have hc' : pgN j = pgN i ∨ ¬ a < b := by
                rw [hpq]
                by_cases e : (j : Int) = i
                · exact .inl e
                · refine .inr fun l => ?_
                  simp [e, l] at hc
              refine sd_next ⟨_, Le.refl _, cv (dN j), ?_⟩
              rw [h34, sc, cand, ta, tb]
              rcases hc' with e | l
              · simp [e, dTops]
              · by_cases e : pgN j = pgN i
                · simp [e, dTops]
                · simp [e, l, dTops]
      · rw [dRange_len] at hP
        obtain ⟨x4, rfl⟩ := hP
        exact ⟨_, Le.refl _, _, x4, rfl⟩
    · rw [dRange_len] at hP
      exact hP
    · obtain ⟨x3, x4, rfl⟩ := hP
      refine sd_freeze (i := 2) rfl ?_
      simp only [List.set_cons_zero, List.set_cons_succ]
      rw [dMs_pr]
      refine sd_retN (ev_cbN (by walk_at "ea") (cn_sortedP fun l hl hs => may_uniq hl hs)) ?_
      rw [dMs_pr]

/-- 0 _law_setting_here 1 _law_move -/
def sp_law_behind (K : PySem.W.Frag) : Sp := fun vs H Q _ => ∃ (s : List Pg) (m : Nat × Pg), (m.1 < s.length ∧ s.length ≤ 60) ∧ Pr K vs H Q [dS s, dM m] (dS (s.set m.1 m.2))
theorem ok_law_behind (T : Txt K mg A) : FnOk P w K mg base CX0 1 A.a_law_behind A.d_law_behind ["_law_setting_here", "_law_move"] (sp_law_behind K) := by
  refine T.f_law_behind.ok sc_law_behind (fun vs H Q E h => ?_) (fun cdv A' outer s H vs Q E hr h => ?_)
  · obtain ⟨s, m, _, h⟩ := h
    exact h.len
  · obtain ⟨s, m, ⟨hm, hs⟩, h⟩ := h
    refine ⟨_, (pss_one (ps_ret (pe_op (op_addK K rfl) (pe_op (op_addK K rfl) (pe_slice (sl_anyK K rfl) (pv 0) po_none (po_some (pe_ix (ix_seqK K rfl) (pv 1) pe_int (fun _ _ => rfl)))) (pe_tup (pa_cons (pe_ix (ix_seqK K rfl) (pv 1) pe_int (fun _ _ => rfl)) pa_nil))) (pe_slice (sl_anyK K rfl) (pv 0) (po_some (pe_op (op_addK K rfl) (pe_ix (ix_seqK K rfl) (pv 1) pe_int (fun _ _ => rfl)) pe_int)) po_none)))), body_val h (Nat.le_of_ble_eq_true rfl) fun c => ?_⟩
    walk_at "go"
    have a0 : atI [dN m.1, dP m.2] (0 : Int) = some (dN m.1) := rfl
    have a1 : atI [dN m.1, dP m.2] (1 : Int) = some (dP m.2) := rfl
    have e1 : (m.1 : Int) + 1 = ((m.1 + 1 : Nat) : Int) := by omega
    refine' sd_ret (ev_op (ev_op (ev_slT (by walk_at "ev") eo_none (eo_some (by walk_at "ev"))) (by walk_at "ev") (od_catT ?g1)) (ev_slT (by walk_at "ev") (eo_some (by walk_at "ev")) eo_none) (od_catT ?g2)) ?g3
    case g1 => rw [cut_to', List.length_take, List.length_map]; simp; omega
    case g2 => rw [e1, cut_to', cut_from]; simp; omega
    case g3 => rw [e1, cut_to', cut_from, dS_set hm]

/-- 0 _law_number 1 _law_discs 2 _law_pegs 3 _law_rest 4 _law_disc 5 _law_peg 6 _law_at 7 _law_some -/
def sp_law_setting (K : PySem.W.Frag) : Sp := fun vs H Q _ => ∃ (x n : Nat), (n ≤ 60) ∧ PrE K vs H Q [dN x, dN n] (fun z => ∃ s : List Pg, s.length = n ∧ z = dS s)
theorem ok_law_setting (T : Txt K mg A) : FnOk P w K mg base CX0 1 A.a_law_setting A.d_law_setting ["_law_number", "_law_discs"] (sp_law_setting K) := by
  refine T.f_law_setting.ok sc_law_setting (fun vs H Q E h => ?_) (fun cdv A' outer s H vs Q E hr h => ?_)
  · obtain ⟨x, n, _, h⟩ := h
    exact h.len
  · obtain ⟨x, n, hn, h⟩ := h
    refine ⟨_, (pss_cons (ps_set (i := 2) sc_law_setting.nd rfl (by first | exact Or.inl rfl | exact Or.inr rfl) (pe_lst pa_nil))
      (pss_cons (ps_set (i := 3) sc_law_setting.nd rfl (by first | exact Or.inl rfl | exact Or.inr rfl) (pe_op op_fdivW (pv 0) pe_int))
      (pss_cons (ps_for PassesOwn.never rfl (pi_range1 (by rfl) T.n_range (pa_cons (pv 1) pa_nil)) (pg_name (i := 4) sc_law_setting.nd rfl (by first | exact Or.inl rfl | exact Or.inr rfl)) (pss_cons (ps_expr (pe_bm PySem.F.plainAttrs_list PySem.F.slot_list_append PySem.F.type_list_append mt_append (pv 2) (pa_cons (pe_op op_mod (pv 3) pe_int) pa_nil)))
      (pss_one (ps_set (i := 3) sc_law_setting.nd rfl (by first | exact Or.inl rfl | exact Or.inr rfl) (pe_op op_fdivW (pv 3) pe_int)))))
      (pss_cons (ps_set (i := 5) sc_law_setting.nd rfl (by first | exact Or.inl rfl | exact Or.inr rfl) (pe_op op_mod (pe_op op_fdivW (pv 0) pe_int) pe_int))
      (pss_cons (ps_if (pt_cmpR (op_eqK K rfl hr.units) (pe_op op_mod (pv 0) pe_int) pe_int (nomark _)) (pss_one (ps_set (i := 2) sc_law_setting.nd rfl (by first | exact Or.inl rfl | exact Or.inr rfl) (pe_op (op_mulK K rfl) (pe_lst (pa_cons (pv 5) pa_nil)) (pv 1)))) pss_nil)
      (pss_cons (ps_if (PW.pt (pw_and (pt_cmpR (op_eqK K rfl hr.units) (pe_op op_mod (pv 0) pe_int) pe_int (nomark _)) (pw_and1 (pt_cmpR op_gt (pv 1) pe_int (nomark _))))) (pss_cons (ps_set (i := 6) sc_law_setting.nd rfl (by first | exact Or.inl rfl | exact Or.inr rfl) (pe_op op_mod (pe_op op_fdivW (pv 0) pe_int) (pv 1)))
      (pss_one (ps_set (i := 2) sc_law_setting.nd rfl (by first | exact Or.inl rfl | exact Or.inr rfl) (pe_op (op_addK K rfl) (pe_op (op_addK K rfl) (pe_op (op_mulK K rfl) (pe_lst (pa_cons (pv 5) pa_nil)) (pv 6)) (pe_lst (pa_cons (pe_ix (ix_seqK K rfl) (pv 2) (pv 6) (fun _ _ => rfl)) pa_nil))) (pe_op (op_mulK K rfl) (pe_lst (pa_cons (pv 5) pa_nil)) (pe_op op_sub (pe_op op_sub (pv 1) (pv 6)) pe_int)))))) pss_nil)
      (pss_cons (ps_if (pt_cmpR (op_eqK K rfl hr.units) (pe_op op_mod (pv 0) pe_int) pe_int (nomark _)) (pss_cons (ps_set (i := 7) sc_law_setting.nd rfl (by first | exact Or.inl rfl | exact Or.inr rfl) (pe_op op_mod (pe_op op_fdivW (pv 0) pe_int) (pe_op (op_addK K rfl) (pv 1) pe_int)))
      (pss_one (ps_set (i := 2) sc_law_setting.nd rfl (by first | exact Or.inl rfl | exact Or.inr rfl) (pe_op (op_addK K rfl) (pe_op (op_mulK K rfl) (pe_lst (pa_cons (pv 5) pa_nil)) (pv 7)) (pe_slice (sl_anyK K rfl) (pv 2) (po_some (pv 7)) po_none))))) pss_nil)
      (pss_one (ps_ret (pe_callTy (call_tupK K rfl) (by rfl) T.n_tuple (by decide +kernel) (pa_cons (pv 2) pa_nil))))))))))), body_valE h (Nat.le_of_ble_eq_true rfl) fun c => ?_⟩
    walk_at "go"
    walk_at "asN"
    walk_at "as"
    refine sd_seq (M := fun δ' => ∃ (s : List Pg) (rest x4 : Option Cel), s.length = n ∧ δ' = [cv (dN x), cv (dN n), some (Cel.own (s.map dP)), rest, x4, none, none, none])
      (sd_for (iv_rng1 (n := (n : Int)) (by walk_at "ea") (by omega) (by omega)) (fun i δ' => ∃ (s : List Pg) (r : Nat) (x4 : Option Cel), s.length = i ∧ δ' = [cv (dN x), cv (dN n), some (Cel.own (s.map dP)), cv (dN r), x4, none, none, none])
        ⟨[], x / 18, none, rfl, rfl⟩ (fun i d δ' hd hP => tg_name) (fun c' _ _ i d δ' hd hP => ?_) (fun δ' hP => ?_)) (fun δ' hP => ?_)
    · obtain ⟨hi, rfl⟩ := dRange_get hd
      obtain ⟨s, r, x4, hs, rfl⟩ := hP
      simp only [List.set_cons_zero, List.set_cons_succ]
      have em : (r : Int) % 3 = ((pgN r).val : Nat) := by
        show _ = ((r % 3 : Nat) : Int)
        omega
      refine sd_appS (k0 := 2) rfl (by walk_at "ev") (by rw [List.length_map]; omega) ?_
      simp only [List.set_cons_zero, List.set_cons_succ]
      walk_at "asL"
      refine ⟨_, Le.refl _, s ++ [pgN r], r / 3, cv (.int (0 + (i : Int))), by rw [List.length_append, hs]; rfl, ?_⟩
      rw [em, List.map_append]
      rfl
    · rw [dRange_len] at hP
      obtain ⟨s, r, x4, hs, rfl⟩ := hP
      exact ⟨s, _, x4, by omega, rfl⟩
    obtain ⟨s, rest, x4, hs, rfl⟩ := hP
    refine sd_freeze (i := 2) rfl ?_
    simp only [List.set_cons_zero, List.set_cons_succ]
    walk_at "as"
    have ep : (x : Int) / 6 % 3 = ((pgN (x / 6)).val : Nat) := by
      show _ = ((x / 6 % 3 : Nat) : Int)
      omega
    rw [ep]
    -- all on one peg
    refine sd_seq (M := fun δ' => ∃ (s : List Pg), s.length = n ∧ δ' = [cv (dN x), cv (dN n), cv (.list (s.map dP)), rest, x4, cv (dP (pgN (x / 6))), none, none]) ?_ (fun δ' hP => ?_)
    · walk_at "if"
      case h1 =>
        intro _
        refine' sd_asg (EvN.val (ev_opN (by walk_at "ev") (by walk_at "ev") (on_rep ?g1 ?g2 ?g3))) ?g9
        case g1 => omega
        case g2 => omega
        case g3 => simp; omega
        case g9 => exact ⟨List.replicate n (pgN (x / 6)), List.length_replicate, by rw [List.map_replicate, flat_one, Int.toNat_natCast]; rfl⟩
      case h2 => exact fun _ => sd_next ⟨s, hs, rfl⟩
    clear hs s
    obtain ⟨s, hs, rfl⟩ := hP
    refine sd_seq (M := fun δ' => ∃ (s : List Pg) (x6 : Option Cel), s.length = n ∧ δ' = [cv (dN x), cv (dN n), cv (.list (s.map dP)), rest, x4, cv (dP (pgN (x / 6))), x6, none]) ?_ (fun δ' hP => ?_)
    · walk_at "if"
      case h1 =>
        intro hc
        have hn0 : 0 < n := by
          have := (Bool.and_eq_true_iff.mp hc).2
          have := of_decide_eq_true this
          omega
        have hpos : 0 < (n : Int) := by omega
        walk_at "as"
        have ea : (x : Int) / 18 % (n : Int) = ((x / 18 % n : Nat) : Int) := by
          rw [Int.natCast_emod, Int.natCast_ediv]
          rfl
        have hlt : x / 18 % n < n := Nat.mod_lt _ hn0
        rw [ea]
        generalize x / 18 % n = k at hlt
        have hat := at_pg (s := s) (m := k) (by omega)
        have e1 : (n : Int) - (k : Int) - 1 = ((n - k - 1 : Nat) : Int) := by omega
        refine' sd_asg (EvN.val (ev_opN (EvN.val (ev_opN (EvN.val (ev_opN (by walk_at "ev") (by walk_at "ev") (on_rep ?g1 ?g2 ?g3))) (by walk_at "ev") (on_cat ?g4))) (EvN.val (ev_opN (by walk_at "ev") (by walk_at "ev") (on_rep ?g5 ?g6 ?g7))) (on_cat ?g8))) ?g9
        case g1 => omega
        case g2 => omega
        case g3 => simp; omega
        case g4 => rw [flat_one]; simp; omega
        case g5 => omega
        case g6 => omega
        case g7 => simp; omega
        case g8 => rw [flat_one, flat_one]; simp; omega
        case g9 =>
          refine ⟨List.replicate k (pgN (x / 6)) ++ [s[k]] ++ List.replicate (n - k - 1) (pgN (x / 6)), cv (dN k), by simp; omega, ?_⟩
          rw [e1, flat_one, flat_one, Int.toNat_natCast, Int.toNat_natCast, List.map_append, List.map_append, List.map_replicate, List.map_replicate]
          rfl
      case h2 => exact fun _ => sd_next ⟨s, none, hs, rfl⟩
    clear hs s
    obtain ⟨s, x6, hs, rfl⟩ := hP
    refine sd_seq (M := fun δ' => ∃ (s : List Pg) (x7 : Option Cel), s.length = n ∧ δ' = [cv (dN x), cv (dN n), cv (.list (s.map dP)), rest, x4, cv (dP (pgN (x / 6))), x6, x7]) ?_ (fun δ' hP => ?_)
    · walk_at "if"
      case h1 =>
        intro hc
        have hpos : 0 < (n : Int) + 1 := by omega
        walk_at "as"
        have ea : (x : Int) / 18 % ((n : Int) + 1) = ((x / 18 % (n + 1) : Nat) : Int) := by
          rw [Int.natCast_emod, Int.natCast_ediv]
          rfl
        have hlt : x / 18 % (n + 1) < n + 1 := Nat.mod_lt _ (by omega)
        rw [ea]
        generalize x / 18 % (n + 1) = k at hlt
        refine' sd_asg (EvN.val (ev_opN (EvN.val (ev_opN (by walk_at "ev") (by walk_at "ev") (on_rep ?g1 ?g2 ?g3))) (EvN.val (ev_slL (by walk_at "ev") (eo_some (by walk_at "ev")) eo_none)) (on_cat ?g4))) ?g9
        case g1 => omega
        case g2 => omega
        case g3 => simp; omega
        case g4 => rw [flat_one, cut_from]; simp; omega
        case g9 =>
          refine ⟨List.replicate k (pgN (x / 6)) ++ s.drop k, cv (dN k), by simp; omega, ?_⟩
          rw [flat_one, cut_from, Int.toNat_natCast, List.map_append, List.map_replicate, List.map_drop]
          rfl
      case h2 => exact fun _ => sd_next ⟨s, none, hs, rfl⟩
    clear hs s
    obtain ⟨s, x7, hs, rfl⟩ := hP
    walk_at "ret"
    exact ⟨_, ⟨s, hs, rfl⟩, rfl⟩

/-- 0 _law_setting_here 1 _law_found 2 _law_level 3 _law_away 4 _law_fresh 5 _law_here 6 _law_move 7 _law_there -/
def sp_law_gone_out (K : PySem.W.Frag) : Sp := fun vs H Q _ => ∃ (s : List Pg), s.length ≤ 4 ∧ PrDc K vs H Q [dS s] (fun tb => ∃ F, GoneOk s F ∧ tb = tabF s F)
theorem ok_law_gone_out (T : Txt K mg A) : FnOk P w K mg base CX0 2 A.a_law_gone_out A.d_law_gone_out ["_law_setting_here"] (sp_law_gone_out K) := by
  refine T.f_law_gone_out.ok sc_law_gone_out (fun vs H Q E h => ?_) (fun cdv A' outer s H vs Q E hr h => ?_)
  · obtain ⟨s, _, h⟩ := h
    exact h.len
  · obtain ⟨s, hs, h⟩ := h
    refine ⟨_, (pss_cons (ps_set (i := 1) sc_law_gone_out.nd rfl (by first | exact Or.inl rfl | exact Or.inr rfl) (pe_dispT (unR (room65 hr)) (pv 0) (pe_tup (pa_cons pe_int (pa_cons pe_int pa_nil)))))
      (pss_cons (ps_set (i := 2) sc_law_gone_out.nd rfl (by first | exact Or.inl rfl | exact Or.inr rfl) (pe_lst (pa_cons (pv 0) pa_nil)))
      (pss_cons (ps_set (i := 3) sc_law_gone_out.nd rfl (by first | exact Or.inl rfl | exact Or.inr rfl) pe_int)
      (pss_cons (ps_while PassesOwn.never (pt_cmpR (op_neK K rfl hr.units) (pv 2) (pe_lst pa_nil) (nomark _)) (pss_cons (ps_set (i := 3) sc_law_gone_out.nd rfl (by first | exact Or.inl rfl | exact Or.inr rfl) (pe_op (op_addK K rfl) (pv 3) pe_int))
      (pss_cons (ps_set (i := 4) sc_law_gone_out.nd rfl (by first | exact Or.inl rfl | exact Or.inr rfl) pe_dnewT)
      (pss_cons (ps_for PassesOwn.never rfl (pi_seqK K rfl (pv 2)) (pg_name (i := 5) sc_law_gone_out.nd rfl (by first | exact Or.inl rfl | exact Or.inr rfl)) (pss_one (ps_for PassesOwn.never rfl (pi_seqK K rfl (pe_call (ok_law_may T) hr (by rfl) T.g_law_may T.f_law_may.kp T.b_law_may .nil pass0 (pa_cons (pv 5) pa_nil))) (pg_name (i := 6) sc_law_gone_out.nd rfl (by first | exact Or.inl rfl | exact Or.inr rfl)) (pss_cons (ps_set (i := 7) sc_law_gone_out.nd rfl (by first | exact Or.inl rfl | exact Or.inr rfl) (pe_call (ok_law_behind T) hr (by rfl) T.g_law_behind T.f_law_behind.kp T.b_law_behind .nil pass0 (pa_cons (pv 5) (pa_cons (pv 6) pa_nil))))
      (pss_one (ps_if (pt_cmp (pc_dnotin (un1 (room65 hr)) (pv 7) (pv 1)) (by rfl)) (pss_one (ps_dput (un1 (room65 hr)) (pv 4) (pv 7) (pe_op (op_addK K rfl) (pe_dget2 (un1 (room65 hr)) (pv 4) (pv 7) pe_int ⟨rfl, rfl, rfl, rfl⟩) (pe_ix (ix_seqK K rfl) (pe_dget (un1 (room65 hr)) (pv 1) (pv 5) (fun _ _ => rfl)) pe_int (fun _ _ => rfl))) rfl)) pss_nil))))))
      (pss_cons (ps_lock (ps_for PassesOwn.never rfl (pi_keys (pv 4)) (pg_name (i := 7) sc_law_gone_out.nd rfl (by first | exact Or.inl rfl | exact Or.inr rfl)) (pss_one (ps_dput (un1 (room65 hr)) (pv 1) (pv 7) (pe_tup (pa_cons (pv 3) (pa_cons (pe_dget (un1 (room65 hr)) (pv 4) (pv 7) (fun _ _ => rfl)) pa_nil))) rfl))))
      (pss_one (ps_set (i := 2) sc_law_gone_out.nd rfl (by first | exact Or.inl rfl | exact Or.inr rfl) (pe_callTy (call_list_dT rfl) (by rfl) T.n_list (by decide +kernel) (pa_cons (pv 4) pa_nil)))))))))
      (pss_one (ps_ret (pv 1))))))), body_dc h (Nat.le_of_ble_eq_true rfl) fun c => ?_⟩
    walk_at "go"
    have h81 : ∀ n : Nat, n ≤ 3 ^ s.length → n < 100000 := fun n hn => by
      have : 3 ^ s.length ≤ 3 ^ 4 := Nat.pow_le_pow_right (by decide) hs
      have : 3 ^ 4 = 81 := rfl
      omega
    refine sdd_seq (M := fun δ' Δ' => δ' = [cv (dS s), none, none, none, none, none, none, none] ∧ Δ' = dd (some (none, tabF s [s])) none) (sdd_disp (k := kS s) (d := .tuple [dN 0, dN 1]) (Nat.le_of_ble_eq_true rfl) (fun c' => by rw [key_dS]; exact ev_var rfl) (fun c' => ev_tup (ea_cons ev_int (ea_cons ev_int ea_nil))) ⟨rfl, by rw [tabF_one]; exact dd_0 _⟩) fun δ' Δ' hM => ?_
    obtain ⟨rfl, rfl⟩ := hM
    refine sdd_asgS (is := []) (d := .list [dS s]) no_is (fun c' A _ => EvN.val (by walk_at "en")) rfl ?_
    simp only [List.set_cons_zero, List.set_cons_succ]
    refine sdd_asgS (is := []) (d := dN 0) no_is (fun c' A _ => ev_int) rfl ?_
    simp only [List.set_cons_zero, List.set_cons_succ]
    refine sdd_seq (M := fun δ' Δ' => ∃ F x4, GoneOk s F ∧ Δ' = dd (some (none, tabF s F)) x4)
      (sdd_while (fun m δ' Δ' => ∃ k F L x4 x5 x6 x7, LvOk s k F L ∧ m = 2 ^ s.length + 1 - k ∧ δ' = [cv (dS s), none, cv (.list (L.map dS)), cv (dN k), none, x5, x6, x7] ∧ Δ' = dd (some (none, tabF s F)) x4)
        ⟨0, [s], [s], none, none, none, none, LvOk.zero s, rfl, rfl, rfl⟩ fun m δ' Δ' hP => ?_) fun δ' Δ' hM => ?_
    · obtain ⟨k, F, L, x4, x5, x6, x7, lv, rfl, rfl, rfl⟩ := hP
      refine ⟨!(L.map dS).isEmpty, fun c' => et_test (ev_op (by walk_at "ev") (EvN.val (ev_lstN ea_nil)) (od_neNil (shp_sets L))), fun hb => ?_, fun hb => ?_⟩
      · have hk : k < 2 ^ s.length := by
          cases L with
          | nil => cases hb
          | cons t L =>
            obtain ⟨a, b⟩ := (lv.lm t).mp List.mem_cons_self
            have := Fr_lt s t a.symm
            omega
        refine sdd_asgS (is := []) (d := dN (k + 1)) no_is (fun c' A _ => EvD.eq (ev_op (ev_var rfl) ev_int od_add) (by congr 1)) rfl ?_
        simp only [List.set_cons_zero, List.set_cons_succ]
        refine sdd_seq (M := fun δ' Δ' => δ' = [cv (dS s), none, cv (.list (L.map dS)), cv (dN (k + 1)), none, x5, x6, x7] ∧ Δ' = dd (some (none, tabF s F)) (some (none, tabW []))) (sdd_newD (Nat.le_of_ble_eq_true rfl) ⟨rfl, dd_up4 _ _ _⟩) fun δ' Δ' hM => ?_
        obtain ⟨rfl, rfl⟩ := hM
        refine sdd_seq (M := fun δ' Δ' => ∃ M x5 x6 x7, WOk (edgs s k L) M ∧ δ' = [cv (dS s), none, cv (.list (L.map dS)), cv (dN (k + 1)), none, x5, x6, x7] ∧ Δ' = dd (some (none, tabF s F)) (some (none, tabW M)))
          (sdd_for (ds := L.map dS) (js := [5]) (Tg := fun d δ => δ.set 5 (cv d)) (fun c' => iv_L (by walk_at "ev")) (fun i δ' Δ' => ∃ M x5 x6 x7, WOk (edgs s k (L.take i)) M ∧ δ' = [cv (dS s), none, cv (.list (L.map dS)), cv (dN (k + 1)), none, x5, x6, x7] ∧ Δ' = dd (some (none, tabF s F)) (some (none, tabW M)))
            ⟨[], x5, x6, x7, WOk.nil, rfl, rfl⟩ (fun i d δ' Δ' hd hP => ?_) (fun c1 i d δ' Δ' hd hP => ?_) (fun δ' Δ' hP => ?_)) fun δ' Δ' hM => ?_
        · obtain ⟨M, x5, x6, x7, _, _, rfl⟩ := hP
          exact hg_name rfl
        · obtain ⟨M, x5, x6, x7, wk, rfl, rfl⟩ := hP
          rw [List.getElem?_map] at hd
          obtain ⟨u, hu, rfl⟩ := Option.map_eq_some_iff.mp hd
          have hum := (lv.lm u).mp (List.mem_of_getElem? hu)
          have huF : u ∈ F := (lv.fm u).mpr ⟨hum.1, by omega⟩
          have hu60 : u.length ≤ 60 := by omega
          simp only [List.set_cons_zero, List.set_cons_succ]
          refine sdd_for (ds := (may u).map dM) (js := [6]) (Tg := fun d δ => δ.set 6 (cv d)) (fun c' => iv_L (EvN.val (by walk_at "en"))) (fun j δ' Δ' => ∃ M x6 x7, WOk (edgs s k (L.take i) ++ edgJ s k u j) M ∧ δ' = [cv (dS s), none, cv (.list (L.map dS)), cv (dN (k + 1)), none, cv (dS u), x6, x7] ∧ Δ' = dd (some (none, tabF s F)) (some (none, tabW M)))
            ⟨M, x6, x7, by rw [edgJ_zero, List.append_nil]; exact wk, rfl, rfl⟩ (fun j d δ' Δ' hd hP => ?_) (fun c2 j d δ' Δ' hd hP => ?_) (fun δ' Δ' hP => ?_)
          · obtain ⟨M, x6, x7, _, _, rfl⟩ := hP
            exact hg_name rfl
          · obtain ⟨M, x6, x7, wk, rfl, rfl⟩ := hP
            rw [List.getElem?_map] at hd
            obtain ⟨m, hm, rfl⟩ := Option.map_eq_some_iff.mp hd
            have hmm := List.mem_of_getElem? hm
            have hl := may_len hmm
            have hn : (nbs u)[j]? = some (aft u m) := by rw [nbs, List.getElem?_map, hm]; rfl
            have htl : (aft u m).length = s.length := (aft_len u m).trans hum.1
            have mo := edgJ_more (s := s) (k := k) hn
            simp only [List.set_cons_zero, List.set_cons_succ]
            refine sdd_asgS (is := []) (d := dS (aft u m)) no_is (fun c' A _ => ev_call (ds := [dS u, dM m]) (by walk_at "ea") fun vs H Q h => ⟨u, m, ⟨hl, hu60⟩, h⟩) rfl ?_
            simp only [List.set_cons_zero, List.set_cons_succ]
            generalize aft u m = t at hn htl mo
            have hMl : M.length ≤ 3 ^ s.length := by
              have := some_len (n := s.length) wk.nd fun x hx => ?_
              · rw [List.length_map] at this
                exact this
              · have hx' := wk.mem.mp hx
                rw [List.map_append, List.mem_append] at hx'
                rcases hx' with hx' | hx'
                · obtain ⟨e, he, rfl⟩ := List.mem_map.mp hx'
                  obtain ⟨u', hu', he⟩ := List.mem_flatMap.mp he
                  obtain ⟨t', ht', rfl⟩ := List.mem_map.mp he
                  exact (nbs_len (List.mem_filter.mp ht').1).trans ((lv.lm u').mp (List.mem_of_mem_take hu')).1
                · obtain ⟨e, he, rfl⟩ := List.mem_map.mp hx'
                  obtain ⟨t', ht', rfl⟩ := List.mem_map.mp he
                  exact (nbs_len (List.mem_of_mem_take (List.mem_filter.mp ht').1)).trans hum.1
            have hlk := look_F s t F
            refine sdd_if (is := [1]) (b := !(look (tabF s F) (kS t)).isSome) (fun i hi => by rw [List.mem_singleton.mp hi]; exact fun z => by cases z) (fun c' A hA => et_val (ev_dnotin (hA 1 none _ rfl) (by rw [key_dS]; exact ev_var rfl) (ev_var rfl))) (fun hb => ?_) fun hb => ?_
            · have htF : t ∉ F := fun z => by
                rw [hlk, if_pos z] at hb
                cases hb
              have hk1 : k < Peg.Fr s t := Nat.lt_of_not_le fun q => htF ((lv.fm t).mpr ⟨htl, q⟩)
              rw [if_pos hk1] at mo
              refine sdd_put (is := [1, 4]) (tb := tabW M) (k := kS t) (d := dN ((lkW M t).getD 0 + Mn s u)) (fun i hi => ?_) rfl (by rw [key_dS]; rfl) (by rw [tabW_len]; exact h81 _ hMl) (fun c' A hA => ?_) ⟨_, Le.refl _, addW M (t, Mn s u), _, _, ?_, rfl, ?_⟩
              · simp only [List.mem_cons, List.not_mem_nil, or_false] at hi
                rcases hi with rfl | rfl <;> exact fun z => by cases z
              · have hlu : look (tabF s F) (kS u) = some (dFM s u) := by rw [look_F, if_pos huF]
                have x1 : atI [dN (Peg.Fr s u), dN (Mn s u)] (1 : Int) = some (dN (Mn s u)) := rfl
                refine EvD.eq (ev_op (EvD.eq (ev_dget2 (k := kS t) (hA 4 none _ rfl) (ev_var rfl) (by rw [key_dS]; exact ev_var rfl) ev_int) (getD_W t M)) (ev_op (ev_dget (k := kS u) (hA 1 none _ rfl) (ev_var rfl) (by rw [key_dS]; exact ev_var rfl) hlu) ev_int (od_ixT x1)) od_add) (by congr 1)
              · rw [mo, ← List.append_assoc]
                exact wk.add (t, Mn s u)
              · rw [dd_up4, put_W]
                rfl
            · have htF : t ∈ F := by
                rw [hlk] at hb
                by_cases z : t ∈ F
                · exact z
                · rw [if_neg z] at hb
                  cases hb
              have hk1 : ¬ k < Peg.Fr s t := by
                have := ((lv.fm t).mp htF).2
                omega
              rw [if_neg hk1, List.append_nil] at mo
              exact sdd_next ⟨_, Le.refl _, M, _, _, by rw [mo]; exact wk, rfl, rfl⟩
          · obtain ⟨M, x6, x7, wk, rfl, rfl⟩ := hP
            rw [List.length_map, edgJ_all, ← edgs_more hu] at wk
            exact ⟨_, Le.refl _, M, _, _, _, wk, rfl, rfl⟩
        · obtain ⟨M, x5, x6, x7, wk, rfl, rfl⟩ := hP
          rw [List.length_map, List.take_length] at wk
          exact ⟨M, _, _, _, wk, rfl, rfl⟩
        clear x5 x6 x7
        obtain ⟨M, x5, x6, x7, wk, rfl, rfl⟩ := hM
        have lv2 := lv.next wk
        have hFl : ∀ j, (F ++ (M.map (·.1)).take j).length < 100000 := fun j => by
          refine h81 _ (Nat.le_trans ?_ (some_len lv2.fn fun t ht => ((lv2.fm t).mp ht).1))
          rw [List.length_append, List.length_append, List.length_take]
          omega
        refine sdd_seq (M := fun δ' Δ' => ∃ x7, δ' = [cv (dS s), none, cv (.list (L.map dS)), cv (dN (k + 1)), none, x5, x6, x7] ∧ Δ' = dd (some (none, tabF s (F ++ M.map (·.1)))) (some (none, tabW M)))
          (sdd_forD (i := 4) (n := 7) (tb := tabW M) rfl (by decide) (fun j δ' Δ' => ∃ x7, δ' = [cv (dS s), none, cv (.list (L.map dS)), cv (dN (k + 1)), none, x5, x6, x7] ∧ Δ' = dd (some (none, tabF s (F ++ (M.map (·.1)).take j))) (some (none, tabW M)))
            ⟨x7, rfl, by rw [List.take_zero, List.append_nil]⟩ (fun j δ' Δ' hP => ?_) (fun c1 l j key δ' Δ' hkey hP => ?_) (fun δ' Δ' hP => ?_)) fun δ' Δ' hM => ?_
        · obtain ⟨x7, _, rfl⟩ := hP
          exact ⟨rfl, rfl⟩
        · obtain ⟨x7, rfl, rfl⟩ := hP
          rw [tabW, List.getElem?_map] at hkey
          obtain ⟨x, hx, rfl⟩ := Option.map_eq_some_iff.mp hkey
          have hxm := List.mem_of_getElem? hx
          have hxk := (lv2.lm x.1).mp (List.mem_map_of_mem hxm)
          have hxF : x.1 ∉ F ++ (M.map (·.1)).take j := fun z => by
            rcases List.mem_append.mp z with z | z
            · have := ((lv.fm _).mp z).2
              omega
            · have hj : (M.map (·.1))[j]? = some x.1 := by rw [List.getElem?_map, hx]; rfl
              exact nodup_take wk.nd hj z
          have hval : x.2 = Mn s x.1 := (wk.val hxm).trans (edgs_val lv hxk.1 hxk.2)
          have hlx : look (tabW M) (kS x.1) = some (dN x.2) := by
            rw [look_W, wk.lk, if_pos (wk.mem.mp (List.mem_map_of_mem hxm)), ← wk.val hxm]
            rfl
          simp only [List.set_cons_zero, List.set_cons_succ]
          refine sdd_put (is := [4]) (tb := tabF s (F ++ (M.map (·.1)).take j)) (k := kS x.1) (d := dFM s x.1) (fun i hi => by rw [List.mem_singleton.mp hi]; exact fun z => by cases z) rfl rfl (by rw [tabF_len]; exact hFl j) (fun c' A hA => ?_) ⟨_, dd (some (none, tabF s (F ++ (M.map (·.1)).take (j + 1)))) (some (none, tabW M)), Le.refl _, ?_, _, rfl, rfl⟩
          · rw [dFM, hxk.2, ← hval]
            exact ev_tup (ea_cons (ev_var rfl) (ea_cons (ev_dget (k := kS x.1) (hA 4 l _ rfl) (ev_var rfl) (ev_var rfl) hlx) ea_nil))
          · rw [dd_up4, dd_up4, dd_up1, put_F hxF, List.append_assoc, List.take_add_one, List.getElem?_map, hx]
            rfl
        · obtain ⟨x7, rfl, rfl⟩ := hP
          refine ⟨x7, rfl, ?_⟩
          rw [tabW_len, ← show (M.map (·.1)).length = M.length from List.length_map .., List.take_length]
        clear x7
        obtain ⟨x7, rfl, rfl⟩ := hM
        refine sdd_list (i := 4) (n := 2) rfl rfl ?_
        simp only [List.set_cons_zero, List.set_cons_succ]
        rw [keys_W]
        exact ⟨_, 2 ^ s.length + 1 - (k + 1), Le.refl _, by omega, k + 1, _, _, _, _, _, _, lv2, rfl, rfl, rfl⟩
      · have hL : L = [] := by
          cases L with
          | nil => rfl
          | cons t L => cases hb
        subst hL
        exact ⟨F, x4, ⟨lv.fn, lv.last⟩, rfl⟩
    · obtain ⟨F, x4, hF, rfl⟩ := hM
      exact sdd_retD (i := 1) (tb := tabF s F) rfl ⟨_, ⟨F, hF, rfl⟩, rfl⟩

/-- 0 _law_script 1 _law_k 2 _law_number 3 _law_discs 4 _law_setting_here 5 _law_found 6 _law_other 7 _law_peg -/
def sp_law (K : PySem.W.Frag) : Sp := fun vs H Q _ => ∃ (ns : List Int), (ns.length ≤ 63) ∧ Pr K vs H Q [dScr ns] (.bool true)
theorem ok_law (T : Txt K mg A) : FnOk P w K mg base CX0 8 A.a_law A.d_law ["_law_script"] (sp_law K) := by
  refine T.f_law.ok sc_law (fun vs H Q E h => ?_) (fun cdv A' outer s H vs Q E hr h => ?_)
  · obtain ⟨ns, _, h⟩ := h
    exact h.len
  · obtain ⟨ns, hl, h⟩ := h
    refine ⟨_, (pss_cons (ps_for PassesOwn.never rfl (pi_range1 (by rfl) T.n_range (pa_cons (pe_op (op_addK K rfl) pe_int (pe_callB (call_min2 rfl) (by rfl) T.n_min (by decide +kernel) (pa_cons pe_int (pa_cons (pe_callB (call_lenK K rfl) (by rfl) T.n_len PySem.boot_len (pa_cons (pv 0) pa_nil)) pa_nil)))) pa_nil)) (pg_name (i := 1) sc_law.nd rfl (by first | exact Or.inl rfl | exact Or.inr rfl)) (pss_cons (ps_set (i := 2) sc_law.nd rfl (by first | exact Or.inl rfl | exact Or.inr rfl) (pe_call (ok_law_cell T) (hr.mono (by decide)) (by rfl) T.g_law_cell T.f_law_cell.kp T.b_law_cell .nil pass0 (pa_cons (pv 0) (pa_cons (pv 1) pa_nil))))
      (pss_cons (ps_set (i := 3) sc_law.nd rfl (by first | exact Or.inl rfl | exact Or.inr rfl) (pe_op op_mod (pv 2) pe_int))
      (pss_cons (ps_set (i := 4) sc_law.nd rfl (by first | exact Or.inl rfl | exact Or.inr rfl) (pe_call (ok_law_setting T) (hr.mono (by decide)) (by rfl) T.g_law_setting T.f_law_setting.kp T.b_law_setting .nil pass0 (pa_cons (pe_call (ok_law_great T) (hr.mono (by decide)) (by rfl) T.g_law_great T.f_law_great.kp T.b_law_great .nil pass0 (pa_cons (pv 0) (pa_cons (pv 1) pa_nil))) (pa_cons (pv 3) pa_nil))))
      (pss_cons (ps_set (i := 5) sc_law.nd rfl (by first | exact Or.inl rfl | exact Or.inr rfl) (pe_call (ok_law_gone_out T) (hr.mono (by decide)) (by rfl) T.g_law_gone_out T.f_law_gone_out.kp T.b_law_gone_out .nil pass0 (pa_cons (pv 4) pa_nil)))
      (pss_cons (ps_if (pt_cmpR (op_neK K rfl hr.units) (pe_callB call_len_dT (by rfl) T.n_len PySem.boot_len (pa_cons (pv 5) pa_nil)) (pe_ix (ix_seqK K rfl) (pe_lst (pa_cons pe_int (pa_cons pe_int (pa_cons pe_int (pa_cons pe_int (pa_cons pe_int pa_nil)))))) (pv 3) (fun _ _ => rfl)) (nomark _)) (pss_one (ps_ret pe_bl)) pss_nil)
      (pss_cons (ps_lock (ps_for PassesOwn.never rfl (pi_keys (pv 5)) (pg_name (i := 6) sc_law.nd rfl (by first | exact Or.inl rfl | exact Or.inr rfl)) (pss_one (ps_if (pt_cmpR (op_neK K rfl hr.units) (pe_tup (pa_cons (pe_call (ok_far T) hr (by rfl) T.g_far T.f_far.kp T.b_far .nil pass0 (pa_cons (pv 4) (pa_cons (pv 6) pa_nil))) (pa_cons (pe_call (ok_many_ways T) hr (by rfl) T.g_many_ways T.f_many_ways.kp T.b_many_ways .nil pass0 (pa_cons (pv 4) (pa_cons (pv 6) pa_nil))) pa_nil))) (pe_dget (un1 (room65 hr)) (pv 5) (pv 6) (fun _ _ => rfl)) (nomark _)) (pss_one (ps_ret pe_bl)) pss_nil))))
      (pss_one (ps_for PassesOwn.never rfl (pi_range1 (by rfl) T.n_range (pa_cons pe_int pa_nil)) (pg_name (i := 7) sc_law.nd rfl (by first | exact Or.inl rfl | exact Or.inr rfl)) (pss_one (ps_if (pt_cmpR (op_neK K rfl hr.units) (pe_call (ok_toward T) (hr.mono (by decide)) (by rfl) T.g_toward T.f_toward.kp T.b_toward .nil pass0 (pa_cons (pv 4) (pa_cons (pv 7) pa_nil))) (pe_ix (ix_seqK K rfl) (pe_dget (un1 (room65 hr)) (pv 5) (pe_op (op_mulK K rfl) (pe_tup (pa_cons (pv 7) pa_nil)) (pv 3)) (fun _ _ => rfl)) pe_int (fun _ _ => rfl)) (nomark _)) (pss_one (ps_ret pe_bl)) pss_nil)))))))))))
      (pss_one (ps_ret pe_bl))), body_val h (Nat.le_of_ble_eq_true rfl) fun c => ?_⟩
    walk_at "go"
    refine sd_seq (M := fun δ' => δ' = [cv (dScr ns), none, none, none, none, none, none, none])
      (sd_for (iv_rng1 (by walk_at "ea") (by split <;> omega) (by split <;> omega)) (fun i δ' => δ' = [cv (dScr ns), none, none, none, none, none, none, none])
        rfl (fun i d δ' hd hP => tg_name) (fun c' _ _ i d δ' hd hP => ?_) (fun δ' hP => hP)) (fun δ' hP => ?_)
    · obtain ⟨hi, rfl⟩ := dRange_get hd
      subst hP
      rw [Int.zero_add]
      have hk : i ≤ 1000 := by
        split at hi <;> omega
      simp only [List.set_cons_zero, List.set_cons_succ]
      walk_at "as"
      generalize cellF ns i = x
      have hn4 : x % 5 ≤ 4 := by omega
      refine sd_asgS (d := dN (x % 5)) (EvD.eq (ev_op (by walk_at "ev") ev_int (od_mod (by decide))) (by congr 1)) ?_
      simp only [List.set_cons_zero, List.set_cons_succ]
      generalize x % 5 = n at hn4
      have hn60 : n ≤ 60 := by omega
      refine sd_asgES (ev_callE (Z := fun z => ∃ s : List Pg, s.length = n ∧ z = dS s) (ds := [dN (greatF ns i), dN n]) (by walk_at "ea") (by walk_at "sp")) fun z hz => ?_
      obtain ⟨s, hs, rfl⟩ := hz
      have hs60 : s.length ≤ 60 := by omega
      have hs4 : s.length ≤ 4 := by omega
      simp only [List.set_cons_zero, List.set_cons_succ]
      refine sd_sdd (N' := fun δ' => δ' = [cv (dScr ns), none, none, none, none, none, none, none]) (noOwn_vals (by simp)) ?_
      refine sdd_seq (M := fun δ' Δ' => ∃ F, GoneOk s F ∧ δ' = [cv (dScr ns), cv (dN i), cv (dN x), cv (dN n), cv (dS s), none, none, none] ∧ Δ' = up (fun _ => none) 5 (some (none, tabF s F)))
        (sdd_asgDcE (Z := fun tb => ∃ F, GoneOk s F ∧ tb = tabF s F) (ds := [dS s]) (fun c' => by walk_at "ea") (fun vs H Q h => ⟨s, hs4, h⟩) (Nat.le_of_ble_eq_true rfl) fun tb hz => ?_) fun δ' Δ' hM => ?_
      · obtain ⟨F, hF, rfl⟩ := hz
        exact ⟨F, hF, rfl, rfl⟩
      obtain ⟨F, hF, rfl, rfl⟩ := hM
      have hFl : F.length = 3 ^ n := by
        rw [← hs]
        exact all_len hF.1 hF.2
      have h5 : ∀ i ∈ [5], (up (fun _ => none) 5 (some ((none : Lck), tabF s F)) : DSt) i ≠ none := fun i hi => by
        rw [List.mem_singleton.mp hi]
        exact fun z => by cases z
      refine sdd_ifS (is := [5]) (b := false) h5 (fun c' A hA => EvT.eq (et_test (ev_op (ev_dlen (hA 5 none _ rfl) rfl) (ev_op (EvN.val (ev_lstN (ea_cons ev_int (ea_cons ev_int (ea_cons ev_int (ea_cons ev_int (ea_cons ev_int ea_nil))))))) (ev_var rfl) (od_ixL (lens_at hn4))) od_neI)) ?_) (fun z => by cases z) (fun _ => ?_)
      · rw [tabF_len, hFl, decide_eq_true rfl]
        rfl
      refine sdd_nextS ?_
      refine sdd_seq (M := fun δ' Δ' => ∃ x6, δ' = [cv (dScr ns), cv (dN i), cv (dN x), cv (dN n), cv (dS s), none, x6, none] ∧ Δ' = up (fun _ => none) 5 (some (none, tabF s F)))
        (sdd_forD (i := 5) (n := 6) (tb := tabF s F) rfl (by decide) (fun j δ' Δ' => ∃ x6, δ' = [cv (dScr ns), cv (dN i), cv (dN x), cv (dN n), cv (dS s), none, x6, none] ∧ Δ' = up (fun _ => none) 5 (some (none, tabF s F)))
          ⟨none, rfl, rfl⟩ (fun j δ' Δ' hP => ?_) (fun c1 l j key δ' Δ' hkey hP => ?_) (fun δ' Δ' hP => hP)) fun δ' Δ' hM => ?_
      · obtain ⟨x6, _, rfl⟩ := hP
        exact ⟨rfl, rfl⟩
      · obtain ⟨x6, rfl, rfl⟩ := hP
        rw [tabF, List.getElem?_map] at hkey
        obtain ⟨t, ht, rfl⟩ := Option.map_eq_some_iff.mp hkey
        have htF := List.mem_of_getElem? ht
        have htl : t.length = s.length := (hF.2 t).mp htF
        have hlt : look (tabF s F) (kS t) = some (dFM s t) := by rw [look_F, if_pos htF]
        simp only [List.set_cons_zero, List.set_cons_succ]
        rw [key_dS]
        refine sdd_if (is := [5]) (b := false) (fun i hi => by rw [List.mem_singleton.mp hi]; exact fun z => by cases z) (fun c' A hA => EvT.eq (et_test (ev_op (ev_tup (ds := [dN (Peg.Fr s t), dN (Mn s t)]) (ea_cons (ev_call (ds := [dS s, dS t]) (ea_cons (ev_var rfl) (ea_cons (ev_var rfl) ea_nil)) fun vs H Q h => ⟨s, t, ⟨hs60, htl⟩, h⟩) (ea_cons (ev_call (ds := [dS s, dS t]) (ea_cons (ev_var rfl) (ea_cons (ev_var rfl) ea_nil)) fun vs H Q h => ⟨s, t, ⟨hs60, htl⟩, h⟩) ea_nil))) (ev_dget (k := kS t) (hA 5 l _ rfl) (ev_var rfl) (by rw [key_dS]; exact ev_var rfl) hlt) (od_ne rfl rfl))) ?_) (fun z => by cases z) (fun _ => sdd_next ⟨_, up (fun _ => none) 5 (some (none, tabF s F)), Le.refl _, rfl, _, rfl, rfl⟩)
        rw [eqv_FM]
        rfl
      obtain ⟨x6, rfl, rfl⟩ := hM
      refine sdd_for (ds := dRange 0 3) (js := [7]) (Tg := fun d δ => δ.set 7 (cv d)) (fun c' => iv_rng1 (n := 3) (by walk_at "ea") (by decide) (by decide)) (fun j δ' Δ' => ∃ x7, δ' = [cv (dScr ns), cv (dN i), cv (dN x), cv (dN n), cv (dS s), none, x6, x7] ∧ Δ' = up (fun _ => none) 5 (some (none, tabF s F)))
        ⟨none, rfl, rfl⟩ (fun j d δ' Δ' hd hP => ?_) (fun c1 j d δ' Δ' hd hP => ?_) (fun δ' Δ' hP => ?_)
      · obtain ⟨x7, _, rfl⟩ := hP
        exact hg_name rfl
      · obtain ⟨hj, rfl⟩ := dRange_get hd
        obtain ⟨x7, rfl, rfl⟩ := hP
        have hj3 : j < 3 := hj
        have ej : PyData.int (j : Int) = dP (pgN j) := (pgN_val hj3).symm
        rw [Int.zero_add, ej]
        simp only [List.set_cons_zero, List.set_cons_succ]
        generalize pgN j = p
        have hrl : (List.replicate n p).length = s.length := by rw [List.length_replicate, hs]
        have hlt : look (tabF s F) (kS (List.replicate n p)) = some (dFM s (List.replicate n p)) := by rw [look_F, if_pos ((hF.2 _).mpr hrl)]
        have hfr : Peg.Fr s (List.replicate n p) = toP s.reverse p := by
          rw [← hs]
          have q := rep_Fr s p
          rw [Fr_sym (by rw [List.length_replicate])] at q
          exact q
        have x0 : atI [dN (Peg.Fr s (List.replicate n p)), dN (Mn s (List.replicate n p))] (0 : Int) = some (dN (Peg.Fr s (List.replicate n p))) := rfl
        refine sdd_if (is := [5]) (b := false) h5 (fun c' A hA => EvT.eq (et_test (ev_op (ev_call (z := dN (toP s.reverse p)) (ds := [dS s, dP p]) (ea_cons (ev_var rfl) (ea_cons (ev_var rfl) ea_nil)) fun vs H Q h => ⟨s, p, hs60, h⟩) (ev_op (ev_dget (k := kS (List.replicate n p)) (hA 5 none _ rfl) (ev_var rfl) (EvD.eq (ev_op (ev_tup (ds := [dP p]) (ea_cons (ev_var rfl) ea_nil)) (ev_var rfl) (od_repT (i := (n : Int)) (by omega) (by omega))) ?_) hlt) ev_int (od_ixT x0)) od_neI)) ?_) (fun z => by cases z) (fun _ => sdd_next ⟨_, Le.refl _, _, rfl, rfl⟩)
        · rw [key_dS, Int.toNat_natCast, dS, List.map_replicate]
        · rw [hfr, decide_eq_true rfl]
          rfl
      · obtain ⟨x7, rfl, rfl⟩ := hP
        exact ⟨_, le_scr, rfl⟩
    · subst hP
      exact sd_ret ev_bl rfl

end
/-! ### what the top has written; the end -/
theorem all_mk {l : PySem.W.OpenLaw} {w : World} {K : PySem.W.Frag} {h : Heap} {mg : Str → Option Value} {fa f0 f1 f2 f3 f4 f5 f6 f7 f8 f9 f10 f11 f12 f13 f14 f15 f16 f17 f18 f19  : Addr} (X : K.In h) (G : h.Ns mainGlobals mg) (hfa : mg "law" = some (.ref fa))
    {od0 od1 od2 od3 od4 od5 od6 od7 od8 od9 od10 od11 od12 od13 od14 od15 od16 od17 od18 od19 an0 an1 an2 an3 an4 an5 an6 an7 an8 an9 an10 an11 an12 an13 an14 an15 an16 an17 an18 an19 : Option Addr} {sl0 sl1 sl2 sl3 sl4 sl5 sl6 sl7 sl8 sl9 sl10 sl11 sl12 sl13 sl14 sl15 sl16 sl17 sl18 sl19 : Array (Option Value)} {oc0 oc1 oc2 oc3 oc4 oc5 oc6 oc7 oc8 oc9 oc10 oc11 oc12 oc13 oc14 oc15 oc16 oc17 oc18 oc19 kV0 kV1 kV2 kV3 kV4 kV5 kV6 kV7 kV8 kV9 kV10 kV11 kV12 kV13 kV14 kV15 kV16 kV17 kV18 kV19 dc0 dc1 dc2 dc3 dc4 dc5 dc6 dc7 dc8 dc9 dc10 dc11 dc12 dc13 dc14 dc15 dc16 dc17 dc18 dc19 pm0 pm1 pm2 pm3 pm4 pm5 pm6 pm7 pm8 pm9 pm10 pm11 pm12 pm13 pm14 pm15 pm16 pm17 pm18 pm19 cd0 cd1 cd2 cd3 cd4 cd5 cd6 cd7 cd8 cd9 cd10 cd11 cd12 cd13 cd14 cd15 cd16 cd17 cd18 cd19 ct0 ct1 ct2 ct3 ct4 ct5 ct6 ct7 ct8 ct9 ct10 ct11 ct12 ct13 ct14 ct15 ct16 ct17 ct18 ct19 : Value} {t0 t1 : Tok}
    (a0 : PySem.W.nsIn K mainGlobals "is_among" = some (some (.ref f0))) (l0 : K.lookup f0 = some ⟨oc0, od0, .func (PySem.W.fnOf "is_among" "is_among" (defArgs s_is_among) (defBody s_is_among) (defScope s_is_among) .none kV0 dc0 pm0 an0 cd0 ct0), sl0⟩) (c0 : PySem.W.codeIn K cd0 "is_among" = true) (k0 : PySem.W.keepIn K (.ref f0) = true)
    (a1 : PySem.W.nsIn K mainGlobals "is_peg" = some (some (.ref f1))) (l1 : K.lookup f1 = some ⟨oc1, od1, .func (PySem.W.fnOf "is_peg" "is_peg" (defArgs s_is_peg) (defBody s_is_peg) (defScope s_is_peg) .none kV1 dc1 pm1 an1 cd1 ct1), sl1⟩) (c1 : PySem.W.codeIn K cd1 "is_peg" = true) (k1 : PySem.W.keepIn K (.ref f1) = true)
    (a2 : PySem.W.nsIn K mainGlobals "is_setting" = some (some (.ref f2))) (l2 : K.lookup f2 = some ⟨oc2, od2, .func (PySem.W.fnOf "is_setting" "is_setting" (defArgs s_is_setting) (defBody s_is_setting) (defScope s_is_setting) .none kV2 dc2 pm2 an2 cd2 ct2), sl2⟩) (c2 : PySem.W.codeIn K cd2 "is_setting" = true) (k2 : PySem.W.keepIn K (.ref f2) = true)
    (a3 : PySem.W.nsIn K mainGlobals "need_setting" = some (some (.ref f3))) (l3 : K.lookup f3 = some ⟨oc3, od3, .func (PySem.W.fnOf "need_setting" "need_setting" (defArgs s_need_setting) (defBody s_need_setting) (defScope s_need_setting) .none kV3 dc3 pm3 an3 cd3 ct3), sl3⟩) (c3 : PySem.W.codeIn K cd3 "need_setting" = true) (k3 : PySem.W.keepIn K (.ref f3) = true)
    (a4 : PySem.W.nsIn K mainGlobals "need_pair" = some (some (.ref f4))) (l4 : K.lookup f4 = some ⟨oc4, od4, .func (PySem.W.fnOf "need_pair" "need_pair" (defArgs s_need_pair) (defBody s_need_pair) (defScope s_need_pair) .none kV4 dc4 pm4 an4 cd4 ct4), sl4⟩) (c4 : PySem.W.codeIn K cd4 "need_pair" = true) (k4 : PySem.W.keepIn K (.ref f4) = true)
    (a5 : PySem.W.nsIn K mainGlobals "need_peg" = some (some (.ref f5))) (l5 : K.lookup f5 = some ⟨oc5, od5, .func (PySem.W.fnOf "need_peg" "need_peg" (defArgs s_need_peg) (defBody s_need_peg) (defScope s_need_peg) .none kV5 dc5 pm5 an5 cd5 ct5), sl5⟩) (c5 : PySem.W.codeIn K cd5 "need_peg" = true) (k5 : PySem.W.keepIn K (.ref f5) = true)
    (a6 : PySem.W.nsIn K mainGlobals "third" = some (some (.ref f6))) (l6 : K.lookup f6 = some ⟨oc6, od6, .func (PySem.W.fnOf "third" "third" (defArgs s_third) (defBody s_third) (defScope s_third) .none kV6 dc6 pm6 an6 cd6 ct6), sl6⟩) (c6 : PySem.W.codeIn K cd6 "third" = true) (k6 : PySem.W.keepIn K (.ref f6) = true)
    (a7 : PySem.W.nsIn K mainGlobals "to_peg" = some (some (.ref f7))) (l7 : K.lookup f7 = some ⟨oc7, od7, .func (PySem.W.fnOf "to_peg" "to_peg" (defArgs s_to_peg) (defBody s_to_peg) (defScope s_to_peg) .none kV7 dc7 pm7 an7 cd7 ct7), sl7⟩) (c7 : PySem.W.codeIn K cd7 "to_peg" = true) (k7 : PySem.W.keepIn K (.ref f7) = true)
    (a8 : PySem.W.nsIn K mainGlobals "toward" = some (some (.ref f8))) (l8 : K.lookup f8 = some ⟨oc8, od8, .func (PySem.W.fnOf "toward" "toward" (defArgs s_toward) (defBody s_toward) (defScope s_toward) .none kV8 dc8 pm8 an8 cd8 ct8), sl8⟩) (c8 : PySem.W.codeIn K cd8 "toward" = true) (k8 : PySem.W.keepIn K (.ref f8) = true)
    (a9 : PySem.W.nsIn K mainGlobals "greatest_unlike" = some (some (.ref f9))) (l9 : K.lookup f9 = some ⟨oc9, od9, .func (PySem.W.fnOf "greatest_unlike" "greatest_unlike" (defArgs s_greatest_unlike) (defBody s_greatest_unlike) (defScope s_greatest_unlike) .none kV9 dc9 pm9 an9 cd9 ct9), sl9⟩) (c9 : PySem.W.codeIn K cd9 "greatest_unlike" = true) (k9 : PySem.W.keepIn K (.ref f9) = true)
    (a10 : PySem.W.nsIn K mainGlobals "choices" = some (some (.ref f10))) (l10 : K.lookup f10 = some ⟨oc10, od10, .func (PySem.W.fnOf "choices" "choices" (defArgs s_choices) (defBody s_choices) (defScope s_choices) .none kV10 dc10 pm10 an10 cd10 ct10), sl10⟩) (c10 : PySem.W.codeIn K cd10 "choices" = true) (k10 : PySem.W.keepIn K (.ref f10) = true)
    (a11 : PySem.W.nsIn K mainGlobals "far" = some (some (.ref f11))) (l11 : K.lookup f11 = some ⟨oc11, od11, .func (PySem.W.fnOf "far" "far" (defArgs s_far) (defBody s_far) (defScope s_far) .none kV11 dc11 pm11 an11 cd11 ct11), sl11⟩) (c11 : PySem.W.codeIn K cd11 "far" = true) (k11 : PySem.W.keepIn K (.ref f11) = true)
    (a12 : PySem.W.nsIn K mainGlobals "many_ways" = some (some (.ref f12))) (l12 : K.lookup f12 = some ⟨oc12, od12, .func (PySem.W.fnOf "many_ways" "many_ways" (defArgs s_many_ways) (defBody s_many_ways) (defScope s_many_ways) .none kV12 dc12 pm12 an12 cd12 ct12), sl12⟩) (c12 : PySem.W.codeIn K cd12 "many_ways" = true) (k12 : PySem.W.keepIn K (.ref f12) = true)
    (a13 : PySem.W.nsIn K mainGlobals "_law_cell" = some (some (.ref f13))) (l13 : K.lookup f13 = some ⟨oc13, od13, .func (PySem.W.fnOf "_law_cell" "_law_cell" (defArgs s_law_cell) (defBody s_law_cell) (defScope s_law_cell) .none kV13 dc13 pm13 an13 cd13 ct13), sl13⟩) (c13 : PySem.W.codeIn K cd13 "_law_cell" = true) (k13 : PySem.W.keepIn K (.ref f13) = true)
    (a14 : PySem.W.nsIn K mainGlobals "_law_great" = some (some (.ref f14))) (l14 : K.lookup f14 = some ⟨oc14, od14, .func (PySem.W.fnOf "_law_great" "_law_great" (defArgs s_law_great) (defBody s_law_great) (defScope s_law_great) .none kV14 dc14 pm14 an14 cd14 ct14), sl14⟩) (c14 : PySem.W.codeIn K cd14 "_law_great" = true) (k14 : PySem.W.keepIn K (.ref f14) = true)
    (a15 : PySem.W.nsIn K mainGlobals "_law_setting" = some (some (.ref f15))) (l15 : K.lookup f15 = some ⟨oc15, od15, .func (PySem.W.fnOf "_law_setting" "_law_setting" (defArgs s_law_setting) (defBody s_law_setting) (defScope s_law_setting) .none kV15 dc15 pm15 an15 cd15 ct15), sl15⟩) (c15 : PySem.W.codeIn K cd15 "_law_setting" = true) (k15 : PySem.W.keepIn K (.ref f15) = true)
    (a16 : PySem.W.nsIn K mainGlobals "_law_may" = some (some (.ref f16))) (l16 : K.lookup f16 = some ⟨oc16, od16, .func (PySem.W.fnOf "_law_may" "_law_may" (defArgs s_law_may) (defBody s_law_may) (defScope s_law_may) .none kV16 dc16 pm16 an16 cd16 ct16), sl16⟩) (c16 : PySem.W.codeIn K cd16 "_law_may" = true) (k16 : PySem.W.keepIn K (.ref f16) = true)
    (a17 : PySem.W.nsIn K mainGlobals "_law_behind" = some (some (.ref f17))) (l17 : K.lookup f17 = some ⟨oc17, od17, .func (PySem.W.fnOf "_law_behind" "_law_behind" (defArgs s_law_behind) (defBody s_law_behind) (defScope s_law_behind) .none kV17 dc17 pm17 an17 cd17 ct17), sl17⟩) (c17 : PySem.W.codeIn K cd17 "_law_behind" = true) (k17 : PySem.W.keepIn K (.ref f17) = true)
    (a18 : PySem.W.nsIn K mainGlobals "_law_gone_out" = some (some (.ref f18))) (l18 : K.lookup f18 = some ⟨oc18, od18, .func (PySem.W.fnOf "_law_gone_out" "_law_gone_out" (defArgs s_law_gone_out) (defBody s_law_gone_out) (defScope s_law_gone_out) .none kV18 dc18 pm18 an18 cd18 ct18), sl18⟩) (c18 : PySem.W.codeIn K cd18 "_law_gone_out" = true) (k18 : PySem.W.keepIn K (.ref f18) = true)
    (a19 : PySem.W.nsIn K mainGlobals "law" = some (some (.ref f19))) (l19 : K.lookup f19 = some ⟨oc19, od19, .func (PySem.W.fnOf "law" "law" (defArgs s_law) (defBody s_law) (defScope s_law) .none kV19 dc19 pm19 an19 cd19 ct19), sl19⟩) (c19 : PySem.W.codeIn K cd19 "law" = true) (k19 : PySem.W.keepIn K (.ref f19) = true)
    (v0 : PySem.W.nsIn K mainGlobals "MOST_DISCS" = some (some (.int 60 t0)))
    (v1 : PySem.W.nsIn K mainGlobals "LAST_PEG" = some (some (.int 2 t1)))
    (z0 : PySem.W.nsIn K mainGlobals "isinstance" = some none)
    (z1 : PySem.W.nsIn K mainGlobals "int" = some none)
    (z2 : PySem.W.nsIn K mainGlobals "bool" = some none)
    (z3 : PySem.W.nsIn K mainGlobals "tuple" = some none)
    (z4 : PySem.W.nsIn K mainGlobals "all" = some none)
    (z5 : PySem.W.nsIn K mainGlobals "len" = some none)
    (z6 : PySem.W.nsIn K mainGlobals "reversed" = some none)
    (z7 : PySem.W.nsIn K mainGlobals "range" = some none)
    (z8 : PySem.W.nsIn K mainGlobals "min" = some none)
    (z9 : PySem.W.nsIn K mainGlobals "sorted" = some none)
    (z10 : PySem.W.nsIn K mainGlobals "enumerate" = some none)
    (z11 : PySem.W.nsIn K mainGlobals "list" = some none)
    : ∃ fd : FuncData, (∀ (s : Shared) (v : Value), BindsTo s fd ⟨[v], []⟩ [("_law_script", v)]) ∧ ∀ base : Heap, K.In base → base.Ns mainGlobals mg → FnOk l.prog w K mg base CX0 8 fa fd ["_law_script"] (sp_law K) := by
  have e := hfa.symm.trans (PySem.W.mg_of X G a19)
  cases e
  have F0 := fun_mk (st := s_is_among) l0 c0 k0
  have b0 := F0.binds (ps := ["thing", "least", "most"]) fun _ _ _ _ _ _ us hl => match us, hl with | [_, _, _], _ => rfl
  have F1 := fun_mk (st := s_is_peg) l1 c1 k1
  have b1 := F1.binds (ps := ["thing"]) fun _ _ _ _ _ _ us hl => match us, hl with | [_], _ => rfl
  have F2 := fun_mk (st := s_is_setting) l2 c2 k2
  have b2 := F2.binds (ps := ["thing"]) fun _ _ _ _ _ _ us hl => match us, hl with | [_], _ => rfl
  have F3 := fun_mk (st := s_need_setting) l3 c3 k3
  have b3 := F3.binds (ps := ["thing"]) fun _ _ _ _ _ _ us hl => match us, hl with | [_], _ => rfl
  have F4 := fun_mk (st := s_need_pair) l4 c4 k4
  have b4 := F4.binds (ps := ["one", "other"]) fun _ _ _ _ _ _ us hl => match us, hl with | [_, _], _ => rfl
  have F5 := fun_mk (st := s_need_peg) l5 c5 k5
  have b5 := F5.binds (ps := ["peg"]) fun _ _ _ _ _ _ us hl => match us, hl with | [_], _ => rfl
  have F6 := fun_mk (st := s_third) l6 c6 k6
  have b6 := F6.binds (ps := ["one", "other"]) fun _ _ _ _ _ _ us hl => match us, hl with | [_, _], _ => rfl
  have F7 := fun_mk (st := s_to_peg) l7 c7 k7
  have b7 := F7.binds (ps := ["setting", "peg", "discs"]) fun _ _ _ _ _ _ us hl => match us, hl with | [_, _, _], _ => rfl
  have F8 := fun_mk (st := s_toward) l8 c8 k8
  have b8 := F8.binds (ps := ["setting", "peg"]) fun _ _ _ _ _ _ us hl => match us, hl with | [_, _], _ => rfl
  have F9 := fun_mk (st := s_greatest_unlike) l9 c9 k9
  have b9 := F9.binds (ps := ["one", "other"]) fun _ _ _ _ _ _ us hl => match us, hl with | [_, _], _ => rfl
  have F10 := fun_mk (st := s_choices) l10 c10 k10
  have b10 := F10.binds (ps := ["one", "other"]) fun _ _ _ _ _ _ us hl => match us, hl with | [_, _], _ => rfl
  have F11 := fun_mk (st := s_far) l11 c11 k11
  have b11 := F11.binds (ps := ["one", "other"]) fun _ _ _ _ _ _ us hl => match us, hl with | [_, _], _ => rfl
  have F12 := fun_mk (st := s_many_ways) l12 c12 k12
  have b12 := F12.binds (ps := ["one", "other"]) fun _ _ _ _ _ _ us hl => match us, hl with | [_, _], _ => rfl
  have F13 := fun_mk (st := s_law_cell) l13 c13 k13
  have b13 := F13.binds (ps := ["_law_script", "_law_k"]) fun _ _ _ _ _ _ us hl => match us, hl with | [_, _], _ => rfl
  have F14 := fun_mk (st := s_law_great) l14 c14 k14
  have b14 := F14.binds (ps := ["_law_script", "_law_k"]) fun _ _ _ _ _ _ us hl => match us, hl with | [_, _], _ => rfl
  have F15 := fun_mk (st := s_law_setting) l15 c15 k15
  have b15 := F15.binds (ps := ["_law_number", "_law_discs"]) fun _ _ _ _ _ _ us hl => match us, hl with | [_, _], _ => rfl
  have F16 := fun_mk (st := s_law_may) l16 c16 k16
  have b16 := F16.binds (ps := ["_law_setting_here"]) fun _ _ _ _ _ _ us hl => match us, hl with | [_], _ => rfl
  have F17 := fun_mk (st := s_law_behind) l17 c17 k17
  have b17 := F17.binds (ps := ["_law_setting_here", "_law_move"]) fun _ _ _ _ _ _ us hl => match us, hl with | [_, _], _ => rfl
  have F18 := fun_mk (st := s_law_gone_out) l18 c18 k18
  have b18 := F18.binds (ps := ["_law_setting_here"]) fun _ _ _ _ _ _ us hl => match us, hl with | [_], _ => rfl
  have F19 := fun_mk (st := s_law) l19 c19 k19
  have b19 := F19.binds (ps := ["_law_script"]) fun _ _ _ _ _ _ us hl => match us, hl with | [_], _ => rfl
  have T : Txt K mg { a_is_among := f0, d_is_among := _, a_is_peg := f1, d_is_peg := _, a_is_setting := f2, d_is_setting := _, a_need_setting := f3, d_need_setting := _, a_need_pair := f4, d_need_pair := _, a_need_peg := f5, d_need_peg := _, a_third := f6, d_third := _, a_to_peg := f7, d_to_peg := _, a_toward := f8, d_toward := _, a_greatest_unlike := f9, d_greatest_unlike := _, a_choices := f10, d_choices := _, a_far := f11, d_far := _, a_many_ways := f12, d_many_ways := _, a_law_cell := f13, d_law_cell := _, a_law_great := f14, d_law_great := _, a_law_setting := f15, d_law_setting := _, a_law_may := f16, d_law_may := _, a_law_behind := f17, d_law_behind := _, a_law_gone_out := f18, d_law_gone_out := _, a_law := fa, d_law := _, t_MOST_DISCS := t0, t_LAST_PEG := t1, a_PegError := 0, a_BadSetting := 0, a_Unlike := 0, a_BadPegs := 0 } := { f_is_among := F0, g_is_among := PySem.W.mg_of X G a0, b_is_among := b0, f_is_peg := F1, g_is_peg := PySem.W.mg_of X G a1, b_is_peg := b1, f_is_setting := F2, g_is_setting := PySem.W.mg_of X G a2, b_is_setting := b2, f_need_setting := F3, g_need_setting := PySem.W.mg_of X G a3, b_need_setting := b3, f_need_pair := F4, g_need_pair := PySem.W.mg_of X G a4, b_need_pair := b4, f_need_peg := F5, g_need_peg := PySem.W.mg_of X G a5, b_need_peg := b5, f_third := F6, g_third := PySem.W.mg_of X G a6, b_third := b6, f_to_peg := F7, g_to_peg := PySem.W.mg_of X G a7, b_to_peg := b7, f_toward := F8, g_toward := PySem.W.mg_of X G a8, b_toward := b8, f_greatest_unlike := F9, g_greatest_unlike := PySem.W.mg_of X G a9, b_greatest_unlike := b9, f_choices := F10, g_choices := PySem.W.mg_of X G a10, b_choices := b10, f_far := F11, g_far := PySem.W.mg_of X G a11, b_far := b11, f_many_ways := F12, g_many_ways := PySem.W.mg_of X G a12, b_many_ways := b12, f_law_cell := F13, g_law_cell := PySem.W.mg_of X G a13, b_law_cell := b13, f_law_great := F14, g_law_great := PySem.W.mg_of X G a14, b_law_great := b14, f_law_setting := F15, g_law_setting := PySem.W.mg_of X G a15, b_law_setting := b15, f_law_may := F16, g_law_may := PySem.W.mg_of X G a16, b_law_may := b16, f_law_behind := F17, g_law_behind := PySem.W.mg_of X G a17, b_law_behind := b17, f_law_gone_out := F18, g_law_gone_out := PySem.W.mg_of X G a18, b_law_gone_out := b18, f_law := F19, g_law := PySem.W.mg_of X G a19, b_law := b19, c_MOST_DISCS := PySem.W.mg_of X G v0, c_LAST_PEG := PySem.W.mg_of X G v1, n_isinstance := PySem.W.mg_none_of X G z0, n_int := PySem.W.mg_none_of X G z1, n_bool := PySem.W.mg_none_of X G z2, n_tuple := PySem.W.mg_none_of X G z3, n_all := PySem.W.mg_none_of X G z4, n_len := PySem.W.mg_none_of X G z5, n_reversed := PySem.W.mg_none_of X G z6, n_range := PySem.W.mg_none_of X G z7, n_min := PySem.W.mg_none_of X G z8, n_sorted := PySem.W.mg_none_of X G z9, n_enumerate := PySem.W.mg_none_of X G z10, n_list := PySem.W.mg_none_of X G z11 }
  exact ⟨PySem.W.fnOf "law" "law" (defArgs s_law) (defBody s_law) (defScope s_law) .none kV19 dc19 pm19 an19 cd19 ct19, fun s v => .of_eq rfl, fun base _ _ => ok_law T⟩
end PW
open PySem PySem.W PyProof.Rows
set_option maxHeartbeats 0 in
theorem PySem.Challenge.cw_pegdiscs_k08_by_going_out_holds : PySem.Challenge.rw_pegdiscs_k08_by_going_out.Holds := by
  w_on; o_law; k_head; (case hw => w_witness2)
  k_fill
  refine L2.walk_ofK (l := PySem.Challenge.rw_pegdiscs_k08_by_going_out) (n := 63) (k := 8) (x := "_law_script") (CX := L2.CX0) (sp := PW.sp_law) rfl (by decide) rfl ⟨rfl, by decide, by decide⟩ (fun w h Y => PySem.W.kIn_of Y) ?F
    (fun K H a ns hl _ hS => ⟨ns, hl, H, Pd.Ex.refl H, .cons (.scr hS) .nil, fun w G' H' _ hw => hw.bool_inv⟩) (fun _ _ _ _ h => h)
  case F =>
    intro w mg fa h KX G hmg
    refine' PW.all_mk KX G hmg ?a0 ?l0 ?c0 ?k0 ?a1 ?l1 ?c1 ?k1 ?a2 ?l2 ?c2 ?k2 ?a3 ?l3 ?c3 ?k3 ?a4 ?l4 ?c4 ?k4 ?a5 ?l5 ?c5 ?k5 ?a6 ?l6 ?c6 ?k6 ?a7 ?l7 ?c7 ?k7 ?a8 ?l8 ?c8 ?k8 ?a9 ?l9 ?c9 ?k9 ?a10 ?l10 ?c10 ?k10 ?a11 ?l11 ?c11 ?k11 ?a12 ?l12 ?c12 ?k12 ?a13 ?l13 ?c13 ?k13 ?a14 ?l14 ?c14 ?k14 ?a15 ?l15 ?c15 ?k15 ?a16 ?l16 ?c16 ?k16 ?a17 ?l17 ?c17 ?k17 ?a18 ?l18 ?c18 ?k18 ?a19 ?l19 ?c19 ?k19 ?v0 ?v1 ?z0 ?z1 ?z2 ?z3 ?z4 ?z5 ?z6 ?z7 ?z8 ?z9 ?z10 ?z11
    (case a0 => k_is); (case l0 => k_is); (case c0 => k_is); (case k0 => k_is); (case a1 => k_is); (case l1 => k_is); (case c1 => k_is); (case k1 => k_is); (case a2 => k_is); (case l2 => k_is); (case c2 => k_is); (case k2 => k_is); (case a3 => k_is); (case l3 => k_is); (case c3 => k_is); (case k3 => k_is); (case a4 => k_is); (case l4 => k_is); (case c4 => k_is); (case k4 => k_is); (case a5 => k_is); (case l5 => k_is); (case c5 => k_is); (case k5 => k_is); (case a6 => k_is); (case l6 => k_is); (case c6 => k_is); (case k6 => k_is); (case a7 => k_is); (case l7 => k_is); (case c7 => k_is); (case k7 => k_is); (case a8 => k_is); (case l8 => k_is); (case c8 => k_is); (case k8 => k_is); (case a9 => k_is); (case l9 => k_is); (case c9 => k_is); (case k9 => k_is); (case a10 => k_is); (case l10 => k_is); (case c10 => k_is); (case k10 => k_is); (case a11 => k_is); (case l11 => k_is); (case c11 => k_is); (case k11 => k_is); (case a12 => k_is); (case l12 => k_is); (case c12 => k_is); (case k12 => k_is); (case a13 => k_is); (case l13 => k_is); (case c13 => k_is); (case k13 => k_is); (case a14 => k_is); (case l14 => k_is); (case c14 => k_is); (case k14 => k_is); (case a15 => k_is); (case l15 => k_is); (case c15 => k_is); (case k15 => k_is); (case a16 => k_is); (case l16 => k_is); (case c16 => k_is); (case k16 => k_is); (case a17 => k_is); (case l17 => k_is); (case c17 => k_is); (case k17 => k_is); (case a18 => k_is); (case l18 => k_is); (case c18 => k_is); (case k18 => k_is); (case a19 => k_is); (case l19 => k_is); (case c19 => k_is); (case k19 => k_is); (case v0 => k_is); (case v1 => k_is); (case z0 => k_is); (case z1 => k_is); (case z2 => k_is); (case z3 => k_is); (case z4 => k_is); (case z5 => k_is); (case z6 => k_is); (case z7 => k_is); (case z8 => k_is); (case z9 => k_is); (case z10 => k_is); (case z11 => k_is)
