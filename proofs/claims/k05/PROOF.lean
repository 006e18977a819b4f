import PyProof.Rows.All
import Wide.All
import OpenK.AllK
import Wide.FinOn
import HandS.ForMost
import HandS.Evl
import HandS.Wide
import HandS.SortKw
import HandS.IsInst
import HandS.Walk
import HandS.Style
import HandS.Conv
import HandS.More
import KE.SortData
import KE.DataMinMax
import HandS.SetFor
import HandS.Strs
import HandS.Exc
import HandS.ExcOwn
import HandS.WordsExc
import HandS.CallLocal
import HandS.ExcIs
import HandS.HotCalls
import HandS.EndBits
import PySem.Challenge.RW_partways_k05_refused
set_option Elab.async false
set_option linter.all false
set_option maxRecDepth 100000
set_option maxHeartbeats 2000000
set_option autoImplicit false
/-! Data: what a value stands for; what an expression comes to, as data; statements and loops over that. -/
namespace Pw
open PySem PySem.Spec PyProof.Rows L2
open Evl (Ex)

/-! ### heaps -/
/-- H0 of what H knows, H2 of what is newer -/
def fr (H0 H H2 : Hp) : Hp := fun b => if (H b).isSome = true then H0 b else H2 b
def del (p : Addr) (G : Hp) : Hp := fun b => if b = p then none else G b
section
variable {H0 H H1 H2 H3 G0 G1 G G' H00 Hin : Hp} {b p : Addr} {o : HO}
theorem fr_some (h : H b = some o) : fr H0 H H2 b = H0 b := by unfold fr; rw [h] <;> rfl
theorem fr_none (h : H b = none) : fr H0 H H2 b = H2 b := by unfold fr; rw [h] <;> rfl
theorem ex_none (e : Ex H H2) (h : H2 b = none) : H b = none := by
  cases q : H b with
  | none => rfl
  | some u => rw [e b u q] at h; cases h
theorem ex_fr (e : Ex H0 H) : Ex H0 (fr H0 H H2) := fun a o h => by rw [fr_some (e a o h)]; exact h
theorem fr_ex (e : Ex H0 H) (e2 : Ex H H2) : Ex (fr H0 H H2) H2 := fun a o h => by
  cases q : H a with
  | none => rw [fr_none q] at h; exact h
  | some u => rw [fr_some q] at h; exact e2 a o (e a o h)
theorem fr_out (e : Ex H1 H2) : Ex (fr H0 H H1) (fr H0 H H2) := fun a o h => by
  cases q : H a with
  | none => rw [fr_none q] at h ⊢; exact e a o h
  | some u => rw [fr_some q] at h ⊢; exact h
theorem fr_chain (e : Ex H0 H) (e1 : Ex H H1) : Ex (fr H0 H1 H2) (fr H0 H H2) := fun a o h => by
  cases q : H1 a with
  | none => rw [fr_none q] at h; rw [fr_none (ex_none e1 q)]; exact h
  | some u => rw [fr_some q] at h; rw [fr_some (e a o h)]; exact h
theorem fr_base (e : Ex G0 G1) : Ex (fr G0 H H2) (fr G1 H H2) := fun a o h => by
  cases q : H a with
  | none => rw [fr_none q] at h ⊢; exact h
  | some u => rw [fr_some q] at h ⊢; exact e a o h
theorem fr_in (s : Ex H0 (fr H00 Hin H)) (e : Ex Hin H) (e2 : Ex H H2) : Ex (fr H0 H H2) (fr H00 Hin H2) := fun a o h => by
  cases q : H a with
  | none => rw [fr_none q] at h; rw [fr_none (ex_none e q)]; exact h
  | some u =>
    rw [fr_some q] at h
    have k := s a o h
    cases q2 : Hin a with
    | none => rw [fr_none q2] at k ⊢; exact e2 a o k
    | some u2 => rw [fr_some q2] at k ⊢; exact k
theorem fr_self : Ex (fr H0 H0 H) H → Ex H0 H0 := fun _ => Ex.refl H0
theorem del_ex : Ex (del p G) G := fun a o h => by
  unfold del at h
  by_cases q : a = p
  · rw [if_pos q] at h; cases h
  · rw [if_neg q] at h; exact h
theorem del_at : del p G p = none := by unfold del; rw [if_pos rfl]
theorem del_ne (h : b ≠ p) : del p G b = G b := by unfold del; rw [if_neg h]
theorem ex_del (e : Ex G G') (h : G p = none) : Ex G (del p G') := fun a o q => by
  rw [del_ne (ne_of_none q h)]; exact e a o q
theorem del_mono (e : Ex G G') : Ex (del p G) (del p G') := fun a o q => by
  by_cases z : a = p
  · subst z; rw [del_at] at q; cases q
  · rw [del_ne z] at q ⊢; exact e a o q
end

/-! ### what a value stands for -/
def encD (kvs : List (Int × Int)) : List (Key × V) := kvs.map fun e => (Sum.inl e.1, V.int e.2)
def encP (kvs : List (Int × Int)) : List (PyData × PyData) := kvs.map fun e => (PyData.int e.1, PyData.int e.2)
def tyQ : List String := ["int", "bool", "tuple", "list"]
/-- a class of one's own: what isinstance asks of it -/
structure OwnC (K : PySem.W.Frag) (C : Addr) : Prop where
  ty : ∀ (H : Hp) (a dx : Addr) (fs : List (Str × V)), H a = some (.ins C dx fs) → TyX K H (.ref a) (.ref C)
  cl : Cls K C
  q_int : PySem.W.kitOne K (.ref C) (.type "int") = some false
  q_bool : PySem.W.kitOne K (.ref C) (.type "bool") = some false
  q_tuple : PySem.W.kitOne K (.ref C) (.type "tuple") = some false
  q_list : PySem.W.kitOne K (.ref C) (.type "list") = some false
/-- an object of one field, as a datum -/
abbrev obX (f : Str) (C : Addr) (d : PyData) : List (PyData × PyData) := [(.str f, .tuple [.int (C : Int), d])]
abbrev obD (f : Str) (C : Addr) (d : PyData) : PyData := .dict (obX f C d)
mutual
inductive Rv (K : PySem.W.Frag) (H : Hp) : V → PyData → Prop
  | non : Rv K H .non .none
  | bl (b : Bool) : Rv K H (.bl b) (.bool b)
  | int (i : Int) : Rv K H (.int i) (.int i)
  | str (x : Str) : Rv K H (.str x) (.str x)
  | lst {a : Addr} {xs : List V} {ds : List PyData} : SqL K H a xs → RvA K H xs ds → Rv K H (.ref a) (.list ds)
  | tup {a : Addr} {xs : List V} {ds : List PyData} : SqT K H a xs → RvA K H xs ds → Rv K H (.ref a) (.tuple ds)
  | dct {a : Addr} {kvs : List (Int × Int)} {x : List (PyData × PyData)} : H a = some (.dK (encD kvs)) → x = encP kvs → Rv K H (.ref a) (.dict x)
  | obj {a C dx : Addr} {f : Str} {v : V} {d : PyData} {x : List (PyData × PyData)} : OwnC K C → H a = some (.ins C dx [(f, v)]) → Rv K H v d → x = obX f C d → Rv K H (.ref a) (.dict x)
inductive RvA (K : PySem.W.Frag) (H : Hp) : List V → List PyData → Prop
  | nil : RvA K H [] []
  | cons {v : V} {vs : List V} {d : PyData} {ds : List PyData} : Rv K H v d → RvA K H vs ds → RvA K H (v :: vs) (d :: ds)
end
section
variable {K : PySem.W.Frag} {H H' : Hp}
mutual
theorem Rv.mono (e : Ex H H') : ∀ {v : V} {d : PyData}, Rv K H v d → Rv K H' v d
  | _, _, .non => .non
  | _, _, .bl b => .bl b
  | _, _, .int i => .int i
  | _, _, .str x => .str x
  | _, _, .lst s a => .lst (Evl.ex_l e s) (RvA.mono e a)
  | _, _, .tup s a => .tup (Evl.ex_t e s) (RvA.mono e a)
  | _, _, .dct s z => .dct (e _ _ s) z
  | _, _, .obj c s r z => .obj c (e _ _ s) (Rv.mono e r) z
theorem RvA.mono (e : Ex H H') : ∀ {vs : List V} {ds : List PyData}, RvA K H vs ds → RvA K H' vs ds
  | _, _, .nil => .nil
  | _, _, .cons a b => .cons (Rv.mono e a) (RvA.mono e b)
end
theorem Rv.up {v : V} {d : PyData} (h : Rv K H v d) (e : Ex H H') : Rv K H' v d := Rv.mono e h
theorem RvA.up {v : List V} {d : List PyData} (h : RvA K H v d) (e : Ex H H') : RvA K H' v d := RvA.mono e h
variable {v : V} {d : PyData} {vs ws : List V} {ds es : List PyData}
theorem RvA.paired : ∀ {vs : List V} {ds : List PyData}, RvA K H vs ds → Paired (Rv K H) vs ds
  | _, [], h => by cases h; exact .nil
  | _, d :: ds, h => by
    cases h with
    | cons a b => exact .cons a (RvA.paired b)
theorem RvA.of : ∀ {vs : List V} {ds : List PyData}, Paired (Rv K H) vs ds → RvA K H vs ds
  | _, _, .nil => .nil
  | _, _, .cons a b => .cons a (RvA.of b)
theorem RvA.length (h : RvA K H vs ds) : vs.length = ds.length := h.paired.length
theorem RvA.append : ∀ {vs ws : List V} {ds es : List PyData}, RvA K H vs ds → RvA K H ws es → RvA K H (vs ++ ws) (ds ++ es)
  | _, _, [], _, h, k => by cases h; exact k
  | _, _, d :: ds, _, h, k => by
    cases h with
    | cons a b => exact .cons a (RvA.append b k)
theorem RvA.one (h : Rv K H v d) : RvA K H [v] [d] := .cons h .nil
theorem RvA.reverse : ∀ {vs : List V} {ds : List PyData}, RvA K H vs ds → RvA K H vs.reverse ds.reverse
  | _, [], h => by cases h; exact .nil
  | _, d :: ds, h => by
    cases h with
    | cons a b => rw [List.reverse_cons, List.reverse_cons]; exact RvA.append (RvA.reverse b) (.one a)
theorem RvA.take : ∀ {vs : List V} {ds : List PyData} (n : Nat), RvA K H vs ds → RvA K H (vs.take n) (ds.take n)
  | _, [], n, h => by cases h; rw [List.take_nil, List.take_nil]; exact .nil
  | _, d :: ds, 0, h => .nil
  | _, d :: ds, n + 1, h => by
    cases h with
    | cons a b => exact .cons a (RvA.take n b)
theorem RvA.drop : ∀ {vs : List V} {ds : List PyData} (n : Nat), RvA K H vs ds → RvA K H (vs.drop n) (ds.drop n)
  | _, [], n, h => by cases h; rw [List.drop_nil, List.drop_nil]; exact .nil
  | _, d :: ds, 0, h => h
  | _, d :: ds, n + 1, h => by
    cases h with
    | cons a b => exact RvA.drop n b
theorem RvA.set : ∀ {vs : List V} {ds : List PyData} (i : Nat), RvA K H vs ds → Rv K H v d → RvA K H (vs.set i v) (ds.set i d)
  | _, [], i, h, _ => by cases h; exact .nil
  | _, _ :: _, 0, h, r => by
    cases h with
    | cons a b => exact .cons r b
  | _, _ :: _, i + 1, h, r => by
    cases h with
    | cons a b => exact .cons a (RvA.set i b r)
theorem RvA.eraseIdx : ∀ {vs : List V} {ds : List PyData} (i : Nat), RvA K H vs ds → RvA K H (vs.eraseIdx i) (ds.eraseIdx i)
  | _, [], i, h => by cases h; exact .nil
  | _, _ :: _, 0, h => by
    cases h with
    | cons a b => exact b
  | _, _ :: _, i + 1, h => by
    cases h with
    | cons a b => exact .cons a (RvA.eraseIdx i b)
theorem RvA.get : ∀ {vs : List V} {ds : List PyData} {i : Nat} {d : PyData}, RvA K H vs ds → ds[i]? = some d → ∃ v, vs[i]? = some v ∧ Rv K H v d
  | _, [], i, _, h, e => by simp at e
  | _, d :: ds, 0, _, h, e => by
    cases h with
    | cons a b => cases e; exact ⟨_, rfl, a⟩
  | _, _ :: ds, i + 1, d, h, e => by
    cases h with
    | cons a b => exact RvA.get (ds := ds) (i := i) b (by simpa using e)
theorem RvA.got {i : Nat} (h : RvA K H vs ds) (e : vs[i]? = some v) : ∃ d, ds[i]? = some d ∧ Rv K H v d := by
  have hl := h.length
  have hi : i < ds.length := by have := (List.getElem?_eq_some_iff.mp e).1; omega
  obtain ⟨w, h1, h2⟩ := h.get (List.getElem?_eq_getElem hi)
  rw [e] at h1; cases h1
  exact ⟨_, List.getElem?_eq_getElem hi, h2⟩
theorem RvA.atI {i : Int} (h : RvA K H vs ds) (e : L2.atI ds i = some d) : ∃ v, L2.atI vs i = some v ∧ Rv K H v d := by
  unfold L2.atI at e ⊢
  rw [h.length]
  cases q : ixN ds.length i with
  | none => rw [q] at e; cases e
  | some j => rw [q] at e; exact h.get e
theorem RvA.ints : ∀ {vs : List V} {ns : List Int}, RvA K H vs (ns.map PyData.int) → vs = ns.map V.int
  | _, [], h => by cases h; rfl
  | _, n :: ns, h => by
    cases h with
    | cons a b => cases a; rw [RvA.ints b]; rfl
theorem RvA.bools : ∀ {vs : List V} {ns : List Bool}, RvA K H vs (ns.map PyData.bool) → vs = ns.map V.bl
  | _, [], h => by cases h; rfl
  | _, n :: ns, h => by
    cases h with
    | cons a b => cases a; rw [RvA.bools b]; rfl
theorem RvA.ofInts : ∀ ns : List Int, RvA K H (ns.map V.int) (ns.map PyData.int)
  | [] => .nil
  | n :: ns => .cons (.int n) (RvA.ofInts ns)
theorem Rv.isInt {i : Int} (h : Rv K H v (.int i)) : v = .int i := by cases h; rfl
theorem Rv.isBool {b : Bool} (h : Rv K H v (.bool b)) : v = .bl b := by cases h; rfl
theorem Rv.isStr {b : Str} (h : Rv K H v (.str b)) : v = .str b := by cases h; rfl
theorem Rv.isNone (h : Rv K H v .none) : v = .non := by cases h; rfl
theorem Rv.isList (h : Rv K H v (.list ds)) : ∃ a xs, v = .ref a ∧ SqL K H a xs ∧ RvA K H xs ds := by cases h with | lst s a => exact ⟨_, _, rfl, s, a⟩
theorem encP_inj : ∀ {a b : List (Int × Int)}, encP a = encP b → a = b
  | [], [], _ => rfl
  | [], b :: bs, h => by cases h
  | a :: as, [], h => by cases h
  | (a1, a2) :: as, (b1, b2) :: bs, h => by
    have h' : (PyData.int a1, PyData.int a2) :: encP as = (PyData.int b1, PyData.int b2) :: encP bs := h
    injection h' with h1 h2
    injection h1 with h3 h4
    injection h3 with h3
    injection h4 with h4
    rw [h3, h4, encP_inj h2]
theorem Rv.isDict {kvs : List (Int × Int)} (h : Rv K H v (.dict (encP kvs))) : ∃ a, v = .ref a ∧ H a = some (.dK (encD kvs)) := by
  generalize hx : PyData.dict (encP kvs) = x at h
  cases h with
  | dct s z =>
    injection hx with hx
    rw [z] at hx
    rw [encP_inj hx]
    exact ⟨_, rfl, s⟩
  | obj c s r z =>
    injection hx with hx
    rw [z] at hx
    exfalso
    cases kvs with
    | nil => cases hx
    | cons e kvs =>
      have h' : (PyData.int e.1, PyData.int e.2) :: encP kvs = obX _ _ _ := hx
      injection h' with h1 _
      injection h1 with h1 _
      cases h1
  | _ => cases hx
theorem Rv.isTuple (h : Rv K H v (.tuple ds)) : ∃ a xs, v = .ref a ∧ SqT K H a xs ∧ RvA K H xs ds := by cases h with | tup s a => exact ⟨_, _, rfl, s, a⟩
mutual
theorem Rv.dp : ∀ (d : PyData) (v : V), d.canLay0 = true → Rv K H v d → Dp K H v d
  | .none, _, _, h => by cases h; exact .non
  | .bool b, _, _, h => by cases h; exact .bl b
  | .int i, _, _, h => by cases h; exact .int i
  | .str x, _, _, h => by cases h; exact .str x
  | .list ds, _, c, h => by
    cases h with
    | lst s a => exact .lst s (RvA.dp ds _ (by simpa [PyData.canLay0] using c) a)
  | .tuple ds, _, c, h => by
    cases h with
    | tup s a => exact .tup s (RvA.dp ds _ (by simpa [PyData.canLay0] using c) a)
  | .dict _, _, c, h => by simp [PyData.canLay0] at c
theorem RvA.dp : ∀ (ds : List PyData) (vs : List V), PyData.canLayAll0 ds = true → RvA K H vs ds → DpAll K H vs ds
  | [], _, _, h => by cases h; exact .nil
  | d :: ds, _, c, h => by
    have c' : d.canLay0 = true ∧ PyData.canLayAll0 ds = true := by simpa [PyData.canLayAll0] using c
    cases h with
    | cons a b => exact .cons (Rv.dp d _ c'.1 a) (RvA.dp ds _ c'.2 b)
end
end

/-! ### slots as data, things of one's own -/
inductive Sl where
  | no
  | d (x : PyData)
  | o (p : Addr)
inductive Ow where
  | lst (xs : List PyData)
  | dct (kvs : List (Int × Int))
def OwR (K : PySem.W.Frag) (H0 H : Hp) (p : Addr) : Ow → Prop
  | .lst xs => H0 p = none ∧ ∃ vs, H p = some (.lst vs) ∧ RvA K H0 vs xs
  | .dct kvs => H0 p = none ∧ H p = some (.dK (encD kvs))
theorem OwR.free {K : PySem.W.Frag} {H0 H : Hp} {p : Addr} {w : Ow} (h : OwR K H0 H p w) : H0 p = none := by cases w <;> exact h.1
theorem OwR.is {K : PySem.W.Frag} {H0 H : Hp} {p : Addr} {w : Ow} (h : OwR K H0 H p w) : ∃ o, H p = some o := by
  cases w with
  | lst xs => obtain ⟨_, vs, h, _⟩ := h; exact ⟨_, h⟩
  | dct kvs => exact ⟨_, h.2⟩
theorem OwR.go {K : PySem.W.Frag} {H0 H0' H H' : Hp} {p : Addr} {w : Ow} (h : OwR K H0 H p w) (e0 : Ex H0 H0') (n : H0' p = none) (k : H' p = H p) : OwR K H0' H' p w := by
  cases w with
  | lst xs =>
    obtain ⟨_, vs, h, r⟩ := h
    exact ⟨n, vs, by rw [k]; exact h, r.up e0⟩
  | dct kvs => exact ⟨n, by rw [k]; exact h.2⟩
structure S1 (K : PySem.W.Frag) (H0 : Hp) (σ : L2.St) (H : Hp) (ρ : List Sl) (O : List (Addr × Ow)) : Prop where
  base : Ex H0 H
  len : σ.length = ρ.length
  env : ∀ (i : Nat) (x : PyData), ρ[i]? = some (Sl.d x) → ∃ v : V, σ[i]? = some (some v) ∧ Rv K H0 v x
  adr : ∀ (i : Nat) (p : Addr), ρ[i]? = some (Sl.o p) → σ[i]? = some (some (V.ref p))
  own : ∀ (p : Addr) (w : Ow), (p, w) ∈ O → OwR K H0 H p w
section
variable {K : PySem.W.Frag} {H0 H H2 : Hp} {σ : L2.St} {ρ : List Sl} {O : List (Addr × Ow)}
theorem S1.keep (s : S1 K H0 σ H ρ O) (e : Ex H H2) : S1 K H0 σ H2 ρ O :=
  ⟨s.base.trans e, s.len, s.env, s.adr, fun p w m => by
    have h := s.own p w m
    obtain ⟨o, ho⟩ := h.is
    exact h.go (Ex.refl H0) h.free ((e p o ho).trans ho.symm)⟩
theorem S1.step (s : S1 K H0 σ H ρ O) (e : Ex H H2) : S1 K (fr H0 H H2) σ H2 ρ O :=
  ⟨fr_ex s.base e, s.len, fun i x h => by
    obtain ⟨v, h1, h2⟩ := s.env i x h
    exact ⟨v, h1, h2.up (ex_fr s.base)⟩, s.adr, fun p w m => by
    have h := s.own p w m
    obtain ⟨o, ho⟩ := h.is
    exact h.go (ex_fr s.base) (by rw [fr_some ho]; exact h.free) ((e p o ho).trans ho.symm)⟩
end

/-! ### what an expression comes to -/
def Ev (K : PySem.W.Frag) (ρ : List Sl) (O : List (Addr × Ow)) (te : TE) (x : PyData) : Prop :=
  ∀ H0 σ H, S1 K H0 σ H ρ O → ∀ Q : VK, (∀ v H2, Ex H H2 → Rv K (fr H0 H H2) v x → Q v H2) → te σ H Q
/-- a value as it is: an address -/
def EvV (K : PySem.W.Frag) (ρ : List Sl) (O : List (Addr × Ow)) (te : TE) (v : V) : Prop :=
  ∀ H0 σ H, S1 K H0 σ H ρ O → ∀ Q : VK, (∀ H2, Ex H H2 → Q v H2) → te σ H Q
/-- a new list -/
def EvL (K : PySem.W.Frag) (ρ : List Sl) (O : List (Addr × Ow)) (te : TE) (xs : List PyData) : Prop :=
  ∀ H0 σ H, S1 K H0 σ H ρ O → ∀ Q : VK, (∀ p ws H2, H p = none → Ex H H2 → H2 p = some (.lst ws) → RvA K (del p (fr H0 H H2)) ws xs → Q (.ref p) H2) → te σ H Q
def EvT (K : PySem.W.Frag) (ρ : List Sl) (O : List (Addr × Ow)) (tt : TT) (b : Bool) : Prop :=
  ∀ H0 σ H, S1 K H0 σ H ρ O → ∀ Q : Bool → Hp → Prop, (∀ H2, Ex H H2 → Q b H2) → tt σ H Q
def EvA (K : PySem.W.Frag) (ρ : List Sl) (O : List (Addr × Ow)) (ta : TA) (xs : List PyData) : Prop :=
  ∀ H0 σ H, S1 K H0 σ H ρ O → ∀ Q : List V → Hp → Prop, (∀ vs H2, Ex H H2 → RvA K (fr H0 H H2) vs xs → Q vs H2) → ta σ H Q
def EvO (K : PySem.W.Frag) (ρ : List Sl) (O : List (Addr × Ow)) (to : TO) (o : Option Int) : Prop :=
  ∀ H0 σ H, S1 K H0 σ H ρ O → ∀ Q : Option Int → Hp → Prop, (∀ H2, Ex H H2 → Q o H2) → to σ H Q
/-- an operation on two values, on one; a call on values; one that makes a list -/
def Op2 (K : PySem.W.Frag) (r : R2) (x y z : PyData) : Prop := ∀ G H v u (Q : VK), Ex G H → Rv K G v x → Rv K G u y → (∀ w H2, Ex H H2 → Rv K (fr G H H2) w z → Q w H2) → r v u H Q
def Op1 (K : PySem.W.Frag) (r : V → Hp → VK → Prop) (x z : PyData) : Prop := ∀ G H v (Q : VK), Ex G H → Rv K G v x → (∀ w H2, Ex H H2 → Rv K (fr G H H2) w z → Q w H2) → r v H Q
def Cb (K : PySem.W.Frag) (r : List V → Hp → VK → Prop) (xs : List PyData) (z : PyData) : Prop := ∀ G H vs (Q : VK), Ex G H → RvA K G vs xs → (∀ w H2, Ex H H2 → Rv K (fr G H H2) w z → Q w H2) → r vs H Q
def CbL (K : PySem.W.Frag) (r : List V → Hp → VK → Prop) (xs : List PyData) (ys : List PyData) : Prop := ∀ G H vs (Q : VK), Ex G H → RvA K G vs xs → (∀ p ws H2, H p = none → Ex H H2 → H2 p = some (.lst ws) → RvA K (del p (fr G H H2)) ws ys → Q (.ref p) H2) → r vs H Q
section
variable {K : PySem.W.Frag} {ρ : List Sl} {O : List (Addr × Ow)} {te ta tb tc : TE} {t u : TT} {x y z : PyData} {r : R2} {G H H2 : Hp} {v : V} {xs ys ds : List PyData}
theorem ex_frfr {H0 H H2 H3 : Hp} (e : Ex H0 H) (e2 : Ex H H2) (e3 : Ex H2 H3) : Ex (fr (fr H0 H H2) H2 H3) (fr H0 H H3) := fr_in (Ex.refl _) e2 e3
theorem ev_is (h : Ev K ρ O te x) (e : x = y) : Ev K ρ O te y := e ▸ h
theorem et_is {a b : Bool} (h : EvT K ρ O t a) (e : a = b) : EvT K ρ O t b := e ▸ h
theorem el_is (h : EvL K ρ O te xs) (e : xs = ys) : EvL K ρ O te ys := e ▸ h
theorem EvL.ev (h : EvL K ρ O te xs) : Ev K ρ O te (.list xs) := fun H0 σ H s Q q => h H0 σ H s Q fun p ws H2 hp e hw r =>
  q _ H2 e (.lst (.inl (.inl (by rw [fr_none hp]; exact hw))) (r.up del_ex))
theorem ev_var {i : Nat} (h : ρ[i]? = some (.d x)) : Ev K ρ O (tVar i) x := fun H0 σ H s Q q => by
  obtain ⟨v, h1, h2⟩ := s.env i x h
  exact ⟨v, h1, q v H (Ex.refl H) (h2.up (ex_fr s.base))⟩
theorem evv_var {i : Nat} {p : Addr} (h : ρ[i]? = some (.o p)) : EvV K ρ O (tVar i) (.ref p) := fun H0 σ H s Q q => ⟨_, s.adr i p h, q H (Ex.refl H)⟩
theorem ev_int {i : Int} : Ev K ρ O (tC (.int i)) (.int i) := fun _ _ H _ _ q => q _ H (Ex.refl H) (.int i)
theorem ev_bl {b : Bool} : Ev K ρ O (tC (.bl b)) (.bool b) := fun _ _ H _ _ q => q _ H (Ex.refl H) (.bl b)
theorem ev_str {b : Str} : Ev K ρ O (tC (.str b)) (.str b) := fun _ _ H _ _ q => q _ H (Ex.refl H) (.str b)
theorem ev_non : Ev K ρ O (tC .non) .none := fun _ _ H _ _ q => q _ H (Ex.refl H) .non
theorem ev_op (ha : Ev K ρ O ta x) (hb : Ev K ρ O tb y) (hr : Op2 K r x y z) : Ev K ρ O (tOp r ta tb) z := fun H0 σ H s Q q =>
  ha H0 σ H s _ fun v H1 e1 rv => hb H0 σ H1 (s.keep e1) _ fun u H2 e2 ru =>
    hr (fr H0 H H2) H2 v u Q (fr_ex s.base (e1.trans e2)) (rv.up (fr_out e2)) (ru.up (fr_chain s.base e1)) fun w H3 e3 rw' => q w H3 ((e1.trans e2).trans e3) (rw'.up (ex_frfr s.base (e1.trans e2) e3))
theorem ev_un {r : V → Hp → VK → Prop} (ha : Ev K ρ O ta x) (hr : Op1 K r x z) : Ev K ρ O (tUn r ta) z := fun H0 σ H s Q q =>
  ha H0 σ H s _ fun v H1 e1 rv => hr (fr H0 H H1) H1 v Q (fr_ex s.base e1) rv fun w H3 e3 rw' => q w H3 (e1.trans e3) (rw'.up (ex_frfr s.base e1 e3))
theorem ea_nil : EvA K ρ O tNil [] := fun _ _ H _ _ q => q [] H (Ex.refl H) .nil
theorem ea_cons {tr : TA} (h : Ev K ρ O ta x) (hr : EvA K ρ O tr xs) : EvA K ρ O (tCons ta tr) (x :: xs) := fun H0 σ H s Q q =>
  h H0 σ H s _ fun v H1 e1 rv => hr H0 σ H1 (s.keep e1) _ fun vs H2 e2 rs => q _ H2 (e1.trans e2) (.cons (rv.up (fr_out e2)) (rs.up (fr_chain s.base e1)))
theorem ev_tup {ta : TA} (h : EvA K ρ O ta xs) (hl : xs.length ≤ 100000 := by exact Nat.le_of_ble_eq_true rfl) : Ev K ρ O (tTup ta) (.tuple xs) := fun H0 σ H s Q q =>
  h H0 σ H s _ fun vs H1 e1 rs => ⟨by rw [rs.length]; exact Evl.sz_of hl, fun p hp => by
    have n : Ex H1 (upd H1 p (.tup vs)) := Ex.new hp
    refine q _ _ (e1.trans n) (.tup (.inl (.inl ?_)) (rs.up (fr_out n)))
    rw [fr_none (ex_none e1 hp)]
    exact upd_same⟩
theorem el_lst {ta : TA} (h : EvA K ρ O ta xs) (hl : xs.length ≤ 100000 := by exact Nat.le_of_ble_eq_true rfl) : EvL K ρ O (tLst ta) xs := fun H0 σ H s Q q =>
  h H0 σ H s _ fun vs H1 e1 rs => ⟨by rw [rs.length]; exact Evl.sz_of hl, fun p hp => by
    have n : Ex H1 (upd H1 p (.lst vs)) := Ex.new hp
    refine q p vs _ (ex_none e1 hp) (e1.trans n) upd_same (rs.up ?_)
    refine ex_del (fr_out n) ?_
    rw [fr_none (ex_none e1 hp)]
    exact hp⟩
theorem ev_cb {r : List V → Hp → VK → Prop} {ta : TA} (h : EvA K ρ O ta xs) (hr : Cb K r xs z) : Ev K ρ O (tCB r ta) z := fun H0 σ H s Q q =>
  h H0 σ H s _ fun vs H1 e1 rs => hr (fr H0 H H1) H1 vs Q (fr_ex s.base e1) rs fun w H3 e3 rw' => q w H3 (e1.trans e3) (rw'.up (ex_frfr s.base e1 e3))
theorem el_cb {r : List V → Hp → VK → Prop} {ta : TA} (h : EvA K ρ O ta xs) (hr : CbL K r xs ys) : EvL K ρ O (tCB r ta) ys := fun H0 σ H s Q q =>
  h H0 σ H s _ fun vs H1 e1 rs => hr (fr H0 H H1) H1 vs Q (fr_ex s.base e1) rs fun p ws H3 hp e3 hw rw' => q p ws H3 (ex_none e1 hp) (e1.trans e3) hw (rw'.up (del_mono (ex_frfr s.base e1 e3)))
/-! tests -/
theorem et_test {b : Bool} (h : Ev K ρ O te (.bool b)) : EvT K ρ O (tTest te) b := fun H0 σ H s Q q => h H0 σ H s _ fun v H1 e rv => ⟨b, rv.isBool, q H1 e⟩
theorem et_B {b : Bool} (h : Ev K ρ O te (.bool b)) : EvT K ρ O (tB te) b := fun H0 σ H s Q q => h H0 σ H s _ fun v H1 e rv => ⟨b, rv.isBool, q H1 e⟩
theorem et_yes : EvT K ρ O tYes true := fun _ _ H _ _ q => q H (Ex.refl H)
theorem et_and {a b : Bool} (h1 : EvT K ρ O t a) (h2 : a = true → EvT K ρ O u b) : EvT K ρ O (tAnd t u) (a && b) := fun H0 σ H s Q q => h1 H0 σ H s _ fun H1 e1 => by
  cases a with
  | true =>
    show u σ H1 Q
    exact h2 rfl H0 σ H1 (s.keep e1) Q fun H2 e2 => q H2 (e1.trans e2)
  | false =>
    show Q false H1
    exact q H1 e1
theorem et_or {a b : Bool} (h1 : EvT K ρ O t a) (h2 : a = false → EvT K ρ O u b) : EvT K ρ O (tOr t u) (a || b) := fun H0 σ H s Q q => h1 H0 σ H s _ fun H1 e1 => by
  cases a with
  | true =>
    show Q true H1
    exact q H1 e1
  | false =>
    show u σ H1 Q
    exact h2 rfl H0 σ H1 (s.keep e1) Q fun H2 e2 => q H2 (e1.trans e2)
theorem et_not {a : Bool} (h1 : EvT K ρ O t a) : EvT K ρ O (tNot t) (!a) := fun H0 σ H s Q q => h1 H0 σ H s _ fun H1 e1 => q H1 e1
theorem ev_andV {a b : Bool} (h1 : Ev K ρ O ta (.bool a)) (h2 : a = true → Ev K ρ O tb (.bool b)) : Ev K ρ O (tAndV ta tb) (.bool (a && b)) := fun H0 σ H s Q q => h1 H0 σ H s _ fun v H1 e1 rv => ⟨a, rv.isBool, by
  cases a with
  | true =>
    show tb σ H1 Q
    exact h2 rfl H0 σ H1 (s.keep e1) Q fun v H2 e2 rv => q v H2 (e1.trans e2) (rv.up (fr_chain s.base e1))
  | false =>
    show Q (.bl false) H1
    exact q _ H1 e1 (.bl false)⟩
theorem ev_orV {a b : Bool} (h1 : Ev K ρ O ta (.bool a)) (h2 : a = false → Ev K ρ O tb (.bool b)) : Ev K ρ O (tOrV ta tb) (.bool (a || b)) := fun H0 σ H s Q q => h1 H0 σ H s _ fun v H1 e1 rv => ⟨a, rv.isBool, by
  cases a with
  | true =>
    show Q (.bl true) H1
    exact q _ H1 e1 (.bl true)
  | false =>
    show tb σ H1 Q
    exact h2 rfl H0 σ H1 (s.keep e1) Q fun v H2 e2 rv => q v H2 (e1.trans e2) (rv.up (fr_chain s.base e1))⟩
theorem ev_notV {a : Bool} (h1 : Ev K ρ O ta (.bool a)) : Ev K ρ O (tNotV ta) (.bool (!a)) := fun H0 σ H s Q q => h1 H0 σ H s _ fun v H1 e1 rv => ⟨a, rv.isBool, q _ H1 e1 (.bl (!a))⟩
theorem ev_if {b : Bool} (h : EvT K ρ O t b) (h1 : b = true → Ev K ρ O ta x) (h2 : b = false → Ev K ρ O tb y) : Ev K ρ O (tIf t ta tb) (if b = true then x else y) := fun H0 σ H s Q q => h H0 σ H s _ fun H1 e1 => by
  cases b with
  | true =>
    show ta σ H1 Q
    exact h1 rfl H0 σ H1 (s.keep e1) Q fun v H2 e2 rv => q v H2 (e1.trans e2) (rv.up (fr_chain s.base e1))
  | false =>
    show tb σ H1 Q
    exact h2 rfl H0 σ H1 (s.keep e1) Q fun v H2 e2 rv => q v H2 (e1.trans e2) (rv.up (fr_chain s.base e1))
theorem ev_ifI {b : Bool} {i j : Int} (h : EvT K ρ O t b) (h1 : b = true → Ev K ρ O ta (.int i)) (h2 : b = false → Ev K ρ O tb (.int j)) : Ev K ρ O (tIf t ta tb) (.int (if b = true then i else j)) :=
  ev_is (ev_if h h1 h2) (by cases b <;> rfl)
/-! operations on values -/
theorem op2_I0 {g : Int → Int → Int} {i j : Int} : Op2 K (rI0 fun i j => .int (g i j)) (.int i) (.int j) (.int (g i j)) := fun G H v u Q e rv ru q => ⟨i, j, rv.isInt, ru.isInt, q _ H (Ex.refl H) (.int _)⟩
theorem op2_B0 {g : Int → Int → Bool} {i j : Int} : Op2 K (rI0 fun i j => .bl (g i j)) (.int i) (.int j) (.bool (g i j)) := fun G H v u Q e rv ru q => ⟨i, j, rv.isInt, ru.isInt, q _ H (Ex.refl H) (.bl _)⟩
theorem op2_I {C : Int → Int → Prop} {g : Int → Int → Int} {i j : Int} (c : C i j) : Op2 K (rI C fun i j => .int (g i j)) (.int i) (.int j) (.int (g i j)) := fun G H v u Q e rv ru q => ⟨i, j, rv.isInt, ru.isInt, c, q _ H (Ex.refl H) (.int _)⟩
theorem op2_eqI {i j : Int} : Op2 K rEq (.int i) (.int j) (.bool (decide (i = j))) := fun G H v u Q e rv ru q => by
  obtain rfl := rv.isInt
  obtain rfl := ru.isInt
  refine ⟨rfl, ?_⟩
  have h : decide (V.int i = V.int j) = decide (i = j) := by
    by_cases z : i = j
    · subst z; simp
    · rw [decide_eq_false z]; exact decide_eq_false fun k => z (V.int.inj k)
  rw [h]
  exact q _ H (Ex.refl H) (.bl _)
theorem op2_neI {i j : Int} : Op2 K rNe (.int i) (.int j) (.bool (!decide (i = j))) := fun G H v u Q e rv ru q => by
  obtain rfl := rv.isInt
  obtain rfl := ru.isInt
  refine ⟨rfl, ?_⟩
  have h : decide (V.int i = V.int j) = decide (i = j) := by
    by_cases z : i = j
    · subst z; simp
    · rw [decide_eq_false z]; exact decide_eq_false fun k => z (V.int.inj k)
  rw [h]
  exact q _ H (Ex.refl H) (.bl _)
theorem op2_eqB {i j : Bool} : Op2 K rEq (.bool i) (.bool j) (.bool (decide (i = j))) := fun G H v u Q e rv ru q => by
  obtain rfl := rv.isBool
  obtain rfl := ru.isBool
  refine ⟨rfl, ?_⟩
  have h : decide (V.bl i = V.bl j) = decide (i = j) := by cases i <;> cases j <;> decide
  rw [h]
  exact q _ H (Ex.refl H) (.bl _)
theorem op2_neB {i j : Bool} : Op2 K rNe (.bool i) (.bool j) (.bool (!decide (i = j))) := fun G H v u Q e rv ru q => by
  obtain rfl := rv.isBool
  obtain rfl := ru.isBool
  refine ⟨rfl, ?_⟩
  have h : decide (V.bl i = V.bl j) = decide (i = j) := by cases i <;> cases j <;> decide
  rw [h]
  exact q _ H (Ex.refl H) (.bl _)
theorem op2_eqD (hx : SeqAt.shaped x = true) (hy : SeqAt.shaped y = true) : Op2 K (rEqD K) x y (.bool (PyData.eqv x y)) := fun G H v u Q e rv ru q =>
  ⟨x, y, Rv.dp x v (SeqAt.canLay_of_shaped hx) (rv.up e), Rv.dp y u (SeqAt.canLay_of_shaped hy) (ru.up e), hx, hy, q _ H (Ex.refl H) (.bl _)⟩
theorem op2_neD (hx : SeqAt.shaped x = true) (hy : SeqAt.shaped y = true) : Op2 K (rNeD K) x y (.bool (!PyData.eqv x y)) := fun G H v u Q e rv ru q =>
  ⟨x, y, Rv.dp x v (SeqAt.canLay_of_shaped hx) (rv.up e), Rv.dp y u (SeqAt.canLay_of_shaped hy) (ru.up e), hx, hy, q _ H (Ex.refl H) (.bl _)⟩
theorem op2_ixL {i : Int} (h : L2.atI xs i = some x) : Op2 K (rIxL K) (.list xs) (.int i) x := fun G H v u Q e rv ru q => by
  obtain ⟨a, ws, rfl, hs, ha⟩ := rv.isList
  obtain rfl := ru.isInt
  obtain ⟨w, h1, h2⟩ := ha.atI h
  exact ⟨a, ws, i, w, rfl, rfl, Evl.ex_l e hs, h1, q w H (Ex.refl H) (h2.up (ex_fr e))⟩
theorem op2_ixT {i : Int} (h : L2.atI xs i = some x) : Op2 K (rIxT K) (.tuple xs) (.int i) x := fun G H v u Q e rv ru q => by
  obtain ⟨a, ws, rfl, hs, ha⟩ := rv.isTuple
  obtain rfl := ru.isInt
  obtain ⟨w, h1, h2⟩ := ha.atI h
  exact ⟨a, ws, i, w, rfl, rfl, Evl.ex_t e hs, h1, q w H (Ex.refl H) (h2.up (ex_fr e))⟩
theorem op1_neg {i : Int} : Op1 K (rU fun i => .int (-i)) (.int i) (.int (-i)) := fun G H v Q e rv q => ⟨i, rv.isInt, q _ H (Ex.refl H) (.int _)⟩
end
end Pw

set_option Elab.async false
set_option linter.all false
set_option maxRecDepth 100000
set_option maxHeartbeats 2000000
set_option autoImplicit false
/-! Statements, loops, comprehensions, promises, as data. -/
namespace Pw
open PySem PySem.Spec PyProof.Rows L2
open Evl (Ex)

/-- the entry: what the arguments lean on, the heap there, a floor that stays -/
structure En where
  h0 : Hp
  hin : Hp
  low : Hp
structure S2 (K : PySem.W.Frag) (E : En) (H0 : Hp) (σ : L2.St) (H : Hp) (ρ : List Sl) (O : List (Addr × Ow)) : Prop where
  s : S1 K H0 σ H ρ O
  ent : Ex E.hin H
  sub : Ex H0 (fr E.h0 E.hin H)
  low : Ex E.low H0
  new : ∀ (p : Addr) (w : Ow), (p, w) ∈ O → E.hin p = none
  nd : (O.map (·.1)).Nodup
def Sg (K : PySem.W.Frag) (E : En) (σ : L2.St) (H : Hp) (ρ : List Sl) (O : List (Addr × Ow)) : Prop := ∃ H0, S2 K E H0 σ H ρ O

/-- forgotten slots -/
inductive Wk : List Sl → List Sl → Prop
  | nil : Wk [] []
  | no {s : Sl} {a b : List Sl} : Wk a b → Wk (s :: a) (.no :: b)
  | same {s : Sl} {a b : List Sl} : Wk a b → Wk (s :: a) (s :: b)
theorem Wk.length : ∀ {a b : List Sl}, Wk a b → a.length = b.length
  | _, _, .nil => rfl
  | _, _, .no h => by rw [List.length_cons, List.length_cons, Wk.length h]
  | _, _, .same h => by rw [List.length_cons, List.length_cons, Wk.length h]
theorem Wk.get : ∀ {a b : List Sl}, Wk a b → ∀ {i : Nat} {s : Sl}, b[i]? = some s → s ≠ .no → a[i]? = some s
  | _, _, .nil, i, s, h, _ => by simp at h
  | _, _, .no h, 0, s, e, n => by
    have q : Sl.no = s := by simpa using e
    exact absurd q.symm n
  | _, _, .no h, i + 1, s, e, n => by
    have q := Wk.get h (i := i) (s := s) (by simpa using e) n
    simpa using q
  | _, _, .same h, 0, s, e, n => by simpa using e
  | _, _, .same h, i + 1, s, e, n => by
    have q := Wk.get h (i := i) (s := s) (by simpa using e) n
    simpa using q
theorem Wk.refl : ∀ a : List Sl, Wk a a
  | [] => .nil
  | _ :: a => .same (Wk.refl a)

section
variable {K : PySem.W.Frag} {E : En} {H0 H H2 : Hp} {σ : L2.St} {ρ ρ' : List Sl} {O O1 O2 : List (Addr × Ow)} {v : V} {x y : PyData} {i : Nat}
theorem S1.weak (s : S1 K H0 σ H ρ O) (w : Wk ρ ρ') : S1 K H0 σ H ρ' O :=
  ⟨s.base, s.len.trans w.length, fun i x h => s.env i x (w.get h (fun z => nomatch z)), fun i p h => s.adr i p (w.get h (fun z => nomatch z)), s.own⟩
theorem S1.store (s : S1 K H0 σ H ρ O) (hi : i < ρ.length) (r : Rv K H0 v x) : S1 K H0 (σ.set i (some v)) H (ρ.set i (.d x)) O := by
  have hs : i < σ.length := by rw [s.len]; exact hi
  refine ⟨s.base, by rw [List.length_set, List.length_set]; exact s.len, fun j z h => ?_, fun j p h => ?_, s.own⟩
  · by_cases e : i = j
    · subst e
      rw [List.getElem?_set_self hi] at h
      cases h
      exact ⟨v, List.getElem?_set_self hs, r⟩
    · rw [List.getElem?_set_ne e] at h
      obtain ⟨u, h1, h2⟩ := s.env j z h
      exact ⟨u, by rw [List.getElem?_set_ne e]; exact h1, h2⟩
  · by_cases e : i = j
    · subst e
      rw [List.getElem?_set_self hi] at h
      cases h
    · rw [List.getElem?_set_ne e] at h
      rw [List.getElem?_set_ne e]
      exact s.adr j p h
theorem S1.storeA {p : Addr} (s : S1 K H0 σ H ρ O) (hi : i < ρ.length) : S1 K H0 (σ.set i (some (.ref p))) H (ρ.set i (.o p)) O := by
  have hs : i < σ.length := by rw [s.len]; exact hi
  refine ⟨s.base, by rw [List.length_set, List.length_set]; exact s.len, fun j z h => ?_, fun j p h => ?_, s.own⟩
  · by_cases e : i = j
    · subst e
      rw [List.getElem?_set_self hi] at h
      cases h
    · rw [List.getElem?_set_ne e] at h
      obtain ⟨u, h1, h2⟩ := s.env j z h
      exact ⟨u, by rw [List.getElem?_set_ne e]; exact h1, h2⟩
  · by_cases e : i = j
    · subst e
      rw [List.getElem?_set_self hi] at h
      cases h
      exact List.getElem?_set_self hs
    · rw [List.getElem?_set_ne e] at h
      rw [List.getElem?_set_ne e]
      exact s.adr j p h
theorem S2.to {σ' : L2.St} (s : S2 K E H0 σ H ρ O) (h : S1 K H0 σ' H ρ' O) : S2 K E H0 σ' H ρ' O := ⟨h, s.ent, s.sub, s.low, s.new, s.nd⟩
theorem S2.step (s : S2 K E H0 σ H ρ O) (e : Ex H H2) : S2 K E (fr H0 H H2) σ H2 ρ O :=
  ⟨s.s.step e, s.ent.trans e, fr_in s.sub s.ent e, s.low.trans (ex_fr s.s.base), s.new, s.nd⟩
theorem S2.keep (s : S2 K E H0 σ H ρ O) (e : Ex H H2) : S2 K E H0 σ H2 ρ O :=
  ⟨s.s.keep e, s.ent.trans e, s.sub.trans (fr_out e), s.low, s.new, s.nd⟩
theorem Sg.keep (s : Sg K E σ H ρ O) (e : Ex H H2) : Sg K E σ H2 ρ O := let ⟨H0, s⟩ := s; ⟨H0, s.keep e⟩
theorem Sg.weak (s : Sg K E σ H ρ O) (w : Wk ρ ρ') : Sg K E σ H ρ' O := let ⟨H0, s⟩ := s; ⟨H0, s.to (s.s.weak w)⟩
theorem Sg.ent (s : Sg K E σ H ρ O) : Ex E.hin H := let ⟨H0, s⟩ := s; s.ent
theorem Sg.floor {B : Hp} (s : Sg K { E with low := B } σ H ρ O) (e : Ex E.low B) : Sg K E σ H ρ O := let ⟨H0, s⟩ := s; ⟨H0, ⟨s.s, s.ent, s.sub, e.trans s.low, s.new, s.nd⟩⟩
/-- as a datum -/
abbrev owD : Ow → PyData
  | .lst xs => .list xs
  | .dct kvs => .dict (encP kvs)
/-- a thing that is no longer changed is data -/
theorem S2.freeze {p : Addr} {w : Ow} (s : S2 K E H0 σ H ρ (O1 ++ (p, w) :: O2)) (hi : ρ[i]? = some (.o p)) : S2 K E (fun b => if b = p then H p else H0 b) σ H (ρ.set i (.d (owD w))) (O1 ++ O2) := by
  have ho := s.s.own p w (by simp)
  have hp0 := ho.free
  have hn : E.hin p = none := s.new p w (by simp)
  have nd := s.nd
  have nd2 : ∀ q w, (q, w) ∈ O1 ++ O2 → q ≠ p := by
    intro q w m e
    subst e
    rw [List.map_append, List.map_cons, List.nodup_append] at nd
    obtain ⟨_, n2, n3⟩ := nd
    rcases List.mem_append.mp m with m | m
    · exact n3 q (List.mem_map.mpr ⟨_, m, rfl⟩) q (by simp) rfl
    · exact (List.nodup_cons.mp n2).1 (List.mem_map.mpr ⟨_, m, rfl⟩)
  have e1 : Ex H0 (fun b => if b = p then H p else H0 b) := fun a o h => by
    have z : a ≠ p := fun e => by subst e; rw [hp0] at h; cases h
    show (if a = p then H p else H0 a) = some o
    rw [if_neg z]; exact h
  have e2 : Ex (fun b => if b = p then H p else H0 b) H := fun a o h => by
    have h' : (if a = p then H p else H0 a) = some o := h
    by_cases z : a = p
    · rw [if_pos z] at h'; rw [z]; exact h'
    · rw [if_neg z] at h'; exact s.s.base a o h'
  have hil : i < ρ.length := (List.getElem?_eq_some_iff.mp hi).1
  refine ⟨?_, s.ent, fun a o h => ?_, s.low.trans e1, fun q w m => s.new q w ?_, ?_⟩
  · have s1 : S1 K (fun b => if b = p then H p else H0 b) σ H ρ (O1 ++ O2) := by
      refine ⟨e2, s.s.len, fun j z h => ?_, s.s.adr, fun q w m => ?_⟩
      · obtain ⟨u, h1, h2⟩ := s.s.env j z h
        exact ⟨u, h1, h2.up e1⟩
      · have h := s.s.own q w (by rcases List.mem_append.mp m with m | m <;> simp [m])
        exact h.go e1 (by show (if q = p then H p else H0 q) = none; rw [if_neg (nd2 q w m)]; exact h.free) rfl
    have hv := s.s.adr i p hi
    have r : Rv K (fun b => if b = p then H p else H0 b) (.ref p) (owD w) := by
      cases w with
      | lst xs =>
        obtain ⟨_, vs, hp, hr⟩ := ho
        exact .lst (.inl (.inl (by show (if p = p then H p else H0 p) = _; rw [if_pos rfl]; exact hp))) (hr.up e1)
      | dct kvs => exact .dct (kvs := kvs) (by show (if p = p then H p else H0 p) = _; rw [if_pos rfl]; exact ho.2) rfl
    have s2 := s1.store hil r
    have e3 : σ.set i (some (.ref p)) = σ := by
      apply List.ext_getElem?
      intro j
      by_cases e : i = j
      · subst e; rw [List.getElem?_set_self (by rw [s.s.len]; exact hil), hv]
      · rw [List.getElem?_set_ne e]
    rw [e3] at s2
    exact s2
  · have h' : (if a = p then H p else H0 a) = some o := h
    by_cases z : a = p
    · rw [if_pos z] at h'; subst z; rw [fr_none hn]; exact h'
    · rw [if_neg z] at h'; exact s.sub a o h'
  · rcases List.mem_append.mp m with m | m <;> simp [m]
  · rw [List.map_append, List.map_cons] at nd
    rw [List.map_append]
    exact List.Nodup.sublist (List.Sublist.append_left (List.sublist_cons_self _ _) _) nd
theorem Sg.freeze {p : Addr} {w : Ow} (s : Sg K E σ H ρ (O1 ++ (p, w) :: O2)) (hi : ρ[i]? = some (.o p)) : Sg K E σ H (ρ.set i (.d (owD w))) (O1 ++ O2) := let ⟨_, s⟩ := s; ⟨_, s.freeze hi⟩
/-- a thing is dropped -/
theorem Sg.drop {p : Addr} {w : Ow} (s : Sg K E σ H ρ (O1 ++ (p, w) :: O2)) : Sg K E σ H ρ (O1 ++ O2) := by
  obtain ⟨H0, s⟩ := s
  refine ⟨H0, ⟨⟨s.s.base, s.s.len, s.s.env, s.s.adr, fun q w m => s.s.own q w ?_⟩, s.ent, s.sub, s.low, fun q w m => s.new q w ?_, ?_⟩⟩
  · rcases List.mem_append.mp m with m | m <;> simp [m]
  · rcases List.mem_append.mp m with m | m <;> simp [m]
  · have nd := s.nd
    rw [List.map_append, List.map_cons] at nd
    rw [List.map_append]
    exact List.Nodup.sublist (List.Sublist.append_left (List.sublist_cons_self _ _) _) nd
/-- a thing of one's own is changed -/
theorem S2.write {p : Addr} {w w' : Ow} {o : HO} (s : S2 K E H0 σ H ρ (O1 ++ (p, w) :: O2)) (hw : OwR K H0 (upd H p o) p w') : S2 K E H0 σ (upd H p o) ρ (O1 ++ (p, w') :: O2) := by
  have hf := (s.s.own p w (by simp)).free
  have hn : E.hin p = none := s.new p w (by simp)
  have nd := s.nd
  have nd2 : ∀ q u, (q, u) ∈ O1 ++ O2 → q ≠ p := by
    intro q u m e
    subst e
    rw [List.map_append, List.map_cons, List.nodup_append] at nd
    obtain ⟨_, n2, n3⟩ := nd
    rcases List.mem_append.mp m with m | m
    · exact n3 q (List.mem_map.mpr ⟨_, m, rfl⟩) q (by simp) rfl
    · exact (List.nodup_cons.mp n2).1 (List.mem_map.mpr ⟨_, m, rfl⟩)
  refine ⟨⟨Ex.mut s.s.base hf, s.s.len, s.s.env, s.s.adr, fun q u m => ?_⟩, Ex.mut s.ent hn, fun a o' h => ?_, s.low, fun q u m => ?_, ?_⟩
  · rcases List.mem_append.mp m with m | m
    · have h := s.s.own q u (by simp [m])
      exact h.go (Ex.refl _) h.free (upd_ne (nd2 q u (by simp [m])))
    · rcases List.mem_cons.mp m with m | m
      · cases m; exact hw
      · have h := s.s.own q u (by simp [m])
        exact h.go (Ex.refl _) h.free (upd_ne (nd2 q u (by simp [m])))
  · have z : a ≠ p := ne_of_none h hf
    have k := s.sub a o' h
    cases q : E.hin a with
    | none => rw [fr_none q] at k ⊢; rw [upd_ne z]; exact k
    | some u => rw [fr_some q] at k ⊢; exact k
  · rcases List.mem_append.mp m with m | m
    · exact s.new q u (by simp [m])
    · rcases List.mem_cons.mp m with m | m
      · cases m; exact hn
      · exact s.new q u (by simp [m])
  · have e : (O1 ++ (p, w') :: O2).map (·.1) = (O1 ++ (p, w) :: O2).map (·.1) := by simp
    rw [e]; exact nd
/-- a new thing of one's own -/
theorem S2.own {p : Addr} {w : Ow} (s : S2 K E H0 σ H ρ O) (e : Ex H H2) (hp : H p = none) (hw : OwR K (del p (fr H0 H H2)) H2 p w) : S2 K E (del p (fr H0 H H2)) σ H2 ρ ((p, w) :: O) := by
  have s' := s.step e
  have hp0 : H0 p = none := ex_none s.s.base hp
  have e0 : Ex H0 (del p (fr H0 H H2)) := ex_del (ex_fr s.s.base) hp0
  have hn : E.hin p = none := ex_none s.ent hp
  have ne : ∀ q u, (q, u) ∈ O → q ≠ p := fun q u m z => by
    obtain ⟨o, ho⟩ := (s.s.own q u m).is
    rw [z, hp] at ho; cases ho
  refine ⟨⟨del_ex.trans s'.s.base, s.s.len, fun j z h => ?_, s.s.adr, fun q u m => ?_⟩, s'.ent, del_ex.trans s'.sub, s.low.trans e0, fun q u m => ?_, ?_⟩
  · obtain ⟨u, h1, h2⟩ := s.s.env j z h
    exact ⟨u, h1, h2.up e0⟩
  · rcases List.mem_cons.mp m with m | m
    · cases m; exact hw
    · have h := s.s.own q u m
      obtain ⟨o, ho⟩ := h.is
      refine h.go e0 ?_ ((e q o ho).trans ho.symm)
      rw [del_ne (ne q u m), fr_some ho]; exact h.free
  · rcases List.mem_cons.mp m with m | m
    · cases m; exact hn
    · exact s.new q u m
  · rw [List.map_cons]
    refine List.nodup_cons.mpr ⟨fun m => ?_, s.nd⟩
    obtain ⟨⟨q, u⟩, m1, m2⟩ := List.mem_map.mp m
    exact ne q u m1 m2
end

/-! ### statements -/
section
variable {K : PySem.W.Frag} {E : En} {H0 H H2 : Hp} {σ : L2.St} {ρ ρ' : List Sl} {O O1 O2 : List (Addr × Ow)} {v : V} {x y : PyData} {i j : Nat} {te ta tk tv : TE} {D : Ends} {tu tw tz : TS} {tt : TT} {xs ys ds : List PyData} {p : Addr}
theorem d_asg (s : Sg K E σ H ρ O) (h : Ev K ρ O te x) (k : ∀ σ' H', Ex H H' → Sg K E σ' H' (ρ.set i (.d x)) O → D.nx σ' H') (hi : i < ρ.length := by exact Nat.le_of_ble_eq_true rfl) : tAsg te (gName i) D σ H := by
  obtain ⟨H0, s⟩ := s
  refine h H0 σ H s.s _ fun v H1 e r => ?_
  have s' := s.step e
  exact k _ H1 e ⟨_, s'.to (s'.s.store hi r)⟩
theorem q_asg (s : Sg K E σ H ρ O) (h : Ev K ρ O te x) (k : ∀ σ' H', Ex H H' → Sg K E σ' H' (ρ.set i (.d x)) O → tz D σ' H') (hi : i < ρ.length := by exact Nat.le_of_ble_eq_true rfl) : tSeq (tAsg te (gName i)) tz D σ H := d_asg (D := { D with nx := tz D }) s h k hi
/-- a new list, one's own -/
theorem q_asgO (s : Sg K E σ H ρ O) (h : EvL K ρ O te xs) (k : ∀ σ' H' p, Ex H H' → Sg K E σ' H' (ρ.set i (.o p)) ((p, .lst xs) :: O) → tz D σ' H') (hi : i < ρ.length := by exact Nat.le_of_ble_eq_true rfl) : tSeq (tAsg te (gName i)) tz D σ H := by
  obtain ⟨H0, s⟩ := s
  refine h H0 σ H s.s _ fun p ws H1 hp e hw r => ?_
  have s' := s.own (w := .lst xs) e hp ⟨del_at, ws, hw, r⟩
  exact k _ H1 p e ⟨_, s'.to (s'.s.storeA hi)⟩
theorem q_dnew (s : Sg K E σ H ρ O) (k : ∀ σ' H' p, Ex H H' → Sg K E σ' H' (ρ.set i (.o p)) ((p, .dct []) :: O) → tz D σ' H') (hi : i < ρ.length := by exact Nat.le_of_ble_eq_true rfl) : tSeq (tAsg tDNewK (gName i)) tz D σ H := by
  obtain ⟨H0, s⟩ := s
  show ∀ p, H p = none → _
  intro p hp
  have e : Ex H (upd H p (.dK [])) := Ex.new hp
  have s' := s.own (w := .dct []) e hp ⟨del_at, upd_same⟩
  exact k _ _ p e ⟨_, s'.to (s'.s.storeA hi)⟩
theorem d_ret (s : Sg K E σ H ρ O) (h : Ev K ρ O te x) (k : ∀ v H2, Ex E.hin H2 → Rv K (fr E.h0 E.hin H2) v x → D.rt v H2) : tRet te D σ H := by
  obtain ⟨H0, s⟩ := s
  exact h H0 σ H s.s _ fun v H1 e r => k v H1 (s.ent.trans e) (r.up (fr_in s.sub s.ent e))
theorem d_retL (s : Sg K E σ H ρ O) (h : EvL K ρ O te xs) (k : ∀ p ws H2, E.hin p = none → Ex E.hin H2 → H2 p = some (.lst ws) → RvA K (del p (fr E.h0 E.hin H2)) ws xs → D.rt (.ref p) H2) : tRet te D σ H := by
  obtain ⟨H0, s⟩ := s
  exact h H0 σ H s.s _ fun p ws H1 hp e hw r => k p ws H1 (ex_none s.ent hp) (s.ent.trans e) hw (r.up (del_mono (fr_in s.sub s.ent e)))
/-- a list of one's own handed back -/
theorem d_retO (s : Sg K E σ H ρ (O1 ++ (p, .lst xs) :: O2)) (hi : ρ[i]? = some (.o p)) (k : ∀ ws, E.hin p = none → Ex E.hin H → H p = some (.lst ws) → RvA K (del p (fr E.h0 E.hin H)) ws xs → D.rt (.ref p) H) : tRet (tVar i) D σ H := by
  obtain ⟨H0, s⟩ := s
  obtain ⟨h0, vs, h1, h2⟩ := s.s.own p (.lst xs) (by simp)
  exact ⟨_, s.s.adr i p hi, k vs (s.new p (.lst xs) (by simp)) s.ent h1 (h2.up (ex_del s.sub h0))⟩
theorem d_if {b : Bool} (s : Sg K E σ H ρ O) (h : EvT K ρ O tt b) (h1 : b = true → ∀ H', Ex H H' → Sg K E σ H' ρ O → tu D σ H') (h2 : b = false → ∀ H', Ex H H' → Sg K E σ H' ρ O → tw D σ H') : tIfS tt tu tw D σ H := by
  obtain ⟨H0, s⟩ := s
  refine h H0 σ H s.s _ fun H1 e => ?_
  cases b with
  | true => exact h1 rfl H1 e ⟨_, s.keep e⟩
  | false => exact h2 rfl H1 e ⟨_, s.keep e⟩
theorem q_if {b : Bool} (s : Sg K E σ H ρ O) (h : EvT K ρ O tt b) (h1 : b = true → ∀ H', Ex H H' → Sg K E σ H' ρ O → tu { D with nx := tz D } σ H') (h2 : b = false → ∀ H', Ex H H' → Sg K E σ H' ρ O → tw { D with nx := tz D } σ H') : tSeq (tIfS tt tu tw) tz D σ H := d_if (D := { D with nx := tz D }) s h h1 h2
/-- without an else -/
theorem q_when {b : Bool} (s : Sg K E σ H ρ O) (h : EvT K ρ O tt b) (h1 : b = true → ∀ H', Ex H H' → Sg K E σ H' ρ O → tu { D with nx := tz D } σ H') (h2 : b = false → ∀ H', Ex H H' → Sg K E σ H' ρ O → tz D σ H') : tSeq (tIfS tt tu tNext) tz D σ H := d_if (D := { D with nx := tz D }) s h h1 h2
theorem d_when {b : Bool} (s : Sg K E σ H ρ O) (h : EvT K ρ O tt b) (h1 : b = true → ∀ H', Ex H H' → Sg K E σ H' ρ O → tu D σ H') (h2 : b = false → ∀ H', Ex H H' → Sg K E σ H' ρ O → D.nx σ H') : tIfS tt tu tNext D σ H := d_if s h h1 h2
theorem d_app (s : Sg K E σ H ρ (O1 ++ (p, .lst xs) :: O2)) (hi : ρ[j]? = some (.o p)) (h : Ev K ρ (O1 ++ (p, .lst xs) :: O2) te x) (hz : xs.length < 100000) (k : ∀ H', Sg K E σ H' ρ (O1 ++ (p, .lst (xs ++ [x])) :: O2) → D.nx σ H') :
    tDrop (tBM K "list" rAppend (tVar j) (tCons te tNil)) D σ H := by
  obtain ⟨H0, s⟩ := s
  obtain ⟨h0, vs, h1, h2⟩ := s.s.own p (.lst xs) (by simp)
  refine ⟨_, s.s.adr j p hi, .inl ⟨rfl, vs, SqL.of h1⟩, h H0 σ H s.s _ fun v H1 e r => ?_⟩
  refine ⟨p, vs, v, rfl, rfl, e p _ h1, Evl.sz_lt (by rw [h2.length]; exact hz), k _ ⟨_, (s.step e).write ⟨?_, _, upd_same, ?_⟩⟩⟩
  · rw [fr_some h1]; exact h0
  · exact (h2.up (ex_fr s.s.base)).append (.one r)
theorem q_app (s : Sg K E σ H ρ (O1 ++ (p, .lst xs) :: O2)) (hi : ρ[j]? = some (.o p)) (h : Ev K ρ (O1 ++ (p, .lst xs) :: O2) te x) (hz : xs.length < 100000) (k : ∀ H', Sg K E σ H' ρ (O1 ++ (p, .lst (xs ++ [x])) :: O2) → tz D σ H') :
    tSeq (tDrop (tBM K "list" rAppend (tVar j) (tCons te tNil))) tz D σ H := d_app (D := { D with nx := tz D }) s hi h hz k
theorem d_drop (s : Sg K E σ H ρ O) (h : Ev K ρ O te x) (k : ∀ H', Ex H H' → Sg K E σ H' ρ O → D.nx σ H') : tDrop te D σ H := by
  obtain ⟨H0, s⟩ := s
  exact h H0 σ H s.s _ fun v H1 e r => k H1 e ⟨_, s.keep e⟩
theorem q_drop (s : Sg K E σ H ρ O) (h : Ev K ρ O te x) (k : ∀ H', Ex H H' → Sg K E σ H' ρ O → tz D σ H') : tSeq (tDrop te) tz D σ H := d_drop (D := { D with nx := tz D }) s h k
theorem d_aug {f : Int → Int → Int} {a b : Int} (s : Sg K E σ H ρ O) (hx : ρ[i]? = some (.d (.int a))) (h : Ev K ρ O te (.int b)) (k : ∀ σ' H', Ex H H' → Sg K E σ' H' (ρ.set i (.d (.int (f a b)))) O → D.nx σ' H') : tAug i te (ipI f) D σ H := by
  obtain ⟨H0, s⟩ := s
  obtain ⟨v, h1, h2⟩ := s.s.env i _ hx
  refine ⟨v, h1, h H0 σ H s.s _ fun u H1 e r => ⟨a, b, h2.isInt, r.isInt, ?_⟩⟩
  have s' := s.step e
  exact k _ H1 e ⟨_, s'.to (s'.s.store (List.getElem?_eq_some_iff.mp hx).1 (.int _))⟩
theorem q_aug {f : Int → Int → Int} {a b : Int} (s : Sg K E σ H ρ O) (hx : ρ[i]? = some (.d (.int a))) (h : Ev K ρ O te (.int b)) (k : ∀ σ' H', Ex H H' → Sg K E σ' H' (ρ.set i (.d (.int (f a b)))) O → tz D σ' H') : tSeq (tAug i te (ipI f)) tz D σ H := d_aug (D := { D with nx := tz D }) s hx h k

/-! ### dicts of ints -/
def dval (kvs : List (Int × Int)) (k : Int) : Option Int := (kvs.find? fun e => decide (e.1 = k)).map (·.2)
def dput (kvs : List (Int × Int)) (k v : Int) : List (Int × Int) := if (kvs.any fun e => decide (e.1 = k)) = true then kvs.map (fun e => if e.1 = k then (e.1, v) else e) else kvs ++ [(k, v)]
theorem inl_dec (a b : Int) : decide ((Sum.inl a : Key) = Sum.inl b) = decide (a = b) := by
  by_cases e : a = b
  · subst e; simp
  · rw [decide_eq_false e]; exact decide_eq_false fun q => e (Sum.inl.inj q)
theorem encD_val (k : Int) : ∀ kvs : List (Int × Int), valV (encD kvs) (.inl k) = (dval kvs k).map V.int
  | [] => rfl
  | e :: kvs => by
    have ih := encD_val k kvs
    by_cases h : e.1 = k
    · have h1 : (encD (e :: kvs)) = (Sum.inl e.1, V.int e.2) :: encD kvs := rfl
      rw [h1, valV_pos (by show Sum.inl e.1 = Sum.inl k; rw [h])]
      simp [dval, List.find?_cons, h]
    · have h1 : (encD (e :: kvs)) = (Sum.inl e.1, V.int e.2) :: encD kvs := rfl
      rw [h1, valV_neg (by show ¬ Sum.inl e.1 = Sum.inl k; exact fun q => h (Sum.inl.inj q)), ih]
      simp [dval, List.find?_cons, h]
theorem encD_any (k : Int) (kvs : List (Int × Int)) : ((encD kvs).any fun kv => decide (kv.1 = (Sum.inl k : Key))) = kvs.any fun e => decide (e.1 = k) := by
  unfold encD
  rw [List.any_map]
  congr 1
  funext e
  exact inl_dec e.1 k
theorem encD_put (k v : Int) (kvs : List (Int × Int)) : putK (encD kvs) (.inl k) (.int v) = encD (dput kvs k v) := by
  unfold putK dput
  rw [encD_any]
  split
  · unfold encD
    rw [List.map_map, List.map_map]
    congr 1
    funext e
    show (if (Sum.inl e.1 : Key) = Sum.inl k then ((Sum.inl e.1 : Key), V.int v) else (Sum.inl e.1, V.int e.2)) = _
    by_cases h : e.1 = k
    · rw [if_pos (by rw [h])]; simp [h]
    · rw [if_neg fun q => h (Sum.inl.inj q)]; simp [h]
  · unfold encD
    rw [List.map_append]
    rfl
theorem encD_len (kvs : List (Int × Int)) : (encD kvs).length = kvs.length := by unfold encD; rw [List.length_map]
theorem ev_dget2 {kvs : List (Int × Int)} {a d : Int} (hi : ρ[j]? = some (.o p)) (hm : (p, .dct kvs) ∈ O) (hk : Ev K ρ O tk (.int a)) (hd : Ev K ρ O tv (.int d)) : Ev K ρ O (tDGet2 (tVar j) tk tv) (.int ((dval kvs a).getD d)) := fun H0 σ H s Q q => by
  obtain ⟨h0, h1⟩ := s.own p _ hm
  refine ⟨_, s.adr j p hi, p, rfl, .inl ⟨_, .inl h1⟩, hk H0 σ H s _ fun u H1 e1 r1 => hd H0 σ H1 (s.keep e1) _ fun w H2 e2 r2 => ?_⟩
  obtain rfl := r1.isInt
  obtain rfl := r2.isInt
  refine ⟨_, DGet.k (k := Sum.inl a) (e2 p _ (e1 p _ h1)), ?_⟩
  have e : ((valV (encD kvs) (.inl a)).getD (V.int d)) = V.int ((dval kvs a).getD d) := by
    rw [encD_val]
    cases dval kvs a <;> rfl
  rw [e]
  exact q _ H2 (e1.trans e2) (.int _)
theorem ev_dget {kvs : List (Int × Int)} {a z : Int} (hi : ρ[j]? = some (.o p)) (hm : (p, .dct kvs) ∈ O) (hk : Ev K ρ O tk (.int a)) (hv : dval kvs a = some z) : Ev K ρ O (tDGet (tVar j) tk) (.int z) := fun H0 σ H s Q q => by
  obtain ⟨h0, h1⟩ := s.own p _ hm
  refine ⟨_, s.adr j p hi, hk H0 σ H s _ fun u H1 e1 r1 => ?_⟩
  obtain rfl := r1.isInt
  refine ⟨p, V.int z, rfl, ?_, q _ H1 e1 (.int _)⟩
  have g := DGet.k (k := Sum.inl a) (e1 p _ h1)
  rw [encD_val, hv] at g
  exact g
theorem d_dput {kvs : List (Int × Int)} {a b : Int} (s : Sg K E σ H ρ (O1 ++ (p, .dct kvs) :: O2)) (hi : ρ[j]? = some (.o p)) (hk : Ev K ρ (O1 ++ (p, .dct kvs) :: O2) tk (.int a)) (hv : Ev K ρ (O1 ++ (p, .dct kvs) :: O2) tv (.int b)) (hz : kvs.length < 100000)
    (k : ∀ H', Sg K E σ H' ρ (O1 ++ (p, .dct (dput kvs a b)) :: O2) → D.nx σ H') : sDPut (tVar j) tk tv D σ H := by
  obtain ⟨H0, s⟩ := s
  obtain ⟨h0, h1⟩ := s.s.own p (.dct kvs) (by simp)
  refine hv H0 σ H s.s _ fun u H1 e1 r1 => ⟨_, s.s.adr j p hi, hk H0 σ H1 (s.s.keep e1) _ fun w H2 e2 r2 => ?_⟩
  obtain rfl := r1.isInt
  obtain rfl := r2.isInt
  refine ⟨p, _, rfl, DPut.k (k := Sum.inl a) (e2 p _ (e1 p _ h1)) (Evl.sz_lt (by rw [encD_len]; exact hz)), ?_⟩
  rw [encD_put]
  refine k _ ⟨_, (s.keep (e1.trans e2)).write ⟨h0, upd_same⟩⟩
theorem q_dput {kvs : List (Int × Int)} {a b : Int} (s : Sg K E σ H ρ (O1 ++ (p, .dct kvs) :: O2)) (hi : ρ[j]? = some (.o p)) (hk : Ev K ρ (O1 ++ (p, .dct kvs) :: O2) tk (.int a)) (hv : Ev K ρ (O1 ++ (p, .dct kvs) :: O2) tv (.int b)) (hz : kvs.length < 100000)
    (k : ∀ H', Sg K E σ H' ρ (O1 ++ (p, .dct (dput kvs a b)) :: O2) → tz D σ H') : tSeq (sDPut (tVar j) tk tv) tz D σ H := d_dput (D := { D with nx := tz D }) s hi hk hv hz k
end

/-! ### targets -/
def Tg (K : PySem.W.Frag) (g : TG) (ts : List Nat) (x : PyData) (ρ ρ' : List Sl) : Prop :=
  ∀ H0 σ H O v, S1 K H0 σ H ρ O → Rv K H0 v x → ∀ Q : L2.St → Hp → Prop, (∀ σ', S1 K H0 σ' H ρ' O → σ'.length = σ.length → (∀ i, i ∉ ts → σ'[i]? = σ[i]?) → Q σ' H) → g v σ H Q
section
variable {K : PySem.W.Frag} {ρ ρ1 ρ2 : List Sl} {x a b c : PyData} {g1 g2 g3 : TG} {t1 t2 t3 : List Nat}
theorem tg_name {i : Nat} (hi : i < ρ.length := by exact Nat.le_of_ble_eq_true rfl) : Tg K (gName i) [i] x ρ (ρ.set i (.d x)) := fun H0 σ H O v s r Q q =>
  q _ (s.store hi r) (List.length_set ..) fun j hj => List.getElem?_set_ne (fun e => hj (by simp [e]))
theorem tg_tup2 (h1 : Tg K g1 t1 a ρ ρ1) (h2 : Tg K g2 t2 b ρ1 ρ2) : Tg K (gTup K 2 (gCons g1 (gCons g2 gNil))) (t1 ++ t2) (.tuple [a, b]) ρ ρ2 := fun H0 σ H O v s r Q q => by
  obtain ⟨p, ws, rfl, hs, hr⟩ := r.isTuple
  cases hr with
  | cons r1 hr =>
    cases hr with
    | cons r2 hr =>
      cases hr
      refine ⟨p, _, rfl, Evl.ex_t s.base hs, rfl, _, _, rfl, h1 H0 σ H O _ s r1 _ fun σ1 s1 l1 k1 => ⟨_, _, rfl, h2 H0 σ1 H O _ s1 r2 _ fun σ2 s2 l2 k2 => ⟨rfl, q σ2 s2 (l2.trans l1) fun i hi => ?_⟩⟩⟩
      rw [List.mem_append, not_or] at hi
      exact (k2 i hi.2).trans (k1 i hi.1)
end

/-! ### what is walked -/
structure Src (K : PySem.W.Frag) (ρ : List Sl) (O : List (Addr × Ow)) (wi : TI) (ds : List PyData) : Prop where
  run : ∀ H0 σ H, S1 K H0 σ H ρ O → ∀ R : It → Hp → Prop,
    (∀ J H1, Ex H H1 → Walk J ds.length (fun H' => Ex (fr H0 H H1) H') (fun i H' v H'' => Ex H' H'' ∧ ∃ x, ds[i]? = some x ∧ Rv K (fr (fr H0 H H1) H' H'') v x) → R J H1) → wi σ H R
section
variable {K : PySem.W.Frag} {ρ : List Sl} {O : List (Addr × Ow)} {te : TE} {ta : TA} {ds : List PyData}
theorem src_list (h : Ev K ρ O te (.list ds)) : Src K ρ O (iList K te) ds := ⟨fun H0 σ H s R q => h H0 σ H s _ fun v H1 e r => by
  obtain ⟨a, ws, rfl, hs, hr⟩ := r.isList
  refine ⟨a, rfl, ⟨ws, Evl.ex_l (fr_ex s.base e) hs⟩, q _ H1 e ?_⟩
  have hl := hr.length
  rw [← hl]
  refine (walk_list (K := K) (a := a) (xs := ws)).mono (fun H' e' => Evl.ex_l e' hs) fun i H' v H'' hi e' y => ?_
  obtain ⟨rfl, hv⟩ := y
  obtain ⟨x, h1, h2⟩ := hr.got hv
  exact ⟨Ex.refl _, x, h1, h2.up (ex_fr e')⟩⟩
theorem src_tup (h : Ev K ρ O te (.tuple ds)) : Src K ρ O (iTup K te) ds := ⟨fun H0 σ H s R q => h H0 σ H s _ fun v H1 e r => by
  obtain ⟨a, ws, rfl, hs, hr⟩ := r.isTuple
  refine ⟨a, rfl, ⟨ws, Evl.ex_t (fr_ex s.base e) hs⟩, q _ H1 e ?_⟩
  have hl := hr.length
  rw [← hl]
  refine (walk_tup (K := K) (a := a) (xs := ws)).mono (fun H' e' => Evl.ex_t e' hs) fun i H' v H'' hi e' y => ?_
  obtain ⟨rfl, hv⟩ := y
  obtain ⟨x, h1, h2⟩ := hr.got hv
  exact ⟨Ex.refl _, x, h1, h2.up (ex_fr e')⟩⟩
theorem src_enum {xs : List PyData} (h : EvA K ρ O ta [.list xs]) : Src K ρ O (iEnum K ta) (xs.zipIdx.map fun p => .tuple [.int (p.2 : Nat), p.1]) := ⟨fun H0 σ H s R q => h H0 σ H s _ fun vs H1 e r => by
  cases r with
  | cons r r0 =>
    cases r0
    obtain ⟨a, ws, rfl, hs, hr⟩ := r.isList
    refine ⟨a, ws, rfl, Evl.ex_l (fr_ex s.base e) hs, q _ H1 e ?_⟩
    have hl := hr.length
    rw [List.length_map, List.length_zipIdx, ← hl]
    refine (walk_enum (K := K) (a := a) (xs := ws)).mono (fun H' e' => Evl.ex_l e' hs) fun i H' v H'' hi e' y => ?_
    obtain ⟨T, x, z, rfl, hT, rfl, hx, hz⟩ := y
    have hx : some (V.int (i : Nat)) = some x := hx
    cases hx
    obtain ⟨d, h1, h2⟩ := hr.got hz
    have n : Ex H' (upd H' T (.tup [V.int (i : Nat), z])) := Ex.new hT
    refine ⟨n, .tuple [.int (i : Nat), d], ?_, .tup (.inl (.inl ?_)) (.cons (.int _) (.one (h2.up (ex_fr e'))))⟩
    · rw [List.getElem?_map, List.getElem?_zipIdx, h1]
      simp
    · rw [fr_none hT]; exact upd_same⟩
theorem src_rng1 {n : Int} (h : EvA K ρ O ta [.int n]) (hb : n < 2 ^ 62 := by omega) (hb2 : -(2 ^ 62) ≤ n := by omega) : Src K ρ O (iRng1 ta) ((List.range n.toNat).map fun i => .int (i : Nat)) := ⟨fun H0 σ H s R q => h H0 σ H s _ fun vs H1 e r => by
  cases r with
  | cons r r0 =>
    cases r0
    obtain rfl := r.isInt
    refine ⟨n, rfl, hb2, hb, q _ H1 e ?_⟩
    rw [List.length_map, List.length_range]
    refine (walk_range (lo := 0) (n := n.toNat)).mono (fun _ _ => trivial) fun i H' v H'' hi e' y => ?_
    obtain ⟨rfl, rfl⟩ := y
    have hi : i < n.toNat := hi
    refine ⟨Ex.refl _, .int (i : Nat), ?_, ?_⟩
    · rw [List.getElem?_map, List.getElem?_range hi]; rfl
    · have z : (0 : Int) + (i : Nat) = (i : Nat) := Int.zero_add _
      show Rv K _ (V.int (0 + (i : Nat))) _
      rw [z]; exact .int _⟩
theorem src_rng2 {m n : Int} (h : EvA K ρ O ta [.int m, .int n]) (hb : -(2 ^ 62) ≤ m ∧ m < 2 ^ 62 ∧ -(2 ^ 62) ≤ n ∧ n < 2 ^ 62 := by omega) : Src K ρ O (iRng2 ta) ((List.range (n - m).toNat).map fun i => .int (m + (i : Nat))) := ⟨fun H0 σ H s R q => h H0 σ H s _ fun vs H1 e r => by
  cases r with
  | cons r r0 =>
    cases r0 with
    | cons r2 r0 =>
      cases r0
      obtain rfl := r.isInt
      obtain rfl := r2.isInt
      refine ⟨m, n, rfl, hb, q _ H1 e ?_⟩
      rw [List.length_map, List.length_range]
      refine (walk_range (lo := m) (n := (n - m).toNat)).mono (fun _ _ => trivial) fun i H' v H'' hi e' y => ?_
      obtain ⟨rfl, rfl⟩ := y
      have hi : i < (n - m).toNat := hi
      exact ⟨Ex.refl _, .int (m + (i : Nat)), by rw [List.getElem?_map, List.getElem?_range hi]; rfl, .int _⟩⟩
theorem src_rng3 {m n c : Int} {k : Nat} (h : EvA K ρ O ta [.int m, .int n, .int c]) (hb : RgC m n c k) : Src K ρ O (iRng3 ta) ((List.range k).map fun i => .int (m + (i : Nat) * c)) := ⟨fun H0 σ H s R q => h H0 σ H s _ fun vs H1 e r => by
  cases r with
  | cons r r0 =>
    cases r0 with
    | cons r2 r0 =>
      cases r0 with
      | cons r3 r0 =>
        cases r0
        obtain rfl := r.isInt
        obtain rfl := r2.isInt
        obtain rfl := r3.isInt
        refine ⟨m, n, c, k, rfl, hb, q _ H1 e ?_⟩
        rw [List.length_map, List.length_range]
        refine (walk_rangeC (lo := m) (c := c) (n := k)).mono (fun _ _ => trivial) fun i H' v H'' hi e' y => ?_
        obtain ⟨rfl, rfl⟩ := y
        have hi : i < k := hi
        exact ⟨Ex.refl _, .int (m + (i : Nat) * c), by rw [List.getElem?_map, List.getElem?_range hi]; rfl, .int _⟩⟩
end

/-! ### for, while -/
section
variable {K : PySem.W.Frag} {E : En} {H : Hp} {σ : L2.St} {ρ : List Sl} {O : List (Addr × Ow)} {D : Ends} {tb tz : TS} {g : TG} {wi : TI} {tt : TT} {ds : List PyData} {ts : List Nat}
/-- l: what is walked, e: each as data; z: what is carried; ρz, Oz: the slots and one's own things by it; ok: what holds of it ahead of turn i -/
theorem d_for {α Z : Type} (l : List α) (e : α → PyData) (ok : Nat → Z → Prop) (ρz : Z → List Sl) (Oz : Z → List (Addr × Ow)) (ρt : α → Z → List Sl) (z0 : Z) (src : Src K (ρz z0) (Oz z0) wi (l.map e)) (s : Sg K E σ H (ρz z0) (Oz z0)) (h0 : ok 0 z0)
    (tg : ∀ i a z, l[i]? = some a → ok i z → ∃ ts, Tg K g ts (e a) (ρz z) (ρt a z))
    (hs : ∀ B i a z σ' H', l[i]? = some a → ok i z → Sg K { E with low := B } σ' H' (ρt a z) (Oz z) →
      tb { D with nx := fun σ3 H3 => ∃ z', ok (i + 1) z' ∧ Sg K { E with low := B } σ3 H3 (ρz z') (Oz z'), ct := fun σ3 H3 => ∃ z', ok (i + 1) z' ∧ Sg K { E with low := B } σ3 H3 (ρz z') (Oz z'), bk := D.nx } σ' H')
    (hd : ∀ z σ' H', ok l.length z → Sg K E σ' H' (ρz z) (Oz z) → D.nx σ' H') : tFor wi g tb D σ H := by
  obtain ⟨H0, s⟩ := s
  refine src.run H0 σ H s.s _ fun J H1 e1 w => ?_
  have ll : (l.map e).length = l.length := List.length_map ..
  rw [ll] at w
  have s1 := s.step e1
  have eB : Ex E.low (fr H0 H H1) := s1.low
  refine for_it w (fun i σ' H' => ∃ z, ok i z ∧ Sg K { E with low := fr H0 H H1 } σ' H' (ρz z) (Oz z)) ⟨z0, h0, _, ⟨s1.s, s1.ent, s1.sub, Ex.refl _, s1.new, s1.nd⟩⟩ (fun i σ' H' _ p => ?_) (fun i v σ' H' H'' hi p y => ?_) (fun σ' H' p => ?_)
  · obtain ⟨z, _, H0', s'⟩ := p
    exact s'.low.trans s'.s.base
  · obtain ⟨z, hz, H0', s'⟩ := p
    obtain ⟨e', x, hx, r⟩ := y
    obtain ⟨a, ha, rfl⟩ : ∃ a, l[i]? = some a ∧ e a = x := by
      rw [List.getElem?_map] at hx
      cases ea : l[i]? with
      | none => rw [ea] at hx; cases hx
      | some a => rw [ea] at hx; exact ⟨a, rfl, by simpa using hx⟩
    have s2 := s'.step e'
    obtain ⟨ts, tg'⟩ := tg i a z ha hz
    refine tg' _ σ' H'' _ v s2.s (r.up (fr_base s'.low)) _ fun σ2 s3 _ _ => ?_
    exact hs _ i a z σ2 H'' ha hz ⟨_, s2.to s3⟩
  · obtain ⟨z, hz, s'⟩ := p
    exact hd z σ' H' hz (s'.floor eB)
theorem q_for {α Z : Type} (l : List α) (e : α → PyData) (ok : Nat → Z → Prop) (ρz : Z → List Sl) (Oz : Z → List (Addr × Ow)) (ρt : α → Z → List Sl) (z0 : Z) (src : Src K (ρz z0) (Oz z0) wi (l.map e)) (s : Sg K E σ H (ρz z0) (Oz z0)) (h0 : ok 0 z0)
    (tg : ∀ i a z, l[i]? = some a → ok i z → ∃ ts, Tg K g ts (e a) (ρz z) (ρt a z))
    (hs : ∀ B i a z σ' H', l[i]? = some a → ok i z → Sg K { E with low := B } σ' H' (ρt a z) (Oz z) →
      tb { D with nx := fun σ3 H3 => ∃ z', ok (i + 1) z' ∧ Sg K { E with low := B } σ3 H3 (ρz z') (Oz z'), ct := fun σ3 H3 => ∃ z', ok (i + 1) z' ∧ Sg K { E with low := B } σ3 H3 (ρz z') (Oz z'), bk := tz D } σ' H')
    (hd : ∀ z σ' H', ok l.length z → Sg K E σ' H' (ρz z) (Oz z) → tz D σ' H') : tSeq (tFor wi g tb) tz D σ H := d_for (D := { D with nx := tz D }) l e ok ρz Oz ρt z0 src s h0 tg hs hd
theorem d_while {Z : Type} (ok : Z → Prop) (m : Z → Nat) (ρz : Z → List Sl) (Oz : Z → List (Addr × Ow)) (z0 : Z) (s : Sg K E σ H (ρz z0) (Oz z0)) (h0 : ok z0) (c : Z → Bool)
    (hc : ∀ z, ok z → EvT K (ρz z) (Oz z) tt (c z))
    (hs : ∀ z σ' H', ok z → c z = true → Sg K E σ' H' (ρz z) (Oz z) →
      tb { D with nx := fun σ3 H3 => ∃ z', m z' < m z ∧ ok z' ∧ Sg K E σ3 H3 (ρz z') (Oz z'), ct := fun σ3 H3 => ∃ z', m z' < m z ∧ ok z' ∧ Sg K E σ3 H3 (ρz z') (Oz z'), bk := D.nx } σ' H')
    (hd : ∀ z σ' H', ok z → c z = false → Sg K E σ' H' (ρz z) (Oz z) → D.nx σ' H') : tWhile tt tb D σ H := by
  refine ⟨fun n σ' H' => ∃ z, n = m z ∧ ok z ∧ Sg K E σ' H' (ρz z) (Oz z), ⟨m z0, z0, rfl, h0, s⟩, fun n σ' H' w => ?_⟩
  obtain ⟨z, rfl, hz, H0', s'⟩ := w
  refine hc z hz H0' σ' H' s'.s _ fun H1 e => ?_
  cases q : c z with
  | true => exact ⟨_, fun σ2 H2 p => by
      obtain ⟨z', h1, h2, h3⟩ := p
      exact ⟨m z', h1, z', rfl, h2, h3⟩, hs z σ' H1 hz q ⟨_, s'.keep e⟩⟩
  | false => exact hd z σ' H1 hz q ⟨_, s'.keep e⟩
theorem q_while {Z : Type} (ok : Z → Prop) (m : Z → Nat) (ρz : Z → List Sl) (Oz : Z → List (Addr × Ow)) (z0 : Z) (s : Sg K E σ H (ρz z0) (Oz z0)) (h0 : ok z0) (c : Z → Bool)
    (hc : ∀ z, ok z → EvT K (ρz z) (Oz z) tt (c z))
    (hs : ∀ z σ' H', ok z → c z = true → Sg K E σ' H' (ρz z) (Oz z) →
      tb { D with nx := fun σ3 H3 => ∃ z', m z' < m z ∧ ok z' ∧ Sg K E σ3 H3 (ρz z') (Oz z'), ct := fun σ3 H3 => ∃ z', m z' < m z ∧ ok z' ∧ Sg K E σ3 H3 (ρz z') (Oz z'), bk := tz D } σ' H')
    (hd : ∀ z σ' H', ok z → c z = false → Sg K E σ' H' (ρz z) (Oz z) → tz D σ' H') : tSeq (tWhile tt tb) tz D σ H := d_while (D := { D with nx := tz D }) ok m ρz Oz z0 s h0 c hc hs hd
end

/-! ### comprehensions -/
def wipeR (ρ : List Sl) : List Nat → List Sl
  | [] => ρ
  | v :: vs => (wipeR ρ vs).set v .no
section
variable {K : PySem.W.Frag} {ρ : List Sl} {O : List (Addr × Ow)}
theorem wipe_get {σ : L2.St} {i : Nat} : ∀ {vs : List Nat}, (wipe σ vs)[i]? = if i ∈ vs then (if i < σ.length then some none else none) else σ[i]?
  | [] => by simp [wipe]
  | v :: vs => by
    unfold wipe
    by_cases h : v = i
    · subst h
      rw [if_pos (by simp)]
      by_cases hl : v < σ.length
      · rw [if_pos hl]
        exact List.getElem?_set_self (by rw [wipe_length]; exact hl)
      · rw [if_neg hl]
        exact List.getElem?_eq_none (by rw [List.length_set, wipe_length]; omega)
    · rw [List.getElem?_set_ne h, wipe_get]
      have e : (i ∈ v :: vs) = (i ∈ vs) := by simp [Ne.symm h]
      simp only [e]
theorem wipe_eq {σ σ' : L2.St} {vs ts : List Nat} (hl : σ'.length = (wipe σ vs).length) (h : ∀ i, i ∉ ts → σ'[i]? = (wipe σ vs)[i]?) (hs : ∀ i ∈ ts, i ∈ vs) : wipe σ' vs = wipe σ vs := by
  apply List.ext_getElem?
  intro i
  rw [wipe_get, wipe_get]
  by_cases hi : i ∈ vs
  · rw [if_pos hi, if_pos hi, hl, wipe_length]
  · rw [if_neg hi, if_neg hi, h i fun z => hi (hs i z), wipe_get, if_neg hi]
theorem S1.wipe {H0 H : Hp} {σ : L2.St} (s : S1 K H0 σ H ρ O) : ∀ vs : List Nat, S1 K H0 (wipe σ vs) H (wipeR ρ vs) O
  | [] => s
  | v :: vs => by
    have ih := S1.wipe s vs
    refine ⟨s.base, by rw [L2.wipe, wipeR, List.length_set, List.length_set]; exact ih.len, fun j z h => ?_, fun j p h => ?_, s.own⟩
    · unfold wipeR at h
      unfold L2.wipe
      by_cases e : v = j
      · subst e
        by_cases hl : v < (wipeR ρ vs).length
        · rw [List.getElem?_set_self hl] at h; cases h
        · rw [List.getElem?_eq_none (by rw [List.length_set]; omega)] at h; cases h
      · rw [List.getElem?_set_ne e] at h
        rw [List.getElem?_set_ne e]
        exact ih.env j z h
    · unfold wipeR at h
      unfold L2.wipe
      by_cases e : v = j
      · subst e
        by_cases hl : v < (wipeR ρ vs).length
        · rw [List.getElem?_set_self hl] at h; cases h
        · rw [List.getElem?_eq_none (by rw [List.length_set]; omega)] at h; cases h
      · rw [List.getElem?_set_ne e] at h
        rw [List.getElem?_set_ne e]
        exact ih.adr j p h
theorem map_filter_take {α β : Type} {l : List α} {c : α → Bool} {f : α → β} {i : Nat} {a : α} (h : l[i]? = some a) : ((l.take (i + 1)).filter c).map f = ((l.take i).filter c).map f ++ (if c a = true then [f a] else []) := by
  have e : l.take (i + 1) = l.take i ++ [a] := by
    rw [List.take_succ, h]; rfl
  rw [e, List.filter_append, List.map_append]
  congr 1
  rw [List.filter_cons]
  split <;> rfl
/-- [elt for target in .. if ..]; l: what is walked, e: each as data, c: which are kept, f: what each gives -/
theorem el_lc {α : Type} {wi : TI} {g : TG} {tt : TT} {te : TE} {vs : List Nat} (l : List α) (e : α → PyData) (c : α → Bool) (f : α → PyData) (ρt : α → List Sl) (src : Src K ρ O wi (l.map e)) (hl : l.length ≤ 100000)
    (tg : ∀ a ∈ l, ∃ ts, Tg K g ts (e a) (wipeR ρ vs) (ρt a) ∧ ∀ i ∈ ts, i ∈ vs) (ht : ∀ a ∈ l, EvT K (ρt a) O tt (c a)) (he : ∀ a ∈ l, c a = true → Ev K (ρt a) O te (f a)) : EvL K ρ O (tLc wi g tt te vs) ((l.filter c).map f) := by
  intro H0 σ H s Q q
  refine src.run H0 σ H s _ fun J H1 e1 w Dl hD => ?_
  have hD0 : H Dl = none := ex_none e1 hD
  have hD00 : H0 Dl = none := ex_none s.base hD0
  have fD : fr H0 H H1 Dl = none := by rw [fr_none hD0]; exact hD
  have ll : (l.map e).length = l.length := List.length_map ..
  refine lc_it w (fun i H' => Ex H1 H' ∧ ∃ ws, H' Dl = some (.lst ws) ∧ RvA K (del Dl (fr H0 H H')) ws (((l.take i).filter c).map f)) ⟨Ex.new hD, [], upd_same, ?_⟩ (fun i H' _ p => (fr_ex s.base e1).trans p.1) (fun i v H' H'' hi p y => ?_) (fun H' p => ?_)
  · simpa using RvA.nil
  · obtain ⟨p1, ws, p2, p3⟩ := p
    obtain ⟨e2, x, hx, r⟩ := y
    obtain ⟨a, ha, rfl⟩ : ∃ a, l[i]? = some a ∧ e a = x := by
      rw [List.getElem?_map] at hx
      cases ea : l[i]? with
      | none => rw [ea] at hx; cases hx
      | some a => rw [ea] at hx; exact ⟨a, rfl, by simpa using hx⟩
    have hm : a ∈ l := List.mem_of_getElem? ha
    have s1 := (s.step e1).keep p1
    have s2 := (s1.wipe vs).step e2
    have b1 : Ex (fr H0 H H1) H1 := fr_ex s.base e1
    have nD : ∀ {H5 : Hp} {o : HO}, del Dl (fr H0 H (upd H5 Dl o)) = del Dl (fr H0 H H5) := fun {H5 o} => by
      funext b
      by_cases z : b = Dl
      · subst z; rw [del_at, del_at]
      · rw [del_ne z, del_ne z]
        unfold fr
        split
        · rfl
        · exact upd_ne z
    obtain ⟨ts, tg', hts⟩ := tg a hm
    refine tg' _ _ H'' O v s2 r _ fun σ2 s3 l3 k3 => ⟨wipe_eq l3 k3 hts, ?_⟩
    refine ht a hm _ σ2 H'' s3 _ fun H3 e3 => ?_
    cases hc : c a with
    | false =>
      refine ⟨(p1.trans e2).trans e3, ws, e3 _ _ (e2 _ _ p2), ?_⟩
      rw [map_filter_take ha, hc]
      simp only [Bool.false_eq_true, if_false, List.append_nil]
      exact p3.up (del_mono (fr_out (e2.trans e3)))
    | true =>
      refine he a hm hc _ σ2 H3 (s3.keep e3) _ fun y H4 e4 ry => ?_
      have p2' := e4 _ _ (e3 _ _ (e2 _ _ p2))
      have hlen : ws.length < sizeLine := by
        have h1 := p3.length
        rw [h1, List.length_map]
        have h2 := List.length_filter_le c (l.take i)
        have h3 : (l.take i).length ≤ l.length := by rw [List.length_take]; omega
        exact Evl.sz_lt (by
          have h4 : i < l.length := by rw [ll] at hi; exact hi
          have h5 : (l.take i).length = i := by rw [List.length_take]; omega
          omega)
      refine ⟨ws, p2', hlen, Ex.mut (((p1.trans e2).trans e3).trans e4) hD, _, upd_same, ?_⟩
      rw [map_filter_take ha, hc, nD]
      simp only [if_true]
      have e24 := (e2.trans e3).trans e4
      have g1 : Ex (fr (fr (fr H0 H H1) H' H'') H3 H4) (fr (fr H0 H H1) H' H4) :=
        (fr_chain (fr_ex (b1.trans p1) e2) e3).trans (ex_frfr (b1.trans p1) e2 (e3.trans e4))
      have g2 : Ex (fr (fr H0 H H1) H' H4) (fr H0 H H4) := (fr_chain b1 p1).trans (ex_frfr s.base e1 (p1.trans e24))
      have g3 : fr (fr H0 H H1) H' H4 Dl = none := by rw [fr_some p2]; exact fD
      exact RvA.append (p3.up (del_mono (fr_out e24))) (.one (ry.up (g1.trans (ex_del g2 g3))))
  · obtain ⟨p1, ws, p2, p3⟩ := p
    rw [ll, List.take_length] at p3
    exact q Dl ws H' hD0 (e1.trans p1) p2 p3
/-- without a test -/
theorem el_lc0 {α : Type} {wi : TI} {g : TG} {te : TE} {vs : List Nat} (l : List α) (e : α → PyData) (f : α → PyData) (ρt : α → List Sl) (src : Src K ρ O wi (l.map e)) (hl : l.length ≤ 100000)
    (tg : ∀ a ∈ l, ∃ ts, Tg K g ts (e a) (wipeR ρ vs) (ρt a) ∧ ∀ i ∈ ts, i ∈ vs) (he : ∀ a ∈ l, Ev K (ρt a) O te (f a)) : EvL K ρ O (tLc wi g tYes te vs) (l.map f) :=
  el_is (el_lc l e (fun _ => true) f ρt src hl tg (fun _ _ => et_yes) (fun a h _ => he a h)) (by rw [List.filter_eq_self.mpr (fun _ _ => rfl)])
end

/-! ### promises -/
/-- the def, called with the data ds, hands back what stands for y (S ds y) -/
def SpR (K : PySem.W.Frag) (S : List PyData → PyData → Prop) : Sp := fun vs H Q _ => ∃ G ds y, Ex G H ∧ RvA K G vs ds ∧ S ds y ∧ ∀ v H2, Ex H H2 → Rv K (fr G H H2) v y → Q v H2
/-- .. a new list -/
def SpL (K : PySem.W.Frag) (S : List PyData → List PyData → Prop) : Sp := fun vs H Q _ => ∃ G ds ys, Ex G H ∧ RvA K G vs ds ∧ S ds ys ∧ ∀ p ws H2, H p = none → Ex H H2 → H2 p = some (.lst ws) → RvA K (del p (fr G H H2)) ws ys → Q (.ref p) H2
section
variable {K : PySem.W.Frag} {ρ : List Sl} {O : List (Addr × Ow)} {ta : TA} {ds ys : List PyData} {y : PyData} {S : List PyData → PyData → Prop} {SL : List PyData → List PyData → Prop} {X : XK}
theorem ev_call (h : EvA K ρ O ta ds) (hs : S ds y) : Ev K ρ O (tCall (SpR K S) [] X ta) y := fun H0 σ H s Q q =>
  h H0 σ H s _ fun vs H1 e r => ⟨fr H0 H H1, ds, y, fr_ex s.base e, by rw [List.append_nil]; exact r, hs, fun v H2 e2 r2 => q v H2 (e.trans e2) (r2.up (ex_frfr s.base e e2))⟩
theorem el_call (h : EvA K ρ O ta ds) (hs : SL ds ys) : EvL K ρ O (tCall (SpL K SL) [] X ta) ys := fun H0 σ H s Q q =>
  h H0 σ H s _ fun vs H1 e r => ⟨fr H0 H H1, ds, ys, fr_ex s.base e, by rw [List.append_nil]; exact r, hs, fun p ws H2 hp e2 hw r2 => q p ws H2 (ex_none e hp) (e.trans e2) hw (r2.up (del_mono (ex_frfr s.base e e2)))⟩
end
section
variable {P : Program} {w : World} {K : PySem.W.Frag} {mg : Str → Option Value} {base : Heap} {x qual : Str} {st : Stmt} {f : Addr} {fd : FuncData} {N ps : List Str} {k : Nat}
theorem start_s2 {G H : Hp} {vs : List V} {ds : List PyData} (e : Ex G H) (r : RvA K G vs ds) (hn : ds.length ≤ N.length) : Sg K ⟨G, H, G⟩ (L2.start N vs) H (ds.map Sl.d ++ List.replicate (N.length - ds.length) .no) [] := by
  have hl := r.length
  refine ⟨G, ⟨⟨e, ?_, fun i x h => ?_, fun i p h => ?_, fun p w m => (nomatch m)⟩, Ex.refl H, ex_fr e, Ex.refl G, fun p w m => (nomatch m), List.nodup_nil⟩⟩
  · unfold L2.start
    simp only [List.length_append, List.length_map, List.length_replicate]
    omega
  · by_cases hi : i < ds.length
    · rw [List.getElem?_append_left (by rw [List.length_map]; exact hi), List.getElem?_map] at h
      cases q : ds[i]? with
      | none => rw [q] at h; cases h
      | some d =>
        rw [q] at h
        have h' : Sl.d d = Sl.d x := by simpa using h
        cases h'
        obtain ⟨v, h1, h2⟩ := r.get q
        refine ⟨v, ?_, h2⟩
        unfold L2.start
        rw [List.getElem?_append_left (by rw [List.length_map]; omega), List.getElem?_map, h1]
        rfl
    · rw [List.getElem?_append_right (by rw [List.length_map]; omega), List.getElem?_replicate] at h
      split at h <;> cases h
  · by_cases hi : i < ds.length
    · rw [List.getElem?_append_left (by rw [List.length_map]; exact hi), List.getElem?_map] at h
      cases q : ds[i]? with
      | none => rw [q] at h; cases h
      | some d => rw [q] at h; cases h
    · rw [List.getElem?_append_right (by rw [List.length_map]; omega), List.getElem?_replicate] at h
      split at h <;> cases h
/-- a def whose result stands for a datum -/
theorem okR {S : List PyData → PyData → Prop} (F : Fun K x qual st f fd) (sc : FnScope N ps (defScope st)) (hpn : ps.length ≤ N.length) (len : ∀ ds y, S ds y → ds.length = ps.length)
    (hbody : ∀ (cdv : Value) (A : Around) (outer : List Env) (s : Shared) (H : Hp) (σ : L2.St) (E : En) (ds : List PyData) (y : PyData) (X : XK), Room k (A.deeper (envOfC qual (defScope st) s.heap.objs.size f cdv)) → S ds y →
      Sg K E σ H (ds.map Sl.d ++ List.replicate (N.length - ds.length) .no) [] →
      ∃ t, PSs (cxOf CX0 P w K mg base N qual (defScope st) f cdv A outer s H X).nox (defBody st) t ∧ ∀ Q : VK, (∀ v H2, Ex E.hin H2 → Rv K (fr E.h0 E.hin H2) v y → Q v H2) → t { nx := fun _ H' => Q .non H', rt := Q } σ H) : FnOk P w K mg base CX0 (k + 1) f fd ps (SpR K S) := by
  refine F.ok sc (fun vs H Q E h => ?_) (fun cdv A outer s H vs Q E hr h => ?_)
  · obtain ⟨G, ds, y, e, r, hS, _⟩ := h
    rw [r.length]
    exact len ds y hS
  · obtain ⟨G, ds, y, e, r, hS, q⟩ := h
    have hl := len ds y hS
    obtain ⟨t, h1, h2⟩ := hbody cdv A outer s H (L2.start N vs) ⟨G, H, G⟩ ds y E hr hS (start_s2 e r (by omega))
    exact ⟨t, h1, h2 Q fun v H2 e2 r2 => q v H2 e2 r2⟩
/-- a def whose result is a new list -/
theorem okL {S : List PyData → List PyData → Prop} (F : Fun K x qual st f fd) (sc : FnScope N ps (defScope st)) (hpn : ps.length ≤ N.length) (len : ∀ ds y, S ds y → ds.length = ps.length)
    (hbody : ∀ (cdv : Value) (A : Around) (outer : List Env) (s : Shared) (H : Hp) (σ : L2.St) (E : En) (ds ys : List PyData) (X : XK), Room k (A.deeper (envOfC qual (defScope st) s.heap.objs.size f cdv)) → S ds ys →
      Sg K E σ H (ds.map Sl.d ++ List.replicate (N.length - ds.length) .no) [] →
      ∃ t, PSs (cxOf CX0 P w K mg base N qual (defScope st) f cdv A outer s H X).nox (defBody st) t ∧ ∀ Q : VK, (∀ p ws H2, E.hin p = none → Ex E.hin H2 → H2 p = some (.lst ws) → RvA K (del p (fr E.h0 E.hin H2)) ws ys → Q (.ref p) H2) → t { nx := fun _ H' => Q .non H', rt := Q } σ H) : FnOk P w K mg base CX0 (k + 1) f fd ps (SpL K S) := by
  refine F.ok sc (fun vs H Q E h => ?_) (fun cdv A outer s H vs Q E hr h => ?_)
  · obtain ⟨G, ds, y, e, r, hS, _⟩ := h
    rw [r.length]
    exact len ds y hS
  · obtain ⟨G, ds, y, e, r, hS, q⟩ := h
    have hl := len ds y hS
    obtain ⟨t, h1, h2⟩ := hbody cdv A outer s H (L2.start N vs) ⟨G, H, G⟩ ds y E hr hS (start_s2 e r (by omega))
    exact ⟨t, h1, h2 Q fun p ws H2 hp e2 hw r2 => q p ws H2 hp e2 hw r2⟩
end
end Pw

set_option Elab.async false
set_option linter.all false
set_option maxRecDepth 100000
set_option maxHeartbeats 2000000
set_option autoImplicit false
/-! Operations and calls, as data; two rules more. -/
namespace Pw
open PySem PySem.Spec PyProof.Rows L2
open Evl (Ex)

/-! ### rules of the layer's own kind -/
section
variable {X : Cx}
/-- list + list, whatever is to be read -/
def rCatS (K : PySem.W.Frag) : R2 := fun x y H Q => ∃ l b xs zs, x = .ref l ∧ y = .ref b ∧ SqL K H l xs ∧ SqL K H b zs ∧ xs.length + zs.length ≤ sizeLine ∧ ∀ p, H p = none → Q (.ref p) (upd H p (.lst (xs ++ zs)))
theorem op_catS : OpR X (binaryOp .Add) (rCatS X.K) := by
  rintro pins s σ H x y v u Q I rx ry ⟨a, c, left, right, rfl, rfl, isL, isR, fits, go⟩
  cases rx
  cases ry
  obtain ⟨us, vu, ⟨⟨k1, d1, t1, m1⟩, n1, at1, c1, _, f1⟩, _⟩ := I.list isL
  obtain ⟨ws, vw, ⟨⟨k2, d2, t2, m2⟩, n2, at2, c2, _, f2⟩, _⟩ := I.list isR
  simp only at c1 f1 c2 f2
  subst c1 f1 c2 f2
  have small : us.toArray.size + ws.toArray.size ≤ sizeLine := by
    have := vu.length
    have := vw.length
    simp only [List.size_toArray]
    omega
  have both : us.toArray ++ ws.toArray = (us ++ ws).toArray := by simp
  refine concat_meets ⟨_, at1, rfl⟩ ⟨_, at2, rfl⟩ noFill_list_add seq_list_add PySem.F.slot_list_add PySem.F.entry_list_add (PySem.F.args_list_add_2 _ _) (list_addW a c us.toArray ws.toArray n1 n2 d1 d2 m1 m2 small) ⟨at1, at2, ?_⟩
  rw [both]
  refine ⟨.ref _, _, I.lnew (t' := s.toks) (vu.append vw) ?_, rfl, go _ I.fresh⟩
  rw [List.length_append]
  exact fits
/-- a product of ints -/
theorem op_mulA : OpR X (binaryOp .Mult) (rI IntMulOk fun i j => .int (i * j)) := opI fun _ _ _ _ _ _ _ hc q => mul_int q hc
/-- named readings of built-ins -/
def rAbs : List V → Hp → VK → Prop := fun xs H Q => ∃ i, xs = [.int i] ∧ Q (.int (if i < 0 then -i else i)) H
abbrev rMax2 : List V → Hp → VK → Prop := Evl.rMax2
def rMin2 : List V → Hp → VK → Prop := fun xs H Q => ∃ i j, xs = [.int i, .int j] ∧ Q (.int (if j < i then j else i)) H
def rInt1 : List V → Hp → VK → Prop := fun xs H Q => (∃ i, xs = [.int i] ∧ Q (.int i) H) ∨ ∃ k, xs = [.bl k] ∧ Q (.int (if k then 1 else 0)) H
theorem cp_len : CallR X (.builtin "len") (Evl.rLenS X.K) := call_len_seq
theorem cp_list : CallR X (.type "list") (Evl.rListS X.K) := call_list_of
theorem cp_abs : CallR X (.builtin "abs") rAbs := call_abs
theorem cp_max2 (hc : X.calm = true := by rfl) : CallR X (.builtin "max") rMax2 := call_max2 hc
theorem cp_min2 (hc : X.calm = true := by rfl) : CallR X (.builtin "min") rMin2 := call_min2 hc
theorem cp_int1 : CallR X (.type "int") rInt1 := call_int1
end

/-! ### the written part named -/
section
variable {X : Cx} {K : PySem.W.Frag}
theorem pe_revK (hK : X.K = K) {e : Expr} {te : TE} {k : Nat} {p1 p2 p3 pos : Pos} (he : PE X e te) : PE X (.Subscript e (.Slice none none (some (.UnaryOp .USub (.Constant (.int 1) k p1) p2)) p3) pos) (tRevL K te) := hK ▸ pe_revL he
theorem pi_listK (hK : X.K = K) {tg e : Expr} {tl : TE} (he : PE X e tl) : PI X tg e (iList K tl) := hK ▸ pi_list he
theorem pi_tupK (hK : X.K = K) {tg e : Expr} {tl : TE} (he : PE X e tl) : PI X tg e (iTup K tl) := hK ▸ pi_tup he
theorem pi_enumK (hK : X.K = K) {e : Expr} {ta : TA} {p pos tpos : Pos} {elts : List Expr} {kk : Nat} (hg : Gl X "enumerate") (hm : X.mg "enumerate" = none) (ha : PA X [e] ta) (hs : starEach [e] X.env = [(false, eval e X.env)] := by rfl) :
    PI X (.Tuple elts kk tpos) (.Call (.Name "enumerate" p) [e] [] pos) (iEnum K ta) := hK ▸ pi_enum hg hm ha hs
end
/-! ### as data -/
def cutA {α : Type} (xs : List α) (lo hi : Option Int) : List α := (xs.drop (HT.sIx xs.length 0 lo)).take (HT.sIx xs.length xs.length hi - HT.sIx xs.length 0 lo)
section
variable {K : PySem.W.Frag} {ρ : List Sl} {O : List (Addr × Ow)} {te ta tb tc : TE} {tl th : TO} {x y z : PyData} {xs ys ds : List PyData} {ns : List Int} {bs : List Bool} {i j : Int} {p : Addr} {k : Nat}
theorem mulok_l (h : -(2 ^ 64) < i ∧ i < 2 ^ 64) : IntMulOk i j := .of_left (intBits_le_64 h.1 h.2)
theorem mulok_r (h : -(2 ^ 64) < j ∧ j < 2 ^ 64) : IntMulOk i j := .of_right (intBits_le_64 h.1 h.2)
theorem bits_lt {a : Nat} (h : i.natAbs < 2 ^ a) : Builtin.Int.intBits i ≤ a + 1 := by
  unfold Builtin.Int.intBits
  split
  · omega
  · rename_i hz
    have h1 : i.natAbs ≠ 0 := by simpa using hz
    have h2 := (Nat.log2_lt h1).mpr h
    omega
theorem mulok_b {a b : Nat} (ha : i.natAbs < 2 ^ a) (hb : j.natAbs < 2 ^ b) (h : a + b ≤ 100000000) : IntMulOk i j := by
  have h1 := bits_lt ha
  have h2 := bits_lt hb
  have e : bitsLine = 134217728 := by decide
  unfold IntMulOk
  intro z
  rw [Bool.and_eq_true] at z
  have z2 := z.2
  unfold Builtin.Int.intTooBig at z2
  have z3 := of_decide_eq_true z2
  rw [e] at z3
  omega
theorem op2_isB {a b : Bool} : Op2 K rIsB (.bool a) (.bool b) (.bool (decide (a = b))) := fun G H v u Q e rv ru q => ⟨a, b, rv.isBool, ru.isBool, q _ H (Ex.refl H) (.bl _)⟩
theorem op2_isNB {a b : Bool} : Op2 K rNotB (.bool a) (.bool b) (.bool (!decide (a = b))) := fun G H v u Q e rv ru q => ⟨a, b, rv.isBool, ru.isBool, q _ H (Ex.refl H) (.bl _)⟩
theorem el_cat (ha : Ev K ρ O ta (.list xs)) (hb : Ev K ρ O tb (.list ys)) (hl : xs.length + ys.length ≤ 1000000) : EvL K ρ O (tOp (rCatS K) ta tb) (xs ++ ys) := fun H0 σ H s Q q =>
  ha H0 σ H s _ fun v H1 e1 rv => hb H0 σ H1 (s.keep e1) _ fun u H2 e2 ru => by
    obtain ⟨a, ws, rfl, hs, hr⟩ := (rv.up (fr_out e2)).isList
    obtain ⟨b, zs, rfl, hs2, hr2⟩ := (ru.up (fr_chain s.base e1)).isList
    have e12 := e1.trans e2
    have eb := fr_ex s.base e12
    refine ⟨a, b, ws, zs, rfl, rfl, Evl.ex_l eb hs, Evl.ex_l eb hs2, ?_, fun p hp => ?_⟩
    · rw [hr.length, hr2.length]; exact Nat.le_trans hl (by decide)
    · refine q p _ _ (ex_none e12 hp) (e12.trans (Ex.new hp)) upd_same ((hr.append hr2).up (ex_del (fr_out (Ex.new hp)) ?_))
      rw [fr_none (ex_none e12 hp)]
      exact hp
theorem eo_none : EvO K ρ O tNoPart none := fun _ _ H _ _ q => q H (Ex.refl H)
theorem eo_some (h : Ev K ρ O te (.int i)) : EvO K ρ O (tPart te) (some i) := fun H0 σ H s Q q => h H0 σ H s _ fun v H1 e r => ⟨i, r.isInt, q H1 e⟩
theorem cutV_A {vs : List V} {H : Hp} {lo hi : Option Int} (h : RvA K H vs xs) : RvA K H (cutV vs lo hi) (cutA xs lo hi) := by
  unfold cutV cutA
  rw [h.length]
  exact (h.drop _).take _
theorem el_sl {lo hi : Option Int} (h : Ev K ρ O te (.list xs)) (h1 : EvO K ρ O tl lo) (h2 : EvO K ρ O th hi) : EvL K ρ O (tSl (rSlL K) te tl th) (cutA xs lo hi) := fun H0 σ H s Q q =>
  h H0 σ H s _ fun v H1 e1 rv => h1 H0 σ H1 (s.keep e1) _ fun H2 e2 => h2 H0 σ H2 (s.keep (e1.trans e2)) _ fun H3 e3 => by
    obtain ⟨a, ws, rfl, hs, hr⟩ := (rv.up (fr_out (e2.trans e3))).isList
    have e13 := (e1.trans e2).trans e3
    refine ⟨a, ws, rfl, Evl.ex_l (fr_ex s.base e13) hs, fun p hp => ?_⟩
    refine q p _ _ (ex_none e13 hp) (e13.trans (Ex.new hp)) upd_same ((cutV_A hr).up (ex_del (fr_out (Ex.new hp)) ?_))
    rw [fr_none (ex_none e13 hp)]
    exact hp
theorem el_rev (h : Ev K ρ O te (.list xs)) : EvL K ρ O (tRevL K te) xs.reverse := fun H0 σ H s Q q =>
  h H0 σ H s _ fun v H1 e1 rv => by
    obtain ⟨a, ws, rfl, hs, hr⟩ := rv.isList
    refine ⟨a, ws, rfl, Evl.ex_l (fr_ex s.base e1) hs, fun p hp => ?_⟩
    refine q p _ _ (ex_none e1 hp) (e1.trans (Ex.new hp)) upd_same (hr.reverse.up (ex_del (fr_out (Ex.new hp)) ?_))
    rw [fr_none (ex_none e1 hp)]
    exact hp
/-- a list of one's own, turned -/
theorem el_revO (hi : ρ[k]? = some (.o p)) (hm : (p, .lst xs) ∈ O) : EvL K ρ O (tRevL K (tVar k)) xs.reverse := fun H0 σ H s Q q => by
  obtain ⟨h0, vs, h1, h2⟩ := s.own p _ hm
  refine ⟨_, s.adr k p hi, p, vs, rfl, SqL.of h1, fun r hr => ?_⟩
  refine q r _ _ hr (Ex.new hr) upd_same (h2.reverse.up (ex_del (ex_fr s.base) ?_))
  exact ex_none s.base hr
theorem cb_len : Cb K (Evl.rLenS K) [.list xs] (.int (xs.length : Int)) := fun G H vs Q e r q => by
  cases r with
  | cons r r0 =>
    cases r0
    obtain ⟨a, ws, rfl, hs, hr⟩ := r.isList
    refine ⟨a, ws, rfl, .inl (Evl.ex_l e hs), ?_⟩
    rw [hr.length]
    exact q _ H (Ex.refl H) (.int _)
theorem cb_lenT : Cb K (Evl.rLenS K) [.tuple xs] (.int (xs.length : Int)) := fun G H vs Q e r q => by
  cases r with
  | cons r r0 =>
    cases r0
    obtain ⟨a, ws, rfl, hs, hr⟩ := r.isTuple
    refine ⟨a, ws, rfl, .inr (Evl.ex_t e hs), ?_⟩
    rw [hr.length]
    exact q _ H (Ex.refl H) (.int _)
theorem ev_lenO (hi : ρ[k]? = some (.o p)) (hm : (p, .lst xs) ∈ O) : Ev K ρ O (tCB (Evl.rLenS K) (tCons (tVar k) tNil)) (.int (xs.length : Int)) := fun H0 σ H s Q q => by
  obtain ⟨h0, vs, h1, h2⟩ := s.own p _ hm
  refine ⟨_, s.adr k p hi, p, vs, rfl, .inl (SqL.of h1), ?_⟩
  rw [h2.length]
  exact q _ H (Ex.refl H) (.int _)
theorem el_list (h : EvA K ρ O (tCons te tNil) [.list xs]) : EvL K ρ O (tCB (Evl.rListS K) (tCons te tNil)) xs := fun H0 σ H s Q q =>
  h H0 σ H s _ fun vs H1 e1 r => by
    cases r with
    | cons r r0 =>
      cases r0
      obtain ⟨a, ws, rfl, hs, hr⟩ := r.isList
      refine ⟨a, ws, rfl, .inl (Evl.ex_l (fr_ex s.base e1) hs), fun p hp => ?_⟩
      refine q p _ _ (ex_none e1 hp) (e1.trans (Ex.new hp)) upd_same (hr.up (ex_del (fr_out (Ex.new hp)) ?_))
      rw [fr_none (ex_none e1 hp)]
      exact hp
theorem cb_sum : Cb K (rSum K) [.list (ns.map PyData.int)] (.int ns.sum) := fun G H vs Q e r q => by
  cases r with
  | cons r r0 =>
    cases r0
    obtain ⟨a, ws, rfl, hs, hr⟩ := r.isList
    obtain rfl := hr.ints
    exact ⟨a, ns, rfl, Evl.ex_l e hs, q _ H (Ex.refl H) (.int _)⟩
theorem cb_any : Cb K (rAny K) [.list (bs.map PyData.bool)] (.bool (bs.any id)) := fun G H vs Q e r q => by
  cases r with
  | cons r r0 =>
    cases r0
    obtain ⟨a, ws, rfl, hs, hr⟩ := r.isList
    obtain rfl := hr.bools
    exact ⟨a, bs, rfl, Evl.ex_l e hs, q _ H (Ex.refl H) (.bl _)⟩
theorem cb_all : Cb K (rAll K) [.list (bs.map PyData.bool)] (.bool (bs.all id)) := fun G H vs Q e r q => by
  cases r with
  | cons r r0 =>
    cases r0
    obtain ⟨a, ws, rfl, hs, hr⟩ := r.isList
    obtain rfl := hr.bools
    exact ⟨a, bs, rfl, Evl.ex_l e hs, q _ H (Ex.refl H) (.bl _)⟩
theorem cb_max {m : Int} (h : 0 < ns.length) (hm : m ∈ ns) (hle : ∀ y ∈ ns, y ≤ m) : Cb K (rMax K) [.list (ns.map PyData.int)] (.int m) := fun G H vs Q e r q => by
  cases r with
  | cons r r0 =>
    cases r0
    obtain ⟨a, ws, rfl, hs, hr⟩ := r.isList
    obtain rfl := hr.ints
    refine ⟨a, ns, rfl, Evl.ex_l e hs, h, fun m' h1 h2 => ?_⟩
    have z : m' = m := by have := h2 m hm; have := hle m' h1; omega
    subst z
    exact q _ H (Ex.refl H) (.int _)
theorem cb_min {m : Int} (h : 0 < ns.length) (hm : m ∈ ns) (hle : ∀ y ∈ ns, m ≤ y) : Cb K (rMin K) [.list (ns.map PyData.int)] (.int m) := fun G H vs Q e r q => by
  cases r with
  | cons r r0 =>
    cases r0
    obtain ⟨a, ws, rfl, hs, hr⟩ := r.isList
    obtain rfl := hr.ints
    refine ⟨a, ns, rfl, Evl.ex_l e hs, h, fun m' h1 h2 => ?_⟩
    have z : m' = m := by have := h2 m hm; have := hle m' h1; omega
    subst z
    exact q _ H (Ex.refl H) (.int _)
theorem cb_abs : Cb K rAbs [.int i] (.int (if i < 0 then -i else i)) := fun G H vs Q e r q => by
  cases r with
  | cons r r0 => cases r0; cases r; exact ⟨i, rfl, q _ H (Ex.refl H) (.int _)⟩
theorem cb_max2 : Cb K rMax2 [.int i, .int j] (.int (if j > i then j else i)) := fun G H vs Q e r q => by
  cases r with
  | cons r r0 =>
    cases r0 with
    | cons r2 r0 => cases r0; cases r; cases r2; exact ⟨i, j, rfl, q _ H (Ex.refl H) (.int _)⟩
theorem cb_min2 : Cb K rMin2 [.int i, .int j] (.int (if j < i then j else i)) := fun G H vs Q e r q => by
  cases r with
  | cons r r0 =>
    cases r0 with
    | cons r2 r0 => cases r0; cases r; cases r2; exact ⟨i, j, rfl, q _ H (Ex.refl H) (.int _)⟩
theorem cb_intB {b : Bool} : Cb K rInt1 [.bool b] (.int (if b = true then 1 else 0)) := fun G H vs Q e r q => by
  cases r with
  | cons r r0 => cases r0; cases r; exact .inr ⟨b, rfl, q _ H (Ex.refl H) (.int _)⟩
/-- x in (a, b, ..), ints -/
theorem inV_ints (i : Int) : ∀ ns : List Int, inV (.int i) (ns.map V.int) = decide (i ∈ ns)
  | [] => by simp [inV]
  | n :: ns => by
    have ih := inV_ints i ns
    have h : inV (.int i) ((n :: ns).map V.int) = (eqV (.int n) (.int i) || inV (.int i) (ns.map V.int)) := rfl
    rw [h, ih]
    show ((n == i) || decide (i ∈ ns)) = _
    by_cases e : i = n
    · subst e; simp
    · have e' : ¬ n = i := fun q => e q.symm
      simp [e, e']
theorem flat_ints (ns : List Int) : (ns.map V.int).all flatV = true := by
  rw [List.all_map]; exact List.all_eq_true.mpr fun _ _ => rfl
theorem op2_inT {neg : Bool} : Op2 K (rIn K neg) (.int i) (.tuple (ns.map PyData.int)) (.bool (if neg then !decide (i ∈ ns) else decide (i ∈ ns))) := fun G H v u Q e rv ru q => by
  obtain rfl := rv.isInt
  obtain ⟨a, ws, rfl, hs, hr⟩ := ru.isTuple
  obtain rfl := hr.ints
  refine ⟨a, _, rfl, .inr (Evl.ex_t e hs), rfl, flat_ints ns, ?_⟩
  rw [inV_ints]
  exact q _ H (Ex.refl H) (.bl _)
theorem op2_inL {neg : Bool} : Op2 K (rIn K neg) (.int i) (.list (ns.map PyData.int)) (.bool (if neg then !decide (i ∈ ns) else decide (i ∈ ns))) := fun G H v u Q e rv ru q => by
  obtain rfl := rv.isInt
  obtain ⟨a, ws, rfl, hs, hr⟩ := ru.isList
  obtain rfl := hr.ints
  refine ⟨a, _, rfl, .inl (Evl.ex_l e hs), rfl, flat_ints ns, ?_⟩
  rw [inV_ints]
  exact q _ H (Ex.refl H) (.bl _)
/-- list * int, the list a display -/
theorem el_rep {n : Int} {tr : TA} (h : EvA K ρ O tr xs) (hb : Ev K ρ O tb (.int n)) (h1 : -(2 ^ 63) ≤ n ∧ n < 2 ^ 63) (hz : xs.length ≤ 100000) (hz2 : xs.length * n.toNat ≤ 100000) : EvL K ρ O (tOp rRep (tLst tr) tb) (List.replicate n.toNat xs).flatten := fun H0 σ H s Q q =>
  el_lst h hz H0 σ H s _ fun l ws H1 hl e1 hw r => hb H0 σ H1 (s.keep e1) _ fun u H2 e2 ru => by
    obtain rfl := ru.isInt
    have e12 := e1.trans e2
    refine ⟨l, n, ws, rfl, rfl, e2 _ _ hw, h1.1, h1.2, by rw [r.length]; exact Evl.sz_of hz2, fun p hp => ?_⟩
    have rr : ∀ m : Nat, RvA K (del p (fr H0 H (upd H2 p (.lst (List.replicate n.toNat ws).flatten)))) (List.replicate m ws).flatten (List.replicate m xs).flatten := fun m => by
      induction m with
      | zero => exact .nil
      | succ m ih =>
        rw [List.replicate_succ, List.replicate_succ, List.flatten_cons, List.flatten_cons]
        refine RvA.append (r.up ?_) ih
        refine ex_del ((del_ex.trans (fr_out e2)).trans (fr_out (Ex.new hp))) ?_
        have z : (del l (fr H0 H H1)) p = none := by
          have q1 : p ≠ l := fun z => by subst z; rw [e2 _ _ hw] at hp; cases hp
          rw [del_ne q1, fr_none (ex_none e12 hp)]
          exact ex_none e2 hp
        exact z
    exact q p _ _ (ex_none e12 hp) (e12.trans (Ex.new hp)) upd_same (rr _)
end
section
variable {K : PySem.W.Frag} {ρ : List Sl} {O : List (Addr × Ow)} {te : TE} {ta : TA}
theorem cutA_take {α : Type} (xs : List α) (n : Nat) : cutA xs none (some (n : Int)) = xs.take n := by
  unfold cutA
  rw [HT.sIx_none, HT.sIx_nat, List.drop_zero, Nat.sub_zero]
  exact (List.take_eq_take_min ..).symm
theorem cutA_drop {α : Type} (xs : List α) (n : Nat) : cutA xs (some (n : Int)) none = xs.drop n := by
  unfold cutA
  rw [HT.sIx_none, HT.sIx_nat]
  by_cases h : n ≤ xs.length
  · rw [Nat.min_eq_left h]
    exact List.take_of_length_le (by rw [List.length_drop]; omega)
  · rw [Nat.min_eq_right (by omega), List.drop_length, List.drop_eq_nil_of_le (by omega), List.take_nil]
theorem cutA_init {α : Type} (xs : List α) : cutA xs none (some (-1)) = xs.dropLast := by
  unfold cutA
  rw [HT.sIx_none, List.drop_zero]
  show xs.take ((-1 + (xs.length : Int)).toNat - 0) = _
  rw [List.dropLast_eq_take]
  congr 1
  omega
theorem cutA_both {α : Type} (xs : List α) (m n : Nat) : cutA xs (some (m : Int)) (some (n : Int)) = (xs.take n).drop m := by
  unfold cutA
  rw [HT.sIx_nat, HT.sIx_nat, List.drop_take]
  by_cases h : m ≤ xs.length
  · rw [Nat.min_eq_left h]
    by_cases h2 : n ≤ xs.length
    · rw [Nat.min_eq_left h2]
    · rw [Nat.min_eq_right (by omega), List.take_of_length_le (by rw [List.length_drop]; omega), List.take_of_length_le (by rw [List.length_drop]; omega)]
  · rw [Nat.min_eq_right (by omega : xs.length ≤ m), List.drop_length, List.drop_eq_nil_of_le (by omega : xs.length ≤ m), List.take_nil, List.take_nil]
theorem map_cutA {α β : Type} (f : α → β) (xs : List α) (lo hi : Option Int) : (cutA xs lo hi).map f = cutA (xs.map f) lo hi := by
  unfold cutA
  rw [List.map_take, List.map_drop, List.length_map]
theorem src_enumT {α : Type} (l : List α) (e : α → PyData) (h : EvA K ρ O ta [.list (l.map e)]) : Src K ρ O (iEnum K ta) (l.zipIdx.map fun p => .tuple [.int (p.2 : Nat), e p.1]) := by
  have s := src_enum h
  have q : ((l.map e).zipIdx.map fun p => PyData.tuple [.int (p.2 : Nat), p.1]) = l.zipIdx.map fun p => .tuple [.int (p.2 : Nat), e p.1] := by
    rw [List.zipIdx_map, List.map_map]
    rfl
  rw [q] at s
  exact s
def pick3 (a b c d : Int) : Int := if d = 0 then a else if d = 1 then b else c
theorem at_pick3 {a b c d : Int} (h : 0 ≤ d ∧ d < 3) : L2.atI [PyData.int a, .int b, .int c] d = some (.int (pick3 a b c d)) := by
  obtain ⟨h0, h1⟩ := h
  have : d = 0 ∨ d = 1 ∨ d = 2 := by omega
  rcases this with rfl | rfl | rfl <;> rfl
end
/-! ### isinstance of built-in types -/
/-- a datum's built-in type -/
def tyD : PyData → String
  | .none => "NoneType"
  | .bool _ => "bool"
  | .int _ => "int"
  | .str _ => "str"
  | .list _ => "list"
  | .tuple _ => "tuple"
  | .dict x => if (match x with | [(.str _, _)] => true | _ => false) = true then "object" else "dict"
section
variable {K : PySem.W.Frag} {ρ : List Sl} {O : List (Addr × Ow)} {te : TE} {x : PyData} {H : Hp} {v : V}
theorem SqL.tyx {a : Addr} {xs : List V} (h : SqL K H a xs) : TyX K H (.ref a) (.type "list") := by
  rcases h with (h | ⟨o, h⟩) | ⟨o, its, n, hk, hc, _⟩
  · exact .base (.lst h)
  · exact .base (.frz h)
  · exact .kList hk hc
theorem SqT.tyx {a : Addr} {xs : List V} (h : SqT K H a xs) : TyX K H (.ref a) (.type "tuple") := by
  rcases h with (h | ⟨o, h⟩) | ⟨o, its, n, hk, hc, _⟩
  · exact .base (.tup h)
  · exact .fTuple h
  · exact .kTuple hk hc
theorem tyD_enc (kvs : List (Int × Int)) : tyD (.dict (encP kvs)) = "dict" := by
  cases kvs with
  | nil => rfl
  | cons e kvs => cases kvs <;> rfl
theorem Rv.isi (h : Rv K H v x) {T : String} {b : Bool} (hT : T ∈ tyQ) (hb : kitB (tyD x) T = some b) : ∃ t, TyX K H v t ∧ PySem.W.kitOne K t (.type T) = some b := by
  cases h with
  | non => exact ⟨_, .base .non, kit_ty hb⟩
  | bl y => exact ⟨_, .base (.bl y), kit_ty hb⟩
  | int i => exact ⟨_, .base (.int i), kit_ty hb⟩
  | str s => exact ⟨_, .base (.str s), kit_ty hb⟩
  | lst s _ => exact ⟨_, SqL.tyx s, kit_ty hb⟩
  | tup s _ => exact ⟨_, SqT.tyx s, kit_ty hb⟩
  | dct s z =>
    rw [z, tyD_enc] at hb
    exact ⟨_, .base (.dK s), kit_ty hb⟩
  | obj c s r z =>
    rw [z] at hb
    have hb' : kitB "object" T = some b := hb
    refine ⟨_, c.ty _ _ _ _ s, ?_⟩
    have q : ∀ T ∈ tyQ, kitB "object" T = some false := by decide +kernel
    rw [q T hT] at hb'
    cases hb'
    unfold tyQ at hT
    simp only [List.mem_cons, List.not_mem_nil, or_false] at hT
    rcases hT with rfl | rfl | rfl | rfl
    · exact c.q_int
    · exact c.q_bool
    · exact c.q_tuple
    · exact c.q_list
theorem ev_isi {T : String} {b : Bool} (h : Ev K ρ O te x) (hb : kitB (tyD x) T = some b) (hT : T ∈ tyQ := by decide +kernel) : Ev K ρ O (tCB (rIsi K) (tCons te (tCons (tC (.ty T)) tNil))) (.bool b) := fun H0 σ H s Q q =>
  h H0 σ H s _ fun v H1 e r => by
    obtain ⟨t, h1, h2⟩ := (r.up (fr_ex s.base e)).isi hT hb
    exact ⟨v, .ty T, t, .type T, b, rfl, .ty T, h1, h2, q _ H1 e (.bl b)⟩
end
end Pw

/-! ### calls by name -/
namespace Pw
open PySem PySem.Spec PyProof.Rows L2
open Evl (Ex)
/-- the built-ins' names are no names of the module -/
structure Bn (mg : Str → Option Value) : Prop where
  len_ : mg "len" = none
  isinstance_ : mg "isinstance" = none
  int_ : mg "int" = none
  bool_ : mg "bool" = none
  tuple_ : mg "tuple" = none
  list_ : mg "list" = none
  range_ : mg "range" = none
  enumerate_ : mg "enumerate" = none
  sorted_ : mg "sorted" = none
  set_ : mg "set" = none
  all_ : mg "all" = none
  any_ : mg "any" = none
  sum_ : mg "sum" = none
  min_ : mg "min" = none
  max_ : mg "max" = none
  abs_ : mg "abs" = none
/-- a def of the module as the top left it -/
structure Df (K : PySem.W.Frag) (mg : Str → Option Value) (x : Str) (st : Stmt) : Prop where
  ex : ∃ (f : Addr) (fd : FuncData), Fun K x x st f fd ∧ mg x = some (.ref f)
/-- a def that keeps a promise -/
structure Cal (P : Program) (w : World) (K : PySem.W.Frag) (mg : Str → Option Value) (base : Heap) (k : Nat) (x : Str) (sp : Sp) : Prop where
  ex : ∃ (f : Addr) (fd : FuncData) (ps : List Str), FnOk P w K mg base CX0 k f fd ps sp ∧ mg x = some (.ref f) ∧ PySem.W.keepIn K (.ref f) = true ∧ Binds K fd ps []
section
variable {X : Cx} {k j : Nat} {x : Str} {sp : Sp} {p pos : Pos} {e : Expr} {es : List Expr} {t : TA}
theorem pe_c (c : Cal X.prog X.w X.K X.mg X.base k x sp) (hr : Room j X.A) (hk : k ≤ j) (hg : Gl X x) (ha : PA X (e :: es) t)
    (hdb : (x == ("__debug__" : Str)) = false := by decide) (he : starEach (e :: es) X.env = (false, eval e X.env) :: starEach es X.env := by rfl) (hpl : (backTo pos (starEach es X.env)).any (·.1) = false := by rfl) :
    PE X (.Call (.Name x p) (e :: es) [] pos) (tCall sp [] E0 t) := by
  obtain ⟨f, fd, ps, F, hm, kp, b⟩ := c.ex
  exact pe_call F (hr.mono hk) hg hm kp b .nil pass0 ha hdb he hpl
end
section
variable {P : Program} {w : World} {K : PySem.W.Frag} {mg : Str → Option Value} {base : Heap} {x : Str} {st : Stmt} {N ps : List Str} {k : Nat}
theorem calR {S : List PyData → PyData → Prop} (D : Df K mg x st) (sc : FnScope N ps (defScope st))
    (hb : ∀ (kV doc pm : Value) (an : Option Addr) (cdv ct : Value) (us : List Value), us.length = ps.length → bindArgs (PySem.W.fnOf x x (defArgs st) (defBody st) (defScope st) .none kV doc pm an cdv ct) ⟨us, []⟩ = pure (ps.zip us))
    (hpn : ps.length ≤ N.length) (len : ∀ ds y, S ds y → ds.length = ps.length)
    (hbody : ∀ (f : Addr) (cdv : Value) (A : Around) (outer : List Env) (s : Shared) (H : Hp) (σ : L2.St) (E : En) (ds : List PyData) (y : PyData) (X : XK), Room k (A.deeper (envOfC x (defScope st) s.heap.objs.size f cdv)) → S ds y →
      Sg K E σ H (ds.map Sl.d ++ List.replicate (N.length - ds.length) .no) [] →
      ∃ t, PSs (cxOf CX0 P w K mg base N x (defScope st) f cdv A outer s H X).nox (defBody st) t ∧ ∀ Q : VK, (∀ v H2, Ex E.hin H2 → Rv K (fr E.h0 E.hin H2) v y → Q v H2) → t { nx := fun _ H' => Q .non H', rt := Q } σ H) : Cal P w K mg base (k + 1) x (SpR K S) := by
  obtain ⟨f, fd, F, hm⟩ := D.ex
  exact ⟨f, fd, ps, okR F sc hpn len (hbody f), hm, F.kp, F.binds hb⟩
theorem calL {S : List PyData → List PyData → Prop} (D : Df K mg x st) (sc : FnScope N ps (defScope st))
    (hb : ∀ (kV doc pm : Value) (an : Option Addr) (cdv ct : Value) (us : List Value), us.length = ps.length → bindArgs (PySem.W.fnOf x x (defArgs st) (defBody st) (defScope st) .none kV doc pm an cdv ct) ⟨us, []⟩ = pure (ps.zip us))
    (hpn : ps.length ≤ N.length) (len : ∀ ds y, S ds y → ds.length = ps.length)
    (hbody : ∀ (f : Addr) (cdv : Value) (A : Around) (outer : List Env) (s : Shared) (H : Hp) (σ : L2.St) (E : En) (ds ys : List PyData) (X : XK), Room k (A.deeper (envOfC x (defScope st) s.heap.objs.size f cdv)) → S ds ys →
      Sg K E σ H (ds.map Sl.d ++ List.replicate (N.length - ds.length) .no) [] →
      ∃ t, PSs (cxOf CX0 P w K mg base N x (defScope st) f cdv A outer s H X).nox (defBody st) t ∧ ∀ Q : VK, (∀ p ws H2, E.hin p = none → Ex E.hin H2 → H2 p = some (.lst ws) → RvA K (del p (fr E.h0 E.hin H2)) ws ys → Q (.ref p) H2) → t { nx := fun _ H' => Q .non H', rt := Q } σ H) : Cal P w K mg base (k + 1) x (SpL K S) := by
  obtain ⟨f, fd, F, hm⟩ := D.ex
  exact ⟨f, fd, ps, okL F sc hpn len (hbody f), hm, F.kp, F.binds hb⟩
end
/-- name *= e -/
def ipMul : TIp := fun x y H Q => ∃ i j, x = .int i ∧ y = .int j ∧ IntMulOk i j ∧ Q (.int (i * j)) H
theorem ip_mulA {X : Cx} : PIp X .Mult ipMul := by
  intro pins s σ H x y v u Q I r1 r2 h
  obtain ⟨i, j, e1, e2, c, q⟩ := h
  subst e1; subst e2
  obtain ⟨t, rfl⟩ := r1
  obtain ⟨t', rfl⟩ := r2
  exact PyProof.Rows.imul_int ⟨.int _, H, I.tok _, ⟨_, rfl⟩, q⟩ c
section
variable {K : PySem.W.Frag} {E : En} {H : Hp} {σ : L2.St} {ρ : List Sl} {O : List (Addr × Ow)} {i : Nat} {te : TE} {D : Ends} {tz : TS}
theorem d_augM {a b : Int} (s : Sg K E σ H ρ O) (hx : ρ[i]? = some (.d (.int a))) (h : Ev K ρ O te (.int b)) (c : IntMulOk a b) (k : ∀ σ' H', Ex H H' → Sg K E σ' H' (ρ.set i (.d (.int (a * b)))) O → D.nx σ' H') : tAug i te ipMul D σ H := by
  obtain ⟨H0, s⟩ := s
  obtain ⟨v, h1, h2⟩ := s.s.env i _ hx
  refine ⟨v, h1, h H0 σ H s.s _ fun u H1 e r => ⟨a, b, h2.isInt, r.isInt, c, ?_⟩⟩
  have s' := s.step e
  exact k _ H1 e ⟨_, s'.to (s'.s.store (List.getElem?_eq_some_iff.mp hx).1 (.int _))⟩
theorem q_augM {a b : Int} (s : Sg K E σ H ρ O) (hx : ρ[i]? = some (.d (.int a))) (h : Ev K ρ O te (.int b)) (c : IntMulOk a b) (k : ∀ σ' H', Ex H H' → Sg K E σ' H' (ρ.set i (.d (.int (a * b)))) O → tz D σ' H') : tSeq (tAug i te ipMul) tz D σ H := d_augM (D := { D with nx := tz D }) s hx h c k
end
end Pw

set_option Elab.async false
set_option linter.all false
set_option maxRecDepth 100000
set_option maxHeartbeats 2000000
set_option autoImplicit false
/-! sorted(d), sorted(d, reverse=True): a dict of ints, of any length. -/
namespace Pw
open PySem PySem.Spec PyProof.Rows L2
open Evl (Ex)
section
variable {X : Cx}
/-- the keys of such a dict, gathered: those ints in their turn -/
theorem keys_in {es : List (Key × Value)} {acc : Array Value} {ks : List Int} (hk : es.map Prod.fst = ks.map Sum.inl) (hn : acc.size = es.length) (hi : ∀ (j : Nat) (u : Value), acc[j]? = some u → ∃ k x, es[j]? = some (k, x) ∧ keyIs k u = true) :
    IntsAre acc.toList ks ∧ acc.toList.length = ks.length := by
  have many : es.length = ks.length := by simpa using congrArg List.length hk
  have sz : acc.toList.length = ks.length := by rw [← many, ← hn]; simp
  refine ⟨ints_each sz ?_, sz⟩
  intro j u hu
  obtain ⟨key, y, place, good⟩ := hi j u (by simpa using hu)
  have look : (ks.map (Sum.inl : Int → Key))[j]? = some key := by
    have := congrArg (fun l => l[j]?) hk
    simp only [List.getElem?_map, place] at this
    rw [List.getElem?_map]
    exact this.symm
  rw [List.getElem?_map] at look
  obtain ⟨n, there, same⟩ := Option.map_eq_some_iff.mp look
  rcases keyIs_shape good with ⟨m, tok, is_int, shape⟩ | ⟨m, tok, is_text, shape⟩
  · have nm : n = m := Sum.inl.inj (same.trans is_int)
    rw [← nm] at shape
    exact ⟨n, tok, there, shape⟩
  · exact nomatch same.trans is_text
/-- a new list of ints is put in its order, upwards or downwards -/
theorem sort_new {b : Bool} {kw : List (Str × Value)} {pins : List (Addr × Obj)} {s : Shared} {σ : L2.St} {H : Hp} {us : List Value} {ks : List Int} {Q : VK} {A : Around} {E : Value → Shared → Prop} (I : Inv X pins σ H s) (g : IntsAre us ks) (sz : us.length = ks.length) (room : us.length ≤ sizeLine)
    (hk : ∀ a, Builtin.«list.sort» ⟨[.ref a], kw⟩ = Builtin.«list.sort» ⟨[.ref a], [(Str.ofString "reverse", .bool b)]⟩) (ha2 : ∀ a, argsOk "list.sort" ⟨[a], kw⟩)
    (q : ∀ (ms : List Int) (p : Addr), ms.Perm ks → OrdB b ms → H p = none → Q (.ref p) (upd H p (.lst (ms.map V.int)))) :
    wpAny (model X.prog X.w) A (call (.builtin "list.sort") [.ref s.heap.objs.size] kw) (fun _ s1 => EP X pins σ Q (.ref s.heap.objs.size) s1) E { s with heap := s.heap.push (seqObj "list" us.toArray 0) } := by
  have fresh : (s.heap.push (seqObj "list" us.toArray 0)).get? s.heap.objs.size = some (seqObj "list" us.toArray 0) := Heap.get?_push_size s.heap rfl
  refine wpAny_call_entry_kw slot_list_sort ⟨_, fresh, rfl⟩ entry_list_sort ?_ (ha2 _)
  rw [hk]
  apply SrtR.list_sort_ordR SrtO.swo_int fresh room (fun e => SrtO.ints_sortable g e)
  intro out o1 o2
  obtain ⟨ms, r1, r2, r3⟩ := SrtR.ints_outR g o1 o2
  obtain ⟨ep, stands⟩ := PyProof.Rows.sortedHeap_at (vs := us) (out := if b = true then out.toArray.reverse else out.toArray) fresh
  refine ⟨_, rfl, .ref s.heap.objs.size, upd H s.heap.objs.size (.lst (ms.map V.int)), ?_, rfl, q ms _ r2 r3 (I.hok.fresh (Nat.le_refl _))⟩
  refine I.laid (fun c u e => ?_) (Nat.le_refl _) ⟨?_, (if b = true then out.toArray.reverse else out.toArray).toList, ep, vals_of_ints r1, ?_⟩
  · have lt := Heap.lt_size e
    rw [PyProof.Rows.sortedHeap_old (Nat.ne_of_lt lt) (Nat.lt_trans lt (by rw [size_push']; exact Nat.lt_succ_self _))]
    exact Heap.get?_push_of_some (seqObj "list" us.toArray 0) e
  · rw [List.length_map, r2.length_eq, ← sz]
    exact room
  · rw [Array.toArray_toList]
    exact stands
theorem sortedD_run {b : Bool} {kw : List (Str × Value)} {pins : List (Addr × Obj)} {s : Shared} {σ : L2.St} {H : Hp} {a : Addr} {kvs : List (Key × V)} {ks : List Int} {Q : VK} (hcalm : X.calm = true) (I : Inv X pins σ H s) (hd : Rd H a (.dK kvs)) (hks : kvs.map (·.1) = ks.map Sum.inl)
    (hk : ∀ a, Builtin.«list.sort» ⟨[.ref a], kw⟩ = Builtin.«list.sort» ⟨[.ref a], [(Str.ofString "reverse", .bool b)]⟩) (ha1 : argsOk "sorted" ⟨[.ref a], kw⟩) (ha2 : ∀ a, argsOk "list.sort" ⟨[a], kw⟩)
    (q : ∀ (ns' : List Int) (p : Addr), ns'.Perm ks → OrdB b ns' → H p = none → Q (.ref p) (upd H p (.lst (ns'.map V.int)))) : wpAny (model X.prog X.w) X.A (call (.builtin "sorted") [.ref a] kw) (EP X pins σ Q) X.xe s := by
  obtain ⟨fits, alone, es, pairs, dict⟩ := dk_rd I.hok hd
  obtain ⟨e0, stands⟩ := dict.dictAt
  have room : es.length ≤ sizeLine := pairs.length ▸ fits
  have src := PySem.W.kdl_dict (prog := X.prog) (w := X.w) (knd := mixKind X.prog X.w) (kvs := es) (ep := e0) alone
  apply call_function_entry_kw kind_sorted plain_sorted entry_sorted ha1
  unfold Builtin.«sorted»
  refine wpAny_bind (m := checkCount "sorted" 1 1 _) (wpAny_pure (wpAny_bind (PySem.W.kdu_collect src (A := X.A.in1) (I.ok.hd hcalm) stands room ?_)))
  intro h2 tk acc stays items
  obtain ⟨g, sz⟩ := keys_in (pairs.keys.symm.trans hks) items.1 items.2
  have room2 : acc.toList.length ≤ sizeLine := by
    have n := items.1
    rw [Array.length_toList, n]
    exact room
  have J : Inv X pins σ H { s with heap := h2, toks := tk } := I.kept stays
  refine wpAny_bind (wpAny_newList (wpAny_bind (wpAny_holding (wpAny_mono (sort_new (E := X.xe) J g sz room2 hk ha2 q) ?_ ?_))) room2)
  · intro _ s1 done
    exact wpAny_pure ⟨_, rfl, done⟩
  · exact fun _ _ e => e
def rSortedDR : List V → List V → Hp → VK → Prop := fun vs zs H Q => ∃ (a : Addr) (kvs : List (Int × Int)), vs = [V.ref a] ∧ zs = [.bl true] ∧ H a = some (.dK (encD kvs)) ∧ ∀ (ns' : List Int) (p : Addr), ns'.Perm (kvs.map (·.1)) → ns'.Pairwise (· ≥ ·) → H p = none → Q (.ref p) (upd H p (.lst (ns'.map V.int)))
def rSortedD : List V → Hp → VK → Prop := fun vs H Q => ∃ (a : Addr) (kvs : List (Int × Int)), vs = [V.ref a] ∧ H a = some (.dK (encD kvs)) ∧ ∀ (ns' : List Int) (p : Addr), ns'.Perm (kvs.map (·.1)) → ns'.Pairwise (· ≤ ·) → H p = none → Q (.ref p) (upd H p (.lst (ns'.map V.int)))
theorem encD_keys (kvs : List (Int × Int)) : (encD kvs).map (·.1) = (kvs.map (·.1)).map Sum.inl := by
  unfold encD
  rw [List.map_map, List.map_map]
  rfl
theorem cp_sortedDR (hc : X.calm = true := by rfl) : CallRK X (.builtin "sorted") [Str.ofString "reverse"] rSortedDR := by
  intro pins s σ H vs zs us ws Q I r rz h
  obtain ⟨a, kvs, rfl, rfl, hs, q⟩ := h
  obtain rfl := Vals.ref1 r
  obtain ⟨w1, rfl, e1⟩ := vals1 rz
  obtain rfl : w1 = Value.bool true := e1
  exact sortedD_run (b := true) hc I (.inl hs) (encD_keys kvs) (fun _ => rfl) (PyProof.Rows.args_sorted_rev _ _) (fun _ => PyProof.Rows.args_list_sort_rev _ _) q
theorem sort_nokw (a : Addr) : Builtin.«list.sort» ⟨[.ref a], []⟩ = Builtin.«list.sort» ⟨[.ref a], [(Str.ofString "reverse", .bool false)]⟩ := by
  rw [list_sort_rev]
  first | rfl | kernel_rfl
theorem cp_sortedD (hc : X.calm = true := by rfl) : CallR X (.builtin "sorted") rSortedD := by
  intro pins s σ H vs us Q I r h
  obtain ⟨a, kvs, rfl, hs, q⟩ := h
  obtain rfl := Vals.ref1 r
  exact sortedD_run (b := false) (kw := []) hc I (.inl hs) (encD_keys kvs) sort_nokw (PyProof.Rows.args_sorted1 _) (fun _ => PyProof.Rows.args_list_sort _) q
end

/-! ### sorted lists of ints -/
def insA (k : Int) : List Int → List Int
  | [] => [k]
  | x :: r => if k ≤ x then k :: x :: r else x :: insA k r
def asc : List Int → List Int
  | [] => []
  | k :: r => insA k (asc r)
theorem insA_perm (k : Int) : ∀ l : List Int, (insA k l).Perm (k :: l)
  | [] => List.Perm.refl _
  | x :: r => by
    unfold insA
    split
    · exact List.Perm.refl _
    · exact (List.Perm.cons x (insA_perm k r)).trans (List.Perm.swap k x r)
theorem asc_perm : ∀ l : List Int, (asc l).Perm l
  | [] => List.Perm.refl _
  | k :: r => (insA_perm k (asc r)).trans (List.Perm.cons k (asc_perm r))
theorem insA_sorted (k : Int) : ∀ {l : List Int}, l.Pairwise (· ≤ ·) → (insA k l).Pairwise (· ≤ ·)
  | [], _ => by unfold insA; simp
  | x :: r, h => by
    obtain ⟨h1, h2⟩ := List.pairwise_cons.mp h
    unfold insA
    split
    · rename_i hk
      refine List.pairwise_cons.mpr ⟨fun y hy => ?_, h⟩
      rcases List.mem_cons.mp hy with e | hy
      · rw [e]; exact hk
      · exact Int.le_trans hk (h1 y hy)
    · rename_i hk
      refine List.pairwise_cons.mpr ⟨fun y hy => ?_, insA_sorted k h2⟩
      rcases List.mem_cons.mp ((insA_perm k r).mem_iff.mp hy) with e | hy
      · rw [e]; omega
      · exact h1 y hy
theorem asc_sorted : ∀ l : List Int, (asc l).Pairwise (· ≤ ·)
  | [] => List.Pairwise.nil
  | k :: r => insA_sorted k (asc_sorted r)
theorem sorted_uniq : ∀ {l m : List Int}, l.Perm m → l.Pairwise (· ≤ ·) → m.Pairwise (· ≤ ·) → l = m
  | [], m, p, _, _ => (List.Perm.eq_nil p.symm).symm
  | x :: l, [], p, _, _ => absurd p.length_eq (by simp)
  | x :: l, y :: m, p, h, k => by
    obtain ⟨h1, h2⟩ := List.pairwise_cons.mp h
    obtain ⟨k1, k2⟩ := List.pairwise_cons.mp k
    have e : x = y := by
      have a : y ≤ x := by
        rcases List.mem_cons.mp (p.mem_iff.mp List.mem_cons_self) with e | m1
        · omega
        · exact k1 x m1
      have b : x ≤ y := by
        rcases List.mem_cons.mp (p.mem_iff.mpr List.mem_cons_self) with e | m1
        · omega
        · exact h1 y m1
      omega
    subst e
    rw [sorted_uniq (List.Perm.cons_inv p) h2 k2]
theorem asc_is {l m : List Int} (p : l.Perm m) (h : l.Pairwise (· ≤ ·)) : l = asc m := sorted_uniq (p.trans (asc_perm m).symm) h (asc_sorted m)
theorem dsc_is {l m : List Int} (p : l.Perm m) (h : l.Pairwise (· ≥ ·)) : l = (asc m).reverse := by
  have e := asc_is ((List.reverse_perm l).trans p) (List.pairwise_reverse.mpr h)
  rw [← e, List.reverse_reverse]
section
variable {K : PySem.W.Frag} {ρ : List Sl} {O : List (Addr × Ow)} {te : TE} {tk : TE} {kvs : List (Int × Int)} {ns : List Int} {i j : Nat} {p : Addr} {k z d : Int}
theorem el_ints {H0 H1 : Hp} {r : Addr} : RvA K (del r H1) (ns.map V.int) (ns.map PyData.int) := RvA.ofInts ns
theorem el_sortedD (h : Ev K ρ O te (.dict (encP kvs))) : EvL K ρ O (tCB rSortedD (tCons te tNil)) ((asc (kvs.map (·.1))).map PyData.int) := fun H0 σ H s Q q =>
  h H0 σ H s _ fun v H1 e r => by
    obtain ⟨a, rfl, ha⟩ := r.isDict
    refine ⟨a, kvs, rfl, fr_ex s.base e _ _ ha, fun ns' p hp ho hq => ?_⟩
    obtain rfl := asc_is hp ho
    exact q p _ _ (ex_none e hq) (e.trans (Ex.new hq)) upd_same (RvA.ofInts _)
theorem el_sortedDR (h : Ev K ρ O te (.dict (encP kvs))) : EvL K ρ O (tCKw rSortedDR (tCons te tNil) (tCons (tC (.bl true)) tNil)) ((asc (kvs.map (·.1))).reverse.map PyData.int) := fun H0 σ H s Q q =>
  h H0 σ H s _ fun v H1 e r => by
    obtain ⟨a, rfl, ha⟩ := r.isDict
    refine ⟨a, kvs, rfl, rfl, fr_ex s.base e _ _ ha, fun ns' p hp ho hq => ?_⟩
    obtain rfl := dsc_is hp ho
    exact q p _ _ (ex_none e hq) (e.trans (Ex.new hq)) upd_same (RvA.ofInts _)
theorem ev_dgetD (h : Ev K ρ O te (.dict (encP kvs))) (hk : Ev K ρ O tk (.int k)) (hv : dval kvs k = some z) : Ev K ρ O (tDGet te tk) (.int z) := fun H0 σ H s Q q =>
  h H0 σ H s _ fun v H1 e r => hk H0 σ H1 (s.keep e) _ fun u H2 e2 r2 => by
    obtain ⟨a, rfl, ha⟩ := r.isDict
    obtain rfl := r2.isInt
    refine ⟨a, V.int z, rfl, ?_, q _ H2 (e.trans e2) (.int _)⟩
    have g := DGet.k (k := Sum.inl k) (e2 _ _ (fr_ex s.base e _ _ ha))
    rw [encD_val, hv] at g
    exact g
end
end Pw

set_option Elab.async false
set_option linter.all false
set_option maxRecDepth 100000
set_option maxHeartbeats 2000000
set_option autoImplicit false
/-! min of a pair; sorted of nested data. -/
namespace Pw
open PySem PySem.Spec PyProof.Rows L2
open Evl (Ex)
section
variable {X : Cx}
/-- min((i, j)) -/
def rMinT (K : PySem.W.Frag) : List V → Hp → VK → Prop := fun vs H Q => ∃ (a : Addr) (i j : Int), vs = [V.ref a] ∧ SqT K H a [.int i, .int j] ∧ Q (.int (if j < i then j else i)) H
theorem cp_minT (hu : X.A.units + 64 < cLine) (hc : X.calm = true := by rfl) : CallR X (.builtin "min") (rMinT X.K) := by
  intro pins s σ H vs us Q I r h
  obtain ⟨a, i, j, rfl, hs, q⟩ := h
  obtain ⟨its, rv, hl, _⟩ := I.tuple hs
  rw [Vals.ref1 r]
  have hd : DpAll X.K H [V.int i, V.int j] [PyData.int i, PyData.int j] := .cons (.int i) (.cons (.int j) .nil)
  obtain ⟨as, hr⟩ := Dp.readsAll I _ _ _ hd rv
  refine PySem.W.min_tuple_data (x := .int i) (xs := [.int j]) (I.ok.hd hc) hl hr ⟨fun x hx y hy => ?_, fun x hx => ?_⟩ ?_ fun k v h' tk bs hv hr' hk => ?_
  · simp only [List.mem_cons, List.not_mem_nil, or_false] at hx hy
    rcases hx with rfl | rfl <;> rcases hy with rfl | rfl <;> rfl
  · simp only [List.mem_cons, List.not_mem_nil, or_false] at hx
    rcases hx with rfl | rfl <;> (intro z; cases z)
  · show X.A.units + 1 + 0 < cLine
    omega
  · have e := PySem.W.minD_ints i [j]
    have e2 : PySem.W.minD (.int i) [.int j] = .int (if j < i then j else i) := by
      refine Eq.trans e ?_
      show PyData.int (min i j) = _
      congr 1
      rw [Int.min_def]
      split <;> split <;> omega
    rw [e2] at hr'
    obtain ⟨t, rfl, _⟩ := PyProof.Rows.reads_int_inv hr'
    exact ⟨.int _, H, I.kept hk, ⟨t, rfl⟩, q⟩
/-- sorted(xs), xs nested data of one kind -/
def rSortedN (K : PySem.W.Frag) : List V → Hp → VK → Prop := fun vs H Q => ∃ (a : Addr) (ws : List V) (ds : List PyData), vs = [V.ref a] ∧ SqL K H a ws ∧ RvA K H ws ds ∧ PyData.canLayAll0 ds = true ∧ PySem.W.AllAlike ds ∧ PySem.W.Sortable ds ∧ (∀ d ∈ ds, d.depth ≤ 50) ∧
  ∀ (ws' : List V) (p : Addr), H p = none → (∀ G : Hp, RvA K G ws ds → RvA K G ws' (ds.mergeSort (PySem.W.dataLe false id))) → Q (.ref p) (upd H p (.lst ws'))
theorem each_vals {us : List Value} : ∀ {ws : List V} {ds : List PyData} {us : List Value}, Vals ws us → ws.length = ds.length → PySem.W.EachIs (fun (v : Value) (b : V × PyData) => RelV b.1 v) us (ws.zip ds)
  | [], [], _, .nil, _ => .nil
  | w :: ws, d :: ds, _, .cons a b, h => .cons a (each_vals (us := us) b (by simpa using h))
theorem vals_each : ∀ {us : List Value} {bs : List (V × PyData)}, PySem.W.EachIs (fun (v : Value) (b : V × PyData) => RelV b.1 v) us bs → Vals (bs.map (·.1)) us
  | _, _, .nil => .nil
  | _, _, .cons a b => .cons a (vals_each b)
theorem zip_snd : ∀ {ws : List V} {ds : List PyData}, ws.length = ds.length → (ws.zip ds).map (·.2) = ds
  | [], [], _ => rfl
  | _ :: ws, d :: ds, h => by
    rw [List.zip_cons_cons, List.map_cons, zip_snd (by simpa using h)]
theorem zip_mem_rv {K : PySem.W.Frag} {G : Hp} : ∀ {ws : List V} {ds : List PyData}, RvA K G ws ds → ∀ b ∈ ws.zip ds, Rv K G b.1 b.2
  | _, [], h, b, hb => by cases h; cases hb
  | _, d :: ds, h, b, hb => by
    cases h with
    | cons r rs =>
      rcases List.mem_cons.mp hb with e | hb
      · subst e; exact r
      · exact zip_mem_rv rs b hb
theorem rva_of {K : PySem.W.Frag} {G : Hp} : ∀ {bs : List (V × PyData)}, (∀ b ∈ bs, Rv K G b.1 b.2) → RvA K G (bs.map (·.1)) (bs.map (·.2))
  | [], _ => .nil
  | b :: bs, h => .cons (h b List.mem_cons_self) (rva_of fun c hc => h c (List.mem_cons_of_mem _ hc))
theorem cp_sortedN (hu : X.A.units + 64 < cLine) : CallR X (.builtin "sorted") (rSortedN X.K) := by
  intro pins s σ H vs us Q I r h
  obtain ⟨a, ws, ds, rfl, hs, hr, hcl, hal, hso, hdp, q⟩ := h
  obtain ⟨its, rv, hl, hz⟩ := I.list hs
  rw [Vals.ref1 r]
  have hlen := hr.length
  have e2 := zip_snd hlen
  obtain ⟨as, hrd⟩ := Dp.readsAll I _ _ _ (RvA.dp ds ws hcl hr) rv
  refine PySem.W.sorted_data (bs := ws.zip ds) (enc := Prod.snd) (R := fun (v : Value) (b : V × PyData) => RelV b.1 v) hl.isList (each_vals (us := its) rv hlen) (PySem.W.readsAll_each (enc := Prod.snd) (as := as) (by rw [e2]; exact hrd)) (by rw [e2]; exact hal) (by rw [e2]; exact hso) ?_ (fun b hb => ?_) fun out ho hout => ?_
  · rw [List.length_zip]; omega
  · have hm : b.2 ∈ ds := by
      have : b.2 ∈ (ws.zip ds).map (·.2) := List.mem_map.mpr ⟨b, hb, rfl⟩
      rw [e2] at this; exact this
    have := hdp _ hm
    show X.A.units + 2 + b.2.depth < cLine
    omega
  · obtain ⟨ep, he'⟩ := PyProof.Rows.sortedAll_at s.heap its (List.toArray out)
    have hv := vals_each hout
    have hperm := List.mergeSort_perm (ws.zip ds) (PySem.W.dataLe false Prod.snd)
    have hds : ((ws.zip ds).mergeSort (PySem.W.dataLe false Prod.snd)).map (·.2) = ds.mergeSort (PySem.W.dataLe false id) := by
      have h1 := List.map_mergeSort (f := Prod.snd) (r := PySem.W.dataLe false Prod.snd) (s := PySem.W.dataLe false id) (l := ws.zip ds) (fun x hx y hy => rfl)
      rw [h1, e2]
    refine ⟨.ref _, upd H (s.heap.objs.size + 1) (.lst (((ws.zip ds).mergeSort (PySem.W.dataLe false Prod.snd)).map (·.1))), I.laid (t' := s.toks) (fun _ _ => PyProof.Rows.sortedAll_old) (Nat.le_succ _) ⟨?_, out, ep, hv, he'⟩, rfl, q _ _ (I.hok.fresh (Nat.le_succ _)) fun G hG => ?_⟩
    · rw [List.length_map, hperm.length_eq, List.length_zip]; omega
    · rw [← hds]
      exact rva_of fun b hb => zip_mem_rv hG b (hperm.mem_iff.mp hb)
end
section
variable {K : PySem.W.Frag} {ρ : List Sl} {O : List (Addr × Ow)} {te : TE} {ds : List PyData} {i j : Int}
theorem cb_minT : Cb K (rMinT K) [.tuple [.int i, .int j]] (.int (if j < i then j else i)) := fun G H vs Q e r q => by
  cases r with
  | cons r r0 =>
    cases r0
    obtain ⟨a, ws, rfl, hs, hr⟩ := r.isTuple
    cases hr with
    | cons r1 hr =>
      cases hr with
      | cons r2 hr =>
        cases hr
        cases r1
        cases r2
        exact ⟨a, i, j, rfl, Evl.ex_t e hs, q _ H (Ex.refl H) (.int _)⟩
theorem el_sortedN (h : Ev K ρ O te (.list ds)) (hcl : PyData.canLayAll0 ds = true) (hal : PySem.W.AllAlike ds) (hso : PySem.W.Sortable ds) (hdp : ∀ d ∈ ds, d.depth ≤ 50) : EvL K ρ O (tCB (rSortedN K) (tCons te tNil)) (ds.mergeSort (PySem.W.dataLe false id)) := fun H0 σ H s Q q =>
  h H0 σ H s _ fun v H1 e r => by
    obtain ⟨a, ws, rfl, hs, hr⟩ := r.isList
    have eb := fr_ex s.base e
    refine ⟨a, ws, ds, rfl, Evl.ex_l eb hs, hr.up eb, hcl, hal, hso, hdp, fun ws' p hp hG => ?_⟩
    refine q p ws' _ (ex_none e hp) (e.trans (Ex.new hp)) upd_same (hG _ (hr.up (ex_del (fr_out (Ex.new hp)) ?_)))
    rw [fr_none (ex_none e hp)]
    exact hp
end

/-! ### statements more -/
section
variable {K : PySem.W.Frag} {E : En} {H H3 : Hp} {σ σ3 : L2.St} {ρ ρ' : List Sl} {O : List (Addr × Ow)} {i j : Nat} {te te1 te2 : TE} {x y : PyData} {xs ys : List PyData} {D : Ends} {tz : TS} {p : Addr} {ws : List V}
theorem d_parDD (s : Sg K E σ H ρ O) (h1 : Ev K ρ O te1 x) (h2 : Ev K ρ O te2 y) (k : ∀ σ' H', Ex H H' → Sg K E σ' H' ((ρ.set i (.d x)).set j (.d y)) O → D.nx σ' H') (hi : i < ρ.length := by exact Nat.le_of_ble_eq_true rfl) (hj : j < ρ.length := by exact Nat.le_of_ble_eq_true rfl) : tPar i j (tCons te1 (tCons te2 tNil)) D σ H := by
  obtain ⟨H0, s⟩ := s
  refine h1 H0 σ H s.s _ fun v H1 e1 r1 => h2 H0 σ H1 (s.s.keep e1) _ fun w H2 e2 r2 => ⟨v, w, rfl, ?_⟩
  have s' := s.step (e1.trans e2)
  exact k _ H2 (e1.trans e2) ⟨_, s'.to ((s'.s.store hi (r1.up (fr_out e2))).store (by rw [List.length_set]; exact hj) (r2.up (fr_chain s.s.base e1)))⟩
theorem q_parDD (s : Sg K E σ H ρ O) (h1 : Ev K ρ O te1 x) (h2 : Ev K ρ O te2 y) (k : ∀ σ' H', Ex H H' → Sg K E σ' H' ((ρ.set i (.d x)).set j (.d y)) O → tz D σ' H') (hi : i < ρ.length := by exact Nat.le_of_ble_eq_true rfl) (hj : j < ρ.length := by exact Nat.le_of_ble_eq_true rfl) : tSeq (tPar i j (tCons te1 (tCons te2 tNil))) tz D σ H := d_parDD (D := { D with nx := tz D }) s h1 h2 k hi hj
/-- a datum, and a new list of one's own -/
theorem q_parDO (s : Sg K E σ H ρ O) (h1 : Ev K ρ O te1 x) (h2 : EvL K ρ O te2 ys) (k : ∀ σ' H' p, Ex H H' → Sg K E σ' H' ((ρ.set i (.d x)).set j (.o p)) ((p, .lst ys) :: O) → tz D σ' H') (hi : i < ρ.length := by exact Nat.le_of_ble_eq_true rfl) (hj : j < ρ.length := by exact Nat.le_of_ble_eq_true rfl) : tSeq (tPar i j (tCons te1 (tCons te2 tNil))) tz D σ H := by
  obtain ⟨H0, s⟩ := s
  refine h1 H0 σ H s.s _ fun v H1 e1 r1 => ?_
  have s1 := s.step e1
  refine h2 _ σ H1 s1.s _ fun p ws H2 hp e2 hw r2 => ⟨v, _, rfl, ?_⟩
  have s2 := s1.own (w := .lst ys) e2 hp ⟨del_at, ws, hw, r2⟩
  refine k _ H2 p (e1.trans e2) ⟨_, s2.to ((s2.s.store hi (r1.up ?_)).storeA (by rw [List.length_set]; exact hj))⟩
  exact ex_del (ex_fr s1.s.base) (ex_none s1.s.base hp)
/-- a new list as a datum, its place told -/
theorem q_asgF (s : Sg K E σ H ρ O) (h : EvL K ρ O te xs) (k : ∀ p ws H', H p = none → Ex H H' → H' p = some (.lst ws) → ws.length = xs.length → Sg K E (σ.set i (some (.ref p))) H' (ρ.set i (.d (.list xs))) O → tz D (σ.set i (some (.ref p))) H') (hi : i < ρ.length := by exact Nat.le_of_ble_eq_true rfl) : tSeq (tAsg te (gName i)) tz D σ H := by
  obtain ⟨H0, s⟩ := s
  refine h H0 σ H s.s _ fun p ws H1 hp e hw r => ?_
  have s' := s.step e
  refine k p ws H1 hp e hw r.length ⟨_, s'.to (s'.s.store hi (.lst (.inl (.inl ?_)) (r.up del_ex)))⟩
  rw [fr_none hp]; exact hw
theorem s1_none (n : Nat) (h : σ.length = n) : S1 K (fun _ => none) σ H (List.replicate n .no) [] := by
  refine ⟨fun _ _ e => (nomatch e), by rw [List.length_replicate]; exact h, fun i x e => ?_, fun i p e => ?_, fun p w m => (nomatch m)⟩
  · rw [List.getElem?_replicate] at e
    split at e <;> cases e
  · rw [List.getElem?_replicate] at e
    split at e <;> cases e
/-- an item put behind a list that stands in a slot, whatever else leans on it -/
theorem d_appR {n : Nat} (hn : σ.length = n) (hσ : σ[j]? = some (some (.ref p))) (hp : H p = some (.lst ws)) (h : Ev K (List.replicate n .no) [] te x) (hz : ws.length < 100000) (k : ∀ v H1, Ex H H1 → Rv K H1 v x → D.nx σ (upd H1 p (.lst (ws ++ [v])))) : tDrop (tBM K "list" rAppend (tVar j) (tCons te tNil)) D σ H := by
  refine ⟨_, hσ, .inl ⟨rfl, ws, SqL.of hp⟩, h _ σ H (s1_none n hn) _ fun v H1 e r => ?_⟩
  exact ⟨p, ws, v, rfl, rfl, e p _ hp, Evl.sz_lt hz, k v H1 e (r.up (fr_ex (fun _ _ e => nomatch e) e))⟩
theorem q_appR {n : Nat} (hn : σ.length = n) (hσ : σ[j]? = some (some (.ref p))) (hp : H p = some (.lst ws)) (h : Ev K (List.replicate n .no) [] te x) (hz : ws.length < 100000) (k : ∀ v H1, Ex H H1 → Rv K H1 v x → tz D σ (upd H1 p (.lst (ws ++ [v])))) : tSeq (tDrop (tBM K "list" rAppend (tVar j) (tCons te tNil))) tz D σ H := d_appR (D := { D with nx := tz D }) hn hσ hp h hz k
/-- back to what was known ahead: slots that have changed are forgotten -/
theorem Sg.back (s : Sg K E σ H ρ O) (e : Ex H H3) (hl : σ3.length = σ.length) (w : Wk ρ ρ') (hσ : ∀ (i : Nat) (x : Sl), ρ'[i]? = some x → x ≠ Sl.no → σ3[i]? = σ[i]?) : Sg K E σ3 H3 ρ' O := by
  obtain ⟨H0, s⟩ := s
  have s' := (s.keep e).to ((s.keep e).s.weak w)
  refine ⟨H0, s'.to ⟨s'.s.base, hl.trans s'.s.len, fun i x h => ?_, fun i p h => ?_, s'.s.own⟩⟩
  · obtain ⟨v, h1, h2⟩ := s'.s.env i x h
    exact ⟨v, by rw [hσ i _ h (fun z => nomatch z)]; exact h1, h2⟩
  · rw [hσ i _ h (fun z => nomatch z)]
    exact s'.s.adr i p h
theorem set_off {a : Option V} (h : ρ'[j]? = some .no) {i : Nat} {x : Sl} (hx : ρ'[i]? = some x) (hn : x ≠ .no) : (σ.set j a)[i]? = σ[i]? := by
  refine List.getElem?_set_ne fun e => ?_
  subst e
  rw [h] at hx
  cases hx
  exact hn rfl
end
end Pw

set_option Elab.async false
set_option linter.all false
set_option maxRecDepth 100000
set_option maxHeartbeats 4000000
set_option autoImplicit false
/-! set(a list of ints), as the ledger of places; its length, and it sorted. -/
namespace Pw
open PySem PySem.Spec PyProof.Rows L2
open Evl (Ex)
/-- a new empty set -/
abbrev eSet (w : World) : Obj := ⟨.type "set", none, .set #[] 0 (.fresh 0 0 (!w.params.followText "set-order")), #[]⟩
abbrev plus (s : Shared) (w : World) : Heap := s.heap.push (eSet w)
section
variable {P : Program} {w : World}
variable {A : Around} {E : Value → Shared → Prop}
variable {s : Shared} {l : Addr} {xs : Array Value}
/-- what the making tells of the end -/
def Made (w : World) (s : Shared) (ns : List Int) (h2 : Heap) (c : Nat) : Prop :=
  SetR w h2 s.heap.objs.size (fun j => decide (j ∈ ns)) c ∧ c ≤ ns.length ∧ ∀ b o, s.heap.get? b = some o → h2.get? b = some o
theorem vals_at {ns : List Int} (e : xs.size = ns.length) (g : IntsAre xs.toList ns) (i : Nat) (v : Value) (hv : xs[i]? = some v) : ∃ k t, ns[i]? = some k ∧ v = .int k t := by
  obtain ⟨hi, _⟩ := Array.getElem?_eq_some_iff.mp hv
  rw [e] at hi
  rw [← Array.getElem?_toList] at hv
  obtain ⟨t, et⟩ := IntsAre.int_at g i v hv
  refine ⟨ns[i], t, List.getElem?_eq_getElem hi, et.trans ?_⟩
  rw [List.getD_eq_getElem?_getD]
  rw [List.getElem?_eq_getElem hi]
  rfl
set_option maxRecDepth 100000 in
theorem set_from {ns : List Int} {Q : Value → Shared → Prop}
    (hh : A.handled = none) (hl : s.heap.IsList l xs)
    (g : IntsAre xs.toList ns) (hb : ns.length + 1 < scanBound)
    (q : ∀ h2 tk c, Made w s ns h2 c → Q (.ref s.heap.objs.size) { s with heap := h2, toks := tk }) :
    wpAny (model P w) A (call (.type "set") [.ref l]) Q E s := by
  have sz : xs.size = ns.length := by
    have e := IntsAre.length g
    simpa using e
  obtain ⟨_, _, m1⟩ := F.called_set.mro
  have m2 := F.called_set.made
  have m3 := F.called_set.sub
  have m4 := F.called_set.notType
  have m5 := F.called_set.canCreate
  have m6 := F.typeCall_set_1 (.ref l)
  refine wpAny_call ?_
  refine codeAny_of_tree ?_
  show wpAny _ A.in1 (callAny (.type "set") ⟨[.ref l], []⟩) _ _ _
  refine wpAny_pure ⟨Code.quiet_builtin _ ?z, ?_⟩
  case z => decide +kernel
  refine codeAny_builtin F.entry_type_call ?_
  have wt := weight_type_call_type "set" [.ref l] []
  rw [Around.under_plain wt rfl]
  repeat any_goals first | assumption | wp_step
  refine codeAny_mono
    (code_set_led1 (.ref l) (E := E)
      (Q₁ := fun v s₁ => v = .ref s.heap.objs.size ∧
        s₁ = { s with heap := plus s w }) ⟨rfl, rfl⟩)
    fun r s₁ hr => ?_
  match r, hr with
  | .error _, hr => exact hr
  | .ok (.ret v), hr =>
    obtain ⟨rfl, rfl⟩ := hr
    have at0 : (plus s w).get? s.heap.objs.size = some (eSet w) := Heap.get?_push_size _ rfl
    have ty : Shared.TypeIs { s with heap := plus s w } (.ref s.heap.objs.size) "set" := ⟨_, at0, rfl⟩
    have m7 := F.called_set.init.lookup
    have m8 := F.called_set.init.bind (.ref s.heap.objs.size)
    repeat any_goals first | assumption | wp_step
    refine codeAny_mono (codeAny_call_builtin
      (R := wants (fun r t => r = .none ∧ ∃ h2 tk c,
        t = { s with heap := h2, toks := tk } ∧ Made w s ns h2 c) E)
      F.called_set.init.plain F.entry_set_init
      (check_set_init_1 ty ?_)) fun r t hr => ?_
    · obtain ⟨⟨oc, od, oz, os⟩, ho, h1, nl, h2⟩ := hl
      simp only at h1 h2
      subst h1 h2
      have ho2 := Heap.get?_push_of_some (eSet w) ho
      have s1 := F.sub_list_set
      have s2 := F.sub_list_frozenset
      have nd : (Value.type "list" == .type "dict") = false := by decide
      have il : (plus s w).IsList l xs := ⟨_, ho2, rfl, nl, rfl⟩
      unfold Builtin.«set.__init__»
      unfold noKeywords
      unfold Builtin.Frozenset.updateFrom
      generalize ei : pyIter = I
      wp_walk
      subst ei
      refine wpAny_pyIter_list il ?_
      refine wpAny_bind ?_
      refine wpAny_runValue ?_
      have ll : l < s.heap.objs.size := Heap.lt_size ho
      have h3 : A.in1.in1.in1.handled = none := by
        simp [hh]
      have pz : (plus s w).objs.size = s.heap.objs.size + 1 := Heap.size_push ..
      have n1 : l ≠ (plus s w).objs.size := by
        rw [pz]
        exact Nat.ne_of_lt (Nat.lt_succ_of_lt ll)
      have n2 : s.heap.objs.size ∉ [(plus s w).objs.size, l] := by
        intro z
        rcases List.mem_cons.mp z with z | z
        · rw [pz] at z
          exact absurd z (Nat.ne_of_lt (Nat.lt_succ_self _))
        · exact absurd (List.mem_singleton.mp z) (Nat.ne_of_gt ll)
      refine set_update_ints
        ((Walks.list h3 _ l n1 xs).toS)
        s.heap.objs.size n2 ns sz hb
        (vals_at sz g) (xs.size - 0) 0 _
        (by omega) (Nat.zero_le _)
        ⟨⟨_, Heap.get?_push_size _ rfl, rfl, rfl⟩,
          il.push _⟩ ⟨0, Nat.le_refl 0, setR_new_at (Heap.get?_push_of_some _ at0)⟩ ?_
      intro t c mv hc R
      obtain ⟨th, tg, td, tk, to⟩ := t
      obtain rfl : tg = s.gens := mv.gens
      obtain rfl : td = s.drawn := mv.drawn
      obtain rfl : to = s.os := mv.os
      show wpAny _ _ _ _ _ _
      refine wpAny_pure ?_
      show wpAny _ _ (ret .none) _ _ _
      rw [sz] at hc
      refine wpAny_pure ⟨rfl, th, tk, c, rfl, R, hc, fun b o e => ?_⟩
      have b0 := Heap.lt_size e
      have e2 := Heap.get?_push_of_some (eSet w) e
      refine mv.heap b o (fun z => ?_) (Heap.get?_push_of_some _ e2)
      rcases List.mem_cons.mp z with z | z
      · exact absurd z (Nat.ne_of_lt b0)
      · have z2 := List.mem_singleton.mp z
        rw [pz] at z2
        exact absurd z2 (Nat.ne_of_lt (Nat.lt_succ_of_lt b0))
    · match r, hr with
      | .error _, hr => exact hr
      | .ok (.ret _), hr =>
        obtain ⟨rfl, h2, tk, c, rfl, m⟩ := hr
        repeat any_goals first | assumption | wp_step
        exact q _ _ _ m
      | .ok .next, hr => exact hr.elim
      | .ok .brk, hr => exact hr.elim
      | .ok .cont, hr => exact hr.elim
  | .ok .next, hr => exact hr.elim
  | .ok .brk, hr => exact hr.elim
  | .ok .cont, hr => exact hr.elim
end
section
variable {X : Cx} {K : PySem.W.Frag}
/-- set(xs), xs a list of ints -/
def rSetI (K : PySem.W.Frag) (w : World) : List V → Hp → VK → Prop := fun vs H Q => ∃ (a : Addr) (ns : List Int), vs = [.ref a] ∧ SqL K H a (ns.map V.int) ∧ ns.length ≤ 4000 ∧
  ∀ p c, H p = none → c ≤ ns.length → (∃ ks : List Int, ks.Nodup ∧ (∀ k, k ∈ ks ↔ k ∈ ns) ∧ ks.length = c) → Q (.ref p) (upd H p (SetO w p (fun j => decide (j ∈ ns)) c))
theorem cp_setI (hK : X.K = K) (hc : X.calm = true) : CallR X (.type "set") (rSetI K X.w) := by
  intro pins s σ H vs us Q I r h
  subst hK
  obtain ⟨a, ns, rfl, hs, hn, q⟩ := h
  rw [Vals.ref1 r]
  obtain ⟨its, rv, pl, hz⟩ := I.list hs
  have gi := ints_of_vals rv
  refine set_from (I.ok.hd hc) pl.isList (by simpa using gi) (by unfold scanBound; omega) fun h2 tk c m => ?_
  have kk : ∃ ks : List Int, ks.Nodup ∧ (∀ k, k ∈ ks ↔ k ∈ ns) ∧ ks.length = c := by
    obtain ⟨_, es, _, _, _, _, _, _, nd, hm, _, _, hc', _⟩ := m.1
    refine ⟨es.toList.map keyOf, nd, fun k => ?_, ?_⟩
    · rw [← hm k]
      exact decide_eq_true_iff
    · rw [List.length_map, Array.length_toList]
      exact hc'
  exact ⟨.ref _, _, I.laid (t' := tk) m.2.2 (Nat.le_refl _) (setO_new m.1), rfl, q _ c (I.hok.fresh (Nat.le_refl _)) m.2.1 kk⟩
/-- len(a set of ints) -/
def rLenO (w : World) : List V → Hp → VK → Prop := fun vs H Q => ∃ (a : Addr) (S : Int → Bool) (n : Nat), vs = [.ref a] ∧ H a = some (SetO w a S n) ∧ n ≤ 4000 ∧ Q (.int (n : Nat)) H
theorem cp_lenO : CallR X (.builtin "len") (rLenO X.w) := by
  intro pins s σ H vs us Q I r h
  obtain ⟨a, S, n, rfl, ha, hn, q⟩ := h
  rw [Vals.ref1 r]
  obtain ⟨_, _, _, _, ho, hex, hd, _, _, _, _, hf, hz, _⟩ := setO_get I ha
  exact call_len_set ho hex hd hf (by rw [hz]; omega) ⟨.int (n : Nat), H, I.tok _, ⟨_, by rw [hz]⟩, q⟩
end
end Pw

set_option Elab.async false
set_option linter.all false
set_option maxRecDepth 100000
set_option maxHeartbeats 2000000
set_option autoImplicit false
/-! sorted(set(xs)), len(set(xs)) as data; xs[::2]; extend. -/
namespace Pw
open PySem PySem.Spec PyProof.Rows L2
open Evl (Ex)
def insU (k : Int) : List Int → List Int
  | [] => [k]
  | x :: r => if k < x then k :: x :: r else if k = x then x :: r else x :: insU k r
def sortU : List Int → List Int
  | [] => []
  | k :: r => insU k (sortU r)
theorem insU_mem (k j : Int) : ∀ l : List Int, j ∈ insU k l ↔ j = k ∨ j ∈ l
  | [] => by simp [insU]
  | x :: r => by
    unfold insU
    split
    · simp
    · split
      · rename_i h
        subst h
        simp
      · rw [List.mem_cons, insU_mem k j r, List.mem_cons]
        constructor
        · rintro (h | h | h)
          · exact .inr (.inl h)
          · exact .inl h
          · exact .inr (.inr h)
        · rintro (h | h | h)
          · exact .inr (.inl h)
          · exact .inl h
          · exact .inr (.inr h)
theorem insU_asc (k : Int) : ∀ {l : List Int}, l.Pairwise (· < ·) → (insU k l).Pairwise (· < ·)
  | [], _ => List.pairwise_singleton _ _
  | x :: r, h => by
    obtain ⟨h1, h2⟩ := List.pairwise_cons.mp h
    unfold insU
    split
    · rename_i hk
      refine List.pairwise_cons.mpr ⟨fun y hy => ?_, h⟩
      rcases List.mem_cons.mp hy with rfl | hy
      · exact hk
      · have := h1 y hy; omega
    · split
      · exact h
      · refine List.pairwise_cons.mpr ⟨fun y hy => ?_, insU_asc k h2⟩
        rcases (insU_mem k y r).mp hy with rfl | hy
        · omega
        · exact h1 y hy
theorem sortU_mem (j : Int) : ∀ ns : List Int, j ∈ sortU ns ↔ j ∈ ns
  | [] => Iff.rfl
  | k :: r => by
    unfold sortU
    rw [insU_mem, sortU_mem j r, List.mem_cons]
theorem sortU_asc : ∀ ns : List Int, (sortU ns).Pairwise (· < ·)
  | [] => List.Pairwise.nil
  | k :: r => insU_asc k (sortU_asc r)
theorem asc_uniq : ∀ {a b : List Int}, a.Pairwise (· < ·) → b.Pairwise (· < ·) → (∀ k, k ∈ a ↔ k ∈ b) → a = b
  | [], [], _, _, _ => rfl
  | [], y :: b, _, _, h => absurd ((h y).mpr List.mem_cons_self) (by simp)
  | x :: a, [], _, _, h => absurd ((h x).mp List.mem_cons_self) (by simp)
  | x :: a, y :: b, ha, hb, h => by
    obtain ⟨a1, a2⟩ := List.pairwise_cons.mp ha
    obtain ⟨b1, b2⟩ := List.pairwise_cons.mp hb
    have e : x = y := by
      rcases List.mem_cons.mp ((h x).mp List.mem_cons_self) with e | m
      · exact e
      · rcases List.mem_cons.mp ((h y).mpr List.mem_cons_self) with e | m2
        · exact e.symm
        · have := b1 x m; have := a1 y m2; omega
    subst e
    rw [asc_uniq a2 b2 fun k => ?_]
    constructor
    · intro hk
      rcases List.mem_cons.mp ((h k).mp (List.mem_cons_of_mem _ hk)) with e | m
      · have := a1 k hk; omega
      · exact m
    · intro hk
      rcases List.mem_cons.mp ((h k).mpr (List.mem_cons_of_mem _ hk)) with e | m
      · have := b1 k hk; omega
      · exact m
theorem sortU_nodup (ns : List Int) : (sortU ns).Nodup := (sortU_asc ns).imp fun h e => by subst e; omega
theorem sortU_len {ks ns : List Int} (h : ks.Nodup) (hm : ∀ k, k ∈ ks ↔ k ∈ ns) : ks.length = (sortU ns).length :=
  ((List.perm_ext_iff_of_nodup h (sortU_nodup ns)).mpr fun k => (hm k).trans (sortU_mem k ns).symm).length_eq
section
variable {K : PySem.W.Frag} {w : World} {ρ : List Sl} {O : List (Addr × Ow)} {te : TE} {ns : List Int}
theorem el_sortU (h : Ev K ρ O te (.list (ns.map PyData.int))) (hn : ns.length < 64) : EvL K ρ O (tCB (rSortedSet w) (tCons (tCB (rSetI K w) (tCons te tNil)) tNil)) ((sortU ns).map PyData.int) := fun H0 σ H s Q q =>
  h H0 σ H s _ fun v H1 e1 r => by
    obtain ⟨a, ws, rfl, hs, hr⟩ := r.isList
    obtain rfl := hr.ints
    refine ⟨a, ns, rfl, Evl.ex_l (fr_ex s.base e1) hs, by omega, fun p c hp hc hk => ?_⟩
    refine ⟨p, _, c, rfl, upd_same, by omega, fun ks p2 ha hm hl hp2 => ?_⟩
    have ek : ks = sortU ns := asc_uniq ha (sortU_asc ns) fun k => by
      rw [hm k, sortU_mem]
      exact decide_eq_true_iff
    have e2 := Ex.new (o := SetO w p (fun j => decide (j ∈ ns)) c) hp
    have e3 := Ex.new (o := HO.lst (ks.map V.int)) hp2
    subst ek
    exact q p2 _ _ (ex_none (e1.trans e2) hp2) ((e1.trans e2).trans e3) upd_same (RvA.ofInts _)
theorem ev_lenU (h : Ev K ρ O te (.list (ns.map PyData.int))) (hn : ns.length ≤ 4000) : Ev K ρ O (tCB (rLenO w) (tCons (tCB (rSetI K w) (tCons te tNil)) tNil)) (.int ((sortU ns).length : Nat)) := fun H0 σ H s Q q =>
  h H0 σ H s _ fun v H1 e1 r => by
    obtain ⟨a, ws, rfl, hs, hr⟩ := r.isList
    obtain rfl := hr.ints
    refine ⟨a, ns, rfl, Evl.ex_l (fr_ex s.base e1) hs, hn, fun p c hp hc hk => ?_⟩
    obtain ⟨ks, k1, k2, k3⟩ := hk
    refine ⟨p, _, c, rfl, upd_same, by omega, ?_⟩
    rw [← k3, sortU_len k1 k2]
    exact q _ _ (e1.trans (Ex.new hp)) (.int _)
end
end Pw

set_option Elab.async false
set_option linter.all false
set_option maxRecDepth 100000
set_option maxHeartbeats 2000000
set_option autoImplicit false
/-! A list of one's own, read as a datum for the while of an expression. -/
namespace Pw
open PySem PySem.Spec PyProof.Rows L2
open Evl (Ex)
section
variable {K : PySem.W.Frag} {H0 H H2 : Hp} {σ : L2.St} {ρ : List Sl} {O : List (Addr × Ow)} {i : Nat} {p : Addr} {w : Ow} {te : TE} {tt : TT} {b : Bool}
abbrev frz (p : Addr) (H H0 : Hp) : Hp := fun b => if b = p then H p else H0 b
theorem S1.froz (s : S1 K H0 σ H ρ O) (hi : ρ[i]? = some (.o p)) (hm : (p, w) ∈ O) : S1 K (frz p H H0) σ H (ρ.set i (.d (owD w))) [] := by
  have ho := s.own p w hm
  have hp0 := ho.free
  have e1 : Ex H0 (frz p H H0) := fun a o h => by
    have z : a ≠ p := fun e => by subst e; rw [hp0] at h; cases h
    show (if a = p then H p else H0 a) = some o
    rw [if_neg z]; exact h
  have e2 : Ex (frz p H H0) H := fun a o h => by
    have h' : (if a = p then H p else H0 a) = some o := h
    by_cases z : a = p
    · rw [if_pos z] at h'; rw [z]; exact h'
    · rw [if_neg z] at h'; exact s.base a o h'
  have hil : i < ρ.length := (List.getElem?_eq_some_iff.mp hi).1
  have s1 : S1 K (frz p H H0) σ H ρ [] := ⟨e2, s.len, fun j z h => by
    obtain ⟨u, h1, h2⟩ := s.env j z h
    exact ⟨u, h1, h2.up e1⟩, s.adr, fun q u m => nomatch m⟩
  have hv := s.adr i p hi
  have r : Rv K (frz p H H0) (.ref p) (owD w) := by
    cases w with
    | lst xs =>
      obtain ⟨_, vs, hp, hr⟩ := ho
      exact .lst (.inl (.inl (by show (if p = p then H p else H0 p) = _; rw [if_pos rfl]; exact hp))) (hr.up e1)
    | dct kvs => exact .dct (kvs := kvs) (by show (if p = p then H p else H0 p) = _; rw [if_pos rfl]; exact ho.2) rfl
  have s2 := s1.store hil r
  have e3 : σ.set i (some (.ref p)) = σ := by
    apply List.ext_getElem?
    intro j
    by_cases e : i = j
    · subst e; rw [List.getElem?_set_self (by rw [s.len]; exact hil), hv]
    · rw [List.getElem?_set_ne e]
  rw [e3] at s2
  exact s2
theorem et_froz (hi : ρ[i]? = some (.o p)) (hm : (p, w) ∈ O) (h : EvT K (ρ.set i (.d (owD w))) [] tt b) : EvT K ρ O tt b := fun H0 σ H s Q q => h _ σ H (s.froz hi hm) Q q
theorem ev_frozB (hi : ρ[i]? = some (.o p)) (hm : (p, w) ∈ O) (h : Ev K (ρ.set i (.d (owD w))) [] te (.bool b)) : Ev K ρ O te (.bool b) := fun H0 σ H s Q q => h _ σ H (s.froz hi hm) Q fun v H2 e r => q v H2 e (by rw [r.isBool]; exact .bl b)
theorem ev_frozI {n : Int} (hi : ρ[i]? = some (.o p)) (hm : (p, w) ∈ O) (h : Ev K (ρ.set i (.d (owD w))) [] te (.int n)) : Ev K ρ O te (.int n) := fun H0 σ H s Q q => h _ σ H (s.froz hi hm) Q fun v H2 e r => q v H2 e (by rw [r.isInt]; exact .int n)
theorem sqT_del {G : Hp} {a : Addr} {xs vs : List V} (h : SqT K G a xs) (hp : G p = some (.lst vs)) : SqT K (del p G) a xs := by
  rcases h with (h | ⟨o, h⟩) | h
  · have z : a ≠ p := fun e => by subst e; rw [hp] at h; cases h
    exact .inl (.inl (by rw [del_ne z]; exact h))
  · have z : a ≠ p := fun e => by subst e; rw [hp] at h; cases h
    exact .inl (.inr ⟨o, by rw [del_ne z]; exact h⟩)
  · exact .inr h
theorem prs_del {G : Hp} {vs : List V} (hp : G p = some (.lst vs)) : ∀ (l : List (Int × Int)) (ws : List V), RvA K G ws (l.map fun q => .tuple [.int q.1, .int q.2]) → RvA K (del p G) ws (l.map fun q => .tuple [.int q.1, .int q.2])
  | [], _, h => by cases h; exact .nil
  | q :: l, _, h => by
    cases h with
    | cons h1 h2 =>
      refine .cons ?_ (prs_del hp l _ h2)
      obtain ⟨a, xs, rfl, hs, hr⟩ := h1.isTuple
      have hx := RvA.ints (ns := [q.1, q.2]) hr
      subst hx
      exact .tup (sqT_del hs hp) (RvA.ofInts [q.1, q.2])
theorem el_frozP {xs : List PyData} {l : List (Int × Int)} (hi : ρ[i]? = some (.o p)) (hm : (p, .lst xs) ∈ O) (h : EvL K (ρ.set i (.d (.list xs))) [] te (l.map fun q => .tuple [.int q.1, .int q.2])) : EvL K ρ O te (l.map fun q => .tuple [.int q.1, .int q.2]) := fun H0 σ H s Q q =>
  h _ σ H (s.froz (w := .lst xs) hi hm) Q fun r ws H2 hr e hw rr => by
    obtain ⟨h0, vs, h1, _⟩ := s.own p (.lst xs) hm
    have np : p ≠ r := fun z => by subst z; rw [h1] at hr; cases hr
    have hp : (del r (fr (frz p H H0) H H2)) p = some (.lst vs) := by
      rw [del_ne np, fr_some h1]
      show (if p = p then H p else H0 p) = _
      rw [if_pos rfl]; exact h1
    refine q r ws H2 hr e hw ((prs_del hp l ws rr).up fun b o hb => ?_)
    have z1 : b ≠ p := fun z => by subst z; rw [del_at] at hb; cases hb
    rw [del_ne z1] at hb
    have z2 : b ≠ r := fun z => by subst z; rw [del_at] at hb; cases hb
    rw [del_ne z2] at hb ⊢
    cases hH : H b with
    | none => rw [fr_none hH] at hb ⊢; exact hb
    | some u =>
      rw [fr_some hH] at hb ⊢
      have hb' : (if b = p then H p else H0 b) = some o := hb
      rw [if_neg z1] at hb'
      exact hb'
end
section
variable {K : PySem.W.Frag} {E : En} {H : Hp} {σ : L2.St} {ρ : List Sl} {O : List (Addr × Ow)} {i j : Nat} {te1 te2 : TE} {y : PyData} {xs : List PyData} {D : Ends} {tz : TS}
/-- a new list of one's own, and a datum -/
theorem q_parOD (s : Sg K E σ H ρ O) (h1 : EvL K ρ O te1 xs) (h2 : Ev K ρ O te2 y) (k : ∀ σ' H' p, Ex H H' → Sg K E σ' H' ((ρ.set i (.o p)).set j (.d y)) ((p, .lst xs) :: O) → tz D σ' H') (hi : i < ρ.length := by exact Nat.le_of_ble_eq_true rfl) (hj : j < ρ.length := by exact Nat.le_of_ble_eq_true rfl) : tSeq (tPar i j (tCons te1 (tCons te2 tNil))) tz D σ H := by
  obtain ⟨H0, s⟩ := s
  refine h1 H0 σ H s.s _ fun p ws H1 hp e1 hw r => ?_
  refine h2 H0 σ H1 (s.s.keep e1) _ fun v H2 e2 r2 => ⟨_, v, rfl, ?_⟩
  have s1 := s.own (w := .lst xs) e1 hp ⟨del_at, ws, hw, r⟩
  have s2 := s1.step e2
  have hp1 : (fr (del p (fr H0 H H1)) H1 H2) p = none := by
    rw [fr_some hw]; exact del_at
  refine k _ H2 p (e1.trans e2) ⟨_, s2.to ((s2.s.storeA hi).store (by rw [List.length_set]; exact hj) (r2.up fun b o hb => ?_))⟩
  cases q : H1 b with
  | none => rw [fr_none q] at hb ⊢; exact hb
  | some u =>
    rw [fr_some q] at hb ⊢
    have hbp : b ≠ p := fun z => by
      subst z
      have := ex_none s.s.base hp
      rw [this] at hb; cases hb
    rw [del_ne hbp]
    rw [fr_some (s.s.base b o hb)]
    exact hb
end
end Pw

set_option Elab.async false
set_option linter.all false
set_option maxRecDepth 100000
set_option maxHeartbeats 2000000
set_option autoImplicit false
/-! every other item -/
namespace Pw
open PySem PySem.Spec PyProof.Rows L2
open Evl (Ex)
def ev2 {α : Type} : List α → List α
  | [] => []
  | [a] => [a]
  | a :: _ :: r => a :: ev2 r
theorem ev2_map {α β : Type} (f : α → β) : ∀ l : List α, (ev2 l).map f = ev2 (l.map f)
  | [] => rfl
  | [a] => rfl
  | a :: b :: r => by
    show f a :: (ev2 r).map f = f a :: ev2 (r.map f)
    rw [ev2_map f r]
theorem ev2_sub {α : Type} : ∀ l : List α, (ev2 l).Sublist l
  | [] => List.Sublist.refl _
  | [a] => List.Sublist.refl _
  | a :: b :: r => List.Sublist.cons_cons a (List.Sublist.cons b (ev2_sub r))
theorem ev2_pick {α : Type} : ∀ l : List α, (List.range ((l.length + 1) / 2)).filterMap (fun k => l[2 * k]?) = ev2 l
  | [] => by
    have e : (([] : List α).length + 1) / 2 = 0 := by
      rw [List.length_nil]
    rw [e]
    rfl
  | [a] => by
    have e : ([a].length + 1) / 2 = 1 := by
      rw [List.length_singleton]
    rw [e]
    rfl
  | a :: b :: r => by
    have e : ((a :: b :: r).length + 1) / 2 = (r.length + 1) / 2 + 1 := by
      rw [List.length_cons, List.length_cons]; omega
    rw [e, List.range_succ_eq_map, List.filterMap_cons, List.filterMap_map]
    show a :: _ = a :: ev2 r
    rw [← ev2_pick r]
    congr 1
theorem slice2 (xs : Array Value) : slicePick xs none none (some 2) = (ev2 xs.toList).toArray := by
  have hb : sliceBounds none none (some 2) xs.size = (0, (xs.size : Int), 2) := rfl
  unfold slicePick
  rw [hb, ← ev2_pick]
  show ((sliceRange 0 (xs.size : Int) 2).filterMap (xs[·]?)).toArray = _
  unfold sliceRange
  have hc : (if (2 : Int) > 0 then (if (0 : Int) < (xs.size : Int) then ((xs.size : Int) - 0 + 2 - 1) / 2 else 0) else (if (0 : Int) > (xs.size : Int) then (0 - (xs.size : Int) - 2 - 1) / (-2) else 0)).toNat = (xs.toList.length + 1) / 2 := by
    rw [if_pos (by decide), Array.length_toList]
    split <;> omega
  simp only [hc]
  rw [List.filterMap_map]
  congr 1
  apply congrArg (fun g => List.filterMap g _)
  funext k
  show xs[(0 + 2 * (k : Int)).toNat]? = xs.toList[2 * k]?
  have e : (0 + 2 * (k : Int)).toNat = 2 * k := by omega
  rw [e, Array.getElem?_toList]
theorem vals_ev2 : ∀ {xs : List V} {us : List Value}, Vals xs us → Vals (ev2 xs) (ev2 us)
  | _, _, .nil => .nil
  | _, _, .cons h .nil => .cons h .nil
  | _, _, .cons h (.cons _ t) => .cons h (vals_ev2 t)
def tEv2 (K : PySem.W.Frag) (te : TE) : TE := fun σ H Q => te σ H fun x H1 => ∃ a xs, x = .ref a ∧ SqL K H1 a xs ∧ ∀ p, H1 p = none → Q (.ref p) (upd H1 p (.lst (ev2 xs)))
section
variable {X : Cx} {K : PySem.W.Frag}
theorem pe_step2 (hK : X.K = K) {e : Expr} {te : TE} {k : Nat} {c p2 p3 : Pos} (he : PE X e te) : PE X (.Subscript e (.Slice none none (some (.Constant (.int 2) k c)) p2) p3) (tEv2 K te) := by
  subst hK
  refine ⟨fun pins s σ H Q I h => ?_⟩
  refine Subscript_ ?_
  refine thn (he.run pins s σ H _ I h) fun v t ⟨x, G, J, rv, q⟩ => ?_
  obtain ⟨a, xs, rfl, hx, q⟩ := q
  cases rv
  refine wpAny_Slice ?_
  refine thn (po_none.run pins t σ G (fun o D => o = none ∧ D = G) J ⟨rfl, rfl⟩) ?_
  rintro v1 t1 ⟨_, G1, J1, w1, rfl, rfl⟩
  refine thn (po_none.run pins t1 σ G1 (fun o D => o = none ∧ D = G1) J1 ⟨rfl, rfl⟩) ?_
  rintro v2 t2 ⟨_, G2, J2, w2, rfl, rfl⟩
  have hp : PO X (some (.Constant (.int 2) k c)) (tPart (tC (.int 2))) := po_some pe_int
  refine thn (hp.run pins t2 σ G2 (fun o D => o = some 2 ∧ D = G2) J2 ⟨2, rfl, rfl, rfl⟩) ?_
  rintro v3 t3 ⟨_, G3, J3, w3, rfl, rfl⟩
  let sl : Obj := { cls := .type "slice", data := .fields #[v1, v2, v3] }
  have J4 : Inv X pins σ G3 { t3 with heap := t3.heap.push sl } := J3.kept (t' := t3.toks) fun b o z => Heap.get?_push_of_some _ z
  obtain ⟨us, rs, pl, sz⟩ := J4.list hx
  have lens := rs.length
  show wpAny (model X.prog X.w) X.A (subscriptTail e _ (.ref a) (.ref t3.heap.objs.size)) _ X.xe { t3 with heap := t3.heap.push sl }
  have il := pl.isList
  refine tail_any (ops := [.ref a, .ref t3.heap.objs.size]) il.typeIs PySem.slot_list_getitem.lookup ?_ (by with_unfolding_all rfl)
  have fit : us.toArray.size ≤ sizeLine := by
    rw [List.size_toArray]; omega
  refine wpAny_getItem_list_slice il (Heap.IsSliceOf.new _ v1 v2 v3) w1 w2 w3 (by decide) ?_ fit
  rw [slice2]
  have sub := (ev2_sub xs).length_le
  have hgo := J4.laid (t' := t3.toks) (o := .lst (ev2 xs)) (fun b o z => Heap.get?_push_of_some _ z) (Nat.le_refl _) ⟨Nat.le_trans sub sz, _, 0, vals_ev2 rs, Heap.get?_push_size _ rfl⟩
  exact ⟨.ref _, _, hgo, rfl, q _ (J4.hok.fresh (Nat.le_refl _))⟩
end
section
variable {K : PySem.W.Frag} {ρ : List Sl} {O : List (Addr × Ow)} {te : TE} {xs : List PyData}
theorem rva_ev2 {H : Hp} : ∀ {ds : List PyData} {vs : List V}, RvA K H vs ds → RvA K H (ev2 vs) (ev2 ds)
  | [], _, h => by cases h; exact .nil
  | [d], _, h => by
    cases h with
    | cons a b => cases b; exact .cons a .nil
  | d :: d2 :: r, _, h => by
    cases h with
    | cons a b =>
      cases b with
      | cons b c => exact .cons a (rva_ev2 c)
theorem el_ev2 (h : Ev K ρ O te (.list xs)) : EvL K ρ O (tEv2 K te) (ev2 xs) := fun H0 σ H s Q q =>
  h H0 σ H s _ fun v H1 e r => by
    obtain ⟨a, ws, rfl, hs, hr⟩ := r.isList
    refine ⟨a, ws, rfl, Evl.ex_l (fr_ex s.base e) hs, fun p hp => ?_⟩
    refine q p _ _ (ex_none e hp) (e.trans (Ex.new hp)) upd_same ((rva_ev2 hr).up ?_)
    refine ex_del (fr_out (Ex.new hp)) ?_
    rw [fr_none (ex_none e hp)]
    exact hp
end
end Pw

set_option Elab.async false
set_option linter.all false
set_option maxRecDepth 100000
set_option maxHeartbeats 1000000
set_option autoImplicit false
/-! Objects of one field, as data: made, read, asked. -/
namespace Pw
open PySem PySem.Spec PyProof.Rows L2
open Evl (Ex)
theorem Rv.isOb {K : PySem.W.Frag} {H : Hp} {v : V} {f : Str} {C : Addr} {d : PyData} (h : Rv K H v (obD f C d)) : ∃ a dx u, v = .ref a ∧ OwnC K C ∧ H a = some (.ins C dx [(f, u)]) ∧ Rv K H u d := by
  generalize hx : obD f C d = x at h
  cases h with
  | dct s z =>
    injection hx with hx
    rw [z] at hx
    exfalso
    rename_i kvs _
    cases kvs with
    | nil => cases hx
    | cons e kvs =>
      have h' : obX f C d = (PyData.int e.1, PyData.int e.2) :: encP kvs := hx
      injection h' with h1 _
      injection h1 with h1 _
      cases h1
  | obj c s r z =>
    injection hx with hx
    rw [z] at hx
    unfold obX at hx
    simp only [List.cons.injEq, Prod.mk.injEq, PyData.str.injEq, PyData.tuple.injEq, PyData.int.injEq, and_true] at hx
    obtain ⟨h1, h2, h3⟩ := hx
    have h2 := Int.ofNat.inj h2
    subst h1
    subst h2
    subst h3
    exact ⟨_, _, _, rfl, c, s, r⟩
  | _ => cases hx
/-- a promise of an __init__ that writes one field -/
def SpI (K : PySem.W.Frag) (C : Addr) (f : Str) (S : List PyData → PyData → Prop) : Sp := fun vs H Q _ => ∃ p dx us G ds d, vs = .ref p :: us ∧ H p = some (.ins C dx []) ∧ Ex G H ∧ G p = none ∧ RvA K G us ds ∧ S ds d ∧
  ∀ v H2, (∀ b o, b ≠ p → H b = some o → H2 b = some o) → H2 p = some (.ins C dx [(f, v)]) → Rv K (del p (fr G H H2)) v d → Q .non H2
section
variable {K : PySem.W.Frag} {ρ : List Sl} {O : List (Addr × Ow)} {te to : TE} {ta : TA} {C : Addr} {f m : Str} {d y : PyData} {ds : List PyData} {S : List PyData → PyData → Prop} {E : XK}
theorem ev_fld (h : Ev K ρ O te (obD f C d)) (nf : NoAttr K C f) : Ev K ρ O (tFld K te f) d := fun H0 σ H s Q q =>
  h H0 σ H s _ fun v H1 e r => by
    obtain ⟨a, dx, u, rfl, c, hs, ru⟩ := r.isOb
    exact ⟨a, C, dx, _, u, rfl, fr_ex s.base e _ _ hs, c.cl, nf, by simp, q u H1 e ru⟩
theorem ev_make (h : EvA K ρ O ta ds) (c : OwnC K C) (hs : S ds d) : Ev K ρ O (tMake C (SpI K C f S) [] E ta) (obD f C d) := fun H0 σ H s Q q =>
  h H0 σ H s _ fun vs H1 e r => fun x dx hx hd hne => by
    have eb := fr_ex (H2 := H1) s.base e
    have e2 : Ex H1 (upd (upd H1 dx (.own x)) x (.ins C dx [])) := (Ex.new hd).trans (Ex.new (by rw [upd_ne hne.symm]; exact hx))
    refine ⟨x, dx, vs, fr H0 H H1, ds, d, by rw [List.append_nil], upd_same, eb.trans e2, ex_none eb hx, r, hs, fun v H2 hk hp rv => ⟨rfl, ?_⟩⟩
    have e3 : Ex H1 H2 := fun b o hb => by
      have z : b ≠ x := fun z => by subst z; rw [hx] at hb; cases hb
      exact hk b o z (e2 b o hb)
    refine q _ H2 (e.trans e3) (.obj c (dx := dx) (v := v) ?_ (rv.up ?_) rfl)
    · rw [fr_none (ex_none e hx)]; exact hp
    · refine del_ex.trans ?_
      intro b o hb
      cases hH : H b with
      | some u =>
        have h1 := e b u hH
        have h2 := e2 b u h1
        rw [fr_some h2, fr_some hH] at hb
        rw [fr_some hH]; exact hb
      | none =>
        rw [fr_none hH]
        cases hU : (upd (upd H1 dx (.own x)) x (.ins C dx [])) b with
        | none => rw [fr_none hU] at hb; exact hb
        | some u =>
          rw [fr_some hU, fr_none hH] at hb
          exact e3 b o hb
theorem ev_meth (ho : Ev K ρ O to (obD f C d)) (hm : m ≠ f) (h : EvA K ρ O ta ds) (hs : S (obD f C d :: ds) y) : Ev K ρ O (tMeth C m (SpR K S) [] E to ta) y := fun H0 σ H s Q q =>
  ho H0 σ H s _ fun v H1 e1 r1 => by
    obtain ⟨a, dx, u, rfl, c, hp, ru⟩ := r1.isOb
    refine ⟨a, dx, _, rfl, fr_ex s.base e1 _ _ hp, ?_, ?_⟩
    · simp [hm]
    · refine h (fr H0 H H1) σ H1 (s.step e1) _ fun vs H2 e2 r2 => ?_
      have eb := fr_ex (H2 := H2) (fr_ex s.base e1) e2
      refine ⟨fr (fr H0 H H1) H1 H2, obD f C d :: ds, y, eb, ?_, hs, fun v H3 e3 r3 => ?_⟩
      · rw [List.append_nil]
        exact .cons (r1.up (ex_fr (fr_ex s.base e1))) r2
      · refine q v H3 ((e1.trans e2).trans e3) (r3.up ?_)
        exact (ex_frfr (fr_ex s.base e1) e2 e3).trans (ex_frfr s.base e1 (e2.trans e3))
theorem ev_isC {C2 : Addr} {b : Bool} (h : Ev K ρ O te (obD f C d)) (hb : PySem.W.kitOne K (.ref C) (.ref C2) = some b) : Ev K ρ O (tCB (rIsi K) (tCons te (tCons (tC (.ref C2)) tNil))) (.bool b) := fun H0 σ H s Q q =>
  h H0 σ H s _ fun v H1 e r => by
    obtain ⟨a, dx, u, rfl, c, hp, ru⟩ := r.isOb
    exact ⟨.ref a, .ref C2, .ref C, .ref C2, b, rfl, .own C2, c.ty _ _ _ _ (fr_ex s.base e _ _ hp), hb, q _ H1 e (.bl b)⟩
end
section
variable {K : PySem.W.Frag} {E : En} {H : Hp} {σ : L2.St} {ρ ρ' : List Sl} {O : List (Addr × Ow)} {te : TE} {g : TG} {x : PyData} {D : Ends} {tz : TS} {ts : List Nat}
theorem q_asgG (s : Sg K E σ H ρ O) (h : Ev K ρ O te x) (tg : Tg K g ts x ρ ρ') (k : ∀ σ' H', Ex H H' → Sg K E σ' H' ρ' O → tz D σ' H') : tSeq (tAsg te g) tz D σ H := by
  obtain ⟨H0, s⟩ := s
  refine h H0 σ H s.s _ fun v H1 e r => ?_
  have s' := s.step e
  exact tg _ σ H1 O v s'.s r _ fun σ' s2 _ _ => k σ' H1 e ⟨_, s'.to s2⟩
end
/-! ### makers and methods by name -/
structure Mkr (P : Program) (w : World) (K : PySem.W.Frag) (mg : Str → Option Value) (base : Heap) (k : Nat) (x : Str) (C : Addr) (sp : Sp) : Prop where
  ex : ∃ (f : Addr) (fd : FuncData) (ps : List Str), Mk K C f ∧ FnOk P w K mg base CX0 k f fd ps sp ∧ Binds K fd ps [] ∧ mg x = some (.ref C)
structure Mth (P : Program) (w : World) (K : PySem.W.Frag) (mg : Str → Option Value) (base : Heap) (k : Nat) (C : Addr) (m : Str) (sp : Sp) : Prop where
  ex : ∃ (f : Addr) (fd : FuncData) (ps : List Str), Meth K C m f ∧ FnOk P w K mg base CX0 k f fd ps sp ∧ Binds K fd ps []
section
variable {X : Cx} {k j : Nat} {x m : Str} {C C1 C2 : Addr} {sp sp1 sp2 : Sp} {p pos apos : Pos} {o e : Expr} {es : List Expr} {t : TA} {ta : TE}
theorem pe_mk (c : Mkr X.prog X.w X.K X.mg X.base k x C sp) (hr : Room j X.A) (hk : k + 1 ≤ j) (hg : Gl X x) (ha : PA X (e :: es) t) (hdb : (x == ("__debug__" : Str)) = false := by decide)
    (he : starEach (e :: es) X.env = (false, eval e X.env) :: starEach es X.env := by rfl) (hpl : (backTo pos (starEach es X.env)).any (·.1) = false := by rfl) :
    PE X (.Call (.Name x p) (e :: es) [] pos) (tMake C sp [] E0 t) := by
  obtain ⟨f, fd, ps, M, F, b, hm⟩ := c.ex
  exact pe_make M F (hr.mono hk) hg hm b .nil pass0 ha hdb he hpl
theorem pe_mt {pl : Sem Bool} (c : Mth X.prog X.w X.K X.mg X.base k C m sp) (cl : Cls X.K C) (hr : Room j X.A) (hk : k ≤ j) (he : PE X o ta) (ha : PA X (e :: es) t)
    (hst : starEach (e :: es) X.env = (false, eval e X.env) :: starEach es X.env := by rfl) (hpl : (backTo pos (starEach es X.env)).any (·.1) = false := by rfl)
    (ht : eval (.Call (.Attribute o m apos) (e :: es) [] pos) X.env = (do
      let ov ← eval o X.env
      standAt apos.atName
      let (f, first) ← holding [ov] (getMethod ov m pl)
      callWith pos f first (backTo pos (starEach (e :: es) X.env)) (backToKw pos (keywordEach [] X.env))) := by rfl) :
    PE X (.Call (.Attribute o m apos) (e :: es) [] pos) (tMeth C m sp [] E0 ta t) := by
  obtain ⟨f, fd, ps, M, F, b⟩ := c.ex
  exact pe_meth he cl M F (hr.mono hk) b .nil pass0 ha hst hpl ht
/-- a method of an object of one of two classes -/
def tMethE (C1 C2 : Addr) (m : Str) (sp1 sp2 : Sp) (ta : TE) (t : TA) : TE := fun σ H Q => tMeth C1 m sp1 [] E0 ta t σ H Q ∨ tMeth C2 m sp2 [] E0 ta t σ H Q
theorem pe_mt2 {pl : Sem Bool} (c1 : Mth X.prog X.w X.K X.mg X.base k C1 m sp1) (cl1 : Cls X.K C1) (c2 : Mth X.prog X.w X.K X.mg X.base k C2 m sp2) (cl2 : Cls X.K C2) (hr : Room j X.A) (hk : k ≤ j) (he : PE X o ta) (ha : PA X (e :: es) t)
    (hst : starEach (e :: es) X.env = (false, eval e X.env) :: starEach es X.env := by rfl) (hpl : (backTo pos (starEach es X.env)).any (·.1) = false := by rfl)
    (ht : eval (.Call (.Attribute o m apos) (e :: es) [] pos) X.env = (do
      let ov ← eval o X.env
      standAt apos.atName
      let (f, first) ← holding [ov] (getMethod ov m pl)
      callWith pos f first (backTo pos (starEach (e :: es) X.env)) (backToKw pos (keywordEach [] X.env))) := by rfl) :
    PE X (.Call (.Attribute o m apos) (e :: es) [] pos) (tMethE C1 C2 m sp1 sp2 ta t) := by
  have p1 := pe_mt c1 cl1 hr hk he ha hst hpl ht
  have p2 := pe_mt c2 cl2 hr hk he ha hst hpl ht
  exact ⟨fun pins s σ H Q I h => h.elim (fun z => p1.run pins s σ H Q I z) fun z => p2.run pins s σ H Q I z⟩
end
end Pw

set_option Elab.async false
set_option linter.all false
set_option maxRecDepth 100000
set_option maxHeartbeats 1000000
set_option autoImplicit false
/-! list(range(a, b, c)) -/
namespace Pw
open PySem PySem.Spec PyProof.Rows L2
open Evl (Ex)
def rg3 (i c : Int) (n : Nat) : List Int := (List.range n).map fun k => i + (k : Nat) * c
def tLRg3 (ta : TA) : TE := fun σ H Q => ta σ H fun vs H1 => ∃ i j c n, vs = [.int i, .int j, .int c] ∧ RgC i j c n ∧ n ≤ 100000 ∧ ∀ q, H1 q = none → Q (.ref q) (upd H1 q (.lst ((rg3 i c n).map V.int)))
section
variable {X : Cx}
theorem pe_listRg3 {a b c : Expr} {ta : TA} {p p2 pos pos2 : Pos} (hc : X.calm = true) (hg : Gl X "list") (hm : X.mg "list" = none) (hg2 : Gl X "range") (hm2 : X.mg "range" = none) (ha : PA X [a, b, c] ta)
    (hs : starEach [a, b, c] X.env = (false, eval a X.env) :: starEach [b, c] X.env := by rfl) (hpl : (backTo pos2 (starEach [b, c] X.env)).any (·.1) = false := by rfl)
    (na : starEach [Expr.Call (.Name "range" p2) [a, b, c] [] pos2] X.env = (false, eval (Expr.Call (.Name "range" p2) [a, b, c] [] pos2) X.env) :: starEach [] X.env := by rfl) :
    PE X (.Call (.Name "list" p) [.Call (.Name "range" p2) [a, b, c] [] pos2] [] pos) (tLRg3 ta) := by
  refine ⟨fun pins s σ H Q I h => ?_⟩
  refine Call_ (ld_blt I hg hm boot_list ?_)
  refine PyProof.Rows.callWith_type1 (PyProof.Rows.args_cons ?_ na) na rfl
  refine Call_ (ld_blt I hg2 hm2 boot_range ?_)
  refine PyProof.Rows.callWith_type1 ?_ hs hpl
  refine thn (ha.run pos2 pins s σ H _ I h) fun us t ⟨vs, G, J, rv, q⟩ => ?_
  obtain ⟨i, j, k, n, rfl, ⟨c0, c1, c2, c3⟩, hn, q⟩ := q
  obtain ⟨u1, us, rfl, r1, rv⟩ : ∃ u1 us', us = u1 :: us' ∧ RelV (.int i) u1 ∧ Vals [.int j, .int k] us' := by
    cases rv with
    | cons r rr => exact ⟨_, _, rfl, r, rr⟩
  obtain ⟨u2, us, rfl, r2, rv⟩ : ∃ u1 us', us = u1 :: us' ∧ RelV (.int j) u1 ∧ Vals [.int k] us' := by
    cases rv with
    | cons r rr => exact ⟨_, _, rfl, r, rr⟩
  obtain ⟨u3, us, rfl, r3, rv⟩ : ∃ u1 us', us = u1 :: us' ∧ RelV (.int k) u1 ∧ Vals [] us' := by
    cases rv with
    | cons r rr => exact ⟨_, _, rfl, r, rr⟩
  cases rv
  obtain ⟨t1, rfl⟩ := r1
  obtain ⟨t2, rfl⟩ := r2
  obtain ⟨t3, rfl⟩ := r3
  refine call_range_3 c0 ?_ (.inl (PyProof.noPylong_small c1))
  refine PyProof.Rows.args_nil ?_
  let ro : Obj := { cls := .type "range", data := .fields #[.int i t1, .int j t2, .int k t3] }
  have J2 : Inv X pins σ G { t with heap := t.heap.push ro } := J.kept (t' := t.toks) fun b o e => Heap.get?_push_of_some _ e
  refine call_list_range (n := n) (J2.ok.hd hc) (IsRange.new ..) c2 c3 (Nat.le_trans hn (by decide)) fun h2 tk acc ep hk he hi => ?_
  have hv : Vals ((rg3 i k n).map V.int) acc.toList := by
    have e : acc.toList.length = n := by rw [Array.length_toList]; exact hi.1
    unfold rg3
    rw [List.map_map, ← e]
    refine vals_of_get acc.toList _ fun m u hu => ?_
    obtain ⟨tt, rfl⟩ := hi.2 m u (by rw [← hu, Array.getElem?_toList])
    exact ⟨tt, rfl⟩
  have hz : ((rg3 i k n).map V.int).length ≤ sizeLine := by
    unfold rg3
    rw [List.length_map, List.length_map, List.length_range, sizeLine_eq]
    omega
  exact ⟨.ref _, _, J2.laid (t' := tk) (o := .lst ((rg3 i k n).map V.int)) hk (Nat.le_refl _) ⟨hz, acc.toList, ep, hv, by rw [Array.toArray_toList]; exact he⟩, rfl, q _ (J2.hok.fresh (Nat.le_refl _))⟩
end
section
variable {K : PySem.W.Frag} {ρ : List Sl} {O : List (Addr × Ow)} {ta : TA}
theorem el_rg3 {i j c : Int} {n : Nat} (h : EvA K ρ O ta [.int i, .int j, .int c]) (hr : RgC i j c n) (hn : n ≤ 100000) : EvL K ρ O (tLRg3 ta) ((rg3 i c n).map PyData.int) := fun H0 σ H s Q q =>
  h H0 σ H s _ fun vs H1 e r => by
    have r' := RvA.ints (ns := [i, j, c]) r
    refine ⟨i, j, c, n, r', hr, hn, fun p hp => ?_⟩
    exact q p _ _ (ex_none e hp) (e.trans (Ex.new hp)) upd_same (RvA.ofInts _)
end
end Pw

set_option Elab.async false
set_option linter.all false
set_option maxRecDepth 100000
set_option maxHeartbeats 1000000
set_option autoImplicit false
/-! A new object whose one field holds a new list. -/
namespace Pw
open PySem PySem.Spec PyProof.Rows L2
open Evl (Ex)
def EvN (K : PySem.W.Frag) (ρ : List Sl) (O : List (Addr × Ow)) (te : TE) (C : Addr) (f : Str) (ys : List PyData) : Prop :=
  ∀ H0 σ H, S1 K H0 σ H ρ O → ∀ Q : VK, (∀ a dx q ws H2, H a = none → H q = none → q ≠ a → Ex H H2 → H2 a = some (.ins C dx [(f, .ref q)]) → H2 q = some (.lst ws) → RvA K (del q (del a (fr H0 H H2))) ws ys → Q (.ref a) H2) → te σ H Q
/-- a promise of an __init__ that puts a new list into its one field -/
def SpIN (K : PySem.W.Frag) (C : Addr) (f : Str) (S : List PyData → List PyData → Prop) : Sp := fun vs H Q _ => ∃ p dx us G ds ys, vs = .ref p :: us ∧ H p = some (.ins C dx []) ∧ Ex G H ∧ G p = none ∧ RvA K G us ds ∧ S ds ys ∧
  ∀ q ws H2, H q = none → (∀ b o, b ≠ p → H b = some o → H2 b = some o) → H2 p = some (.ins C dx [(f, .ref q)]) → H2 q = some (.lst ws) → RvA K (del q (del p (fr G H H2))) ws ys → Q .non H2
section
variable {K : PySem.W.Frag} {ρ : List Sl} {O : List (Addr × Ow)} {te : TE} {ta : TA} {C : Addr} {f : Str} {ds ys : List PyData} {S : List PyData → List PyData → Prop} {E : XK}
theorem EvN.ev (h : EvN K ρ O te C f ys) (c : OwnC K C) : Ev K ρ O te (obD f C (.list ys)) := fun H0 σ H s Q q => h H0 σ H s Q fun a dx p ws H2 ha hp hne e hA hP r => by
  refine q (.ref a) H2 e (.obj c (dx := dx) (v := .ref p) (by rw [fr_none ha]; exact hA) (.lst (.inl (.inl ?_)) (r.up (del_ex.trans del_ex))) rfl)
  rw [fr_none hp]; exact hP
theorem en_make (h : EvA K ρ O ta ds) (hs : S ds ys) : EvN K ρ O (tMake C (SpIN K C f S) [] E ta) C f ys := fun H0 σ H s Q q =>
  h H0 σ H s _ fun vs H1 e r => fun x dx hx hd hne => by
    have eb := fr_ex (H2 := H1) s.base e
    have e2 : Ex H1 (upd (upd H1 dx (.own x)) x (.ins C dx [])) := (Ex.new hd).trans (Ex.new (by rw [upd_ne hne.symm]; exact hx))
    refine ⟨x, dx, vs, fr H0 H H1, ds, ys, by rw [List.append_nil], upd_same, eb.trans e2, ex_none eb hx, r, hs, fun p ws H2 hq hk hp hw rv => ⟨rfl, ?_⟩⟩
    have e3 : Ex H1 H2 := fun b o hb => by
      have z : b ≠ x := fun z => by subst z; rw [hx] at hb; cases hb
      exact hk b o z (e2 b o hb)
    have npx : p ≠ x := fun z => by subst z; rw [upd_same] at hq; cases hq
    refine q x dx p ws H2 (ex_none e hx) (ex_none (e.trans e2) hq) npx (e.trans e3) hp hw (rv.up ?_)
    intro b o hb
    have z1 : b ≠ p := fun z => by subst z; rw [del_at] at hb; cases hb
    rw [del_ne z1] at hb
    have z2 : b ≠ x := fun z => by subst z; rw [del_at] at hb; cases hb
    rw [del_ne z2] at hb
    rw [del_ne z1, del_ne z2]
    cases hH : H b with
    | some u =>
      have h1 := e b u hH
      have h2 := e2 b u h1
      rw [fr_some h2, fr_some hH] at hb
      rw [fr_some hH]; exact hb
    | none =>
      rw [fr_none hH]
      cases hU : (upd (upd H1 dx (.own x)) x (.ins C dx [])) b with
      | none => rw [fr_none hU] at hb; exact hb
      | some u =>
        rw [fr_some hU, fr_none hH] at hb
        exact e3 b o hb
/-- the same, a list of one's own read for the while -/
theorem en_froz {i : Nat} {p : Addr} {xs : List PyData} {l : List (Int × Int)} (hi : ρ[i]? = some (.o p)) (hm : (p, .lst xs) ∈ O) (h : EvN K (ρ.set i (.d (.list xs))) [] te C f (l.map fun q => .tuple [.int q.1, .int q.2])) : EvN K ρ O te C f (l.map fun q => .tuple [.int q.1, .int q.2]) := fun H0 σ H s Q q =>
  h _ σ H (s.froz (w := .lst xs) hi hm) Q fun a dx r ws H2 ha hr hne e hA hP rr => by
    obtain ⟨h0, vs, h1, _⟩ := s.own p (.lst xs) hm
    have np : p ≠ r := fun z => by subst z; rw [h1] at hr; cases hr
    have na : p ≠ a := fun z => by subst z; rw [h1] at ha; cases ha
    have hp : (del r (del a (fr (frz p H H0) H H2))) p = some (.lst vs) := by
      rw [del_ne np, del_ne na, fr_some h1]
      show (if p = p then H p else H0 p) = _
      rw [if_pos rfl]; exact h1
    refine q a dx r ws H2 ha hr hne e hA hP ((prs_del hp l ws rr).up fun b o hb => ?_)
    have z1 : b ≠ p := fun z => by subst z; rw [del_at] at hb; cases hb
    rw [del_ne z1] at hb
    have z2 : b ≠ r := fun z => by subst z; rw [del_at] at hb; cases hb
    rw [del_ne z2] at hb ⊢
    have z3 : b ≠ a := fun z => by subst z; rw [del_at] at hb; cases hb
    rw [del_ne z3] at hb ⊢
    cases hH : H b with
    | none => rw [fr_none hH] at hb ⊢; exact hb
    | some u =>
      rw [fr_some hH] at hb ⊢
      have hb' : (if b = p then H p else H0 b) = some o := hb
      rw [if_neg z1] at hb'
      exact hb'
end
section
variable {K : PySem.W.Frag} {E : En} {H : Hp} {σ : L2.St} {ρ : List Sl} {O : List (Addr × Ow)} {te : TE} {C : Addr} {f : Str} {ys : List PyData} {D : Ends}
theorem d_retN (s : Sg K E σ H ρ O) (h : EvN K ρ O te C f ys) (k : ∀ a dx q ws H2, E.hin a = none → E.hin q = none → q ≠ a → Ex E.hin H2 → H2 a = some (.ins C dx [(f, .ref q)]) → H2 q = some (.lst ws) → RvA K (del q (del a (fr E.h0 E.hin H2))) ws ys → D.rt (.ref a) H2) : tRet te D σ H := by
  obtain ⟨H0, s⟩ := s
  exact h H0 σ H s.s _ fun a dx q ws H1 ha hq hne e hA hw r => k a dx q ws H1 (ex_none s.ent ha) (ex_none s.ent hq) hne (s.ent.trans e) hA hw (r.up (del_mono (del_mono (fr_in s.sub s.ent e))))
end
end Pw

set_option Elab.async false
set_option linter.all false
set_option maxRecDepth 100000
set_option maxHeartbeats 1000000
set_option autoImplicit false
/-! A list of one's own: an item read, put, taken out, put in between. -/
namespace Pw
open PySem PySem.Spec PyProof.Rows L2
open Evl (Ex)
section
variable {K : PySem.W.Frag} {E : En} {H : Hp} {σ : L2.St} {ρ : List Sl} {O O1 O2 : List (Addr × Ow)} {p : Addr} {xs : List PyData} {x y : PyData} {i : Int} {j k k2 : Nat} {te ti ti2 : TE} {D : Ends} {tz : TS}
theorem ev_ixO (hi : ρ[j]? = some (.o p)) (hm : (p, .lst xs) ∈ O) (h : Ev K ρ O ti (.int i)) (hx : L2.atI xs i = some x) : Ev K ρ O (tOp (rIxL K) (tVar j) ti) x := fun H0 σ H s Q q => by
  obtain ⟨h0, vs, h1, h2⟩ := s.own p (.lst xs) hm
  refine ⟨_, s.adr j p hi, h H0 σ H s _ fun u H1 e r => ?_⟩
  obtain rfl := r.isInt
  obtain ⟨v, hv, rv⟩ := h2.atI hx
  exact ⟨p, vs, i, v, rfl, rfl, SqL.of (e p _ h1), hv, q v H1 e (rv.up (ex_fr s.base))⟩
theorem d_set (s : Sg K E σ H ρ (O1 ++ (p, .lst xs) :: O2)) (hi : ρ[j]? = some (.o p)) (hv : Ev K ρ (O1 ++ (p, .lst xs) :: O2) te x) (hk : Ev K ρ (O1 ++ (p, .lst xs) :: O2) ti (.int i)) (hx : ixN xs.length i = some k) (kk : ∀ H', Sg K E σ H' ρ (O1 ++ (p, .lst (xs.set k x)) :: O2) → D.nx σ H') : tAsg te (gSub (tVar j) ti rSetL) D σ H := by
  obtain ⟨H0, s⟩ := s
  obtain ⟨h0, vs, h1, h2⟩ := s.s.own p (.lst xs) (by simp)
  refine hv H0 σ H s.s _ fun v H1 e1 r1 => ⟨_, s.s.adr j p hi, hk H0 σ H1 (s.s.keep e1) _ fun u H2 e2 r2 => ?_⟩
  obtain rfl := r2.isInt
  have e := e1.trans e2
  refine ⟨p, vs, i, k, rfl, rfl, e p _ h1, by rw [h2.length]; exact hx, kk _ ⟨_, (s.step e).write ⟨?_, _, upd_same, ?_⟩⟩⟩
  · rw [fr_some h1]; exact h0
  · exact (h2.up (ex_fr s.s.base)).set k (r1.up (fr_out e2))
theorem d_popA (s : Sg K E σ H ρ (O1 ++ (p, .lst xs) :: O2)) (hi : ρ[j]? = some (.o p)) (hk : Ev K ρ (O1 ++ (p, .lst xs) :: O2) ti (.int (k : Int))) (hb : k < xs.length) (hz : xs.length ≤ 100000) (kk : ∀ H', Sg K E σ H' ρ (O1 ++ (p, .lst (xs.eraseIdx k)) :: O2) → D.nx σ H') : tDrop (tBM K "list" rPopAt (tVar j) (tCons ti tNil)) D σ H := by
  obtain ⟨H0, s⟩ := s
  obtain ⟨h0, vs, h1, h2⟩ := s.s.own p (.lst xs) (by simp)
  refine ⟨_, s.s.adr j p hi, .inl ⟨rfl, vs, SqL.of h1⟩, hk H0 σ H s.s _ fun u H1 e r => ?_⟩
  obtain rfl := r.isInt
  have hl := h2.length
  have hkv : k < vs.length := by omega
  refine ⟨p, vs, (k : Int), k, vs[k], rfl, rfl, e p _ h1, by omega, by omega, ?_, List.getElem?_eq_getElem hkv, kk _ ⟨_, (s.step e).write ⟨?_, _, upd_same, ?_⟩⟩⟩
  · unfold seqIndex?
    simp
    omega
  · rw [fr_some h1]; exact h0
  · exact (h2.up (ex_fr s.s.base)).eraseIdx k
theorem d_insA (s : Sg K E σ H ρ (O1 ++ (p, .lst xs) :: O2)) (hi : ρ[j]? = some (.o p)) (hk : Ev K ρ (O1 ++ (p, .lst xs) :: O2) ti (.int (k : Int))) (hv : Ev K ρ (O1 ++ (p, .lst xs) :: O2) te x) (hb : k < 100000) (hz : xs.length < 100000) (kk : ∀ H', Sg K E σ H' ρ (O1 ++ (p, .lst (xs.take k ++ [x] ++ xs.drop k)) :: O2) → D.nx σ H') :
    tDrop (tBM K "list" (fun x vs H Q => ∃ (l : Addr) (xs : List V) (i : Int) (y : V), x = .ref l ∧ vs = [.int i, y] ∧ H l = some (.lst xs) ∧ xs.length < sizeLine ∧ 0 ≤ i ∧ i < 2 ^ 63 ∧ Q .non (upd H l (.lst (xs.take i.toNat ++ [y] ++ xs.drop i.toNat)))) (tVar j) (tCons ti (tCons te tNil))) D σ H := by
  obtain ⟨H0, s⟩ := s
  obtain ⟨h0, vs, h1, h2⟩ := s.s.own p (.lst xs) (by simp)
  refine ⟨_, s.s.adr j p hi, .inl ⟨rfl, vs, SqL.of h1⟩, hk H0 σ H s.s _ fun u H1 e1 r1 => hv H0 σ H1 (s.s.keep e1) _ fun v H2 e2 r2 => ?_⟩
  obtain rfl := r1.isInt
  have e := e1.trans e2
  have hl := h2.length
  refine ⟨p, vs, (k : Int), v, rfl, rfl, e p _ h1, Evl.sz_lt (by omega), by omega, by omega, ?_⟩
  rw [Int.toNat_natCast]
  refine kk _ ⟨_, (s.step e).write ⟨?_, _, upd_same, ?_⟩⟩
  · rw [fr_some h1]; exact h0
  · have h3 := h2.up (ex_fr (H2 := H2) s.s.base)
    exact ((h3.take k).append (.one (r2.up (fr_chain s.s.base e1)))).append (h3.drop k)
/-- two items of a list of one's own, exchanged -/
theorem d_swap (s : Sg K E σ H ρ (O1 ++ (p, .lst xs) :: O2)) (hi : ρ[j]? = some (.o p)) (hv : Ev K ρ (O1 ++ (p, .lst xs) :: O2) te (.tuple [x, y])) {i2 : Int} (hk : ∀ l, Ev K ρ (O1 ++ (p, .lst l) :: O2) ti (.int i)) (hx : ixN xs.length i = some k) (hk2 : ∀ l, Ev K ρ (O1 ++ (p, .lst l) :: O2) ti2 (.int i2)) (hx2 : ixN xs.length i2 = some k2)
    (kk : ∀ H', Sg K E σ H' ρ (O1 ++ (p, .lst ((xs.set k x).set k2 y)) :: O2) → D.nx σ H') : tAsg te (gTup K 2 (gCons (gSub (tVar j) ti rSetL) (gCons (gSub (tVar j) ti2 rSetL) gNil))) D σ H := by
  obtain ⟨H0, s⟩ := s
  refine hv H0 σ H s.s _ fun v H1 e1 r1 => ?_
  obtain ⟨a, us, rfl, hs, hr⟩ := r1.isTuple
  have s1 := s.step e1
  obtain ⟨h0, vs, h1, h2⟩ := s1.s.own p (.lst xs) (by simp)
  cases hr with
  | cons ra hr =>
    cases hr with
    | cons rb hr =>
      cases hr
      rename_i va vb
      refine ⟨a, [va, vb], rfl, Evl.ex_t s1.s.base hs, rfl, ?_⟩
      refine ⟨_, _, rfl, _, s1.s.adr j p hi, hk xs _ σ H1 s1.s _ fun u H2 e2 r2 => ?_⟩
      obtain rfl := r2.isInt
      have e2p := e2 p _ h1
      refine ⟨p, vs, i, k, rfl, rfl, e2p, by rw [h2.length]; exact hx, ?_⟩
      have s2 := (s1.step e2).write (w' := .lst (xs.set k x)) (o := .lst (vs.set k va)) ⟨by rw [fr_some h1]; exact h0, _, upd_same, (h2.up (ex_fr s1.s.base)).set k (ra.up (ex_fr s1.s.base))⟩
      refine ⟨_, _, rfl, _, s2.s.adr j p hi, hk2 _ _ σ _ s2.s _ fun u H3 e3 r3 => ?_⟩
      obtain rfl := r3.isInt
      obtain ⟨g0, ws, g1, g2⟩ := s2.s.own p (.lst (xs.set k x)) (by simp)
      refine ⟨p, ws, i2, k2, rfl, rfl, e3 p _ g1, by rw [g2.length, List.length_set]; exact hx2, rfl, kk _ ⟨_, (s2.step e3).write ⟨by rw [fr_some g1]; exact g0, _, upd_same, (g2.up (ex_fr s2.s.base)).set k2 (rb.up ?_)⟩⟩⟩
      exact (ex_fr s1.s.base).trans (ex_fr s2.s.base)
end
end Pw

set_option Elab.async false
set_option linter.all false
set_option maxRecDepth 100000
set_option maxHeartbeats 1000000
set_option autoImplicit false
/-! One of two promises; a new object handed back, its list changed later. -/
namespace Pw
open PySem PySem.Spec PyProof.Rows L2
open Evl (Ex)
def SpO (s1 s2 : Sp) : Sp := fun vs H Q E => s1 vs H Q E ∨ s2 vs H Q E
theorem fn_or {P : Program} {w : World} {K : PySem.W.Frag} {mg : Str → Option Value} {base : Heap} {CX : CXT} {k : Nat} {f : Addr} {fd : FuncData} {ps : List Str} {s1 s2 : Sp}
    (F1 : FnOk P w K mg base CX k f fd ps s1) (F2 : FnOk P w K mg base CX k f fd ps s2) : FnOk P w K mg base CX k f fd ps (SpO s1 s2) :=
  ⟨fun vs H Q E h => h.elim (F1.len vs H Q E) (F2.len vs H Q E), fun A outer s H args us vs Q E hr he hb hv h => h.elim (F1.run A outer s H args us vs Q E hr he hb hv) (F2.run A outer s H args us vs Q E hr he hb hv)⟩
/-- .. a new object whose one field holds a new list -/
def SpN (K : PySem.W.Frag) (C : Addr) (f : Str) (S : List PyData → List PyData → Prop) : Sp := fun vs H Q _ => ∃ G ds ys, Ex G H ∧ RvA K G vs ds ∧ S ds ys ∧
  ∀ a dx q ws H2, H a = none → H q = none → q ≠ a → Ex H H2 → H2 a = some (.ins C dx [(f, .ref q)]) → H2 q = some (.lst ws) → RvA K (del q (del a (fr G H H2))) ws ys → Q (.ref a) H2
section
variable {P : Program} {w : World} {K : PySem.W.Frag} {mg : Str → Option Value} {base : Heap} {x qual : Str} {st : Stmt} {f C : Addr} {fl : Str} {fd : FuncData} {N ps : List Str} {k : Nat}
theorem okN {S : List PyData → List PyData → Prop} (F : Fun K x qual st f fd) (sc : FnScope N ps (defScope st)) (hpn : ps.length ≤ N.length) (len : ∀ ds y, S ds y → ds.length = ps.length)
    (hbody : ∀ (cdv : Value) (A : Around) (outer : List Env) (s : Shared) (H : Hp) (σ : L2.St) (E : En) (ds ys : List PyData) (X : XK), Room k (A.deeper (envOfC qual (defScope st) s.heap.objs.size f cdv)) → S ds ys →
      Sg K E σ H (ds.map Sl.d ++ List.replicate (N.length - ds.length) .no) [] →
      ∃ t, PSs (cxOf CX0 P w K mg base N qual (defScope st) f cdv A outer s H X).nox (defBody st) t ∧ ∀ Q : VK, (∀ a dx q ws H2, E.hin a = none → E.hin q = none → q ≠ a → Ex E.hin H2 → H2 a = some (.ins C dx [(fl, .ref q)]) → H2 q = some (.lst ws) → RvA K (del q (del a (fr E.h0 E.hin H2))) ws ys → Q (.ref a) H2) → t { nx := fun _ H' => Q .non H', rt := Q } σ H) : FnOk P w K mg base CX0 (k + 1) f fd ps (SpN K C fl S) := by
  refine F.ok sc (fun vs H Q E h => ?_) (fun cdv A outer s H vs Q E hr h => ?_)
  · obtain ⟨G, ds, y, e, r, hS, _⟩ := h
    rw [r.length]
    exact len ds y hS
  · obtain ⟨G, ds, y, e, r, hS, q⟩ := h
    have hl := len ds y hS
    obtain ⟨t, h1, h2⟩ := hbody cdv A outer s H (L2.start N vs) ⟨G, H, G⟩ ds y E hr hS (start_s2 e r (by omega))
    exact ⟨t, h1, h2 Q fun a dx p ws H2 ha hp hne e2 hA hw r2 => q a dx p ws H2 ha hp hne e2 hA hw r2⟩
end
section
variable {K : PySem.W.Frag} {ρ : List Sl} {O : List (Addr × Ow)} {te to : TE} {ta : TA} {C C1 C2 : Addr} {f m : Str} {ds ys : List PyData} {y : PyData} {S : List PyData → PyData → Prop} {SN : List PyData → List PyData → Prop} {s1 s2 sp1 sp2 : Sp} {X : XK}
theorem ev_callO (h : EvA K ρ O ta ds) (hs : S ds y) : Ev K ρ O (tCall (SpO (SpR K S) s2) [] X ta) y := fun H0 σ H s Q q =>
  h H0 σ H s _ fun vs H1 e r => .inl ⟨fr H0 H H1, ds, y, fr_ex s.base e, by rw [List.append_nil]; exact r, hs, fun v H2 e2 r2 => q v H2 (e.trans e2) (r2.up (ex_frfr s.base e e2))⟩
theorem en_callO (h : EvA K ρ O ta ds) (hs : SN ds ys) : EvN K ρ O (tCall (SpO s1 (SpN K C f SN)) [] X ta) C f ys := fun H0 σ H s Q q =>
  h H0 σ H s _ fun vs H1 e r => .inr ⟨fr H0 H H1, ds, ys, fr_ex s.base e, by rw [List.append_nil]; exact r, hs, fun a dx p ws H2 ha hp hne e2 hA hw r2 =>
    q a dx p ws H2 (ex_none e ha) (ex_none e hp) hne (e.trans e2) hA hw (r2.up (del_mono (del_mono (ex_frfr s.base e e2))))⟩
theorem ev_methE1 (h : Ev K ρ O (tMeth C1 m sp1 [] E0 to ta) y) : Ev K ρ O (tMethE C1 C2 m sp1 sp2 to ta) y := fun H0 σ H s Q q => .inl (h H0 σ H s Q q)
theorem ev_methE2 (h : Ev K ρ O (tMeth C2 m sp2 [] E0 to ta) y) : Ev K ρ O (tMethE C1 C2 m sp1 sp2 to ta) y := fun H0 σ H s Q q => .inr (h H0 σ H s Q q)
end
section
variable {K : PySem.W.Frag} {E : En} {H : Hp} {σ : L2.St} {ρ : List Sl} {O : List (Addr × Ow)} {i j : Nat} {te : TE} {C a q dx : Addr} {f : Str} {x : PyData} {ys : List PyData} {ws : List V} {D : Ends} {tz : TS}
/-- the value itself told -/
theorem q_asgX (s : Sg K E σ H ρ O) (h : Ev K ρ O te x) (k : ∀ v H', Ex H H' → Sg K E (σ.set i (some v)) H' (ρ.set i (.d x)) O → tz D (σ.set i (some v)) H') (hi : i < ρ.length := by exact Nat.le_of_ble_eq_true rfl) : tSeq (tAsg te (gName i)) tz D σ H := by
  obtain ⟨H0, s⟩ := s
  refine h H0 σ H s.s _ fun v H1 e r => ?_
  have s' := s.step e
  exact k v H1 e ⟨_, s'.to (s'.s.store hi r)⟩
/-- a new object as a datum; what it is when its list has grown by one -/
theorem q_asgN (s : Sg K E σ H ρ O) (h : EvN K ρ O te C f ys) (c : OwnC K C)
    (k : ∀ a dx q ws H', H a = none → H q = none → q ≠ a → Ex H H' → H' a = some (.ins C dx [(f, .ref q)]) → H' q = some (.lst ws) → ws.length = ys.length →
      (∀ Hc H2 v x, Ex H' Hc → Ex Hc H2 → Rv K (fr (fun _ => none) Hc H2) v x → Sg K E (σ.set i (some (.ref a))) (upd H2 q (.lst (ws ++ [v]))) (ρ.set i (.d (obD f C (.list (ys ++ [x]))))) O) →
      Sg K E (σ.set i (some (.ref a))) H' (ρ.set i (.d (obD f C (.list ys)))) O → tz D (σ.set i (some (.ref a))) H') (hi : i < ρ.length := by exact Nat.le_of_ble_eq_true rfl) : tSeq (tAsg te (gName i)) tz D σ H := by
  obtain ⟨H0, s⟩ := s
  refine h H0 σ H s.s _ fun a dx q ws H1 ha hq hne e hA hw r => ?_
  have s' := s.step e
  refine k a dx q ws H1 ha hq hne e hA hw r.length (fun Hc H2 v x e1 e2 rv => ?_) ⟨_, s'.to (s'.s.store hi (.obj c (dx := dx) (v := .ref q) (by rw [fr_none ha]; exact hA) (.lst (.inl (.inl (by rw [fr_none hq]; exact hw))) (r.up (del_ex.trans del_ex))) rfl))⟩
  have e3 : Ex H (upd H2 q (.lst (ws ++ [v]))) := Ex.mut ((e.trans e1).trans e2) hq
  have s3 := s.step e3
  refine ⟨_, s3.to (s3.s.store hi (.obj c (dx := dx) (v := .ref q) ?_ (.lst (.inl (.inl ?_)) ((r.up fun b o hb => ?_).append (.one (rv.up fun b o hb => ?_)))) rfl))⟩
  · rw [fr_none ha, upd_ne hne.symm]
    exact e2 _ _ (e1 _ _ hA)
  · rw [fr_none hq]; exact upd_same
  · have z1 : b ≠ q := fun z => by subst z; rw [del_at] at hb; cases hb
    rw [del_ne z1] at hb
    have z2 : b ≠ a := fun z => by subst z; rw [del_at] at hb; cases hb
    rw [del_ne z2] at hb
    cases hH : H b with
    | some u => rw [fr_some hH] at hb ⊢; exact hb
    | none =>
      rw [fr_none hH] at hb ⊢
      rw [upd_ne z1]
      exact e2 _ _ (e1 _ _ hb)
  · cases hc : Hc b with
    | some u => rw [fr_some hc] at hb; cases hb
    | none =>
      rw [fr_none hc] at hb
      have z1 : b ≠ q := fun z => by subst z; rw [e1 _ _ hw] at hc; cases hc
      rw [fr_none (ex_none (e.trans e1) hc), upd_ne z1]
      exact hb
/-- an item put behind the list in the field of an object that stands in a slot -/
theorem q_appF {n : Nat} (hn : σ.length = n) (hσ : σ[j]? = some (some (.ref a))) (hA : H a = some (.ins C dx [(f, .ref q)])) (hq : H q = some (.lst ws)) (cl : Cls K C) (nf : NoAttr K C f) (h : Ev K (List.replicate n .no) [] te x) (hz : ws.length < 100000)
    (k : ∀ v H1, Ex H H1 → Rv K (fr (fun _ => none) H H1) v x → tz D σ (upd H1 q (.lst (ws ++ [v])))) : tSeq (tDrop (tBM K "list" rAppend (tFld K (tVar j) f) (tCons te tNil))) tz D σ H := by
  refine ⟨_, hσ, a, C, dx, [(f, .ref q)], .ref q, rfl, hA, cl, nf, by simp, .inl ⟨rfl, ws, SqL.of hq⟩, h _ σ H (s1_none n hn) _ fun v H1 e r => ?_⟩
  exact ⟨q, ws, v, rfl, rfl, e q _ hq, Evl.sz_lt hz, k v H1 e r⟩
end
end Pw

set_option Elab.async false
set_option linter.all false
set_option maxRecDepth 100000
set_option maxHeartbeats 1000000
set_option autoImplicit false
/-! Refusals, as data: defs that raise; a def held in a slot; what is caught. -/
namespace Pw
open PySem PySem.Spec PyProof.Rows L2
open Evl (Ex)
/-- called with ds it raises an exception of the class at c -/
def SpE (K : PySem.W.Frag) (S : List PyData → Addr → Prop) : Sp := fun vs H _ E => ∃ G ds c, Ex G H ∧ RvA K G vs ds ∧ S ds c ∧ ∀ H2, Ex H H2 → E (.ref c) none H2
def EvE (K : PySem.W.Frag) (ρ : List Sl) (O : List (Addr × Ow)) (te : TE) (c : Addr) (E : XK) : Prop := ∀ H0 σ H, S1 K H0 σ H ρ O → (∀ H2, Ex H H2 → E (.ref c) none H2) → ∀ Q, te σ H Q
section
variable {K : PySem.W.Frag} {ρ : List Sl} {O : List (Addr × Ow)} {te ta tb : TE} {ts : TA} {t : TT} {c : Addr} {E : XK} {ds : List PyData} {S : List PyData → Addr → Prop} {b : Bool}
theorem ee_call (h : EvA K ρ O ts ds) (hs : S ds c) : EvE K ρ O (tCall (SpE K S) [] E ts) c E := fun H0 σ H s k Q =>
  h H0 σ H s _ fun vs H1 e r => ⟨fr H0 H H1, ds, c, fr_ex s.base e, by rw [List.append_nil]; exact r, hs, fun H2 e2 => k H2 (e.trans e2)⟩
theorem ee_if (h : EvT K ρ O t b) (h1 : b = true → EvE K ρ O ta c E) (h2 : b = false → EvE K ρ O tb c E) : EvE K ρ O (tIf t ta tb) c E := fun H0 σ H s k Q =>
  h H0 σ H s _ fun H1 e => by
    cases b with
    | true => exact h1 rfl H0 σ H1 (s.keep e) (fun H2 e2 => k H2 (e.trans e2)) Q
    | false => exact h2 rfl H0 σ H1 (s.keep e) (fun H2 e2 => k H2 (e.trans e2)) Q
end
section
variable {K : PySem.W.Frag} {E : En} {H : Hp} {σ : L2.St} {ρ : List Sl} {O : List (Addr × Ow)} {te : TE} {c : Addr} {X : XK} {D : Ends} {tz : TS}
theorem d_retE (s : Sg K E σ H ρ O) (h : EvE K ρ O te c X) (k : ∀ H2, Ex E.hin H2 → X (.ref c) none H2) : tRet te D σ H := by
  obtain ⟨H0, s⟩ := s
  exact h H0 σ H s.s (fun H2 e => k H2 (s.ent.trans e)) _
theorem d_dropE (s : Sg K E σ H ρ O) (h : EvE K ρ O te c X) (k : ∀ H2, Ex E.hin H2 → X (.ref c) none H2) : tDrop te D σ H := by
  obtain ⟨H0, s⟩ := s
  exact h H0 σ H s.s (fun H2 e => k H2 (s.ent.trans e)) _
theorem q_dropE (s : Sg K E σ H ρ O) (h : EvE K ρ O te c X) (k : ∀ H2, Ex E.hin H2 → X (.ref c) none H2) : tSeq (tDrop te) tz D σ H := d_dropE (D := { D with nx := tz D }) s h k
end
/-! ### defs that raise -/
structure CalX (P : Program) (w : World) (K : PySem.W.Frag) (mg : Str → Option Value) (base : Heap) (k : Nat) (x : Str) (sp : Sp) : Prop where
  ex : ∃ (f : Addr) (fd : FuncData) (ps : List Str), FnOk P w K mg base (L2.CX P w) k f fd ps sp ∧ mg x = some (.ref f) ∧ PySem.W.keepIn K (.ref f) = true ∧ Binds K fd ps []
/-- an own exception class, made with a text -/
structure XC (K : PySem.W.Frag) (mg : Str → Option Value) (x : Str) (C : Addr) : Prop where
  gC : mg x = some (.ref C)
  xC : PySem.W.excIn K C [.type "ValueError", .type "Exception", .type "BaseException", .type "object"] "ValueError.__new__" = true
  kC : PySem.W.keepIn K (.ref C) = true
  bC : PySem.W.subIn K (.ref C) (.type "BaseException") = some true
  tC : PySem.W.typeIn K (.ref C) = some (.type "type")
section
variable {X : Cx} {k j : Nat} {x m : Str} {C : Addr} {sp : Sp} {p p2 pos : Pos} {e : Expr} {es : List Expr} {t : TA} {E : XK}
theorem pe_cx (c : CalX X.prog X.w X.K X.mg X.base k x sp) (hr : Room j X.A) (hk : k ≤ j) (hg : Gl X x) (hp : Passes (L2.CX X.prog X.w) X E) (ha : PA X (e :: es) t)
    (hdb : (x == ("__debug__" : Str)) = false := by decide) (he : starEach (e :: es) X.env = (false, eval e X.env) :: starEach es X.env := by rfl) (hpl : (backTo pos (starEach es X.env)).any (·.1) = false := by rfl) :
    PE X (.Call (.Name x p) (e :: es) [] pos) (tCall sp [] E t) := by
  obtain ⟨f, fd, ps, F, hm, kp, b⟩ := c.ex
  exact pe_call F (hr.mono hk) hg hm kp b .nil hp ha hdb he hpl
theorem pm_own {i : Nat} (c : XC X.K X.mg x C) (hg : Gl X x) (hdb : (x == ("__debug__" : Str)) = false := by decide) : PMk X (.Call (.Name x p) [.Constant (.str m) i p2] [] pos) (fun _ H Q => Q (.ref C) none H) :=
  pmk_own PySem.F.excBase_ValueError c.xC c.gC c.kC (raises_own c.bC c.tC) hg hdb
end
section
variable {P : Program} {w : World} {K : PySem.W.Frag} {mg : Str → Option Value} {base : Heap} {x qual : Str} {st : Stmt} {f : Addr} {fd : FuncData} {N ps : List Str} {k : Nat}
theorem okE {S : List PyData → Addr → Prop} (F : Fun K x qual st f fd) (sc : FnScope N ps (defScope st)) (hpn : ps.length ≤ N.length) (len : ∀ ds c, S ds c → ds.length = ps.length)
    (hbody : ∀ (cdv : Value) (A : Around) (outer : List Env) (s : Shared) (H : Hp) (σ : L2.St) (E : En) (ds : List PyData) (c : Addr) (X : XK), Room k (A.deeper (envOfC qual (defScope st) s.heap.objs.size f cdv)) → S ds c →
      Sg K E σ H (ds.map Sl.d ++ List.replicate (N.length - ds.length) .no) [] →
      ∃ t, PSs (cxOf (L2.CX P w) P w K mg base N qual (defScope st) f cdv A outer s H X) (defBody st) t ∧ ∀ Q : VK, (∀ H2, Ex E.hin H2 → X (.ref c) none H2) → t { nx := fun _ H' => Q .non H', rt := Q } σ H) : FnOk P w K mg base (L2.CX P w) (k + 1) f fd ps (SpE K S) := by
  refine F.okX sc (fun vs H Q E h => ?_) (fun cdv A outer s H vs Q E hr h => ?_)
  · obtain ⟨G, ds, c, e, r, hS, _⟩ := h
    rw [r.length]
    exact len ds c hS
  · obtain ⟨G, ds, c, e, r, hS, q⟩ := h
    have hl := len ds c hS
    obtain ⟨t, h1, h2⟩ := hbody cdv A outer s H (L2.start N vs) ⟨G, H, G⟩ ds c E hr hS (start_s2 e r (by omega))
    exact ⟨t, h1, h2 Q q⟩
theorem calE {S : List PyData → Addr → Prop} (D : Df K mg x st) (sc : FnScope N ps (defScope st))
    (hb : ∀ (kV doc pm : Value) (an : Option Addr) (cdv ct : Value) (us : List Value), us.length = ps.length → bindArgs (PySem.W.fnOf x x (defArgs st) (defBody st) (defScope st) .none kV doc pm an cdv ct) ⟨us, []⟩ = pure (ps.zip us))
    (hpn : ps.length ≤ N.length) (len : ∀ ds c, S ds c → ds.length = ps.length)
    (hbody : ∀ (f : Addr) (cdv : Value) (A : Around) (outer : List Env) (s : Shared) (H : Hp) (σ : L2.St) (E : En) (ds : List PyData) (c : Addr) (X : XK), Room k (A.deeper (envOfC x (defScope st) s.heap.objs.size f cdv)) → S ds c →
      Sg K E σ H (ds.map Sl.d ++ List.replicate (N.length - ds.length) .no) [] →
      ∃ t, PSs (cxOf (L2.CX P w) P w K mg base N x (defScope st) f cdv A outer s H X) (defBody st) t ∧ ∀ Q : VK, (∀ H2, Ex E.hin H2 → X (.ref c) none H2) → t { nx := fun _ H' => Q .non H', rt := Q } σ H) : CalX P w K mg base (k + 1) x (SpE K S) := by
  obtain ⟨f, fd, F, hm⟩ := D.ex
  exact ⟨f, fd, ps, okE F sc hpn len (hbody f), hm, F.kp, F.binds hb⟩
end
/-! ### a def in a slot -/
/-- the def at f keeps its promise to raise -/
def HeldE (P : Program) (w : World) (K : PySem.W.Frag) (mg : Str → Option Value) (base : Heap) (k : Nat) (f : Addr) (S : List PyData → Addr → Prop) : Prop :=
  ∃ (fd : FuncData) (ps : List Str), FnOk P w K mg base (L2.CX P w) k f fd ps (SpE K S) ∧ PySem.W.keepIn K (.ref f) = true ∧ Binds K fd ps []
def tAskE (P : Program) (w : World) (K : PySem.W.Frag) (mg : Str → Option Value) (base : Heap) (k i : Nat) (t : TA) (E : L2.St → XK) : TE := fun σ H Q => ∃ f S, HeldE P w K mg base k f S ∧ σ[i]? = some (some (.ref f)) ∧ t σ H fun vs H1 => SpE K S vs H1 Q (E σ)
section
variable {X : Cx} {k j i : Nat} {x : Str} {p pos : Pos} {e : Expr} {es : List Expr} {t : TA} {E : L2.St → XK}
theorem pe_ask {P : Program} {w : World} {K : PySem.W.Frag} {mg : Str → Option Value} {base : Heap} (e1 : X.prog = P) (e2 : X.w = w) (e3 : X.K = K) (e4 : X.mg = mg) (e5 : X.base = base) (hr : Room j X.A) (hk : k ≤ j) (hN : X.N[i]? = some x) (hv : Vis X.env.scope x) (hx : ∀ σ, PassesAt (L2.CX X.prog X.w) X σ (E σ)) (ha : PA X (e :: es) t) (hdb : (x == ("__debug__" : Str)) = false := by decide) (hcd : (x == ("__classdict__" : Str)) = false := by decide)
    (he : starEach (e :: es) X.env = (false, eval e X.env) :: starEach es X.env := by rfl) (hpl : (backTo pos (starEach es X.env)).any (·.1) = false := by rfl) : PE X (.Call (.Name x p) (e :: es) [] pos) (tAskE P w K mg base k i t E) := by
  subst e1 e2 e3 e4 e5
  constructor
  intro pins s σ H Q I ⟨f, S, ⟨fd, ps, F, kp, b⟩, hs, h⟩
  have hvar := (pe_var (pos := p) hN hv hdb hcd).run pins s σ H (fun v H1 => v = .ref f ∧ H1 = H) I ⟨.ref f, hs, rfl, rfl⟩
  refine wpAny_Call_Name_kw (thn hvar ?_)
  rintro u s1 ⟨v, H1, I1, r1, rfl, rfl⟩
  cases r1
  refine PySem.W.callWith_K (h₀ := X.base) I.ok.mod.kin kp (thn (ha.run pos pins s1 σ _ _ I1 h) ?_) he hpl
  rintro us s2 ⟨vs, H2, I2, r, q⟩
  exact ⟨I2.kIn, run_fnS F (hr.mono hk) b (hx σ) I2 r q⟩
end
/-- arguments of which the first is a def -/
def EvAF (K : PySem.W.Frag) (ρ : List Sl) (O : List (Addr × Ow)) (ta : TA) (f : Addr) (xs : List PyData) : Prop :=
  ∀ H0 σ H, S1 K H0 σ H ρ O → ∀ Q : List V → Hp → Prop, (∀ us H2, Ex H H2 → RvA K (fr H0 H H2) us xs → Q (.ref f :: us) H2) → ta σ H Q
theorem ef_cons {K : PySem.W.Frag} {ρ : List Sl} {O : List (Addr × Ow)} {te : TE} {tr : TA} {f : Addr} {xs : List PyData} (h : EvV K ρ O te (.ref f)) (hr : EvA K ρ O tr xs) : EvAF K ρ O (tCons te tr) f xs := fun H0 σ H s Q q =>
  h H0 σ H s _ fun H1 e1 => hr H0 σ H1 (s.keep e1) _ fun us H2 e2 r => q us H2 (e1.trans e2) (r.up (fr_chain s.base e1))
theorem evv_glob {K : PySem.W.Frag} {ρ : List Sl} {O : List (Addr × Ow)} {f : Addr} : EvV K ρ O (tC (.ref f)) (.ref f) := fun H0 σ H s Q q => q H (Ex.refl H)
/-- promises of defs whose first argument is such a def -/
def SpFL (P : Program) (w : World) (K : PySem.W.Frag) (mg : Str → Option Value) (base : Heap) (k : Nat) (S : (List PyData → Addr → Prop) → List PyData → List PyData → Prop) : Sp := fun vs H Q _ =>
  ∃ f T us G ds ys, HeldE P w K mg base k f T ∧ vs = .ref f :: us ∧ Ex G H ∧ RvA K G us ds ∧ S T ds ys ∧ ∀ p ws H2, H p = none → Ex H H2 → H2 p = some (.lst ws) → RvA K (del p (fr G H H2)) ws ys → Q (.ref p) H2
def SpFR (P : Program) (w : World) (K : PySem.W.Frag) (mg : Str → Option Value) (base : Heap) (k : Nat) (S : (List PyData → Addr → Prop) → List PyData → PyData → Prop) : Sp := fun vs H Q _ =>
  ∃ f T us G ds y, HeldE P w K mg base k f T ∧ vs = .ref f :: us ∧ Ex G H ∧ RvA K G us ds ∧ S T ds y ∧ ∀ v H2, Ex H H2 → Rv K (fr G H H2) v y → Q v H2
section
variable {P : Program} {w : World} {K : PySem.W.Frag} {mg : Str → Option Value} {base : Heap} {k : Nat} {ρ : List Sl} {O : List (Addr × Ow)} {ta : TA} {f : Addr} {ds ys : List PyData} {y : PyData} {X : XK} {T : List PyData → Addr → Prop} {SL : (List PyData → Addr → Prop) → List PyData → List PyData → Prop} {SR : (List PyData → Addr → Prop) → List PyData → PyData → Prop}
theorem el_callF (h : EvAF K ρ O ta f ds) (hf : HeldE P w K mg base k f T) (hs : SL T ds ys) : EvL K ρ O (tCall (SpFL P w K mg base k SL) [] X ta) ys := fun H0 σ H s Q q =>
  h H0 σ H s _ fun us H1 e r => ⟨f, T, us, fr H0 H H1, ds, ys, hf, by rw [List.append_nil], fr_ex s.base e, r, hs, fun p ws H2 hp e2 hw r2 => q p ws H2 (ex_none e hp) (e.trans e2) hw (r2.up (del_mono (ex_frfr s.base e e2)))⟩
theorem ev_callF (h : EvAF K ρ O ta f ds) (hf : HeldE P w K mg base k f T) (hs : SR T ds y) : Ev K ρ O (tCall (SpFR P w K mg base k SR) [] X ta) y := fun H0 σ H s Q q =>
  h H0 σ H s _ fun us H1 e r => ⟨f, T, us, fr H0 H H1, ds, y, hf, by rw [List.append_nil], fr_ex s.base e, r, hs, fun v H2 e2 r2 => q v H2 (e.trans e2) (r2.up (ex_frfr s.base e e2))⟩
end
theorem S1.first {K : PySem.W.Frag} {H0 H : Hp} {σ : L2.St} {ρ : List Sl} {O : List (Addr × Ow)} (s : S1 K H0 σ H ρ O) (f : Addr) : S1 K H0 (some (.ref f) :: σ) H (.o f :: ρ) O := by
  refine ⟨s.base, by rw [List.length_cons, List.length_cons, s.len], fun i x h => ?_, fun i p h => ?_, s.own⟩
  · cases i with
    | zero => cases h
    | succ i => exact s.env i x (by simpa using h)
  · cases i with
    | zero =>
      have h' : Sl.o f = Sl.o p := by simpa using h
      cases h'
      rfl
    | succ i => exact s.adr i p (by simpa using h)
theorem start_f {K : PySem.W.Frag} {G H : Hp} {us : List V} {ds : List PyData} {f : Addr} {n : Str} {N : List Str} (e : Ex G H) (r : RvA K G us ds) (hn : ds.length ≤ N.length) : Sg K ⟨G, H, G⟩ (L2.start (n :: N) (.ref f :: us)) H (.o f :: (ds.map Sl.d ++ List.replicate (N.length - ds.length) .no)) [] := by
  obtain ⟨H0, s⟩ := start_s2 (N := N) e r hn
  have es : L2.start (n :: N) (.ref f :: us) = some (.ref f) :: L2.start N us := by
    unfold L2.start
    rw [List.map_cons, List.length_cons, List.length_cons, Nat.add_sub_add_right]
    rfl
  rw [es]
  exact ⟨H0, ⟨s.s.first f, s.ent, s.sub, s.low, s.new, s.nd⟩⟩
section
variable {P : Program} {w : World} {K : PySem.W.Frag} {mg : Str → Option Value} {base : Heap} {x n : Str} {st : Stmt} {N ps : List Str} {k kk : Nat}
theorem calFL {S : (List PyData → Addr → Prop) → List PyData → List PyData → Prop} (D : Df K mg x st) (sc : FnScope (n :: N) ps (defScope st))
    (hb : ∀ (kV doc pm : Value) (an : Option Addr) (cdv ct : Value) (us : List Value), us.length = ps.length → bindArgs (PySem.W.fnOf x x (defArgs st) (defBody st) (defScope st) .none kV doc pm an cdv ct) ⟨us, []⟩ = pure (ps.zip us))
    (hpn : ps.length ≤ N.length + 1) (len : ∀ T ds y, S T ds y → ds.length + 1 = ps.length)
    (hbody : ∀ (f : Addr) (cdv : Value) (A : Around) (outer : List Env) (s : Shared) (H : Hp) (σ : L2.St) (E : En) (g : Addr) (T : List PyData → Addr → Prop) (ds ys : List PyData) (X : XK), Room k (A.deeper (envOfC x (defScope st) s.heap.objs.size f cdv)) → HeldE P w K mg base kk g T → S T ds ys →
      Sg K E σ H (.o g :: (ds.map Sl.d ++ List.replicate (N.length - ds.length) .no)) [] →
      ∃ t, PSs (cxOf CX0 P w K mg base (n :: N) x (defScope st) f cdv A outer s H X).nox (defBody st) t ∧ ∀ Q : VK, (∀ p ws H2, E.hin p = none → Ex E.hin H2 → H2 p = some (.lst ws) → RvA K (del p (fr E.h0 E.hin H2)) ws ys → Q (.ref p) H2) → t { nx := fun _ H' => Q .non H', rt := Q } σ H) : Cal P w K mg base (k + 1) x (SpFL P w K mg base kk S) := by
  obtain ⟨f, fd, F, hm⟩ := D.ex
  refine ⟨f, fd, ps, F.ok sc (fun vs H Q E h => ?_) (fun cdv A outer s H vs Q E hr h => ?_), hm, F.kp, F.binds hb⟩
  · obtain ⟨g, T, us, G, ds, ys, hg, rfl, e, r, hS, _⟩ := h
    rw [List.length_cons, r.length]
    exact len T ds ys hS
  · obtain ⟨g, T, us, G, ds, ys, hg, rfl, e, r, hS, q⟩ := h
    have hl := len T ds ys hS
    obtain ⟨t, h1, h2⟩ := hbody f cdv A outer s H _ ⟨G, H, G⟩ g T ds ys E hr hg hS (start_f e r (by omega))
    exact ⟨t, h1, h2 Q fun p ws H2 hp e2 hw r2 => q p ws H2 hp e2 hw r2⟩
theorem calFR {S : (List PyData → Addr → Prop) → List PyData → PyData → Prop} (D : Df K mg x st) (sc : FnScope (n :: N) ps (defScope st))
    (hb : ∀ (kV doc pm : Value) (an : Option Addr) (cdv ct : Value) (us : List Value), us.length = ps.length → bindArgs (PySem.W.fnOf x x (defArgs st) (defBody st) (defScope st) .none kV doc pm an cdv ct) ⟨us, []⟩ = pure (ps.zip us))
    (hpn : ps.length ≤ N.length + 1) (len : ∀ T ds y, S T ds y → ds.length + 1 = ps.length)
    (hbody : ∀ (f : Addr) (cdv : Value) (A : Around) (outer : List Env) (s : Shared) (H : Hp) (σ : L2.St) (E : En) (g : Addr) (T : List PyData → Addr → Prop) (ds : List PyData) (y : PyData) (X : XK), Room k (A.deeper (envOfC x (defScope st) s.heap.objs.size f cdv)) → HeldE P w K mg base kk g T → S T ds y →
      Sg K E σ H (.o g :: (ds.map Sl.d ++ List.replicate (N.length - ds.length) .no)) [] →
      ∃ t, PSs (cxOf CX0 P w K mg base (n :: N) x (defScope st) f cdv A outer s H X).nox (defBody st) t ∧ ∀ Q : VK, (∀ v H2, Ex E.hin H2 → Rv K (fr E.h0 E.hin H2) v y → Q v H2) → t { nx := fun _ H' => Q .non H', rt := Q } σ H) : Cal P w K mg base (k + 1) x (SpFR P w K mg base kk S) := by
  obtain ⟨f, fd, F, hm⟩ := D.ex
  refine ⟨f, fd, ps, F.ok sc (fun vs H Q E h => ?_) (fun cdv A outer s H vs Q E hr h => ?_), hm, F.kp, F.binds hb⟩
  · obtain ⟨g, T, us, G, ds, ys, hg, rfl, e, r, hS, _⟩ := h
    rw [List.length_cons, r.length]
    exact len T ds ys hS
  · obtain ⟨g, T, us, G, ds, y, hg, rfl, e, r, hS, q⟩ := h
    have hl := len T ds y hS
    obtain ⟨t, h1, h2⟩ := hbody f cdv A outer s H _ ⟨G, H, G⟩ g T ds y E hr hg hS (start_f e r (by omega))
    exact ⟨t, h1, h2 Q fun v H2 e2 r2 => q v H2 e2 r2⟩
end
/-! ### both ways -/
section
variable {P : Program} {w : World} {K : PySem.W.Frag} {mg : Str → Option Value} {base : Heap} {x qual : Str} {st : Stmt} {f : Addr} {fd : FuncData} {N ps : List Str} {k : Nat}
theorem okRX {S : List PyData → PyData → Prop} (F : Fun K x qual st f fd) (sc : FnScope N ps (defScope st)) (hpn : ps.length ≤ N.length) (len : ∀ ds y, S ds y → ds.length = ps.length)
    (hbody : ∀ (cdv : Value) (A : Around) (outer : List Env) (s : Shared) (H : Hp) (σ : L2.St) (E : En) (ds : List PyData) (y : PyData) (X : XK), Room k (A.deeper (envOfC qual (defScope st) s.heap.objs.size f cdv)) → S ds y →
      Sg K E σ H (ds.map Sl.d ++ List.replicate (N.length - ds.length) .no) [] →
      ∃ t, PSs (cxOf (L2.CX P w) P w K mg base N qual (defScope st) f cdv A outer s H X) (defBody st) t ∧ ∀ Q : VK, (∀ v H2, Ex E.hin H2 → Rv K (fr E.h0 E.hin H2) v y → Q v H2) → t { nx := fun _ H' => Q .non H', rt := Q } σ H) : FnOk P w K mg base (L2.CX P w) (k + 1) f fd ps (SpR K S) := by
  refine F.okX sc (fun vs H Q E h => ?_) (fun cdv A outer s H vs Q E hr h => ?_)
  · obtain ⟨G, ds, y, e, r, hS, _⟩ := h
    rw [r.length]
    exact len ds y hS
  · obtain ⟨G, ds, y, e, r, hS, q⟩ := h
    have hl := len ds y hS
    obtain ⟨t, h1, h2⟩ := hbody cdv A outer s H (L2.start N vs) ⟨G, H, G⟩ ds y E hr hS (start_s2 e r (by omega))
    exact ⟨t, h1, h2 Q fun v H2 e2 r2 => q v H2 e2 r2⟩
theorem fn_orE {S T : List PyData → Addr → Prop} (F1 : FnOk P w K mg base (L2.CX P w) k f fd ps (SpE K S)) (F2 : FnOk P w K mg base (L2.CX P w) k f fd ps (SpE K T)) : FnOk P w K mg base (L2.CX P w) k f fd ps (SpE K fun ds c => S ds c ∨ T ds c) :=
  (fn_or F1 F2).imp fun vs H Q E ⟨G, ds, c, e, r, h, q⟩ => h.elim (fun h => .inl ⟨G, ds, c, e, r, h, q⟩) fun h => .inr ⟨G, ds, c, e, r, h, q⟩
end
section
variable {K : PySem.W.Frag} {ρ : List Sl} {O : List (Addr × Ow)} {ts : TA} {c : Addr} {E : XK} {ds : List PyData} {S : List PyData → Addr → Prop} {s1 : Sp}
theorem ee_callO (h : EvA K ρ O ts ds) (hs : S ds c) : EvE K ρ O (tCall (SpO s1 (SpE K S)) [] E ts) c E := fun H0 σ H s k Q =>
  h H0 σ H s _ fun vs H1 e r => .inr ⟨fr H0 H H1, ds, c, fr_ex s.base e, by rw [List.append_nil]; exact r, hs, fun H2 e2 => k H2 (e.trans e2)⟩
end
end Pw

set_option Elab.async false
set_option linter.all false
set_option maxRecDepth 100000
set_option maxHeartbeats 1000000
set_option autoImplicit false
/-! A def called with the exception that is handled. -/
namespace Pw
open PySem PySem.Spec PyProof.Rows L2
open Evl (Ex)
theorem call_isP {X : Cx} {a D : Addr} {oe : Obj} (cc : ExcC X.K D) (hz : Zc (.ref D) none oe) (hf : ∃ vs, oe.data = .fields vs) (hp : (a, oe) ∈ X.pn) : CallR X (.builtin "isinstance") (rIsE X.K D a) := by
  rintro pins s σ H xs us Q I r ⟨c, cv, b, rfl, hcv, e, q⟩
  obtain ⟨u2, rfl, h2⟩ : ∃ u2, us = [Value.ref a, u2] ∧ u2 = cv := by
    cases r with
    | cons r1 r2 =>
      cases r1
      cases r2 with
      | cons r3 r4 =>
        cases r4
        exact ⟨_, rfl, hcv _ r3⟩
  subst h2
  have hg := (I.pin (a, oe) (List.mem_append_left _ hp)).1
  obtain ⟨vs, hv⟩ := hf
  have J : PySem.W.InstAt s.heap a oe D none := by
    refine ⟨hg, hz.1, ?_, ?_⟩
    · unfold PySem.W.notCls
      rw [hv]
    · rw [hz.2]
      trivial
  exact PySem.W.kia_one (PySem.W.handS_kitx_exc cc.hg cc.hk cc.hs cc.hd cc.ha cc.hn cc.ht cc.hm) I.kIn J e (by intro z; cases z) (fun tk => ⟨V.bl b, H, I.tok tk, rfl, q⟩)
section
variable {P : Program} {w : World} {K : PySem.W.Frag} {mg : Str → Option Value} {base : Heap} {x qual : Str} {st : Stmt} {f : Addr} {fd : FuncData} {N ps : List Str} {k : Nat}
theorem run_pin (F : Fun K x qual st f fd) (sc : FnScope N ps (defScope st)) {p : Addr × Obj} {A : Around} {outer : List Env} {s : Shared} {H : Hp} {us : List Value} {vs : List V} {Q : VK}
    (hr : L2H.RoomH (k + 1) A) (hpin : L2H.PinOk outer H s p) (e0 : Env0 P w K mg base A outer s H) (hb : BindsTo s fd ⟨us, []⟩ (ps.zip us)) (hl : vs.length = ps.length) (r : Vals vs us)
    (hbody : ∀ cdv : Value, L2H.RoomH k (A.deeper (envOfC qual (defScope st) s.heap.objs.size f cdv)) → ∃ t, PSs (L2H.cxH CX0 P w K mg base N qual (defScope st) f cdv A outer s H E0 p) (defBody st) t ∧ t { nx := fun _ H' => Q .non H', rt := Q } (L2.start N vs) H) :
    codeAny (model P w) A (.call (.ref f) ⟨us, []⟩) (CR CX0 outer P w H s Q E0) s := by
  obtain ⟨oc, od, kV, doc, pm, an, cdv, ct, osl, rfl, lk, hcd⟩ := F.ex
  have stays : ∀ b o, base.get? b = some o → s.heap.get? b = some o := fun b o e => (e0.bs b o e).1
  have KX : K.In s.heap := e0.mod.kin.keeps stays
  refine codeAny_call_function hr.depth (KX _ _ lk) rfl sc.co sc.gen rfl (PySem.W.codeRec_of KX hcd) (hb _ _ _ _ (wpAny_newFunctionEnv_cells sc.kind (fun y hy => ?_) fun env he s1 z => ?_))
  · obtain ⟨n, v⟩ := y
    exact (sc.par n (List.of_mem_zip hy).1).elim (fun q => .inl q) fun q => .inr ⟨q, PySem.W.cellsFrom_some _ _ _ (.inl q)⟩
  · subst he
    obtain ⟨t, ht, hq⟩ := hbody cdv (hr.deeper _)
    have I := L2H.inv_startH (CX := CX0) (P := P) (w := w) (K := K) (mg := mg) (base := base) (f := f) (cd := cdv) (A := A) (E := E0) sc hpin e0 hl r z
    refine ⟨(e0.mod.nolimit.keeps stays).keeps z.toInCall.keep, codeAny_func (wpAny_mono (ht.run [] s1 _ H _ I hq) (fun fl s' hs => ?_) fun _ _ h => h)⟩
    match fl, hs with
    | .ret u, ⟨v, σ', H', J, rv, q⟩ => exact ⟨v, H', J.os, J.bare, J.base, J.hok, rv, q⟩
    | .next, ⟨σ', H', J, q⟩ => exact ⟨.non, H', J.os, J.bare, J.base, J.hok, rfl, q⟩
    | .brk, ⟨_, _, _, q⟩ => exact q.elim
    | .cont, ⟨_, _, _, q⟩ => exact q.elim
end
section
variable {X : Cx} {a f : Addr} {oe : Obj} {pn : List (Addr × Obj)} {n x y qual : Str} {st : Stmt} {fd : FuncData} {N ps : List Str} {i k j : Nat} {p p2 pos : Pos}
/-- f(e) in an except suite, e the exception that it holds -/
def tPin (i : Nat) (a : Addr) (R : Hp → VK → Prop) : TE := fun σ H Q => σ[i]? = some (some (.ref a)) ∧ R H Q
theorem pe_pin (F : Fun X.K n qual st f fd) (sc : FnScope N ps (defScope st)) (hb : Binds X.K fd ps []) (hps : ps.length = 1) (hm : X.mg x = some (.ref f)) (hr : Room j X.A) (hk : k + 1 ≤ j) (hg : Gl X x) (hN : X.N[i]? = some y) (hv : Vis X.env.scope y) (R : Hp → VK → Prop)
    (hbody : ∀ (A : Around) (outer : List Env) (s : Shared) (H : Hp) (Q : VK) (cdv : Value), R H Q → L2H.RoomH k (A.deeper (envOfC qual (defScope st) s.heap.objs.size f cdv)) →
      ∃ t, PSs (L2H.cxH CX0 X.prog X.w X.K X.mg X.base N qual (defScope st) f cdv A outer s H E0 (a, oe)) (defBody st) t ∧ t { nx := fun _ H' => Q .non H', rt := Q } (L2.start N [.ref a]) H)
    (hdb : (x == ("__debug__" : Str)) = false := by decide) (hdb2 : (y == ("__debug__" : Str)) = false := by decide) (hcd : (y == ("__classdict__" : Str)) = false := by decide)
    (he : starEach [Expr.Name y p2] X.env = (false, eval (.Name y p2) X.env) :: starEach [] X.env := by rfl) (hpl : (backTo pos (starEach [] X.env)).any (·.1) = false := by rfl) :
    PE (X.suite a ((a, oe) :: pn)) (.Call (.Name x p) [.Name y p2] [] pos) (tPin i a R) := by
  constructor
  intro pins s σ H Q I ⟨hs, h⟩
  have ha : PA (X.suite a ((a, oe) :: pn)) [.Name y p2] (tCons (tVar i) tNil) := pa_cons (pe_var hN hv hdb2 hcd) pa_nil
  refine wpAny_Call_Name_kw (ld_glob I hg hm ?_ hdb)
  refine PySem.W.callWith_K (h₀ := X.base) I.ok.mod.kin F.kp (thn (ha.run pos pins s σ H (fun vs H1 => vs = [.ref a] ∧ H1 = H) I ⟨.ref a, hs, rfl, rfl⟩) ?_) he hpl
  rintro us s1 ⟨vs, H1, I1, r, rfl, rfl⟩
  refine ⟨I1.kIn, ?_⟩
  have pin := I1.pin (a, oe) (List.mem_append_left _ List.mem_cons_self)
  have pinned : L2H.PinOk X.stack H1 s1 (a, oe) := by
    refine ⟨pin.1, pin.2.1, fun z => ?_, pin.2.2.2.2⟩
    rcases List.mem_cons.mp (I1.stkSub a z) with z | z
    · exact pin.2.2.1 z
    · exact pin.2.2.2.1 z
  have room : L2H.RoomH (k + 1) (X.suite a ((a, oe) :: pn)).A := ⟨(hr.mono hk).dp, (hr.mono hk).un⟩
  have len : us.length = ps.length := by rw [← r.length, hps]; rfl
  have bind := hb s1 us I1.kIn (by rw [List.append_nil]; exact len)
  rw [List.append_nil] at bind
  refine wpAny_call (codeAny_mono (run_pin (N := N) F sc (Q := Q) room pinned I1.env0 bind (by rw [hps]; rfl) r fun cdv rm => hbody _ _ _ _ Q cdv h rm) ?_)
  rintro (er | fl) s' hq
  · exact hq.elim
  · match fl, hq with
    | .ret u, hq => exact I1.after hq
    | .next, hq => exact hq.elim
    | .brk, hq => exact hq.elim
    | .cont, hq => exact hq.elim
end
section
variable {K : PySem.W.Frag} {ρ : List Sl} {O : List (Addr × Ow)} {i : Nat} {D a : Addr} {v : V} {cv : Value} {b : Bool}
theorem ev_isE (h : ρ[i]? = some (.o a)) (hcv : ∀ u, RelV v u → u = cv) (hk : PySem.W.kitOne K (.ref D) cv = some b) : Ev K ρ O (tCB (rIsE K D a) (tCons (tVar i) (tCons (tC v) tNil))) (.bool b) := fun H0 σ H s Q q =>
  ⟨_, s.adr i a h, v, cv, b, rfl, hcv, hk, q _ H (Ex.refl H) (.bl b)⟩
end
end Pw

set_option Elab.async false
set_option linter.all false
set_option maxRecDepth 100000
set_option maxHeartbeats 1000000
set_option autoImplicit false
/-! list(range(n)) -/
namespace Pw
open PySem PySem.Spec PyProof.Rows L2
open Evl (Ex)
def tLRg1 (ta : TA) : TE := fun σ H Q => ta σ H fun vs H1 => ∃ j n, vs = [.int j] ∧ RgC 0 j 1 n ∧ n ≤ 100000 ∧ ∀ q, H1 q = none → Q (.ref q) (upd H1 q (.lst ((rg3 0 1 n).map V.int)))
section
variable {X : Cx}
theorem pe_listRg1 {a : Expr} {ta : TA} {p p2 pos pos2 : Pos} (hc : X.calm = true) (hg : Gl X "list") (hm : X.mg "list" = none) (hg2 : Gl X "range") (hm2 : X.mg "range" = none) (ha : PA X [a] ta)
    (hs : starEach [a] X.env = [(false, eval a X.env)] := by rfl)
    (na : starEach [Expr.Call (.Name "range" p2) [a] [] pos2] X.env = (false, eval (Expr.Call (.Name "range" p2) [a] [] pos2) X.env) :: starEach [] X.env := by rfl) :
    PE X (.Call (.Name "list" p) [.Call (.Name "range" p2) [a] [] pos2] [] pos) (tLRg1 ta) := by
  refine ⟨fun pins s σ H Q I h => ?_⟩
  refine Call_ (ld_blt I hg hm boot_list ?_)
  refine PyProof.Rows.callWith_type1 (PyProof.Rows.args_cons ?_ na) na rfl
  refine Call_ (ld_blt I hg2 hm2 boot_range ?_)
  refine PyProof.Rows.callWith_type1 ?_ hs rfl
  refine thn (ha.run pos2 pins s σ H _ I h) fun us t ⟨vs, G, J, rv, q⟩ => ?_
  obtain ⟨j, n, rfl, ⟨c0, c1, c2, c3⟩, hn, q⟩ := q
  obtain ⟨u1, rfl, r1⟩ : ∃ u1, us = [u1] ∧ RelV (.int j) u1 := by
    cases rv with
    | cons r rr => cases rr; exact ⟨_, rfl, r⟩
  obtain ⟨t1, rfl⟩ := r1
  refine call_range_1 ?_
  refine PyProof.Rows.args_nil ?_
  have J2 := J.kept (h' := t.heap.push { cls := .type "range", data := .fields #[.int 0 t.toks, .int j t1, .int 1 (t.toks + 1)] }) (t' := t.toks + 1 + 1) fun b o e => Heap.get?_push_of_some _ e
  refine call_list_range (n := n) (J2.ok.hd hc) (IsRange.new ..) c2 c3 (Nat.le_trans hn (by decide)) fun h2 tk acc ep hk he hi => ?_
  have hv : Vals ((rg3 0 1 n).map V.int) acc.toList := by
    have e : acc.toList.length = n := by rw [Array.length_toList]; exact hi.1
    unfold rg3
    rw [List.map_map, ← e]
    refine vals_of_get acc.toList _ fun m u hu => ?_
    obtain ⟨tt, rfl⟩ := hi.2 m u (by rw [← hu, Array.getElem?_toList])
    exact ⟨tt, rfl⟩
  have hz : ((rg3 0 1 n).map V.int).length ≤ sizeLine := by
    unfold rg3
    rw [List.length_map, List.length_map, List.length_range, sizeLine_eq]
    omega
  exact ⟨.ref _, _, J2.laid (t' := tk) (o := .lst ((rg3 0 1 n).map V.int)) hk (Nat.le_refl _) ⟨hz, acc.toList, ep, hv, by rw [Array.toArray_toList]; exact he⟩, rfl, q _ (J2.hok.fresh (Nat.le_refl _))⟩
end
section
variable {K : PySem.W.Frag} {ρ : List Sl} {O : List (Addr × Ow)} {ta : TA}
theorem el_rg1 {j : Int} {n : Nat} (h : EvA K ρ O ta [.int j]) (hr : RgC 0 j 1 n) (hn : n ≤ 100000) : EvL K ρ O (tLRg1 ta) ((rg3 0 1 n).map PyData.int) := fun H0 σ H s Q q =>
  h H0 σ H s _ fun vs H1 e r => by
    have r' := RvA.ints (ns := [j]) r
    refine ⟨j, n, r', hr, hn, fun p hp => ?_⟩
    exact q p _ _ (ex_none e hp) (e.trans (Ex.new hp)) upd_same (RvA.ofInts _)
end
end Pw

set_option Elab.async false
set_option linter.all false
set_option maxRecDepth 100000
namespace Pw
open PySem L2
def topS (i : Nat) : Stmt := PySem.Challenge.pw_partways_k05_refused.main.body.getD i (.Pass ⟨0, 0, 0, 0⟩)
abbrev s_wall : Stmt := topS 0
abbrev s_is_whole : Stmt := topS 8
abbrev s_is_pair : Stmt := topS 9
abbrev s_is_sum : Stmt := topS 10
abbrev s_check_sum : Stmt := topS 11
abbrev s_check_unlike : Stmt := topS 12
abbrev s_total : Stmt := topS 13
abbrev s_in_order : Stmt := topS 14
abbrev s_turned_of : Stmt := topS 15
abbrev s_whole : Stmt := topS 16
abbrev s_often : Stmt := topS 17
abbrev s_turned : Stmt := topS 18
abbrev s_is_own : Stmt := topS 19
abbrev s_folded : Stmt := topS 22
abbrev s_hooks : Stmt := topS 23
abbrev s_check_by : Stmt := topS 25
abbrev s_spread : Stmt := topS 26
abbrev s_gathered : Stmt := topS 27
abbrev s_stairs_of : Stmt := topS 30
abbrev s_is_alone : Stmt := topS 31
abbrev s_partner_of : Stmt := topS 32
abbrev s_Partner___init__ : Stmt := inClass (topS 33) 0
abbrev s_Partner_shows : Stmt := inClass (topS 33) 1
abbrev s_Alone___init__ : Stmt := inClass (topS 34) 0
abbrev s_Alone_shows : Stmt := inClass (topS 34) 1
abbrev s_partner : Stmt := topS 36
abbrev s_law_cell_at : Stmt := topS 38
abbrev s_law_draw : Stmt := topS 39
abbrev s_law_number : Stmt := topS 40
abbrev s_law_put : Stmt := topS 41
abbrev s_law_sum : Stmt := topS 42
abbrev s_law_kinds : Stmt := topS 43
abbrev s_law_with_sum : Stmt := topS 44
abbrev s_law_with_number : Stmt := topS 45
abbrev s_law_led : Stmt := topS 46
abbrev s_law_others : Stmt := topS 47
abbrev s_law_told : Stmt := topS 48
abbrev s_law_refused : Stmt := topS 49
abbrev s_law_many_right : Stmt := topS 50
abbrev s_law : Stmt := topS 51
end Pw

set_option Elab.async false
set_option linter.all false
set_option maxRecDepth 100000
set_option maxHeartbeats 2000000
set_option autoImplicit false
namespace Pw
open PySem PySem.Spec PyProof.Rows L2
open Evl (Ex)
open Pw in
local macro_rules | `(tactic| walk_at "ev") => `(tactic| first
  | with_reducible exact ev_int
  | with_reducible exact ev_bl
  | with_reducible exact ev_non
  | exact ev_var rfl
  | exact ea_nil
  | with_reducible exact eo_none
  | with_reducible exact et_yes
  | ((refine' ea_cons ?_ ?_) <;> walk_at "ev")
  | ((with_reducible refine' et_test ?_) <;> walk_at "ev")
  | ((with_reducible refine' et_B ?_) <;> walk_at "ev")
  | ((with_reducible refine' et_not ?_) <;> walk_at "ev")
  | ((with_reducible refine' et_and ?_ (fun h_and => ?_)) <;> walk_at "ev")
  | ((with_reducible refine' et_or ?_ (fun h_or => ?_)) <;> walk_at "ev")
  | ((with_reducible refine' ev_andV ?_ (fun h_and => ?_)) <;> walk_at "ev")
  | ((with_reducible refine' ev_orV ?_ (fun h_or => ?_)) <;> walk_at "ev")
  | ((with_reducible refine' ev_notV ?_) <;> walk_at "ev")
  | ((with_reducible refine' ev_ifI ?_ (fun h_if => ?_) (fun h_if => ?_)) <;> walk_at "ev")
  | ((with_reducible refine' ev_un ?_ op1_neg) <;> walk_at "ev")
  | ((with_reducible refine' (el_cat ?_ ?_ ?_).ev) <;> walk_at "ev")
  | ((with_reducible refine' el_cat ?_ ?_ ?_) <;> walk_at "ev")
  | ((with_reducible refine' ev_op ?_ ?_ ?_) <;> walk_at "ev")
  | ((with_reducible refine' ev_tup ?_ ?_) <;> walk_at "ev")
  | ((with_reducible refine' (el_lst ?_ ?_).ev) <;> walk_at "ev")
  | ((with_reducible refine' el_lst ?_ ?_) <;> walk_at "ev")
  | ((with_reducible refine' (el_sl ?_ ?_ ?_).ev) <;> walk_at "ev")
  | ((with_reducible refine' el_sl ?_ ?_ ?_) <;> walk_at "ev")
  | ((with_reducible refine' (el_rev ?_).ev) <;> walk_at "ev")
  | ((with_reducible refine' el_rev ?_) <;> walk_at "ev")
  | ((with_reducible refine' eo_some ?_) <;> walk_at "ev")
  | ((with_reducible refine' (el_list ?_).ev) <;> walk_at "ev")
  | ((with_reducible refine' el_list ?_) <;> walk_at "ev")
  | ((with_reducible refine' ev_call ?_ ?_) <;> walk_at "ev")
  | ((with_reducible refine' (el_call ?_ ?_).ev) <;> walk_at "ev")
  | ((with_reducible refine' el_call ?_ ?_) <;> walk_at "ev")
  | ((with_reducible refine' (el_sortedD ?_).ev) <;> walk_at "ev")
  | ((with_reducible refine' el_sortedD ?_) <;> walk_at "ev")
  | ((with_reducible refine' (el_sortedDR ?_).ev) <;> walk_at "ev")
  | ((with_reducible refine' el_sortedDR ?_) <;> walk_at "ev")
  | ((with_reducible refine' ev_dgetD ?_ ?_ ?_) <;> walk_at "ev")
  | ((with_reducible refine' ev_cb ?_ ?_) <;> walk_at "ev")
  | with_reducible exact op2_I0
  | with_reducible exact op2_B0
  | with_reducible exact op2_eqI
  | with_reducible exact op2_neI
  | with_reducible exact op2_eqB
  | with_reducible exact op2_neB
  | with_reducible exact op2_isB
  | with_reducible exact op2_isNB
  | with_reducible exact op2_inT
  | with_reducible exact op2_inL
  | (with_reducible refine' op2_eqD ?_ ?_)
  | (with_reducible refine' op2_neD ?_ ?_)
  | ((with_reducible refine' op2_I ?_) <;> walk_at "side")
  | (with_reducible refine' op2_ixL ?_)
  | (with_reducible refine' op2_ixT ?_)
  | (show List.length _ ≤ 100000; exact Nat.le_of_ble_eq_true rfl)
  | exact cb_len
  | exact cb_lenT
  | exact cb_minT
  | exact cb_abs
  | exact cb_max2
  | exact cb_min2
  | exact cb_intB
  | exact cb_sum
  | exact cb_any
  | exact cb_all
  | skip)
local macro_rules | `(tactic| walk_at "side") => `(tactic| first
  | exact Nat.le_of_ble_eq_true rfl
  | (with_reducible exact mulok_l (by decide))
  | (with_reducible exact mulok_r (by decide))
  | (show (0 : Int) < _; decide)
  | (show (0 : Int) < _; omega)
  | (show (0 : Int) ≤ _ ∧ _ ∧ _; decide)
  | skip)

section
variable {P : Program} {w : World} {K : PySem.W.Frag} {mg : Str → Option Value} {base : Heap}
/-! ### cells and draws -/
abbrev dI (ns : List Int) : PyData := .list (ns.map PyData.int)
def cellM (ns : List Int) (k : Nat) : Int := ns.getD k 0
def SCell (ds : List PyData) (y : PyData) : Prop := ∃ (ns : List Int) (k : Nat), ds = [dI ns, .int (k : Int)] ∧ y = .int (cellM ns k)
theorem at_ints {ns : List Int} {k : Nat} (h : k < ns.length) : L2.atI (ns.map PyData.int) (k : Int) = some (.int (ns.getD k 0)) := by
  refine atI_nat ?_
  rw [List.getElem?_map, List.getElem?_eq_getElem h, List.getD_eq_getElem?_getD, List.getElem?_eq_getElem h]
  rfl
theorem sc_law_cell_at : FnScope ["_law_script", "_law_k"] ["_law_script", "_law_k"] (defScope s_law_cell_at) := ⟨rfl, rfl, rfl, by decide +kernel, rfl, by decide +kernel, by decide +kernel⟩
theorem ok_cell_at (D : Df K mg "_law_cell_at" s_law_cell_at) (T : Bn mg) : Cal P w K mg base 1 "_law_cell_at" (SpR K SCell) := by
  refine calR D sc_law_cell_at (fun _ _ _ _ _ _ us hl => match us, hl with | [_, _], _ => rfl) (by decide) (fun ds y ⟨_, _, h, _⟩ => by rw [h]; rfl) (fun f cdv A outer s H σ E ds y X hr h s0 => ?_)
  obtain ⟨ns, k, rfl, rfl⟩ := h
  replace s0 : Sg K E σ H [.d (dI ns), .d (.int k)] [] := s0
  refine ⟨_, (pss_cons (ps_if (pt_cmpR op_lt (pv 1) (pe_callB (r := Evl.rLenS K) cp_len (by rfl) T.len_ (by decide +kernel) (pa_cons (pv 0) pa_nil)) (nomark _))
      (pss_one (ps_ret (pe_ix (r := rIxL K) ix_list (pv 0) (pv 1) (fun _ _ => rfl))))
      pss_nil)
    (pss_one (ps_ret pe_int))), fun Q kq => ?_⟩
  try dsimp only [cxOf, Cx.nox]
  refine q_when s0 (b := decide ((k : Int) < ((ns.map PyData.int).length : Nat))) (by walk_at "ev") (fun hb H1 e1 s1 => ?_) (fun hb H1 e1 s1 => ?_)
  · have hk : k < ns.length := by
      have := of_decide_eq_true hb
      rw [List.length_map] at this; omega
    refine d_ret s1 (x := .int (cellM ns k)) ?_ kq
    walk_at "ev"
    exact at_ints hk
  · have hk : ns.length ≤ k := by
      have := of_decide_eq_false hb
      rw [List.length_map] at this; omega
    refine d_ret s1 (x := .int (cellM ns k)) ?_ kq
    have e : cellM ns k = 0 := by unfold cellM; rw [List.getD_eq_getElem?_getD, List.getElem?_eq_none hk]; rfl
    rw [e]
    walk_at "ev"
def primesM : List Int := [1000003, 1000033, 1000037, 1000039, 1000081, 1000099, 1000117, 1000121, 1000133, 1000151, 1000159, 1000171, 1000183, 1000187, 1000193, 1000199]
def drawM (c k m : Int) : Int := (c * 48271 + k * 69621) % (primesM.getD (k % 16).toNat 0) % m
def SDraw (ds : List PyData) (y : PyData) : Prop := ∃ c k m : Int, ds = [.int c, .int k, .int m] ∧ 0 < m ∧ y = .int (drawM c k m)
theorem primes_pos : ∀ i : Nat, i < 16 → 0 < primesM.getD i 0 := by decide
theorem sc_law_draw : FnScope ["_law_cell", "_law_k", "_law_many", "_law_primes"] ["_law_cell", "_law_k", "_law_many"] (defScope s_law_draw) := ⟨rfl, rfl, rfl, by decide +kernel, rfl, by decide +kernel, by decide +kernel⟩
theorem ok_draw (D : Df K mg "_law_draw" s_law_draw) (T : Bn mg) : Cal P w K mg base 1 "_law_draw" (SpR K SDraw) := by
  refine calR D sc_law_draw (fun _ _ _ _ _ _ us hl => match us, hl with | [_, _, _], _ => rfl) (by decide) (fun ds y ⟨_, _, _, h, _⟩ => by rw [h]; rfl) (fun f cdv A outer s H σ E ds y X hr h s0 => ?_)
  obtain ⟨c, k, m, rfl, hm, rfl⟩ := h
  replace s0 : Sg K E σ H [.d (.int c), .d (.int k), .d (.int m), .no] [] := s0
  refine ⟨_, (pss_cons (ps_set (i := 3) sc_law_draw.nd rfl (Or.inl rfl) (pe_tup (pa_cons pe_int (pa_cons pe_int (pa_cons pe_int (pa_cons pe_int (pa_cons pe_int (pa_cons pe_int (pa_cons pe_int (pa_cons pe_int (pa_cons pe_int (pa_cons pe_int (pa_cons pe_int (pa_cons pe_int (pa_cons pe_int (pa_cons pe_int (pa_cons pe_int (pa_cons pe_int pa_nil))))))))))))))))))
    (pss_one (ps_ret (pe_op op_mod (pe_op op_mod (pe_op op_add (pe_op op_mulA (pv 0) pe_int) (pe_op op_mulA (pv 1) pe_int)) (pe_ix (r := rIxT K) ix_tup (pv 3) (pe_op op_mod (pv 1) pe_int) (fun _ _ => rfl))) (pv 2))))), fun Q kq => ?_⟩
  try dsimp only [cxOf, Cx.nox]
  refine q_asg s0 (x := .tuple (primesM.map PyData.int)) (by walk_at "ev") (fun σ1 H1 e1 s1 => ?_)
  have h16 : (k % 16).toNat < 16 := by omega
  have hp := primes_pos _ h16
  have ha : L2.atI (primesM.map PyData.int) (k % 16) = some (.int (primesM.getD (k % 16).toNat 0)) := by
    have := at_ints (ns := primesM) (k := (k % 16).toNat) h16
    have e : (((k % 16).toNat : Nat) : Int) = k % 16 := by omega
    rw [e] at this
    exact this
  refine' d_ret s1 (ev_is ?h ?e) kq
  case h =>
    walk_at "ev"
    all_goals first | exact ha | exact hp | exact hm
  case e => rfl
def Fit (c : Int) : Prop := c.natAbs < 2 ^ 1100000
def numM (c k lim : Int) : Int := if 10 ^ 18 ≤ c then (c - 10 ^ 18) % 10 ^ 40 else drawM ((c + 977 * k) * (c + 31 * k + 5)) (k % 9 + 1) lim
def SNum (ds : List PyData) (y : PyData) : Prop := ∃ c k lim : Int, ds = [.int c, .int k, .int lim] ∧ 0 < lim ∧ Fit c ∧ k.natAbs < 1000 ∧ y = .int (numM c k lim)
theorem sc_law_number : FnScope ["_law_cell", "_law_k", "_law_limit"] ["_law_cell", "_law_k", "_law_limit"] (defScope s_law_number) := ⟨rfl, rfl, rfl, by decide +kernel, rfl, by decide +kernel, by decide +kernel⟩
theorem small_bits {c k : Int} (hc : c.natAbs < 2 ^ 1100000) (hk : k.natAbs < 10000000) : (c + k).natAbs < 2 ^ 1100001 := by
  have h1 : (c + k).natAbs ≤ c.natAbs + k.natAbs := Int.natAbs_add_le c k
  have h2 : (10000000 : Nat) ≤ 2 ^ 1100000 := Nat.le_trans (by decide : 10000000 ≤ 2 ^ 24) (Nat.pow_le_pow_right (by decide) (by decide))
  have h3 : 2 ^ 1100001 = 2 ^ 1100000 * 2 := Nat.pow_succ ..
  generalize 2 ^ 1100001 = B at *
  generalize 2 ^ 1100000 = C at *
  omega
theorem ok_number (D : Df K mg "_law_number" s_law_number) (T : Bn mg) (c_law_draw : Cal P w K mg base 1 "_law_draw" (SpR K SDraw)) : Cal P w K mg base 2 "_law_number" (SpR K SNum) := by
  refine calR D sc_law_number (fun _ _ _ _ _ _ us hl => match us, hl with | [_, _, _], _ => rfl) (by decide) (fun ds y ⟨_, _, _, h, _⟩ => by rw [h]; rfl) (fun f cdv A outer s H σ E ds y X hr h s0 => ?_)
  obtain ⟨c, k, m, rfl, hm, hc, hk, rfl⟩ := h
  replace s0 : Sg K E σ H [.d (.int c), .d (.int k), .d (.int m)] [] := s0
  refine ⟨_, (pss_cons (ps_if (pt_cmpR op_ge (pv 0) (pe_op op_pow pe_int pe_int) (nomark _))
      (pss_one (ps_ret (pe_op op_mod (pe_op op_sub (pv 0) (pe_op op_pow pe_int pe_int)) (pe_op op_pow pe_int pe_int))))
      pss_nil)
    (pss_one (ps_ret (pe_c c_law_draw hr (by first | decide | omega) (by rfl) (pa_cons (pe_op op_mulA (pe_op op_add (pv 0) (pe_op op_mulA pe_int (pv 1))) (pe_op op_add (pe_op op_add (pv 0) (pe_op op_mulA pe_int (pv 1))) pe_int)) (pa_cons (pe_op op_add (pe_op op_mod (pv 1) pe_int) pe_int) (pa_cons (pv 2) pa_nil))))))), fun Q kq => ?_⟩
  try dsimp only [cxOf, Cx.nox]
  refine q_when s0 (b := decide ((10 : Int) ^ Int.toNat 18 ≤ c)) (by walk_at "ev") (fun hb H1 e1 s1 => ?_) (fun hb H1 e1 s1 => ?_)
  · refine' d_ret s1 (ev_is ?h ?e) kq
    case h => walk_at "ev"
    case e =>
      unfold numM
      have e18 : (10 : Int) ^ Int.toNat 18 ≤ c := of_decide_eq_true hb
      rw [if_pos (show (10 : Int) ^ 18 ≤ c from e18)]
      rfl
  · have mo : IntMulOk (c + 977 * k) (c + 31 * k + 5) := mulok_b (a := 1100001) (b := 1100001) (small_bits hc (by omega)) (by rw [Int.add_assoc]; exact small_bits hc (by omega)) (by decide)
    refine' d_ret s1 (ev_is ?h ?e) kq
    case h =>
      walk_at "ev"
      all_goals first | exact mo | exact ⟨_, _, _, rfl, hm, rfl⟩ | skip
    case e =>
      unfold numM
      have e18 : ¬ (10 : Int) ^ Int.toNat 18 ≤ c := of_decide_eq_false hb
      rw [if_neg (show ¬ (10 : Int) ^ 18 ≤ c from e18)]
end
end Pw

set_option Elab.async false
set_option linter.all false
set_option maxRecDepth 100000
set_option maxHeartbeats 2000000
set_option autoImplicit false
namespace Pw
open PySem PySem.Spec PyProof.Rows L2
open Evl (Ex)
open Pw in
local macro_rules | `(tactic| walk_at "ev") => `(tactic| first
  | with_reducible exact ev_int
  | with_reducible exact ev_bl
  | with_reducible exact ev_non
  | exact ev_var rfl
  | exact ea_nil
  | with_reducible exact eo_none
  | with_reducible exact et_yes
  | ((refine' ea_cons ?_ ?_) <;> walk_at "ev")
  | ((with_reducible refine' et_test ?_) <;> walk_at "ev")
  | ((with_reducible refine' et_B ?_) <;> walk_at "ev")
  | ((with_reducible refine' et_not ?_) <;> walk_at "ev")
  | ((with_reducible refine' et_and ?_ (fun h_and => ?_)) <;> walk_at "ev")
  | ((with_reducible refine' et_or ?_ (fun h_or => ?_)) <;> walk_at "ev")
  | ((with_reducible refine' ev_andV ?_ (fun h_and => ?_)) <;> walk_at "ev")
  | ((with_reducible refine' ev_orV ?_ (fun h_or => ?_)) <;> walk_at "ev")
  | ((with_reducible refine' ev_notV ?_) <;> walk_at "ev")
  | ((with_reducible refine' ev_ifI ?_ (fun h_if => ?_) (fun h_if => ?_)) <;> walk_at "ev")
  | ((with_reducible refine' ev_un ?_ op1_neg) <;> walk_at "ev")
  | ((with_reducible refine' (el_cat ?_ ?_ ?_).ev) <;> walk_at "ev")
  | ((with_reducible refine' el_cat ?_ ?_ ?_) <;> walk_at "ev")
  | ((with_reducible refine' ev_op ?_ ?_ ?_) <;> walk_at "ev")
  | ((with_reducible refine' ev_tup ?_ ?_) <;> walk_at "ev")
  | ((with_reducible refine' (el_lst ?_ ?_).ev) <;> walk_at "ev")
  | ((with_reducible refine' el_lst ?_ ?_) <;> walk_at "ev")
  | ((with_reducible refine' (el_sl ?_ ?_ ?_).ev) <;> walk_at "ev")
  | ((with_reducible refine' el_sl ?_ ?_ ?_) <;> walk_at "ev")
  | ((with_reducible refine' (el_rev ?_).ev) <;> walk_at "ev")
  | ((with_reducible refine' el_rev ?_) <;> walk_at "ev")
  | ((with_reducible refine' eo_some ?_) <;> walk_at "ev")
  | ((with_reducible refine' (el_list ?_).ev) <;> walk_at "ev")
  | ((with_reducible refine' el_list ?_) <;> walk_at "ev")
  | ((with_reducible refine' ev_call ?_ ?_) <;> walk_at "ev")
  | ((with_reducible refine' (el_call ?_ ?_).ev) <;> walk_at "ev")
  | ((with_reducible refine' el_call ?_ ?_) <;> walk_at "ev")
  | ((with_reducible refine' (el_sortedD ?_).ev) <;> walk_at "ev")
  | ((with_reducible refine' el_sortedD ?_) <;> walk_at "ev")
  | ((with_reducible refine' (el_sortedDR ?_).ev) <;> walk_at "ev")
  | ((with_reducible refine' el_sortedDR ?_) <;> walk_at "ev")
  | ((with_reducible refine' ev_dgetD ?_ ?_ ?_) <;> walk_at "ev")
  | ((with_reducible refine' ev_cb ?_ ?_) <;> walk_at "ev")
  | with_reducible exact op2_I0
  | with_reducible exact op2_B0
  | with_reducible exact op2_eqI
  | with_reducible exact op2_neI
  | with_reducible exact op2_eqB
  | with_reducible exact op2_neB
  | with_reducible exact op2_isB
  | with_reducible exact op2_isNB
  | with_reducible exact op2_inT
  | with_reducible exact op2_inL
  | (with_reducible refine' op2_eqD ?_ ?_)
  | (with_reducible refine' op2_neD ?_ ?_)
  | ((with_reducible refine' op2_I ?_) <;> walk_at "side")
  | (with_reducible refine' op2_ixL ?_)
  | (with_reducible refine' op2_ixT ?_)
  | (show List.length _ ≤ 100000; exact Nat.le_of_ble_eq_true rfl)
  | exact cb_len
  | exact cb_lenT
  | exact cb_minT
  | exact cb_abs
  | exact cb_max2
  | exact cb_min2
  | exact cb_intB
  | exact cb_sum
  | exact cb_any
  | exact cb_all
  | skip)
local macro_rules | `(tactic| walk_at "side") => `(tactic| first
  | exact Nat.le_of_ble_eq_true rfl
  | (with_reducible exact mulok_l (by decide))
  | (with_reducible exact mulok_r (by decide))
  | (show (0 : Int) < _; decide)
  | (show (0 : Int) < _; omega)
  | (show (0 : Int) ≤ _ ∧ _ ∧ _; decide)
  | skip)

section
variable {P : Program} {w : World} {K : PySem.W.Frag} {mg : Str → Option Value} {base : Heap}
/-! ### sums told in any turn -/
abbrev pr (p : Int × Int) : PyData := .tuple [.int p.1, .int p.2]
abbrev dP (ps : List (Int × Int)) : PyData := .list (ps.map pr)
def tstep (d : List (Int × Int)) (p : Int × Int) : List (Int × Int) := dput d p.1 ((dval d p.1).getD 0 + p.2)
def tal (ps : List (Int × Int)) : List (Int × Int) := ps.foldl tstep []
def putM (ps : List (Int × Int)) : List (Int × Int) := ((asc ((tal ps).map (·.1))).reverse).map fun k => (k, (dval (tal ps) k).getD 0)
theorem dput_len (d : List (Int × Int)) (k v : Int) : (dput d k v).length ≤ d.length + 1 := by
  unfold dput
  split
  · rw [List.length_map]; omega
  · rw [List.length_append]; exact Nat.le_refl _
theorem take_one {α : Type} {l : List α} {i : Nat} {a : α} (h : l[i]? = some a) : l.take (i + 1) = l.take i ++ [a] := by rw [List.take_succ, h]; rfl
theorem tal_take {ps : List (Int × Int)} {i : Nat} {p : Int × Int} (h : ps[i]? = some p) : tal (ps.take (i + 1)) = tstep (tal (ps.take i)) p := by
  unfold tal
  rw [take_one h, List.foldl_append]
  rfl
theorem tal_len (ps : List (Int × Int)) : ∀ i, (tal (ps.take i)).length ≤ i
  | 0 => Nat.zero_le _
  | i + 1 => by
    cases h : ps[i]? with
    | none =>
      have : ps.take (i + 1) = ps.take i := by rw [List.take_succ, h]; simp
      rw [this]
      exact Nat.le_succ_of_le (tal_len ps i)
    | some p =>
      rw [tal_take h]
      exact Nat.le_trans (dput_len _ _ _) (Nat.succ_le_succ (tal_len ps i))
theorem map_get {α β : Type} {f : α → β} {l : List α} {i : Nat} {x : β} (h : (l.map f)[i]? = some x) : ∃ a, l[i]? = some a ∧ x = f a := by
  rw [List.getElem?_map] at h
  cases e : l[i]? with
  | none => rw [e] at h; cases h
  | some a => rw [e] at h; exact ⟨a, rfl, (Option.some.inj h).symm⟩
theorem dval_mem {d : List (Int × Int)} {k : Int} (h : k ∈ d.map (·.1)) : dval d k = some ((dval d k).getD 0) := by
  cases e : dval d k with
  | some v => rfl
  | none =>
    exfalso
    obtain ⟨p, hp, rfl⟩ := List.mem_map.mp h
    unfold dval at e
    rw [Option.map_eq_none_iff, List.find?_eq_none] at e
    exact e p hp (by simp)
def SPut (ds : List PyData) (ys : List PyData) : Prop := ∃ ps : List (Int × Int), ds = [dP ps] ∧ ps.length ≤ 50000 ∧ ys = (putM ps).map pr
theorem sc_law_put : FnScope ["_law_pairs", "_law_counts", "_law_part", "_law_many"] ["_law_pairs"] (defScope s_law_put) := ⟨rfl, rfl, rfl, by decide +kernel, rfl, by decide +kernel, by decide +kernel⟩
theorem ok_put (D : Df K mg "_law_put" s_law_put) (T : Bn mg) : Cal P w K mg base 1 "_law_put" (SpL K SPut) := by
  refine calL D sc_law_put (fun _ _ _ _ _ _ us hl => match us, hl with | [_], _ => rfl) (by decide) (fun ds y ⟨_, h, _⟩ => by rw [h]; rfl) (fun f cdv A outer s H σ E ds ys X hr h s0 => ?_)
  obtain ⟨ps, rfl, hlen, rfl⟩ := h
  -- 0 _law_pairs, 1 _law_counts, 2 _law_part, 3 _law_many
  replace s0 : Sg K E σ H [.d (dP ps), .no, .no, .no] [] := s0
  refine ⟨_, (pss_cons (ps_set (i := 1) sc_law_put.nd rfl (Or.inr rfl) pe_dnewK)
    (pss_cons (ps_for PassesOwn.never rfl (pi_listK (K := K) rfl (pv 0)) (pg_tup (n := 2) rfl (pgs_cons (pg_name (i := 2) sc_law_put.nd rfl (Or.inl rfl)) (pgs_cons (pg_name (i := 3) sc_law_put.nd rfl (Or.inl rfl)) pgs_nil)))
      (pss_one (ps_dput (hu_of hr) (pv 1) (pv 2) (pe_op op_add (pe_dget2 (hu_of hr) (pv 1) (pv 2) pe_int ⟨rfl, rfl, rfl, rfl⟩) (pv 3)) rfl)))
    (pss_one (ps_ret (pe_lc (own := [("_law_part", 2)]) (g := (gName 2)) (tt := tYes) rfl sc_law_put.nd (pi_listK (K := K) rfl (pe_revK (K := K) rfl (pe_callB cp_sortedD (by rfl) T.sorted_ (by decide +kernel) (pa_cons (pv 1) pa_nil)))) (blkOk_by (own := [("_law_part", 2)]) (N := ["_law_pairs", "_law_counts", "_law_part", "_law_many"]) (sc := defScope s_law_put) (by decide +kernel)) (fun _ _ _ _ _ => (pg_name (i := 2) sc_law_put.nd rfl (by first | exact Or.inl rfl | exact Or.inr rfl))) (fun _ _ _ _ _ => pts_nil) (fun _ _ _ _ _ => (pe_tup (pa_cons (pv 2) (pa_cons (pe_dget (hu_of hr) (pv 1) (pv 2) (fun _ _ => rfl)) pa_nil))))))))), fun Q kq => ?_⟩
  try dsimp only [cxOf, Cx.nox]
  refine q_dnew s0 (fun σ1 H1 p e1 s1 => ?_)
  refine q_for ps pr (fun i z => z = tal (ps.take i)) (fun _ => [.d (dP ps), .o p, .no, .no]) (fun z => [(p, .dct z)]) (fun q _ => [.d (dP ps), .o p, .d (.int q.1), .d (.int q.2)]) (tal []) (src_list (ev_var rfl)) s1 rfl ?_ ?_ ?_
  · intro i q z hq hz
    exact ⟨_, tg_tup2 (tg_name (Nat.le_of_ble_eq_true rfl)) (tg_name (Nat.le_of_ble_eq_true rfl))⟩
  · intro B i q z σ' H' hq hz s2
    replace s2 : Sg K { E with low := B } σ' H' [.d (dP ps), .o p, .d (.int q.1), .d (.int q.2)] ([] ++ (p, .dct z) :: []) := s2
    refine' d_dput s2 rfl (ev_var rfl) (b := (dval z q.1).getD 0 + q.2) ?h (by rw [hz]; have := tal_len ps i; have := (List.getElem?_eq_some_iff.mp hq).1; omega) (fun H2 s3 => ⟨tal (ps.take (i + 1)), rfl, ?_⟩)
    case h => exact ev_op (ev_dget2 rfl (by simp) (ev_var rfl) ev_int) (ev_var rfl) op2_I0
    rw [tal_take hq, ← hz]
    exact s3.weak (.same (.same (.no (.no .nil))))
  · intro z σ' H' hz s2
    rw [List.take_length] at hz
    subst hz
    have s3 := Sg.freeze (O1 := []) (i := 1) s2 rfl
    replace s3 : Sg K E σ' H' [.d (dP ps), .d (.dict (encP (tal ps))), .no, .no] [] := s3
    refine d_retL s3 (el_is (el_lc0 (asc ((tal ps).map (·.1))).reverse PyData.int (fun k => pr (k, (dval (tal ps) k).getD 0)) (fun k => [.d (dP ps), .d (.dict (encP (tal ps))), .d (.int k), .no]) (src_list ?_) ?_ ?_ ?_) ?_) kq
    · rw [List.map_reverse]
      exact (el_rev (el_sortedD (ev_var rfl)).ev).ev
    · rw [List.length_reverse, (asc_perm _).length_eq, List.length_map]
      have := tal_len ps ps.length
      rw [List.take_length] at this
      omega
    · intro a ha
      exact ⟨_, tg_name (Nat.le_of_ble_eq_true rfl), by decide⟩
    · intro a ha
      have hm : a ∈ (tal ps).map (·.1) := (asc_perm _).mem_iff.mp (List.mem_reverse.mp ha)
      exact ev_tup (ea_cons (ev_var rfl) (ea_cons (ev_dgetD (ev_var rfl) (ev_var rfl) (dval_mem hm)) ea_nil))
    · unfold putM
      rw [List.map_map]
      rfl
end
end Pw

set_option Elab.async false
set_option linter.all false
set_option maxRecDepth 100000
set_option maxHeartbeats 2000000
set_option autoImplicit false
namespace Pw
open PySem PySem.Spec PyProof.Rows L2
open Evl (Ex)
open Pw in
local macro_rules | `(tactic| walk_at "ev") => `(tactic| first
  | with_reducible exact ev_int
  | with_reducible exact ev_bl
  | with_reducible exact ev_non
  | exact ev_var rfl
  | exact ea_nil
  | with_reducible exact eo_none
  | with_reducible exact et_yes
  | ((refine' ea_cons ?_ ?_) <;> walk_at "ev")
  | ((with_reducible refine' et_test ?_) <;> walk_at "ev")
  | ((with_reducible refine' et_B ?_) <;> walk_at "ev")
  | ((with_reducible refine' et_not ?_) <;> walk_at "ev")
  | ((with_reducible refine' et_and ?_ (fun h_and => ?_)) <;> walk_at "ev")
  | ((with_reducible refine' et_or ?_ (fun h_or => ?_)) <;> walk_at "ev")
  | ((with_reducible refine' ev_andV ?_ (fun h_and => ?_)) <;> walk_at "ev")
  | ((with_reducible refine' ev_orV ?_ (fun h_or => ?_)) <;> walk_at "ev")
  | ((with_reducible refine' ev_notV ?_) <;> walk_at "ev")
  | ((with_reducible refine' ev_ifI ?_ (fun h_if => ?_) (fun h_if => ?_)) <;> walk_at "ev")
  | ((with_reducible refine' ev_un ?_ op1_neg) <;> walk_at "ev")
  | ((with_reducible refine' (el_cat ?_ ?_ ?_).ev) <;> walk_at "ev")
  | ((with_reducible refine' el_cat ?_ ?_ ?_) <;> walk_at "ev")
  | ((with_reducible refine' ev_op ?_ ?_ ?_) <;> walk_at "ev")
  | ((with_reducible refine' ev_tup ?_ ?_) <;> walk_at "ev")
  | ((with_reducible refine' (el_lst ?_ ?_).ev) <;> walk_at "ev")
  | ((with_reducible refine' el_lst ?_ ?_) <;> walk_at "ev")
  | ((with_reducible refine' (el_sl ?_ ?_ ?_).ev) <;> walk_at "ev")
  | ((with_reducible refine' el_sl ?_ ?_ ?_) <;> walk_at "ev")
  | ((with_reducible refine' (el_rev ?_).ev) <;> walk_at "ev")
  | ((with_reducible refine' el_rev ?_) <;> walk_at "ev")
  | ((with_reducible refine' eo_some ?_) <;> walk_at "ev")
  | ((with_reducible refine' (el_list ?_).ev) <;> walk_at "ev")
  | ((with_reducible refine' el_list ?_) <;> walk_at "ev")
  | ((with_reducible refine' ev_call ?_ ?_) <;> walk_at "ev")
  | ((with_reducible refine' (el_call ?_ ?_).ev) <;> walk_at "ev")
  | ((with_reducible refine' el_call ?_ ?_) <;> walk_at "ev")
  | ((with_reducible refine' (el_sortedD ?_).ev) <;> walk_at "ev")
  | ((with_reducible refine' el_sortedD ?_) <;> walk_at "ev")
  | ((with_reducible refine' (el_sortedDR ?_).ev) <;> walk_at "ev")
  | ((with_reducible refine' el_sortedDR ?_) <;> walk_at "ev")
  | ((with_reducible refine' ev_dgetD ?_ ?_ ?_) <;> walk_at "ev")
  | ((with_reducible refine' ev_cb ?_ ?_) <;> walk_at "ev")
  | with_reducible exact op2_I0
  | with_reducible exact op2_B0
  | with_reducible exact op2_eqI
  | with_reducible exact op2_neI
  | with_reducible exact op2_eqB
  | with_reducible exact op2_neB
  | with_reducible exact op2_isB
  | with_reducible exact op2_isNB
  | with_reducible exact op2_inT
  | with_reducible exact op2_inL
  | (with_reducible refine' op2_eqD ?_ ?_)
  | (with_reducible refine' op2_neD ?_ ?_)
  | ((with_reducible refine' op2_I ?_) <;> walk_at "side")
  | (with_reducible refine' op2_ixL ?_)
  | (with_reducible refine' op2_ixT ?_)
  | (show List.length _ ≤ 100000; exact Nat.le_of_ble_eq_true rfl)
  | exact cb_len
  | exact cb_lenT
  | exact cb_minT
  | exact cb_abs
  | exact cb_max2
  | exact cb_min2
  | exact cb_intB
  | exact cb_sum
  | exact cb_any
  | exact cb_all
  | skip)
local macro_rules | `(tactic| walk_at "side") => `(tactic| first
  | exact Nat.le_of_ble_eq_true rfl
  | (with_reducible exact mulok_l (by decide))
  | (with_reducible exact mulok_r (by decide))
  | (show (0 : Int) < _; decide)
  | (show (0 : Int) < _; omega)
  | (show (0 : Int) ≤ _ ∧ _ ∧ _; decide)
  | skip)

section
variable {P : Program} {w : World} {K : PySem.W.Frag} {mg : Str → Option Value} {base : Heap}
/-! ### what a sum is -/
def isWholeD : PyData → Bool
  | .int _ => true
  | _ => false
def tyNames : List String := ["NoneType", "bool", "int", "str", "list", "tuple", "dict", "object"]
theorem tyD_dict (x : List (PyData × PyData)) : tyD (.dict x) = "dict" ∨ tyD (.dict x) = "object" := by
  show (if _ then _ else _) = _ ∨ (if _ then _ else _) = _
  split
  · exact .inr rfl
  · exact .inl rfl
theorem tyD_mem (x : PyData) : tyD x ∈ tyNames := by
  cases x with
  | dict y => rcases tyD_dict y with e | e <;> rw [e] <;> simp [tyNames]
  | _ => simp [tyD, tyNames]
theorem kit_int (x : PyData) : kitB (tyD x) "int" = some (tyD x == "int" || tyD x == "bool") := (by decide +kernel : ∀ t ∈ tyNames, kitB t "int" = some (t == "int" || t == "bool")) _ (tyD_mem x)
theorem kit_bool (x : PyData) : kitB (tyD x) "bool" = some (tyD x == "bool") := (by decide +kernel : ∀ t ∈ tyNames, kitB t "bool" = some (t == "bool")) _ (tyD_mem x)
theorem kit_tuple (x : PyData) : kitB (tyD x) "tuple" = some (tyD x == "tuple") := (by decide +kernel : ∀ t ∈ tyNames, kitB t "tuple" = some (t == "tuple")) _ (tyD_mem x)
theorem kit_list (x : PyData) : kitB (tyD x) "list" = some (tyD x == "list") := (by decide +kernel : ∀ t ∈ tyNames, kitB t "list" = some (t == "list")) _ (tyD_mem x)
theorem whole_is (x : PyData) : ((tyD x == "int" || tyD x == "bool") && !(tyD x == "bool")) = isWholeD x := by
  cases x with
  | dict y => rcases tyD_dict y with e | e <;> rw [e] <;> rfl
  | _ => rfl
def SWhole (ds : List PyData) (y : PyData) : Prop := ∃ x, ds = [x] ∧ y = .bool (isWholeD x)
theorem sc_is_whole : FnScope ["thing"] ["thing"] (defScope s_is_whole) := ⟨rfl, rfl, rfl, by decide +kernel, rfl, by decide +kernel, by decide +kernel⟩
theorem ok_is_whole (D : Df K mg "is_whole" s_is_whole) (T : Bn mg) : Cal P w K mg base 1 "is_whole" (SpR K SWhole) := by
  refine calR D sc_is_whole (fun _ _ _ _ _ _ us hl => match us, hl with | [_], _ => rfl) (by decide) (fun ds y ⟨_, h, _⟩ => by rw [h]; rfl) (fun f cdv A outer s H σ E ds y X hr h s0 => ?_)
  obtain ⟨x, rfl, rfl⟩ := h
  replace s0 : Sg K E σ H [.d x] [] := s0
  refine ⟨_, (pss_one (ps_ret (pe_and (pe_callB (r := rIsi K) call_isi (by rfl) T.isinstance_ (by decide +kernel) (pa_cons (pv 0) (pa_cons (pe_bltn (v := .ty "int") (by rfl) T.int_ (by decide +kernel) rfl) pa_nil))) (pe_one (pe_not (pe_callB (r := rIsi K) call_isi (by rfl) T.isinstance_ (by decide +kernel) (pa_cons (pv 0) (pa_cons (pe_bltn (v := .ty "bool") (by rfl) T.bool_ (by decide +kernel) rfl) pa_nil)))))))), fun Q kq => ?_⟩
  try dsimp only [cxOf, Cx.nox]
  refine d_ret s0 (ev_is (ev_andV (ev_isi (ev_var rfl) (kit_int x)) fun _ => ev_notV (ev_isi (ev_var rfl) (kit_bool x))) ?_) kq
  rw [whole_is]
def isPairD : PyData → Bool
  | .tuple [.int a, .int b] => decide (0 < a) && decide (0 < b)
  | _ => false
theorem op2_ixT0 {a : PyData} {r : List PyData} : Op2 K (rIxT K) (.tuple (a :: r)) (.int 0) a := op2_ixT (atI_nat (j := 0) rfl)
theorem op2_ixT1 {a b : PyData} {r : List PyData} : Op2 K (rIxT K) (.tuple (a :: b :: r)) (.int 1) b := op2_ixT (atI_nat (j := 1) rfl)
def SPair (ds : List PyData) (y : PyData) : Prop := ∃ x, ds = [x] ∧ y = .bool (isPairD x)
theorem sc_is_pair : FnScope ["thing"] ["thing"] (defScope s_is_pair) := ⟨rfl, rfl, rfl, by decide +kernel, rfl, by decide +kernel, by decide +kernel⟩
theorem ok_is_pair (D : Df K mg "is_pair" s_is_pair) (T : Bn mg) (c_is_whole : Cal P w K mg base 1 "is_whole" (SpR K SWhole)) : Cal P w K mg base 2 "is_pair" (SpR K SPair) := by
  refine calR D sc_is_pair (fun _ _ _ _ _ _ us hl => match us, hl with | [_], _ => rfl) (by decide) (fun ds y ⟨_, h, _⟩ => by rw [h]; rfl) (fun f cdv A outer s H σ E ds y X hr h s0 => ?_)
  obtain ⟨x, rfl, rfl⟩ := h
  replace s0 : Sg K E σ H [.d x] [] := s0
  refine ⟨_, (pss_cons (ps_if (pw_or (pt_not (pt_val (pe_callB (r := rIsi K) call_isi (by rfl) T.isinstance_ (by decide +kernel) (pa_cons (pv 0) (pa_cons (pe_bltn (v := .ty "tuple") (by rfl) T.tuple_ (by decide +kernel) rfl) pa_nil))))) (pw_or (pt_cmpR op_ne (pe_callB (r := Evl.rLenS K) cp_len (by rfl) T.len_ (by decide +kernel) (pa_cons (pv 0) pa_nil)) pe_int (nomark _)) (pw_or (pt_not (pt_val (pe_c c_is_whole hr (by first | decide | omega) (by rfl) (pa_cons (pe_ix (r := rIxT K) ix_tup (pv 0) pe_int (fun _ _ => rfl)) pa_nil)))) (pw_or1 (pt_not (pt_val (pe_c c_is_whole hr (by first | decide | omega) (by rfl) (pa_cons (pe_ix (r := rIxT K) ix_tup (pv 0) pe_int (fun _ _ => rfl)) pa_nil)))))))).pt
      (pss_one (ps_ret pe_bl))
      pss_nil)
    (pss_one (ps_ret (pe_and (pe_cmpR op_gt (pe_ix (r := rIxT K) ix_tup (pv 0) pe_int (fun _ _ => rfl)) pe_int (nomark _)) (pe_one (pe_cmpR op_gt (pe_ix (r := rIxT K) ix_tup (pv 0) pe_int (fun _ _ => rfl)) pe_int (nomark _))))))), fun Q kq => ?_⟩
  try dsimp only [cxOf, Cx.nox]
  by_cases hx : ∃ a b, x = .tuple [a, b] ∧ isWholeD a = true ∧ isWholeD b = true
  · obtain ⟨a, b, rfl, ha, hb⟩ := hx
    cases a <;> (try cases ha)
    cases b <;> (try cases hb)
    rename_i a b
    refine q_when s0 (b := false) ?_ (fun z => nomatch z) (fun _ H1 e1 s1 => ?_)
    · refine et_or (a := false) (et_is (et_not (et_B (ev_isi (ev_var rfl) (kit_tuple _)))) rfl) (fun _ => ?_)
      refine et_or (a := false) (et_is (et_test (ev_op (ev_cb (ea_cons (ev_var rfl) ea_nil) cb_lenT) ev_int op2_neI)) rfl) (fun _ => ?_)
      refine et_or (a := false) (et_not (a := true) (et_B ?_)) (fun _ => et_not (a := true) (et_B ?_))
      · exact ev_call (ea_cons (ev_op (ev_var rfl) ev_int op2_ixT0) ea_nil) (show SWhole _ _ from ⟨_, rfl, rfl⟩)
      · exact ev_call (ea_cons (ev_op (ev_var rfl) ev_int op2_ixT1) ea_nil) (show SWhole _ _ from ⟨_, rfl, rfl⟩)
    · exact d_ret s1 (ev_andV (ev_op (ev_op (ev_var rfl) ev_int op2_ixT0) ev_int op2_B0) fun _ => ev_op (ev_op (ev_var rfl) ev_int op2_ixT1) ev_int op2_B0) kq
  · have hf : isPairD x = false := by
      unfold isPairD
      split
      · exact absurd ⟨_, _, rfl, rfl, rfl⟩ hx
      · rfl
    rw [hf] at kq
    refine q_when s0 (b := true) ?_ (fun _ H1 e1 s1 => ?_) (fun z => nomatch z)
    · by_cases ht : ∃ xs, x = .tuple xs
      · obtain ⟨xs, rfl⟩ := ht
        refine et_or (a := false) (b := true) (et_is (et_not (et_B (ev_isi (ev_var rfl) (kit_tuple _)))) rfl) (fun _ => ?_)
        by_cases hl : ((xs.length : Nat) : Int) = 2
        · have hl' : xs.length = 2 := by omega
          match xs, hl' with
          | [a, b], _ =>
            refine et_or (a := false) (b := true) (et_is (et_test (ev_op (ev_cb (ea_cons (ev_var rfl) ea_nil) cb_lenT) ev_int op2_neI)) rfl) (fun _ => ?_)
            have va : Ev K [.d (.tuple [a, b])] [] _ (.bool (isWholeD a)) := ev_call (X := E0) (ea_cons (ev_op (ev_var (i := 0) rfl) (ev_int (i := 0)) op2_ixT0) ea_nil) (show SWhole _ _ from ⟨_, rfl, rfl⟩)
            have vb : Ev K [.d (.tuple [a, b])] [] _ (.bool (isWholeD b)) := ev_call (X := E0) (ea_cons (ev_op (ev_var (i := 0) rfl) (ev_int (i := 1)) op2_ixT1) ea_nil) (show SWhole _ _ from ⟨_, rfl, rfl⟩)
            cases ha : isWholeD a with
            | false => 
              rw [ha] at va
              exact et_is (et_or (a := true) (b := true) (et_not (et_B va)) fun z => nomatch z) rfl
            | true =>
              have hb : isWholeD b = false := by
                cases hb : isWholeD b with
                | false => rfl
                | true => exact absurd ⟨a, b, rfl, ha, hb⟩ hx
              rw [ha] at va
              rw [hb] at vb
              exact et_or (a := false) (b := true) (et_not (et_B va)) fun _ => et_not (et_B vb)
        · exact et_is (et_or (a := true) (b := true) (et_is (et_test (ev_op (ev_cb (ea_cons (ev_var rfl) ea_nil) cb_lenT) ev_int op2_neI)) (by rw [decide_eq_false hl]; rfl)) fun z => nomatch z) rfl
      · have hk : (tyD x == "tuple") = false := by
          cases x with
          | dict y => rcases tyD_dict y with e | e <;> rw [e] <;> rfl
          | tuple y => exact absurd ⟨_, rfl⟩ ht
          | _ => rfl
        exact et_is (et_or (a := true) (b := true) (et_not (a := false) (et_B (ev_isi (ev_var rfl) (by rw [kit_tuple, hk])))) fun z => nomatch z) rfl
    · exact d_ret s1 ev_bl kq
def descB : List Int → Bool
  | a :: b :: r => decide (b < a) && descB (b :: r)
  | _ => true
def headD : PyData → Int
  | .tuple (.int a :: _) => a
  | _ => 0
def isSumD : PyData → Bool
  | .list xs => xs.all isPairD && descB (xs.map headD)
  | _ => false
def sumB (ps : List (Int × Int)) : Bool := ps.all (fun p => decide (0 < p.1) && decide (0 < p.2)) && descB (ps.map (·.1))
theorem isSum_dP (ps : List (Int × Int)) : isSumD (dP ps) = sumB ps := by
  unfold sumB
  show ((ps.map pr).all isPairD && descB ((ps.map pr).map headD)) = _
  rw [List.all_map, List.map_map]
  rfl
theorem pairs_of : ∀ {xs : List PyData}, xs.all isPairD = true → ∃ ps : List (Int × Int), xs = ps.map pr
  | [], _ => ⟨[], rfl⟩
  | x :: xs, h => by
    rw [List.all_cons, Bool.and_eq_true] at h
    obtain ⟨ps, e⟩ := pairs_of h.2
    have h1 := h.1
    unfold isPairD at h1
    split at h1
    · exact ⟨(_, _) :: ps, by rw [e]; rfl⟩
    · cases h1
theorem descB_range : ∀ ks : List Int, ((List.range (((ks.length : Nat) : Int) - 1).toNat).map fun i => decide (ks.getD (i + 1) 0 < ks.getD i 0)).all id = descB ks
  | [] => rfl
  | [_] => rfl
  | a :: b :: r => by
    have ih := descB_range (b :: r)
    have e : ((((a :: b :: r).length : Nat) : Int) - 1).toNat = ((((b :: r).length : Nat) : Int) - 1).toNat + 1 := by simp only [List.length_cons]; omega
    rw [e, List.range_succ_eq_map, List.map_cons, List.map_map, List.all_cons]
    show (decide (b < a) && _) = (decide (b < a) && descB (b :: r))
    rw [← ih]
    rfl
def SIsSum (ds : List PyData) (y : PyData) : Prop := ∃ x, ds = [x] ∧ (∀ xs, x = .list xs → xs.length ≤ 50000) ∧ y = .bool (isSumD x)
theorem at_prs {ps : List (Int × Int)} {i : Nat} {z : Int} (e : z = (i : Int)) (h : i < ps.length) : L2.atI (ps.map pr) z = some (pr (ps.getD i (0, 0))) := by
  rw [e]
  refine atI_nat ?_
  rw [List.getElem?_map, List.getElem?_eq_getElem h, List.getD_eq_getElem?_getD, List.getElem?_eq_getElem h]
  rfl
theorem getD_fst (ps : List (Int × Int)) (i : Nat) : (ps.map (·.1)).getD i 0 = (ps.getD i (0, 0)).1 := by
  rw [List.getD_eq_getElem?_getD, List.getD_eq_getElem?_getD, List.getElem?_map]
  cases ps[i]? <;> rfl
theorem sc_is_sum : FnScope ["thing", "pair", "at"] ["thing"] (defScope s_is_sum) := ⟨rfl, rfl, rfl, by decide +kernel, rfl, by decide +kernel, by decide +kernel⟩
theorem ok_is_sum (D : Df K mg "is_sum" s_is_sum) (T : Bn mg) (c_is_pair : Cal P w K mg base 2 "is_pair" (SpR K SPair)) : Cal P w K mg base 3 "is_sum" (SpR K SIsSum) := by
  refine calR D sc_is_sum (fun _ _ _ _ _ _ us hl => match us, hl with | [_], _ => rfl) (by decide) (fun ds y ⟨_, h, _⟩ => by rw [h]; rfl) (fun f cdv A outer s H σ E ds y X hr h s0 => ?_)
  obtain ⟨x, rfl, hlen, rfl⟩ := h
  replace s0 : Sg K E σ H [.d x, .no, .no] [] := s0
  refine ⟨_, (pss_cons (ps_if (pw_or (pt_not (pt_val (pe_callB (r := rIsi K) call_isi (by rfl) T.isinstance_ (by decide +kernel) (pa_cons (pv 0) (pa_cons (pe_bltn (v := .ty "list") (by rfl) T.list_ (by decide +kernel) rfl) pa_nil))))) (pw_or1 (pt_not (pt_val (pe_callB (r := rAll K) (cr_all rfl) (by rfl) T.all_ (by decide +kernel) (pa_cons (pe_lc (own := [("pair", 1)]) (g := (gName 1)) (tt := tYes) rfl sc_is_sum.nd (pi_listK (K := K) rfl (pv 0)) (blkOk_by (own := [("pair", 1)]) (N := ["thing", "pair", "at"]) (sc := defScope s_is_sum) (by decide +kernel)) (fun _ _ _ _ _ => (pg_name (i := 1) sc_is_sum.nd rfl (by first | exact Or.inl rfl | exact Or.inr rfl))) (fun _ _ _ _ _ => pts_nil) (fun _ _ _ _ _ => (pe_c c_is_pair hr (by first | decide | omega) (by rfl) (pa_cons (pv 1) pa_nil)))) pa_nil)))))).pt
      (pss_one (ps_ret pe_bl))
      pss_nil)
    (pss_one (ps_ret (pe_callB (r := rAll K) (cr_all rfl) (by rfl) T.all_ (by decide +kernel) (pa_cons (pe_lc (own := [("at", 2)]) (g := (gName 2)) (tt := tYes) rfl sc_is_sum.nd (pi_range2 (by rfl) T.range_ (pa_cons pe_int (pa_cons (pe_callB (r := Evl.rLenS K) cp_len (by rfl) T.len_ (by decide +kernel) (pa_cons (pv 0) pa_nil)) pa_nil))) (blkOk_by (own := [("at", 2)]) (N := ["thing", "pair", "at"]) (sc := defScope s_is_sum) (by decide +kernel)) (fun _ _ _ _ _ => (pg_name (i := 2) sc_is_sum.nd rfl (by first | exact Or.inl rfl | exact Or.inr rfl))) (fun _ _ _ _ _ => pts_nil) (fun _ _ _ _ _ => (pe_cmpR op_lt (pe_ix (r := rIxT K) ix_tup (pe_ix (r := rIxL K) ix_list (pv 0) (pv 2) (fun _ _ => rfl)) pe_int (fun _ _ => rfl)) (pe_ix (r := rIxT K) ix_tup (pe_ix (r := rIxL K) ix_list (pv 0) (pe_op op_sub (pv 2) pe_int) (fun _ _ => rfl)) pe_int (fun _ _ => rfl)) (nomark _)))) pa_nil))))), fun Q kq => ?_⟩
  try dsimp only [cxOf, Cx.nox]
  by_cases ht : ∃ xs, x = .list xs
  · obtain ⟨xs, rfl⟩ := ht
    have hl := hlen xs rfl
    refine q_when s0 (b := !(xs.all isPairD)) ?_ (fun hb H1 e1 s1 => ?_) (fun hb H1 e1 s1 => ?_)
    · refine et_is (et_or (a := false) (b := !(xs.all isPairD)) (et_is (et_not (et_B (ev_isi (ev_var rfl) (kit_list _)))) rfl) fun _ => et_not (et_is (b := xs.all isPairD) (a := (xs.map isPairD).all id) (et_B (ev_cb (ea_cons (el_is (el_lc0 xs id (fun a => .bool (isPairD a)) (fun a => [.d (.list xs), .d a, .no]) (src_list ?_) (by omega) ?_ ?_) ?_).ev ea_nil) cb_all)) ?_)) rfl
      · rw [List.map_id]; exact ev_var rfl
      · intro a ha; exact ⟨_, tg_name (Nat.le_of_ble_eq_true rfl), by decide⟩
      · intro a ha; exact ev_call (ea_cons (ev_var rfl) ea_nil) (show SPair _ _ from ⟨_, rfl, rfl⟩)
      · rw [List.map_map]; rfl
      · rw [List.all_map]; rfl
    · have hf : isSumD (.list xs) = false := by
        cases q : xs.all isPairD with
        | false =>
          show (xs.all isPairD && descB (xs.map headD)) = false
          rw [q]
          rfl
        | true => rw [q] at hb; cases hb
      rw [hf] at kq
      exact d_ret s1 ev_bl kq
    · have hall : xs.all isPairD = true := by
        cases q : xs.all isPairD with
        | true => rfl
        | false => rw [q] at hb; cases hb
      obtain ⟨ps, rfl⟩ := pairs_of hall
      rw [List.length_map] at hl
      have e : isSumD (.list (ps.map pr)) = (((List.range ((((ps.map (·.1)).length : Nat) : Int) - 1).toNat).map fun i => decide ((ps.map (·.1)).getD (i + 1) 0 < (ps.map (·.1)).getD i 0)).all id) := by
        rw [descB_range, show isSumD (.list (ps.map pr)) = ((ps.map pr).all isPairD && descB ((ps.map pr).map headD)) from rfl, hall, List.map_map]
        rfl
      rw [e] at kq
      rw [List.length_map] at kq
      refine d_ret s1 (ev_cb (ea_cons (el_is (el_lc0 (List.range (((ps.length : Nat) : Int) - 1).toNat) (fun i => .int (1 + (i : Nat))) (fun i => .bool (decide ((ps.map (·.1)).getD (i + 1) 0 < (ps.map (·.1)).getD i 0))) (fun i => [.d (.list (ps.map pr)), .no, .d (.int (1 + (i : Nat)))]) (src_rng2 (m := 1) (n := (ps.length : Nat)) (ea_cons ev_int (ea_cons (ev_is (ev_cb (ea_cons (ev_var rfl) ea_nil) cb_len) (by rw [List.length_map])) ea_nil))) (by rw [List.length_range]; omega) ?_ ?_) ?_).ev ea_nil) cb_all) kq
      · intro a ha; exact ⟨_, tg_name (Nat.le_of_ble_eq_true rfl), by decide⟩
      · intro i hi
        have hi' := List.mem_range.mp hi
        rw [getD_fst, getD_fst]
        refine ev_op (ev_op (ev_op (ev_var rfl) (ev_var rfl) (op2_ixL (at_prs (i := i + 1) (by omega) (by omega)))) ev_int op2_ixT0) (ev_op (ev_op (ev_var rfl) (ev_op (ev_var rfl) ev_int op2_I0) (op2_ixL (at_prs (i := i) (by omega) (by omega)))) ev_int op2_ixT0) op2_B0
      · rw [List.map_map]; rfl
  · have hk : (tyD x == "list") = false := by
      cases x with
      | dict y => rcases tyD_dict y with e | e <;> rw [e] <;> rfl
      | list y => exact absurd ⟨_, rfl⟩ ht
      | _ => rfl
    have hf : isSumD x = false := by cases x <;> first | rfl | exact absurd ⟨_, rfl⟩ ht
    rw [hf] at kq
    refine q_when s0 (b := true) ?_ (fun _ H1 e1 s1 => ?_) (fun z => nomatch z)
    · exact et_is (et_or (a := true) (b := true) (et_not (a := false) (et_B (ev_isi (ev_var rfl) (by rw [kit_list, hk])))) fun z => nomatch z) rfl
    · exact d_ret s1 ev_bl kq
end
end Pw

set_option Elab.async false
set_option linter.all false
set_option maxRecDepth 100000
set_option maxHeartbeats 2000000
set_option autoImplicit false
namespace Pw
open PySem PySem.Spec PyProof.Rows L2
open Evl (Ex)
open Pw in
local macro_rules | `(tactic| walk_at "ev") => `(tactic| first
  | with_reducible exact ev_int
  | with_reducible exact ev_bl
  | with_reducible exact ev_non
  | exact ev_var rfl
  | exact ea_nil
  | with_reducible exact eo_none
  | with_reducible exact et_yes
  | ((refine' ea_cons ?_ ?_) <;> walk_at "ev")
  | ((with_reducible refine' et_test ?_) <;> walk_at "ev")
  | ((with_reducible refine' et_B ?_) <;> walk_at "ev")
  | ((with_reducible refine' et_not ?_) <;> walk_at "ev")
  | ((with_reducible refine' et_and ?_ (fun h_and => ?_)) <;> walk_at "ev")
  | ((with_reducible refine' et_or ?_ (fun h_or => ?_)) <;> walk_at "ev")
  | ((with_reducible refine' ev_andV ?_ (fun h_and => ?_)) <;> walk_at "ev")
  | ((with_reducible refine' ev_orV ?_ (fun h_or => ?_)) <;> walk_at "ev")
  | ((with_reducible refine' ev_notV ?_) <;> walk_at "ev")
  | ((with_reducible refine' ev_ifI ?_ (fun h_if => ?_) (fun h_if => ?_)) <;> walk_at "ev")
  | ((with_reducible refine' ev_un ?_ op1_neg) <;> walk_at "ev")
  | ((with_reducible refine' (el_cat ?_ ?_ ?_).ev) <;> walk_at "ev")
  | ((with_reducible refine' el_cat ?_ ?_ ?_) <;> walk_at "ev")
  | ((with_reducible refine' ev_op ?_ ?_ ?_) <;> walk_at "ev")
  | ((with_reducible refine' ev_tup ?_ ?_) <;> walk_at "ev")
  | ((with_reducible refine' (el_lst ?_ ?_).ev) <;> walk_at "ev")
  | ((with_reducible refine' el_lst ?_ ?_) <;> walk_at "ev")
  | ((with_reducible refine' (el_sl ?_ ?_ ?_).ev) <;> walk_at "ev")
  | ((with_reducible refine' el_sl ?_ ?_ ?_) <;> walk_at "ev")
  | ((with_reducible refine' (el_rev ?_).ev) <;> walk_at "ev")
  | ((with_reducible refine' el_rev ?_) <;> walk_at "ev")
  | ((with_reducible refine' eo_some ?_) <;> walk_at "ev")
  | ((with_reducible refine' (el_list ?_).ev) <;> walk_at "ev")
  | ((with_reducible refine' el_list ?_) <;> walk_at "ev")
  | ((with_reducible refine' ev_call ?_ ?_) <;> walk_at "ev")
  | ((with_reducible refine' (el_call ?_ ?_).ev) <;> walk_at "ev")
  | ((with_reducible refine' el_call ?_ ?_) <;> walk_at "ev")
  | ((with_reducible refine' (el_sortedD ?_).ev) <;> walk_at "ev")
  | ((with_reducible refine' el_sortedD ?_) <;> walk_at "ev")
  | ((with_reducible refine' (el_sortedDR ?_).ev) <;> walk_at "ev")
  | ((with_reducible refine' el_sortedDR ?_) <;> walk_at "ev")
  | ((with_reducible refine' ev_dgetD ?_ ?_ ?_) <;> walk_at "ev")
  | ((with_reducible refine' ev_cb ?_ ?_) <;> walk_at "ev")
  | with_reducible exact op2_I0
  | with_reducible exact op2_B0
  | with_reducible exact op2_eqI
  | with_reducible exact op2_neI
  | with_reducible exact op2_eqB
  | with_reducible exact op2_neB
  | with_reducible exact op2_isB
  | with_reducible exact op2_isNB
  | with_reducible exact op2_inT
  | with_reducible exact op2_inL
  | (with_reducible refine' op2_eqD ?_ ?_)
  | (with_reducible refine' op2_neD ?_ ?_)
  | ((with_reducible refine' op2_I ?_) <;> walk_at "side")
  | (with_reducible refine' op2_ixL ?_)
  | (with_reducible refine' op2_ixT ?_)
  | (show List.length _ ≤ 100000; exact Nat.le_of_ble_eq_true rfl)
  | exact cb_len
  | exact cb_lenT
  | exact cb_minT
  | exact cb_abs
  | exact cb_max2
  | exact cb_min2
  | exact cb_intB
  | exact cb_sum
  | exact cb_any
  | exact cb_all
  | skip)
local macro_rules | `(tactic| walk_at "side") => `(tactic| first
  | exact Nat.le_of_ble_eq_true rfl
  | (with_reducible exact mulok_l (by decide))
  | (with_reducible exact mulok_r (by decide))
  | (show (0 : Int) < _; decide)
  | (show (0 : Int) < _; omega)
  | (show (0 : Int) ≤ _ ∧ _ ∧ _; decide)
  | skip)

section
variable {P : Program} {w : World} {K : PySem.W.Frag} {mg : Str → Option Value} {base : Heap}
/-! ### totals, checks, orders -/
/-- numbers of a size that every product here stays in bounds -/
def Sm (n : Int) : Prop := n.natAbs < 2 ^ 5000
def SmP (ps : List (Int × Int)) : Prop := ∀ p ∈ ps, p.1.natAbs < 2 ^ 5000 ∧ p.2.natAbs < 2 ^ 5000
def totM (ps : List (Int × Int)) : Int := (ps.map fun p => p.1 * p.2).sum
def STotal (ds : List PyData) (y : PyData) : Prop := ∃ ps : List (Int × Int), ds = [dP ps] ∧ ps.length ≤ 50000 ∧ SmP ps ∧ y = .int (totM ps)
/-! ### the law's own looks -/
def minP (p : Int × Int) : Int := if p.2 < p.1 then p.2 else p.1
def lawSumB (ps : List (Int × Int)) : Bool := decide (ps = putM ps) && ps.all fun p => decide (0 < minP p)
def SLSum (ds : List PyData) (y : PyData) : Prop := ∃ ps : List (Int × Int), ds = [dP ps] ∧ ps.length ≤ 50000 ∧ y = .bool (lawSumB ps)
theorem canLay_prs : ∀ ps : List (Int × Int), PyData.canLayAll0 (ps.map pr) = true
  | [] => by simp [PyData.canLayAll0]
  | p :: ps => by
    rw [List.map_cons, PyData.canLayAll0, canLay_prs ps]
    simp [PyData.canLay0, PyData.canLayAll0]
theorem depth_prs : ∀ ps : List (Int × Int), PyData.depthAll (ps.map pr) ≤ 1
  | [] => by simp [PyData.depthAll]
  | p :: ps => by
    rw [List.map_cons, PyData.depthAll]
    have := depth_prs ps
    have e : (pr p).depth = 1 := by simp [PyData.depth, PyData.depthAll]
    omega
theorem shaped_dP (ps : List (Int × Int)) : SeqAt.shaped (dP ps) = true := by
  unfold SeqAt.shaped
  rw [Bool.and_eq_true]
  refine ⟨?_, decide_eq_true ?_⟩
  · rw [PyData.canLay0]; exact canLay_prs ps
  · rw [PyData.depth]; have := depth_prs ps; omega
theorem eqv_prs : ∀ ps qs : List (Int × Int), PyData.eqvAll (ps.map pr) (qs.map pr) = decide (ps = qs)
  | [], [] => by simp [PyData.eqvAll]
  | [], q :: qs => by simp [PyData.eqvAll]
  | p :: ps, [] => by simp [PyData.eqvAll]
  | (a, b) :: ps, (c, d) :: qs => by
    rw [List.map_cons, List.map_cons, PyData.eqvAll, eqv_prs ps qs]
    have e : PyData.eqv (pr (a, b)) (pr (c, d)) = decide (a = c ∧ b = d) := by
      show PyData.eqvAll [.int a, .int b] [.int c, .int d] = _
      simp [PyData.eqvAll, PyData.eqv, Bool.decide_and]
      rfl
    rw [e]
    simp [Bool.decide_and, Prod.mk.injEq]
theorem eqv_dP (ps qs : List (Int × Int)) : PyData.eqv (dP ps) (dP qs) = decide (ps = qs) := by
  show PyData.eqvAll (ps.map pr) (qs.map pr) = _
  exact eqv_prs ps qs
theorem op2_eqP {ps qs : List (Int × Int)} : Op2 K (rEqD K) (dP ps) (dP qs) (.bool (decide (ps = qs))) := by
  rw [← eqv_dP]; exact op2_eqD (shaped_dP ps) (shaped_dP qs)
theorem op2_neP {ps qs : List (Int × Int)} : Op2 K (rNeD K) (dP ps) (dP qs) (.bool (!decide (ps = qs))) := by
  rw [← eqv_dP]; exact op2_neD (shaped_dP ps) (shaped_dP qs)
def pairsM (row : List Int) : List (Int × Int) := putM (row.map fun k => (k, 1))
def SPairs (ds : List PyData) (ys : List PyData) : Prop := ∃ row : List Int, ds = [dI row] ∧ row.length ≤ 50000 ∧ ys = (pairsM row).map pr
end
end Pw

set_option Elab.async false
set_option linter.all false
set_option maxRecDepth 100000
set_option maxHeartbeats 2000000
set_option autoImplicit false
namespace Pw
open PySem PySem.Spec PyProof.Rows L2
open Evl (Ex)
open Pw in
local macro_rules | `(tactic| walk_at "ev") => `(tactic| first
  | with_reducible exact ev_int
  | with_reducible exact ev_bl
  | with_reducible exact ev_non
  | exact ev_var rfl
  | exact ea_nil
  | with_reducible exact eo_none
  | with_reducible exact et_yes
  | ((refine' ea_cons ?_ ?_) <;> walk_at "ev")
  | ((with_reducible refine' et_test ?_) <;> walk_at "ev")
  | ((with_reducible refine' et_B ?_) <;> walk_at "ev")
  | ((with_reducible refine' et_not ?_) <;> walk_at "ev")
  | ((with_reducible refine' et_and ?_ (fun h_and => ?_)) <;> walk_at "ev")
  | ((with_reducible refine' et_or ?_ (fun h_or => ?_)) <;> walk_at "ev")
  | ((with_reducible refine' ev_andV ?_ (fun h_and => ?_)) <;> walk_at "ev")
  | ((with_reducible refine' ev_orV ?_ (fun h_or => ?_)) <;> walk_at "ev")
  | ((with_reducible refine' ev_notV ?_) <;> walk_at "ev")
  | ((with_reducible refine' ev_ifI ?_ (fun h_if => ?_) (fun h_if => ?_)) <;> walk_at "ev")
  | ((with_reducible refine' ev_un ?_ op1_neg) <;> walk_at "ev")
  | ((with_reducible refine' (el_cat ?_ ?_ ?_).ev) <;> walk_at "ev")
  | ((with_reducible refine' el_cat ?_ ?_ ?_) <;> walk_at "ev")
  | ((with_reducible refine' ev_op ?_ ?_ ?_) <;> walk_at "ev")
  | ((with_reducible refine' ev_tup ?_ ?_) <;> walk_at "ev")
  | ((with_reducible refine' (el_lst ?_ ?_).ev) <;> walk_at "ev")
  | ((with_reducible refine' el_lst ?_ ?_) <;> walk_at "ev")
  | ((with_reducible refine' (el_sl ?_ ?_ ?_).ev) <;> walk_at "ev")
  | ((with_reducible refine' el_sl ?_ ?_ ?_) <;> walk_at "ev")
  | ((with_reducible refine' (el_rev ?_).ev) <;> walk_at "ev")
  | ((with_reducible refine' el_rev ?_) <;> walk_at "ev")
  | ((with_reducible refine' eo_some ?_) <;> walk_at "ev")
  | ((with_reducible refine' (el_list ?_).ev) <;> walk_at "ev")
  | ((with_reducible refine' el_list ?_) <;> walk_at "ev")
  | ((with_reducible refine' ev_call ?_ ?_) <;> walk_at "ev")
  | ((with_reducible refine' (el_call ?_ ?_).ev) <;> walk_at "ev")
  | ((with_reducible refine' el_call ?_ ?_) <;> walk_at "ev")
  | ((with_reducible refine' (el_sortedD ?_).ev) <;> walk_at "ev")
  | ((with_reducible refine' el_sortedD ?_) <;> walk_at "ev")
  | ((with_reducible refine' (el_sortedDR ?_).ev) <;> walk_at "ev")
  | ((with_reducible refine' el_sortedDR ?_) <;> walk_at "ev")
  | ((with_reducible refine' ev_dgetD ?_ ?_ ?_) <;> walk_at "ev")
  | ((with_reducible refine' ev_cb ?_ ?_) <;> walk_at "ev")
  | with_reducible exact op2_I0
  | with_reducible exact op2_B0
  | with_reducible exact op2_eqI
  | with_reducible exact op2_neI
  | with_reducible exact op2_eqB
  | with_reducible exact op2_neB
  | with_reducible exact op2_isB
  | with_reducible exact op2_isNB
  | with_reducible exact op2_inT
  | with_reducible exact op2_inL
  | (with_reducible refine' op2_eqD ?_ ?_)
  | (with_reducible refine' op2_neD ?_ ?_)
  | ((with_reducible refine' op2_I ?_) <;> walk_at "side")
  | (with_reducible refine' op2_ixL ?_)
  | (with_reducible refine' op2_ixT ?_)
  | (show List.length _ ≤ 100000; exact Nat.le_of_ble_eq_true rfl)
  | exact cb_len
  | exact cb_lenT
  | exact cb_minT
  | exact cb_abs
  | exact cb_max2
  | exact cb_min2
  | exact cb_intB
  | exact cb_sum
  | exact cb_any
  | exact cb_all
  | skip)
local macro_rules | `(tactic| walk_at "side") => `(tactic| first
  | exact Nat.le_of_ble_eq_true rfl
  | (with_reducible exact mulok_l (by decide))
  | (with_reducible exact mulok_r (by decide))
  | (show (0 : Int) < _; decide)
  | (show (0 : Int) < _; omega)
  | (show (0 : Int) ≤ _ ∧ _ ∧ _; decide)
  | skip)

section
variable {P : Program} {w : World} {K : PySem.W.Frag} {mg : Str → Option Value} {base : Heap}
def SCheck (ds : List PyData) (y : PyData) : Prop := ∃ ps : List (Int × Int), ds = [dP ps] ∧ ps.length ≤ 50000 ∧ sumB ps = true ∧ y = .none
theorem sc_check_sum : FnScope ["parts"] ["parts"] (defScope s_check_sum) := ⟨rfl, rfl, rfl, by decide +kernel, rfl, by decide +kernel, by decide +kernel⟩
theorem ok_check_sum (D : Df K mg "check_sum" s_check_sum) (T : Bn mg) (c_is_sum : Cal P w K mg base 3 "is_sum" (SpR K SIsSum)) : Cal P w K mg base 4 "check_sum" (SpR K SCheck) := by
  refine calR D sc_check_sum (fun _ _ _ _ _ _ us hl => match us, hl with | [_], _ => rfl) (by decide) (fun ds y ⟨_, h, _⟩ => by rw [h]; rfl) (fun f cdv A outer s H σ E ds y X hr h s0 => ?_)
  obtain ⟨ps, rfl, hl, hs, rfl⟩ := h
  replace s0 : Sg K E σ H [.d (dP ps)] [] := s0
  refine ⟨_, (pss_one (ps_if (pt_not (pt_val (pe_c c_is_sum hr (by first | decide | omega) (by rfl) (pa_cons (pv 0) pa_nil))))
      (pss_one ps_never)
      pss_nil)), fun Q kq => ?_⟩
  try dsimp only [cxOf, Cx.nox]
  refine d_when s0 (b := false) (et_not (a := true) (et_B (ev_call (ea_cons (ev_var rfl) ea_nil) (show SIsSum _ _ from ⟨dP ps, rfl, fun xs e => ?_, ?_⟩)))) (fun z => nomatch z) (fun _ H1 e1 s1 => kq _ H1 s1.ent .non)
  · cases e; rw [List.length_map]; exact hl
  · rw [isSum_dP, hs]
def SBy (ds : List PyData) (y : PyData) : Prop := ∃ b : Int, ds = [.int b] ∧ 2 ≤ b ∧ y = .none
theorem sc_check_by : FnScope ["by"] ["by"] (defScope s_check_by) := ⟨rfl, rfl, rfl, by decide +kernel, rfl, by decide +kernel, by decide +kernel⟩
theorem ok_check_by (D : Df K mg "check_by" s_check_by) (T : Bn mg) (c_is_whole : Cal P w K mg base 1 "is_whole" (SpR K SWhole)) : Cal P w K mg base 2 "check_by" (SpR K SBy) := by
  refine calR D sc_check_by (fun _ _ _ _ _ _ us hl => match us, hl with | [_], _ => rfl) (by decide) (fun ds y ⟨_, h, _⟩ => by rw [h]; rfl) (fun f cdv A outer s H σ E ds y X hr h s0 => ?_)
  obtain ⟨b, rfl, hb, rfl⟩ := h
  replace s0 : Sg K E σ H [.d (.int b)] [] := s0
  refine ⟨_, (pss_one (ps_if (pw_or (pt_not (pt_val (pe_c c_is_whole hr (by first | decide | omega) (by rfl) (pa_cons (pv 0) pa_nil)))) (pw_or1 (pt_cmpR op_lt (pv 0) pe_int (nomark _)))).pt
      (pss_one ps_never)
      pss_nil)), fun Q kq => ?_⟩
  try dsimp only [cxOf, Cx.nox]
  refine d_when s0 (b := false) ?_ (fun z => nomatch z) (fun _ H1 e1 s1 => kq _ H1 s1.ent .non)
  refine et_or (a := false) (et_not (a := true) (et_B (ev_call (ea_cons (ev_var rfl) ea_nil) (show SWhole _ _ from ⟨_, rfl, rfl⟩)))) fun _ => ?_
  exact et_is (et_test (ev_op (ev_var rfl) ev_int op2_B0)) (decide_eq_false (by omega))
def inOrdM (kvs : List (Int × Int)) : List (Int × Int) := ((asc (kvs.map (·.1))).reverse.filter fun k => decide (0 < (dval kvs k).getD 0)).map fun k => (k, (dval kvs k).getD 0)
def SInOrd (ds : List PyData) (ys : List PyData) : Prop := ∃ kvs : List (Int × Int), ds = [.dict (encP kvs)] ∧ kvs.length ≤ 50000 ∧ ys = (inOrdM kvs).map pr
theorem sc_in_order : FnScope ["counts", "part"] ["counts"] (defScope s_in_order) := ⟨rfl, rfl, rfl, by decide +kernel, rfl, by decide +kernel, by decide +kernel⟩
theorem ok_in_order (D : Df K mg "in_order" s_in_order) (T : Bn mg) : Cal P w K mg base 1 "in_order" (SpL K SInOrd) := by
  refine calL D sc_in_order (fun _ _ _ _ _ _ us hl => match us, hl with | [_], _ => rfl) (by decide) (fun ds y ⟨_, h, _⟩ => by rw [h]; rfl) (fun f cdv A outer s H σ E ds ys X hr h s0 => ?_)
  obtain ⟨kvs, rfl, hlen, rfl⟩ := h
  -- 0 counts, 1 part
  replace s0 : Sg K E σ H [.d (.dict (encP kvs)), .no] [] := s0
  refine ⟨_, (pss_one (ps_ret (pe_lc (own := [("part", 1)]) (g := (gName 1)) rfl sc_in_order.nd (pi_listK (K := K) rfl (pe_callBK cp_sortedDR (by rfl) T.sorted_ (by decide +kernel) (pa_cons (pv 0) pa_nil) (pk_cons pe_bl pk_nil))) (blkOk_by (own := [("part", 1)]) (N := ["counts", "part"]) (sc := defScope s_in_order) (by decide +kernel)) (fun _ _ _ _ _ => (pg_name (i := 1) sc_in_order.nd rfl (by first | exact Or.inl rfl | exact Or.inr rfl))) (fun _ _ _ _ _ => pts_one (pt_cmpR op_gt (pe_dget (hu_of hr) (pv 0) (pv 1) (fun _ _ => rfl)) pe_int (nomark _))) (fun _ _ _ _ _ => (pe_tup (pa_cons (pv 1) (pa_cons (pe_dget (hu_of hr) (pv 0) (pv 1) (fun _ _ => rfl)) pa_nil))))))), fun Q kq => ?_⟩
  try dsimp only [cxOf, Cx.nox]
  have hm : ∀ a ∈ (asc (kvs.map (·.1))).reverse, dval kvs a = some ((dval kvs a).getD 0) := fun a ha => dval_mem ((asc_perm _).mem_iff.mp (List.mem_reverse.mp ha))
  refine d_retL s0 (el_is (el_lc (asc (kvs.map (·.1))).reverse PyData.int (fun k => decide (0 < (dval kvs k).getD 0)) (fun k => pr (k, (dval kvs k).getD 0)) (fun k => [.d (.dict (encP kvs)), .d (.int k)]) (src_list ?_) ?_ ?_ ?_ ?_) ?_) kq
  · exact (el_sortedDR (ev_var rfl)).ev
  · rw [List.length_reverse, (asc_perm _).length_eq, List.length_map]
    omega
  · intro a ha
    exact ⟨_, tg_name (Nat.le_of_ble_eq_true rfl), by decide⟩
  · intro a ha
    exact et_test (ev_op (ev_dgetD (ev_var rfl) (ev_var rfl) (hm a ha)) ev_int op2_B0)
  · intro a ha _
    exact ev_tup (ea_cons (ev_var rfl) (ea_cons (ev_dgetD (ev_var rfl) (ev_var rfl) (hm a ha)) ea_nil))
  · unfold inOrdM
    rw [List.map_map]
    rfl
theorem sc_total : FnScope ["parts", "part", "times"] ["parts"] (defScope s_total) := ⟨rfl, rfl, rfl, by decide +kernel, rfl, by decide +kernel, by decide +kernel⟩
theorem ok_total (D : Df K mg "total" s_total) (T : Bn mg) : Cal P w K mg base 1 "total" (SpR K STotal) := by
  refine calR D sc_total (fun _ _ _ _ _ _ us hl => match us, hl with | [_], _ => rfl) (by decide) (fun ds y ⟨_, h, _⟩ => by rw [h]; rfl) (fun f cdv A outer s H σ E ds y X hr h s0 => ?_)
  obtain ⟨ps, rfl, hl, hs, rfl⟩ := h
  replace s0 : Sg K E σ H [.d (dP ps), .no, .no] [] := s0
  refine ⟨_, (pss_one (ps_ret (pe_callB (r := rSum K) (cr_sum rfl) (by rfl) T.sum_ (by decide +kernel) (pa_cons (pe_lc (own := [("part", 1), ("times", 2)]) (g := (gTup K 2 (gCons (gName 1) (gCons (gName 2) gNil)))) (tt := tYes) rfl sc_total.nd (pi_listK (K := K) rfl (pv 0)) (blkOk_by (own := [("part", 1), ("times", 2)]) (N := ["parts", "part", "times"]) (sc := defScope s_total) (by decide +kernel)) (fun _ _ _ _ _ => (pg_tup (n := 2) rfl (pgs_cons (pg_name (i := 1) sc_total.nd rfl (by first | exact Or.inl rfl | exact Or.inr rfl)) (pgs_cons (pg_name (i := 2) sc_total.nd rfl (by first | exact Or.inl rfl | exact Or.inr rfl)) pgs_nil)))) (fun _ _ _ _ _ => pts_nil) (fun _ _ _ _ _ => (pe_op op_mulA (pv 1) (pv 2)))) pa_nil)))), fun Q kq => ?_⟩
  try dsimp only [cxOf, Cx.nox]
  refine d_ret s0 (ev_cb (ea_cons (el_is (el_lc0 ps pr (fun p => .int (p.1 * p.2)) (fun p => [.d (dP ps), .d (.int p.1), .d (.int p.2)]) (src_list (ev_var rfl)) (by omega) ?_ ?_) ?_).ev ea_nil) cb_sum) kq
  · intro a ha; exact ⟨_, tg_tup2 (tg_name (Nat.le_of_ble_eq_true rfl)) (tg_name (Nat.le_of_ble_eq_true rfl)), by decide⟩
  · intro p hp; exact ev_op (ev_var rfl) (ev_var rfl) (op2_I (mulok_b (hs p hp).1 (hs p hp).2 (by decide)))
  · rw [List.map_map]; rfl
def SWholeP (ds : List PyData) (y : PyData) : Prop := ∃ ps : List (Int × Int), ds = [dP ps] ∧ ps.length ≤ 50000 ∧ sumB ps = true ∧ SmP ps ∧ y = .int (totM ps)
theorem sc_whole : FnScope ["parts"] ["parts"] (defScope s_whole) := ⟨rfl, rfl, rfl, by decide +kernel, rfl, by decide +kernel, by decide +kernel⟩
theorem ok_whole (D : Df K mg "whole" s_whole) (T : Bn mg) (c_check_sum : Cal P w K mg base 4 "check_sum" (SpR K SCheck)) (c_total : Cal P w K mg base 1 "total" (SpR K STotal)) : Cal P w K mg base 5 "whole" (SpR K SWholeP) := by
  refine calR D sc_whole (fun _ _ _ _ _ _ us hl => match us, hl with | [_], _ => rfl) (by decide) (fun ds y ⟨_, h, _⟩ => by rw [h]; rfl) (fun f cdv A outer s H σ E ds y X hr h s0 => ?_)
  obtain ⟨ps, rfl, hl, hb, hs, rfl⟩ := h
  replace s0 : Sg K E σ H [.d (dP ps)] [] := s0
  refine ⟨_, (pss_cons (ps_expr (pe_c c_check_sum hr (by first | decide | omega) (by rfl) (pa_cons (pv 0) pa_nil)))
    (pss_one (ps_ret (pe_c c_total hr (by first | decide | omega) (by rfl) (pa_cons (pv 0) pa_nil))))), fun Q kq => ?_⟩
  try dsimp only [cxOf, Cx.nox]
  refine q_drop s0 (ev_call (ea_cons (ev_var rfl) ea_nil) (show SCheck _ _ from ⟨ps, rfl, hl, hb, rfl⟩)) (fun H1 e1 s1 => ?_)
  exact d_ret s1 (ev_call (ea_cons (ev_var rfl) ea_nil) (show STotal _ _ from ⟨ps, rfl, hl, hs, rfl⟩)) kq
def oftM (ps : List (Int × Int)) : Int := (ps.map fun p => p.2).sum
def SOften (ds : List PyData) (y : PyData) : Prop := ∃ ps : List (Int × Int), ds = [dP ps] ∧ ps.length ≤ 50000 ∧ sumB ps = true ∧ y = .int (oftM ps)
theorem sc_often : FnScope ["parts", "part", "times"] ["parts"] (defScope s_often) := ⟨rfl, rfl, rfl, by decide +kernel, rfl, by decide +kernel, by decide +kernel⟩
theorem ok_often (D : Df K mg "often" s_often) (T : Bn mg) (c_check_sum : Cal P w K mg base 4 "check_sum" (SpR K SCheck)) : Cal P w K mg base 5 "often" (SpR K SOften) := by
  refine calR D sc_often (fun _ _ _ _ _ _ us hl => match us, hl with | [_], _ => rfl) (by decide) (fun ds y ⟨_, h, _⟩ => by rw [h]; rfl) (fun f cdv A outer s H σ E ds y X hr h s0 => ?_)
  obtain ⟨ps, rfl, hl, hb, rfl⟩ := h
  replace s0 : Sg K E σ H [.d (dP ps), .no, .no] [] := s0
  refine ⟨_, (pss_cons (ps_expr (pe_c c_check_sum hr (by first | decide | omega) (by rfl) (pa_cons (pv 0) pa_nil)))
    (pss_one (ps_ret (pe_callB (r := rSum K) (cr_sum rfl) (by rfl) T.sum_ (by decide +kernel) (pa_cons (pe_lc (own := [("part", 1), ("times", 2)]) (g := (gTup K 2 (gCons (gName 1) (gCons (gName 2) gNil)))) (tt := tYes) rfl sc_often.nd (pi_listK (K := K) rfl (pv 0)) (blkOk_by (own := [("part", 1), ("times", 2)]) (N := ["parts", "part", "times"]) (sc := defScope s_often) (by decide +kernel)) (fun _ _ _ _ _ => (pg_tup (n := 2) rfl (pgs_cons (pg_name (i := 1) sc_often.nd rfl (by first | exact Or.inl rfl | exact Or.inr rfl)) (pgs_cons (pg_name (i := 2) sc_often.nd rfl (by first | exact Or.inl rfl | exact Or.inr rfl)) pgs_nil)))) (fun _ _ _ _ _ => pts_nil) (fun _ _ _ _ _ => (pv 2))) pa_nil))))), fun Q kq => ?_⟩
  try dsimp only [cxOf, Cx.nox]
  refine q_drop s0 (ev_call (ea_cons (ev_var rfl) ea_nil) (show SCheck _ _ from ⟨ps, rfl, hl, hb, rfl⟩)) (fun H1 e1 s1 => ?_)
  refine d_ret s1 (ev_cb (ea_cons (el_is (el_lc0 ps pr (fun p => .int p.2) (fun p => [.d (dP ps), .d (.int p.1), .d (.int p.2)]) (src_list (ev_var rfl)) (by omega) ?_ ?_) ?_).ev ea_nil) cb_sum) kq
  · intro a ha; exact ⟨_, tg_tup2 (tg_name (Nat.le_of_ble_eq_true rfl)) (tg_name (Nat.le_of_ble_eq_true rfl)), by decide⟩
  · intro p hp; exact ev_var rfl
  · rw [List.map_map]; rfl
end
end Pw

set_option Elab.async false
set_option linter.all false
set_option maxRecDepth 100000
set_option maxHeartbeats 2000000
set_option autoImplicit false
namespace Pw
open PySem PySem.Spec PyProof.Rows L2
open Evl (Ex)
open Pw in
local macro_rules | `(tactic| walk_at "ev") => `(tactic| first
  | with_reducible exact ev_int
  | with_reducible exact ev_bl
  | with_reducible exact ev_non
  | exact ev_var rfl
  | exact ea_nil
  | with_reducible exact eo_none
  | with_reducible exact et_yes
  | ((refine' ea_cons ?_ ?_) <;> walk_at "ev")
  | ((with_reducible refine' et_test ?_) <;> walk_at "ev")
  | ((with_reducible refine' et_B ?_) <;> walk_at "ev")
  | ((with_reducible refine' et_not ?_) <;> walk_at "ev")
  | ((with_reducible refine' et_and ?_ (fun h_and => ?_)) <;> walk_at "ev")
  | ((with_reducible refine' et_or ?_ (fun h_or => ?_)) <;> walk_at "ev")
  | ((with_reducible refine' ev_andV ?_ (fun h_and => ?_)) <;> walk_at "ev")
  | ((with_reducible refine' ev_orV ?_ (fun h_or => ?_)) <;> walk_at "ev")
  | ((with_reducible refine' ev_notV ?_) <;> walk_at "ev")
  | ((with_reducible refine' ev_ifI ?_ (fun h_if => ?_) (fun h_if => ?_)) <;> walk_at "ev")
  | ((with_reducible refine' ev_un ?_ op1_neg) <;> walk_at "ev")
  | ((with_reducible refine' (el_cat ?_ ?_ ?_).ev) <;> walk_at "ev")
  | ((with_reducible refine' el_cat ?_ ?_ ?_) <;> walk_at "ev")
  | ((with_reducible refine' ev_op ?_ ?_ ?_) <;> walk_at "ev")
  | ((with_reducible refine' ev_tup ?_ ?_) <;> walk_at "ev")
  | ((with_reducible refine' (el_lst ?_ ?_).ev) <;> walk_at "ev")
  | ((with_reducible refine' el_lst ?_ ?_) <;> walk_at "ev")
  | ((with_reducible refine' (el_sl ?_ ?_ ?_).ev) <;> walk_at "ev")
  | ((with_reducible refine' el_sl ?_ ?_ ?_) <;> walk_at "ev")
  | ((with_reducible refine' (el_rev ?_).ev) <;> walk_at "ev")
  | ((with_reducible refine' el_rev ?_) <;> walk_at "ev")
  | ((with_reducible refine' eo_some ?_) <;> walk_at "ev")
  | ((with_reducible refine' (el_list ?_).ev) <;> walk_at "ev")
  | ((with_reducible refine' el_list ?_) <;> walk_at "ev")
  | ((with_reducible refine' ev_call ?_ ?_) <;> walk_at "ev")
  | ((with_reducible refine' (el_call ?_ ?_).ev) <;> walk_at "ev")
  | ((with_reducible refine' el_call ?_ ?_) <;> walk_at "ev")
  | ((with_reducible refine' (el_sortedD ?_).ev) <;> walk_at "ev")
  | ((with_reducible refine' el_sortedD ?_) <;> walk_at "ev")
  | ((with_reducible refine' (el_sortedDR ?_).ev) <;> walk_at "ev")
  | ((with_reducible refine' el_sortedDR ?_) <;> walk_at "ev")
  | ((with_reducible refine' ev_dgetD ?_ ?_ ?_) <;> walk_at "ev")
  | ((with_reducible refine' ev_cb ?_ ?_) <;> walk_at "ev")
  | with_reducible exact op2_I0
  | with_reducible exact op2_B0
  | with_reducible exact op2_eqI
  | with_reducible exact op2_neI
  | with_reducible exact op2_eqB
  | with_reducible exact op2_neB
  | with_reducible exact op2_isB
  | with_reducible exact op2_isNB
  | with_reducible exact op2_inT
  | with_reducible exact op2_inL
  | (with_reducible refine' op2_eqD ?_ ?_)
  | (with_reducible refine' op2_neD ?_ ?_)
  | ((with_reducible refine' op2_I ?_) <;> walk_at "side")
  | (with_reducible refine' op2_ixL ?_)
  | (with_reducible refine' op2_ixT ?_)
  | (show List.length _ ≤ 100000; exact Nat.le_of_ble_eq_true rfl)
  | exact cb_len
  | exact cb_lenT
  | exact cb_minT
  | exact cb_abs
  | exact cb_max2
  | exact cb_min2
  | exact cb_intB
  | exact cb_sum
  | exact cb_any
  | exact cb_all
  | skip)
local macro_rules | `(tactic| walk_at "side") => `(tactic| first
  | exact Nat.le_of_ble_eq_true rfl
  | (with_reducible exact mulok_l (by decide))
  | (with_reducible exact mulok_r (by decide))
  | (show (0 : Int) < _; decide)
  | (show (0 : Int) < _; omega)
  | (show (0 : Int) ≤ _ ∧ _ ∧ _; decide)
  | skip)

section
variable {P : Program} {w : World} {K : PySem.W.Frag} {mg : Str → Option Value} {base : Heap}
/-! ### the law's sums -/
theorem drawM_range (c k : Int) {m : Int} (h : 0 < m) : 0 ≤ drawM c k m ∧ drawM c k m < m := ⟨Int.emod_nonneg _ (by omega), Int.emod_lt_of_pos _ h⟩
def limM (s : List Int) : Int := pick3 9 60 900000 (drawM (cellM s 0) 7 3)
def timM (s : List Int) : Int := pick3 1 4 900000 (drawM (cellM s 1) 6 3)
def moreM (s : List Int) (n : Int) (k : Nat) : Int := (n * 48271 + 7 * k) % 1000003 % timM s + (if decide ((k : Int) < 6) = true then n / 10 ^ 20 else 0)
def itemM (s : List Int) (p : Int × Nat) : Int × Int := (1 + numM p.1 p.2 (limM s), 1 + moreM s (numM p.1 p.2 (limM s)) p.2)
def foundM (s : List Int) : List (Int × Int) := (s.take 63).zipIdx.map (itemM s)
def sumM (s : List Int) : List (Int × Int) := putM (foundM s)
theorem pick3_pos {a b c d : Int} (ha : 0 < a) (hb : 0 < b) (hc : 0 < c) : 0 < pick3 a b c d := by
  unfold pick3
  split
  · exact ha
  · split
    · exact hb
    · exact hc
theorem limM_pos (s : List Int) : 0 < limM s := pick3_pos (by decide) (by decide) (by decide)
theorem timM_pos (s : List Int) : 0 < timM s := pick3_pos (by decide) (by decide) (by decide)
theorem cdiv_e20 {n : Int} : CDivW n (10 ^ Int.toNat 20) := by
  show (0 : Int) < 10 ^ Int.toNat 20 ∧ ((10 : Int) ^ Int.toNat 20).natAbs.log2 < 9000
  decide
def SSum (ds : List PyData) (ys : List PyData) : Prop := ∃ s : List Int, ds = [dI s] ∧ (∀ c ∈ s, Fit c) ∧ ys = (sumM s).map pr
theorem sc_law_sum : FnScope ["_law_script", "_law_limit", "_law_times", "_law_found", "_law_k", "_law_cell", "_law_number_here", "_law_more"] ["_law_script"] (defScope s_law_sum) := ⟨rfl, rfl, rfl, by decide +kernel, rfl, by decide +kernel, by decide +kernel⟩
theorem ok_law_sum (D : Df K mg "_law_sum" s_law_sum) (T : Bn mg) (c_law_cell_at : Cal P w K mg base 1 "_law_cell_at" (SpR K SCell)) (c_law_draw : Cal P w K mg base 1 "_law_draw" (SpR K SDraw)) (c_law_number : Cal P w K mg base 2 "_law_number" (SpR K SNum)) (c_law_put : Cal P w K mg base 1 "_law_put" (SpL K SPut)) : Cal P w K mg base 3 "_law_sum" (SpL K SSum) := by
  refine calL D sc_law_sum (fun _ _ _ _ _ _ us hl => match us, hl with | [_], _ => rfl) (by decide) (fun ds y ⟨_, h, _⟩ => by rw [h]; rfl) (fun f cdv A outer s H σ E ds ys X hr h s0 => ?_)
  obtain ⟨sc, rfl, hfit, rfl⟩ := h
  -- 0 _law_script, 1 _law_limit, 2 _law_times, 3 _law_found, 4 _law_k, 5 _law_cell, 6 _law_number_here, 7 _law_more
  replace s0 : Sg K E σ H [.d (dI sc), .no, .no, .no, .no, .no, .no, .no] [] := s0
  refine ⟨_, (pss_cons (ps_set (i := 1) sc_law_sum.nd rfl (Or.inl rfl) (pe_ix (r := rIxT K) ix_tup (pe_tup (pa_cons pe_int (pa_cons pe_int (pa_cons pe_int pa_nil)))) (pe_c c_law_draw hr (by first | decide | omega) (by rfl) (pa_cons (pe_c c_law_cell_at hr (by first | decide | omega) (by rfl) (pa_cons (pv 0) (pa_cons pe_int pa_nil))) (pa_cons pe_int (pa_cons pe_int pa_nil)))) (fun _ _ => rfl)))
    (pss_cons (ps_set (i := 2) sc_law_sum.nd rfl (Or.inl rfl) (pe_ix (r := rIxT K) ix_tup (pe_tup (pa_cons pe_int (pa_cons pe_int (pa_cons pe_int pa_nil)))) (pe_c c_law_draw hr (by first | decide | omega) (by rfl) (pa_cons (pe_c c_law_cell_at hr (by first | decide | omega) (by rfl) (pa_cons (pv 0) (pa_cons pe_int pa_nil))) (pa_cons pe_int (pa_cons pe_int pa_nil)))) (fun _ _ => rfl)))
    (pss_cons (ps_set (i := 3) sc_law_sum.nd rfl (Or.inl rfl) (pe_lst pa_nil))
    (pss_cons (ps_for PassesOwn.never rfl (pi_enumK (K := K) rfl (by rfl) T.enumerate_ (pa_cons (pe_slice (r := rSlL K) sl_list (pv 0) po_none (po_some pe_int)) pa_nil)) (pg_tup (n := 2) rfl (pgs_cons (pg_name (i := 4) sc_law_sum.nd rfl (Or.inl rfl)) (pgs_cons (pg_name (i := 5) sc_law_sum.nd rfl (Or.inl rfl)) pgs_nil)))
      (pss_cons (ps_set (i := 6) sc_law_sum.nd rfl (Or.inl rfl) (pe_c c_law_number hr (by first | decide | omega) (by rfl) (pa_cons (pv 5) (pa_cons (pv 4) (pa_cons (pv 1) pa_nil)))))
      (pss_cons (ps_set (i := 7) sc_law_sum.nd rfl (Or.inl rfl) (pe_op op_mod (pe_op op_mod (pe_op op_add (pe_op op_mulA (pv 6) pe_int) (pe_op op_mulA pe_int (pv 4))) pe_int) (pv 2)))
      (pss_cons (ps_set (i := 7) sc_law_sum.nd rfl (Or.inl rfl) (pe_op op_add (pv 7) (pe_ifExp (pt_cmpR op_lt (pv 4) pe_int (nomark _)) (pe_op op_fdivW (pv 6) (pe_op op_pow pe_int pe_int)) pe_int)))
      (pss_one (ps_expr (pe_bm PySem.F.plainAttrs_list PySem.F.slot_list_append PySem.F.type_list_append mt_append (pv 3) (pa_cons (pe_tup (pa_cons (pe_op op_add pe_int (pv 6)) (pa_cons (pe_op op_add pe_int (pv 7)) pa_nil))) pa_nil))))))))
    (pss_one (ps_ret (pe_c c_law_put hr (by first | decide | omega) (by rfl) (pa_cons (pv 3) pa_nil)))))))), fun Q kq => ?_⟩
  try dsimp only [cxOf, Cx.nox]
  have cell (ρ : List Sl) (O) (k : Nat) (h : ρ[0]? = some (.d (dI sc))) : Ev K ρ O (tCall (SpR K SCell) [] E0 (tCons (tVar 0) (tCons (tC (V.int (k : Int))) tNil))) (.int (cellM sc k)) := ev_call (ea_cons (ev_var h) (ea_cons ev_int ea_nil)) ⟨sc, k, rfl, rfl⟩
  refine q_asg s0 (x := .int (limM sc)) (ev_op (ev_tup (ea_cons ev_int (ea_cons ev_int (ea_cons ev_int ea_nil)))) (ev_call (ea_cons (cell _ _ 0 rfl) (ea_cons ev_int (ea_cons ev_int ea_nil))) (show SDraw _ _ from ⟨_, _, _, rfl, by decide, rfl⟩)) (op2_ixT (at_pick3 (drawM_range _ _ (by decide))))) (fun σ1 H1 e1 s1 => ?_)
  refine q_asg s1 (x := .int (timM sc)) (ev_op (ev_tup (ea_cons ev_int (ea_cons ev_int (ea_cons ev_int ea_nil)))) (ev_call (ea_cons (cell _ _ 1 rfl) (ea_cons ev_int (ea_cons ev_int ea_nil))) (show SDraw _ _ from ⟨_, _, _, rfl, by decide, rfl⟩)) (op2_ixT (at_pick3 (drawM_range _ _ (by decide))))) (fun σ2 H2 e2 s2 => ?_)
  refine q_asgO s2 (el_lst ea_nil) (fun σ3 H3 p e3 s3 => ?_)
  have hsl : EvA K [.d (dI sc), .d (.int (limM sc)), .d (.int (timM sc)), .o p, .no, .no, .no, .no] [(p, .lst [])] (tCons (tSl (rSlL K) (tVar 0) tNoPart (tPart (tC (V.int 63)))) tNil) [.list ((sc.take 63).map PyData.int)] := ea_cons (el_is (el_sl (ev_var rfl) eo_none (eo_some ev_int)) (by rw [show (63 : Int) = ((63 : Nat) : Int) from rfl, cutA_take, List.map_take])).ev ea_nil
  refine q_for (sc.take 63).zipIdx (fun q => .tuple [.int (q.2 : Nat), .int q.1]) (fun i z => z = (foundM sc).take i) (fun _ => [.d (dI sc), .d (.int (limM sc)), .d (.int (timM sc)), .o p, .no, .no, .no, .no]) (fun z => [(p, .lst (z.map pr))]) (fun q _ => [.d (dI sc), .d (.int (limM sc)), .d (.int (timM sc)), .o p, .d (.int (q.2 : Nat)), .d (.int q.1), .no, .no]) [] (src_enumT (sc.take 63) PyData.int hsl) s3 rfl ?_ ?_ ?_
  · intro i q z hq hz
    exact ⟨_, tg_tup2 (tg_name (Nat.le_of_ble_eq_true rfl)) (tg_name (Nat.le_of_ble_eq_true rfl))⟩
  · intro B i q z σ' H' hq hz s4
    have hlt : i < (sc.take 63).zipIdx.length := (List.getElem?_eq_some_iff.mp hq).1
    have hlen : i < 63 := by rw [List.length_zipIdx, List.length_take] at hlt; omega
    have hq2 : q.2 = i ∧ q.1 ∈ sc := by
      rw [List.getElem?_zipIdx] at hq
      cases hc : (sc.take 63)[i]? with
      | none => rw [hc] at hq; cases hq
      | some c =>
        rw [hc] at hq
        have hq' : q = (c, 0 + i) := (Option.some.inj hq).symm
        subst hq'
        exact ⟨Nat.zero_add i, List.mem_of_mem_take (List.mem_of_getElem? hc)⟩
    refine q_asg s4 (ev_call (ea_cons (ev_var rfl) (ea_cons (ev_var rfl) (ea_cons (ev_var rfl) ea_nil))) (show SNum _ _ from ⟨_, _, _, rfl, limM_pos sc, hfit _ hq2.2, by rw [hq2.1]; omega, rfl⟩)) (fun σ5 H5 e5 s5 => ?_)
    refine q_asg s5 (x := .int ((numM q.1 q.2 (limM sc) * 48271 + 7 * (q.2 : Nat)) % 1000003 % timM sc)) ?_ (fun σ6 H6 e6 s6 => ?_)
    · walk_at "ev"
      all_goals first | exact timM_pos sc | skip
    refine q_asg s6 (x := .int (moreM sc (numM q.1 q.2 (limM sc)) q.2)) ?_ (fun σ7 H7 e7 s7 => ?_)
    · refine ev_op (ev_var rfl) (ev_ifI (et_test (ev_op (ev_var rfl) ev_int op2_B0)) (fun _ => ev_op (ev_var rfl) (ev_op ev_int ev_int (op2_I ?_)) (op2_I cdiv_e20)) fun _ => ev_int) op2_I0
      show (0 : Int) ≤ _ ∧ _ ∧ _
      decide
    refine d_app (O1 := []) (O2 := []) s7 rfl (x := pr (itemM sc q)) (ev_tup (ea_cons (ev_op ev_int (ev_var rfl) op2_I0) (ea_cons (ev_op ev_int (ev_var rfl) op2_I0) ea_nil))) ?_ (fun H8 s8 => ⟨(foundM sc).take (i + 1), rfl, ?_⟩)
    · rw [hz, List.length_map, List.length_take]; omega
    · have e : (foundM sc)[i]? = some (itemM sc q) := by unfold foundM; rw [List.getElem?_map, hq]; rfl
      rw [take_one e, List.map_append, ← hz]
      exact s8.weak (.same (.same (.same (.same (.no (.no (.no (.no .nil))))))))
  · intro z σ' H' hz s4
    have hl : (foundM sc).length = (sc.take 63).zipIdx.length := by unfold foundM; rw [List.length_map]
    rw [← hl, List.take_length] at hz
    subst hz
    have s5 := Sg.freeze (O1 := []) (O2 := []) (i := 3) s4 rfl
    refine d_retL s5 (el_call (ea_cons (ev_var rfl) ea_nil) (show SPut _ _ from ⟨foundM sc, rfl, ?_, rfl⟩)) kq
    rw [hl, List.length_zipIdx, List.length_take]; omega
end
end Pw

set_option Elab.async false
set_option linter.all false
set_option maxRecDepth 100000
set_option maxHeartbeats 2000000
set_option autoImplicit false
namespace Pw
open PySem PySem.Spec PyProof.Rows L2
open Evl (Ex)
open Pw in
local macro_rules | `(tactic| walk_at "ev") => `(tactic| first
  | with_reducible exact ev_int
  | with_reducible exact ev_bl
  | with_reducible exact ev_non
  | exact ev_var rfl
  | exact ea_nil
  | with_reducible exact eo_none
  | with_reducible exact et_yes
  | ((refine' ea_cons ?_ ?_) <;> walk_at "ev")
  | ((with_reducible refine' et_test ?_) <;> walk_at "ev")
  | ((with_reducible refine' et_B ?_) <;> walk_at "ev")
  | ((with_reducible refine' et_not ?_) <;> walk_at "ev")
  | ((with_reducible refine' et_and ?_ (fun h_and => ?_)) <;> walk_at "ev")
  | ((with_reducible refine' et_or ?_ (fun h_or => ?_)) <;> walk_at "ev")
  | ((with_reducible refine' ev_andV ?_ (fun h_and => ?_)) <;> walk_at "ev")
  | ((with_reducible refine' ev_orV ?_ (fun h_or => ?_)) <;> walk_at "ev")
  | ((with_reducible refine' ev_notV ?_) <;> walk_at "ev")
  | ((with_reducible refine' ev_ifI ?_ (fun h_if => ?_) (fun h_if => ?_)) <;> walk_at "ev")
  | ((with_reducible refine' ev_un ?_ op1_neg) <;> walk_at "ev")
  | ((with_reducible refine' (el_cat ?_ ?_ ?_).ev) <;> walk_at "ev")
  | ((with_reducible refine' el_cat ?_ ?_ ?_) <;> walk_at "ev")
  | ((with_reducible refine' ev_op ?_ ?_ ?_) <;> walk_at "ev")
  | ((with_reducible refine' ev_tup ?_ ?_) <;> walk_at "ev")
  | ((with_reducible refine' (el_lst ?_ ?_).ev) <;> walk_at "ev")
  | ((with_reducible refine' el_lst ?_ ?_) <;> walk_at "ev")
  | ((with_reducible refine' (el_sl ?_ ?_ ?_).ev) <;> walk_at "ev")
  | ((with_reducible refine' el_sl ?_ ?_ ?_) <;> walk_at "ev")
  | ((with_reducible refine' (el_rev ?_).ev) <;> walk_at "ev")
  | ((with_reducible refine' el_rev ?_) <;> walk_at "ev")
  | ((with_reducible refine' eo_some ?_) <;> walk_at "ev")
  | ((with_reducible refine' (el_list ?_).ev) <;> walk_at "ev")
  | ((with_reducible refine' el_list ?_) <;> walk_at "ev")
  | ((with_reducible refine' ev_call ?_ ?_) <;> walk_at "ev")
  | ((with_reducible refine' (el_call ?_ ?_).ev) <;> walk_at "ev")
  | ((with_reducible refine' el_call ?_ ?_) <;> walk_at "ev")
  | ((with_reducible refine' (el_sortedD ?_).ev) <;> walk_at "ev")
  | ((with_reducible refine' el_sortedD ?_) <;> walk_at "ev")
  | ((with_reducible refine' (el_sortedDR ?_).ev) <;> walk_at "ev")
  | ((with_reducible refine' el_sortedDR ?_) <;> walk_at "ev")
  | ((with_reducible refine' ev_dgetD ?_ ?_ ?_) <;> walk_at "ev")
  | ((with_reducible refine' ev_cb ?_ ?_) <;> walk_at "ev")
  | with_reducible exact op2_I0
  | with_reducible exact op2_B0
  | with_reducible exact op2_eqI
  | with_reducible exact op2_neI
  | with_reducible exact op2_eqB
  | with_reducible exact op2_neB
  | with_reducible exact op2_isB
  | with_reducible exact op2_isNB
  | with_reducible exact op2_inT
  | with_reducible exact op2_inL
  | (with_reducible refine' op2_eqD ?_ ?_)
  | (with_reducible refine' op2_neD ?_ ?_)
  | ((with_reducible refine' op2_I ?_) <;> walk_at "side")
  | (with_reducible refine' op2_ixL ?_)
  | (with_reducible refine' op2_ixT ?_)
  | (show List.length _ ≤ 100000; exact Nat.le_of_ble_eq_true rfl)
  | exact cb_len
  | exact cb_lenT
  | exact cb_minT
  | exact cb_abs
  | exact cb_max2
  | exact cb_min2
  | exact cb_intB
  | exact cb_sum
  | exact cb_any
  | exact cb_all
  | skip)
local macro_rules | `(tactic| walk_at "side") => `(tactic| first
  | exact Nat.le_of_ble_eq_true rfl
  | (with_reducible exact mulok_l (by decide))
  | (with_reducible exact mulok_r (by decide))
  | (show (0 : Int) < _; decide)
  | (show (0 : Int) < _; omega)
  | (show (0 : Int) ≤ _ ∧ _ ∧ _; decide)
  | skip)

section
variable {P : Program} {w : World} {K : PySem.W.Frag} {mg : Str → Option Value} {base : Heap}
/-! ### all sums of a number, parts one by one -/
abbrev dLL (rows : List (List Int)) : PyData := .list (rows.map dI)
def mnM (n m : Int) : Int := if m < n then m else n
def partM (n m : Int) (i : Nat) : Int := mnM n m + (i : Nat) * (-1)
def allF : Nat → Int → Int → List (List Int)
  | 0, _, _ => []
  | f + 1, n, m => if n = 0 then [[]] else (List.range (mnM n m).toNat).flatMap fun i => (allF f (n - partM n m i) (partM n m i)).map (partM n m i :: ·)
theorem allF_succ (f : Nat) (n m : Int) : allF (f + 1) n m = if n = 0 then [[]] else (List.range (mnM n m).toNat).flatMap fun i => (allF f (n - partM n m i) (partM n m i)).map (partM n m i :: ·) := rfl
theorem allF_len : ∀ (f : Nat) (n m : Int), 0 ≤ n → (allF f n m).length ≤ 2 ^ n.toNat
  | 0, n, m, _ => Nat.zero_le _
  | f + 1, n, m, h => by
    unfold allF
    split
    · exact Nat.one_le_two_pow
    · rename_i hn
      have hb : ∀ k : Nat, k ≤ (mnM n m).toNat → ((List.range k).flatMap fun i => (allF f (n - partM n m i) (partM n m i)).map (partM n m i :: ·)).length + 2 ^ (n - mnM n m).toNat ≤ 2 ^ ((n - mnM n m).toNat + k) := by
        intro k
        induction k with
        | zero => intro _; simp
        | succ k ih =>
          intro hk
          have hmn : mnM n m ≤ n := by unfold mnM; split <;> omega
          rw [List.range_succ, List.flatMap_append, List.length_append]
          have h1 := ih (by omega)
          have h2 : (([k] : List Nat).flatMap fun i => (allF f (n - partM n m i) (partM n m i)).map (partM n m i :: ·)).length ≤ 2 ^ ((n - mnM n m).toNat + k) := by
            rw [List.flatMap_cons, List.flatMap_nil, List.append_nil, List.length_map]
            have h3 := allF_len f (n - partM n m k) (partM n m k) (by unfold partM; omega)
            have e : (n - partM n m k).toNat = (n - mnM n m).toNat + k := by unfold partM; omega
            rw [e] at h3
            exact h3
          rw [← Nat.add_assoc, Nat.pow_succ]
          omega
      have h1 := hb _ (Nat.le_refl _)
      have hmn : mnM n m ≤ n := by unfold mnM; split <;> omega
      by_cases h0 : 0 ≤ mnM n m
      · have e : (n - mnM n m).toNat + (mnM n m).toNat = n.toNat := by omega
        rw [e] at h1
        exact Nat.le_trans (Nat.le_add_right _ _) h1
      · have e : (mnM n m).toNat = 0 := by omega
        rw [e]
        simp
theorem allF_row : ∀ (f : Nat) (n m : Int), 0 ≤ n → ∀ r ∈ allF f n m, r.length ≤ n.toNat
  | 0, n, m, _, r, h => by cases h
  | f + 1, n, m, hn, r, h => by
    unfold allF at h
    split at h
    · rw [List.mem_singleton] at h
      subst h
      exact Nat.zero_le _
    · obtain ⟨i, hi, h⟩ := List.mem_flatMap.mp h
      obtain ⟨r', hr', rfl⟩ := List.mem_map.mp h
      have hi' := List.mem_range.mp hi
      have hmn : mnM n m ≤ n := by unfold mnM; split <;> omega
      have hp : 1 ≤ partM n m i ∧ partM n m i ≤ n := by unfold partM; omega
      have ih := allF_row f (n - partM n m i) (partM n m i) (by omega) r' hr'
      rw [List.length_cons]
      omega
def SAll (f : Nat) (ds : List PyData) (y : PyData) : Prop := ∃ n m : Int, ds = [.int n, .int m] ∧ 0 ≤ n ∧ n < f ∧ n ≤ 14 ∧ -1000 ≤ m ∧ m ≤ 1000 ∧ y = dLL (allF f n m)
end
end Pw

set_option Elab.async false
set_option linter.all false
set_option maxRecDepth 100000
set_option maxHeartbeats 2000000
set_option autoImplicit false
namespace Pw
open PySem PySem.Spec PyProof.Rows L2
open Evl (Ex)
open Pw in
local macro_rules | `(tactic| walk_at "ev") => `(tactic| first
  | with_reducible exact ev_int
  | with_reducible exact ev_bl
  | with_reducible exact ev_non
  | exact ev_var rfl
  | exact ea_nil
  | with_reducible exact eo_none
  | with_reducible exact et_yes
  | ((refine' ea_cons ?_ ?_) <;> walk_at "ev")
  | ((with_reducible refine' et_test ?_) <;> walk_at "ev")
  | ((with_reducible refine' et_B ?_) <;> walk_at "ev")
  | ((with_reducible refine' et_not ?_) <;> walk_at "ev")
  | ((with_reducible refine' et_and ?_ (fun h_and => ?_)) <;> walk_at "ev")
  | ((with_reducible refine' et_or ?_ (fun h_or => ?_)) <;> walk_at "ev")
  | ((with_reducible refine' ev_andV ?_ (fun h_and => ?_)) <;> walk_at "ev")
  | ((with_reducible refine' ev_orV ?_ (fun h_or => ?_)) <;> walk_at "ev")
  | ((with_reducible refine' ev_notV ?_) <;> walk_at "ev")
  | ((with_reducible refine' ev_ifI ?_ (fun h_if => ?_) (fun h_if => ?_)) <;> walk_at "ev")
  | ((with_reducible refine' ev_un ?_ op1_neg) <;> walk_at "ev")
  | ((with_reducible refine' (el_cat ?_ ?_ ?_).ev) <;> walk_at "ev")
  | ((with_reducible refine' el_cat ?_ ?_ ?_) <;> walk_at "ev")
  | ((with_reducible refine' ev_op ?_ ?_ ?_) <;> walk_at "ev")
  | ((with_reducible refine' ev_tup ?_ ?_) <;> walk_at "ev")
  | ((with_reducible refine' (el_lst ?_ ?_).ev) <;> walk_at "ev")
  | ((with_reducible refine' el_lst ?_ ?_) <;> walk_at "ev")
  | ((with_reducible refine' (el_sl ?_ ?_ ?_).ev) <;> walk_at "ev")
  | ((with_reducible refine' el_sl ?_ ?_ ?_) <;> walk_at "ev")
  | ((with_reducible refine' (el_rev ?_).ev) <;> walk_at "ev")
  | ((with_reducible refine' el_rev ?_) <;> walk_at "ev")
  | ((with_reducible refine' eo_some ?_) <;> walk_at "ev")
  | ((with_reducible refine' (el_list ?_).ev) <;> walk_at "ev")
  | ((with_reducible refine' el_list ?_) <;> walk_at "ev")
  | ((with_reducible refine' ev_call ?_ ?_) <;> walk_at "ev")
  | ((with_reducible refine' (el_call ?_ ?_).ev) <;> walk_at "ev")
  | ((with_reducible refine' el_call ?_ ?_) <;> walk_at "ev")
  | ((with_reducible refine' (el_sortedD ?_).ev) <;> walk_at "ev")
  | ((with_reducible refine' el_sortedD ?_) <;> walk_at "ev")
  | ((with_reducible refine' (el_sortedDR ?_).ev) <;> walk_at "ev")
  | ((with_reducible refine' el_sortedDR ?_) <;> walk_at "ev")
  | ((with_reducible refine' ev_dgetD ?_ ?_ ?_) <;> walk_at "ev")
  | ((with_reducible refine' ev_cb ?_ ?_) <;> walk_at "ev")
  | with_reducible exact op2_I0
  | with_reducible exact op2_B0
  | with_reducible exact op2_eqI
  | with_reducible exact op2_neI
  | with_reducible exact op2_eqB
  | with_reducible exact op2_neB
  | with_reducible exact op2_isB
  | with_reducible exact op2_isNB
  | with_reducible exact op2_inT
  | with_reducible exact op2_inL
  | (with_reducible refine' op2_eqD ?_ ?_)
  | (with_reducible refine' op2_neD ?_ ?_)
  | ((with_reducible refine' op2_I ?_) <;> walk_at "side")
  | (with_reducible refine' op2_ixL ?_)
  | (with_reducible refine' op2_ixT ?_)
  | (show List.length _ ≤ 100000; exact Nat.le_of_ble_eq_true rfl)
  | exact cb_len
  | exact cb_lenT
  | exact cb_minT
  | exact cb_abs
  | exact cb_max2
  | exact cb_min2
  | exact cb_intB
  | exact cb_sum
  | exact cb_any
  | exact cb_all
  | skip)
local macro_rules | `(tactic| walk_at "side") => `(tactic| first
  | exact Nat.le_of_ble_eq_true rfl
  | (with_reducible exact mulok_l (by decide))
  | (with_reducible exact mulok_r (by decide))
  | (show (0 : Int) < _; decide)
  | (show (0 : Int) < _; omega)
  | (show (0 : Int) ≤ _ ∧ _ ∧ _; decide)
  | skip)

section
variable {P : Program} {w : World} {K : PySem.W.Frag} {mg : Str → Option Value} {base : Heap}
/-! ### sums led, and led back -/
def digs : Nat → Int → Int → Int → List (Int × Int)
  | 0, _, _, _ => []
  | f + 1, b, p, t => if 0 < t then (p, t % b) :: digs f b (p * b) (t / b) else []
def digsM (b : Int) (q : Int × Int) : List (Int × Int) := digs (q.2.toNat + 1) b q.1 q.2
def putd (d : List (Int × Int)) (e : Int × Int) : List (Int × Int) := dput d e.1 e.2
def spreadD (b : Int) (ps : List (Int × Int)) : List (Int × Int) := (ps.flatMap (digsM b)).foldl putd []
def spreadM (b : Int) (ps : List (Int × Int)) : List (Int × Int) := inOrdM (spreadD b ps)
theorem digs_fuel (b : Int) (hb : 2 ≤ b) : ∀ (f g : Nat) (p t : Int), t < f → t < g → digs f b p t = digs g b p t
  | 0, 0, _, _, _, _ => rfl
  | 0, g + 1, p, t, h, _ => by
    unfold digs
    rw [if_neg (by omega)]
  | f + 1, 0, p, t, _, h => by
    unfold digs
    rw [if_neg (by omega)]
  | f + 1, g + 1, p, t, h1, h2 => by
    unfold digs
    by_cases ht : 0 < t
    · have hlt : t / b < t := Int.ediv_lt_self_of_pos_of_ne_one ht (by omega)
      rw [if_pos ht, if_pos ht, digs_fuel b hb f g (p * b) (t / b) (by omega) (by omega)]
    · rw [if_neg ht, if_neg ht]
theorem digs_len (b : Int) (hb : 2 ≤ b) : ∀ (n f : Nat) (p t : Int), t < 2 ^ n → (digs f b p t).length ≤ n
  | n, 0, p, t, _ => Nat.zero_le _
  | 0, f + 1, p, t, h => by
    unfold digs
    rw [if_neg (by omega)]
    exact Nat.le_refl _
  | n + 1, f + 1, p, t, h => by
    unfold digs
    split
    · rename_i ht
      have h2 : t / b < 2 ^ n := by
        have e : (2 : Int) ^ (n + 1) = 2 ^ n * 2 := Int.pow_succ ..
        refine Int.ediv_lt_of_lt_mul (by omega) ?_
        have hp : (0 : Int) < 2 ^ n := Int.pow_pos (by decide)
        have : (2 : Int) ^ n * 2 ≤ 2 ^ n * b := Int.mul_le_mul_of_nonneg_left hb (by omega)
        omega
      exact Nat.succ_le_succ (digs_len b hb n f _ _ h2)
    · exact Nat.zero_le _
theorem foldput_len : ∀ (l d : List (Int × Int)), (l.foldl putd d).length ≤ d.length + l.length
  | [], d => by simp
  | e :: l, d => by
    have h := foldput_len l (putd d e)
    have h2 := dput_len d e.1 e.2
    rw [List.foldl_cons, List.length_cons]
    have : (putd d e).length ≤ d.length + 1 := h2
    omega
def SSpread (ds : List PyData) (ys : List PyData) : Prop := ∃ (ps : List (Int × Int)) (b : Int), ds = [dP ps, .int b] ∧ ps.length ≤ 70 ∧ sumB ps = true ∧ (∀ p ∈ ps, p.1 < 2 ^ 200 ∧ p.2 < 2 ^ 400) ∧ 2 ≤ b ∧ b < 2 ^ 200 ∧ (∀ p ∈ ps, p.1 % b ≠ 0) ∧ ys = (spreadM b ps).map pr
theorem sum_pos {ps : List (Int × Int)} (h : sumB ps = true) : ∀ p ∈ ps, 0 < p.1 ∧ 0 < p.2 := fun p hp => by
  unfold sumB at h
  rw [Bool.and_eq_true] at h
  have h1 := List.all_eq_true.mp h.1 p hp
  rw [Bool.and_eq_true] at h1
  exact ⟨of_decide_eq_true h1.1, of_decide_eq_true h1.2⟩
theorem flat_take {ps : List (Int × Int)} {g : Int × Int → List (Int × Int)} {i : Nat} {q : Int × Int} (h : ps[i]? = some q) : (ps.take (i + 1)).flatMap g = (ps.take i).flatMap g ++ g q := by
  rw [take_one h, List.flatMap_append, List.flatMap_cons, List.flatMap_nil, List.append_nil]
theorem flat_len {ps : List (Int × Int)} {g : Int × Int → List (Int × Int)} {n : Nat} (h : ∀ p ∈ ps, (g p).length ≤ n) : (ps.flatMap g).length ≤ ps.length * n := by
  induction ps with
  | nil => simp
  | cons p ps ih =>
    rw [List.flatMap_cons, List.length_append, List.length_cons, Nat.succ_mul]
    have h1 := h p List.mem_cons_self
    have h2 := ih fun q hq => h q (List.mem_cons_of_mem _ hq)
    omega
theorem nab_lt {a : Int} {n : Nat} (h0 : 0 ≤ a) (h : a < 2 ^ n) : a.natAbs < 2 ^ n := by
  have e : (a.natAbs : Int) = a := Int.natAbs_of_nonneg h0
  have h1 : ((a.natAbs : Nat) : Int) < ((2 ^ n : Nat) : Int) := by
    rw [e, Int.natCast_pow]
    exact h
  exact Int.ofNat_lt.mp h1
theorem sc_spread : FnScope ["parts", "by", "counts", "part", "times"] ["parts", "by"] (defScope s_spread) := ⟨rfl, rfl, rfl, by decide +kernel, rfl, by decide +kernel, by decide +kernel⟩
theorem ok_spread (D : Df K mg "spread" s_spread) (T : Bn mg) (c_check_sum : Cal P w K mg base 4 "check_sum" (SpR K SCheck)) (c_check_by : Cal P w K mg base 2 "check_by" (SpR K SBy)) (c_in_order : Cal P w K mg base 1 "in_order" (SpL K SInOrd)) : Cal P w K mg base 5 "spread" (SpL K SSpread) := by
  refine calL D sc_spread (fun _ _ _ _ _ _ us hl => match us, hl with | [_, _], _ => rfl) (by decide) (fun ds y ⟨_, _, h, _⟩ => by rw [h]; rfl) (fun f cdv A outer s H σ E ds ys X hr h s0 => ?_)
  obtain ⟨ps, b, rfl, hl, hsum, hsz, hb, hb2, hnd, rfl⟩ := h
  -- 0 parts, 1 by, 2 counts, 3 part, 4 times
  have hpos := sum_pos hsum
  replace s0 : Sg K E σ H [.d (dP ps), .d (.int b), .no, .no, .no] [] := s0
  refine ⟨_, (pss_cons (ps_expr (pe_c c_check_sum hr (by first | decide | omega) (by rfl) (pa_cons (pv 0) pa_nil)))
    (pss_cons (ps_expr (pe_c c_check_by hr (by first | decide | omega) (by rfl) (pa_cons (pv 1) pa_nil)))
    (pss_cons (ps_if (pt_val (pe_callB (r := rAny K) (cr_any rfl) (by rfl) T.any_ (by decide +kernel) (pa_cons (pe_lc (own := [("part", 3), ("times", 4)]) (g := (gTup K 2 (gCons (gName 3) (gCons (gName 4) gNil)))) (tt := tYes) rfl sc_spread.nd (pi_listK (K := K) rfl (pv 0)) (blkOk_by (own := [("part", 3), ("times", 4)]) (N := ["parts", "by", "counts", "part", "times"]) (sc := defScope s_spread) (by decide +kernel)) (fun _ _ _ _ _ => (pg_tup (n := 2) rfl (pgs_cons (pg_name (i := 3) sc_spread.nd rfl (by first | exact Or.inl rfl | exact Or.inr rfl)) (pgs_cons (pg_name (i := 4) sc_spread.nd rfl (by first | exact Or.inl rfl | exact Or.inr rfl)) pgs_nil)))) (fun _ _ _ _ _ => pts_nil) (fun _ _ _ _ _ => (pe_cmpR op_eq (pe_op op_mod (pv 3) (pv 1)) pe_int (nomark _)))) pa_nil)))
      (pss_one ps_never)
      pss_nil)
    (pss_cons (ps_set (i := 2) sc_spread.nd rfl (Or.inl rfl) pe_dnewK)
    (pss_cons (ps_for PassesOwn.never rfl (pi_listK (K := K) rfl (pv 0)) (pg_tup (n := 2) rfl (pgs_cons (pg_name (i := 3) sc_spread.nd rfl (Or.inl rfl)) (pgs_cons (pg_name (i := 4) sc_spread.nd rfl (Or.inl rfl)) pgs_nil)))
      (pss_one (ps_while PassesOwn.never (pt_cmpR op_gt (pv 4) pe_int (nomark _))
        (pss_cons (ps_dput (hu_of hr) (pv 2) (pv 3) (pe_op op_mod (pv 4) (pv 1)) rfl)
        (pss_cons (ps_aug (i := 3) sc_spread.nd rfl (Or.inl rfl) (pv 1) ip_mulA)
        (pss_one (ps_set (i := 4) sc_spread.nd rfl (Or.inl rfl) (pe_op op_fdivW (pv 4) (pv 1)))))))))
    (pss_one (ps_ret (pe_c c_in_order hr (by first | decide | omega) (by rfl) (pa_cons (pv 2) pa_nil))))))))), fun Q kq => ?_⟩
  try dsimp only [cxOf, Cx.nox]
  refine q_drop s0 (ev_call (ea_cons (ev_var rfl) ea_nil) (show SCheck _ _ from ⟨ps, rfl, by omega, hsum, rfl⟩)) (fun H1 e1 s1 => ?_)
  refine q_drop s1 (ev_call (ea_cons (ev_var rfl) ea_nil) (show SBy _ _ from ⟨b, rfl, hb, rfl⟩)) (fun H2 e2 s2 => ?_)
  refine q_when s2 (b := false) (et_is (et_B (ev_cb (ea_cons (el_is (el_lc0 ps pr (fun p => .bool (decide (p.1 % b = 0))) (fun p => [.d (dP ps), .d (.int b), .no, .d (.int p.1), .d (.int p.2)]) (src_list (ev_var rfl)) (by omega) ?_ ?_) ?_).ev ea_nil) (cb_any (bs := ps.map fun p => decide (p.1 % b = 0))))) ?_) (fun z => nomatch z) (fun _ H3 e3 s3 => ?_)
  · intro a ha; exact ⟨_, tg_tup2 (tg_name (Nat.le_of_ble_eq_true rfl)) (tg_name (Nat.le_of_ble_eq_true rfl)), by decide⟩
  · intro p hp; exact ev_op (ev_op (ev_var rfl) (ev_var rfl) (op2_I (show (0 : Int) < b by omega))) ev_int op2_eqI
  · rw [List.map_map]; rfl
  · rw [List.any_map]
    refine List.any_eq_false.mpr fun p hp => ?_
    have := hnd p hp
    simpa using this
  refine q_dnew s3 (fun σ4 H4 a e4 s4 => ?_)
  have hdl : ∀ p ∈ ps, (digsM b p).length ≤ 400 := fun p hp => digs_len b hb 400 _ _ _ (hsz p hp).2
  refine q_for ps pr (fun i z => z = ((ps.take i).flatMap (digsM b)).foldl putd []) (fun _ => [.d (dP ps), .d (.int b), .o a, .no, .no]) (fun z => [(a, .dct z)]) (fun q _ => [.d (dP ps), .d (.int b), .o a, .d (.int q.1), .d (.int q.2)]) [] (src_list (ev_var rfl)) s4 rfl ?_ ?_ ?_
  · intro i q z hq hz
    exact ⟨_, tg_tup2 (tg_name (Nat.le_of_ble_eq_true rfl)) (tg_name (Nat.le_of_ble_eq_true rfl))⟩
  · intro B i q z σ' H' hq hz s5
    have hi : i < ps.length := (List.getElem?_eq_some_iff.mp hq).1
    have hm : q ∈ ps := List.mem_of_getElem? hq
    have hzl : z.length ≤ 28000 := by
      rw [hz]
      have h1 := foldput_len ((ps.take i).flatMap (digsM b)) []
      have h2 := flat_len (ps := ps.take i) (g := digsM b) (n := 400) fun p hp => hdl p (List.mem_of_mem_take hp)
      rw [List.length_take] at h2
      have h3 : min i ps.length * 400 ≤ 70 * 400 := Nat.mul_le_mul_right _ (by omega)
      simp only [List.length_nil] at h1
      omega
    have hM : q.1 * q.2 < 2 ^ 600 := by
      have h1 := hsz q hm
      have h2 := hpos q hm
      have : q.1 * q.2 < 2 ^ 200 * 2 ^ 400 := Int.mul_lt_mul h1.1 (by omega) h2.2 (by exact Int.le_of_lt (Int.pow_pos (by decide)))
      rw [← Int.pow_add] at this
      exact this
    refine d_while (fun (z' : Int × Int × List (Int × Int)) => (digs (z'.2.1.toNat + 1) b z'.1 z'.2.1).foldl putd z'.2.2 = ((ps.take (i + 1)).flatMap (digsM b)).foldl putd [] ∧ 0 < z'.1 ∧ 0 ≤ z'.2.1 ∧ z'.1 * z'.2.1 ≤ q.1 * q.2 ∧ z'.2.2.length + (digs (z'.2.1.toNat + 1) b z'.1 z'.2.1).length ≤ 28400) (fun z' => z'.2.1.toNat) (fun z' => [.d (dP ps), .d (.int b), .o a, .d (.int z'.1), .d (.int z'.2.1)]) (fun z' => [(a, .dct z'.2.2)]) (q.1, q.2, z) s5 ?_ (fun z' => decide (0 < z'.2.1)) ?_ ?_ ?_
    · refine ⟨?_, (hpos q hm).1, Int.le_of_lt (hpos q hm).2, Int.le_refl _, ?_⟩
      · rw [flat_take hq, List.foldl_append, ← hz]; rfl
      · have := hdl q hm
        show z.length + (digsM b q).length ≤ 28400
        omega
    · intro z' hz'
      exact et_test (ev_op (ev_var rfl) ev_int op2_B0)
    · rintro ⟨p, t, d⟩ σ6 H6 ⟨h1, h2, h3, h4, h5⟩ hc s6
      have ht : 0 < t := of_decide_eq_true hc
      have hp : p < 2 ^ 600 := by
        have : p * 1 ≤ p * t := Int.mul_le_mul_of_nonneg_left (by omega) (by omega)
        simp only at h4
        omega
      have hstep : digs (t.toNat + 1) b p t = (p, t % b) :: digs ((t / b).toNat + 1) b (p * b) (t / b) := by
        have hlt : t / b < t := Int.ediv_lt_self_of_pos_of_ne_one ht (by omega)
        have hge : 0 ≤ t / b := Int.ediv_nonneg (by omega) (by omega)
        have e : digs (t.toNat + 1) b p t = (p, t % b) :: digs t.toNat b (p * b) (t / b) := by
          show (if 0 < t then _ else _) = _
          rw [if_pos ht]
        rw [e, digs_fuel b hb t.toNat ((t / b).toNat + 1) (p * b) (t / b) (by omega) (by omega)]
      replace s6 : Sg K { E with low := B } σ6 H6 [.d (dP ps), .d (.int b), .o a, .d (.int p), .d (.int t)] ([] ++ (a, .dct d) :: []) := s6
      refine q_dput s6 rfl (ev_var rfl) (ev_op (ev_var rfl) (ev_var rfl) (op2_I (show (0 : Int) < b by omega))) (by simp only at h5; omega) (fun H7 s7 => ?_)
      refine q_augM s7 rfl (ev_var rfl) (mulok_b (a := 600) (b := 200) (nab_lt (by omega) hp) (nab_lt (by omega) hb2) (by decide)) (fun σ8 H8 e8 s8 => ?_)
      refine d_asg s8 (ev_op (ev_var rfl) (ev_var rfl) (op2_I (wide_div (show (0 : Int) < b by omega) (nab_lt (by omega) hb2) (by decide) (by decide)))) (fun σ9 H9 e9 s9 => ⟨(p * b, t / b, dput d p (t % b)), ?_, ⟨?_, ?_, ?_, ?_, ?_⟩, s9⟩)
      · have hlt : t / b < t := Int.ediv_lt_self_of_pos_of_ne_one ht (by omega)
        show (t / b).toNat < t.toNat
        omega
      · simp only at h1
        rw [hstep] at h1
        exact h1
      · exact Int.mul_pos h2 (by omega)
      · exact Int.ediv_nonneg (by omega) (by omega)
      · simp only at h4 ⊢
        rw [Int.mul_assoc]
        have : b * (t / b) ≤ t := Int.mul_ediv_self_le (by omega)
        have : p * (b * (t / b)) ≤ p * t := Int.mul_le_mul_of_nonneg_left this (by simp only at h2; omega)
        omega
      · simp only at h5 ⊢
        rw [hstep, List.length_cons] at h5
        have := dput_len d p (t % b)
        omega
    · rintro ⟨p, t, d⟩ σ6 H6 ⟨h1, h2, h3, h4, h5⟩ hc s6
      have ht : ¬ 0 < t := of_decide_eq_false hc
      refine ⟨d, ?_, s6.weak (.same (.same (.same (.no (.no .nil)))))⟩
      have e : digs (t.toNat + 1) b p t = [] := by
        show (if 0 < t then _ else _) = _
        rw [if_neg ht]
      simp only at h1
      rw [e] at h1
      exact h1
  · intro z σ' H' hz s5
    rw [List.take_length] at hz
    subst hz
    have s6 := Sg.freeze (O1 := []) (O2 := []) (i := 2) s5 rfl
    refine d_retL s6 (el_call (ea_cons (ev_var rfl) ea_nil) (show SInOrd _ _ from ⟨spreadD b ps, rfl, ?_, rfl⟩)) kq
    have h1 := foldput_len (ps.flatMap (digsM b)) []
    have h2 := flat_len (ps := ps) (g := digsM b) (n := 400) hdl
    have h3 : ps.length * 400 ≤ 70 * 400 := Nat.mul_le_mul_right _ (by omega)
    simp only [List.length_nil] at h1
    unfold spreadD
    omega
end
end Pw

set_option Elab.async false
set_option linter.all false
set_option maxRecDepth 100000
set_option maxHeartbeats 2000000
set_option autoImplicit false
namespace Pw
open PySem PySem.Spec PyProof.Rows L2
open Evl (Ex)
open Pw in
local macro_rules | `(tactic| walk_at "ev") => `(tactic| first
  | with_reducible exact ev_int
  | with_reducible exact ev_bl
  | with_reducible exact ev_non
  | exact ev_var rfl
  | exact ea_nil
  | with_reducible exact eo_none
  | with_reducible exact et_yes
  | ((refine' ea_cons ?_ ?_) <;> walk_at "ev")
  | ((with_reducible refine' et_test ?_) <;> walk_at "ev")
  | ((with_reducible refine' et_B ?_) <;> walk_at "ev")
  | ((with_reducible refine' et_not ?_) <;> walk_at "ev")
  | ((with_reducible refine' et_and ?_ (fun h_and => ?_)) <;> walk_at "ev")
  | ((with_reducible refine' et_or ?_ (fun h_or => ?_)) <;> walk_at "ev")
  | ((with_reducible refine' ev_andV ?_ (fun h_and => ?_)) <;> walk_at "ev")
  | ((with_reducible refine' ev_orV ?_ (fun h_or => ?_)) <;> walk_at "ev")
  | ((with_reducible refine' ev_notV ?_) <;> walk_at "ev")
  | ((with_reducible refine' ev_ifI ?_ (fun h_if => ?_) (fun h_if => ?_)) <;> walk_at "ev")
  | ((with_reducible refine' ev_un ?_ op1_neg) <;> walk_at "ev")
  | ((with_reducible refine' (el_cat ?_ ?_ ?_).ev) <;> walk_at "ev")
  | ((with_reducible refine' el_cat ?_ ?_ ?_) <;> walk_at "ev")
  | ((with_reducible refine' ev_op ?_ ?_ ?_) <;> walk_at "ev")
  | ((with_reducible refine' ev_tup ?_ ?_) <;> walk_at "ev")
  | ((with_reducible refine' (el_lst ?_ ?_).ev) <;> walk_at "ev")
  | ((with_reducible refine' el_lst ?_ ?_) <;> walk_at "ev")
  | ((with_reducible refine' (el_sl ?_ ?_ ?_).ev) <;> walk_at "ev")
  | ((with_reducible refine' el_sl ?_ ?_ ?_) <;> walk_at "ev")
  | ((with_reducible refine' (el_rev ?_).ev) <;> walk_at "ev")
  | ((with_reducible refine' el_rev ?_) <;> walk_at "ev")
  | ((with_reducible refine' eo_some ?_) <;> walk_at "ev")
  | ((with_reducible refine' (el_list ?_).ev) <;> walk_at "ev")
  | ((with_reducible refine' el_list ?_) <;> walk_at "ev")
  | ((with_reducible refine' ev_call ?_ ?_) <;> walk_at "ev")
  | ((with_reducible refine' (el_call ?_ ?_).ev) <;> walk_at "ev")
  | ((with_reducible refine' el_call ?_ ?_) <;> walk_at "ev")
  | ((with_reducible refine' (el_sortedD ?_).ev) <;> walk_at "ev")
  | ((with_reducible refine' el_sortedD ?_) <;> walk_at "ev")
  | ((with_reducible refine' (el_sortedDR ?_).ev) <;> walk_at "ev")
  | ((with_reducible refine' el_sortedDR ?_) <;> walk_at "ev")
  | ((with_reducible refine' ev_dgetD ?_ ?_ ?_) <;> walk_at "ev")
  | ((with_reducible refine' ev_cb ?_ ?_) <;> walk_at "ev")
  | with_reducible exact op2_I0
  | with_reducible exact op2_B0
  | with_reducible exact op2_eqI
  | with_reducible exact op2_neI
  | with_reducible exact op2_eqB
  | with_reducible exact op2_neB
  | with_reducible exact op2_isB
  | with_reducible exact op2_isNB
  | with_reducible exact op2_inT
  | with_reducible exact op2_inL
  | (with_reducible refine' op2_eqD ?_ ?_)
  | (with_reducible refine' op2_neD ?_ ?_)
  | ((with_reducible refine' op2_I ?_) <;> walk_at "side")
  | (with_reducible refine' op2_ixL ?_)
  | (with_reducible refine' op2_ixT ?_)
  | (show List.length _ ≤ 100000; exact Nat.le_of_ble_eq_true rfl)
  | exact cb_len
  | exact cb_lenT
  | exact cb_minT
  | exact cb_abs
  | exact cb_max2
  | exact cb_min2
  | exact cb_intB
  | exact cb_sum
  | exact cb_any
  | exact cb_all
  | skip)
local macro_rules | `(tactic| walk_at "side") => `(tactic| first
  | exact Nat.le_of_ble_eq_true rfl
  | (with_reducible exact mulok_l (by decide))
  | (with_reducible exact mulok_r (by decide))
  | (show (0 : Int) < _; decide)
  | (show (0 : Int) < _; omega)
  | (show (0 : Int) ≤ _ ∧ _ ∧ _; decide)
  | skip)

section
variable {P : Program} {w : World} {K : PySem.W.Frag} {mg : Str → Option Value} {base : Heap}
def strip : Nat → Int → Int → Int → Int × Int
  | 0, _, p, t => (p, t)
  | f + 1, b, p, t => if p % b = 0 then strip f b (p / b) (t * b) else (p, t)
def stripM (b : Int) (q : Int × Int) : Int × Int := strip q.1.toNat b q.1 q.2
def gatherM (b : Int) (ps : List (Int × Int)) : List (Int × Int) := inOrdM (tal (ps.map (stripM b)))
theorem strip_fuel (b : Int) (hb : 2 ≤ b) : ∀ (f g : Nat) (p t : Int), 0 < p → p ≤ f → p ≤ g → strip f b p t = strip g b p t
  | 0, g, p, t, h0, h, _ => by omega
  | f + 1, 0, p, t, h0, _, h => by omega
  | f + 1, g + 1, p, t, h0, h1, h2 => by
    unfold strip
    by_cases ht : p % b = 0
    · have hlt : p / b < p := Int.ediv_lt_self_of_pos_of_ne_one h0 (by omega)
      have hpos : 0 < p / b := Int.ediv_pos_of_pos_of_dvd h0 (by omega) (Int.dvd_of_emod_eq_zero ht)
      rw [if_pos ht, if_pos ht, strip_fuel b hb f g (p / b) (t * b) hpos (by omega) (by omega)]
    · rw [if_neg ht, if_neg ht]
def SGather (ds : List PyData) (ys : List PyData) : Prop := ∃ (ps : List (Int × Int)) (b : Int), ds = [dP ps, .int b] ∧ ps.length ≤ 50000 ∧ sumB ps = true ∧ (∀ p ∈ ps, p.1 < 2 ^ 600 ∧ p.2 < b) ∧ 2 ≤ b ∧ b < 2 ^ 200 ∧ ys = (gatherM b ps).map pr
theorem sc_gathered : FnScope ["parts", "by", "counts", "part", "times"] ["parts", "by"] (defScope s_gathered) := ⟨rfl, rfl, rfl, by decide +kernel, rfl, by decide +kernel, by decide +kernel⟩
theorem ok_gathered (D : Df K mg "gathered" s_gathered) (T : Bn mg) (c_check_sum : Cal P w K mg base 4 "check_sum" (SpR K SCheck)) (c_check_by : Cal P w K mg base 2 "check_by" (SpR K SBy)) (c_in_order : Cal P w K mg base 1 "in_order" (SpL K SInOrd)) : Cal P w K mg base 5 "gathered" (SpL K SGather) := by
  refine calL D sc_gathered (fun _ _ _ _ _ _ us hl => match us, hl with | [_, _], _ => rfl) (by decide) (fun ds y ⟨_, _, h, _⟩ => by rw [h]; rfl) (fun f cdv A outer s H σ E ds ys X hr h s0 => ?_)
  obtain ⟨ps, b, rfl, hl, hsum, hsz, hb, hb2, rfl⟩ := h
  -- 0 parts, 1 by, 2 counts, 3 part, 4 times
  have hpos := sum_pos hsum
  replace s0 : Sg K E σ H [.d (dP ps), .d (.int b), .no, .no, .no] [] := s0
  refine ⟨_, (pss_cons (ps_expr (pe_c c_check_sum hr (by first | decide | omega) (by rfl) (pa_cons (pv 0) pa_nil)))
    (pss_cons (ps_expr (pe_c c_check_by hr (by first | decide | omega) (by rfl) (pa_cons (pv 1) pa_nil)))
    (pss_cons (ps_if (pt_val (pe_callB (r := rAny K) (cr_any rfl) (by rfl) T.any_ (by decide +kernel) (pa_cons (pe_lc (own := [("part", 3), ("times", 4)]) (g := (gTup K 2 (gCons (gName 3) (gCons (gName 4) gNil)))) (tt := tYes) rfl sc_gathered.nd (pi_listK (K := K) rfl (pv 0)) (blkOk_by (own := [("part", 3), ("times", 4)]) (N := ["parts", "by", "counts", "part", "times"]) (sc := defScope s_gathered) (by decide +kernel)) (fun _ _ _ _ _ => (pg_tup (n := 2) rfl (pgs_cons (pg_name (i := 3) sc_gathered.nd rfl (by first | exact Or.inl rfl | exact Or.inr rfl)) (pgs_cons (pg_name (i := 4) sc_gathered.nd rfl (by first | exact Or.inl rfl | exact Or.inr rfl)) pgs_nil)))) (fun _ _ _ _ _ => pts_nil) (fun _ _ _ _ _ => (pe_cmpR op_ge (pv 4) (pv 1) (nomark _)))) pa_nil)))
      (pss_one ps_never)
      pss_nil)
    (pss_cons (ps_set (i := 2) sc_gathered.nd rfl (Or.inl rfl) pe_dnewK)
    (pss_cons (ps_for PassesOwn.never rfl (pi_listK (K := K) rfl (pv 0)) (pg_tup (n := 2) rfl (pgs_cons (pg_name (i := 3) sc_gathered.nd rfl (Or.inl rfl)) (pgs_cons (pg_name (i := 4) sc_gathered.nd rfl (Or.inl rfl)) pgs_nil)))
      (pss_cons (ps_while PassesOwn.never (pt_cmpR op_eq (pe_op op_mod (pv 3) (pv 1)) pe_int (nomark _))
        (pss_cons (ps_set (i := 3) sc_gathered.nd rfl (Or.inl rfl) (pe_op op_fdivW (pv 3) (pv 1)))
        (pss_one (ps_aug (i := 4) sc_gathered.nd rfl (Or.inl rfl) (pv 1) ip_mulA))))
      (pss_one (ps_dput (hu_of hr) (pv 2) (pv 3) (pe_op op_add (pe_dget2 (hu_of hr) (pv 2) (pv 3) pe_int ⟨rfl, rfl, rfl, rfl⟩) (pv 4)) rfl))))
    (pss_one (ps_ret (pe_c c_in_order hr (by first | decide | omega) (by rfl) (pa_cons (pv 2) pa_nil))))))))), fun Q kq => ?_⟩
  try dsimp only [cxOf, Cx.nox]
  refine q_drop s0 (ev_call (ea_cons (ev_var rfl) ea_nil) (show SCheck _ _ from ⟨ps, rfl, by omega, hsum, rfl⟩)) (fun H1 e1 s1 => ?_)
  refine q_drop s1 (ev_call (ea_cons (ev_var rfl) ea_nil) (show SBy _ _ from ⟨b, rfl, hb, rfl⟩)) (fun H2 e2 s2 => ?_)
  refine q_when s2 (b := false) (et_is (et_B (ev_cb (ea_cons (el_is (el_lc0 ps pr (fun p => .bool (decide (b ≤ p.2))) (fun p => [.d (dP ps), .d (.int b), .no, .d (.int p.1), .d (.int p.2)]) (src_list (ev_var rfl)) (by omega) ?_ ?_) ?_).ev ea_nil) (cb_any (bs := ps.map fun p => decide (b ≤ p.2))))) ?_) (fun z => nomatch z) (fun _ H3 e3 s3 => ?_)
  · intro a ha; exact ⟨_, tg_tup2 (tg_name (Nat.le_of_ble_eq_true rfl)) (tg_name (Nat.le_of_ble_eq_true rfl)), by decide⟩
  · intro p hp; exact ev_op (ev_var rfl) (ev_var rfl) op2_B0
  · rw [List.map_map]; rfl
  · rw [List.any_map]
    refine List.any_eq_false.mpr fun p hp => ?_
    have := (hsz p hp).2
    simpa using this
  refine q_dnew s3 (fun σ4 H4 a e4 s4 => ?_)
  refine q_for ps pr (fun i z => z = tal ((ps.take i).map (stripM b))) (fun _ => [.d (dP ps), .d (.int b), .o a, .no, .no]) (fun z => [(a, .dct z)]) (fun q _ => [.d (dP ps), .d (.int b), .o a, .d (.int q.1), .d (.int q.2)]) [] (src_list (ev_var rfl)) s4 rfl ?_ ?_ ?_
  · intro i q z hq hz
    exact ⟨_, tg_tup2 (tg_name (Nat.le_of_ble_eq_true rfl)) (tg_name (Nat.le_of_ble_eq_true rfl))⟩
  · intro B i q z σ' H' hq hz s5
    have hi : i < ps.length := (List.getElem?_eq_some_iff.mp hq).1
    have hm : q ∈ ps := List.mem_of_getElem? hq
    have hzl : z.length ≤ i := by
      rw [hz]
      have h1 := tal_len ((ps.take i).map (stripM b)) ((ps.take i).map (stripM b)).length
      rw [List.take_length, List.length_map, List.length_take] at h1
      omega
    have h1 := hsz q hm
    have h2 := hpos q hm
    have hM : q.1 * q.2 < 2 ^ 800 := by
      have h3 : q.2 < 2 ^ 200 := by omega
      have : q.1 * q.2 < 2 ^ 600 * 2 ^ 200 := Int.mul_lt_mul h1.1 (by omega) h2.2 (by exact Int.le_of_lt (Int.pow_pos (by decide)))
      rw [← Int.pow_add] at this
      exact this
    refine q_while (fun (z' : Int × Int) => strip z'.1.toNat b z'.1 z'.2 = stripM b q ∧ 0 < z'.1 ∧ 0 < z'.2 ∧ z'.1 * z'.2 = q.1 * q.2) (fun z' => z'.1.toNat) (fun z' => [.d (dP ps), .d (.int b), .o a, .d (.int z'.1), .d (.int z'.2)]) (fun _ => [(a, .dct z)]) (q.1, q.2) s5 ⟨rfl, h2.1, h2.2, rfl⟩ (fun z' => decide (z'.1 % b = 0)) ?_ ?_ ?_
    · intro z' hz'
      exact et_test (ev_op (ev_op (ev_var rfl) (ev_var rfl) (op2_I (show (0 : Int) < b by omega))) ev_int op2_eqI)
    · rintro ⟨p, t⟩ σ6 H6 ⟨g1, g2, g3, g4⟩ hc s6
      have ht : p % b = 0 := of_decide_eq_true hc
      have hlt : p / b < p := Int.ediv_lt_self_of_pos_of_ne_one g2 (by omega)
      have hp0 : 0 < p / b := Int.ediv_pos_of_pos_of_dvd g2 (by omega) (Int.dvd_of_emod_eq_zero ht)
      have hdm : b * (p / b) = p := Int.mul_ediv_cancel' (Int.dvd_of_emod_eq_zero ht)
      have htM : t < 2 ^ 800 := by
        have : 1 * t ≤ p * t := Int.mul_le_mul_of_nonneg_right (by simp only at g2; omega) (by simp only at g3; omega)
        simp only at g4
        omega
      replace s6 : Sg K { E with low := B } σ6 H6 [.d (dP ps), .d (.int b), .o a, .d (.int p), .d (.int t)] [(a, .dct z)] := s6
      refine q_asg s6 (ev_op (ev_var rfl) (ev_var rfl) (op2_I (wide_div (show (0 : Int) < b by omega) (nab_lt (by omega) hb2) (by decide) (by decide)))) (fun σ7 H7 e7 s7 => ?_)
      refine d_augM s7 rfl (ev_var rfl) (mulok_b (a := 800) (b := 200) (nab_lt (by simp only at g3; omega) htM) (nab_lt (by omega) hb2) (by decide)) (fun σ8 H8 e8 s8 => ⟨(p / b, t * b), ?_, ⟨?_, hp0, Int.mul_pos g3 (by omega), ?_⟩, s8⟩)
      · show (p / b).toNat < p.toNat
        omega
      · simp only at g1 ⊢
        rw [← g1, strip_fuel b hb (p / b).toNat p.toNat (p / b) (t * b) hp0 (by omega) (by omega)]
        have e : p.toNat = (p.toNat - 1) + 1 := by simp only at g2; omega
        have e2 : strip p.toNat b p t = strip (p.toNat - 1) b (p / b) (t * b) := by
          rw [e]
          show (if p % b = 0 then _ else _) = _
          rw [if_pos ht]
          rfl
        rw [e2, strip_fuel b hb (p.toNat - 1) p.toNat (p / b) (t * b) hp0 (by omega) (by omega)]
      · simp only at g4 ⊢
        rw [← g4]
        have : p / b * (t * b) = (b * (p / b)) * t := by
          rw [Int.mul_comm t b, ← Int.mul_assoc, Int.mul_comm (p / b) b]
        rw [this, hdm]
    · rintro ⟨p, t⟩ σ6 H6 ⟨g1, g2, g3, g4⟩ hc s6
      have ht : ¬ p % b = 0 := of_decide_eq_false hc
      have e : stripM b q = (p, t) := by
        simp only at g1 g2
        rw [← g1]
        have e : p.toNat = (p.toNat - 1) + 1 := by omega
        rw [e]
        show (if p % b = 0 then _ else _) = _
        rw [if_neg ht]
      replace s6 : Sg K { E with low := B } σ6 H6 [.d (dP ps), .d (.int b), .o a, .d (.int p), .d (.int t)] ([] ++ (a, .dct z) :: []) := s6
      refine d_dput s6 rfl (ev_var rfl) (b := (dval z p).getD 0 + t) (ev_op (ev_dget2 rfl (by simp) (ev_var rfl) ev_int) (ev_var rfl) op2_I0) (by omega) (fun H7 s7 => ⟨tal ((ps.take (i + 1)).map (stripM b)), rfl, ?_⟩)
      have e2 : tal ((ps.take (i + 1)).map (stripM b)) = dput z p ((dval z p).getD 0 + t) := by
        rw [take_one hq, List.map_append]
        unfold tal
        rw [List.foldl_append]
        show tstep (tal ((ps.take i).map (stripM b))) (stripM b q) = _
        rw [← hz, e]
        rfl
      rw [e2]
      exact s7.weak (.same (.same (.same (.no (.no .nil)))))
  · intro z σ' H' hz s5
    rw [List.take_length] at hz
    subst hz
    have s6 := Sg.freeze (O1 := []) (O2 := []) (i := 2) s5 rfl
    refine d_retL s6 (el_call (ea_cons (ev_var rfl) ea_nil) (show SInOrd _ _ from ⟨_, rfl, ?_, rfl⟩)) kq
    have h1 := tal_len (ps.map (stripM b)) (ps.map (stripM b)).length
    rw [List.take_length, List.length_map] at h1
    omega
end
end Pw

set_option Elab.async false
set_option linter.all false
set_option maxRecDepth 100000
set_option maxHeartbeats 2000000
set_option autoImplicit false
namespace Pw
/-! ### counting: plain facts -/
def cnt : List (Int × Int) → Int → Int
  | [], _ => 0
  | p :: r, k => (if p.1 = k then p.2 else 0) + cnt r k
def wsum (W : Int → Int) : List (Int × Int) → Int
  | [] => 0
  | p :: r => W p.1 * p.2 + wsum W r
structure Can (ps : List (Int × Int)) : Prop where
  desc : ps.Pairwise fun a b => b.1 < a.1
  pos : ∀ p ∈ ps, 0 < p.1 ∧ 0 < p.2
theorem cnt_append (k : Int) : ∀ a b : List (Int × Int), cnt (a ++ b) k = cnt a k + cnt b k
  | [], b => by simp [cnt]
  | p :: a, b => by
    show _ + cnt (a ++ b) k = _ + cnt a k + cnt b k
    rw [cnt_append k a b]; omega
theorem wsum_append (W : Int → Int) : ∀ a b : List (Int × Int), wsum W (a ++ b) = wsum W a + wsum W b
  | [], b => by simp [wsum]
  | p :: a, b => by
    show _ + wsum W (a ++ b) = _ + wsum W a + wsum W b
    rw [wsum_append W a b]; omega
theorem cnt_none {k : Int} : ∀ {ps : List (Int × Int)}, (∀ p ∈ ps, p.1 ≠ k) → cnt ps k = 0
  | [], _ => rfl
  | p :: r, h => by
    show (if p.1 = k then p.2 else 0) + cnt r k = 0
    rw [if_neg (h p List.mem_cons_self), cnt_none fun q hq => h q (List.mem_cons_of_mem _ hq)]
    rfl
theorem cnt_nonneg {k : Int} : ∀ {ps : List (Int × Int)}, (∀ p ∈ ps, 0 ≤ p.2) → 0 ≤ cnt ps k
  | [], _ => Int.le_refl _
  | p :: r, h => by
    have h1 := h p List.mem_cons_self
    have h2 := cnt_nonneg (k := k) fun q hq => h q (List.mem_cons_of_mem _ hq)
    show 0 ≤ (if p.1 = k then p.2 else 0) + cnt r k
    split <;> omega
theorem cnt_perm {k : Int} {a b : List (Int × Int)} (h : a.Perm b) : cnt a k = cnt b k := by
  induction h with
  | nil => rfl
  | cons p _ ih => show _ + _ = _ + _; rw [ih]
  | swap p q l => show _ + (_ + _) = _ + (_ + _); omega
  | trans _ _ h1 h2 => rw [h1, h2]
/-- a list that counts nought everywhere weighs nought -/
theorem wsum_zero (W : Int → Int) : ∀ (n : Nat) (l : List (Int × Int)), l.length ≤ n → (∀ k, cnt l k = 0) → wsum W l = 0
  | _, [], _, _ => rfl
  | 0, p :: r, h, _ => by simp at h
  | n + 1, p :: r, h, hc => by
    have split2 : ∀ l : List (Int × Int), wsum W l = W p.1 * cnt l p.1 + wsum W (l.filter fun q => decide (q.1 ≠ p.1)) ∧ ∀ k, cnt (l.filter fun q => decide (q.1 ≠ p.1)) k = if k = p.1 then 0 else cnt l k := by
      intro l
      induction l with
      | nil => exact ⟨by simp [wsum, cnt], fun k => by simp [cnt]⟩
      | cons q l ih =>
        obtain ⟨i1, i2⟩ := ih
        by_cases e : q.1 = p.1
        · have e' : decide (q.1 ≠ p.1) = false := by simp [e]
          rw [List.filter_cons_of_neg (by rw [e']; decide)]
          refine ⟨?_, fun k => ?_⟩
          · show W q.1 * q.2 + wsum W l = W p.1 * ((if q.1 = p.1 then q.2 else 0) + cnt l p.1) + _
            rw [if_pos e, i1, e, Int.mul_add]; omega
          · rw [i2 k]
            by_cases ek : k = p.1
            · rw [if_pos ek, if_pos ek]
            · rw [if_neg ek, if_neg ek]
              show _ = (if q.1 = k then q.2 else 0) + cnt l k
              rw [if_neg (by rw [e]; exact fun z => ek z.symm)]; omega
        · have e' : decide (q.1 ≠ p.1) = true := by simp [e]
          rw [List.filter_cons, if_pos e']
          refine ⟨?_, fun k => ?_⟩
          · show W q.1 * q.2 + wsum W l = W p.1 * ((if q.1 = p.1 then q.2 else 0) + cnt l p.1) + (W q.1 * q.2 + _)
            rw [if_neg e, i1]
            have : (0 : Int) + cnt l p.1 = cnt l p.1 := Int.zero_add _
            rw [this]; omega
          · show (if q.1 = k then q.2 else 0) + cnt _ k = if k = p.1 then 0 else (if q.1 = k then q.2 else 0) + cnt l k
            rw [i2 k]
            by_cases ek : k = p.1
            · rw [if_pos ek, if_pos ek, if_neg (by rw [ek]; exact e)]; rfl
            · rw [if_neg ek, if_neg ek]
    obtain ⟨s1, s2⟩ := split2 (p :: r)
    rw [s1, hc p.1, Int.mul_zero, Int.zero_add]
    have hf : ((p :: r).filter fun q => decide (q.1 ≠ p.1)) = r.filter fun q => decide (q.1 ≠ p.1) := by
      rw [List.filter_cons_of_neg (by simp)]
    refine wsum_zero W n _ ?_ fun k => ?_
    · rw [hf]
      have := List.length_filter_le (fun q : Int × Int => decide (q.1 ≠ p.1)) r
      simp only [List.length_cons] at h
      omega
    · rw [s2 k, hc k]; split <;> rfl
def negl (l : List (Int × Int)) : List (Int × Int) := l.map fun p => (p.1, -p.2)
theorem cnt_neg (k : Int) : ∀ l, cnt (negl l) k = - cnt l k
  | [] => rfl
  | p :: l => by
    show (if p.1 = k then -p.2 else 0) + cnt (negl l) k = -((if p.1 = k then p.2 else 0) + cnt l k)
    rw [cnt_neg k l]; split <;> omega
theorem wsum_neg (W : Int → Int) : ∀ l, wsum W (negl l) = - wsum W l
  | [] => rfl
  | p :: l => by
    show W p.1 * (-p.2) + wsum W (negl l) = -(W p.1 * p.2 + wsum W l)
    rw [wsum_neg W l, Int.mul_neg]; omega
theorem wsum_cnt (W : Int → Int) {a b : List (Int × Int)} (h : ∀ k, cnt a k = cnt b k) : wsum W a = wsum W b := by
  have z := wsum_zero W _ (a ++ negl b) (Nat.le_refl _) fun k => by rw [cnt_append, cnt_neg, h k]; omega
  rw [wsum_append, wsum_neg] at z
  omega
theorem can_uniq : ∀ {a b : List (Int × Int)}, Can a → Can b → (∀ k, cnt a k = cnt b k) → a = b
  | [], [], _, _, _ => rfl
  | [], q :: b, _, hb, h => by
    have h1 := h q.1
    have h2 := (hb.pos q List.mem_cons_self).2
    have h3 := cnt_nonneg (k := q.1) (ps := b) fun r hr => Int.le_of_lt (hb.pos r (List.mem_cons_of_mem _ hr)).2
    have h4 : (0 : Int) = (if q.1 = q.1 then q.2 else 0) + cnt b q.1 := h1
    rw [if_pos rfl] at h4
    omega
  | p :: a, [], ha, _, h => by
    have h1 := h p.1
    have h2 := (ha.pos p List.mem_cons_self).2
    have h3 := cnt_nonneg (k := p.1) (ps := a) fun r hr => Int.le_of_lt (ha.pos r (List.mem_cons_of_mem _ hr)).2
    have h4 : (if p.1 = p.1 then p.2 else 0) + cnt a p.1 = 0 := h1
    rw [if_pos rfl] at h4
    omega
  | p :: a, q :: b, ha, hb, h => by
    obtain ⟨pa, pa2⟩ := List.pairwise_cons.mp ha.desc
    obtain ⟨qb, qb2⟩ := List.pairwise_cons.mp hb.desc
    have hp := ha.pos p List.mem_cons_self
    have hq := hb.pos q List.mem_cons_self
    have na : cnt a p.1 = 0 := cnt_none fun r hr => Int.ne_of_lt (pa r hr)
    have nb : cnt b q.1 = 0 := cnt_none fun r hr => Int.ne_of_lt (qb r hr)
    have e1 : p.1 = q.1 := by
      have h1 : (if p.1 = p.1 then p.2 else 0) + cnt a p.1 = (if q.1 = p.1 then q.2 else 0) + cnt b p.1 := h p.1
      have h2 : (if p.1 = q.1 then p.2 else 0) + cnt a q.1 = (if q.1 = q.1 then q.2 else 0) + cnt b q.1 := h q.1
      rw [if_pos rfl, na] at h1
      rw [if_pos rfl, nb] at h2
      by_cases e : p.1 = q.1
      · exact e
      · rw [if_neg e] at h2
        rw [if_neg fun z => e z.symm] at h1
        exfalso
        rcases Int.lt_or_gt_of_ne e with l | l
        · have z : cnt a q.1 = 0 := cnt_none fun r hr => by have := pa r hr; omega
          omega
        · have z : cnt b p.1 = 0 := cnt_none fun r hr => by have := qb r hr; omega
          omega
    have e2 : p.2 = q.2 := by
      have h1 : (if p.1 = p.1 then p.2 else 0) + cnt a p.1 = (if q.1 = p.1 then q.2 else 0) + cnt b p.1 := h p.1
      rw [if_pos rfl, na, if_pos e1.symm, e1, nb] at h1
      omega
    have e3 : a = b := can_uniq ⟨pa2, fun r hr => ha.pos r (List.mem_cons_of_mem _ hr)⟩ ⟨qb2, fun r hr => hb.pos r (List.mem_cons_of_mem _ hr)⟩ fun k => by
      have h1 : (if p.1 = k then p.2 else 0) + cnt a k = (if q.1 = k then q.2 else 0) + cnt b k := h k
      rw [e1, e2] at h1
      omega
    rw [e3, Prod.ext e1 e2]
theorem descB_iff : ∀ ks : List Int, descB ks = true ↔ ks.Pairwise fun a b => b < a
  | [] => by simp [descB]
  | [a] => by simp [descB]
  | a :: b :: r => by
    have ih := descB_iff (b :: r)
    show (decide (b < a) && descB (b :: r)) = true ↔ _
    rw [Bool.and_eq_true, ih, decide_eq_true_eq]
    constructor
    · rintro ⟨h1, h2⟩
      refine List.pairwise_cons.mpr ⟨fun x hx => ?_, h2⟩
      rcases List.mem_cons.mp hx with e | hx
      · rw [e]; exact h1
      · have := (List.pairwise_cons.mp h2).1 x hx; omega
    · intro h
      obtain ⟨h1, h2⟩ := List.pairwise_cons.mp h
      exact ⟨h1 b List.mem_cons_self, h2⟩
theorem sumB_iff (ps : List (Int × Int)) : sumB ps = true ↔ Can ps := by
  unfold sumB
  rw [Bool.and_eq_true, descB_iff, List.pairwise_map, List.all_eq_true]
  constructor
  · rintro ⟨h1, h2⟩
    refine ⟨h2, fun p hp => ?_⟩
    have := h1 p hp
    rw [Bool.and_eq_true] at this
    exact ⟨of_decide_eq_true this.1, of_decide_eq_true this.2⟩
  · rintro ⟨h1, h2⟩
    refine ⟨fun p hp => ?_, h1⟩
    rw [Bool.and_eq_true]
    exact ⟨decide_eq_true (h2 p hp).1, decide_eq_true (h2 p hp).2⟩
/-! tallies -/
def dv (d : List (Int × Int)) (k : Int) : Int := (dval d k).getD 0
theorem dval_cons (e : Int × Int) (d : List (Int × Int)) (k : Int) : dval (e :: d) k = if e.1 = k then some e.2 else dval d k := by
  unfold dval
  rw [List.find?_cons]
  by_cases h : e.1 = k
  · simp [h]
  · simp [h]
theorem dval_app (k : Int) (f : Int × Int) : ∀ d : List (Int × Int), dval (d ++ [f]) k = match dval d k with | some v => some v | none => if f.1 = k then some f.2 else none
  | [] => by rw [List.nil_append, dval_cons]; rfl
  | e :: d => by
    rw [List.cons_append, dval_cons, dval_cons, dval_app k f d]
    split <;> rfl
theorem dval_none_iff (k : Int) (d : List (Int × Int)) : dval d k = none ↔ k ∉ d.map (·.1) := by
  unfold dval
  rw [Option.map_eq_none_iff, List.find?_eq_none]
  constructor
  · intro h m
    obtain ⟨p, hp, e⟩ := List.mem_map.mp m
    exact h p hp (by simp [e])
  · intro h p hp z
    exact h (List.mem_map.mpr ⟨p, hp, by simpa using z⟩)
theorem dput_dval (d : List (Int × Int)) (k v j : Int) : dval (dput d k v) j = if j = k then some v else dval d j := by
  unfold dput
  by_cases h : (d.any fun e => decide (e.1 = k)) = true
  · rw [if_pos h]
    induction d with
    | nil => simp at h
    | cons e d ih =>
      rw [List.map_cons, dval_cons]
      by_cases he : e.1 = k
      · rw [if_pos he]
        by_cases hj : j = k
        · rw [if_pos hj, if_pos (by rw [he, hj])]
        · rw [if_neg hj, dval_cons]
          have n1 : ¬ e.1 = j := by rw [he]; exact fun z => hj z.symm
          rw [if_neg n1]
          have : ∀ l : List (Int × Int), dval (l.map fun e => if e.1 = k then (e.1, v) else e) j = dval l j := by
            intro l
            induction l with
            | nil => rfl
            | cons f l il =>
              rw [List.map_cons, dval_cons, dval_cons, il]
              by_cases hf : f.1 = k
              · rw [if_pos hf, if_neg (by show ¬ f.1 = j; rw [hf]; exact fun z => hj z.symm), if_neg (by rw [hf]; exact fun z => hj z.symm)]
              · rw [if_neg hf]
          rw [this, if_neg n1]
      · rw [if_neg he, dval_cons]
        have h' : (d.any fun e => decide (e.1 = k)) = true := by
          rw [List.any_cons] at h
          simpa [he] using h
        rw [ih h']
        by_cases hj : j = k
        · rw [if_pos hj, if_neg (by rw [hj]; exact he)]
          rw [if_pos hj]
        · rw [if_neg hj, if_neg hj]
  · rw [if_neg h, dval_app]
    have hn : dval d k = none := (dval_none_iff k d).mpr fun m => h (by
      obtain ⟨p, hp, e⟩ := List.mem_map.mp m
      exact List.any_eq_true.mpr ⟨p, hp, decide_eq_true e⟩)
    by_cases hj : j = k
    · subst hj
      rw [hn, if_pos rfl]
    · rw [if_neg hj]
      cases dval d j with
      | some v => rfl
      | none => rw [if_neg fun z => hj z.symm]
theorem dput_keys (d : List (Int × Int)) (k v : Int) : (dput d k v).map (·.1) = if (d.any fun e => decide (e.1 = k)) = true then d.map (·.1) else d.map (·.1) ++ [k] := by
  unfold dput
  split
  · rw [List.map_map]
    apply List.map_congr_left
    intro e _
    show (if e.1 = k then (e.1, v) else e).1 = e.1
    split <;> rfl
  · rw [List.map_append]; rfl
theorem dput_nodup {d : List (Int × Int)} {k v : Int} (h : (d.map (·.1)).Nodup) : ((dput d k v).map (·.1)).Nodup := by
  rw [dput_keys]
  split
  · exact h
  · rename_i hn
    rw [List.nodup_append]
    refine ⟨h, by simp, fun a ha b hb => ?_⟩
    rw [List.mem_singleton] at hb
    subst hb
    rintro rfl
    obtain ⟨p, hp, e⟩ := List.mem_map.mp ha
    exact hn (List.any_eq_true.mpr ⟨p, hp, decide_eq_true e⟩)
theorem fold_snoc_ind {α β : Type} {f : β → α → β} {b : β} {M : List α → β → Prop} (h0 : M [] b) (hs : ∀ l a x, M l x → M (l ++ [a]) (f x a)) : ∀ l : List α, M l (l.foldl f b) := by
  have : ∀ (l done : List α) (x : β), M done x → M (done ++ l) (l.foldl f x) := by
    intro l
    induction l with
    | nil => intro done x h; rw [List.append_nil]; exact h
    | cons a l ih =>
      intro done x h
      have := ih (done ++ [a]) (f x a) (hs done a x h)
      rw [List.append_assoc] at this
      exact this
  intro l
  exact this l [] b h0
theorem tal_facts (ps : List (Int × Int)) : ((tal ps).map (·.1)).Nodup ∧ (∀ k, dv (tal ps) k = cnt ps k) ∧ ∀ k, k ∈ (tal ps).map (·.1) ↔ k ∈ ps.map (·.1) := by
  refine fold_snoc_ind (f := tstep) (b := []) (M := fun ps d => (d.map (·.1)).Nodup ∧ (∀ k, dv d k = cnt ps k) ∧ ∀ k, k ∈ d.map (·.1) ↔ k ∈ ps.map (·.1)) ⟨List.nodup_nil, fun k => rfl, fun k => Iff.rfl⟩ (fun l a x ⟨h1, h2, h3⟩ => ⟨dput_nodup h1, fun k => ?_, fun k => ?_⟩) ps
  · unfold dv tstep
    rw [dput_dval, cnt_append]
    show (if k = a.1 then some ((dval x a.1).getD 0 + a.2) else dval x k).getD 0 = cnt l k + ((if a.1 = k then a.2 else 0) + 0)
    have e := h2 k
    unfold dv at e
    by_cases hk : k = a.1
    · subst hk
      rw [if_pos rfl, if_pos rfl, ← e]
      show (dval x a.1).getD 0 + a.2 = _
      omega
    · rw [if_neg hk, if_neg fun z => hk z.symm, e]; omega
  · unfold tstep
    rw [dput_keys, List.map_append]
    have e := h3 k
    split
    · rename_i ha
      obtain ⟨p, hp, hpe⟩ := List.any_eq_true.mp ha
      have hm : a.1 ∈ x.map (·.1) := List.mem_map.mpr ⟨p, hp, of_decide_eq_true hpe⟩
      rw [List.mem_append, e]
      constructor
      · exact .inl
      · rintro (h | h)
        · exact h
        · have : k = a.1 := by simpa using h
          subst this
          exact e.mp hm
    · rw [List.mem_append, List.mem_append, e]
      simp
/-- puts of distinct keys -/
theorem puts_facts : ∀ (l : List (Int × Int)), (l.map (·.1)).Nodup → l.foldl putd [] = l := by
  have : ∀ (l d : List (Int × Int)), ((d ++ l).map (·.1)).Nodup → l.foldl putd d = d ++ l := by
    intro l
    induction l with
    | nil => intro d _; rw [List.append_nil]; rfl
    | cons e l ih =>
      intro d h
      have hn : ¬ (d.any fun x => decide (x.1 = e.1)) = true := fun ha => by
        obtain ⟨p, hp, hpe⟩ := List.any_eq_true.mp ha
        rw [List.map_append, List.nodup_append] at h
        exact h.2.2 p.1 (List.mem_map.mpr ⟨p, hp, rfl⟩) e.1 (by simp) (of_decide_eq_true hpe)
      have e1 : putd d e = d ++ [e] := by
        unfold putd dput
        rw [if_neg hn]
      rw [List.foldl_cons, e1, ih (d ++ [e]) (by rw [List.append_assoc]; exact h), List.append_assoc]
      rfl
  intro l h
  have := this l [] (by rw [List.nil_append]; exact h)
  rw [List.nil_append] at this
  exact this
theorem dv_cnt : ∀ {d : List (Int × Int)}, (d.map (·.1)).Nodup → ∀ k, dv d k = cnt d k
  | [], _, k => rfl
  | e :: d, h, k => by
    rw [List.map_cons, List.nodup_cons] at h
    show (dval (e :: d) k).getD 0 = (if e.1 = k then e.2 else 0) + cnt d k
    rw [dval_cons]
    by_cases hk : e.1 = k
    · rw [if_pos hk, if_pos hk, cnt_none fun p hp z => h.1 (List.mem_map.mpr ⟨p, hp, by rw [z, hk]⟩)]
      show e.2 = e.2 + 0
      omega
    · rw [if_neg hk, if_neg hk, ← dv_cnt h.2 k]
      show dv d k = 0 + dv d k
      omega
/-! told in order -/
theorem desc_keys {ks : List Int} (h : ks.Nodup) : (asc ks).reverse.Pairwise fun a b => b < a := by
  rw [List.pairwise_reverse]
  have h1 := asc_sorted ks
  have h2 : (asc ks).Nodup := (asc_perm ks).nodup_iff.mpr h
  exact (List.Pairwise.and h1 h2).imp fun ⟨a, b⟩ => by omega
theorem cnt_keys (f : Int → Int) (k : Int) : ∀ {ks : List Int}, ks.Nodup → cnt (ks.map fun j => (j, f j)) k = if k ∈ ks then f k else 0
  | [], _ => by simp [cnt]
  | j :: ks, h => by
    rw [List.nodup_cons] at h
    show (if j = k then f j else 0) + cnt (ks.map fun j => (j, f j)) k = _
    rw [cnt_keys f k h.2]
    by_cases e : j = k
    · subst e
      rw [if_pos rfl, if_neg h.1, if_pos List.mem_cons_self]; omega
    · have : (k ∈ j :: ks) ↔ k ∈ ks := by
        rw [List.mem_cons]
        exact ⟨fun z => z.resolve_left fun q => e q.symm, .inr⟩
      rw [if_neg e]
      by_cases m : k ∈ ks
      · rw [if_pos m, if_pos (this.mpr m)]; omega
      · rw [if_neg m, if_neg fun z => m (this.mp z)]; rfl
theorem inOrd_facts {d : List (Int × Int)} (h : (d.map (·.1)).Nodup) : (inOrdM d).Pairwise (fun a b => b.1 < a.1) ∧ (∀ p ∈ inOrdM d, 0 < p.2 ∧ p.1 ∈ d.map (·.1) ∧ p.2 = dv d p.1) ∧ ∀ k, cnt (inOrdM d) k = if 0 < dv d k then dv d k else 0 := by
  have hd := desc_keys h
  have hf := hd.filter fun k => decide (0 < (dval d k).getD 0)
  refine ⟨?_, fun p hp => ?_, fun k => ?_⟩
  · unfold inOrdM
    rw [List.pairwise_map]
    exact hf
  · unfold inOrdM at hp
    obtain ⟨k, hk, rfl⟩ := List.mem_map.mp hp
    obtain ⟨h1, h2⟩ := List.mem_filter.mp hk
    exact ⟨of_decide_eq_true h2, (asc_perm _).mem_iff.mp (List.mem_reverse.mp h1), rfl⟩
  · unfold inOrdM
    have hn : ((asc (d.map (·.1))).reverse.filter fun k => decide (0 < (dval d k).getD 0)).Nodup := hf.imp fun z => by
      intro e; subst e; omega
    rw [cnt_keys (fun k => (dval d k).getD 0) k hn]
    have hm : k ∈ ((asc (d.map (·.1))).reverse.filter fun k => decide (0 < (dval d k).getD 0)) ↔ 0 < dv d k := by
      rw [List.mem_filter, List.mem_reverse, (asc_perm _).mem_iff, decide_eq_true_eq]
      refine ⟨fun z => z.2, fun z => ⟨?_, z⟩⟩
      by_cases hk : k ∈ d.map (·.1)
      · exact hk
      · exfalso
        have := (dval_none_iff k d).mpr hk
        unfold dv at z
        rw [this] at z
        exact absurd z (by decide)
    by_cases hk : 0 < dv d k
    · rw [if_pos (hm.mpr hk), if_pos hk]; rfl
    · rw [if_neg fun z => hk (hm.mp z), if_neg hk]
theorem put_facts (ps : List (Int × Int)) : (putM ps).Pairwise (fun a b => b.1 < a.1) ∧ (∀ k, cnt (putM ps) k = cnt ps k) ∧ (∀ p ∈ putM ps, p.1 ∈ ps.map (·.1) ∧ p.2 = cnt ps p.1) ∧ (putM ps).length ≤ ps.length := by
  obtain ⟨t1, t2, t3⟩ := tal_facts ps
  have hd := desc_keys t1
  refine ⟨?_, fun k => ?_, fun p hp => ?_, ?_⟩
  · unfold putM
    rw [List.pairwise_map]
    exact hd
  · unfold putM
    have hn : ((asc ((tal ps).map (·.1))).reverse).Nodup := hd.imp fun z => by intro e; subst e; omega
    rw [cnt_keys (fun k => (dval (tal ps) k).getD 0) k hn]
    by_cases hm : k ∈ (asc ((tal ps).map (·.1))).reverse
    · rw [if_pos hm]; exact t2 k
    · rw [if_neg hm]
      have : k ∉ ps.map (·.1) := fun z => hm (List.mem_reverse.mpr ((asc_perm _).mem_iff.mpr ((t3 k).mpr z)))
      rw [cnt_none fun p hp e => this (List.mem_map.mpr ⟨p, hp, e⟩)]
  · unfold putM at hp
    obtain ⟨k, hk, rfl⟩ := List.mem_map.mp hp
    exact ⟨(t3 k).mp ((asc_perm _).mem_iff.mp (List.mem_reverse.mp hk)), t2 k⟩
  · unfold putM
    rw [List.length_map, List.length_reverse, (asc_perm _).length_eq, List.length_map]
    have := tal_len ps ps.length
    rw [List.take_length] at this
    exact this
theorem put_can {ps : List (Int × Int)} (h : ∀ p ∈ ps, 0 < p.1 ∧ 0 < p.2) : Can (putM ps) := by
  obtain ⟨h1, h2, h3, _⟩ := put_facts ps
  refine ⟨h1, fun p hp => ?_⟩
  obtain ⟨g1, g2⟩ := h3 p hp
  obtain ⟨q, hq, e⟩ := List.mem_map.mp g1
  refine ⟨by rw [← e]; exact (h q hq).1, ?_⟩
  rw [g2]
  have : ∀ l : List (Int × Int), (∀ r ∈ l, 0 < r.2) → ∀ k, k ∈ l.map (·.1) → 0 < cnt l k := by
    intro l
    induction l with
    | nil => intro _ k hk; cases hk
    | cons r l ih =>
      intro hl k hk
      have hr := hl r List.mem_cons_self
      have hn := cnt_nonneg (k := k) (ps := l) fun s hs => Int.le_of_lt (hl s (List.mem_cons_of_mem _ hs))
      show 0 < (if r.1 = k then r.2 else 0) + cnt l k
      by_cases er : r.1 = k
      · rw [if_pos er]; omega
      · rw [if_neg er]
        have hk' : k ∈ l.map (·.1) := by
          rw [List.map_cons, List.mem_cons] at hk
          exact hk.resolve_left fun z => er z.symm
        have := ih (fun s hs => hl s (List.mem_cons_of_mem _ hs)) k hk'
        omega
  exact this ps (fun r hr => (h r hr).2) _ g1
theorem put_self {ps : List (Int × Int)} (h : Can ps) : putM ps = ps := can_uniq (put_can h.pos) h fun k => (put_facts ps).2.1 k
theorem lawSum_can {ps : List (Int × Int)} (h : Can ps) : lawSumB ps = true := by
  unfold lawSumB
  rw [Bool.and_eq_true]
  refine ⟨decide_eq_true (put_self h).symm, List.all_eq_true.mpr fun p hp => decide_eq_true ?_⟩
  have := h.pos p hp
  unfold minP
  split <;> omega
theorem tot_wsum : ∀ ps : List (Int × Int), totM ps = wsum (fun k => k) ps
  | [] => rfl
  | p :: ps => by
    have ih := tot_wsum ps
    unfold totM at ih ⊢
    rw [List.map_cons, List.sum_cons, ih]
    rfl
end Pw

set_option Elab.async false
set_option linter.all false
set_option maxRecDepth 100000
set_option maxHeartbeats 2000000
set_option autoImplicit false
namespace Pw
/-! ### by figures -/
def CO (b p c : Int) (e : Nat) : Prop := p = c * b ^ e ∧ c % b ≠ 0 ∧ 0 < c
theorem pow_pos' {b : Int} (hb : 2 ≤ b) (e : Nat) : 0 < b ^ e := Int.pow_pos (by omega)
theorem co_uniq {b : Int} (hb : 2 ≤ b) : ∀ {e e' : Nat} {c c' : Int}, c % b ≠ 0 → c' % b ≠ 0 → c * b ^ e = c' * b ^ e' → c = c' ∧ e = e'
  | 0, 0, c, c', _, _, h => by simpa using h
  | 0, e' + 1, c, c', hc, _, h => by
    exfalso
    apply hc
    rw [Int.pow_zero, Int.mul_one] at h
    rw [h, Int.pow_succ, ← Int.mul_assoc]
    exact Int.mul_emod_left _ _
  | e + 1, 0, c, c', _, hc, h => by
    exfalso
    apply hc
    rw [Int.pow_zero, Int.mul_one] at h
    rw [← h, Int.pow_succ, ← Int.mul_assoc]
    exact Int.mul_emod_left _ _
  | e + 1, e' + 1, c, c', hc, hc', h => by
    rw [Int.pow_succ, Int.pow_succ, ← Int.mul_assoc, ← Int.mul_assoc] at h
    have := Int.eq_of_mul_eq_mul_right (show b ≠ 0 by omega) h
    obtain ⟨h1, h2⟩ := co_uniq hb hc hc' this
    exact ⟨h1, by rw [h2]⟩
theorem strip_co {b : Int} (hb : 2 ≤ b) : ∀ (f : Nat) (p : Int), 0 < p → p ≤ f → ∃ c e, CO b p c e ∧ ∀ t, strip f b p t = (c, t * b ^ e)
  | 0, p, h0, h1 => by omega
  | f + 1, p, h0, h1 => by
    by_cases h : p % b = 0
    · have hlt : p / b < p := Int.ediv_lt_self_of_pos_of_ne_one h0 (by omega)
      have hpos : 0 < p / b := Int.ediv_pos_of_pos_of_dvd h0 (by omega) (Int.dvd_of_emod_eq_zero h)
      have hdm : p / b * b = p := Int.ediv_mul_cancel (Int.dvd_of_emod_eq_zero h)
      obtain ⟨c, e, ⟨h2, h3, h4⟩, h5⟩ := strip_co hb f (p / b) hpos (by omega)
      refine ⟨c, e + 1, ⟨?_, h3, h4⟩, fun t => ?_⟩
      · rw [Int.pow_succ, ← Int.mul_assoc, ← h2, hdm]
      · show (if p % b = 0 then strip f b (p / b) (t * b) else (p, t)) = _
        rw [if_pos h, h5, Int.pow_succ, Int.mul_assoc, Int.mul_comm b]
    · refine ⟨p, 0, ⟨by rw [Int.pow_zero, Int.mul_one], h, h0⟩, fun t => ?_⟩
      show (if p % b = 0 then _ else (p, t)) = _
      rw [if_neg h, Int.pow_zero, Int.mul_one]
theorem strip_is {b : Int} (hb : 2 ≤ b) {p c : Int} {e : Nat} (h : CO b p c e) (t : Int) : stripM b (p, t) = (c, t * b ^ e) := by
  have hp : 0 < p := by rw [h.1]; exact Int.mul_pos h.2.2 (pow_pos' hb e)
  obtain ⟨c', e', ⟨h1, h2, h3⟩, h4⟩ := strip_co hb p.toNat p hp (by omega)
  obtain ⟨rfl, rfl⟩ := co_uniq hb h.2.1 h2 (h.1.symm.trans h1)
  exact h4 t
theorem co_of {b : Int} (hb : 2 ≤ b) {p : Int} (hp : 0 < p) : ∃ c e, CO b p c e := by
  obtain ⟨c, e, h, _⟩ := strip_co hb p.toNat p hp (by omega)
  exact ⟨c, e, h⟩
theorem two_pow_lt (e : Nat) : (e : Int) < 2 ^ e := by
  have h : e < 2 ^ e := Nat.lt_two_pow_self
  have : ((e : Nat) : Int) < ((2 ^ e : Nat) : Int) := Int.ofNat_lt.mpr h
  rw [Int.natCast_pow] at this
  exact this
theorem pow_ge {b : Int} (hb : 2 ≤ b) : ∀ e : Nat, (2 : Int) ^ e ≤ b ^ e
  | 0 => by rw [Int.pow_zero, Int.pow_zero]; exact Int.le_refl _
  | e + 1 => by
    rw [Int.pow_succ, Int.pow_succ]
    exact Int.mul_le_mul (pow_ge hb e) hb (by decide) (Int.le_of_lt (pow_pos' hb e))
theorem co_lt {b p c : Int} {e : Nat} (hb : 2 ≤ b) (h : CO b p c e) : (e : Int) < p := by
  have h1 := two_pow_lt e
  have h2 := pow_ge hb e
  have h3 : 1 * b ^ e ≤ c * b ^ e := Int.mul_le_mul_of_nonneg_right h.2.2 (Int.le_of_lt (pow_pos' hb e))
  rw [h.1]
  omega
theorem co_le {b p c : Int} {e : Nat} (hb : 2 ≤ b) (h : CO b p c e) : c ≤ p := by
  have h3 : c * 1 ≤ c * b ^ e := Int.mul_le_mul_of_nonneg_left (pow_pos' hb e) (Int.le_of_lt h.2.2)
  rw [h.1]
  omega
/-- how a part weighs towards k -/
def Wt (b k p : Int) : Int := if (stripM b (p, 1)).1 = k then (stripM b (p, 1)).2 else 0
theorem wt_co {b p c k : Int} {e : Nat} (hb : 2 ≤ b) (h : CO b p c e) : Wt b k p = if c = k then b ^ e else 0 := by
  unfold Wt
  rw [strip_is hb h 1, Int.one_mul]
theorem cnt_strip {b : Int} (hb : 2 ≤ b) (k : Int) : ∀ {qs : List (Int × Int)}, (∀ q ∈ qs, 0 < q.1) → cnt (qs.map (stripM b)) k = wsum (Wt b k) qs
  | [], _ => rfl
  | q :: qs, h => by
    obtain ⟨c, e, hc⟩ := co_of hb (h q List.mem_cons_self)
    show (if (stripM b q).1 = k then (stripM b q).2 else 0) + cnt (qs.map (stripM b)) k = Wt b k q.1 * q.2 + wsum (Wt b k) qs
    rw [cnt_strip hb k fun r hr => h r (List.mem_cons_of_mem _ hr), wt_co hb hc, show stripM b q = stripM b (q.1, q.2) from rfl, strip_is hb hc]
    by_cases hk : c = k
    · rw [if_pos hk, if_pos hk, Int.mul_comm]
    · rw [if_neg hk, if_neg hk, Int.zero_mul]
/-! numbers by figures -/
def Vs (b : Int) : Nat → (Nat → Int) → Int
  | 0, _ => 0
  | n + 1, f => f 0 + b * Vs b n fun e => f (e + 1)
theorem Vs_add (b : Int) : ∀ (n : Nat) (f g : Nat → Int), Vs b n (fun e => f e + g e) = Vs b n f + Vs b n g
  | 0, _, _ => rfl
  | n + 1, f, g => by
    show (f 0 + g 0) + b * Vs b n (fun e => f (e + 1) + g (e + 1)) = (f 0 + b * _) + (g 0 + b * _)
    rw [Vs_add b n (fun e => f (e + 1)) (fun e => g (e + 1)), Int.mul_add]
    omega
theorem Vs_zero (b : Int) : ∀ (n : Nat) (f : Nat → Int), (∀ e, f e = 0) → Vs b n f = 0
  | 0, _, _ => rfl
  | n + 1, f, h => by
    show f 0 + b * Vs b n _ = 0
    rw [h 0, Vs_zero b n _ fun e => h (e + 1), Int.mul_zero]; rfl
theorem Vs_one (b t : Int) : ∀ (n e0 : Nat) (f : Nat → Int), e0 < n → (∀ e, f e = if e = e0 then t else 0) → Vs b n f = b ^ e0 * t
  | 0, _, _, h, _ => by omega
  | n + 1, 0, f, _, hf => by
    show f 0 + b * Vs b n _ = _
    rw [hf 0, if_pos rfl, Vs_zero b n _ fun e => by rw [hf (e + 1), if_neg (by omega)], Int.mul_zero, Int.pow_zero]
    omega
  | n + 1, e0 + 1, f, h, hf => by
    show f 0 + b * Vs b n _ = _
    rw [hf 0, if_neg (by omega), Vs_one b t n e0 _ (by omega) fun e => by
      rw [hf (e + 1)]
      by_cases q : e = e0
      · rw [if_pos q, if_pos (by omega)]
      · rw [if_neg q, if_neg (by omega)], Int.pow_succ, Int.zero_add, Int.mul_comm (b ^ e0) b, Int.mul_assoc]
theorem Vs_digit {b : Int} (hb : 2 ≤ b) : ∀ (j n : Nat) (f : Nat → Int), (∀ e, 0 ≤ f e ∧ f e < b) → Vs b n f / b ^ j % b = if j < n then f j else 0
  | j, 0, f, _ => by
    show (0 : Int) / b ^ j % b = _
    rw [Int.zero_ediv, Int.zero_emod, if_neg (by omega)]
  | 0, n + 1, f, h => by
    show (f 0 + b * Vs b n _) / b ^ 0 % b = _
    rw [Int.pow_zero, Int.ediv_one, Int.add_mul_emod_self_left, if_pos (by omega)]
    exact Int.emod_eq_of_lt (h 0).1 (h 0).2
  | j + 1, n + 1, f, h => by
    show (f 0 + b * Vs b n _) / b ^ (j + 1) % b = _
    have e1 : (f 0 + b * Vs b n fun e => f (e + 1)) / b ^ (j + 1) = (Vs b n fun e => f (e + 1)) / b ^ j := by
      rw [Int.pow_succ, Int.mul_comm (b ^ j) b, ← Int.ediv_ediv_of_nonneg (by omega)]
      congr 1
      rw [Int.add_mul_ediv_left _ _ (by omega), Int.ediv_eq_zero_of_lt (h 0).1 (h 0).2, Int.zero_add]
    rw [e1, Vs_digit hb j n _ fun e => h (e + 1)]
    by_cases q : j < n
    · rw [if_pos q, if_pos (by omega)]
    · rw [if_neg q, if_neg (by omega)]
theorem wsum_Vs {b : Int} (hb : 2 ≤ b) {c : Int} (hc : c % b ≠ 0) (hc0 : 0 < c) (n : Nat) : ∀ {qs : List (Int × Int)}, (∀ q ∈ qs, 0 < q.1 ∧ q.1 < n) → wsum (Wt b c) qs = Vs b n fun e => cnt qs (c * b ^ e)
  | [], _ => (Vs_zero b n _ fun _ => rfl).symm
  | q :: qs, h => by
    have hq := h q List.mem_cons_self
    obtain ⟨c', e0, hco⟩ := co_of hb hq.1
    have hlt := co_lt hb hco
    have e1 : (fun e => cnt (q :: qs) (c * b ^ e)) = fun e => (if q.1 = c * b ^ e then q.2 else 0) + cnt qs (c * b ^ e) := rfl
    rw [e1, Vs_add, ← wsum_Vs hb hc hc0 n fun r hr => h r (List.mem_cons_of_mem _ hr)]
    show Wt b c q.1 * q.2 + _ = _
    congr 1
    rw [wt_co hb hco]
    by_cases hcc : c' = c
    · subst hcc
      rw [if_pos rfl]
      refine (Vs_one b q.2 n e0 _ (by omega) fun e => ?_).symm
      by_cases he : e = e0
      · rw [if_pos he, if_pos (by rw [hco.1, he])]
      · rw [if_neg he, if_neg fun z => he (co_uniq hb hco.2.1 hco.2.1 (hco.1.symm.trans z)).2.symm]
    · rw [if_neg hcc, Int.zero_mul]
      refine (Vs_zero b n _ fun e => ?_).symm
      rw [if_neg fun z => hcc (co_uniq hb hco.2.1 hc (hco.1.symm.trans z)).1]
/-! a number's figures -/
theorem digs_keys {b : Int} (hb : 2 ≤ b) : ∀ (f : Nat) (p t : Int), 0 < p → 0 ≤ t → ∀ q ∈ digs f b p t, (∃ i, q.1 = p * b ^ i) ∧ p ≤ q.1 ∧ 0 ≤ q.2 ∧ q.2 < b ∧ q.1 ≤ p * t
  | 0, p, t, _, _, q, h => by cases h
  | f + 1, p, t, hp, ht, q, h => by
    unfold digs at h
    by_cases h0 : 0 < t
    · rw [if_pos h0] at h
      rcases List.mem_cons.mp h with e | h
      · subst e
        refine ⟨⟨0, by rw [Int.pow_zero, Int.mul_one]⟩, Int.le_refl _, Int.emod_nonneg _ (by omega), Int.emod_lt_of_pos _ (by omega), ?_⟩
        have : p * 1 ≤ p * t := Int.mul_le_mul_of_nonneg_left h0 (Int.le_of_lt hp)
        show p ≤ p * t
        omega
      · obtain ⟨⟨i, h1⟩, h2, h3, h4, h5⟩ := digs_keys hb f (p * b) (t / b) (Int.mul_pos hp (by omega)) (Int.ediv_nonneg ht (by omega)) q h
        refine ⟨⟨i + 1, by rw [h1, Int.pow_succ, Int.mul_assoc, Int.mul_comm b]⟩, ?_, h3, h4, ?_⟩
        · have : p * 1 ≤ p * b := Int.mul_le_mul_of_nonneg_left (by omega) (Int.le_of_lt hp)
          omega
        · have h6 : p * b * (t / b) ≤ p * t := by
            rw [Int.mul_assoc]
            exact Int.mul_le_mul_of_nonneg_left (Int.mul_ediv_self_le (by omega)) (Int.le_of_lt hp)
          omega
    · rw [if_neg h0] at h; cases h
theorem digs_nodup {b : Int} (hb : 2 ≤ b) : ∀ (f : Nat) (p t : Int), 0 < p → 0 ≤ t → ((digs f b p t).map (·.1)).Nodup
  | 0, p, t, _, _ => List.nodup_nil
  | f + 1, p, t, hp, ht => by
    unfold digs
    split
    · rw [List.map_cons, List.nodup_cons]
      refine ⟨fun m => ?_, digs_nodup hb f (p * b) (t / b) (Int.mul_pos hp (by omega)) (Int.ediv_nonneg ht (by omega))⟩
      obtain ⟨q, hq, e⟩ := List.mem_map.mp m
      have h := (digs_keys hb f (p * b) (t / b) (Int.mul_pos hp (by omega)) (Int.ediv_nonneg ht (by omega)) q hq).2.1
      have : p * 1 < p * b := Int.mul_lt_mul_of_pos_left (by omega) hp
      simp only at e
      omega
    · exact List.nodup_nil
theorem digs_cnt {b : Int} (hb : 2 ≤ b) : ∀ (f : Nat) (p t : Int) (e : Nat), 0 < p → 0 ≤ t → t < f → cnt (digs f b p t) (p * b ^ e) = t / b ^ e % b
  | 0, p, t, e, _, h1, h2 => by omega
  | f + 1, p, t, e, hp, ht, hf => by
    have hp2 : 0 < p * b := Int.mul_pos hp (by omega)
    have ht2 : 0 ≤ t / b := Int.ediv_nonneg ht (by omega)
    unfold digs
    by_cases h0 : 0 < t
    · rw [if_pos h0]
      have hlt : t / b < t := Int.ediv_lt_self_of_pos_of_ne_one h0 (by omega)
      show (if p = p * b ^ e then t % b else 0) + cnt (digs f b (p * b) (t / b)) (p * b ^ e) = _
      cases e with
      | zero =>
        rw [Int.pow_zero, Int.mul_one, if_pos rfl, cnt_none, Int.ediv_one, Int.add_zero]
        intro q hq
        have h := (digs_keys hb f (p * b) (t / b) hp2 ht2 q hq).2.1
        have : p * 1 < p * b := Int.mul_lt_mul_of_pos_left (by omega) hp
        omega
      | succ e =>
        have hne : p ≠ p * b ^ (e + 1) := by
          have h1 : (1 : Int) < b ^ (e + 1) := by
            rw [Int.pow_succ]
            have := pow_pos' hb e
            have : 1 * b ≤ b ^ e * b := Int.mul_le_mul_of_nonneg_right (by omega) (by omega)
            omega
          have : p * 1 < p * b ^ (e + 1) := Int.mul_lt_mul_of_pos_left h1 hp
          omega
        rw [if_neg hne, Int.zero_add]
        have e1 : p * b ^ (e + 1) = p * b * b ^ e := by rw [Int.pow_succ, Int.mul_assoc, Int.mul_comm b]
        rw [e1, digs_cnt hb f (p * b) (t / b) e hp2 ht2 (by omega), Int.pow_succ, Int.mul_comm (b ^ e) b, Int.ediv_ediv_of_nonneg (by omega)]
    · have : t = 0 := by omega
      subst this
      rw [if_neg h0, Int.zero_ediv, Int.zero_emod]
      rfl
theorem digs_wsum {b : Int} (hb : 2 ≤ b) (W : Int → Int) (c : Int) (hW : ∀ i : Nat, W (c * b ^ i) = W c * b ^ i) : ∀ (f : Nat) (i : Nat) (t : Int), 0 ≤ t → t < f → wsum W (digs f b (c * b ^ i) t) = W c * b ^ i * t
  | 0, i, t, h1, h2 => by omega
  | f + 1, i, t, ht, hf => by
    unfold digs
    by_cases h0 : 0 < t
    · have hlt : t / b < t := Int.ediv_lt_self_of_pos_of_ne_one h0 (by omega)
      rw [if_pos h0]
      have e1 : c * b ^ i * b = c * b ^ (i + 1) := by rw [Int.pow_succ, Int.mul_assoc]
      show W (c * b ^ i) * (t % b) + wsum W (digs f b (c * b ^ i * b) (t / b)) = _
      rw [e1, digs_wsum hb W c hW f (i + 1) (t / b) (Int.ediv_nonneg ht (by omega)) (by omega), hW i, Int.pow_succ]
      have e2 : W c * (b ^ i * b) * (t / b) = W c * b ^ i * (b * (t / b)) := by
        rw [← Int.mul_assoc (W c), Int.mul_assoc (W c * b ^ i)]
      rw [e2, ← Int.mul_add]
      congr 1
      have := Int.emod_add_mul_ediv t b
      omega
    · have : t = 0 := by omega
      subst this
      rw [if_neg h0, Int.mul_zero]
      rfl
theorem wsum_flat (W : Int → Int) (g : Int × Int → List (Int × Int)) : ∀ ps : List (Int × Int), wsum W (ps.flatMap g) = (ps.map fun p => wsum W (g p)).sum
  | [] => rfl
  | p :: ps => by rw [List.flatMap_cons, wsum_append, wsum_flat W g ps, List.map_cons, List.sum_cons]
theorem cnt_flat (k : Int) (g : Int × Int → List (Int × Int)) : ∀ ps : List (Int × Int), cnt (ps.flatMap g) k = (ps.map fun p => cnt (g p) k).sum
  | [] => rfl
  | p :: ps => by rw [List.flatMap_cons, cnt_append, cnt_flat k g ps, List.map_cons, List.sum_cons]
theorem sum_congr' {α : Type} {f g : α → Int} : ∀ {l : List α}, (∀ a ∈ l, f a = g a) → (l.map f).sum = (l.map g).sum
  | [], _ => rfl
  | a :: l, h => by
    rw [List.map_cons, List.map_cons, List.sum_cons, List.sum_cons, h a List.mem_cons_self, sum_congr' fun x hx => h x (List.mem_cons_of_mem _ hx)]
theorem cnt_sum (k : Int) : ∀ ps : List (Int × Int), cnt ps k = (ps.map fun p => if p.1 = k then p.2 else 0).sum
  | [] => rfl
  | p :: ps => by
    rw [List.map_cons, List.sum_cons, ← cnt_sum k ps]
    rfl
theorem wsum_sum (W : Int → Int) : ∀ ps : List (Int × Int), wsum W ps = (ps.map fun p => W p.1 * p.2).sum
  | [] => rfl
  | p :: ps => by
    rw [List.map_cons, List.sum_cons, ← wsum_sum W ps]
    rfl
/-! ### led -/
section
variable {b : Int} {ps qs : List (Int × Int)}
theorem flat_nodup (hb : 2 ≤ b) : ∀ {ps : List (Int × Int)}, Can ps → (∀ p ∈ ps, p.1 % b ≠ 0) → ((ps.flatMap (digsM b)).map (·.1)).Nodup
  | [], _, _ => List.nodup_nil
  | p :: ps, hc, hn => by
    obtain ⟨h1, h2⟩ := List.pairwise_cons.mp hc.desc
    have hp := hc.pos p List.mem_cons_self
    have ih := flat_nodup hb (ps := ps) ⟨h2, fun q hq => hc.pos q (List.mem_cons_of_mem _ hq)⟩ fun q hq => hn q (List.mem_cons_of_mem _ hq)
    rw [List.flatMap_cons, List.map_append, List.nodup_append]
    refine ⟨digs_nodup hb _ _ _ hp.1 (Int.le_of_lt hp.2), ih, fun x hx y hy e => ?_⟩
    subst e
    obtain ⟨q, hq, e1⟩ := List.mem_map.mp hx
    obtain ⟨r, hr, e2⟩ := List.mem_map.mp hy
    obtain ⟨s, hs, hr⟩ := List.mem_flatMap.mp hr
    have hsp := hc.pos s (List.mem_cons_of_mem _ hs)
    obtain ⟨⟨i, k1⟩, _⟩ := digs_keys hb _ _ _ hp.1 (Int.le_of_lt hp.2) q hq
    obtain ⟨⟨j, k2⟩, _⟩ := digs_keys hb _ _ _ hsp.1 (Int.le_of_lt hsp.2) r hr
    have := (co_uniq hb (hn p List.mem_cons_self) (hn s (List.mem_cons_of_mem _ hs)) (by rw [← k1, ← k2]; exact e1.trans e2.symm)).1
    have := h1 s hs
    omega
theorem spreadD_is (hb : 2 ≤ b) (hc : Can ps) (hn : ∀ p ∈ ps, p.1 % b ≠ 0) : spreadD b ps = ps.flatMap (digsM b) := puts_facts _ (flat_nodup hb hc hn)
theorem flat_mem (hb : 2 ≤ b) (hc : Can ps) : ∀ q ∈ ps.flatMap (digsM b), ∃ p ∈ ps, (∃ i, q.1 = p.1 * b ^ i) ∧ p.1 ≤ q.1 ∧ 0 ≤ q.2 ∧ q.2 < b ∧ q.1 ≤ p.1 * p.2 := fun q hq => by
  obtain ⟨p, hp, hq⟩ := List.mem_flatMap.mp hq
  have h := hc.pos p hp
  exact ⟨p, hp, digs_keys hb _ _ _ h.1 (Int.le_of_lt h.2) q hq⟩
theorem spread_cnt (hb : 2 ≤ b) (hc : Can ps) (hn : ∀ p ∈ ps, p.1 % b ≠ 0) (k : Int) : cnt (spreadM b ps) k = cnt (ps.flatMap (digsM b)) k := by
  have nd := flat_nodup hb hc hn
  unfold spreadM
  rw [spreadD_is hb hc hn, (inOrd_facts nd).2.2 k, dv_cnt nd k]
  have h0 : 0 ≤ cnt (ps.flatMap (digsM b)) k := cnt_nonneg fun q hq => by
    obtain ⟨_, _, _, _, h, _⟩ := flat_mem hb hc q hq
    exact h
  by_cases h : 0 < cnt (ps.flatMap (digsM b)) k
  · rw [if_pos h]
  · rw [if_neg h]; omega
theorem spread_mem (hb : 2 ≤ b) (hc : Can ps) (hn : ∀ p ∈ ps, p.1 % b ≠ 0) : ∀ q ∈ spreadM b ps, 0 < q.2 ∧ q.2 < b ∧ ∃ p ∈ ps, p.1 ≤ q.1 ∧ q.1 ≤ p.1 * p.2 := fun q hq => by
  have nd := flat_nodup hb hc hn
  unfold spreadM at hq
  rw [spreadD_is hb hc hn] at hq
  obtain ⟨h1, h2, h3⟩ := (inOrd_facts nd).2.1 q hq
  have h4 := dval_mem h2
  unfold dval at h4
  obtain ⟨e, he, h5⟩ : ∃ e, (ps.flatMap (digsM b)).find? (fun e => decide (e.1 = q.1)) = some e ∧ e.2 = q.2 := by
    cases hf : (ps.flatMap (digsM b)).find? (fun e => decide (e.1 = q.1)) with
    | none => rw [hf] at h4; cases h4
    | some e =>
      refine ⟨e, rfl, ?_⟩
      rw [h3]
      unfold dv dval
      rw [hf]
      rfl
  have he1 := List.mem_of_find?_eq_some he
  have he2 : e.1 = q.1 := by simpa using List.find?_some he
  obtain ⟨p, hp, _, g2, _, g4, g5⟩ := flat_mem hb hc e he1
  rw [he2] at g2 g5
  rw [h5] at g4
  exact ⟨h1, g4, p, hp, g2, g5⟩
theorem spread_can (hb : 2 ≤ b) (hc : Can ps) (hn : ∀ p ∈ ps, p.1 % b ≠ 0) : Can (spreadM b ps) := by
  refine ⟨?_, fun q hq => ?_⟩
  · unfold spreadM
    rw [spreadD_is hb hc hn]
    exact (inOrd_facts (flat_nodup hb hc hn)).1
  · obtain ⟨h1, _, p, hp, h2, _⟩ := spread_mem hb hc hn q hq
    have := (hc.pos p hp).1
    exact ⟨by omega, h1⟩
def dueM (b : Int) (ps : List (Int × Int)) : List (Int × Int) := ps.flatMap fun q => (digsM b q).filter fun e => decide (0 < e.2)
theorem cnt_filter (k : Int) : ∀ {l : List (Int × Int)}, (∀ q ∈ l, 0 ≤ q.2) → cnt (l.filter fun e => decide (0 < e.2)) k = cnt l k
  | [], _ => rfl
  | q :: l, h => by
    have ih := cnt_filter k (l := l) fun r hr => h r (List.mem_cons_of_mem _ hr)
    have h0 := h q List.mem_cons_self
    rw [List.filter_cons]
    by_cases e : 0 < q.2
    · rw [if_pos (decide_eq_true e)]
      show _ + cnt (List.filter _ l) k = _ + cnt l k
      rw [ih]
    · rw [if_neg (by simpa using e), ih]
      show cnt l k = (if q.1 = k then q.2 else 0) + cnt l k
      split <;> omega
theorem spread_due (hb : 2 ≤ b) (hc : Can ps) (hn : ∀ p ∈ ps, p.1 % b ≠ 0) : spreadM b ps = putM (dueM b ps) := by
  have hpos : ∀ q ∈ dueM b ps, 0 < q.1 ∧ 0 < q.2 := fun q hq => by
    obtain ⟨p, hp, hq⟩ := List.mem_flatMap.mp hq
    obtain ⟨h1, h2⟩ := List.mem_filter.mp hq
    have h := hc.pos p hp
    have g := digs_keys hb _ _ _ h.1 (Int.le_of_lt h.2) q h1
    exact ⟨by have := g.2.1; omega, of_decide_eq_true h2⟩
  refine can_uniq (spread_can hb hc hn) (put_can hpos) fun k => ?_
  rw [spread_cnt hb hc hn, (put_facts _).2.1 k]
  unfold dueM
  rw [cnt_flat, cnt_flat]
  refine sum_congr' fun p hp => (cnt_filter k fun q hq => ?_).symm
  have h := hc.pos p hp
  exact (digs_keys hb _ _ _ h.1 (Int.le_of_lt h.2) q hq).2.2.1
theorem spread_tot (hb : 2 ≤ b) (hc : Can ps) (hn : ∀ p ∈ ps, p.1 % b ≠ 0) : totM (spreadM b ps) = totM ps := by
  rw [tot_wsum, wsum_cnt _ (spread_cnt hb hc hn), wsum_flat]
  unfold totM
  refine sum_congr' fun p hp => ?_
  have h := hc.pos p hp
  have := digs_wsum hb (fun k => k) p.1 (fun i => rfl) (p.2.toNat + 1) 0 p.2 (Int.le_of_lt h.2) (by omega)
  rw [Int.pow_zero, Int.mul_one] at this
  exact this
theorem gather_cnt (hb : 2 ≤ b) (hq : ∀ q ∈ qs, 0 < q.1 ∧ 0 < q.2) (k : Int) : cnt (gatherM b qs) k = wsum (Wt b k) qs := by
  obtain ⟨t1, t2, t3⟩ := tal_facts (qs.map (stripM b))
  unfold gatherM
  rw [(inOrd_facts t1).2.2 k, t2 k, cnt_strip hb k fun q h => (hq q h).1]
  have h0 : 0 ≤ wsum (Wt b k) qs := by
    rw [← cnt_strip hb k fun q h => (hq q h).1]
    refine cnt_nonneg fun r hr => ?_
    obtain ⟨q, h, rfl⟩ := List.mem_map.mp hr
    obtain ⟨c, e, hco⟩ := co_of hb (hq q h).1
    rw [show stripM b q = stripM b (q.1, q.2) from rfl, strip_is hb hco]
    exact Int.mul_nonneg (Int.le_of_lt (hq q h).2) (Int.le_of_lt (pow_pos' hb e))
  by_cases h : 0 < wsum (Wt b k) qs
  · rw [if_pos h]
  · rw [if_neg h]; omega
theorem gather_mem (hb : 2 ≤ b) (hq : ∀ q ∈ qs, 0 < q.1 ∧ 0 < q.2) : ∀ p ∈ gatherM b qs, 0 < p.1 ∧ 0 < p.2 ∧ p.1 % b ≠ 0 ∧ ∃ q ∈ qs, p.1 ≤ q.1 := fun p hp => by
  obtain ⟨t1, t2, t3⟩ := tal_facts (qs.map (stripM b))
  unfold gatherM at hp
  obtain ⟨h1, h2, _⟩ := (inOrd_facts t1).2.1 p hp
  obtain ⟨r, hr, e⟩ := List.mem_map.mp ((t3 p.1).mp h2)
  obtain ⟨q, h, rfl⟩ := List.mem_map.mp hr
  obtain ⟨c, e0, hco⟩ := co_of hb (hq q h).1
  rw [show stripM b q = stripM b (q.1, q.2) from rfl, strip_is hb hco] at e
  have e' : c = p.1 := e
  rw [← e']
  exact ⟨hco.2.2, h1, hco.2.1, q, h, co_le hb hco⟩
theorem gather_can (hb : 2 ≤ b) (hq : ∀ q ∈ qs, 0 < q.1 ∧ 0 < q.2) : Can (gatherM b qs) := by
  refine ⟨?_, fun p hp => ?_⟩
  · unfold gatherM
    exact (inOrd_facts (tal_facts _).1).1
  · obtain ⟨h1, h2, _⟩ := gather_mem hb hq p hp
    exact ⟨h1, h2⟩
theorem gather_len : (gatherM b qs).length ≤ qs.length := by
  unfold gatherM inOrdM
  rw [List.length_map]
  have h1 := List.length_filter_le (fun k => decide (0 < (dval (tal (qs.map (stripM b))) k).getD 0)) (asc ((tal (qs.map (stripM b))).map (·.1))).reverse
  rw [List.length_reverse, (asc_perm _).length_eq, List.length_map] at h1
  have h2 := tal_len (qs.map (stripM b)) (qs.map (stripM b)).length
  rw [List.take_length, List.length_map] at h2
  omega
theorem gather_spread (hb : 2 ≤ b) (hc : Can ps) (hn : ∀ p ∈ ps, p.1 % b ≠ 0) : gatherM b (spreadM b ps) = ps := by
  have hs := spread_can hb hc hn
  refine can_uniq (gather_can hb hs.pos) hc fun k => ?_
  rw [gather_cnt hb hs.pos, wsum_cnt _ (spread_cnt hb hc hn), wsum_flat, cnt_sum]
  refine sum_congr' fun p hp => ?_
  have h := hc.pos p hp
  have hW : ∀ i : Nat, Wt b k (p.1 * b ^ i) = (if p.1 = k then b ^ i else 0) := fun i => wt_co hb ⟨rfl, hn p hp, h.1⟩
  have hW0 : Wt b k p.1 = if p.1 = k then 1 else 0 := by
    have := hW 0
    rw [Int.pow_zero, Int.mul_one] at this
    exact this
  have := digs_wsum hb (Wt b k) p.1 (fun i => by rw [hW i, hW0]; split <;> simp) (p.2.toNat + 1) 0 p.2 (Int.le_of_lt h.2) (by omega)
  rw [Int.pow_zero, Int.mul_one, Int.mul_one, hW0] at this
  show wsum (Wt b k) (digs (p.2.toNat + 1) b p.1 p.2) = _
  rw [this]
  split <;> simp
theorem pick_sum (F : Int → Int) (hF : F 0 = 0) (c : Int) : ∀ {ps : List (Int × Int)}, (ps.Pairwise fun a b => b.1 < a.1) → (ps.map fun p => if p.1 = c then F p.2 else 0).sum = F (cnt ps c)
  | [], _ => hF.symm
  | p :: ps, h => by
    obtain ⟨h1, h2⟩ := List.pairwise_cons.mp h
    rw [List.map_cons, List.sum_cons, pick_sum F hF c h2]
    show _ = F ((if p.1 = c then p.2 else 0) + cnt ps c)
    by_cases e : p.1 = c
    · have z : cnt ps c = 0 := cnt_none fun r hr => by have := h1 r hr; omega
      rw [if_pos e, if_pos e, z, hF, Int.add_zero, Int.add_zero]
    · rw [if_neg e, if_neg e, Int.zero_add, Int.zero_add]
theorem can_cnt (hc : Can qs) (hlt : ∀ q ∈ qs, q.2 < b) (hb : 2 ≤ b) (k : Int) : 0 ≤ cnt qs k ∧ cnt qs k < b := by
  refine ⟨cnt_nonneg fun q hq => Int.le_of_lt (hc.pos q hq).2, ?_⟩
  have : ∀ {l : List (Int × Int)}, (l.Pairwise fun a b => b.1 < a.1) → (∀ q ∈ l, q.2 < b) → cnt l k < b := by
    intro l
    induction l with
    | nil => intro _ _; show (0 : Int) < b; omega
    | cons p l ih =>
      intro h g
      obtain ⟨h1, h2⟩ := List.pairwise_cons.mp h
      show (if p.1 = k then p.2 else 0) + cnt l k < b
      by_cases e : p.1 = k
      · have z : cnt l k = 0 := cnt_none fun r hr => by have := h1 r hr; omega
        rw [if_pos e, z]
        have := g p List.mem_cons_self
        omega
      · rw [if_neg e]
        have := ih h2 fun q hq => g q (List.mem_cons_of_mem _ hq)
        omega
  exact this hc.desc hlt
theorem spread_gather (hb : 2 ≤ b) (hc : Can qs) (hlt : ∀ q ∈ qs, q.2 < b) : spreadM b (gatherM b qs) = qs := by
  have hg := gather_can hb hc.pos
  have hn : ∀ p ∈ gatherM b qs, p.1 % b ≠ 0 := fun p hp => (gather_mem hb hc.pos p hp).2.2.1
  refine can_uniq (spread_can hb hg hn) hc fun k => ?_
  rw [spread_cnt hb hg hn]
  by_cases hk : 0 < k
  · obtain ⟨c, e, hco⟩ := co_of hb hk
    have h1 : cnt ((gatherM b qs).flatMap (digsM b)) k = ((gatherM b qs).map fun p => if p.1 = c then p.2 / b ^ e % b else 0).sum := by
      rw [cnt_flat]
      refine sum_congr' fun p hp => ?_
      have h := hg.pos p hp
      by_cases hpc : p.1 = c
      · rw [if_pos hpc, hco.1, ← hpc]
        exact digs_cnt hb _ _ _ e h.1 (Int.le_of_lt h.2) (by omega)
      · rw [if_neg hpc]
        refine cnt_none fun q hq z => hpc ?_
        obtain ⟨⟨i, k1⟩, _⟩ := digs_keys hb _ _ _ h.1 (Int.le_of_lt h.2) q hq
        exact (co_uniq hb (hn p hp) hco.2.1 (by rw [← k1, z, ← hco.1])).1
    rw [h1, pick_sum (fun t => t / b ^ e % b) (show (0 : Int) / b ^ e % b = 0 by rw [Int.zero_ediv, Int.zero_emod]) c hg.desc, gather_cnt hb hc.pos]
    have hN : ∃ n : Nat, ∀ q ∈ qs, q.1 < n := by
      have : ∀ l : List (Int × Int), ∃ n : Nat, ∀ q ∈ l, q.1 < n := by
        intro l
        induction l with
        | nil => exact ⟨0, fun q hq => nomatch hq⟩
        | cons p l ih =>
          obtain ⟨n, hn⟩ := ih
          refine ⟨n + p.1.toNat + 1, fun q hq => ?_⟩
          rcases List.mem_cons.mp hq with rfl | hq
          · omega
          · have := hn q hq; omega
      exact this qs
    obtain ⟨n, hn'⟩ := hN
    rw [wsum_Vs hb hco.2.1 hco.2.2 n fun q hq => ⟨(hc.pos q hq).1, hn' q hq⟩, Vs_digit hb e n _ fun e => can_cnt hc hlt hb _]
    by_cases he : e < n
    · rw [if_pos he, ← hco.1]
    · rw [if_neg he]
      refine (cnt_none fun q hq z => ?_).symm
      have h2 := hn' q hq
      have h3 := co_lt hb hco
      omega
  · rw [cnt_none, cnt_none]
    · intro q hq z; have := (hc.pos q hq).1; omega
    · intro q hq z
      obtain ⟨p, hp, _, h2, _⟩ := flat_mem hb hg q hq
      have := (hg.pos p hp).1
      omega
theorem gather_tot (hb : 2 ≤ b) (hq : ∀ q ∈ qs, 0 < q.1 ∧ 0 < q.2) : totM (gatherM b qs) = totM qs := by
  rw [tot_wsum, wsum_cnt (fun k => k) (b := qs.map (stripM b)) fun k => by rw [gather_cnt hb hq, cnt_strip hb k fun q h => (hq q h).1]]
  rw [wsum_sum, List.map_map]
  unfold totM
  refine sum_congr' fun q h => ?_
  obtain ⟨c, e, hco⟩ := co_of hb (hq q h).1
  show (stripM b q).1 * (stripM b q).2 = _
  rw [show stripM b q = stripM b (q.1, q.2) from rfl, strip_is hb hco]
  show c * (q.2 * b ^ e) = q.1 * q.2
  rw [hco.1, Int.mul_comm q.2, ← Int.mul_assoc]
end
end Pw

set_option Elab.async false
set_option linter.all false
set_option maxRecDepth 100000
set_option maxHeartbeats 2000000
set_option autoImplicit false
namespace Pw
section
variable {b : Int} {ps qs : List (Int × Int)}
theorem inOrd_len (d : List (Int × Int)) : (inOrdM d).length ≤ d.length := by
  unfold inOrdM
  rw [List.length_map]
  have h1 := List.length_filter_le (fun k => decide (0 < (dval d k).getD 0)) (asc (d.map (·.1))).reverse
  rw [List.length_reverse, (asc_perm _).length_eq, List.length_map] at h1
  exact h1
theorem digs_le (hb : 2 ≤ b) {n : Nat} (h : ∀ p ∈ ps, p.2 < 2 ^ n) : (ps.flatMap (digsM b)).length ≤ ps.length * n :=
  flat_len fun p hp => digs_len b hb n _ _ _ (h p hp)
theorem due_le (hb : 2 ≤ b) {n : Nat} (h : ∀ p ∈ ps, p.2 < 2 ^ n) : (dueM b ps).length ≤ ps.length * n :=
  flat_len fun p hp => Nat.le_trans (List.length_filter_le _ _) (digs_len b hb n _ _ _ (h p hp))
theorem spread_le (hb : 2 ≤ b) {n : Nat} (h : ∀ p ∈ ps, p.2 < 2 ^ n) : (spreadM b ps).length ≤ ps.length * n := by
  refine Nat.le_trans (inOrd_len _) ?_
  unfold spreadD
  have h1 := foldput_len (ps.flatMap (digsM b)) []
  have h2 := digs_le (b := b) hb h
  rw [List.length_nil] at h1
  omega
theorem sm_of {n : Nat} (hn : n ≤ 5000) (h : ∀ p ∈ ps, 0 < p.1 ∧ 0 < p.2 ∧ p.1 < 2 ^ n ∧ p.2 < 2 ^ n) : SmP ps := fun p hp => by
  obtain ⟨h1, h2, h3, h4⟩ := h p hp
  have e : (2 : Nat) ^ n ≤ 2 ^ 5000 := Nat.pow_le_pow_right (by decide) hn
  exact ⟨Nat.lt_of_lt_of_le (nab_lt (by omega) h3) e, Nat.lt_of_lt_of_le (nab_lt (by omega) h4) e⟩
theorem pow_mono {a b : Nat} (h : a ≤ b) : (2 : Int) ^ a ≤ 2 ^ b := by
  have := Nat.pow_le_pow_right (n := 2) (by decide) h
  have h2 : ((2 ^ a : Nat) : Int) ≤ ((2 ^ b : Nat) : Int) := Int.ofNat_le.mpr this
  rw [Int.natCast_pow, Int.natCast_pow] at h2
  exact h2
theorem mul_lt2 {x y : Int} {m n : Nat} (hx : 0 < x) (hy : 0 < y) (h1 : x < 2 ^ m) (h2 : y < 2 ^ n) : x * y < 2 ^ (m + n) := by
  have : x * y < 2 ^ m * 2 ^ n := Int.mul_lt_mul h1 (by omega) hy (Int.le_of_lt (Int.pow_pos (by decide)))
  rw [← Int.pow_add] at this
  exact this
/-- bounds of a sum led by figures -/
theorem spread_sz (hb : 2 ≤ b) {k m n : Nat} (hk : b < 2 ^ k) (hc : Can ps) (hn : ∀ p ∈ ps, p.1 % b ≠ 0) (hs : ∀ p ∈ ps, p.1 < 2 ^ m ∧ p.2 < 2 ^ n) : ∀ q ∈ spreadM b ps, 0 < q.1 ∧ 0 < q.2 ∧ q.1 < 2 ^ (m + n) ∧ q.2 < 2 ^ k ∧ q.2 < b := fun q hq => by
  obtain ⟨h1, h2, p, hp, h3, h4⟩ := spread_mem hb hc hn q hq
  obtain ⟨g1, g2⟩ := hc.pos p hp
  have h5 := hs p hp
  have h6 := mul_lt2 g1 g2 h5.1 h5.2
  exact ⟨by omega, h1, by omega, by omega, h2⟩
def due1 (b : Int) (q : Int × Int) : List (Int × Int) := (digsM b q).filter fun e => decide (0 < e.2)
def dueF (b p t : Int) : List (Int × Int) := (digs (t.toNat + 1) b p t).filter fun e => decide (0 < e.2)
theorem dueF_step (hb : 2 ≤ b) {p t : Int} (ht : 0 < t) : dueF b p t = (if 0 < t % b then [(p, t % b)] else []) ++ dueF b (p * b) (t / b) := by
  have hlt : t / b < t := Int.ediv_lt_self_of_pos_of_ne_one ht (by omega)
  have hge : 0 ≤ t / b := Int.ediv_nonneg (by omega) (by omega)
  have e : digs (t.toNat + 1) b p t = (p, t % b) :: digs t.toNat b (p * b) (t / b) := by
    show (if 0 < t then _ else _) = _
    rw [if_pos ht]
  unfold dueF
  rw [e, digs_fuel b hb t.toNat ((t / b).toNat + 1) (p * b) (t / b) (by omega) (by omega), List.filter_cons]
  show (if decide (0 < t % b) = true then _ else _) = _
  by_cases h : 0 < t % b
  · rw [if_pos (decide_eq_true h), if_pos h]; rfl
  · rw [if_neg (by simpa using h), if_neg h]; rfl
theorem dueF_end {p t : Int} (ht : ¬ 0 < t) : dueF b p t = [] := by
  unfold dueF
  have e : digs (t.toNat + 1) b p t = [] := by
    show (if 0 < t then _ else _) = _
    rw [if_neg ht]
  rw [e]; rfl
theorem dueF_len (hb : 2 ≤ b) {p t : Int} {n : Nat} (h : t < 2 ^ n) : (dueF b p t).length ≤ n := Nat.le_trans (List.length_filter_le _ _) (digs_len b hb n _ _ _ h)
theorem due_take {i : Nat} {q : Int × Int} (h : ps[i]? = some q) : dueM b (ps.take (i + 1)) = dueM b (ps.take i) ++ dueF b q.1 q.2 := flat_take h
end
section
variable {b : Int} {ps qs : List (Int × Int)}
theorem tot_mem : ∀ {l : List (Int × Int)}, (∀ p ∈ l, 0 < p.1 ∧ 0 < p.2) → ∀ p ∈ l, p.2 ≤ totM l
  | [], _, p, hp => nomatch hp
  | q :: l, h, p, hp => by
    have hq := h q List.mem_cons_self
    have h1 : 0 < q.1 * q.2 := Int.mul_pos hq.1 hq.2
    have hl : ∀ l : List (Int × Int), (∀ p ∈ l, 0 < p.1 ∧ 0 < p.2) → 0 ≤ totM l := by
      intro l
      induction l with
      | nil => intro _; exact Int.le_refl _
      | cons r l ih =>
        intro g
        have hr := g r List.mem_cons_self
        have h1 : 0 < r.1 * r.2 := Int.mul_pos hr.1 hr.2
        have := ih fun s hs => g s (List.mem_cons_of_mem _ hs)
        have e : totM (r :: l) = r.1 * r.2 + totM l := by unfold totM; rw [List.map_cons, List.sum_cons]
        omega
    have e : totM (q :: l) = q.1 * q.2 + totM l := by unfold totM; rw [List.map_cons, List.sum_cons]
    have g : ∀ r ∈ l, 0 < r.1 ∧ 0 < r.2 := fun r hr => h r (List.mem_cons_of_mem _ hr)
    have h0 := hl l g
    rcases List.mem_cons.mp hp with rfl | hp
    · have : 1 * p.2 ≤ p.1 * p.2 := Int.mul_le_mul_of_nonneg_right (by omega) (by omega)
      omega
    · have := tot_mem g p hp
      omega
theorem tot_lt {n : Nat} : ∀ {l : List (Int × Int)}, (∀ p ∈ l, 0 < p.1 ∧ 0 < p.2 ∧ p.1 < 2 ^ n ∧ p.2 < 2 ^ n) → totM l ≤ l.length * 2 ^ (n + n)
  | [], _ => by
    show (0 : Int) ≤ ((0 : Nat) : Int) * 2 ^ (n + n)
    rw [Int.natCast_zero, Int.zero_mul]
    exact Int.le_refl _
  | q :: l, h => by
    obtain ⟨h1, h2, h3, h4⟩ := h q List.mem_cons_self
    have h5 := mul_lt2 h1 h2 h3 h4
    have ih := tot_lt (l := l) fun r hr => h r (List.mem_cons_of_mem _ hr)
    have e : totM (q :: l) = q.1 * q.2 + totM l := by unfold totM; rw [List.map_cons, List.sum_cons]
    rw [e, List.length_cons, Int.natCast_succ, Int.add_mul, Int.one_mul]
    omega
theorem gather_sz (hb : 2 ≤ b) (hc : Can ps) (hl : ps.length ≤ 64) (hs : ∀ p ∈ ps, p.1 < 2 ^ 150 ∧ p.2 < 2 ^ 150) : ∀ q ∈ gatherM b ps, 0 < q.1 ∧ 0 < q.2 ∧ q.1 < 2 ^ 150 ∧ q.2 < 2 ^ 310 := fun q hq => by
  obtain ⟨h1, h2, h3, p, hp, h4⟩ := gather_mem hb hc.pos q hq
  have h5 := tot_mem (gather_can hb hc.pos).pos q hq
  rw [gather_tot hb hc.pos] at h5
  have h6 := tot_lt (n := 150) (l := ps) fun p hp => ⟨(hc.pos p hp).1, (hc.pos p hp).2, (hs p hp).1, (hs p hp).2⟩
  have h7 := (hs p hp).1
  have h8 : (ps.length : Int) * 2 ^ (150 + 150) ≤ 64 * 2 ^ (150 + 150) := Int.mul_le_mul_of_nonneg_right (by omega) (Int.le_of_lt (Int.pow_pos (by decide)))
  have h9 : (64 : Int) * 2 ^ (150 + 150) < 2 ^ 310 := by
    have e : (2 : Int) ^ 310 = 2 ^ 300 * 2 ^ 10 := by rw [← Int.pow_add]
    rw [e, Int.mul_comm]
    exact Int.mul_lt_mul_of_pos_left (by decide) (Int.pow_pos (by decide))
  exact ⟨h1, h2, by omega, by omega⟩
end
end Pw

set_option Elab.async false
set_option linter.all false
set_option maxRecDepth 100000
set_option maxHeartbeats 2000000
set_option autoImplicit false
namespace Pw
/-! ### sorted alike -/
section
open PySem PySem.W PyProof.Rows
theorem data_perm {ds es : List PyData} (h : ds.Perm es) (anti : ∀ a ∈ ds, ∀ b ∈ ds, keyToks a = keyToks b → a = b) : ds.mergeSort (dataLe false id) = es.mergeSort (dataLe false id) := by
  have hle : ∀ a b : PyData, dataLe false id a b = !(PyProof.Rows.lexLt itemOrd (keyToks b) (keyToks a)) := fun a b => rfl
  have tr : ∀ a b c : PyData, dataLe false id a b = true → dataLe false id b c = true → dataLe false id a c = true := fun a b c h1 h2 => by
    rw [hle, Bool.not_eq_true'] at h1 h2 ⊢
    cases e : PyProof.Rows.lexLt itemOrd (keyToks c) (keyToks a) with
    | false => rfl
    | true =>
      rcases lex_negTrans (O := itemOrd) _ (keyToks b) _ e with q | q
      · rw [q] at h2; cases h2
      · rw [q] at h1; cases h1
  have tot : ∀ a b : PyData, (dataLe false id a b || dataLe false id b a) = true := fun a b => by
    rw [hle, hle]
    cases e : PyProof.Rows.lexLt itemOrd (keyToks b) (keyToks a) with
    | false => rfl
    | true =>
      cases e2 : PyProof.Rows.lexLt itemOrd (keyToks a) (keyToks b) with
      | false => rfl
      | true =>
        have := lex_trans (O := itemOrd) _ _ _ e e2
        rw [lex_irrefl] at this
        cases this
  have p1 := List.mergeSort_perm ds (dataLe false id)
  have p2 := List.mergeSort_perm es (dataLe false id)
  have s1 := List.pairwise_mergeSort (le := dataLe false id) tr tot ds
  have s2 := List.pairwise_mergeSort (le := dataLe false id) tr tot es
  refine (p1.trans (h.trans p2.symm)).eq_of_pairwise (fun a b ha hb h1 h2 => ?_) s1 s2
  have ha' := p1.mem_iff.mp ha
  have hb' := h.mem_iff.mpr (p2.mem_iff.mp hb)
  rw [hle, Bool.not_eq_true'] at h1 h2
  exact anti a ha' b hb' (lex_total (O := itemOrd) _ _ h2 h1)
theorem toks_anti {a b : PyData} (h : alike a b = true) (e : keyToks a = keyToks b) : PyData.eqv a b = true := by
  cases q : PyData.eqv a b with
  | true => rfl
  | false =>
    have h1 := (toks_eqv a b h).2 q [] [Sum.inl 0]
    rw [e] at h1
    have h2 := lex_pre (keyToks b) [] [Sum.inl 0]
    rw [h2] at h1
    rw [lex_irrefl] at h1
    exact absurd h1 (by decide +kernel)
theorem alike_prs : ∀ ps qs : List (Int × Int), alikeAll (ps.map pr) (qs.map pr) = true
  | [], _ => by simp [alikeAll]
  | _ :: _, [] => by simp [alikeAll]
  | p :: ps, q :: qs => by
    show alikeAll (pr p :: ps.map pr) (pr q :: qs.map pr) = true
    rw [alikeAll, alike_prs ps qs]
    simp [alike, alikeAll]
theorem alike_dP (ps qs : List (Int × Int)) : alike (dP ps) (dP qs) = true := by
  rw [alike]; exact alike_prs ps qs
theorem sort_dP {a b : List (List (Int × Int))} (h : a.Perm b) : (a.map dP).mergeSort (dataLe false id) = (b.map dP).mergeSort (dataLe false id) := by
  refine data_perm (h.map dP) fun x hx y hy e => ?_
  obtain ⟨p, _, rfl⟩ := List.mem_map.mp hx
  obtain ⟨q, _, rfl⟩ := List.mem_map.mp hy
  have := toks_anti (alike_dP p q) e
  rw [eqv_dP] at this
  rw [of_decide_eq_true this]
theorem alike_all (a : List (List (Int × Int))) : AllAlike (a.map dP) := AllAlike.of alike_dP
theorem sortable_all (a : List (List (Int × Int))) : Sortable (a.map dP) := Sortable.others fun b => ⟨fun z => (nomatch z), fun xs z => (nomatch z)⟩
end
def firstM (n b : Int) : List (List Int) := (allF 20 n n).filter fun r => (r.map fun k => decide (0 < k % b)).all id
def secondM (n b : Int) : List (List Int) := (allF 20 n n).filter fun r => (r.map fun k => decide (((r.count k : Nat) : Int) < b)).all id
def smallOk (n b : Int) : Bool := ((firstM n b).map fun r => spreadM b (pairsM r)).isPerm ((secondM n b).map pairsM) && (firstM n b).all fun r => decide ((pairsM r).length ≤ 70) && sumB (pairsM r) && (pairsM r).all fun p => decide (p.1 < 1000) && decide (p.2 < 1000) && decide (p.1 % b ≠ 0)
def rowsOk (n : Int) : Bool := (allF 20 n n).all fun r => decide (r.length ≤ 100)
theorem rows_all : ∀ n : Nat, n < 9 → rowsOk n = true := by decide +kernel
theorem small_all : ∀ n : Nat, n < 9 → smallOk n 2 = true ∧ smallOk n 3 = true := by decide +kernel
end Pw

set_option Elab.async false
set_option linter.all false
set_option maxRecDepth 100000
set_option maxHeartbeats 2000000
set_option autoImplicit false
namespace Pw
open PySem PySem.Spec PyProof.Rows L2
open Evl (Ex)
open Pw in
local macro_rules | `(tactic| walk_at "ev") => `(tactic| first
  | with_reducible exact ev_int
  | with_reducible exact ev_bl
  | with_reducible exact ev_non
  | exact ev_var rfl
  | exact ea_nil
  | with_reducible exact eo_none
  | with_reducible exact et_yes
  | ((refine' ea_cons ?_ ?_) <;> walk_at "ev")
  | ((with_reducible refine' et_test ?_) <;> walk_at "ev")
  | ((with_reducible refine' et_B ?_) <;> walk_at "ev")
  | ((with_reducible refine' et_not ?_) <;> walk_at "ev")
  | ((with_reducible refine' et_and ?_ (fun h_and => ?_)) <;> walk_at "ev")
  | ((with_reducible refine' et_or ?_ (fun h_or => ?_)) <;> walk_at "ev")
  | ((with_reducible refine' ev_andV ?_ (fun h_and => ?_)) <;> walk_at "ev")
  | ((with_reducible refine' ev_orV ?_ (fun h_or => ?_)) <;> walk_at "ev")
  | ((with_reducible refine' ev_notV ?_) <;> walk_at "ev")
  | ((with_reducible refine' ev_ifI ?_ (fun h_if => ?_) (fun h_if => ?_)) <;> walk_at "ev")
  | ((with_reducible refine' ev_un ?_ op1_neg) <;> walk_at "ev")
  | ((with_reducible refine' (el_cat ?_ ?_ ?_).ev) <;> walk_at "ev")
  | ((with_reducible refine' el_cat ?_ ?_ ?_) <;> walk_at "ev")
  | ((with_reducible refine' ev_op ?_ ?_ ?_) <;> walk_at "ev")
  | ((with_reducible refine' ev_tup ?_ ?_) <;> walk_at "ev")
  | ((with_reducible refine' (el_lst ?_ ?_).ev) <;> walk_at "ev")
  | ((with_reducible refine' el_lst ?_ ?_) <;> walk_at "ev")
  | ((with_reducible refine' (el_sl ?_ ?_ ?_).ev) <;> walk_at "ev")
  | ((with_reducible refine' el_sl ?_ ?_ ?_) <;> walk_at "ev")
  | ((with_reducible refine' (el_rev ?_).ev) <;> walk_at "ev")
  | ((with_reducible refine' el_rev ?_) <;> walk_at "ev")
  | ((with_reducible refine' eo_some ?_) <;> walk_at "ev")
  | ((with_reducible refine' (el_list ?_).ev) <;> walk_at "ev")
  | ((with_reducible refine' el_list ?_) <;> walk_at "ev")
  | ((with_reducible refine' ev_call ?_ ?_) <;> walk_at "ev")
  | ((with_reducible refine' (el_call ?_ ?_).ev) <;> walk_at "ev")
  | ((with_reducible refine' el_call ?_ ?_) <;> walk_at "ev")
  | ((with_reducible refine' (el_sortedD ?_).ev) <;> walk_at "ev")
  | ((with_reducible refine' el_sortedD ?_) <;> walk_at "ev")
  | ((with_reducible refine' (el_sortedDR ?_).ev) <;> walk_at "ev")
  | ((with_reducible refine' el_sortedDR ?_) <;> walk_at "ev")
  | ((with_reducible refine' ev_dgetD ?_ ?_ ?_) <;> walk_at "ev")
  | ((with_reducible refine' ev_cb ?_ ?_) <;> walk_at "ev")
  | with_reducible exact op2_I0
  | with_reducible exact op2_B0
  | with_reducible exact op2_eqI
  | with_reducible exact op2_neI
  | with_reducible exact op2_eqB
  | with_reducible exact op2_neB
  | with_reducible exact op2_isB
  | with_reducible exact op2_isNB
  | with_reducible exact op2_inT
  | with_reducible exact op2_inL
  | (with_reducible refine' op2_eqD ?_ ?_)
  | (with_reducible refine' op2_neD ?_ ?_)
  | ((with_reducible refine' op2_I ?_) <;> walk_at "side")
  | (with_reducible refine' op2_ixL ?_)
  | (with_reducible refine' op2_ixT ?_)
  | (show List.length _ ≤ 100000; exact Nat.le_of_ble_eq_true rfl)
  | exact cb_len
  | exact cb_lenT
  | exact cb_minT
  | exact cb_abs
  | exact cb_max2
  | exact cb_min2
  | exact cb_intB
  | exact cb_sum
  | exact cb_any
  | exact cb_all
  | skip)
local macro_rules | `(tactic| walk_at "side") => `(tactic| first
  | exact Nat.le_of_ble_eq_true rfl
  | (with_reducible exact mulok_l (by decide))
  | (with_reducible exact mulok_r (by decide))
  | (show (0 : Int) < _; decide)
  | (show (0 : Int) < _; omega)
  | (show (0 : Int) ≤ _ ∧ _ ∧ _; decide)
  | skip)

section
variable {X : Cx} {K : PySem.W.Frag} {o e : Expr} {es : List Expr} {to : TE} {t : TA} {apos cpos : Pos}
theorem pe_cntK (hK : X.K = K) (ho : PE X o to) (ha : PA X (e :: es) t) (hbase : attributeBase o "count" X.env (eval o X.env) = eval o X.env := by rfl)
    (hfew : ((backTo cpos (starEach (e :: es) X.env)).all (fun x => !x.1) && (backToKw cpos (keywordEach [] X.env)).all (fun x => x.1.isSome)
      && decide ((e :: es).length + ([] : List Keyword).length + (if ([] : List Keyword).isEmpty then 0 else 1) < 30)) = true := by rfl)
    (hline : (apos.endLine == cpos.line) = true := by rfl) (hs : starEach (e :: es) X.env = (false, eval e X.env) :: starEach es X.env := by rfl) (hplain : (backTo cpos (starEach es X.env)).any (·.1) = false := by rfl) :
    PE X (.Call (.Attribute o "count" apos) (e :: es) [] cpos) (tBM K "list" (rCntI K) to t) := hK ▸ pe_bm PySem.F.plainAttrs_list PySem.F.slot_list_count PySem.F.type_list_count mt_lcount ho ha hbase hfew hline hs hplain
end
theorem blk_env {q : Str} {sc cs scope : Scope} {L a : Addr} {cd : Value} {N : List Str} {own : List (Str × Nat)} (h : blkC N (relabel cs (envOfC q sc 0 0 .none)) scope own = true) : blkC N (relabel cs (envOfC q sc L a cd)) scope own = true := h
section
variable {K : PySem.W.Frag} {ρ : List Sl} {O : List (Addr × Ow)} {tb tk : TE} {ns : List Int} {k : Int}
theorem ev_cnt (h : Ev K ρ O tb (dI ns)) (hk : Ev K ρ O tk (.int k)) : Ev K ρ O (tBM K "list" (rCntI K) tb (tCons tk tNil)) (.int (ns.count k : Nat)) := fun H0 σ H s Q q =>
  h H0 σ H s _ fun v H1 e1 r1 => by
    obtain ⟨a, ws, rfl, hs, hr⟩ := r1.isList
    obtain rfl := hr.ints
    have hs' := Evl.ex_l (fr_ex s.base e1) hs
    refine ⟨.inl ⟨rfl, _, hs'⟩, hk H0 σ H1 (s.keep e1) _ fun u H2 e2 r2 => ?_⟩
    obtain rfl := r2.isInt
    exact ⟨a, ns, k, rfl, rfl, Evl.ex_l e2 hs', q _ H2 (e1.trans e2) (.int _)⟩
end
section
variable {P : Program} {w : World} {K : PySem.W.Frag} {mg : Str → Option Value} {base : Heap}
/-! ### all small sums led -/
def SSmall (ds : List PyData) (y : PyData) : Prop := ∃ (n : Nat) (b : Int), ds = [.int (n : Int), .int b] ∧ n < 9 ∧ (b = 2 ∨ b = 3) ∧ y = .bool true
abbrev dPP (l : List (List (Int × Int))) : PyData := .list (l.map dP)
theorem dataAll_refl : ∀ l : List (List (Int × Int)), PyData.eqvAll (l.map dP) (l.map dP) = true
  | [] => rfl
  | p :: l => by
    show PyData.eqvAll (dP p :: l.map dP) (dP p :: l.map dP) = true
    rw [PyData.eqvAll, eqv_dP, dataAll_refl l, decide_eq_true rfl]
    rfl
theorem canLay_dPs : ∀ l : List (List (Int × Int)), PyData.canLayAll0 (l.map dP) = true
  | [] => rfl
  | p :: l => by
    show PyData.canLayAll0 (dP p :: l.map dP) = true
    rw [PyData.canLayAll0, canLay_dPs l, PyData.canLay0, canLay_prs]
    rfl
theorem depth_dP (p : List (Int × Int)) : (dP p).depth ≤ 2 := by
  have := depth_prs p
  rw [PyData.depth]
  omega
theorem depth_dPs (l : List (List (Int × Int))) : ∀ d ∈ l.map dP, d.depth ≤ 50 := fun d hd => by
  obtain ⟨p, _, rfl⟩ := List.mem_map.mp hd
  have := depth_dP p
  omega
theorem depthAll_dPs : ∀ l : List (List (Int × Int)), PyData.depthAll (l.map dP) ≤ 2
  | [] => by simp [PyData.depthAll]
  | p :: l => by
    rw [List.map_cons, PyData.depthAll]
    have := depthAll_dPs l
    have := depth_dP p
    omega
theorem shaped_dPP (l : List (List (Int × Int))) : SeqAt.shaped (dPP l) = true := by
  unfold SeqAt.shaped
  rw [Bool.and_eq_true]
  refine ⟨?_, decide_eq_true ?_⟩
  · rw [PyData.canLay0]; exact canLay_dPs l
  · rw [PyData.depth]; have := depthAll_dPs l; omega
theorem all_dP : ∀ {xs : List PyData}, (∀ x ∈ xs, ∃ p, x = dP p) → ∃ l : List (List (Int × Int)), xs = l.map dP
  | [], _ => ⟨[], rfl⟩
  | x :: xs, h => by
    obtain ⟨p, rfl⟩ := h x List.mem_cons_self
    obtain ⟨l, rfl⟩ := all_dP fun y hy => h y (List.mem_cons_of_mem _ hy)
    exact ⟨p :: l, rfl⟩
theorem sorted_dPs (l : List (List (Int × Int))) : ∃ l' : List (List (Int × Int)), (l.map dP).mergeSort (PySem.W.dataLe false id) = l'.map dP := all_dP fun x hx => by
  obtain ⟨p, _, rfl⟩ := List.mem_map.mp (List.mem_mergeSort.mp hx)
  exact ⟨p, rfl⟩
end
end Pw

set_option Elab.async false
set_option linter.all false
set_option maxRecDepth 100000
set_option maxHeartbeats 2000000
set_option autoImplicit false
namespace Pw
/-! ### the sum of a script -/
section
theorem cnt_le {B : Int} {k : Int} : ∀ {l : List (Int × Int)}, (∀ p ∈ l, 0 ≤ p.2 ∧ p.2 ≤ B) → cnt l k ≤ l.length * B
  | [], _ => by
    show (0 : Int) ≤ ((0 : Nat) : Int) * B
    rw [Int.natCast_zero, Int.zero_mul]
    exact Int.le_refl _
  | q :: l, h => by
    have h1 := h q List.mem_cons_self
    have ih := cnt_le (k := k) (l := l) fun r hr => h r (List.mem_cons_of_mem _ hr)
    show (if q.1 = k then q.2 else 0) + cnt l k ≤ _
    rw [List.length_cons, Int.natCast_succ, Int.add_mul, Int.one_mul]
    split <;> omega
theorem lim_le (s : List Int) : limM s ≤ 900000 := by
  unfold limM pick3
  split
  · decide
  · split <;> decide
theorem tim_le (s : List Int) : timM s ≤ 900000 := by
  unfold timM pick3
  split
  · decide
  · split <;> decide
theorem num_range (c k : Int) {l : Int} (h : 0 < l) (hl : l ≤ 900000) : 0 ≤ numM c k l ∧ numM c k l < 10 ^ 40 := by
  unfold numM
  split
  · exact ⟨Int.emod_nonneg _ (by decide), Int.emod_lt_of_pos _ (by decide)⟩
  · have := drawM_range ((c + 977 * k) * (c + 31 * k + 5)) (k % 9 + 1) h
    refine ⟨this.1, Int.lt_of_lt_of_le this.2 (Int.le_trans hl (by decide))⟩
theorem item_range (s : List Int) (p : Int × Nat) : 0 < (itemM s p).1 ∧ (itemM s p).1 ≤ 10 ^ 40 ∧ 0 < (itemM s p).2 ∧ (itemM s p).2 ≤ 10 ^ 21 := by
  have h1 := num_range p.1 p.2 (limM_pos s) (lim_le s)
  have h2 : 0 ≤ (numM p.1 p.2 (limM s) * 48271 + 7 * (p.2 : Nat)) % 1000003 % timM s := Int.emod_nonneg _ (by have := timM_pos s; omega)
  have h3 : (numM p.1 p.2 (limM s) * 48271 + 7 * (p.2 : Nat)) % 1000003 % timM s < timM s := Int.emod_lt_of_pos _ (timM_pos s)
  have h4 : 0 ≤ numM p.1 p.2 (limM s) / 10 ^ 20 := Int.ediv_nonneg h1.1 (by decide)
  have h5 : numM p.1 p.2 (limM s) / 10 ^ 20 < 10 ^ 20 := Int.ediv_lt_of_lt_mul (by decide) (by rw [← Int.pow_add]; exact h1.2)
  have h6 := tim_le s
  have e20 : (10 : Int) ^ 20 = 100000000000000000000 := by decide
  have e21 : (10 : Int) ^ 21 = 1000000000000000000000 := by decide
  refine ⟨?_, ?_, ?_, ?_⟩
  · show 0 < 1 + numM p.1 p.2 (limM s); omega
  · show 1 + numM p.1 p.2 (limM s) ≤ 10 ^ 40; omega
  · show 0 < 1 + moreM s (numM p.1 p.2 (limM s)) p.2
    unfold moreM
    split <;> omega
  · show 1 + moreM s (numM p.1 p.2 (limM s)) p.2 ≤ _
    unfold moreM
    split <;> omega
theorem found_len (s : List Int) : (foundM s).length ≤ 63 := by
  unfold foundM
  rw [List.length_map, List.length_zipIdx, List.length_take]
  omega
theorem found_item {s : List Int} {p : Int × Int} (h : p ∈ foundM s) : ∃ q, p = itemM s q := by
  obtain ⟨q, _, rfl⟩ := List.mem_map.mp h
  exact ⟨q, rfl⟩
theorem sum_facts (s : List Int) : Can (sumM s) ∧ (sumM s).length ≤ 63 ∧ ∀ p ∈ sumM s, p.1 < 2 ^ 150 ∧ p.2 < 2 ^ 150 := by
  have hi : ∀ p ∈ foundM s, 0 < p.1 ∧ p.1 ≤ 10 ^ 40 ∧ 0 < p.2 ∧ p.2 ≤ 10 ^ 21 := fun p hp => by
    obtain ⟨q, rfl⟩ := found_item hp
    exact item_range s q
  have hl := found_len s
  obtain ⟨_, _, h3, h4⟩ := put_facts (foundM s)
  refine ⟨put_can fun p hp => ⟨(hi p hp).1, (hi p hp).2.2.1⟩, Nat.le_trans h4 hl, fun p hp => ?_⟩
  obtain ⟨g1, g2⟩ := h3 p hp
  obtain ⟨q, hq, e⟩ := List.mem_map.mp g1
  have h5 := hi q hq
  refine ⟨?_, ?_⟩
  · rw [← e]
    exact Int.lt_of_le_of_lt h5.2.1 (by decide)
  · rw [g2]
    have h6 := cnt_le (B := 10 ^ 21) (k := p.1) (l := foundM s) fun r hr => ⟨Int.le_of_lt (hi r hr).2.2.1, (hi r hr).2.2.2⟩
    have h7 : ((foundM s).length : Int) * 10 ^ 21 ≤ 63 * 10 ^ 21 := Int.mul_le_mul_of_nonneg_right (by omega) (by decide)
    exact Int.lt_of_le_of_lt (Int.le_trans h6 h7) (by decide)
theorem Can.filter {ps : List (Int × Int)} (h : Can ps) (c : Int × Int → Bool) : Can (ps.filter c) := ⟨h.desc.filter c, fun p hp => h.pos p (List.mem_filter.mp hp).1⟩
theorem Can.map2 {ps : List (Int × Int)} (h : Can ps) {f : Int → Int} (hf : ∀ t, 0 < t → 0 < f t) : Can (ps.map fun p => (p.1, f p.2)) := by
  refine ⟨?_, fun p hp => ?_⟩
  · rw [List.pairwise_map]
    exact h.desc
  · obtain ⟨q, hq, rfl⟩ := List.mem_map.mp hp
    exact ⟨(h.pos q hq).1, hf _ (h.pos q hq).2⟩
def lessM (b : Int) (t : Int) : Int := 1 + (t - 1) % (b - 1)
theorem less_range {b t : Int} (hb : 2 ≤ b) : 0 < lessM b t ∧ lessM b t < b := by
  unfold lessM
  have h1 := Int.emod_nonneg (t - 1) (show b - 1 ≠ 0 by omega)
  have h2 := Int.emod_lt_of_pos (t - 1) (show 0 < b - 1 by omega)
  omega
theorem less_le {b t : Int} (hb : 2 ≤ b) (ht : 0 < t) : lessM b t ≤ t := by
  unfold lessM
  have h1 := Int.mul_ediv_add_emod (t - 1) (b - 1)
  have h2 : 0 ≤ (t - 1) / (b - 1) := Int.ediv_nonneg (by omega) (by omega)
  have h3 : 0 ≤ (b - 1) * ((t - 1) / (b - 1)) := Int.mul_nonneg (by omega) h2
  omega
end
end Pw

set_option Elab.async false
set_option linter.all false
set_option maxRecDepth 100000
set_option maxHeartbeats 2000000
set_option autoImplicit false
namespace Pw
open PySem PySem.Spec PyProof.Rows L2
open Evl (Ex)
open Pw in
local macro_rules | `(tactic| walk_at "ev") => `(tactic| first
  | with_reducible exact ev_int
  | with_reducible exact ev_bl
  | with_reducible exact ev_non
  | exact ev_var rfl
  | exact ea_nil
  | with_reducible exact eo_none
  | with_reducible exact et_yes
  | ((refine' ea_cons ?_ ?_) <;> walk_at "ev")
  | ((with_reducible refine' et_test ?_) <;> walk_at "ev")
  | ((with_reducible refine' et_B ?_) <;> walk_at "ev")
  | ((with_reducible refine' et_not ?_) <;> walk_at "ev")
  | ((with_reducible refine' et_and ?_ (fun h_and => ?_)) <;> walk_at "ev")
  | ((with_reducible refine' et_or ?_ (fun h_or => ?_)) <;> walk_at "ev")
  | ((with_reducible refine' ev_andV ?_ (fun h_and => ?_)) <;> walk_at "ev")
  | ((with_reducible refine' ev_orV ?_ (fun h_or => ?_)) <;> walk_at "ev")
  | ((with_reducible refine' ev_notV ?_) <;> walk_at "ev")
  | ((with_reducible refine' ev_ifI ?_ (fun h_if => ?_) (fun h_if => ?_)) <;> walk_at "ev")
  | ((with_reducible refine' ev_un ?_ op1_neg) <;> walk_at "ev")
  | ((with_reducible refine' (el_cat ?_ ?_ ?_).ev) <;> walk_at "ev")
  | ((with_reducible refine' el_cat ?_ ?_ ?_) <;> walk_at "ev")
  | ((with_reducible refine' ev_op ?_ ?_ ?_) <;> walk_at "ev")
  | ((with_reducible refine' ev_tup ?_ ?_) <;> walk_at "ev")
  | ((with_reducible refine' (el_lst ?_ ?_).ev) <;> walk_at "ev")
  | ((with_reducible refine' el_lst ?_ ?_) <;> walk_at "ev")
  | ((with_reducible refine' (el_sl ?_ ?_ ?_).ev) <;> walk_at "ev")
  | ((with_reducible refine' el_sl ?_ ?_ ?_) <;> walk_at "ev")
  | ((with_reducible refine' (el_rev ?_).ev) <;> walk_at "ev")
  | ((with_reducible refine' el_rev ?_) <;> walk_at "ev")
  | ((with_reducible refine' eo_some ?_) <;> walk_at "ev")
  | ((with_reducible refine' (el_list ?_).ev) <;> walk_at "ev")
  | ((with_reducible refine' el_list ?_) <;> walk_at "ev")
  | ((with_reducible refine' ev_call ?_ ?_) <;> walk_at "ev")
  | ((with_reducible refine' (el_call ?_ ?_).ev) <;> walk_at "ev")
  | ((with_reducible refine' el_call ?_ ?_) <;> walk_at "ev")
  | ((with_reducible refine' (el_sortedD ?_).ev) <;> walk_at "ev")
  | ((with_reducible refine' el_sortedD ?_) <;> walk_at "ev")
  | ((with_reducible refine' (el_sortedDR ?_).ev) <;> walk_at "ev")
  | ((with_reducible refine' el_sortedDR ?_) <;> walk_at "ev")
  | ((with_reducible refine' ev_dgetD ?_ ?_ ?_) <;> walk_at "ev")
  | ((with_reducible refine' ev_cb ?_ ?_) <;> walk_at "ev")
  | with_reducible exact op2_I0
  | with_reducible exact op2_B0
  | with_reducible exact op2_eqI
  | with_reducible exact op2_neI
  | with_reducible exact op2_eqB
  | with_reducible exact op2_neB
  | with_reducible exact op2_isB
  | with_reducible exact op2_isNB
  | with_reducible exact op2_inT
  | with_reducible exact op2_inL
  | (with_reducible refine' op2_eqD ?_ ?_)
  | (with_reducible refine' op2_neD ?_ ?_)
  | ((with_reducible refine' op2_I ?_) <;> walk_at "side")
  | (with_reducible refine' op2_ixL ?_)
  | (with_reducible refine' op2_ixT ?_)
  | (show List.length _ ≤ 100000; exact Nat.le_of_ble_eq_true rfl)
  | exact cb_len
  | exact cb_lenT
  | exact cb_minT
  | exact cb_abs
  | exact cb_max2
  | exact cb_min2
  | exact cb_intB
  | exact cb_sum
  | exact cb_any
  | exact cb_all
  | skip)
local macro_rules | `(tactic| walk_at "side") => `(tactic| first
  | exact Nat.le_of_ble_eq_true rfl
  | (with_reducible exact mulok_l (by decide))
  | (with_reducible exact mulok_r (by decide))
  | (show (0 : Int) < _; decide)
  | (show (0 : Int) < _; omega)
  | (show (0 : Int) ≤ _ ∧ _ ∧ _; decide)
  | skip)

section
variable {K : PySem.W.Frag} {E : En} {H : Hp} {σ : L2.St} {ρ : List Sl} {O : List (Addr × Ow)} {D : Ends} {tz tu : TS} {tt : TT}
/-- an if whose ends meet -/
theorem q_join {Z : Type} {b : Bool} (J : Z → Prop) (ρz : Z → List Sl) (s : Sg K E σ H ρ O) (h : EvT K ρ O tt b)
    (h1 : b = true → ∀ H', Sg K E σ H' ρ O → ∀ N, (∀ z σ' H', J z → Sg K E σ' H' (ρz z) O → N σ' H') → tu { D with nx := N } σ H') (h2 : b = false → ∃ z, J z ∧ ρz z = ρ)
    (k : ∀ z σ' H', J z → Sg K E σ' H' (ρz z) O → tz D σ' H') : tSeq (tIfS tt tu tNext) tz D σ H :=
  q_when s h (fun hb H' _ s' => h1 hb H' s' _ k) (fun hb H' _ s' => by
    obtain ⟨z, hz, e⟩ := h2 hb
    exact k z σ H' hz (by rw [e]; exact s'))
end
section
variable {P : Program} {w : World} {K : PySem.W.Frag} {mg : Str → Option Value} {base : Heap}
/-! ### the law -/
def mx2 (x : Int) : Int := if x > 2 then x else 2
theorem at_last {α : Type} {l : List α} {a : α} : L2.atI (l ++ [a]) (-1) = some a := by
  have h : L2.atI (l ++ [a]) (-1) = (l ++ [a])[l.length]? := by
    unfold L2.atI ixN
    rw [List.length_append, List.length_singleton]
    have e : (-1 : Int) + ((l.length + 1 : Nat) : Int) = (l.length : Int) := by omega
    rw [e, if_neg (by omega), if_pos (by omega)]
    rfl
  rw [h]
  simp
def SLaw (ds : List PyData) (y : PyData) : Prop := ∃ s : List Int, ds = [dI s] ∧ (∀ c ∈ s, Fit c) ∧ y = .bool true
end
end Pw

set_option Elab.async false
set_option linter.all false
set_option maxRecDepth 100000
set_option maxHeartbeats 2000000
set_option autoImplicit false
namespace Pw
open PySem PySem.Spec PyProof.Rows L2
open Evl (Ex)
open Pw in
local macro_rules | `(tactic| walk_at "ev") => `(tactic| first
  | with_reducible exact ev_int
  | with_reducible exact ev_bl
  | with_reducible exact ev_non
  | exact ev_var rfl
  | exact ea_nil
  | with_reducible exact eo_none
  | with_reducible exact et_yes
  | ((refine' ea_cons ?_ ?_) <;> walk_at "ev")
  | ((with_reducible refine' et_test ?_) <;> walk_at "ev")
  | ((with_reducible refine' et_B ?_) <;> walk_at "ev")
  | ((with_reducible refine' et_not ?_) <;> walk_at "ev")
  | ((with_reducible refine' et_and ?_ (fun h_and => ?_)) <;> walk_at "ev")
  | ((with_reducible refine' et_or ?_ (fun h_or => ?_)) <;> walk_at "ev")
  | ((with_reducible refine' ev_andV ?_ (fun h_and => ?_)) <;> walk_at "ev")
  | ((with_reducible refine' ev_orV ?_ (fun h_or => ?_)) <;> walk_at "ev")
  | ((with_reducible refine' ev_notV ?_) <;> walk_at "ev")
  | ((with_reducible refine' ev_ifI ?_ (fun h_if => ?_) (fun h_if => ?_)) <;> walk_at "ev")
  | ((with_reducible refine' ev_un ?_ op1_neg) <;> walk_at "ev")
  | ((with_reducible refine' (el_cat ?_ ?_ ?_).ev) <;> walk_at "ev")
  | ((with_reducible refine' el_cat ?_ ?_ ?_) <;> walk_at "ev")
  | ((with_reducible refine' ev_op ?_ ?_ ?_) <;> walk_at "ev")
  | ((with_reducible refine' ev_tup ?_ ?_) <;> walk_at "ev")
  | ((with_reducible refine' (el_lst ?_ ?_).ev) <;> walk_at "ev")
  | ((with_reducible refine' el_lst ?_ ?_) <;> walk_at "ev")
  | ((with_reducible refine' (el_sl ?_ ?_ ?_).ev) <;> walk_at "ev")
  | ((with_reducible refine' el_sl ?_ ?_ ?_) <;> walk_at "ev")
  | ((with_reducible refine' (el_rev ?_).ev) <;> walk_at "ev")
  | ((with_reducible refine' el_rev ?_) <;> walk_at "ev")
  | ((with_reducible refine' eo_some ?_) <;> walk_at "ev")
  | ((with_reducible refine' (el_list ?_).ev) <;> walk_at "ev")
  | ((with_reducible refine' el_list ?_) <;> walk_at "ev")
  | ((with_reducible refine' ev_call ?_ ?_) <;> walk_at "ev")
  | ((with_reducible refine' (el_call ?_ ?_).ev) <;> walk_at "ev")
  | ((with_reducible refine' el_call ?_ ?_) <;> walk_at "ev")
  | ((with_reducible refine' (el_sortedD ?_).ev) <;> walk_at "ev")
  | ((with_reducible refine' el_sortedD ?_) <;> walk_at "ev")
  | ((with_reducible refine' (el_sortedDR ?_).ev) <;> walk_at "ev")
  | ((with_reducible refine' el_sortedDR ?_) <;> walk_at "ev")
  | ((with_reducible refine' ev_dgetD ?_ ?_ ?_) <;> walk_at "ev")
  | ((with_reducible refine' ev_cb ?_ ?_) <;> walk_at "ev")
  | with_reducible exact op2_I0
  | with_reducible exact op2_B0
  | with_reducible exact op2_eqI
  | with_reducible exact op2_neI
  | with_reducible exact op2_eqB
  | with_reducible exact op2_neB
  | with_reducible exact op2_isB
  | with_reducible exact op2_isNB
  | with_reducible exact op2_inT
  | with_reducible exact op2_inL
  | (with_reducible refine' op2_eqD ?_ ?_)
  | (with_reducible refine' op2_neD ?_ ?_)
  | ((with_reducible refine' op2_I ?_) <;> walk_at "side")
  | (with_reducible refine' op2_ixL ?_)
  | (with_reducible refine' op2_ixT ?_)
  | (show List.length _ ≤ 100000; exact Nat.le_of_ble_eq_true rfl)
  | exact cb_len
  | exact cb_lenT
  | exact cb_minT
  | exact cb_abs
  | exact cb_max2
  | exact cb_min2
  | exact cb_intB
  | exact cb_sum
  | exact cb_any
  | exact cb_all
  | skip)
local macro_rules | `(tactic| walk_at "side") => `(tactic| first
  | exact Nat.le_of_ble_eq_true rfl
  | (with_reducible exact mulok_l (by decide))
  | (with_reducible exact mulok_r (by decide))
  | (show (0 : Int) < _; decide)
  | (show (0 : Int) < _; omega)
  | (show (0 : Int) ≤ _ ∧ _ ∧ _; decide)
  | skip)

section
variable {P : Program} {w : World} {K : PySem.W.Frag} {mg : Str → Option Value} {base : Heap}
/-! ### sums turned about -/
def SUnl (ds : List PyData) (y : PyData) : Prop := ∃ ps : List (Int × Int), ds = [dP ps] ∧ ps.length ≤ 50000 ∧ (∀ p ∈ ps, p.2 ≤ 1) ∧ y = .none
theorem sc_check_unlike : FnScope ["parts", "part", "times"] ["parts"] (defScope s_check_unlike) := ⟨rfl, rfl, rfl, by decide +kernel, rfl, by decide +kernel, by decide +kernel⟩
theorem ok_check_unlike (D : Df K mg "check_unlike" s_check_unlike) (T : Bn mg) : Cal P w K mg base 1 "check_unlike" (SpR K SUnl) := by
  refine calR D sc_check_unlike (fun _ _ _ _ _ _ us hl => match us, hl with | [_], _ => rfl) (by decide) (fun ds y ⟨_, h, _⟩ => by rw [h]; rfl) (fun f cdv A outer s H σ E ds y X hr h s0 => ?_)
  obtain ⟨ps, rfl, hl, hs, rfl⟩ := h
  -- 0 parts, 1 part, 2 times
  replace s0 : Sg K E σ H [.d (dP ps), .no, .no] [] := s0
  refine ⟨_, (pss_one (ps_if (pt_val (pe_callB (r := rAny K) (cr_any rfl) (by rfl) T.any_ (by decide +kernel) (pa_cons (pe_lc (own := [("part", 1), ("times", 2)]) (g := (gTup K 2 (gCons (gName 1) (gCons (gName 2) gNil)))) (tt := tYes) rfl sc_check_unlike.nd (pi_listK (K := K) rfl (pv 0)) (blkOk_by (own := [("part", 1), ("times", 2)]) (N := ["parts", "part", "times"]) (sc := defScope s_check_unlike) (by decide +kernel)) (fun _ _ _ _ _ => (pg_tup (n := 2) rfl (pgs_cons (pg_name (i := 1) sc_check_unlike.nd rfl (by first | exact Or.inl rfl | exact Or.inr rfl)) (pgs_cons (pg_name (i := 2) sc_check_unlike.nd rfl (by first | exact Or.inl rfl | exact Or.inr rfl)) pgs_nil)))) (fun _ _ _ _ _ => pts_nil) (fun _ _ _ _ _ => (pe_cmpR op_gt (pv 2) pe_int (nomark _)))) pa_nil)))
      (pss_one ps_never)
      pss_nil)), fun Q kq => ?_⟩
  try dsimp only [cxOf, Cx.nox]
  refine d_when s0 (b := false) (et_is (et_B (ev_cb (ea_cons (el_is (el_lc0 ps pr (fun p => .bool (decide (1 < p.2))) (fun p => [.d (dP ps), .d (.int p.1), .d (.int p.2)]) (src_list (ev_var rfl)) (by omega) ?_ ?_) ?_).ev ea_nil) (cb_any (bs := ps.map fun p => decide (1 < p.2))))) ?_) (fun z => nomatch z) (fun _ H1 e1 s1 => kq _ H1 s1.ent .non)
  · intro a ha; exact ⟨_, tg_tup2 (tg_name (Nat.le_of_ble_eq_true rfl)) (tg_name (Nat.le_of_ble_eq_true rfl)), by decide⟩
  · intro p hp; exact ev_op (ev_var rfl) ev_int op2_B0
  · rw [List.map_map]; rfl
  · rw [List.any_map]
    refine List.any_eq_false.mpr fun p hp => ?_
    have := hs p hp
    have e : ¬ 1 < p.2 := by omega
    simpa using e
def oftS (ps : List (Int × Int)) : Int := (ps.map fun p => p.2).sum
def nxt (ps : List (Int × Int)) (i : Nat) : Int := (ps.getD (i + 1) (0, 0)).1
def turnA : Int → List (Int × Int) → List (Int × Int)
  | _, [] => []
  | M, q :: r => (M + q.2, q.1 - (r.headD (0, 0)).1) :: turnA (M + q.2) r
def turnM (ps : List (Int × Int)) : List (Int × Int) := (turnA 0 ps).reverse
theorem turnA_len : ∀ (M : Int) (ps : List (Int × Int)), (turnA M ps).length = ps.length
  | _, [] => rfl
  | M, q :: r => by
    unfold turnA
    rw [List.length_cons, List.length_cons, turnA_len]
theorem turnA_get : ∀ (ps : List (Int × Int)) (M : Int) (i : Nat) (q : Int × Int), ps[i]? = some q → (turnA M ps)[i]? = some (M + oftS (ps.take (i + 1)), q.1 - nxt ps i)
  | [], _, i, q, h => by simp at h
  | p :: r, M, 0, q, h => by
    have e : p = q := by simpa using h
    subst e
    show some (M + p.2, p.1 - (r.headD (0, 0)).1) = _
    have e2 : oftS ((p :: r).take 1) = p.2 := by
      show p.2 + 0 = p.2
      omega
    have e3 : (r.headD (0, 0)).1 = nxt (p :: r) 0 := by
      cases r <;> rfl
    rw [e2, e3]
  | p :: r, M, i + 1, q, h => by
    have h' : r[i]? = some q := by simpa using h
    show (turnA (M + p.2) r)[i]? = _
    rw [turnA_get r (M + p.2) i q h']
    have e2 : oftS ((p :: r).take (i + 1 + 1)) = p.2 + oftS (r.take (i + 1)) := rfl
    have e3 : nxt (p :: r) (i + 1) = nxt r i := rfl
    rw [e2, e3, Int.add_assoc]
theorem oftS_take {ps : List (Int × Int)} {i : Nat} {q : Int × Int} (h : ps[i]? = some q) : oftS (ps.take (i + 1)) = oftS (ps.take i) + q.2 := by
  unfold oftS
  rw [take_one h, List.map_append, List.sum_append]
  simp
theorem zip_get {α : Type} {l : List α} {i : Nat} {q : α × Nat} (h : l.zipIdx[i]? = some q) : l[i]? = some q.1 ∧ q.2 = i := by
  rw [List.getElem?_zipIdx] at h
  cases e : l[i]? with
  | none => rw [e] at h; cases h
  | some a =>
    rw [e] at h
    have h' : (a, 0 + i) = q := by simpa using h
    subst h'
    exact ⟨rfl, Nat.zero_add i⟩
def STurn (ds : List PyData) (ys : List PyData) : Prop := ∃ ps : List (Int × Int), ds = [dP ps] ∧ ps.length ≤ 50000 ∧ ys = (turnM ps).map pr
theorem at_next {ps : List (Int × Int)} {i : Nat} (h : i + 1 < ps.length) : L2.atI (ps.map pr) ((i : Int) + 1) = some (pr (ps.getD (i + 1) (0, 0))) := by
  have e : (i : Int) + 1 = ((i + 1 : Nat) : Int) := by omega
  rw [e]
  refine atI_nat ?_
  rw [List.getElem?_map, List.getElem?_eq_getElem h, List.getD_eq_getElem?_getD, List.getElem?_eq_getElem h]
  rfl
theorem nxt_if {ps : List (Int × Int)} {i : Nat} : (if decide ((i : Int) + 1 < ((ps.map pr).length : Nat)) = true then nxt ps i else 0) = nxt ps i := by
  rw [List.length_map]
  by_cases h : (i : Int) + 1 < (ps.length : Nat)
  · rw [if_pos (decide_eq_true h)]
  · rw [if_neg (by simpa using h)]
    unfold nxt
    rw [List.getD_eq_getElem?_getD, List.getElem?_eq_none (by omega)]
    rfl
theorem sc_turned_of : FnScope ["parts", "found", "many", "at", "part", "times", "beneath"] ["parts"] (defScope s_turned_of) := ⟨rfl, rfl, rfl, by decide +kernel, rfl, by decide +kernel, by decide +kernel⟩
theorem ok_turned_of (D : Df K mg "turned_of" s_turned_of) (T : Bn mg) : Cal P w K mg base 1 "turned_of" (SpL K STurn) := by
  refine calL D sc_turned_of (fun _ _ _ _ _ _ us hl => match us, hl with | [_], _ => rfl) (by decide) (fun ds y ⟨_, h, _⟩ => by rw [h]; rfl) (fun f cdv A outer s H σ E ds ys X hr h s0 => ?_)
  obtain ⟨ps, rfl, hl, rfl⟩ := h
  -- 0 parts, 1 found, 2 many, 3 at, 4 part, 5 times, 6 beneath
  replace s0 : Sg K E σ H [.d (dP ps), .no, .no, .no, .no, .no, .no] [] := s0
  refine ⟨_, (pss_cons (ps_set (i := 1) sc_turned_of.nd rfl (Or.inl rfl) (pe_lst pa_nil))
    (pss_cons (ps_set (i := 2) sc_turned_of.nd rfl (Or.inl rfl) pe_int)
    (pss_cons (ps_for PassesOwn.never rfl (pi_enumK (K := K) rfl (by rfl) T.enumerate_ (pa_cons (pv 0) pa_nil)) (pg_tup (n := 2) rfl (pgs_cons (pg_name (i := 3) sc_turned_of.nd rfl (Or.inl rfl)) (pgs_cons (pg_tup (n := 2) rfl (pgs_cons (pg_name (i := 4) sc_turned_of.nd rfl (Or.inl rfl)) (pgs_cons (pg_name (i := 5) sc_turned_of.nd rfl (Or.inl rfl)) pgs_nil))) pgs_nil)))
      (pss_cons (ps_aug (i := 2) sc_turned_of.nd rfl (Or.inl rfl) (pv 5) ip_add)
      (pss_cons (ps_set (i := 6) sc_turned_of.nd rfl (Or.inl rfl) (pe_ifExp (pt_cmpR op_lt (pe_op op_add (pv 3) pe_int) (pe_callB (r := Evl.rLenS K) cp_len (by rfl) T.len_ (by decide +kernel) (pa_cons (pv 0) pa_nil)) (nomark _)) (pe_ix (r := rIxT K) ix_tup (pe_ix (r := rIxL K) ix_list (pv 0) (pe_op op_add (pv 3) pe_int) (fun _ _ => rfl)) pe_int (fun _ _ => rfl)) pe_int))
      (pss_one (ps_expr (pe_bm PySem.F.plainAttrs_list PySem.F.slot_list_append PySem.F.type_list_append mt_append (pv 1) (pa_cons (pe_tup (pa_cons (pv 2) (pa_cons (pe_op op_sub (pv 4) (pv 6)) pa_nil))) pa_nil)))))))
    (pss_one (ps_ret (pe_revK (K := K) rfl (pv 1))))))), fun Q kq => ?_⟩
  try dsimp only [cxOf, Cx.nox]
  refine q_asgO s0 (el_lst ea_nil) (fun σ1 H1 a e1 s1 => ?_)
  refine q_asg s1 ev_int (fun σ2 H2 e2 s2 => ?_)
  refine q_for ps.zipIdx (fun q => .tuple [.int (q.2 : Nat), pr q.1]) (fun i z => z = ((turnA 0 ps).take i, oftS (ps.take i))) (fun z => [.d (dP ps), .o a, .d (.int z.2), .no, .no, .no, .no]) (fun z => [(a, .lst (z.1.map pr))]) (fun q z => [.d (dP ps), .o a, .d (.int z.2), .d (.int (q.2 : Nat)), .d (.int q.1.1), .d (.int q.1.2), .no]) ([], 0) (src_enumT ps pr (ea_cons (ev_var rfl) ea_nil)) s2 rfl ?_ ?_ ?_
  · intro i q z hq hz
    exact ⟨_, tg_tup2 (tg_name (Nat.le_of_ble_eq_true rfl)) (tg_tup2 (tg_name (Nat.le_of_ble_eq_true rfl)) (tg_name (Nat.le_of_ble_eq_true rfl)))⟩
  · intro B i q z σ' H' hq hz s3
    obtain ⟨hq1, hq2⟩ := zip_get hq
    have hi := (List.getElem?_eq_some_iff.mp hq1).1
    refine q_aug s3 rfl (ev_var rfl) (fun σ4 H4 e4 s4 => ?_)
    refine q_asg s4 (x := .int (nxt ps q.2)) (ev_is (ev_ifI (et_test (ev_op (ev_op (ev_var rfl) ev_int op2_I0) (ev_cb (ea_cons (ev_var rfl) ea_nil) cb_len) op2_B0)) (fun h => ev_op (ev_op (ev_var rfl) (ev_op (ev_var rfl) ev_int op2_I0) (op2_ixL (at_next ?_))) ev_int op2_ixT0) (fun _ => ev_int)) (congrArg PyData.int nxt_if)) (fun σ5 H5 e5 s5 => ?_)
    · have := of_decide_eq_true h
      rw [List.length_map] at this
      omega
    refine d_app (O1 := []) (O2 := []) s5 rfl (x := pr (z.2 + q.1.2, q.1.1 - nxt ps q.2)) (ev_tup (ea_cons (ev_var rfl) (ea_cons (ev_op (ev_var rfl) (ev_var rfl) op2_I0) ea_nil))) ?_ (fun H6 s6 => ⟨((turnA 0 ps).take (i + 1), oftS (ps.take (i + 1))), rfl, ?_⟩)
    · rw [hz, List.length_map, List.length_take, turnA_len]; omega
    · have e := turnA_get ps 0 i q.1 hq1
      rw [Int.zero_add] at e
      rw [hz, ← oftS_take hq1, hq2] at s6
      rw [take_one e, List.map_append]
      exact s6.weak (.same (.same (.same (.no (.no (.no (.no .nil)))))))
  · intro z σ' H' hz s3
    rw [List.length_zipIdx, List.take_length, ← turnA_len 0 ps, List.take_length] at hz
    subst hz
    refine d_retL s3 (el_is (el_revO (xs := (turnA 0 ps).map pr) rfl List.mem_cons_self) ?_) kq
    unfold turnM
    rw [List.map_reverse]
def STurnd (ds : List PyData) (ys : List PyData) : Prop := ∃ ps : List (Int × Int), ds = [dP ps] ∧ ps.length ≤ 50000 ∧ sumB ps = true ∧ ys = (turnM ps).map pr
theorem sc_turned : FnScope ["parts"] ["parts"] (defScope s_turned) := ⟨rfl, rfl, rfl, by decide +kernel, rfl, by decide +kernel, by decide +kernel⟩
theorem ok_turned (D : Df K mg "turned" s_turned) (T : Bn mg) (c_check_sum : Cal P w K mg base 4 "check_sum" (SpR K SCheck)) (c_turned_of : Cal P w K mg base 1 "turned_of" (SpL K STurn)) : Cal P w K mg base 5 "turned" (SpL K STurnd) := by
  refine calL D sc_turned (fun _ _ _ _ _ _ us hl => match us, hl with | [_], _ => rfl) (by decide) (fun ds y ⟨_, h, _⟩ => by rw [h]; rfl) (fun f cdv A outer s H σ E ds ys X hr h s0 => ?_)
  obtain ⟨ps, rfl, hl, hs, rfl⟩ := h
  replace s0 : Sg K E σ H [.d (dP ps)] [] := s0
  refine ⟨_, (pss_cons (ps_expr (pe_c c_check_sum hr (by first | decide | omega) (by rfl) (pa_cons (pv 0) pa_nil)))
    (pss_one (ps_ret (pe_c c_turned_of hr (by first | decide | omega) (by rfl) (pa_cons (pv 0) pa_nil))))), fun Q kq => ?_⟩
  try dsimp only [cxOf, Cx.nox]
  refine q_drop s0 (ev_call (ea_cons (ev_var rfl) ea_nil) (show SCheck _ _ from ⟨ps, rfl, hl, hs, rfl⟩)) (fun H1 e1 s1 => ?_)
  exact d_retL s1 (el_call (ea_cons (ev_var rfl) ea_nil) (show STurn _ _ from ⟨ps, rfl, hl, rfl⟩)) kq
def SOwn (ds : List PyData) (y : PyData) : Prop := ∃ ps : List (Int × Int), ds = [dP ps] ∧ ps.length ≤ 50000 ∧ sumB ps = true ∧ y = .bool (decide (turnM ps = ps))
theorem sc_is_own : FnScope ["parts"] ["parts"] (defScope s_is_own) := ⟨rfl, rfl, rfl, by decide +kernel, rfl, by decide +kernel, by decide +kernel⟩
theorem ok_is_own (D : Df K mg "is_own" s_is_own) (T : Bn mg) (c_check_sum : Cal P w K mg base 4 "check_sum" (SpR K SCheck)) (c_turned_of : Cal P w K mg base 1 "turned_of" (SpL K STurn)) : Cal P w K mg base 5 "is_own" (SpR K SOwn) := by
  refine calR D sc_is_own (fun _ _ _ _ _ _ us hl => match us, hl with | [_], _ => rfl) (by decide) (fun ds y ⟨_, h, _⟩ => by rw [h]; rfl) (fun f cdv A outer s H σ E ds y X hr h s0 => ?_)
  obtain ⟨ps, rfl, hl, hs, rfl⟩ := h
  replace s0 : Sg K E σ H [.d (dP ps)] [] := s0
  refine ⟨_, (pss_cons (ps_expr (pe_c c_check_sum hr (by first | decide | omega) (by rfl) (pa_cons (pv 0) pa_nil)))
    (pss_one (ps_ret (pe_cmpR (r := rEqD K) (op_eqD hr.units) (pe_c c_turned_of hr (by first | decide | omega) (by rfl) (pa_cons (pv 0) pa_nil)) (pv 0) (nomark _))))), fun Q kq => ?_⟩
  try dsimp only [cxOf, Cx.nox]
  refine q_drop s0 (ev_call (ea_cons (ev_var rfl) ea_nil) (show SCheck _ _ from ⟨ps, rfl, hl, hs, rfl⟩)) (fun H1 e1 s1 => ?_)
  exact d_ret s1 (ev_op (el_call (ea_cons (ev_var rfl) ea_nil) (show STurn _ _ from ⟨ps, rfl, hl, rfl⟩)).ev (ev_var rfl) op2_eqP) kq
end
end Pw

set_option Elab.async false
set_option linter.all false
set_option maxRecDepth 100000
set_option maxHeartbeats 2000000
set_option autoImplicit false
namespace Pw
open PySem PySem.Spec PyProof.Rows L2
open Evl (Ex)
open Pw in
local macro_rules | `(tactic| walk_at "ev") => `(tactic| first
  | with_reducible exact ev_int
  | with_reducible exact ev_bl
  | with_reducible exact ev_non
  | exact ev_var rfl
  | exact ea_nil
  | with_reducible exact eo_none
  | with_reducible exact et_yes
  | ((refine' ea_cons ?_ ?_) <;> walk_at "ev")
  | ((with_reducible refine' et_test ?_) <;> walk_at "ev")
  | ((with_reducible refine' et_B ?_) <;> walk_at "ev")
  | ((with_reducible refine' et_not ?_) <;> walk_at "ev")
  | ((with_reducible refine' et_and ?_ (fun h_and => ?_)) <;> walk_at "ev")
  | ((with_reducible refine' et_or ?_ (fun h_or => ?_)) <;> walk_at "ev")
  | ((with_reducible refine' ev_andV ?_ (fun h_and => ?_)) <;> walk_at "ev")
  | ((with_reducible refine' ev_orV ?_ (fun h_or => ?_)) <;> walk_at "ev")
  | ((with_reducible refine' ev_notV ?_) <;> walk_at "ev")
  | ((with_reducible refine' ev_ifI ?_ (fun h_if => ?_) (fun h_if => ?_)) <;> walk_at "ev")
  | ((with_reducible refine' ev_un ?_ op1_neg) <;> walk_at "ev")
  | ((with_reducible refine' (el_cat ?_ ?_ ?_).ev) <;> walk_at "ev")
  | ((with_reducible refine' el_cat ?_ ?_ ?_) <;> walk_at "ev")
  | ((with_reducible refine' ev_op ?_ ?_ ?_) <;> walk_at "ev")
  | ((with_reducible refine' ev_tup ?_ ?_) <;> walk_at "ev")
  | ((with_reducible refine' (el_lst ?_ ?_).ev) <;> walk_at "ev")
  | ((with_reducible refine' el_lst ?_ ?_) <;> walk_at "ev")
  | ((with_reducible refine' (el_sl ?_ ?_ ?_).ev) <;> walk_at "ev")
  | ((with_reducible refine' el_sl ?_ ?_ ?_) <;> walk_at "ev")
  | ((with_reducible refine' (el_rev ?_).ev) <;> walk_at "ev")
  | ((with_reducible refine' el_rev ?_) <;> walk_at "ev")
  | ((with_reducible refine' eo_some ?_) <;> walk_at "ev")
  | ((with_reducible refine' (el_list ?_).ev) <;> walk_at "ev")
  | ((with_reducible refine' el_list ?_) <;> walk_at "ev")
  | ((with_reducible refine' ev_call ?_ ?_) <;> walk_at "ev")
  | ((with_reducible refine' (el_call ?_ ?_).ev) <;> walk_at "ev")
  | ((with_reducible refine' el_call ?_ ?_) <;> walk_at "ev")
  | ((with_reducible refine' (el_sortedD ?_).ev) <;> walk_at "ev")
  | ((with_reducible refine' el_sortedD ?_) <;> walk_at "ev")
  | ((with_reducible refine' (el_sortedDR ?_).ev) <;> walk_at "ev")
  | ((with_reducible refine' el_sortedDR ?_) <;> walk_at "ev")
  | ((with_reducible refine' ev_dgetD ?_ ?_ ?_) <;> walk_at "ev")
  | ((with_reducible refine' ev_cb ?_ ?_) <;> walk_at "ev")
  | with_reducible exact op2_I0
  | with_reducible exact op2_B0
  | with_reducible exact op2_eqI
  | with_reducible exact op2_neI
  | with_reducible exact op2_eqB
  | with_reducible exact op2_neB
  | with_reducible exact op2_isB
  | with_reducible exact op2_isNB
  | with_reducible exact op2_inT
  | with_reducible exact op2_inL
  | (with_reducible refine' op2_eqD ?_ ?_)
  | (with_reducible refine' op2_neD ?_ ?_)
  | ((with_reducible refine' op2_I ?_) <;> walk_at "side")
  | (with_reducible refine' op2_ixL ?_)
  | (with_reducible refine' op2_ixT ?_)
  | (show List.length _ ≤ 100000; exact Nat.le_of_ble_eq_true rfl)
  | exact cb_len
  | exact cb_lenT
  | exact cb_minT
  | exact cb_abs
  | exact cb_max2
  | exact cb_min2
  | exact cb_intB
  | exact cb_sum
  | exact cb_any
  | exact cb_all
  | skip)
local macro_rules | `(tactic| walk_at "side") => `(tactic| first
  | exact Nat.le_of_ble_eq_true rfl
  | (with_reducible exact mulok_l (by decide))
  | (with_reducible exact mulok_r (by decide))
  | (show (0 : Int) < _; decide)
  | (show (0 : Int) < _; omega)
  | (show (0 : Int) ≤ _ ∧ _ ∧ _; decide)
  | skip)

section
variable {K : PySem.W.Frag} {E : En} {H : Hp} {σ : L2.St} {ρ : List Sl} {O1 O2 : List (Addr × Ow)} {p : Addr} {xs ys : List PyData} {j : Nat} {te : TE} {D : Ends} {tz : TS}
/-- found.extend(a new list) -/
theorem d_ext (s : Sg K E σ H ρ (O1 ++ (p, .lst xs) :: O2)) (hi : ρ[j]? = some (.o p)) (h : EvL K ρ (O1 ++ (p, .lst xs) :: O2) te ys) (hz : xs.length + ys.length ≤ 100000) (k : ∀ H', Sg K E σ H' ρ (O1 ++ (p, .lst (xs ++ ys)) :: O2) → D.nx σ H') :
    tDrop (tBM K "list" rExtend (tVar j) (tCons te tNil)) D σ H := by
  obtain ⟨H0, s⟩ := s
  obtain ⟨h0, vs, h1, h2⟩ := s.s.own p (.lst xs) (by simp)
  refine ⟨_, s.s.adr j p hi, .inl ⟨rfl, vs, SqL.of h1⟩, h H0 σ H s.s _ fun b ws H1 hb e hw r => ?_⟩
  refine ⟨p, b, vs, ws, rfl, rfl, e p _ h1, hw, Evl.sz_of (by rw [h2.length, r.length]; exact hz), k _ ⟨_, (s.step e).write ⟨?_, _, upd_same, ?_⟩⟩⟩
  · rw [fr_some h1]; exact h0
  · exact (h2.up (ex_fr s.s.base)).append (r.up del_ex)
theorem q_ext (s : Sg K E σ H ρ (O1 ++ (p, .lst xs) :: O2)) (hi : ρ[j]? = some (.o p)) (h : EvL K ρ (O1 ++ (p, .lst xs) :: O2) te ys) (hz : xs.length + ys.length ≤ 100000) (k : ∀ H', Sg K E σ H' ρ (O1 ++ (p, .lst (xs ++ ys)) :: O2) → tz D σ H') :
    tSeq (tDrop (tBM K "list" rExtend (tVar j) (tCons te tNil))) tz D σ H := d_ext (D := { D with nx := tz D }) s hi h hz k
end
section
variable {P : Program} {w : World} {K : PySem.W.Frag} {mg : Str → Option Value} {base : Heap}
/-! ### folded -/
def foldR (ps : List (Int × Int)) : List Int := ps.zipIdx.map fun q => q.1.1 / 2 + 1 + (q.2 : Nat)
def lowN (rows : List Int) (i : Nat) : Int := rows.getD (i + 1) (rows.length : Nat)
def lowM (rows : List Int) : List (Int × Int) := rows.zipIdx.map fun q => ((q.2 : Nat) + 1, q.1 - lowN rows q.2)
def foldL (ps : List (Int × Int)) : List (Int × Int) := (foldR ps).map (fun r => (r, 1)) ++ lowM (foldR ps)
def foldM (ps : List (Int × Int)) : List (Int × Int) := inOrdM (tal (foldL ps))
theorem foldR_len (ps : List (Int × Int)) : (foldR ps).length = ps.length := by unfold foldR; rw [List.length_map, List.length_zipIdx]
theorem lowM_len (rows : List Int) : (lowM rows).length = rows.length := by unfold lowM; rw [List.length_map, List.length_zipIdx]
theorem at_low {rows : List Int} {i : Nat} (h : i + 1 < rows.length) : L2.atI (rows.map PyData.int) ((i : Int) + 1) = some (.int (lowN rows i)) := by
  have e : (i : Int) + 1 = ((i + 1 : Nat) : Int) := by omega
  rw [e]
  refine atI_nat ?_
  unfold lowN
  rw [List.getElem?_map, List.getElem?_eq_getElem h, List.getD_eq_getElem?_getD, List.getElem?_eq_getElem h]
  rfl
theorem low_if {rows : List Int} {i : Nat} : (if decide ((i : Int) + 1 < ((rows.map PyData.int).length : Nat)) = true then lowN rows i else ((rows.map PyData.int).length : Nat)) = lowN rows i := by
  rw [List.length_map]
  by_cases h : (i : Int) + 1 < (rows.length : Nat)
  · rw [if_pos (decide_eq_true h)]
  · rw [if_neg (by simpa using h)]
    unfold lowN
    rw [List.getD_eq_getElem?_getD, List.getElem?_eq_none (by omega)]
    rfl
theorem tal_snoc (l : List (Int × Int)) (p : Int × Int) : tal (l ++ [p]) = tstep (tal l) p := by
  unfold tal
  rw [List.foldl_append]
  rfl
theorem tal_le (l : List (Int × Int)) : (tal l).length ≤ l.length := by
  have := tal_len l l.length
  rw [List.take_length] at this
  exact this
def SFold (ds : List PyData) (ys : List PyData) : Prop := ∃ ps : List (Int × Int), ds = [dP ps] ∧ ps.length ≤ 20000 ∧ sumB ps = true ∧ (∀ p ∈ ps, p.2 ≤ 1 ∧ p.1 % 2 ≠ 0) ∧ ys = (foldM ps).map pr
theorem sc_folded : FnScope ["parts", "rows", "counts", "row", "at", "beneath", "part", "times"] ["parts"] (defScope s_folded) := ⟨rfl, rfl, rfl, by decide +kernel, rfl, by decide +kernel, by decide +kernel⟩
theorem ok_folded (D : Df K mg "folded" s_folded) (T : Bn mg) (c_check_sum : Cal P w K mg base 4 "check_sum" (SpR K SCheck)) (c_check_unlike : Cal P w K mg base 1 "check_unlike" (SpR K SUnl)) (c_in_order : Cal P w K mg base 1 "in_order" (SpL K SInOrd)) : Cal P w K mg base 5 "folded" (SpL K SFold) := by
  refine calL D sc_folded (fun _ _ _ _ _ _ us hl => match us, hl with | [_], _ => rfl) (by decide) (fun ds y ⟨_, h, _⟩ => by rw [h]; rfl) (fun f cdv A outer s H σ E ds ys X hr h s0 => ?_)
  obtain ⟨ps, rfl, hl, hs, hu, rfl⟩ := h
  -- 0 parts, 1 rows, 2 counts, 3 row, 4 at, 5 beneath, 6 part, 7 times
  replace s0 : Sg K E σ H [.d (dP ps), .no, .no, .no, .no, .no, .no, .no] [] := s0
  refine ⟨_, (pss_cons (ps_expr (pe_c c_check_sum hr (by first | decide | omega) (by rfl) (pa_cons (pv 0) pa_nil)))
    (pss_cons (ps_if (pt_val (pe_callB (r := rAny K) (cr_any rfl) (by rfl) T.any_ (by decide +kernel) (pa_cons (pe_lc (own := [("part", 6), ("times", 7)]) (g := (gTup K 2 (gCons (gName 6) (gCons (gName 7) gNil)))) (tt := tYes) rfl sc_folded.nd (pi_listK (K := K) rfl (pv 0)) (blkOk_by (own := [("part", 6), ("times", 7)]) (N := ["parts", "rows", "counts", "row", "at", "beneath", "part", "times"]) (sc := defScope s_folded) (by decide +kernel)) (fun _ _ _ _ _ => (pg_tup (n := 2) rfl (pgs_cons (pg_name (i := 6) sc_folded.nd rfl (by first | exact Or.inl rfl | exact Or.inr rfl)) (pgs_cons (pg_name (i := 7) sc_folded.nd rfl (by first | exact Or.inl rfl | exact Or.inr rfl)) pgs_nil)))) (fun _ _ _ _ _ => pts_nil) (fun _ _ _ _ _ => (pe_cmpR op_eq (pe_op op_mod (pv 6) pe_int) pe_int (nomark _)))) pa_nil)))
      (pss_one ps_never)
      pss_nil)
    (pss_cons (ps_expr (pe_c c_check_unlike hr (by first | decide | omega) (by rfl) (pa_cons (pv 0) pa_nil)))
    (pss_cons (ps_setLc (i := 1) (own := [("at", 4), ("part", 6), ("times", 7)]) (g := (gTup K 2 (gCons (gName 4) (gCons (gTup K 2 (gCons (gName 6) (gCons (gName 7) gNil))) gNil)))) (tt := tYes) rfl sc_folded.nd rfl rfl (sw_true rfl rfl rfl (by decide +kernel)) (pi_enumK (K := K) rfl (by rfl) T.enumerate_ (pa_cons (pv 0) pa_nil)) (blkOk_by (own := [("at", 4), ("part", 6), ("times", 7)]) (N := ["parts", "rows", "counts", "row", "at", "beneath", "part", "times"]) (sc := defScope s_folded) (by decide +kernel)) (fun _ _ _ _ _ => (pg_tup (n := 2) rfl (pgs_cons (pg_name (i := 4) sc_folded.nd rfl (by first | exact Or.inl rfl | exact Or.inr rfl)) (pgs_cons (pg_tup (n := 2) rfl (pgs_cons (pg_name (i := 6) sc_folded.nd rfl (by first | exact Or.inl rfl | exact Or.inr rfl)) (pgs_cons (pg_name (i := 7) sc_folded.nd rfl (by first | exact Or.inl rfl | exact Or.inr rfl)) pgs_nil))) pgs_nil)))) (fun _ _ _ _ _ => pts_nil) (fun _ _ _ _ _ => (pe_op op_add (pe_op op_add (pe_op op_fdivW (pv 6) pe_int) pe_int) (pv 4))))
    (pss_cons (ps_set (i := 2) sc_folded.nd rfl (Or.inl rfl) pe_dnewK)
    (pss_cons (ps_for PassesOwn.never rfl (pi_listK (K := K) rfl (pv 1)) (pg_name (i := 3) sc_folded.nd rfl (Or.inl rfl))
      (pss_one (ps_dput (hu_of hr) (pv 2) (pv 3) (pe_op op_add (pe_dget2 (hu_of hr) (pv 2) (pv 3) pe_int ⟨rfl, rfl, rfl, rfl⟩) pe_int) rfl)))
    (pss_cons (ps_for PassesOwn.never rfl (pi_enumK (K := K) rfl (by rfl) T.enumerate_ (pa_cons (pv 1) pa_nil)) (pg_tup (n := 2) rfl (pgs_cons (pg_name (i := 4) sc_folded.nd rfl (Or.inl rfl)) (pgs_cons (pg_name (i := 3) sc_folded.nd rfl (Or.inl rfl)) pgs_nil)))
      (pss_cons (ps_set (i := 5) sc_folded.nd rfl (Or.inl rfl) (pe_ifExp (pt_cmpR op_lt (pe_op op_add (pv 4) pe_int) (pe_callB (r := Evl.rLenS K) cp_len (by rfl) T.len_ (by decide +kernel) (pa_cons (pv 1) pa_nil)) (nomark _)) (pe_ix (r := rIxL K) ix_list (pv 1) (pe_op op_add (pv 4) pe_int) (fun _ _ => rfl)) (pe_callB (r := Evl.rLenS K) cp_len (by rfl) T.len_ (by decide +kernel) (pa_cons (pv 1) pa_nil))))
      (pss_one (ps_dput (hu_of hr) (pv 2) (pe_op op_add (pv 4) pe_int) (pe_op op_sub (pe_op op_add (pe_dget2 (hu_of hr) (pv 2) (pe_op op_add (pv 4) pe_int) pe_int ⟨rfl, rfl, rfl, rfl⟩) (pv 3)) (pv 5)) rfl))))
    (pss_one (ps_ret (pe_c c_in_order hr (by first | decide | omega) (by rfl) (pa_cons (pv 2) pa_nil))))))))))), fun Q kq => ?_⟩
  try dsimp only [cxOf, Cx.nox]
  refine q_drop s0 (ev_call (ea_cons (ev_var rfl) ea_nil) (show SCheck _ _ from ⟨ps, rfl, by omega, hs, rfl⟩)) (fun H1 e1 s1 => ?_)
  refine q_when s1 (b := false) (et_is (et_B (ev_cb (ea_cons (el_is (el_lc0 ps pr (fun p => .bool (decide (p.1 % 2 = 0))) (fun p => [.d (dP ps), .no, .no, .no, .no, .no, .d (.int p.1), .d (.int p.2)]) (src_list (ev_var rfl)) (by omega) ?_ ?_) ?_).ev ea_nil) (cb_any (bs := ps.map fun p => decide (p.1 % 2 = 0))))) ?_) (fun z => nomatch z) (fun _ H2 e2 s2 => ?_)
  · intro a ha; exact ⟨_, tg_tup2 (tg_name (Nat.le_of_ble_eq_true rfl)) (tg_name (Nat.le_of_ble_eq_true rfl)), by decide⟩
  · intro p hp; exact ev_op (ev_op (ev_var rfl) ev_int (op2_I (show (0 : Int) < 2 by decide))) ev_int op2_eqI
  · rw [List.map_map]; rfl
  · rw [List.any_map]
    refine List.any_eq_false.mpr fun p hp => ?_
    have := (hu p hp).2
    simpa using this
  refine q_drop s2 (ev_call (ea_cons (ev_var rfl) ea_nil) (show SUnl _ _ from ⟨ps, rfl, by omega, fun p hp => (hu p hp).1, rfl⟩)) (fun H3 e3 s3 => ?_)
  have hr1 := foldR_len ps
  refine q_asg s3 (x := dI (foldR ps)) (ev_is (el_lc0 ps.zipIdx (fun q => .tuple [.int (q.2 : Nat), pr q.1]) (fun q => .int (q.1.1 / 2 + 1 + (q.2 : Nat))) (fun q => [.d (dP ps), .no, .no, .no, .d (.int (q.2 : Nat)), .no, .d (.int q.1.1), .d (.int q.1.2)]) (src_enumT ps pr (ea_cons (ev_var rfl) ea_nil)) (by rw [List.length_zipIdx]; omega) ?_ ?_).ev ?_) (fun σ4 H4 e4 s4 => ?_)
  · intro a ha; exact ⟨_, tg_tup2 (tg_name (Nat.le_of_ble_eq_true rfl)) (tg_tup2 (tg_name (Nat.le_of_ble_eq_true rfl)) (tg_name (Nat.le_of_ble_eq_true rfl))), by decide⟩
  · intro q hq
    refine ev_op (ev_op (ev_op (ev_var rfl) ev_int (op2_I ?_)) ev_int op2_I0) (ev_var rfl) op2_I0
    show (0 : Int) < 2 ∧ (2 : Int).natAbs.log2 < 9000
    decide
  · unfold dI foldR; rw [List.map_map]; rfl
  generalize hrows : foldR ps = rows at s4 hr1
  replace s4 : Sg K E σ4 H4 [.d (dP ps), .d (dI rows), .no, .no, .no, .no, .no, .no] [] := s4
  refine q_dnew s4 (fun σ5 H5 a e5 s5 => ?_)
  refine q_for rows PyData.int (fun i z => z = tal ((rows.take i).map fun r => (r, 1))) (fun _ => [.d (dP ps), .d (dI rows), .o a, .no, .no, .no, .no, .no]) (fun z => [(a, .dct z)]) (fun r _ => [.d (dP ps), .d (dI rows), .o a, .d (.int r), .no, .no, .no, .no]) [] (src_list (ev_var rfl)) s5 rfl ?_ ?_ ?_
  · intro i q z hq hz
    exact ⟨_, tg_name (Nat.le_of_ble_eq_true rfl)⟩
  · intro B i r z σ6 H6 hq hz s6
    have hi := (List.getElem?_eq_some_iff.mp hq).1
    have hzl : z.length ≤ 20000 := by
      rw [hz]
      refine Nat.le_trans (tal_le _) ?_
      rw [List.length_map, List.length_take]
      omega
    replace s6 : Sg K { E with low := B } σ6 H6 [.d (dP ps), .d (dI rows), .o a, .d (.int r), .no, .no, .no, .no] ([] ++ (a, .dct z) :: []) := s6
    refine d_dput s6 rfl (ev_var rfl) (b := (dval z r).getD 0 + 1) (ev_op (ev_dget2 rfl (by simp) (ev_var rfl) ev_int) ev_int op2_I0) (by omega) (fun H7 s7 => ⟨_, rfl, ?_⟩)
    rw [take_one hq, List.map_append, List.map_cons, List.map_nil, tal_snoc, ← hz]
    exact s7.weak (.same (.same (.same (.no (.same (.same (.same (.same .nil))))))))
  · intro z σ6 H6 hz s6
    rw [List.take_length] at hz
    refine q_for rows.zipIdx (fun q => .tuple [.int (q.2 : Nat), .int q.1]) (fun i z => z = tal (rows.map (fun r => (r, 1)) ++ (lowM rows).take i)) (fun _ => [.d (dP ps), .d (dI rows), .o a, .no, .no, .no, .no, .no]) (fun z => [(a, .dct z)]) (fun q _ => [.d (dP ps), .d (dI rows), .o a, .d (.int q.1), .d (.int (q.2 : Nat)), .no, .no, .no]) z (src_enumT rows PyData.int (ea_cons (ev_var rfl) ea_nil)) s6 (by rw [List.take_zero, List.append_nil]; exact hz) ?_ ?_ ?_
    · intro i q z hq hz
      exact ⟨_, tg_tup2 (tg_name (Nat.le_of_ble_eq_true rfl)) (tg_name (Nat.le_of_ble_eq_true rfl))⟩
    · intro B i q z σ7 H7 hq hz s7
      obtain ⟨hq1, hq2⟩ := zip_get hq
      have hi := (List.getElem?_eq_some_iff.mp hq1).1
      have hzl : z.length ≤ 40000 := by
        rw [hz]
        refine Nat.le_trans (tal_le _) ?_
        rw [List.length_append, List.length_map, List.length_take, lowM_len]
        omega
      refine q_asg s7 (x := .int (lowN rows q.2)) (ev_is (ev_ifI (et_test (ev_op (ev_op (ev_var rfl) ev_int op2_I0) (ev_cb (ea_cons (ev_var rfl) ea_nil) cb_len) op2_B0)) (fun h => ev_op (ev_var rfl) (ev_op (ev_var rfl) ev_int op2_I0) (op2_ixL (at_low ?_))) (fun _ => ev_cb (ea_cons (ev_var rfl) ea_nil) cb_len)) (congrArg PyData.int low_if)) (fun σ8 H8 e8 s8 => ?_)
      · have := of_decide_eq_true h
        rw [List.length_map] at this
        omega
      replace s8 : Sg K { E with low := B } σ8 H8 [.d (dP ps), .d (dI rows), .o a, .d (.int q.1), .d (.int (q.2 : Nat)), .d (.int (lowN rows q.2)), .no, .no] ([] ++ (a, .dct z) :: []) := s8
      refine d_dput s8 rfl (ev_op (ev_var rfl) ev_int op2_I0) (b := (dval z ((q.2 : Nat) + 1)).getD 0 + q.1 - lowN rows q.2) (ev_op (ev_op (ev_dget2 rfl (by simp) (ev_op (ev_var rfl) ev_int op2_I0) ev_int) (ev_var rfl) op2_I0) (ev_var rfl) op2_I0) (by omega) (fun H9 s9 => ⟨_, rfl, ?_⟩)
      have e : (lowM rows)[i]? = some (((q.2 : Nat) : Int) + 1, q.1 - lowN rows q.2) := by
        unfold lowM
        rw [List.getElem?_map, hq]
        rfl
      rw [take_one e, ← List.append_assoc, tal_snoc, ← hz]
      rw [Int.add_sub_assoc] at s9
      exact s9.weak (.same (.same (.same (.no (.no (.no (.same (.same .nil))))))))
    · intro z σ7 H7 hz s7
      rw [List.length_zipIdx, ← lowM_len rows, List.take_length] at hz
      subst hz
      have s8 := Sg.freeze (O1 := []) (O2 := []) (i := 2) s7 rfl
      refine d_retL s8 (el_is (el_call (ea_cons (ev_var rfl) ea_nil) (show SInOrd _ _ from ⟨_, rfl, ?_, rfl⟩)) ?_) kq
      · refine Nat.le_trans (tal_le _) ?_
        rw [List.length_append, List.length_map, lowM_len]
        omega
      · unfold foldM foldL
        rw [hrows]
/-! ### hooks -/
def mnyM (at_ : Int) (q : Int × Int) : Int := if (if q.1 - at_ < q.2 then q.1 - at_ else q.2) > 0 then (if q.1 - at_ < q.2 then q.1 - at_ else q.2) else 0
def hkI (at_ : Int) (q : Int × Int) : List (Int × Int) := (List.range (mnyM at_ q).toNat).map fun k => (2 * (q.1 - at_ - (k : Nat)) - 1, 1)
def hkA : Int → List (Int × Int) → List (Int × Int)
  | _, [] => []
  | at_, q :: r => hkI at_ q ++ hkA (at_ + q.2) r
theorem hkI_len (at_ : Int) (q : Int × Int) : (hkI at_ q).length = (mnyM at_ q).toNat := by unfold hkI; rw [List.length_map, List.length_range]
theorem mny_nn (at_ : Int) (q : Int × Int) : 0 ≤ mnyM at_ q := by unfold mnyM; split <;> omega
def SHook (ds : List PyData) (ys : List PyData) : Prop := ∃ ps : List (Int × Int), ds = [dP ps] ∧ ps.length ≤ 50000 ∧ sumB ps = true ∧ turnM ps = ps ∧ (hkA 0 ps).length ≤ 1000 ∧ ys = (hkA 0 ps).map pr
theorem sc_hooks : FnScope ["parts", "found", "at", "part", "times", "many", "k"] ["parts"] (defScope s_hooks) := ⟨rfl, rfl, rfl, by decide +kernel, rfl, by decide +kernel, by decide +kernel⟩
theorem ok_hooks (D : Df K mg "hooks" s_hooks) (T : Bn mg) (G_MOST : ∃ t, mg "MOST" = some (.int 1000 t)) (c_check_sum : Cal P w K mg base 4 "check_sum" (SpR K SCheck)) (c_turned_of : Cal P w K mg base 1 "turned_of" (SpL K STurn)) : Cal P w K mg base 5 "hooks" (SpL K SHook) := by
  refine calL D sc_hooks (fun _ _ _ _ _ _ us hl => match us, hl with | [_], _ => rfl) (by decide) (fun ds y ⟨_, h, _⟩ => by rw [h]; rfl) (fun f cdv A outer s H σ E ds ys X hr h s0 => ?_)
  obtain ⟨ps, rfl, hl, hs, ht, hk, rfl⟩ := h
  obtain ⟨tM, G_M⟩ := G_MOST
  -- 0 parts, 1 found, 2 at, 3 part, 4 times, 5 many, 6 k
  replace s0 : Sg K E σ H [.d (dP ps), .no, .no, .no, .no, .no, .no] [] := s0
  refine ⟨_, (pss_cons (ps_expr (pe_c c_check_sum hr (by first | decide | omega) (by rfl) (pa_cons (pv 0) pa_nil)))
    (pss_cons (ps_if (pt_cmpR (r := rNeD K) (op_neD hr.units) (pe_c c_turned_of hr (by first | decide | omega) (by rfl) (pa_cons (pv 0) pa_nil)) (pv 0) (nomark _))
      (pss_one ps_never)
      pss_nil)
    (pss_cons (ps_set (i := 1) sc_hooks.nd rfl (Or.inl rfl) (pe_lst pa_nil))
    (pss_cons (ps_set (i := 2) sc_hooks.nd rfl (Or.inr rfl) pe_int)
    (pss_cons (ps_for PassesOwn.never rfl (pi_listK (K := K) rfl (pv 0)) (pg_tup (n := 2) rfl (pgs_cons (pg_name (i := 3) sc_hooks.nd rfl (Or.inr rfl)) (pgs_cons (pg_name (i := 4) sc_hooks.nd rfl (Or.inl rfl)) pgs_nil)))
      (pss_cons (ps_set (i := 5) sc_hooks.nd rfl (Or.inl rfl) (pe_callB cp_max2 (by rfl) T.max_ (by decide +kernel) (pa_cons pe_int (pa_cons (pe_callB cp_min2 (by rfl) T.min_ (by decide +kernel) (pa_cons (pv 4) (pa_cons (pe_op op_sub (pv 3) (pv 2)) pa_nil))) pa_nil))))
      (pss_cons (ps_if (pt_cmpR op_gt (pe_op op_add (pe_callB (r := Evl.rLenS K) cp_len (by rfl) T.len_ (by decide +kernel) (pa_cons (pv 1) pa_nil)) (pv 5)) (pe_glob (v := .int 1000) (by rfl) G_M ⟨_, rfl⟩) (nomark _))
        (pss_one ps_never)
        pss_nil)
      (pss_cons (ps_expr (pe_bm PySem.F.plainAttrs_list PySem.F.slot_list_extend PySem.F.type_list_extend mt_extend (pv 1) (pa_cons (pe_lc (own := [("k", 6)]) (g := (gName 6)) (tt := tYes) rfl sc_hooks.nd (pi_range1 (by rfl) T.range_ (pa_cons (pv 5) pa_nil)) (blkOk_by (own := [("k", 6)]) (N := ["parts", "found", "at", "part", "times", "many", "k"]) (sc := defScope s_hooks) (by decide +kernel)) (fun _ _ _ _ _ => (pg_name (i := 6) sc_hooks.nd rfl (by first | exact Or.inl rfl | exact Or.inr rfl))) (fun _ _ _ _ _ => pts_nil) (fun _ _ _ _ _ => (pe_tup (pa_cons (pe_op op_sub (pe_op op_mulA pe_int (pe_op op_sub (pe_op op_sub (pv 3) (pv 2)) (pv 6))) pe_int) (pa_cons pe_int pa_nil))))) pa_nil)))
      (pss_one (ps_aug (i := 2) sc_hooks.nd rfl (Or.inr rfl) (pv 4) ip_add))))))
    (pss_one (ps_ret (pv 1)))))))), fun Q kq => ?_⟩
  try dsimp only [cxOf, Cx.nox]
  refine q_drop s0 (ev_call (ea_cons (ev_var rfl) ea_nil) (show SCheck _ _ from ⟨ps, rfl, by omega, hs, rfl⟩)) (fun H1 e1 s1 => ?_)
  refine q_when s1 (b := false) (et_test (ev_is (ev_op (el_call (ea_cons (ev_var rfl) ea_nil) (show STurn _ _ from ⟨ps, rfl, hl, rfl⟩)).ev (ev_var rfl) op2_neP) (by rw [ht, decide_eq_true rfl]; rfl))) (fun z => nomatch z) (fun _ H2 e2 s2 => ?_)
  refine q_asgO s2 (el_lst ea_nil) (fun σ3 H3 a e3 s3 => ?_)
  refine q_asg s3 ev_int (fun σ4 H4 e4 s4 => ?_)
  refine q_for ps pr (fun i z => z.1 ++ hkA z.2 (ps.drop i) = hkA 0 ps) (fun z => [.d (dP ps), .o a, .d (.int z.2), .no, .no, .no, .no]) (fun z => [(a, .lst (z.1.map pr))]) (fun q z => [.d (dP ps), .o a, .d (.int z.2), .d (.int q.1), .d (.int q.2), .no, .no]) (([], 0) : List (Int × Int) × Int) (src_list (ev_var rfl)) s4 rfl ?_ ?_ ?_
  · intro i q z hq hz
    exact ⟨_, tg_tup2 (tg_name (Nat.le_of_ble_eq_true rfl)) (tg_name (Nat.le_of_ble_eq_true rfl))⟩
  · intro B i q z σ5 H5 hq hz s5
    obtain ⟨hi, hq'⟩ := List.getElem?_eq_some_iff.mp hq
    have ed : ps.drop i = q :: ps.drop (i + 1) := by rw [List.drop_eq_getElem_cons hi, hq']
    rw [ed] at hz
    have hz2 : z.1 ++ (hkI z.2 q ++ hkA (z.2 + q.2) (ps.drop (i + 1))) = hkA 0 ps := hz
    have hlen : z.1.length + (mnyM z.2 q).toNat ≤ 1000 := by
      have e := congrArg List.length hz2
      rw [List.length_append, List.length_append, hkI_len] at e
      omega
    have hnn := mny_nn z.2 q
    refine q_asg s5 (x := .int (mnyM z.2 q)) (ev_cb (ea_cons ev_int (ea_cons (ev_cb (ea_cons (ev_var rfl) (ea_cons (ev_op (ev_var rfl) (ev_var rfl) op2_I0) ea_nil)) cb_min2) ea_nil)) cb_max2) (fun σ6 H6 e6 s6 => ?_)
    replace s6 : Sg K { E with low := B } σ6 H6 [.d (dP ps), .o a, .d (.int z.2), .d (.int q.1), .d (.int q.2), .d (.int (mnyM z.2 q)), .no] ([] ++ (a, .lst (z.1.map pr)) :: []) := s6
    refine q_when s6 (b := false) (et_is (et_test (ev_op (ev_op (ev_lenO (xs := z.1.map pr) rfl List.mem_cons_self) (ev_var rfl) op2_I0) ev_int op2_B0)) ?_) (fun z => nomatch z) (fun _ H7 e7 s7 => ?_)
    · rw [List.length_map]
      exact decide_eq_false (by omega)
    refine q_ext (O1 := []) (O2 := []) s7 rfl (el_is (el_lc0 (List.range (mnyM z.2 q).toNat) (fun k => .int (k : Nat)) (fun k => pr (2 * (q.1 - z.2 - (k : Nat)) - 1, 1)) (fun k => [.d (dP ps), .o a, .d (.int z.2), .d (.int q.1), .d (.int q.2), .d (.int (mnyM z.2 q)), .d (.int (k : Nat))]) (src_rng1 (ea_cons (ev_var rfl) ea_nil)) (by rw [List.length_range]; omega) ?_ ?_) ?_) (ys := (hkI z.2 q).map pr) ?_ (fun H8 s8 => ?_)
    · intro k hk; exact ⟨_, tg_name (Nat.le_of_ble_eq_true rfl), by decide⟩
    · intro k hk
      exact ev_tup (ea_cons (ev_op (ev_op ev_int (ev_op (ev_op (ev_var rfl) (ev_var rfl) op2_I0) (ev_var rfl) op2_I0) (op2_I (mulok_l (by decide)))) ev_int op2_I0) (ea_cons ev_int ea_nil))
    · unfold hkI; rw [List.map_map]; rfl
    · rw [List.length_map, List.length_map, hkI_len]; omega
    refine d_aug s8 rfl (ev_var rfl) (fun σ9 H9 e9 s9 => ⟨(z.1 ++ hkI z.2 q, z.2 + q.2), ?_, ?_⟩)
    · show (z.1 ++ hkI z.2 q) ++ hkA (z.2 + q.2) (ps.drop (i + 1)) = hkA 0 ps
      rw [List.append_assoc]; exact hz2
    · show Sg _ _ _ _ _ [(a, .lst ((z.1 ++ hkI z.2 q).map pr))]
      rw [List.map_append]
      exact s9.weak (.same (.same (.same (.no (.no (.no (.no .nil)))))))
  · intro z σ5 H5 hz s5
    rw [List.drop_length] at hz
    have hz2 : z.1 ++ [] = hkA 0 ps := hz
    rw [List.append_nil] at hz2
    replace s5 : Sg K E σ5 H5 [.d (dP ps), .o a, .d (.int z.2), .no, .no, .no, .no] ([] ++ (a, .lst (z.1.map pr)) :: []) := s5
    refine d_retO s5 rfl (fun ws h1 h2 h3 h4 => kq a ws H5 h1 h2 h3 ?_)
    rw [← hz2]
    exact h4
end
end Pw

set_option Elab.async false
set_option linter.all false
set_option maxRecDepth 100000
set_option maxHeartbeats 2000000
set_option autoImplicit false
namespace Pw
/-! ### columns and rows -/
def colM (ps : List (Int × Int)) (j : Int) : Int := wsum (fun k => if j ≤ k then 1 else 0) ps
theorem col_cons (q : Int × Int) (r : List (Int × Int)) (j : Int) : colM (q :: r) j = (if j ≤ q.1 then q.2 else 0) + colM r j := by
  show (if j ≤ q.1 then (1 : Int) else 0) * q.2 + colM r j = _
  split
  · rw [Int.one_mul]
  · rw [Int.zero_mul]
theorem col_app (a b : List (Int × Int)) (j : Int) : colM (a ++ b) j = colM a j + colM b j := wsum_append _ a b
theorem col_nn {j : Int} : ∀ {ps : List (Int × Int)}, (∀ p ∈ ps, 0 ≤ p.2) → 0 ≤ colM ps j
  | [], _ => Int.le_refl _
  | q :: r, h => by
    rw [col_cons]
    have h1 := h q List.mem_cons_self
    have h2 := col_nn (j := j) (ps := r) fun p hp => h p (List.mem_cons_of_mem _ hp)
    split <;> omega
theorem col_none {j : Int} : ∀ {ps : List (Int × Int)}, (∀ p ∈ ps, p.1 < j) → colM ps j = 0
  | [], _ => rfl
  | q :: r, h => by
    have h1 := h q List.mem_cons_self
    rw [col_cons, if_neg (by omega), col_none fun p hp => h p (List.mem_cons_of_mem _ hp)]
    rfl
theorem cnt_col (k : Int) : ∀ ps : List (Int × Int), cnt ps k = colM ps k - colM ps (k + 1)
  | [] => rfl
  | q :: r => by
    rw [col_cons, col_cons]
    show (if q.1 = k then q.2 else 0) + cnt r k = _
    rw [cnt_col k r]
    by_cases h1 : q.1 = k
    · rw [if_pos h1, if_pos (by omega), if_neg (by omega)]; omega
    · by_cases h2 : k ≤ q.1
      · rw [if_neg h1, if_pos h2, if_pos (by omega)]; omega
      · rw [if_neg h1, if_neg h2, if_neg (by omega)]; omega
theorem col_cnt {a b : List (Int × Int)} (h : ∀ k, cnt a k = cnt b k) (j : Int) : colM a j = colM b j := wsum_cnt _ h
theorem can_col {a b : List (Int × Int)} (ha : Can a) (hb : Can b) (h : ∀ j, 1 ≤ j → colM a j = colM b j) : a = b := can_uniq ha hb fun k => by
  by_cases hk : 1 ≤ k
  · rw [cnt_col, cnt_col, h k hk, h (k + 1) (by omega)]
  · rw [cnt_none, cnt_none]
    · intro p hp z; have := (hb.pos p hp).1; omega
    · intro p hp z; have := (ha.pos p hp).1; omega
theorem Can.tail {q : Int × Int} {r : List (Int × Int)} (h : Can (q :: r)) : Can r := ⟨(List.pairwise_cons.mp h.desc).2, fun p hp => h.pos p (List.mem_cons_of_mem _ hp)⟩
theorem Can.nn {r : List (Int × Int)} (h : Can r) : ∀ p ∈ r, 0 ≤ p.2 := fun p hp => Int.le_of_lt (h.pos p hp).2
def rowA : List (Int × Int) → Int → Int
  | [], _ => 0
  | q :: r, m => if m < q.2 then q.1 else rowA r (m - q.2)
theorem row_cons (q : Int × Int) (r : List (Int × Int)) (m : Int) : rowA (q :: r) m = if m < q.2 then q.1 else rowA r (m - q.2) := rfl
theorem row_nn : ∀ {ps : List (Int × Int)} {m : Int}, (∀ p ∈ ps, 0 ≤ p.1) → 0 ≤ rowA ps m
  | [], _, _ => Int.le_refl _
  | q :: r, m, h => by
    unfold rowA
    split
    · exact h q List.mem_cons_self
    · exact row_nn fun p hp => h p (List.mem_cons_of_mem _ hp)
theorem row_col {j : Int} (hj : 1 ≤ j) : ∀ {ps : List (Int × Int)} {m : Int}, Can ps → 0 ≤ m → (j ≤ rowA ps m ↔ m + 1 ≤ colM ps j)
  | [], m, _, hm => by
    show j ≤ 0 ↔ m + 1 ≤ 0
    omega
  | q :: r, m, hc, hm => by
    have hq := hc.pos q List.mem_cons_self
    have hr := hc.tail
    have hd := (List.pairwise_cons.mp hc.desc).1
    rw [col_cons]
    unfold rowA
    by_cases h1 : j ≤ q.1
    · rw [if_pos h1]
      have hn := col_nn (j := j) hr.nn
      by_cases h2 : m < q.2
      · rw [if_pos h2]; omega
      · rw [if_neg h2, row_col hj hr (by omega)]; omega
    · rw [if_neg h1]
      have hz : colM r j = 0 := col_none fun p hp => by have := hd p hp; omega
      rw [hz]
      by_cases h2 : m < q.2
      · rw [if_pos h2]; omega
      · rw [if_neg h2, row_col hj hr (by omega), hz]; omega
/-! turned about -/
theorem col_turnA (m : Int) : ∀ (ps : List (Int × Int)) (M : Int), (∀ p ∈ ps, 0 < p.2) → colM (turnA M ps) m = if m ≤ M then (ps.headD (0, 0)).1 else rowA ps (m - M - 1)
  | [], M, _ => by
    show (0 : Int) = if m ≤ M then 0 else 0
    split <;> rfl
  | q :: r, M, h => by
    have hq := h q List.mem_cons_self
    unfold turnA
    rw [col_cons, col_turnA m r (M + q.2) fun p hp => h p (List.mem_cons_of_mem _ hp)]
    show (if m ≤ M + q.2 then q.1 - (r.headD (0, 0)).1 else 0) + _ = if m ≤ M then q.1 else rowA (q :: r) (m - M - 1)
    rw [row_cons]
    by_cases h1 : m ≤ M
    · rw [if_pos h1, if_pos (by omega), if_pos (by omega)]; omega
    · rw [if_neg h1]
      by_cases h2 : m ≤ M + q.2
      · rw [if_pos h2, if_pos h2, if_pos (by omega)]; omega
      · rw [if_neg h2, if_neg h2, if_neg (by omega), Int.zero_add]
        congr 1
        omega
theorem col_rev (ps : List (Int × Int)) (j : Int) : colM ps.reverse j = colM ps j := col_cnt (fun k => cnt_perm (List.reverse_perm ps)) j
theorem col_turn {ps : List (Int × Int)} (h : Can ps) {m : Int} (hm : 1 ≤ m) : colM (turnM ps) m = rowA ps (m - 1) := by
  unfold turnM
  rw [col_rev, col_turnA m ps 0 fun p hp => (h.pos p hp).2, if_neg (by omega), Int.sub_zero]
theorem turnA_facts : ∀ {ps : List (Int × Int)} (M : Int), Can ps → 0 ≤ M → ((turnA M ps).Pairwise fun a b => a.1 < b.1) ∧ ∀ p ∈ turnA M ps, M < p.1 ∧ 0 < p.2
  | [], M, _, _ => ⟨List.Pairwise.nil, fun p hp => nomatch hp⟩
  | q :: r, M, h, hM => by
    have hq := h.pos q List.mem_cons_self
    obtain ⟨i1, i2⟩ := turnA_facts (M + q.2) h.tail (by omega)
    have hh : (r.headD (0, 0)).1 < q.1 := by
      cases r with
      | nil => exact hq.1
      | cons x r => exact (List.pairwise_cons.mp h.desc).1 x List.mem_cons_self
    unfold turnA
    refine ⟨List.pairwise_cons.mpr ⟨fun p hp => (i2 p hp).1, i1⟩, fun p hp => ?_⟩
    rcases List.mem_cons.mp hp with rfl | hp
    · exact ⟨by show M < M + q.2; omega, by show 0 < q.1 - (r.headD (0, 0)).1; omega⟩
    · have := i2 p hp
      exact ⟨by omega, this.2⟩
theorem turn_can {ps : List (Int × Int)} (h : Can ps) : Can (turnM ps) := by
  obtain ⟨h1, h2⟩ := turnA_facts 0 h (Int.le_refl 0)
  exact ⟨List.pairwise_reverse.mpr h1, fun p hp => h2 p (List.mem_reverse.mp hp)⟩
theorem Can.nn1 {r : List (Int × Int)} (h : Can r) : ∀ p ∈ r, 0 ≤ p.1 := fun p hp => Int.le_of_lt (h.pos p hp).1
theorem turn_turn {ps : List (Int × Int)} (h : Can ps) : turnM (turnM ps) = ps := by
  have ht := turn_can h
  refine can_col (turn_can ht) h fun m hm => ?_
  rw [col_turn ht hm]
  have key : ∀ j : Int, 1 ≤ j → (j ≤ rowA (turnM ps) (m - 1) ↔ j ≤ colM ps m) := fun j hj => by
    rw [row_col hj ht (by omega), col_turn h hj]
    have := row_col (j := m) hm h (m := j - 1) (by omega)
    omega
  have h1 := row_nn (m := m - 1) ht.nn1
  have h2 := col_nn (j := m) h.nn
  have k1 := key (rowA (turnM ps) (m - 1))
  have k2 := key (colM ps m)
  omega
theorem turnA_tot : ∀ (ps : List (Int × Int)) (M : Int), totM (turnA M ps) = M * (ps.headD (0, 0)).1 + totM ps
  | [], M => by
    show (0 : Int) = M * 0 + 0
    omega
  | q :: r, M => by
    have e1 : ∀ (x : Int × Int) (l : List (Int × Int)), totM (x :: l) = x.1 * x.2 + totM l := fun x l => by unfold totM; rw [List.map_cons, List.sum_cons]
    unfold turnA
    rw [e1, e1, turnA_tot r (M + q.2)]
    show (M + q.2) * (q.1 - (r.headD (0, 0)).1) + ((M + q.2) * (r.headD (0, 0)).1 + totM r) = M * q.1 + (q.1 * q.2 + totM r)
    rw [Int.mul_sub, Int.add_mul M q.2 q.1, Int.mul_comm q.2 q.1]
    omega
theorem tot_rev (ps : List (Int × Int)) : totM ps.reverse = totM ps := by
  rw [tot_wsum, tot_wsum]
  exact wsum_cnt _ fun k => cnt_perm (List.reverse_perm ps)
theorem turn_tot (ps : List (Int × Int)) : totM (turnM ps) = totM ps := by
  unfold turnM
  rw [tot_rev, turnA_tot, Int.zero_mul, Int.zero_add]
theorem turn_len (ps : List (Int × Int)) : (turnM ps).length = ps.length := by
  unfold turnM
  rw [List.length_reverse, turnA_len]
/-! hooks -/
theorem mny_lo {a : Int} {q : Int × Int} (h : q.1 - a < q.2) (h2 : 0 < q.1 - a) : mnyM a q = q.1 - a := by
  unfold mnyM
  rw [if_pos h, if_pos h2]
theorem mny_no {a : Int} {q : Int × Int} (h : q.1 - a ≤ 0) (h2 : 0 < q.2) : mnyM a q = 0 := by
  unfold mnyM
  rw [if_pos (show q.1 - a < q.2 by omega), if_neg (by omega)]
theorem mny_hi {a : Int} {q : Int × Int} (h : q.2 ≤ q.1 - a) (h2 : 0 < q.2) : mnyM a q = q.2 := by
  unfold mnyM
  rw [if_neg (show ¬ q.1 - a < q.2 by omega), if_pos h2]
theorem hk_of : ∀ (ps : List (Int × Int)) (a : Int) (n : Nat), Can ps → 0 ≤ a → (∀ m : Nat, m < n → a + m < rowA ps m) → rowA ps n ≤ a + n → hkA a ps = (List.range n).map fun m => (2 * (rowA ps (m : Nat) - a - (m : Nat)) - 1, 1)
  | [], a, n, _, ha, h1, _ => by
    cases n with
    | zero => rfl
    | succ n =>
      have := h1 0 (Nat.succ_pos n)
      have e : rowA [] ((0 : Nat) : Int) = 0 := rfl
      rw [e] at this
      omega
  | q :: r, a, n, hc, ha, h1, h2 => by
    have hq := hc.pos q List.mem_cons_self
    have hd := (List.pairwise_cons.mp hc.desc).1
    by_cases hn : (n : Int) < q.2
    · have hrow : ∀ m : Nat, m ≤ n → rowA (q :: r) m = q.1 := fun m hm => by
        show (if (m : Int) < q.2 then q.1 else _) = q.1
        rw [if_pos (by omega)]
      have e2 := hrow n (Nat.le_refl n)
      rw [e2] at h2
      have hm : mnyM a q = n := by
        by_cases h0 : n = 0
        · subst h0
          rw [mny_no (by omega) hq.2]
          rfl
        · have h3 := h1 (n - 1) (by omega)
          rw [hrow (n - 1) (by omega)] at h3
          rw [mny_lo (by omega) (by omega)]
          omega
      have hrest : ∀ (l : List (Int × Int)) (b : Int), (∀ p ∈ l, 0 < p.2 ∧ p.1 ≤ b) → hkA b l = [] := by
        intro l
        induction l with
        | nil => intro b _; rfl
        | cons x l ih =>
          intro b hb
          obtain ⟨g1, g2⟩ := hb x List.mem_cons_self
          have e : hkI b x = [] := by
            have : mnyM b x = 0 := mny_no (by omega) g1
            unfold hkI
            rw [this]
            rfl
          show hkI b x ++ hkA (b + x.2) l = []
          rw [e, ih (b + x.2) fun p hp => by
            have := hb p (List.mem_cons_of_mem _ hp)
            exact ⟨this.1, by omega⟩]
          rfl
      show hkI a q ++ hkA (a + q.2) r = _
      rw [hrest r (a + q.2) fun p hp => ⟨(hc.pos p (List.mem_cons_of_mem _ hp)).2, by have := hd p hp; omega⟩, List.append_nil]
      unfold hkI
      rw [hm]
      show (List.range n).map _ = _
      apply List.map_congr_left
      intro m hm'
      have := List.mem_range.mp hm'
      rw [hrow m (by omega)]
    · have hrow : ∀ m : Nat, (m : Int) < q.2 → rowA (q :: r) m = q.1 := fun m hm => by
        show (if (m : Int) < q.2 then q.1 else _) = q.1
        rw [if_pos hm]
      have hrow2 : ∀ m : Nat, rowA (q :: r) ((q.2.toNat + m : Nat) : Int) = rowA r m := fun m => by
        show (if ((q.2.toNat + m : Nat) : Int) < q.2 then q.1 else rowA r (((q.2.toNat + m : Nat) : Int) - q.2)) = _
        rw [if_neg (by omega)]
        congr 1
        omega
      obtain ⟨k, hk⟩ : ∃ k : Nat, n = q.2.toNat + k := ⟨n - q.2.toNat, by omega⟩
      subst hk
      have hm : mnyM a q = q.2 := by
        have h3 := h1 (q.2.toNat - 1) (by omega)
        rw [hrow (q.2.toNat - 1) (by omega)] at h3
        exact mny_hi (by omega) hq.2
      have ih := hk_of r (a + q.2) k hc.tail (by omega) (fun m hm => by
        have := h1 (q.2.toNat + m) (by omega)
        rw [hrow2] at this
        omega) (by
        rw [hrow2] at h2
        omega)
      show hkI a q ++ hkA (a + q.2) r = _
      rw [ih, List.range_add, List.map_append]
      congr 1
      · unfold hkI
        rw [hm]
        apply List.map_congr_left
        intro m hm'
        have := List.mem_range.mp hm'
        rw [hrow m (by omega)]
      · rw [List.map_map]
        apply List.map_congr_left
        intro m _
        show (2 * (rowA r m - (a + q.2) - m) - 1, (1 : Int)) = (2 * (rowA (q :: r) ((q.2.toNat + m : Nat) : Int) - a - ((q.2.toNat + m : Nat) : Int)) - 1, 1)
        rw [hrow2]
        congr 1
        omega
end Pw

set_option Elab.async false
set_option linter.all false
set_option maxRecDepth 100000
set_option maxHeartbeats 2000000
set_option autoImplicit false
namespace Pw
/-! ### folded -/
def lowG : Nat → Int → List Int → List (Int × Int)
  | _, _, [] => []
  | o, n, r :: rs => ((o : Int) + 1, r - rs.headD n) :: lowG (o + 1) n rs
theorem lowG_len : ∀ (o : Nat) (n : Int) (rows : List Int), (lowG o n rows).length = rows.length
  | _, _, [] => rfl
  | o, n, r :: rs => by
    unfold lowG
    rw [List.length_cons, List.length_cons, lowG_len]
theorem lowG_get : ∀ (rows : List Int) (o : Nat) (n : Int) (i : Nat) (r : Int), rows[i]? = some r → (lowG o n rows)[i]? = some ((o : Int) + 1 + (i : Nat), r - rows.getD (i + 1) n)
  | [], _, _, i, r, h => by simp at h
  | x :: rs, o, n, 0, r, h => by
    have e : x = r := by simpa using h
    subst e
    show some ((o : Int) + 1, x - rs.headD n) = _
    have e3 : rs.headD n = (x :: rs).getD (0 + 1) n := by cases rs <;> rfl
    rw [e3]
    show _ = some ((o : Int) + 1 + ((0 : Nat) : Int), _)
    rw [Int.natCast_zero, Int.add_zero]
  | x :: rs, o, n, i + 1, r, h => by
    have h' : rs[i]? = some r := by simpa using h
    show (lowG (o + 1) n rs)[i]? = _
    rw [lowG_get rs (o + 1) n i r h']
    have e3 : (x :: rs).getD (i + 1 + 1) n = rs.getD (i + 1) n := rfl
    rw [e3]
    congr 2
    omega
theorem lowM_is (rows : List Int) : lowM rows = lowG 0 (rows.length : Nat) rows := by
  apply List.ext_getElem?
  intro i
  cases h : rows[i]? with
  | none =>
    have hl := List.getElem?_eq_none_iff.mp h
    rw [List.getElem?_eq_none (by rw [lowM_len]; exact hl), List.getElem?_eq_none (by rw [lowG_len]; exact hl)]
  | some r =>
    rw [lowG_get rows 0 _ i r h]
    unfold lowM
    rw [List.getElem?_map, List.getElem?_zipIdx, h]
    show some (((0 + i : Nat) : Int) + 1, r - lowN rows (0 + i)) = _
    unfold lowN
    rw [Nat.zero_add]
    congr 2
    omega
theorem col_low (n j : Int) : ∀ (rows : List Int) (o : Nat), colM (lowG o n rows) j = rows.getD (j - o - 1).toNat n - n
  | [], o => by
    show (0 : Int) = n - n
    omega
  | r :: rs, o => by
    unfold lowG
    rw [col_cons, col_low n j rs (o + 1)]
    show (if j ≤ (o : Int) + 1 then r - rs.headD n else 0) + _ = _
    by_cases h : j ≤ (o : Int) + 1
    · have e1 : (j - ((o + 1 : Nat) : Int) - 1).toNat = 0 := by omega
      have e2 : (j - (o : Int) - 1).toNat = 0 := by omega
      have e3 : rs.headD n = rs.getD 0 n := by cases rs <;> rfl
      have e4 : (r :: rs).getD 0 n = r := rfl
      rw [if_pos h, e1, e2, e3, e4]
      omega
    · have e2 : (j - (o : Int) - 1).toNat = (j - ((o + 1 : Nat) : Int) - 1).toNat + 1 := by omega
      have e4 : ∀ k, (r :: rs).getD (k + 1) n = rs.getD k n := fun k => rfl
      rw [if_neg h, e2, e4]
      omega
theorem tot_cons (x : Int × Int) (l : List (Int × Int)) : totM (x :: l) = x.1 * x.2 + totM l := by unfold totM; rw [List.map_cons, List.sum_cons]
theorem tot_app (a b : List (Int × Int)) : totM (a ++ b) = totM a + totM b := by unfold totM; rw [List.map_append, List.sum_append]
theorem tot_low (n : Int) : ∀ (rows : List Int) (o : Nat), totM (lowG o n rows) = o * (rows.headD n - n) + rows.sum - (rows.length : Nat) * n
  | [], o => by
    show (0 : Int) = o * (n - n) + 0 - ((0 : Nat) : Int) * n
    rw [Int.sub_self, Int.mul_zero, Int.natCast_zero, Int.zero_mul]
    rfl
  | r :: rs, o => by
    unfold lowG
    rw [tot_cons, tot_low n rs (o + 1), List.sum_cons, List.length_cons]
    show ((o : Int) + 1) * (r - rs.headD n) + _ = o * (r - n) + (r + rs.sum) - ((rs.length + 1 : Nat) : Int) * n
    have e1 : ((o + 1 : Nat) : Int) = o + 1 := by omega
    have e2 : ((rs.length + 1 : Nat) : Int) = rs.length + 1 := by omega
    rw [e1, e2]
    simp only [Int.mul_sub, Int.add_mul, Int.one_mul]
    omega
structure RowsOk (n : Nat) (rows : List Int) : Prop where
  len : rows.length = n
  down : rows.Pairwise fun a b => b ≤ a
  big : ∀ r ∈ rows, (n : Int) ≤ r
/-- how many rows reach j -/
def reach (rows : List Int) (j : Int) : Int := ((rows.filter fun r => decide (j ≤ r)).length : Nat)
theorem reach_cons (r : Int) (rs : List Int) (j : Int) : reach (r :: rs) j = (if j ≤ r then 1 else 0) + reach rs j := by
  unfold reach
  rw [List.filter_cons]
  by_cases h : j ≤ r
  · rw [if_pos (decide_eq_true h), if_pos h, List.length_cons]; omega
  · rw [if_neg (by simpa using h), if_neg h]; omega
theorem col_ones (j : Int) : ∀ rows : List Int, colM (rows.map fun r => (r, 1)) j = reach rows j
  | [] => rfl
  | r :: rs => by
    rw [List.map_cons, col_cons, reach_cons, col_ones j rs]
theorem reach_le (rows : List Int) (j : Int) : 0 ≤ reach rows j ∧ reach rows j ≤ (rows.length : Nat) := by
  unfold reach
  have := List.length_filter_le (fun r => decide (j ≤ r)) rows
  omega
theorem reach_all {rows : List Int} {j : Int} (h : ∀ r ∈ rows, j ≤ r) : reach rows j = (rows.length : Nat) := by
  unfold reach
  rw [List.filter_eq_self.mpr fun r hr => decide_eq_true (h r hr)]
theorem reach_iff {j : Int} : ∀ {rows : List Int} {i : Nat} {r : Int}, (rows.Pairwise fun a b => b ≤ a) → rows[i]? = some r → (j ≤ r ↔ (i : Int) + 1 ≤ reach rows j)
  | [], i, r, _, h => by simp at h
  | x :: rs, 0, r, hd, h => by
    have e : x = r := by simpa using h
    subst e
    obtain ⟨h1, h2⟩ := List.pairwise_cons.mp hd
    have hb := reach_le rs j
    rw [reach_cons]
    by_cases hx : j ≤ x
    · rw [if_pos hx]; omega
    · rw [if_neg hx]
      have : reach rs j = 0 := by
        unfold reach
        rw [List.filter_eq_nil_iff.mpr fun y hy => by
          have := h1 y hy
          have e : ¬ j ≤ y := by omega
          simpa using e]
        rfl
      omega
  | x :: rs, i + 1, r, hd, h => by
    have h' : rs[i]? = some r := by simpa using h
    obtain ⟨h1, h2⟩ := List.pairwise_cons.mp hd
    have ih := reach_iff (j := j) h2 h'
    have hm : r ≤ x := h1 r (List.mem_of_getElem? h')
    have hb := reach_le rs j
    rw [reach_cons]
    by_cases hx : j ≤ x
    · rw [if_pos hx]; omega
    · rw [if_neg hx]; omega
/-- the folded sum's places -/
def foldP (rows : List Int) : List (Int × Int) := rows.map (fun r => (r, 1)) ++ lowM rows
section
variable {n : Nat} {rows : List Int}
theorem col_fold (h : RowsOk n rows) {j : Int} (hj : 1 ≤ j) : colM (foldP rows) j = if j ≤ n then rows.getD (j - 1).toNat n else reach rows j := by
  unfold foldP
  rw [col_app, col_ones, lowM_is, h.len, col_low]
  have e : (j - ((0 : Nat) : Int) - 1).toNat = (j - 1).toNat := by omega
  rw [e]
  by_cases hn : j ≤ n
  · rw [if_pos hn, reach_all fun r hr => by have := h.big r hr; omega, h.len]
    omega
  · rw [if_neg hn, List.getD_eq_getElem?_getD, List.getElem?_eq_none (by rw [h.len]; omega)]
    show reach rows j + ((n : Int) - n) = _
    omega
theorem low_pos (h : RowsOk n rows) : ∀ p ∈ foldP rows, 0 ≤ p.2 ∧ 0 < p.1 := fun p hp => by
  unfold foldP at hp
  rcases List.mem_append.mp hp with hp | hp
  · obtain ⟨r, hr, rfl⟩ := List.mem_map.mp hp
    have h1 := h.big r hr
    have h2 : 0 < rows.length := List.length_pos_of_mem hr
    rw [h.len] at h2
    exact ⟨by show (0 : Int) ≤ 1; decide, by show 0 < r; omega⟩
  · unfold lowM at hp
    obtain ⟨q, hq, rfl⟩ := List.mem_map.mp hp
    obtain ⟨i, hi⟩ := List.mem_iff_getElem?.mp hq
    obtain ⟨h1, h2⟩ := zip_get hi
    refine ⟨?_, by show 0 < ((q.2 : Nat) : Int) + 1; omega⟩
    show 0 ≤ q.1 - lowN rows q.2
    unfold lowN
    rw [List.getD_eq_getElem?_getD, h2]
    cases e : rows[i + 1]? with
    | none =>
      have := h.big q.1 (List.mem_of_getElem? h1)
      show 0 ≤ q.1 - ((rows.length : Nat) : Int)
      rw [h.len]
      omega
    | some y =>
      obtain ⟨a1, a2⟩ := List.getElem?_eq_some_iff.mp h1
      obtain ⟨b1, b2⟩ := List.getElem?_eq_some_iff.mp e
      have := List.pairwise_iff_getElem.mp h.down i (i + 1) a1 b1 (Nat.lt_succ_self i)
      rw [a2, b2] at this
      show 0 ≤ q.1 - y
      omega
def foldC (rows : List Int) : List (Int × Int) := inOrdM (tal (foldP rows))
theorem fold_cnt (h : RowsOk n rows) (k : Int) : cnt (foldC rows) k = cnt (foldP rows) k := by
  obtain ⟨t1, t2, t3⟩ := tal_facts (foldP rows)
  unfold foldC
  rw [(inOrd_facts t1).2.2 k, t2 k]
  have h0 : 0 ≤ cnt (foldP rows) k := cnt_nonneg fun p hp => (low_pos h p hp).1
  by_cases hp : 0 < cnt (foldP rows) k
  · rw [if_pos hp]
  · rw [if_neg hp]; omega
theorem fold_can (h : RowsOk n rows) : Can (foldC rows) := by
  obtain ⟨t1, t2, t3⟩ := tal_facts (foldP rows)
  obtain ⟨i1, i2, _⟩ := inOrd_facts t1
  refine ⟨i1, fun p hp => ?_⟩
  obtain ⟨g1, g2, _⟩ := i2 p hp
  obtain ⟨q, hq, e⟩ := List.mem_map.mp ((t3 p.1).mp g2)
  exact ⟨by rw [← e]; exact (low_pos h q hq).2, g1⟩
theorem fold_col (h : RowsOk n rows) {j : Int} (hj : 1 ≤ j) : colM (foldC rows) j = if j ≤ n then rows.getD (j - 1).toNat n else reach rows j := by
  rw [col_cnt (fold_cnt h), col_fold h hj]
theorem getD_row (h : RowsOk n rows) {i : Nat} (hi : i < n) : ∃ r, rows[i]? = some r ∧ ∀ d, rows.getD i d = r := by
  have hl : i < rows.length := by rw [h.len]; exact hi
  refine ⟨rows[i], List.getElem?_eq_getElem hl, fun d => ?_⟩
  rw [List.getD_eq_getElem?_getD, List.getElem?_eq_getElem hl]
  rfl
theorem fold_row (h : RowsOk n rows) {m : Nat} (hm : m < n) : rowA (foldC rows) m = rows.getD m 0 := by
  have hc := fold_can h
  obtain ⟨r, hr, hg⟩ := getD_row h hm
  have hb := h.big r (List.mem_of_getElem? hr)
  rw [hg]
  have key : ∀ j : Int, 1 ≤ j → (j ≤ rowA (foldC rows) m ↔ j ≤ r) := fun j hj => by
    rw [row_col hj hc (by omega), fold_col h hj]
    by_cases hn : j ≤ n
    · rw [if_pos hn]
      obtain ⟨r2, hr2, hg2⟩ := getD_row h (i := (j - 1).toNat) (by omega)
      have := h.big r2 (List.mem_of_getElem? hr2)
      rw [hg2]
      omega
    · rw [if_neg hn]
      exact (reach_iff h.down hr).symm
  have h1 := row_nn (m := (m : Int)) hc.nn1
  have k1 := key (rowA (foldC rows) m)
  have k2 := key r
  omega
theorem fold_beyond (h : RowsOk n rows) {m : Int} (hm : (n : Int) ≤ m) : rowA (foldC rows) m ≤ n := by
  have hc := fold_can h
  by_cases hx : rowA (foldC rows) m ≤ n
  · exact hx
  · exfalso
    have h1 := (row_col (j := (n : Int) + 1) (by omega) hc (m := m) (by omega)).mp (by omega)
    rw [fold_col h (by omega), if_neg (by omega)] at h1
    have := reach_le rows ((n : Int) + 1)
    rw [h.len] at this
    omega
theorem fold_own (h : RowsOk n rows) : turnM (foldC rows) = foldC rows := by
  have hc := fold_can h
  refine can_col (turn_can hc) hc fun m hm => ?_
  rw [col_turn hc hm]
  have key : ∀ j : Int, 1 ≤ j → (j ≤ rowA (foldC rows) (m - 1) ↔ j ≤ colM (foldC rows) m) := fun j hj => by
    rw [row_col hj hc (by omega), fold_col h hj, fold_col h hm]
    by_cases h1 : j ≤ n
    · rw [if_pos h1]
      obtain ⟨r1, hr1, hg1⟩ := getD_row h (i := (j - 1).toNat) (by omega)
      have b1 := h.big r1 (List.mem_of_getElem? hr1)
      rw [hg1]
      by_cases h2 : m ≤ n
      · rw [if_pos h2]
        obtain ⟨r2, hr2, hg2⟩ := getD_row h (i := (m - 1).toNat) (by omega)
        have b2 := h.big r2 (List.mem_of_getElem? hr2)
        rw [hg2]
        omega
      · rw [if_neg h2]
        have := reach_iff (j := m) h.down hr1
        omega
    · rw [if_neg h1]
      have e1 := reach_le rows j
      rw [h.len] at e1
      by_cases h2 : m ≤ n
      · rw [if_pos h2]
        obtain ⟨r2, hr2, hg2⟩ := getD_row h (i := (m - 1).toNat) (by omega)
        rw [hg2]
        have := reach_iff (j := j) h.down hr2
        omega
      · rw [if_neg h2]
        have e2 := reach_le rows m
        rw [h.len] at e2
        omega
  have h1 := row_nn (m := m - 1) hc.nn1
  have h2 := col_nn (j := m) hc.nn
  have k1 := key (rowA (foldC rows) (m - 1))
  have k2 := key (colM (foldC rows) m)
  omega
theorem fold_tot (h : RowsOk n rows) : totM (foldC rows) = rows.sum + rows.sum - n * n := by
  rw [tot_wsum, wsum_cnt _ (fold_cnt h), ← tot_wsum]
  unfold foldP
  rw [tot_app, lowM_is, tot_low, h.len]
  have e : totM (rows.map fun r => (r, 1)) = rows.sum := by
    unfold totM
    rw [List.map_map]
    congr 1
    have : ((fun p : Int × Int => p.1 * p.2) ∘ fun r : Int => (r, (1 : Int))) = id := by
      funext r
      show r * 1 = r
      omega
    rw [this, List.map_id]
  rw [e]
  show rows.sum + (((0 : Nat) : Int) * _ + rows.sum - _) = _
  rw [Int.natCast_zero, Int.zero_mul]
  omega
theorem fold_hk (h : RowsOk n rows) (hs : ∀ (i : Nat) (r : Int), rows[i]? = some r → (i : Int) < r) : hkA 0 (foldC rows) = (List.range n).map fun m => (2 * (rows.getD m 0 - (m : Nat)) - 1, 1) := by
  have a1 : ∀ m : Nat, m < n → (0 : Int) + m < rowA (foldC rows) m := fun m hm => by
    rw [fold_row h hm, Int.zero_add]
    obtain ⟨r, hr, hg⟩ := getD_row h hm
    rw [hg]
    exact hs m r hr
  have a2 : rowA (foldC rows) n ≤ 0 + (n : Int) := by
    have := fold_beyond h (m := (n : Int)) (Int.le_refl _)
    omega
  rw [hk_of (foldC rows) 0 n (fold_can h) (Int.le_refl 0) a1 a2]
  apply List.map_congr_left
  intro m hm
  rw [fold_row h (List.mem_range.mp hm), Int.sub_zero]
theorem fold_put (h : RowsOk n rows) : putM (rows.map (fun r => (r, 1)) ++ (lowM rows).filter fun e => decide (0 < e.2)) = foldC rows := by
  have hp : ∀ p ∈ foldP rows, 0 ≤ p.2 ∧ 0 < p.1 := low_pos h
  unfold foldP at hp
  refine can_uniq (put_can fun p hp' => ?_) (fold_can h) fun k => ?_
  · rcases List.mem_append.mp hp' with m | m
    · obtain ⟨r, hr, rfl⟩ := List.mem_map.mp m
      exact ⟨(hp _ (List.mem_append_left _ (List.mem_map.mpr ⟨r, hr, rfl⟩))).2, Int.one_pos⟩
    · obtain ⟨m1, m2⟩ := List.mem_filter.mp m
      exact ⟨(hp p (List.mem_append_right _ m1)).2, of_decide_eq_true m2⟩
  · rw [(put_facts _).2.1, fold_cnt h]
    unfold foldP
    rw [cnt_append, cnt_append, cnt_filter k fun q hq => (hp q (List.mem_append_right _ hq)).1]
end
/-! from odd parts -/
def rowsG : Nat → List (Int × Int) → List Int
  | _, [] => []
  | o, q :: r => (q.1 / 2 + 1 + (o : Nat)) :: rowsG (o + 1) r
theorem foldR_is (ps : List (Int × Int)) : foldR ps = rowsG 0 ps := by
  have : ∀ (ps : List (Int × Int)) (o : Nat), (ps.zipIdx o).map (fun q => q.1.1 / 2 + 1 + ((q.2 : Nat) : Int)) = rowsG o ps := by
    intro ps
    induction ps with
    | nil => intro o; rfl
    | cons q r ih =>
      intro o
      rw [List.zipIdx_cons, List.map_cons, ih (o + 1)]
      rfl
  exact this ps 0
theorem rowsG_len : ∀ (o : Nat) (ps : List (Int × Int)), (rowsG o ps).length = ps.length
  | _, [] => rfl
  | o, q :: r => by
    unfold rowsG
    rw [List.length_cons, List.length_cons, rowsG_len]
theorem rowsG_get : ∀ (ps : List (Int × Int)) (o i : Nat) (r : Int), (rowsG o ps)[i]? = some r → ∃ q, ps[i]? = some q ∧ r = q.1 / 2 + 1 + (o + i : Nat)
  | [], _, i, r, h => by simp [rowsG] at h
  | q :: t, o, 0, r, h => by
    have e : q.1 / 2 + 1 + (o : Int) = r := by simpa [rowsG] using h
    exact ⟨q, rfl, e.symm⟩
  | q :: t, o, i + 1, r, h => by
    have h' : (rowsG (o + 1) t)[i]? = some r := by simpa [rowsG] using h
    obtain ⟨x, h1, h2⟩ := rowsG_get t (o + 1) i r h'
    refine ⟨x, by simpa using h1, ?_⟩
    rw [h2]
    omega
def Odds (ps : List (Int × Int)) : Prop := ∀ p ∈ ps, p.2 ≤ 1 ∧ p.1 % 2 ≠ 0
theorem rowsG_ok : ∀ {ps : List (Int × Int)} (o : Nat), Can ps → Odds ps → ((rowsG o ps).Pairwise fun a b => b ≤ a) ∧ ∀ r ∈ rowsG o ps, ((o + ps.length : Nat) : Int) ≤ r
  | [], _, _, _ => ⟨List.Pairwise.nil, fun r hr => nomatch hr⟩
  | q :: t, o, hc, ho => by
    have hq := hc.pos q List.mem_cons_self
    have oq := (ho q List.mem_cons_self).2
    obtain ⟨i1, i2⟩ := rowsG_ok (o + 1) hc.tail fun p hp => ho p (List.mem_cons_of_mem _ hp)
    have hd := (List.pairwise_cons.mp hc.desc).1
    have le : ∀ r ∈ rowsG (o + 1) t, r ≤ q.1 / 2 + 1 + (o : Nat) := fun r hr => by
      obtain ⟨i, hi⟩ := List.mem_iff_getElem?.mp hr
      obtain ⟨x, hx, e⟩ := rowsG_get t (o + 1) i r hi
      cases t with
      | nil => simp at hx
      | cons y t =>
        have hy := (ho y (List.mem_cons_of_mem _ List.mem_cons_self)).2
        have dy := hd y List.mem_cons_self
        have r0 : y.1 / 2 + 1 + ((o + 1 : Nat) : Int) ≤ q.1 / 2 + 1 + (o : Nat) := by omega
        rcases List.mem_cons.mp hr with e2 | m
        · rw [e2]; exact r0
        · have := (List.pairwise_cons.mp i1).1 r m
          omega
    refine ⟨?_, fun r hr => ?_⟩
    · show ((q.1 / 2 + 1 + (o : Nat)) :: rowsG (o + 1) t).Pairwise _
      exact List.pairwise_cons.mpr ⟨fun r hr => le r hr, i1⟩
    · have hr' : r ∈ (q.1 / 2 + 1 + (o : Nat)) :: rowsG (o + 1) t := hr
      rw [List.length_cons]
      rcases List.mem_cons.mp hr' with e | m
      · rw [e]
        cases t with
        | nil =>
          show ((o + ([] : List (Int × Int)).length.succ : Nat) : Int) ≤ _
          have : 0 ≤ q.1 / 2 := by omega
          simp only [List.length_nil]
          omega
        | cons y t =>
          have h1 := le (y.1 / 2 + 1 + ((o + 1 : Nat) : Int)) List.mem_cons_self
          have h2 := i2 (y.1 / 2 + 1 + ((o + 1 : Nat) : Int)) List.mem_cons_self
          omega
      · have := i2 r m
        omega
theorem odd_rows {ps : List (Int × Int)} (hc : Can ps) (ho : Odds ps) : RowsOk ps.length (foldR ps) := by
  rw [foldR_is]
  obtain ⟨h1, h2⟩ := rowsG_ok 0 hc ho
  exact ⟨rowsG_len 0 ps, h1, fun r hr => by have := h2 r hr; omega⟩
theorem rowsG_sum : ∀ {ps : List (Int × Int)} (o : Nat), Can ps → Odds ps → (rowsG o ps).sum + (rowsG o ps).sum = totM ps + 2 * ((o : Int) * (ps.length : Nat)) + (ps.length : Nat) * (ps.length : Nat)
  | [], o, _, _ => by
    show (0 : Int) + 0 = 0 + 2 * ((o : Int) * ((0 : Nat) : Int)) + ((0 : Nat) : Int) * ((0 : Nat) : Int)
    rw [Int.natCast_zero, Int.mul_zero, Int.mul_zero]
    rfl
  | q :: t, o, hc, ho => by
    have hq := hc.pos q List.mem_cons_self
    have oq := ho q List.mem_cons_self
    have ih := rowsG_sum (o + 1) hc.tail fun p hp => ho p (List.mem_cons_of_mem _ hp)
    have e1 : q.1 * q.2 = q.1 := by
      have : q.2 = 1 := by omega
      rw [this, Int.mul_one]
    rw [tot_cons, e1, List.length_cons]
    show ((q.1 / 2 + 1 + (o : Nat)) :: rowsG (o + 1) t).sum + ((q.1 / 2 + 1 + (o : Nat)) :: rowsG (o + 1) t).sum = _
    rw [List.sum_cons]
    have e2 : ((o + 1 : Nat) : Int) = o + 1 := by omega
    have e3 : ((t.length + 1 : Nat) : Int) = t.length + 1 := by omega
    rw [e2] at ih
    rw [e3]
    simp only [Int.mul_add, Int.add_mul, Int.one_mul, Int.mul_one] at ih ⊢
    omega
theorem foldM_is (ps : List (Int × Int)) : foldM ps = foldC (foldR ps) := rfl
section
variable {ps : List (Int × Int)}
theorem odd_tot (hc : Can ps) (ho : Odds ps) : totM (foldM ps) = totM ps := by
  rw [foldM_is, fold_tot (odd_rows hc ho), foldR_is, rowsG_sum 0 hc ho]
  rw [Int.natCast_zero, Int.zero_mul, Int.mul_zero]
  omega
theorem odd_hk (hc : Can ps) (ho : Odds ps) : hkA 0 (foldM ps) = ps := by
  have hr := odd_rows hc ho
  have hl := foldR_len ps
  have get : ∀ (i : Nat) (r : Int), (foldR ps)[i]? = some r → ∃ q, ps[i]? = some q ∧ r = q.1 / 2 + 1 + (i : Nat) := fun i r h => by
    rw [foldR_is] at h
    obtain ⟨q, h1, h2⟩ := rowsG_get ps 0 i r h
    exact ⟨q, h1, by rw [h2, Nat.zero_add]⟩
  rw [foldM_is, fold_hk hr fun i r h => ?_]
  · apply List.ext_getElem?
    intro i
    rw [List.getElem?_map]
    by_cases hi : i < ps.length
    · rw [List.getElem?_range hi]
      obtain ⟨r, h1, h2⟩ := getD_row hr hi
      obtain ⟨q, h3, h4⟩ := get i r h1
      have hm := List.mem_of_getElem? h3
      have oq := ho q hm
      have pq := hc.pos q hm
      rw [h3]
      show some (2 * ((foldR ps).getD i 0 - (i : Int)) - 1, (1 : Int)) = some q
      rw [h2, h4]
      congr 1
      refine Prod.ext ?_ ?_
      · show 2 * (q.1 / 2 + 1 + (i : Int) - i) - 1 = q.1
        omega
      · show (1 : Int) = q.2
        omega
    · rw [List.getElem?_eq_none (by rw [List.length_range]; omega), List.getElem?_eq_none (by omega)]
      rfl
  · obtain ⟨q, h1, h2⟩ := get i r h
    have pq := hc.pos q (List.mem_of_getElem? h1)
    have : 0 ≤ q.1 / 2 := by omega
    rw [h2]
    omega
theorem odd_head (hc : Can ps) (ho : Odds ps) {q p : Int × Int} {r t : List (Int × Int)} (h1 : foldM ps = q :: r) (h2 : ps = p :: t) : q.1 = p.1 / 2 + 1 ∧ q.2 ≤ (ps.length : Nat) := by
  have hr := odd_rows hc ho
  have hn : 0 < ps.length := by rw [h2, List.length_cons]; omega
  have hF := fold_can hr
  rw [← foldM_is] at hF
  have q0 := hF.pos q (by rw [h1]; exact List.mem_cons_self)
  have e1 := fold_row hr (m := 0) hn
  rw [← foldM_is, h1] at e1
  rw [row_cons, if_pos (by show ((0 : Nat) : Int) < q.2; omega)] at e1
  have e2 : (foldR ps).getD 0 0 = p.1 / 2 + 1 := by
    rw [foldR_is, h2]
    show p.1 / 2 + 1 + ((0 : Nat) : Int) = _
    rw [Int.natCast_zero, Int.add_zero]
  refine ⟨by rw [e1, e2], ?_⟩
  have hd := (List.pairwise_cons.mp (h1 ▸ hF.desc)).1
  have e3 : colM (foldM ps) q.1 = q.2 := by
    rw [h1, col_cons, if_pos (Int.le_refl _), col_none fun x hx => hd x hx, Int.add_zero]
  have e4 : colM (foldM ps) q.1 = rowA (foldM ps) (q.1 - 1) := by
    have := col_turn hF (m := q.1) (by omega)
    rw [foldM_is, fold_own hr, ← foldM_is] at this
    exact this
  rw [← e3, e4]
  by_cases hx : (ps.length : Int) ≤ q.1 - 1
  · rw [foldM_is]
    exact fold_beyond hr hx
  · have hb := hr.big q.1 (by
      rw [e1]
      obtain ⟨r0, g1, g2⟩ := getD_row hr hn
      rw [g2]
      exact List.mem_of_getElem? g1)
    have eq1 : q.1 = (ps.length : Nat) := by omega
    have e5 := fold_row hr (m := ps.length - 1) (by omega)
    have e6 : (((ps.length - 1 : Nat) : Nat) : Int) = q.1 - 1 := by omega
    rw [e6] at e5
    rw [foldM_is, e5]
    obtain ⟨r2, g1, g2⟩ := getD_row hr (i := ps.length - 1) (by omega)
    rw [g2]
    obtain ⟨r0, g3, g4⟩ := getD_row hr hn
    rw [e1, g4] at eq1
    obtain ⟨a1, a2⟩ := List.getElem?_eq_some_iff.mp g1
    obtain ⟨b1, b2⟩ := List.getElem?_eq_some_iff.mp g3
    by_cases h0 : ps.length - 1 = 0
    · rw [h0] at g1
      rw [g3] at g1
      cases g1
      omega
    · have := List.pairwise_iff_getElem.mp hr.down 0 (ps.length - 1) b1 a1 (by omega)
      rw [a2, b2] at this
      omega
theorem fold_len (ps : List (Int × Int)) : (foldM ps).length ≤ 2 * ps.length := by
  unfold foldM
  refine Nat.le_trans (inOrd_len _) (Nat.le_trans (tal_le _) ?_)
  unfold foldL
  rw [List.length_append, List.length_map, lowM_len, foldR_len]
  omega
end
end Pw

set_option Elab.async false
set_option linter.all false
set_option maxRecDepth 100000
set_option maxHeartbeats 2000000
set_option autoImplicit false
namespace Pw
open PySem PySem.Spec PyProof.Rows L2
open Evl (Ex)
open Pw in
local macro_rules | `(tactic| walk_at "ev") => `(tactic| first
  | with_reducible exact ev_int
  | with_reducible exact ev_bl
  | with_reducible exact ev_non
  | exact ev_var rfl
  | exact ea_nil
  | with_reducible exact eo_none
  | with_reducible exact et_yes
  | ((refine' ea_cons ?_ ?_) <;> walk_at "ev")
  | ((with_reducible refine' et_test ?_) <;> walk_at "ev")
  | ((with_reducible refine' et_B ?_) <;> walk_at "ev")
  | ((with_reducible refine' et_not ?_) <;> walk_at "ev")
  | ((with_reducible refine' et_and ?_ (fun h_and => ?_)) <;> walk_at "ev")
  | ((with_reducible refine' et_or ?_ (fun h_or => ?_)) <;> walk_at "ev")
  | ((with_reducible refine' ev_andV ?_ (fun h_and => ?_)) <;> walk_at "ev")
  | ((with_reducible refine' ev_orV ?_ (fun h_or => ?_)) <;> walk_at "ev")
  | ((with_reducible refine' ev_notV ?_) <;> walk_at "ev")
  | ((with_reducible refine' ev_ifI ?_ (fun h_if => ?_) (fun h_if => ?_)) <;> walk_at "ev")
  | ((with_reducible refine' ev_un ?_ op1_neg) <;> walk_at "ev")
  | ((with_reducible refine' (el_cat ?_ ?_ ?_).ev) <;> walk_at "ev")
  | ((with_reducible refine' el_cat ?_ ?_ ?_) <;> walk_at "ev")
  | ((with_reducible refine' ev_op ?_ ?_ ?_) <;> walk_at "ev")
  | ((with_reducible refine' ev_tup ?_ ?_) <;> walk_at "ev")
  | ((with_reducible refine' (el_lst ?_ ?_).ev) <;> walk_at "ev")
  | ((with_reducible refine' el_lst ?_ ?_) <;> walk_at "ev")
  | ((with_reducible refine' (el_sl ?_ ?_ ?_).ev) <;> walk_at "ev")
  | ((with_reducible refine' el_sl ?_ ?_ ?_) <;> walk_at "ev")
  | ((with_reducible refine' (el_rev ?_).ev) <;> walk_at "ev")
  | ((with_reducible refine' el_rev ?_) <;> walk_at "ev")
  | ((with_reducible refine' eo_some ?_) <;> walk_at "ev")
  | ((with_reducible refine' (el_list ?_).ev) <;> walk_at "ev")
  | ((with_reducible refine' el_list ?_) <;> walk_at "ev")
  | ((with_reducible refine' ev_call ?_ ?_) <;> walk_at "ev")
  | ((with_reducible refine' (el_call ?_ ?_).ev) <;> walk_at "ev")
  | ((with_reducible refine' el_call ?_ ?_) <;> walk_at "ev")
  | ((with_reducible refine' (el_sortedD ?_).ev) <;> walk_at "ev")
  | ((with_reducible refine' el_sortedD ?_) <;> walk_at "ev")
  | ((with_reducible refine' (el_sortedDR ?_).ev) <;> walk_at "ev")
  | ((with_reducible refine' el_sortedDR ?_) <;> walk_at "ev")
  | ((with_reducible refine' ev_dgetD ?_ ?_ ?_) <;> walk_at "ev")
  | ((with_reducible refine' ev_cb ?_ ?_) <;> walk_at "ev")
  | with_reducible exact op2_I0
  | with_reducible exact op2_B0
  | with_reducible exact op2_eqI
  | with_reducible exact op2_neI
  | with_reducible exact op2_eqB
  | with_reducible exact op2_neB
  | with_reducible exact op2_isB
  | with_reducible exact op2_isNB
  | with_reducible exact op2_inT
  | with_reducible exact op2_inL
  | (with_reducible refine' op2_eqD ?_ ?_)
  | (with_reducible refine' op2_neD ?_ ?_)
  | ((with_reducible refine' op2_I ?_) <;> walk_at "side")
  | (with_reducible refine' op2_ixL ?_)
  | (with_reducible refine' op2_ixT ?_)
  | (show List.length _ ≤ 100000; exact Nat.le_of_ble_eq_true rfl)
  | exact cb_len
  | exact cb_lenT
  | exact cb_minT
  | exact cb_abs
  | exact cb_max2
  | exact cb_min2
  | exact cb_intB
  | exact cb_sum
  | exact cb_any
  | exact cb_all
  | skip)
local macro_rules | `(tactic| walk_at "side") => `(tactic| first
  | exact Nat.le_of_ble_eq_true rfl
  | (with_reducible exact mulok_l (by decide))
  | (with_reducible exact mulok_r (by decide))
  | (show (0 : Int) < _; decide)
  | (show (0 : Int) < _; omega)
  | (show (0 : Int) ≤ _ ∧ _ ∧ _; decide)
  | skip)

section
variable {P : Program} {w : World} {K : PySem.W.Frag} {mg : Str → Option Value} {base : Heap} {C_BadSum C_BadNumber C_NotSuch C_TooMany : Addr}
/-! ### doors that refuse: no sum -/
/-- what is no sum -/
def BadD (x : PyData) : Prop := isSumD x = false ∧ ∀ xs, x = .list xs → xs.length ≤ 50000
def SBadS (c0 : Addr) (ds : List PyData) (c : Addr) : Prop := ∃ x, ds = [x] ∧ BadD x ∧ c = c0
theorem xk_check_sum (D : Df K mg "check_sum" s_check_sum) (T : Bn mg) (x_BadSum : XC K mg "BadSum" C_BadSum) (c_is_sum : Cal P w K mg base 3 "is_sum" (SpR K SIsSum)) : CalX P w K mg base 4 "check_sum" (SpO (SpR K SCheck) (SpE K (SBadS C_BadSum))) := by
  obtain ⟨f, fd, F, hm⟩ := D.ex
  refine ⟨f, fd, ["parts"], fn_or (okRX F sc_check_sum (by decide) (fun ds y ⟨_, h, _⟩ => by rw [h]; rfl) (fun cdv A outer s H σ E ds y X hr h s0 => ?_)) (okE F sc_check_sum (by decide) (fun ds y ⟨_, h, _⟩ => by rw [h]; rfl) (fun cdv A outer s H σ E ds c X hr h s0 => ?_)), hm, F.kp, F.binds (fun _ _ _ _ _ _ us hl => match us, hl with | [_], _ => rfl)⟩
  · obtain ⟨ps, rfl, hl, hs, rfl⟩ := h
    replace s0 : Sg K E σ H [.d (dP ps)] [] := s0
    refine ⟨_, (pss_one (ps_if (pt_not (pt_val (pe_c c_is_sum hr (by first | decide | omega) (by rfl) (pa_cons (pv 0) pa_nil))))
      (pss_one (ps_raise rfl (takes_of rfl rfl rfl rfl) (pm_own x_BadSum (by rfl))))
      pss_nil)), fun Q kq => ?_⟩
    try dsimp only [cxOf, Cx.nox]
    refine d_when s0 (b := false) (et_not (a := true) (et_B (ev_is (ev_call (ea_cons (ev_var rfl) ea_nil) (show SIsSum _ _ from ⟨dP ps, rfl, fun xs e => ?_, rfl⟩)) (by rw [isSum_dP, hs])))) (fun z => nomatch z) (fun _ H1 e1 s1 => kq .non H1 s1.ent .non)
    cases e
    rw [List.length_map]
    omega
  · obtain ⟨x, rfl, ⟨hx, hl⟩, rfl⟩ := h
    replace s0 : Sg K E σ H [.d x] [] := s0
    refine ⟨_, (pss_one (ps_if (pt_not (pt_val (pe_c c_is_sum hr (by first | decide | omega) (by rfl) (pa_cons (pv 0) pa_nil))))
      (pss_one (ps_raise rfl (takes_of rfl rfl rfl rfl) (pm_own x_BadSum (by rfl))))
      pss_nil)), fun Q kq => ?_⟩
    try dsimp only [cxOf, Cx.nox]
    exact d_when s0 (b := true) (et_not (a := false) (et_B (ev_is (ev_call (ea_cons (ev_var rfl) ea_nil) (show SIsSum _ _ from ⟨x, rfl, hl, rfl⟩)) (by rw [hx])))) (fun _ H1 e1 s1 => kq H1 s1.ent) (fun z => nomatch z)
def SNotU (c0 : Addr) (ds : List PyData) (c : Addr) : Prop := ∃ ps : List (Int × Int), ds = [dP ps] ∧ ps.length ≤ 50000 ∧ (∃ p ∈ ps, 1 < p.2) ∧ c = c0
theorem any_of {α : Type} {l : List α} {f : α → Bool} (h : ∃ p ∈ l, f p = true) : (l.map f).any id = true := by
  obtain ⟨p, hp, e⟩ := h
  exact List.any_eq_true.mpr ⟨f p, List.mem_map.mpr ⟨p, hp, rfl⟩, e⟩
theorem any_no {α : Type} {l : List α} {f : α → Bool} (h : ∀ p ∈ l, f p = false) : (l.map f).any id = false := by
  cases q : (l.map f).any id with
  | false => rfl
  | true =>
    obtain ⟨b, hb, e⟩ := List.any_eq_true.mp q
    obtain ⟨p, hp, rfl⟩ := List.mem_map.mp hb
    rw [h p hp] at e
    cases e
theorem ev_any (ρ : List Sl) (O : List (Addr × Ow)) {α : Type} {l : List α} {f : α → Bool} {te : TE} (h : EvL K ρ O te (l.map fun a => .bool (f a))) : Ev K ρ O (tCB (rAny K) (tCons te tNil)) (.bool ((l.map f).any id)) :=
  ev_cb (ea_cons (ev_is h.ev (by rw [List.map_map]; rfl)) ea_nil) cb_any
theorem xk_check_unlike (D : Df K mg "check_unlike" s_check_unlike) (T : Bn mg) (x_NotSuch : XC K mg "NotSuch" C_NotSuch) : CalX P w K mg base 1 "check_unlike" (SpE K (SNotU C_NotSuch)) := by
  refine calE D sc_check_unlike (fun _ _ _ _ _ _ us hl => match us, hl with | [_], _ => rfl) (by decide) (fun ds y ⟨_, h, _⟩ => by rw [h]; rfl) (fun f cdv A outer s H σ E ds c X hr h s0 => ?_)
  obtain ⟨ps, rfl, hl, hs, rfl⟩ := h
  replace s0 : Sg K E σ H [.d (dP ps), .no, .no] [] := s0
  refine ⟨_, (pss_one (ps_if (pt_val (pe_callB (r := rAny K) (cr_any rfl) (by rfl) T.any_ (by decide +kernel) (pa_cons (pe_lc (own := [("part", 1), ("times", 2)]) (g := (gTup K 2 (gCons (gName 1) (gCons (gName 2) gNil)))) (tt := tYes) rfl sc_check_unlike.nd (pi_listK (K := K) rfl (pv 0)) (blkOk_by (own := [("part", 1), ("times", 2)]) (N := ["parts", "part", "times"]) (sc := defScope s_check_unlike) (by decide +kernel)) (fun _ _ _ _ _ => (pg_tup (n := 2) rfl (pgs_cons (pg_name (i := 1) sc_check_unlike.nd rfl (by first | exact Or.inl rfl | exact Or.inr rfl)) (pgs_cons (pg_name (i := 2) sc_check_unlike.nd rfl (by first | exact Or.inl rfl | exact Or.inr rfl)) pgs_nil)))) (fun _ _ _ _ _ => pts_nil) (fun _ _ _ _ _ => (pe_cmpR op_gt (pv 2) pe_int (nomark _)))) pa_nil)))
      (pss_one (ps_raise rfl (takes_of rfl rfl rfl rfl) (pm_own x_NotSuch (by rfl))))
      pss_nil)), fun Q kq => ?_⟩
  try dsimp only [cxOf, Cx.nox]
  refine d_when s0 (b := true) (et_B (ev_is (ev_any _ _ (l := ps) (f := fun p => decide (p.2 > 1)) (el_lc0 ps pr (fun p => .bool (decide (p.2 > 1))) (fun p => [.d (dP ps), .d (.int p.1), .d (.int p.2)]) (src_list (ev_var rfl)) (by omega) ?_ ?_)) ?_)) (fun _ H1 e1 s1 => kq H1 s1.ent) (fun z => nomatch z)
  · intro a ha; first | exact ⟨_, tg_tup2 (tg_name (Nat.le_of_ble_eq_true rfl)) (tg_name (Nat.le_of_ble_eq_true rfl)), by decide⟩
  · intro p hp; exact ev_op (ev_var rfl) ev_int op2_B0
  · rw [any_of]
    obtain ⟨p, hp, h⟩ := hs
    exact ⟨p, hp, decide_eq_true h⟩
/-- what is no number from 2 on -/
def BadN (y : PyData) : Prop := isWholeD y = false ∨ ∃ b : Int, y = .int b ∧ b < 2
def SBadN (c0 : Addr) (ds : List PyData) (c : Addr) : Prop := ∃ y, ds = [y] ∧ BadN y ∧ c = c0
theorem xk_check_by (D : Df K mg "check_by" s_check_by) (T : Bn mg) (x_BadNumber : XC K mg "BadNumber" C_BadNumber) (c_is_whole : Cal P w K mg base 1 "is_whole" (SpR K SWhole)) : CalX P w K mg base 2 "check_by" (SpO (SpR K SBy) (SpE K (SBadN C_BadNumber))) := by
  obtain ⟨f, fd, F, hm⟩ := D.ex
  refine ⟨f, fd, ["by"], fn_or (okRX F sc_check_by (by decide) (fun ds y ⟨_, h, _⟩ => by rw [h]; rfl) (fun cdv A outer s H σ E ds y X hr h s0 => ?_)) (okE F sc_check_by (by decide) (fun ds y ⟨_, h, _⟩ => by rw [h]; rfl) (fun cdv A outer s H σ E ds c X hr h s0 => ?_)), hm, F.kp, F.binds (fun _ _ _ _ _ _ us hl => match us, hl with | [_], _ => rfl)⟩
  · obtain ⟨b, rfl, hb, rfl⟩ := h
    replace s0 : Sg K E σ H [.d (.int b)] [] := s0
    refine ⟨_, (pss_one (ps_if (pw_or (pt_not (pt_val (pe_c c_is_whole hr (by first | decide | omega) (by rfl) (pa_cons (pv 0) pa_nil)))) (pw_or1 (pt_cmpR op_lt (pv 0) pe_int (nomark _)))).pt
      (pss_one (ps_raise rfl (takes_of rfl rfl rfl rfl) (pm_own x_BadNumber (by rfl))))
      pss_nil)), fun Q kq => ?_⟩
    try dsimp only [cxOf, Cx.nox]
    exact d_when s0 (b := false) (et_or (a := false) (et_not (a := true) (et_B (ev_call (ea_cons (ev_var rfl) ea_nil) (show SWhole _ _ from ⟨.int b, rfl, rfl⟩)))) (fun _ => et_test (ev_is (ev_op (ev_var rfl) ev_int op2_B0) (by rw [decide_eq_false (by omega)])))) (fun z => nomatch z) (fun _ H1 e1 s1 => kq .non H1 s1.ent .non)
  · obtain ⟨y, rfl, hy, rfl⟩ := h
    replace s0 : Sg K E σ H [.d y] [] := s0
    refine ⟨_, (pss_one (ps_if (pw_or (pt_not (pt_val (pe_c c_is_whole hr (by first | decide | omega) (by rfl) (pa_cons (pv 0) pa_nil)))) (pw_or1 (pt_cmpR op_lt (pv 0) pe_int (nomark _)))).pt
      (pss_one (ps_raise rfl (takes_of rfl rfl rfl rfl) (pm_own x_BadNumber (by rfl))))
      pss_nil)), fun Q kq => ?_⟩
    try dsimp only [cxOf, Cx.nox]
    refine d_when s0 (b := true) (et_is (a := !isWholeD y || true) (et_or (et_not (et_B (ev_call (ea_cons (ev_var rfl) ea_nil) (show SWhole _ _ from ⟨y, rfl, rfl⟩)))) (fun hw => ?_)) (by rw [Bool.or_true])) (fun _ H1 e1 s1 => kq H1 s1.ent) (fun z => nomatch z)
    rcases hy with hy | ⟨b, rfl, hb⟩
    · rw [hy] at hw; cases hw
    · exact et_test (ev_is (ev_op (ev_var rfl) ev_int op2_B0) (by rw [decide_eq_true hb]))
theorem xk_whole (D : Df K mg "whole" s_whole) (T : Bn mg) (cx_check_sum : CalX P w K mg base 4 "check_sum" (SpO (SpR K SCheck) (SpE K (SBadS C_BadSum)))) : CalX P w K mg base 5 "whole" (SpE K (SBadS C_BadSum)) := by
  refine calE D sc_whole (fun _ _ _ _ _ _ us hl => match us, hl with | [_], _ => rfl) (by decide) (fun ds y ⟨_, h, _⟩ => by rw [h]; rfl) (fun f cdv A outer s H σ E ds c X hr h s0 => ?_)
  obtain ⟨x, rfl, hx, rfl⟩ := h
  replace s0 : Sg K E σ H [.d x] [] := s0
  refine ⟨_, (pss_cons (ps_expr (pe_cx cx_check_sum hr (by first | decide | omega) (by rfl) (passes_call (takes_of rfl rfl rfl rfl) fun _ _ _ _ h => h) (pa_cons (pv 0) pa_nil)))
    pss_never), fun Q kq => ?_⟩
  try dsimp only [cxOf, Cx.nox]
  exact q_dropE s0 (ee_callO (ea_cons (ev_var rfl) ea_nil) (show SBadS _ _ _ from ⟨x, rfl, hx, rfl⟩)) kq
theorem xk_often (D : Df K mg "often" s_often) (T : Bn mg) (cx_check_sum : CalX P w K mg base 4 "check_sum" (SpO (SpR K SCheck) (SpE K (SBadS C_BadSum)))) : CalX P w K mg base 5 "often" (SpE K (SBadS C_BadSum)) := by
  refine calE D sc_often (fun _ _ _ _ _ _ us hl => match us, hl with | [_], _ => rfl) (by decide) (fun ds y ⟨_, h, _⟩ => by rw [h]; rfl) (fun f cdv A outer s H σ E ds c X hr h s0 => ?_)
  obtain ⟨x, rfl, hx, rfl⟩ := h
  replace s0 : Sg K E σ H [.d x, .no, .no] [] := s0
  refine ⟨_, (pss_cons (ps_expr (pe_cx cx_check_sum hr (by first | decide | omega) (by rfl) (passes_call (takes_of rfl rfl rfl rfl) fun _ _ _ _ h => h) (pa_cons (pv 0) pa_nil)))
    pss_never), fun Q kq => ?_⟩
  try dsimp only [cxOf, Cx.nox]
  exact q_dropE s0 (ee_callO (ea_cons (ev_var rfl) ea_nil) (show SBadS _ _ _ from ⟨x, rfl, hx, rfl⟩)) kq
theorem xk_turned (D : Df K mg "turned" s_turned) (T : Bn mg) (cx_check_sum : CalX P w K mg base 4 "check_sum" (SpO (SpR K SCheck) (SpE K (SBadS C_BadSum)))) : CalX P w K mg base 5 "turned" (SpE K (SBadS C_BadSum)) := by
  refine calE D sc_turned (fun _ _ _ _ _ _ us hl => match us, hl with | [_], _ => rfl) (by decide) (fun ds y ⟨_, h, _⟩ => by rw [h]; rfl) (fun f cdv A outer s H σ E ds c X hr h s0 => ?_)
  obtain ⟨x, rfl, hx, rfl⟩ := h
  replace s0 : Sg K E σ H [.d x] [] := s0
  refine ⟨_, (pss_cons (ps_expr (pe_cx cx_check_sum hr (by first | decide | omega) (by rfl) (passes_call (takes_of rfl rfl rfl rfl) fun _ _ _ _ h => h) (pa_cons (pv 0) pa_nil)))
    pss_never), fun Q kq => ?_⟩
  try dsimp only [cxOf, Cx.nox]
  exact q_dropE s0 (ee_callO (ea_cons (ev_var rfl) ea_nil) (show SBadS _ _ _ from ⟨x, rfl, hx, rfl⟩)) kq
theorem xk_is_own (D : Df K mg "is_own" s_is_own) (T : Bn mg) (cx_check_sum : CalX P w K mg base 4 "check_sum" (SpO (SpR K SCheck) (SpE K (SBadS C_BadSum)))) : CalX P w K mg base 5 "is_own" (SpE K (SBadS C_BadSum)) := by
  refine calE D sc_is_own (fun _ _ _ _ _ _ us hl => match us, hl with | [_], _ => rfl) (by decide) (fun ds y ⟨_, h, _⟩ => by rw [h]; rfl) (fun f cdv A outer s H σ E ds c X hr h s0 => ?_)
  obtain ⟨x, rfl, hx, rfl⟩ := h
  replace s0 : Sg K E σ H [.d x] [] := s0
  refine ⟨_, (pss_cons (ps_expr (pe_cx cx_check_sum hr (by first | decide | omega) (by rfl) (passes_call (takes_of rfl rfl rfl rfl) fun _ _ _ _ h => h) (pa_cons (pv 0) pa_nil)))
    pss_never), fun Q kq => ?_⟩
  try dsimp only [cxOf, Cx.nox]
  exact q_dropE s0 (ee_callO (ea_cons (ev_var rfl) ea_nil) (show SBadS _ _ _ from ⟨x, rfl, hx, rfl⟩)) kq
end
end Pw

set_option Elab.async false
set_option linter.all false
set_option maxRecDepth 100000
set_option maxHeartbeats 2000000
set_option autoImplicit false
namespace Pw
open PySem PySem.Spec PyProof.Rows L2
open Evl (Ex)
open Pw in
local macro_rules | `(tactic| walk_at "ev") => `(tactic| first
  | with_reducible exact ev_int
  | with_reducible exact ev_bl
  | with_reducible exact ev_non
  | exact ev_var rfl
  | exact ea_nil
  | with_reducible exact eo_none
  | with_reducible exact et_yes
  | ((refine' ea_cons ?_ ?_) <;> walk_at "ev")
  | ((with_reducible refine' et_test ?_) <;> walk_at "ev")
  | ((with_reducible refine' et_B ?_) <;> walk_at "ev")
  | ((with_reducible refine' et_not ?_) <;> walk_at "ev")
  | ((with_reducible refine' et_and ?_ (fun h_and => ?_)) <;> walk_at "ev")
  | ((with_reducible refine' et_or ?_ (fun h_or => ?_)) <;> walk_at "ev")
  | ((with_reducible refine' ev_andV ?_ (fun h_and => ?_)) <;> walk_at "ev")
  | ((with_reducible refine' ev_orV ?_ (fun h_or => ?_)) <;> walk_at "ev")
  | ((with_reducible refine' ev_notV ?_) <;> walk_at "ev")
  | ((with_reducible refine' ev_ifI ?_ (fun h_if => ?_) (fun h_if => ?_)) <;> walk_at "ev")
  | ((with_reducible refine' ev_un ?_ op1_neg) <;> walk_at "ev")
  | ((with_reducible refine' (el_cat ?_ ?_ ?_).ev) <;> walk_at "ev")
  | ((with_reducible refine' el_cat ?_ ?_ ?_) <;> walk_at "ev")
  | ((with_reducible refine' ev_op ?_ ?_ ?_) <;> walk_at "ev")
  | ((with_reducible refine' ev_tup ?_ ?_) <;> walk_at "ev")
  | ((with_reducible refine' (el_lst ?_ ?_).ev) <;> walk_at "ev")
  | ((with_reducible refine' el_lst ?_ ?_) <;> walk_at "ev")
  | ((with_reducible refine' (el_sl ?_ ?_ ?_).ev) <;> walk_at "ev")
  | ((with_reducible refine' el_sl ?_ ?_ ?_) <;> walk_at "ev")
  | ((with_reducible refine' (el_rev ?_).ev) <;> walk_at "ev")
  | ((with_reducible refine' el_rev ?_) <;> walk_at "ev")
  | ((with_reducible refine' eo_some ?_) <;> walk_at "ev")
  | ((with_reducible refine' (el_list ?_).ev) <;> walk_at "ev")
  | ((with_reducible refine' el_list ?_) <;> walk_at "ev")
  | ((with_reducible refine' ev_call ?_ ?_) <;> walk_at "ev")
  | ((with_reducible refine' (el_call ?_ ?_).ev) <;> walk_at "ev")
  | ((with_reducible refine' el_call ?_ ?_) <;> walk_at "ev")
  | ((with_reducible refine' (el_sortedD ?_).ev) <;> walk_at "ev")
  | ((with_reducible refine' el_sortedD ?_) <;> walk_at "ev")
  | ((with_reducible refine' (el_sortedDR ?_).ev) <;> walk_at "ev")
  | ((with_reducible refine' el_sortedDR ?_) <;> walk_at "ev")
  | ((with_reducible refine' ev_dgetD ?_ ?_ ?_) <;> walk_at "ev")
  | ((with_reducible refine' ev_cb ?_ ?_) <;> walk_at "ev")
  | with_reducible exact op2_I0
  | with_reducible exact op2_B0
  | with_reducible exact op2_eqI
  | with_reducible exact op2_neI
  | with_reducible exact op2_eqB
  | with_reducible exact op2_neB
  | with_reducible exact op2_isB
  | with_reducible exact op2_isNB
  | with_reducible exact op2_inT
  | with_reducible exact op2_inL
  | (with_reducible refine' op2_eqD ?_ ?_)
  | (with_reducible refine' op2_neD ?_ ?_)
  | ((with_reducible refine' op2_I ?_) <;> walk_at "side")
  | (with_reducible refine' op2_ixL ?_)
  | (with_reducible refine' op2_ixT ?_)
  | (show List.length _ ≤ 100000; exact Nat.le_of_ble_eq_true rfl)
  | exact cb_len
  | exact cb_lenT
  | exact cb_minT
  | exact cb_abs
  | exact cb_max2
  | exact cb_min2
  | exact cb_intB
  | exact cb_sum
  | exact cb_any
  | exact cb_all
  | skip)
local macro_rules | `(tactic| walk_at "side") => `(tactic| first
  | exact Nat.le_of_ble_eq_true rfl
  | (with_reducible exact mulok_l (by decide))
  | (with_reducible exact mulok_r (by decide))
  | (show (0 : Int) < _; decide)
  | (show (0 : Int) < _; omega)
  | (show (0 : Int) ≤ _ ∧ _ ∧ _; decide)
  | skip)

section
variable {P : Program} {w : World} {K : PySem.W.Frag} {mg : Str → Option Value} {base : Heap} {C_BadSum C_BadNumber C_NotSuch C_TooMany : Addr}
/-! ### doors that refuse: no such sum, no number -/
def SBad2 (c0 : Addr) (ds : List PyData) (c : Addr) : Prop := ∃ x y, ds = [x, y] ∧ BadD x ∧ c = c0
def SBadBy (c0 : Addr) (ds : List PyData) (c : Addr) : Prop := ∃ (ps : List (Int × Int)) (y : PyData), ds = [dP ps, y] ∧ ps.length ≤ 50000 ∧ sumB ps = true ∧ BadN y ∧ c = c0
def SSprU (c0 : Addr) (ds : List PyData) (c : Addr) : Prop := ∃ (ps : List (Int × Int)) (b : Int), ds = [dP ps, .int b] ∧ ps.length ≤ 50000 ∧ sumB ps = true ∧ 2 ≤ b ∧ (∃ p ∈ ps, p.1 % b = 0) ∧ c = c0
def SGatU (c0 : Addr) (ds : List PyData) (c : Addr) : Prop := ∃ (ps : List (Int × Int)) (b : Int), ds = [dP ps, .int b] ∧ ps.length ≤ 50000 ∧ sumB ps = true ∧ 2 ≤ b ∧ (∃ p ∈ ps, b ≤ p.2) ∧ c = c0
def SSprE (c1 c2 c3 : Addr) (ds : List PyData) (c : Addr) : Prop := SBad2 c1 ds c ∨ (SBadBy c2 ds c ∨ SSprU c3 ds c)
def SGatE (c1 c2 c3 : Addr) (ds : List PyData) (c : Addr) : Prop := SBad2 c1 ds c ∨ (SBadBy c2 ds c ∨ SGatU c3 ds c)
def SFolU (c0 : Addr) (ds : List PyData) (c : Addr) : Prop := ∃ ps : List (Int × Int), ds = [dP ps] ∧ ps.length ≤ 50000 ∧ sumB ps = true ∧ (∃ p ∈ ps, p.1 % 2 = 0) ∧ c = c0
def SFolN (c0 : Addr) (ds : List PyData) (c : Addr) : Prop := ∃ ps : List (Int × Int), ds = [dP ps] ∧ ps.length ≤ 50000 ∧ sumB ps = true ∧ (∀ p ∈ ps, p.1 % 2 ≠ 0) ∧ (∃ p ∈ ps, 1 < p.2) ∧ c = c0
def SParU (c0 : Addr) (ds : List PyData) (c : Addr) : Prop := ∃ ps : List (Int × Int), ds = [dP ps] ∧ ps.length ≤ 50000 ∧ sumB ps = true ∧ (∃ p ∈ ps, 1 < p.2) ∧ c = c0
def SHokU (c0 : Addr) (ds : List PyData) (c : Addr) : Prop := ∃ ps : List (Int × Int), ds = [dP ps] ∧ ps.length ≤ 50000 ∧ sumB ps = true ∧ turnM ps ≠ ps ∧ c = c0
def SHokM (c0 : Addr) (ds : List PyData) (c : Addr) : Prop := ∃ ps : List (Int × Int), ds = [dP ps] ∧ ps.length ≤ 50000 ∧ sumB ps = true ∧ turnM ps = ps ∧ 1000 < (hkA 0 ps).length ∧ c = c0
def SParE (c1 c2 : Addr) (ds : List PyData) (c : Addr) : Prop := SBadS c1 ds c ∨ SParU c2 ds c
def SFolE (c1 c2 : Addr) (ds : List PyData) (c : Addr) : Prop := SBadS c1 ds c ∨ (SFolU c2 ds c ∨ SFolN c2 ds c)
def SHokE (c1 c2 c3 : Addr) (ds : List PyData) (c : Addr) : Prop := SBadS c1 ds c ∨ (SHokU c2 ds c ∨ SHokM c3 ds c)
theorem xk_spread (D : Df K mg "spread" s_spread) (T : Bn mg) (x_NotSuch : XC K mg "NotSuch" C_NotSuch) (cx_check_sum : CalX P w K mg base 4 "check_sum" (SpO (SpR K SCheck) (SpE K (SBadS C_BadSum)))) (cx_check_by : CalX P w K mg base 2 "check_by" (SpO (SpR K SBy) (SpE K (SBadN C_BadNumber)))) : CalX P w K mg base 5 "spread" (SpE K (SSprE C_BadSum C_BadNumber C_NotSuch)) := by
  obtain ⟨f, fd, F, hm⟩ := D.ex
  refine ⟨f, fd, ["parts", "by"], fn_orE (okE F sc_spread (by decide) (fun ds y ⟨_, _, h, _⟩ => by rw [h]; rfl) (fun cdv A outer s H σ E ds c X hr h s0 => ?_)) (fn_orE (okE F sc_spread (by decide) (fun ds y ⟨_, _, h, _⟩ => by rw [h]; rfl) (fun cdv A outer s H σ E ds c X hr h s0 => ?_)) (okE F sc_spread (by decide) (fun ds y ⟨_, _, h, _⟩ => by rw [h]; rfl) (fun cdv A outer s H σ E ds c X hr h s0 => ?_))), hm, F.kp, F.binds (fun _ _ _ _ _ _ us hl => match us, hl with | [_, _], _ => rfl)⟩
  · obtain ⟨x, y, rfl, hx, rfl⟩ := h
    replace s0 : Sg K E σ H [.d x, .d y, .no, .no, .no] [] := s0
    refine ⟨_, (pss_cons (ps_expr (pe_cx cx_check_sum hr (by first | decide | omega) (by rfl) (passes_call (takes_of rfl rfl rfl rfl) fun _ _ _ _ h => h) (pa_cons (pv 0) pa_nil)))
    pss_never), fun Q kq => ?_⟩
    try dsimp only [cxOf, Cx.nox]
    exact q_dropE s0 (ee_callO (ea_cons (ev_var rfl) ea_nil) (show SBadS _ _ _ from ⟨x, rfl, hx, rfl⟩)) kq
  · obtain ⟨ps, y, rfl, hl, hs, hy, rfl⟩ := h
    replace s0 : Sg K E σ H [.d (dP ps), .d y, .no, .no, .no] [] := s0
    refine ⟨_, (pss_cons (ps_expr (pe_cx cx_check_sum hr (by first | decide | omega) (by rfl) (passes_call (takes_of rfl rfl rfl rfl) fun _ _ _ _ h => h) (pa_cons (pv 0) pa_nil)))
    (pss_cons (ps_expr (pe_cx cx_check_by hr (by first | decide | omega) (by rfl) (passes_call (takes_of rfl rfl rfl rfl) fun _ _ _ _ h => h) (pa_cons (pv 1) pa_nil)))
    pss_never)), fun Q kq => ?_⟩
    try dsimp only [cxOf, Cx.nox]
    refine q_drop s0 (ev_callO (ea_cons (ev_var rfl) ea_nil) (show SCheck _ _ from ⟨ps, rfl, by omega, hs, rfl⟩)) (fun H1 e1 s1 => ?_)
    exact q_dropE s1 (ee_callO (ea_cons (ev_var rfl) ea_nil) (show SBadN _ _ _ from ⟨y, rfl, hy, rfl⟩)) kq
  · obtain ⟨ps, b, rfl, hl, hs, hb, he, rfl⟩ := h
    replace s0 : Sg K E σ H [.d (dP ps), .d (.int b), .no, .no, .no] [] := s0
    refine ⟨_, (pss_cons (ps_expr (pe_cx cx_check_sum hr (by first | decide | omega) (by rfl) (passes_call (takes_of rfl rfl rfl rfl) fun _ _ _ _ h => h) (pa_cons (pv 0) pa_nil)))
    (pss_cons (ps_expr (pe_cx cx_check_by hr (by first | decide | omega) (by rfl) (passes_call (takes_of rfl rfl rfl rfl) fun _ _ _ _ h => h) (pa_cons (pv 1) pa_nil)))
    (pss_cons (ps_if (pt_val (pe_callB (r := rAny K) (cr_any rfl) (by rfl) T.any_ (by decide +kernel) (pa_cons (pe_lc (own := [("part", 3), ("times", 4)]) (g := (gTup K 2 (gCons (gName 3) (gCons (gName 4) gNil)))) (tt := tYes) rfl sc_spread.nd (pi_listK (K := K) rfl (pv 0)) (blkOk_by (own := [("part", 3), ("times", 4)]) (N := ["parts", "by", "counts", "part", "times"]) (sc := defScope s_spread) (by decide +kernel)) (fun _ _ _ _ _ => (pg_tup (n := 2) rfl (pgs_cons (pg_name (i := 3) sc_spread.nd rfl (by first | exact Or.inl rfl | exact Or.inr rfl)) (pgs_cons (pg_name (i := 4) sc_spread.nd rfl (by first | exact Or.inl rfl | exact Or.inr rfl)) pgs_nil)))) (fun _ _ _ _ _ => pts_nil) (fun _ _ _ _ _ => (pe_cmpR op_eq (pe_op op_mod (pv 3) (pv 1)) pe_int (nomark _)))) pa_nil)))
      (pss_one (ps_raise rfl (takes_of rfl rfl rfl rfl) (pm_own x_NotSuch (by rfl))))
      pss_nil)
    pss_never))), fun Q kq => ?_⟩
    try dsimp only [cxOf, Cx.nox]
    refine q_drop s0 (ev_callO (ea_cons (ev_var rfl) ea_nil) (show SCheck _ _ from ⟨ps, rfl, by omega, hs, rfl⟩)) (fun H1 e1 s1 => ?_)
    refine q_drop s1 (ev_callO (ea_cons (ev_var rfl) ea_nil) (show SBy _ _ from ⟨b, rfl, hb, rfl⟩)) (fun H2 e2 s2 => ?_)
    refine q_when s2 (b := true) (et_B (ev_is (ev_any _ _ (l := ps) (f := fun p => decide (p.1 % b = 0)) (el_lc0 ps pr (fun p => .bool (decide (p.1 % b = 0))) (fun p => [.d (dP ps), .d (.int b), .no, .d (.int p.1), .d (.int p.2)]) (src_list (ev_var rfl)) (by omega) ?_ ?_)) ?_)) (fun _ H3 e3 s3 => kq H3 s3.ent) (fun z => nomatch z)
    · intro a ha; exact ⟨_, tg_tup2 (tg_name (Nat.le_of_ble_eq_true rfl)) (tg_name (Nat.le_of_ble_eq_true rfl)), by decide⟩
    · intro p hp; exact ev_op (ev_op (ev_var rfl) (ev_var rfl) (op2_I (show (0 : Int) < b by omega))) ev_int op2_eqI
    · rw [any_of]
      obtain ⟨p, hp, h⟩ := he
      exact ⟨p, hp, decide_eq_true h⟩
theorem xk_gathered (D : Df K mg "gathered" s_gathered) (T : Bn mg) (x_NotSuch : XC K mg "NotSuch" C_NotSuch) (cx_check_sum : CalX P w K mg base 4 "check_sum" (SpO (SpR K SCheck) (SpE K (SBadS C_BadSum)))) (cx_check_by : CalX P w K mg base 2 "check_by" (SpO (SpR K SBy) (SpE K (SBadN C_BadNumber)))) : CalX P w K mg base 5 "gathered" (SpE K (SGatE C_BadSum C_BadNumber C_NotSuch)) := by
  obtain ⟨f, fd, F, hm⟩ := D.ex
  refine ⟨f, fd, ["parts", "by"], fn_orE (okE F sc_gathered (by decide) (fun ds y ⟨_, _, h, _⟩ => by rw [h]; rfl) (fun cdv A outer s H σ E ds c X hr h s0 => ?_)) (fn_orE (okE F sc_gathered (by decide) (fun ds y ⟨_, _, h, _⟩ => by rw [h]; rfl) (fun cdv A outer s H σ E ds c X hr h s0 => ?_)) (okE F sc_gathered (by decide) (fun ds y ⟨_, _, h, _⟩ => by rw [h]; rfl) (fun cdv A outer s H σ E ds c X hr h s0 => ?_))), hm, F.kp, F.binds (fun _ _ _ _ _ _ us hl => match us, hl with | [_, _], _ => rfl)⟩
  · obtain ⟨x, y, rfl, hx, rfl⟩ := h
    replace s0 : Sg K E σ H [.d x, .d y, .no, .no, .no] [] := s0
    refine ⟨_, (pss_cons (ps_expr (pe_cx cx_check_sum hr (by first | decide | omega) (by rfl) (passes_call (takes_of rfl rfl rfl rfl) fun _ _ _ _ h => h) (pa_cons (pv 0) pa_nil)))
    pss_never), fun Q kq => ?_⟩
    try dsimp only [cxOf, Cx.nox]
    exact q_dropE s0 (ee_callO (ea_cons (ev_var rfl) ea_nil) (show SBadS _ _ _ from ⟨x, rfl, hx, rfl⟩)) kq
  · obtain ⟨ps, y, rfl, hl, hs, hy, rfl⟩ := h
    replace s0 : Sg K E σ H [.d (dP ps), .d y, .no, .no, .no] [] := s0
    refine ⟨_, (pss_cons (ps_expr (pe_cx cx_check_sum hr (by first | decide | omega) (by rfl) (passes_call (takes_of rfl rfl rfl rfl) fun _ _ _ _ h => h) (pa_cons (pv 0) pa_nil)))
    (pss_cons (ps_expr (pe_cx cx_check_by hr (by first | decide | omega) (by rfl) (passes_call (takes_of rfl rfl rfl rfl) fun _ _ _ _ h => h) (pa_cons (pv 1) pa_nil)))
    pss_never)), fun Q kq => ?_⟩
    try dsimp only [cxOf, Cx.nox]
    refine q_drop s0 (ev_callO (ea_cons (ev_var rfl) ea_nil) (show SCheck _ _ from ⟨ps, rfl, by omega, hs, rfl⟩)) (fun H1 e1 s1 => ?_)
    exact q_dropE s1 (ee_callO (ea_cons (ev_var rfl) ea_nil) (show SBadN _ _ _ from ⟨y, rfl, hy, rfl⟩)) kq
  · obtain ⟨ps, b, rfl, hl, hs, hb, he, rfl⟩ := h
    replace s0 : Sg K E σ H [.d (dP ps), .d (.int b), .no, .no, .no] [] := s0
    refine ⟨_, (pss_cons (ps_expr (pe_cx cx_check_sum hr (by first | decide | omega) (by rfl) (passes_call (takes_of rfl rfl rfl rfl) fun _ _ _ _ h => h) (pa_cons (pv 0) pa_nil)))
    (pss_cons (ps_expr (pe_cx cx_check_by hr (by first | decide | omega) (by rfl) (passes_call (takes_of rfl rfl rfl rfl) fun _ _ _ _ h => h) (pa_cons (pv 1) pa_nil)))
    (pss_cons (ps_if (pt_val (pe_callB (r := rAny K) (cr_any rfl) (by rfl) T.any_ (by decide +kernel) (pa_cons (pe_lc (own := [("part", 3), ("times", 4)]) (g := (gTup K 2 (gCons (gName 3) (gCons (gName 4) gNil)))) (tt := tYes) rfl sc_gathered.nd (pi_listK (K := K) rfl (pv 0)) (blkOk_by (own := [("part", 3), ("times", 4)]) (N := ["parts", "by", "counts", "part", "times"]) (sc := defScope s_gathered) (by decide +kernel)) (fun _ _ _ _ _ => (pg_tup (n := 2) rfl (pgs_cons (pg_name (i := 3) sc_gathered.nd rfl (by first | exact Or.inl rfl | exact Or.inr rfl)) (pgs_cons (pg_name (i := 4) sc_gathered.nd rfl (by first | exact Or.inl rfl | exact Or.inr rfl)) pgs_nil)))) (fun _ _ _ _ _ => pts_nil) (fun _ _ _ _ _ => (pe_cmpR op_ge (pv 4) (pv 1) (nomark _)))) pa_nil)))
      (pss_one (ps_raise rfl (takes_of rfl rfl rfl rfl) (pm_own x_NotSuch (by rfl))))
      pss_nil)
    pss_never))), fun Q kq => ?_⟩
    try dsimp only [cxOf, Cx.nox]
    refine q_drop s0 (ev_callO (ea_cons (ev_var rfl) ea_nil) (show SCheck _ _ from ⟨ps, rfl, by omega, hs, rfl⟩)) (fun H1 e1 s1 => ?_)
    refine q_drop s1 (ev_callO (ea_cons (ev_var rfl) ea_nil) (show SBy _ _ from ⟨b, rfl, hb, rfl⟩)) (fun H2 e2 s2 => ?_)
    refine q_when s2 (b := true) (et_B (ev_is (ev_any _ _ (l := ps) (f := fun p => decide (p.2 ≥ b)) (el_lc0 ps pr (fun p => .bool (decide (p.2 ≥ b))) (fun p => [.d (dP ps), .d (.int b), .no, .d (.int p.1), .d (.int p.2)]) (src_list (ev_var rfl)) (by omega) ?_ ?_)) ?_)) (fun _ H3 e3 s3 => kq H3 s3.ent) (fun z => nomatch z)
    · intro a ha; exact ⟨_, tg_tup2 (tg_name (Nat.le_of_ble_eq_true rfl)) (tg_name (Nat.le_of_ble_eq_true rfl)), by decide⟩
    · intro p hp; exact ev_op (ev_var rfl) (ev_var rfl) op2_B0
    · rw [any_of]
      obtain ⟨p, hp, h⟩ := he
      exact ⟨p, hp, decide_eq_true h⟩
theorem sc_partner : FnScope ["parts", "row", "part", "times"] ["parts"] (defScope s_partner) := ⟨rfl, rfl, rfl, by decide +kernel, rfl, by decide +kernel, by decide +kernel⟩
theorem xk_partner (D : Df K mg "partner" s_partner) (T : Bn mg) (cx_check_sum : CalX P w K mg base 4 "check_sum" (SpO (SpR K SCheck) (SpE K (SBadS C_BadSum)))) (cx_check_unlike : CalX P w K mg base 1 "check_unlike" (SpE K (SNotU C_NotSuch))) : CalX P w K mg base 5 "partner" (SpE K (SParE C_BadSum C_NotSuch)) := by
  obtain ⟨f, fd, F, hm⟩ := D.ex
  refine ⟨f, fd, ["parts"], fn_orE (okE F sc_partner (by decide) (fun ds y ⟨_, h, _⟩ => by rw [h]; rfl) (fun cdv A outer s H σ E ds c X hr h s0 => ?_)) (okE F sc_partner (by decide) (fun ds y ⟨_, h, _⟩ => by rw [h]; rfl) (fun cdv A outer s H σ E ds c X hr h s0 => ?_)), hm, F.kp, F.binds (fun _ _ _ _ _ _ us hl => match us, hl with | [_], _ => rfl)⟩
  · obtain ⟨x, rfl, hx, rfl⟩ := h
    replace s0 : Sg K E σ H [.d x, .no, .no, .no] [] := s0
    refine ⟨_, (pss_cons (ps_expr (pe_cx cx_check_sum hr (by first | decide | omega) (by rfl) (passes_call (takes_of rfl rfl rfl rfl) fun _ _ _ _ h => h) (pa_cons (pv 0) pa_nil)))
    pss_never), fun Q kq => ?_⟩
    try dsimp only [cxOf, Cx.nox]
    exact q_dropE s0 (ee_callO (ea_cons (ev_var rfl) ea_nil) (show SBadS _ _ _ from ⟨x, rfl, hx, rfl⟩)) kq
  · obtain ⟨ps, rfl, hl, hs, hu, rfl⟩ := h
    replace s0 : Sg K E σ H [.d (dP ps), .no, .no, .no] [] := s0
    refine ⟨_, (pss_cons (ps_expr (pe_cx cx_check_sum hr (by first | decide | omega) (by rfl) (passes_call (takes_of rfl rfl rfl rfl) fun _ _ _ _ h => h) (pa_cons (pv 0) pa_nil)))
    (pss_cons (ps_expr (pe_cx cx_check_unlike hr (by first | decide | omega) (by rfl) (passes_call (takes_of rfl rfl rfl rfl) fun _ _ _ _ h => h) (pa_cons (pv 0) pa_nil)))
    pss_never)), fun Q kq => ?_⟩
    try dsimp only [cxOf, Cx.nox]
    refine q_drop s0 (ev_callO (ea_cons (ev_var rfl) ea_nil) (show SCheck _ _ from ⟨ps, rfl, by omega, hs, rfl⟩)) (fun H1 e1 s1 => ?_)
    exact q_dropE s1 (ee_call (ea_cons (ev_var rfl) ea_nil) (show SNotU _ _ _ from ⟨ps, rfl, hl, hu, rfl⟩)) kq
theorem xk_folded (D : Df K mg "folded" s_folded) (T : Bn mg) (x_NotSuch : XC K mg "NotSuch" C_NotSuch) (cx_check_sum : CalX P w K mg base 4 "check_sum" (SpO (SpR K SCheck) (SpE K (SBadS C_BadSum)))) (cx_check_unlike : CalX P w K mg base 1 "check_unlike" (SpE K (SNotU C_NotSuch))) : CalX P w K mg base 5 "folded" (SpE K (SFolE C_BadSum C_NotSuch)) := by
  obtain ⟨f, fd, F, hm⟩ := D.ex
  refine ⟨f, fd, ["parts"], fn_orE (okE F sc_folded (by decide) (fun ds y ⟨_, h, _⟩ => by rw [h]; rfl) (fun cdv A outer s H σ E ds c X hr h s0 => ?_)) (fn_orE (okE F sc_folded (by decide) (fun ds y ⟨_, h, _⟩ => by rw [h]; rfl) (fun cdv A outer s H σ E ds c X hr h s0 => ?_)) (okE F sc_folded (by decide) (fun ds y ⟨_, h, _⟩ => by rw [h]; rfl) (fun cdv A outer s H σ E ds c X hr h s0 => ?_))), hm, F.kp, F.binds (fun _ _ _ _ _ _ us hl => match us, hl with | [_], _ => rfl)⟩
  · obtain ⟨x, rfl, hx, rfl⟩ := h
    replace s0 : Sg K E σ H [.d x, .no, .no, .no, .no, .no, .no, .no] [] := s0
    refine ⟨_, (pss_cons (ps_expr (pe_cx cx_check_sum hr (by first | decide | omega) (by rfl) (passes_call (takes_of rfl rfl rfl rfl) fun _ _ _ _ h => h) (pa_cons (pv 0) pa_nil)))
    pss_never), fun Q kq => ?_⟩
    try dsimp only [cxOf, Cx.nox]
    exact q_dropE s0 (ee_callO (ea_cons (ev_var rfl) ea_nil) (show SBadS _ _ _ from ⟨x, rfl, hx, rfl⟩)) kq
  · obtain ⟨ps, rfl, hl, hs, he, rfl⟩ := h
    replace s0 : Sg K E σ H [.d (dP ps), .no, .no, .no, .no, .no, .no, .no] [] := s0
    refine ⟨_, (pss_cons (ps_expr (pe_cx cx_check_sum hr (by first | decide | omega) (by rfl) (passes_call (takes_of rfl rfl rfl rfl) fun _ _ _ _ h => h) (pa_cons (pv 0) pa_nil)))
    (pss_cons (ps_if (pt_val (pe_callB (r := rAny K) (cr_any rfl) (by rfl) T.any_ (by decide +kernel) (pa_cons (pe_lc (own := [("part", 6), ("times", 7)]) (g := (gTup K 2 (gCons (gName 6) (gCons (gName 7) gNil)))) (tt := tYes) rfl sc_folded.nd (pi_listK (K := K) rfl (pv 0)) (blkOk_by (own := [("part", 6), ("times", 7)]) (N := ["parts", "rows", "counts", "row", "at", "beneath", "part", "times"]) (sc := defScope s_folded) (by decide +kernel)) (fun _ _ _ _ _ => (pg_tup (n := 2) rfl (pgs_cons (pg_name (i := 6) sc_folded.nd rfl (by first | exact Or.inl rfl | exact Or.inr rfl)) (pgs_cons (pg_name (i := 7) sc_folded.nd rfl (by first | exact Or.inl rfl | exact Or.inr rfl)) pgs_nil)))) (fun _ _ _ _ _ => pts_nil) (fun _ _ _ _ _ => (pe_cmpR op_eq (pe_op op_mod (pv 6) pe_int) pe_int (nomark _)))) pa_nil)))
      (pss_one (ps_raise rfl (takes_of rfl rfl rfl rfl) (pm_own x_NotSuch (by rfl))))
      pss_nil)
    pss_never)), fun Q kq => ?_⟩
    try dsimp only [cxOf, Cx.nox]
    refine q_drop s0 (ev_callO (ea_cons (ev_var rfl) ea_nil) (show SCheck _ _ from ⟨ps, rfl, by omega, hs, rfl⟩)) (fun H1 e1 s1 => ?_)
    refine q_when s1 (b := true) (et_B (ev_is (ev_any _ _ (l := ps) (f := fun p => decide (p.1 % 2 = 0)) (el_lc0 ps pr (fun p => .bool (decide (p.1 % 2 = 0))) (fun p => [.d (dP ps), .no, .no, .no, .no, .no, .d (.int p.1), .d (.int p.2)]) (src_list (ev_var rfl)) (by omega) ?_ ?_)) ?_)) (fun _ H3 e3 s3 => kq H3 s3.ent) (fun z => nomatch z)
    · intro a ha; exact ⟨_, tg_tup2 (tg_name (Nat.le_of_ble_eq_true rfl)) (tg_name (Nat.le_of_ble_eq_true rfl)), by decide⟩
    · intro p hp; exact ev_op (ev_op (ev_var rfl) ev_int (op2_I (show (0 : Int) < 2 by decide))) ev_int op2_eqI
    · rw [any_of]
      obtain ⟨p, hp, h⟩ := he
      exact ⟨p, hp, decide_eq_true h⟩
  · obtain ⟨ps, rfl, hl, hs, he, hu, rfl⟩ := h
    replace s0 : Sg K E σ H [.d (dP ps), .no, .no, .no, .no, .no, .no, .no] [] := s0
    refine ⟨_, (pss_cons (ps_expr (pe_cx cx_check_sum hr (by first | decide | omega) (by rfl) (passes_call (takes_of rfl rfl rfl rfl) fun _ _ _ _ h => h) (pa_cons (pv 0) pa_nil)))
    (pss_cons (ps_if (pt_val (pe_callB (r := rAny K) (cr_any rfl) (by rfl) T.any_ (by decide +kernel) (pa_cons (pe_lc (own := [("part", 6), ("times", 7)]) (g := (gTup K 2 (gCons (gName 6) (gCons (gName 7) gNil)))) (tt := tYes) rfl sc_folded.nd (pi_listK (K := K) rfl (pv 0)) (blkOk_by (own := [("part", 6), ("times", 7)]) (N := ["parts", "rows", "counts", "row", "at", "beneath", "part", "times"]) (sc := defScope s_folded) (by decide +kernel)) (fun _ _ _ _ _ => (pg_tup (n := 2) rfl (pgs_cons (pg_name (i := 6) sc_folded.nd rfl (by first | exact Or.inl rfl | exact Or.inr rfl)) (pgs_cons (pg_name (i := 7) sc_folded.nd rfl (by first | exact Or.inl rfl | exact Or.inr rfl)) pgs_nil)))) (fun _ _ _ _ _ => pts_nil) (fun _ _ _ _ _ => (pe_cmpR op_eq (pe_op op_mod (pv 6) pe_int) pe_int (nomark _)))) pa_nil)))
      (pss_one (ps_raise rfl (takes_of rfl rfl rfl rfl) (pm_own x_NotSuch (by rfl))))
      pss_nil)
    (pss_cons (ps_expr (pe_cx cx_check_unlike hr (by first | decide | omega) (by rfl) (passes_call (takes_of rfl rfl rfl rfl) fun _ _ _ _ h => h) (pa_cons (pv 0) pa_nil)))
    pss_never))), fun Q kq => ?_⟩
    try dsimp only [cxOf, Cx.nox]
    refine q_drop s0 (ev_callO (ea_cons (ev_var rfl) ea_nil) (show SCheck _ _ from ⟨ps, rfl, by omega, hs, rfl⟩)) (fun H1 e1 s1 => ?_)
    refine q_when s1 (b := false) (et_B (ev_is (ev_any _ _ (l := ps) (f := fun p => decide (p.1 % 2 = 0)) (el_lc0 ps pr (fun p => .bool (decide (p.1 % 2 = 0))) (fun p => [.d (dP ps), .no, .no, .no, .no, .no, .d (.int p.1), .d (.int p.2)]) (src_list (ev_var rfl)) (by omega) ?_ ?_)) ?_)) (fun z => nomatch z) (fun _ H3 e3 s3 => ?_)
    · intro a ha; exact ⟨_, tg_tup2 (tg_name (Nat.le_of_ble_eq_true rfl)) (tg_name (Nat.le_of_ble_eq_true rfl)), by decide⟩
    · intro p hp; exact ev_op (ev_op (ev_var rfl) ev_int (op2_I (show (0 : Int) < 2 by decide))) ev_int op2_eqI
    · rw [any_no fun p hp => decide_eq_false (he p hp)]
    exact q_dropE s3 (ee_call (ea_cons (ev_var rfl) ea_nil) (show SNotU _ _ _ from ⟨ps, rfl, hl, hu, rfl⟩)) kq
theorem xk_hooks (D : Df K mg "hooks" s_hooks) (T : Bn mg) (G_MOST : ∃ t, mg "MOST" = some (.int 1000 t)) (x_NotSuch : XC K mg "NotSuch" C_NotSuch) (x_TooMany : XC K mg "TooMany" C_TooMany) (cx_check_sum : CalX P w K mg base 4 "check_sum" (SpO (SpR K SCheck) (SpE K (SBadS C_BadSum)))) (c_turned_of : Cal P w K mg base 1 "turned_of" (SpL K STurn)) : CalX P w K mg base 5 "hooks" (SpE K (SHokE C_BadSum C_NotSuch C_TooMany)) := by
  obtain ⟨f, fd, F, hm⟩ := D.ex
  obtain ⟨tM, G_M⟩ := G_MOST
  refine ⟨f, fd, ["parts"], fn_orE (okE F sc_hooks (by decide) (fun ds y ⟨_, h, _⟩ => by rw [h]; rfl) (fun cdv A outer s H σ E ds c X hr h s0 => ?_)) (fn_orE (okE F sc_hooks (by decide) (fun ds y ⟨_, h, _⟩ => by rw [h]; rfl) (fun cdv A outer s H σ E ds c X hr h s0 => ?_)) (okE F sc_hooks (by decide) (fun ds y ⟨_, h, _⟩ => by rw [h]; rfl) (fun cdv A outer s H σ E ds c X hr h s0 => ?_))), hm, F.kp, F.binds (fun _ _ _ _ _ _ us hl => match us, hl with | [_], _ => rfl)⟩
  · obtain ⟨x, rfl, hx, rfl⟩ := h
    replace s0 : Sg K E σ H [.d x, .no, .no, .no, .no, .no, .no] [] := s0
    refine ⟨_, (pss_cons (ps_expr (pe_cx cx_check_sum hr (by first | decide | omega) (by rfl) (passes_call (takes_of rfl rfl rfl rfl) fun _ _ _ _ h => h) (pa_cons (pv 0) pa_nil)))
    pss_never), fun Q kq => ?_⟩
    try dsimp only [cxOf, Cx.nox]
    exact q_dropE s0 (ee_callO (ea_cons (ev_var rfl) ea_nil) (show SBadS _ _ _ from ⟨x, rfl, hx, rfl⟩)) kq
  · obtain ⟨ps, rfl, hl, hs, ht, rfl⟩ := h
    replace s0 : Sg K E σ H [.d (dP ps), .no, .no, .no, .no, .no, .no] [] := s0
    refine ⟨_, (pss_cons (ps_expr (pe_cx cx_check_sum hr (by first | decide | omega) (by rfl) (passes_call (takes_of rfl rfl rfl rfl) fun _ _ _ _ h => h) (pa_cons (pv 0) pa_nil)))
    (pss_cons (ps_if (pt_cmpR (r := rNeD K) (op_neD hr.units) (pe_c c_turned_of hr (by first | decide | omega) (by rfl) (pa_cons (pv 0) pa_nil)) (pv 0) (nomark _))
      (pss_one (ps_raise rfl (takes_of rfl rfl rfl rfl) (pm_own x_NotSuch (by rfl))))
      pss_nil)
    pss_never)), fun Q kq => ?_⟩
    try dsimp only [cxOf, Cx.nox]
    refine q_drop s0 (ev_callO (ea_cons (ev_var rfl) ea_nil) (show SCheck _ _ from ⟨ps, rfl, by omega, hs, rfl⟩)) (fun H1 e1 s1 => ?_)
    exact q_when s1 (b := true) (et_test (ev_is (ev_op (el_call (ea_cons (ev_var rfl) ea_nil) (show STurn _ _ from ⟨ps, rfl, hl, rfl⟩)).ev (ev_var rfl) op2_neP) (by rw [decide_eq_false ht]; rfl))) (fun _ H2 e2 s2 => kq H2 s2.ent) (fun z => nomatch z)
  · obtain ⟨ps, rfl, hl, hs, ht, hk, rfl⟩ := h
    replace s0 : Sg K E σ H [.d (dP ps), .no, .no, .no, .no, .no, .no] [] := s0
    refine ⟨_, (pss_cons (ps_expr (pe_cx cx_check_sum hr (by first | decide | omega) (by rfl) (passes_call (takes_of rfl rfl rfl rfl) fun _ _ _ _ h => h) (pa_cons (pv 0) pa_nil)))
    (pss_cons (ps_if (pt_cmpR (r := rNeD K) (op_neD hr.units) (pe_c c_turned_of hr (by first | decide | omega) (by rfl) (pa_cons (pv 0) pa_nil)) (pv 0) (nomark _))
      (pss_one (ps_raise rfl (takes_of rfl rfl rfl rfl) (pm_own x_NotSuch (by rfl))))
      pss_nil)
    (pss_cons (ps_set (i := 1) sc_hooks.nd rfl (Or.inl rfl) (pe_lst pa_nil))
    (pss_cons (ps_set (i := 2) sc_hooks.nd rfl (Or.inr rfl) pe_int)
    (pss_cons (ps_for (passes_of rfl) rfl (pi_listK (K := K) rfl (pv 0)) (pg_tup (n := 2) rfl (pgs_cons (pg_name (i := 3) sc_hooks.nd rfl (Or.inr rfl)) (pgs_cons (pg_name (i := 4) sc_hooks.nd rfl (Or.inl rfl)) pgs_nil)))
      (pss_cons (ps_set (i := 5) sc_hooks.nd rfl (Or.inl rfl) (pe_callB cp_max2 (by rfl) T.max_ (by decide +kernel) (pa_cons pe_int (pa_cons (pe_callB cp_min2 (by rfl) T.min_ (by decide +kernel) (pa_cons (pv 4) (pa_cons (pe_op op_sub (pv 3) (pv 2)) pa_nil))) pa_nil))))
      (pss_cons (ps_if (pt_cmpR op_gt (pe_op op_add (pe_callB (r := Evl.rLenS K) cp_len (by rfl) T.len_ (by decide +kernel) (pa_cons (pv 1) pa_nil)) (pv 5)) (pe_glob (v := .int 1000) (by rfl) G_M ⟨_, rfl⟩) (nomark _))
        (pss_one (ps_raise rfl (takes_of rfl rfl rfl rfl) (pm_own x_TooMany (by rfl))))
        pss_nil)
      (pss_cons (ps_expr (pe_bm PySem.F.plainAttrs_list PySem.F.slot_list_extend PySem.F.type_list_extend mt_extend (pv 1) (pa_cons (pe_lc (own := [("k", 6)]) (g := (gName 6)) (tt := tYes) rfl sc_hooks.nd (pi_range1 (by rfl) T.range_ (pa_cons (pv 5) pa_nil)) (blkOk_by (own := [("k", 6)]) (N := ["parts", "found", "at", "part", "times", "many", "k"]) (sc := defScope s_hooks) (by decide +kernel)) (fun _ _ _ _ _ => (pg_name (i := 6) sc_hooks.nd rfl (by first | exact Or.inl rfl | exact Or.inr rfl))) (fun _ _ _ _ _ => pts_nil) (fun _ _ _ _ _ => (pe_tup (pa_cons (pe_op op_sub (pe_op op_mulA pe_int (pe_op op_sub (pe_op op_sub (pv 3) (pv 2)) (pv 6))) pe_int) (pa_cons pe_int pa_nil))))) pa_nil)))
      (pss_one (ps_aug (i := 2) sc_hooks.nd rfl (Or.inr rfl) (pv 4) ip_add))))))
    (pss_one (ps_ret (pv 1)))))))), fun Q kq => ?_⟩
    try dsimp only [cxOf, Cx.nox]
    refine q_drop s0 (ev_callO (ea_cons (ev_var rfl) ea_nil) (show SCheck _ _ from ⟨ps, rfl, by omega, hs, rfl⟩)) (fun H1 e1 s1 => ?_)
    refine q_when s1 (b := false) (et_test (ev_is (ev_op (el_call (ea_cons (ev_var rfl) ea_nil) (show STurn _ _ from ⟨ps, rfl, hl, rfl⟩)).ev (ev_var rfl) op2_neP) (by rw [ht, decide_eq_true rfl]; rfl))) (fun z => nomatch z) (fun _ H2 e2 s2 => ?_)
    refine q_asgO s2 (el_lst ea_nil) (fun σ3 H3 a e3 s3 => ?_)
    refine q_asg s3 ev_int (fun σ4 H4 e4 s4 => ?_)
    refine q_for ps pr (fun i z => z.1 ++ hkA z.2 (ps.drop i) = hkA 0 ps ∧ z.1.length ≤ 1000) (fun z => [.d (dP ps), .o a, .d (.int z.2), .no, .no, .no, .no]) (fun z => [(a, .lst (z.1.map pr))]) (fun q z => [.d (dP ps), .o a, .d (.int z.2), .d (.int q.1), .d (.int q.2), .no, .no]) (([], 0) : List (Int × Int) × Int) (src_list (ev_var rfl)) s4 ⟨rfl, Nat.zero_le _⟩ ?_ ?_ ?_
    · intro i q z hq hz
      exact ⟨_, tg_tup2 (tg_name (Nat.le_of_ble_eq_true rfl)) (tg_name (Nat.le_of_ble_eq_true rfl))⟩
    · intro B i q z σ5 H5 hq hz s5
      obtain ⟨hz, hz3⟩ := hz
      obtain ⟨hi, hq'⟩ := List.getElem?_eq_some_iff.mp hq
      have ed : ps.drop i = q :: ps.drop (i + 1) := by rw [List.drop_eq_getElem_cons hi, hq']
      rw [ed] at hz
      have hz2 : z.1 ++ (hkI z.2 q ++ hkA (z.2 + q.2) (ps.drop (i + 1))) = hkA 0 ps := hz
      have hnn := mny_nn z.2 q
      refine q_asg s5 (x := .int (mnyM z.2 q)) (ev_cb (ea_cons ev_int (ea_cons (ev_cb (ea_cons (ev_var rfl) (ea_cons (ev_op (ev_var rfl) (ev_var rfl) op2_I0) ea_nil)) cb_min2) ea_nil)) cb_max2) (fun σ6 H6 e6 s6 => ?_)
      replace s6 : Sg K { E with low := B } σ6 H6 [.d (dP ps), .o a, .d (.int z.2), .d (.int q.1), .d (.int q.2), .d (.int (mnyM z.2 q)), .no] ([] ++ (a, .lst (z.1.map pr)) :: []) := s6
      refine q_when s6 (b := decide (((z.1.length : Nat) : Int) + mnyM z.2 q > 1000)) (et_is (et_test (ev_op (ev_op (ev_lenO (xs := z.1.map pr) rfl List.mem_cons_self) (ev_var rfl) op2_I0) ev_int op2_B0)) (by rw [List.length_map])) (fun _ H7 e7 s7 => kq H7 s7.ent) (fun hb H7 e7 s7 => ?_)
      have hb' := of_decide_eq_false hb
      refine q_ext (O1 := []) (O2 := []) s7 rfl (el_is (el_lc0 (List.range (mnyM z.2 q).toNat) (fun k => .int (k : Nat)) (fun k => pr (2 * (q.1 - z.2 - (k : Nat)) - 1, 1)) (fun k => [.d (dP ps), .o a, .d (.int z.2), .d (.int q.1), .d (.int q.2), .d (.int (mnyM z.2 q)), .d (.int (k : Nat))]) (src_rng1 (ea_cons (ev_var rfl) ea_nil)) (by rw [List.length_range]; omega) ?_ ?_) ?_) (ys := (hkI z.2 q).map pr) ?_ (fun H8 s8 => ?_)
      · intro k hk; exact ⟨_, tg_name (Nat.le_of_ble_eq_true rfl), by decide⟩
      · intro k hk
        exact ev_tup (ea_cons (ev_op (ev_op ev_int (ev_op (ev_op (ev_var rfl) (ev_var rfl) op2_I0) (ev_var rfl) op2_I0) (op2_I (mulok_l (by decide)))) ev_int op2_I0) (ea_cons ev_int ea_nil))
      · unfold hkI; rw [List.map_map]; rfl
      · rw [List.length_map, List.length_map, hkI_len]; omega
      refine d_aug s8 rfl (ev_var rfl) (fun σ9 H9 e9 s9 => ⟨(z.1 ++ hkI z.2 q, z.2 + q.2), ⟨?_, ?_⟩, ?_⟩)
      · show (z.1 ++ hkI z.2 q) ++ hkA (z.2 + q.2) (ps.drop (i + 1)) = hkA 0 ps
        rw [List.append_assoc]; exact hz2
      · show (z.1 ++ hkI z.2 q).length ≤ 1000
        rw [List.length_append, hkI_len]; omega
      · show Sg _ _ _ _ _ [(a, .lst ((z.1 ++ hkI z.2 q).map pr))]
        rw [List.map_append]
        exact s9.weak (.same (.same (.same (.no (.no (.no (.no .nil)))))))
    · intro z σ5 H5 hz s5
      exfalso
      obtain ⟨hz, hz3⟩ := hz
      rw [List.drop_length] at hz
      have hz2 : z.1 ++ [] = hkA 0 ps := hz
      rw [List.append_nil] at hz2
      rw [hz2] at hz3
      omega
end
end Pw

set_option Elab.async false
set_option linter.all false
set_option maxRecDepth 100000
set_option maxHeartbeats 2000000
set_option autoImplicit false
namespace Pw
open PySem PySem.Spec PyProof.Rows L2
open Evl (Ex)
open Pw in
local macro_rules | `(tactic| walk_at "ev") => `(tactic| first
  | with_reducible exact ev_int
  | with_reducible exact ev_bl
  | with_reducible exact ev_non
  | exact ev_var rfl
  | exact ea_nil
  | with_reducible exact eo_none
  | with_reducible exact et_yes
  | ((refine' ea_cons ?_ ?_) <;> walk_at "ev")
  | ((with_reducible refine' et_test ?_) <;> walk_at "ev")
  | ((with_reducible refine' et_B ?_) <;> walk_at "ev")
  | ((with_reducible refine' et_not ?_) <;> walk_at "ev")
  | ((with_reducible refine' et_and ?_ (fun h_and => ?_)) <;> walk_at "ev")
  | ((with_reducible refine' et_or ?_ (fun h_or => ?_)) <;> walk_at "ev")
  | ((with_reducible refine' ev_andV ?_ (fun h_and => ?_)) <;> walk_at "ev")
  | ((with_reducible refine' ev_orV ?_ (fun h_or => ?_)) <;> walk_at "ev")
  | ((with_reducible refine' ev_notV ?_) <;> walk_at "ev")
  | ((with_reducible refine' ev_ifI ?_ (fun h_if => ?_) (fun h_if => ?_)) <;> walk_at "ev")
  | ((with_reducible refine' ev_un ?_ op1_neg) <;> walk_at "ev")
  | ((with_reducible refine' (el_cat ?_ ?_ ?_).ev) <;> walk_at "ev")
  | ((with_reducible refine' el_cat ?_ ?_ ?_) <;> walk_at "ev")
  | ((with_reducible refine' ev_op ?_ ?_ ?_) <;> walk_at "ev")
  | ((with_reducible refine' ev_tup ?_ ?_) <;> walk_at "ev")
  | ((with_reducible refine' (el_lst ?_ ?_).ev) <;> walk_at "ev")
  | ((with_reducible refine' el_lst ?_ ?_) <;> walk_at "ev")
  | ((with_reducible refine' (el_sl ?_ ?_ ?_).ev) <;> walk_at "ev")
  | ((with_reducible refine' el_sl ?_ ?_ ?_) <;> walk_at "ev")
  | ((with_reducible refine' (el_rev ?_).ev) <;> walk_at "ev")
  | ((with_reducible refine' el_rev ?_) <;> walk_at "ev")
  | ((with_reducible refine' eo_some ?_) <;> walk_at "ev")
  | ((with_reducible refine' (el_list ?_).ev) <;> walk_at "ev")
  | ((with_reducible refine' el_list ?_) <;> walk_at "ev")
  | ((with_reducible refine' ev_call ?_ ?_) <;> walk_at "ev")
  | ((with_reducible refine' (el_call ?_ ?_).ev) <;> walk_at "ev")
  | ((with_reducible refine' el_call ?_ ?_) <;> walk_at "ev")
  | ((with_reducible refine' (el_sortedD ?_).ev) <;> walk_at "ev")
  | ((with_reducible refine' el_sortedD ?_) <;> walk_at "ev")
  | ((with_reducible refine' (el_sortedDR ?_).ev) <;> walk_at "ev")
  | ((with_reducible refine' el_sortedDR ?_) <;> walk_at "ev")
  | ((with_reducible refine' ev_dgetD ?_ ?_ ?_) <;> walk_at "ev")
  | ((with_reducible refine' ev_cb ?_ ?_) <;> walk_at "ev")
  | with_reducible exact op2_I0
  | with_reducible exact op2_B0
  | with_reducible exact op2_eqI
  | with_reducible exact op2_neI
  | with_reducible exact op2_eqB
  | with_reducible exact op2_neB
  | with_reducible exact op2_isB
  | with_reducible exact op2_isNB
  | with_reducible exact op2_inT
  | with_reducible exact op2_inL
  | (with_reducible refine' op2_eqD ?_ ?_)
  | (with_reducible refine' op2_neD ?_ ?_)
  | ((with_reducible refine' op2_I ?_) <;> walk_at "side")
  | (with_reducible refine' op2_ixL ?_)
  | (with_reducible refine' op2_ixT ?_)
  | (show List.length _ ≤ 100000; exact Nat.le_of_ble_eq_true rfl)
  | exact cb_len
  | exact cb_lenT
  | exact cb_minT
  | exact cb_abs
  | exact cb_max2
  | exact cb_min2
  | exact cb_intB
  | exact cb_sum
  | exact cb_any
  | exact cb_all
  | skip)
local macro_rules | `(tactic| walk_at "side") => `(tactic| first
  | exact Nat.le_of_ble_eq_true rfl
  | (with_reducible exact mulok_l (by decide))
  | (with_reducible exact mulok_r (by decide))
  | (show (0 : Int) < _; decide)
  | (show (0 : Int) < _; omega)
  | (show (0 : Int) ≤ _ ∧ _ ∧ _; decide)
  | skip)

section
variable {P : Program} {w : World} {K : PySem.W.Frag} {mg : Str → Option Value} {base : Heap} {C_BadSum C_BadNumber C_NotSuch C_TooMany C_PartsError : Addr}
/-! ### the law's doors -/
def SWith (c1 : Addr) (ds : List PyData) (c : Addr) : Prop := ∃ (n : Int) (x : PyData), ds = [.int n, x] ∧ BadD x ∧ c = c1
def SWNum (c1 : Addr) (ds : List PyData) (c : Addr) : Prop := ∃ (n : Int) (y : PyData), ds = [.int n, y] ∧ BadN y ∧ c = c1
def SLed (c1 : Addr) (ds : List PyData) (c : Addr) : Prop := ∃ (n : Int) (ps : List (Int × Int)) (b : Int), ds = [.int n, .tuple [dP ps, .int b]] ∧ ps.length ≤ 50000 ∧ sumB ps = true ∧ 2 ≤ b ∧ (n = 0 → ∃ p ∈ ps, p.1 % b = 0) ∧ (n ≠ 0 → ∃ p ∈ ps, b ≤ p.2) ∧ c = c1
def SOth (c1 c2 c3 : Addr) (ds : List PyData) (c : Addr) : Prop := ∃ (n : Int) (x : PyData), ds = [.int n, x] ∧ (n = 0 → SParE c1 c2 [x] c) ∧ (n = 1 → SFolE c1 c2 [x] c) ∧ (n ≠ 0 → n ≠ 1 → SHokE c1 c2 c3 [x] c)
theorem sc_law_with_sum : FnScope ["_law_door", "_law_parts"] ["_law_door", "_law_parts"] (defScope s_law_with_sum) := ⟨rfl, rfl, rfl, by decide +kernel, rfl, by decide +kernel, by decide +kernel⟩
theorem xk_law_with_sum (D : Df K mg "_law_with_sum" s_law_with_sum) (T : Bn mg) (cx_whole : CalX P w K mg base 5 "whole" (SpE K (SBadS C_BadSum))) (cx_often : CalX P w K mg base 5 "often" (SpE K (SBadS C_BadSum))) (cx_turned : CalX P w K mg base 5 "turned" (SpE K (SBadS C_BadSum))) (cx_is_own : CalX P w K mg base 5 "is_own" (SpE K (SBadS C_BadSum))) (cx_spread : CalX P w K mg base 5 "spread" (SpE K (SSprE C_BadSum C_BadNumber C_NotSuch))) (cx_gathered : CalX P w K mg base 5 "gathered" (SpE K (SGatE C_BadSum C_BadNumber C_NotSuch))) (cx_partner : CalX P w K mg base 5 "partner" (SpE K (SParE C_BadSum C_NotSuch))) (cx_folded : CalX P w K mg base 5 "folded" (SpE K (SFolE C_BadSum C_NotSuch))) (cx_hooks : CalX P w K mg base 5 "hooks" (SpE K (SHokE C_BadSum C_NotSuch C_TooMany))) : CalX P w K mg base 6 "_law_with_sum" (SpE K (SWith C_BadSum)) := by
  refine calE D sc_law_with_sum (fun _ _ _ _ _ _ us hl => match us, hl with | [_, _], _ => rfl) (by decide) (fun ds y ⟨_, _, h, _⟩ => by rw [h]; rfl) (fun f cdv A outer s H σ E ds c X hr h s0 => ?_)
  obtain ⟨n, x, rfl, hx, rfl⟩ := h
  replace s0 : Sg K E σ H [.d (.int n), .d x] [] := s0
  refine ⟨_, (pss_cons (ps_if (pt_cmpR op_lt (pv 0) pe_int (nomark _))
      (pss_cons (ps_if (pt_cmpR op_lt (pv 0) pe_int (nomark _))
        (pss_one (ps_ret (pe_ifExp (pt_cmpR op_eq (pv 0) pe_int (nomark _)) (pe_cx cx_whole hr (by first | decide | omega) (by rfl) (passes_call (takes_of rfl rfl rfl rfl) fun _ _ _ _ h => h) (pa_cons (pv 1) pa_nil)) (pe_cx cx_often hr (by first | decide | omega) (by rfl) (passes_call (takes_of rfl rfl rfl rfl) fun _ _ _ _ h => h) (pa_cons (pv 1) pa_nil)))))
        pss_nil)
      (pss_one (ps_ret (pe_ifExp (pt_cmpR op_eq (pv 0) pe_int (nomark _)) (pe_cx cx_turned hr (by first | decide | omega) (by rfl) (passes_call (takes_of rfl rfl rfl rfl) fun _ _ _ _ h => h) (pa_cons (pv 1) pa_nil)) (pe_cx cx_is_own hr (by first | decide | omega) (by rfl) (passes_call (takes_of rfl rfl rfl rfl) fun _ _ _ _ h => h) (pa_cons (pv 1) pa_nil))))))
      pss_nil)
    (pss_cons (ps_if (pt_cmpR op_lt (pv 0) pe_int (nomark _))
      (pss_one (ps_ret (pe_ifExp (pt_cmpR op_eq (pv 0) pe_int (nomark _)) (pe_cx cx_spread hr (by first | decide | omega) (by rfl) (passes_call (takes_of rfl rfl rfl rfl) fun _ _ _ _ h => h) (pa_cons (pv 1) (pa_cons pe_int pa_nil))) (pe_cx cx_gathered hr (by first | decide | omega) (by rfl) (passes_call (takes_of rfl rfl rfl rfl) fun _ _ _ _ h => h) (pa_cons (pv 1) (pa_cons pe_non pa_nil))))))
      pss_nil)
    (pss_one (ps_ret (pe_ifExp (pt_cmpR op_eq (pv 0) pe_int (nomark _)) (pe_cx cx_partner hr (by first | decide | omega) (by rfl) (passes_call (takes_of rfl rfl rfl rfl) fun _ _ _ _ h => h) (pa_cons (pv 1) pa_nil)) (pe_ifExp (pt_cmpR op_eq (pv 0) pe_int (nomark _)) (pe_cx cx_folded hr (by first | decide | omega) (by rfl) (passes_call (takes_of rfl rfl rfl rfl) fun _ _ _ _ h => h) (pa_cons (pv 1) pa_nil)) (pe_cx cx_hooks hr (by first | decide | omega) (by rfl) (passes_call (takes_of rfl rfl rfl rfl) fun _ _ _ _ h => h) (pa_cons (pv 1) pa_nil)))))))), fun Q kq => ?_⟩
  try dsimp only [cxOf, Cx.nox]
  refine q_when s0 (b := decide (n < 4)) (et_test (ev_op (ev_var rfl) ev_int op2_B0)) (fun _ H1 e1 s1 => ?_) (fun _ H1 e1 s1 => ?_)
  · refine q_when s1 (b := decide (n < 2)) (et_test (ev_op (ev_var rfl) ev_int op2_B0)) (fun _ H2 e2 s2 => ?_) (fun _ H2 e2 s2 => ?_)
    · exact d_retE s2 (ee_if (et_test (ev_op (ev_var rfl) ev_int op2_eqI)) (fun _ => ee_call (ea_cons (ev_var rfl) ea_nil) (show SBadS _ _ _ from ⟨x, rfl, hx, rfl⟩)) (fun _ => ee_call (ea_cons (ev_var rfl) ea_nil) (show SBadS _ _ _ from ⟨x, rfl, hx, rfl⟩))) kq
    · exact d_retE s2 (ee_if (et_test (ev_op (ev_var rfl) ev_int op2_eqI)) (fun _ => ee_call (ea_cons (ev_var rfl) ea_nil) (show SBadS _ _ _ from ⟨x, rfl, hx, rfl⟩)) (fun _ => ee_call (ea_cons (ev_var rfl) ea_nil) (show SBadS _ _ _ from ⟨x, rfl, hx, rfl⟩))) kq
  · refine q_when s1 (b := decide (n < 6)) (et_test (ev_op (ev_var rfl) ev_int op2_B0)) (fun _ H2 e2 s2 => ?_) (fun _ H2 e2 s2 => ?_)
    · exact d_retE s2 (ee_if (et_test (ev_op (ev_var rfl) ev_int op2_eqI)) (fun _ => ee_call (ea_cons (ev_var rfl) (ea_cons ev_int ea_nil)) (show SSprE _ _ _ _ _ from .inl ⟨x, _, rfl, hx, rfl⟩)) (fun _ => ee_call (ea_cons (ev_var rfl) (ea_cons ev_non ea_nil)) (show SGatE _ _ _ _ _ from .inl ⟨x, _, rfl, hx, rfl⟩))) kq
    · exact d_retE s2 (ee_if (et_test (ev_op (ev_var rfl) ev_int op2_eqI)) (fun _ => ee_call (ea_cons (ev_var rfl) ea_nil) (show SParE _ _ _ _ from .inl ⟨x, rfl, hx, rfl⟩)) (fun _ => ee_if (et_test (ev_op (ev_var rfl) ev_int op2_eqI)) (fun _ => ee_call (ea_cons (ev_var rfl) ea_nil) (show SFolE _ _ _ _ from .inl ⟨x, rfl, hx, rfl⟩)) (fun _ => ee_call (ea_cons (ev_var rfl) ea_nil) (show SHokE _ _ _ _ _ from .inl ⟨x, rfl, hx, rfl⟩)))) kq
theorem sc_law_with_number : FnScope ["_law_door", "_law_by"] ["_law_door", "_law_by"] (defScope s_law_with_number) := ⟨rfl, rfl, rfl, by decide +kernel, rfl, by decide +kernel, by decide +kernel⟩
theorem xk_law_with_number (D : Df K mg "_law_with_number" s_law_with_number) (T : Bn mg) (cx_spread : CalX P w K mg base 5 "spread" (SpE K (SSprE C_BadSum C_BadNumber C_NotSuch))) (cx_gathered : CalX P w K mg base 5 "gathered" (SpE K (SGatE C_BadSum C_BadNumber C_NotSuch))) : CalX P w K mg base 6 "_law_with_number" (SpE K (SWNum C_BadNumber)) := by
  refine calE D sc_law_with_number (fun _ _ _ _ _ _ us hl => match us, hl with | [_, _], _ => rfl) (by decide) (fun ds y ⟨_, _, h, _⟩ => by rw [h]; rfl) (fun f cdv A outer s H σ E ds c X hr h s0 => ?_)
  obtain ⟨n, y, rfl, hy, rfl⟩ := h
  replace s0 : Sg K E σ H [.d (.int n), .d y] [] := s0
  refine ⟨_, (pss_one (ps_ret (pe_ifExp (pt_cmpR op_eq (pv 0) pe_int (nomark _)) (pe_cx cx_spread hr (by first | decide | omega) (by rfl) (passes_call (takes_of rfl rfl rfl rfl) fun _ _ _ _ h => h) (pa_cons (pe_lst (pa_cons (pe_tup (pa_cons pe_int (pa_cons pe_int pa_nil))) pa_nil)) (pa_cons (pv 1) pa_nil))) (pe_cx cx_gathered hr (by first | decide | omega) (by rfl) (passes_call (takes_of rfl rfl rfl rfl) fun _ _ _ _ h => h) (pa_cons (pe_lst (pa_cons (pe_tup (pa_cons pe_int (pa_cons (pe_op op_pow pe_int pe_int) pa_nil))) pa_nil)) (pa_cons (pv 1) pa_nil)))))), fun Q kq => ?_⟩
  try dsimp only [cxOf, Cx.nox]
  have c30 : CPow 10 30 := by show (0 : Int) ≤ _ ∧ _ ∧ _; decide
  exact d_retE s0 (ee_if (et_test (ev_op (ev_var rfl) ev_int op2_eqI)) (fun _ => ee_call (ea_cons (el_lst (ea_cons (ev_tup (ea_cons ev_int (ea_cons ev_int ea_nil))) ea_nil)).ev (ea_cons (ev_var rfl) ea_nil)) (show SSprE _ _ _ _ _ from .inr (.inl ⟨[(6, 7)], y, rfl, Nat.le_of_ble_eq_true rfl, by decide, hy, rfl⟩))) (fun _ => ee_call (ea_cons (el_lst (ea_cons (ev_tup (ea_cons ev_int (ea_cons (ev_op ev_int ev_int (op2_I c30)) ea_nil))) ea_nil)).ev (ea_cons (ev_var rfl) ea_nil)) (show SGatE _ _ _ _ _ from .inr (.inl ⟨[(6, (10 : Int) ^ Int.toNat 30)], y, rfl, Nat.le_of_ble_eq_true rfl, by decide, hy, rfl⟩)))) kq
theorem sc_law_led : FnScope ["_law_door", "_law_pair"] ["_law_door", "_law_pair"] (defScope s_law_led) := ⟨rfl, rfl, rfl, by decide +kernel, rfl, by decide +kernel, by decide +kernel⟩
theorem xk_law_led (D : Df K mg "_law_led" s_law_led) (T : Bn mg) (cx_spread : CalX P w K mg base 5 "spread" (SpE K (SSprE C_BadSum C_BadNumber C_NotSuch))) (cx_gathered : CalX P w K mg base 5 "gathered" (SpE K (SGatE C_BadSum C_BadNumber C_NotSuch))) : CalX P w K mg base 6 "_law_led" (SpE K (SLed C_NotSuch)) := by
  refine calE D sc_law_led (fun _ _ _ _ _ _ us hl => match us, hl with | [_, _], _ => rfl) (by decide) (fun ds y ⟨_, _, _, h, _⟩ => by rw [h]; rfl) (fun f cdv A outer s H σ E ds c X hr h s0 => ?_)
  obtain ⟨n, ps, b, rfl, hl, hs, hb, h0, h1, rfl⟩ := h
  replace s0 : Sg K E σ H [.d (.int n), .d (.tuple [dP ps, .int b])] [] := s0
  refine ⟨_, (pss_one (ps_ret (pe_ifExp (pt_cmpR op_eq (pv 0) pe_int (nomark _)) (pe_cx cx_spread hr (by first | decide | omega) (by rfl) (passes_call (takes_of rfl rfl rfl rfl) fun _ _ _ _ h => h) (pa_cons (pe_ix (r := rIxT K) ix_tup (pv 1) pe_int (fun _ _ => rfl)) (pa_cons (pe_ix (r := rIxT K) ix_tup (pv 1) pe_int (fun _ _ => rfl)) pa_nil))) (pe_cx cx_gathered hr (by first | decide | omega) (by rfl) (passes_call (takes_of rfl rfl rfl rfl) fun _ _ _ _ h => h) (pa_cons (pe_ix (r := rIxT K) ix_tup (pv 1) pe_int (fun _ _ => rfl)) (pa_cons (pe_ix (r := rIxT K) ix_tup (pv 1) pe_int (fun _ _ => rfl)) pa_nil)))))), fun Q kq => ?_⟩
  try dsimp only [cxOf, Cx.nox]
  exact d_retE s0 (ee_if (b := decide (n = 0)) (et_test (ev_op (ev_var rfl) ev_int op2_eqI)) (fun q => ee_call (ea_cons (ev_op (ev_var rfl) ev_int op2_ixT0) (ea_cons (ev_op (ev_var rfl) ev_int op2_ixT1) ea_nil)) (show SSprE _ _ _ _ _ from .inr (.inr ⟨ps, b, rfl, hl, hs, hb, h0 (of_decide_eq_true q), rfl⟩))) (fun q => ee_call (ea_cons (ev_op (ev_var rfl) ev_int op2_ixT0) (ea_cons (ev_op (ev_var rfl) ev_int op2_ixT1) ea_nil)) (show SGatE _ _ _ _ _ from .inr (.inr ⟨ps, b, rfl, hl, hs, hb, h1 (of_decide_eq_false q), rfl⟩)))) kq
theorem sc_law_others : FnScope ["_law_door", "_law_parts"] ["_law_door", "_law_parts"] (defScope s_law_others) := ⟨rfl, rfl, rfl, by decide +kernel, rfl, by decide +kernel, by decide +kernel⟩
theorem xk_law_others (D : Df K mg "_law_others" s_law_others) (T : Bn mg) (cx_partner : CalX P w K mg base 5 "partner" (SpE K (SParE C_BadSum C_NotSuch))) (cx_folded : CalX P w K mg base 5 "folded" (SpE K (SFolE C_BadSum C_NotSuch))) (cx_hooks : CalX P w K mg base 5 "hooks" (SpE K (SHokE C_BadSum C_NotSuch C_TooMany))) : CalX P w K mg base 6 "_law_others" (SpE K (SOth C_BadSum C_NotSuch C_TooMany)) := by
  refine calE D sc_law_others (fun _ _ _ _ _ _ us hl => match us, hl with | [_, _], _ => rfl) (by decide) (fun ds y ⟨_, _, h, _⟩ => by rw [h]; rfl) (fun f cdv A outer s H σ E ds c X hr h s0 => ?_)
  obtain ⟨n, x, rfl, h0, h1, h2⟩ := h
  replace s0 : Sg K E σ H [.d (.int n), .d x] [] := s0
  refine ⟨_, (pss_one (ps_ret (pe_ifExp (pt_cmpR op_eq (pv 0) pe_int (nomark _)) (pe_cx cx_partner hr (by first | decide | omega) (by rfl) (passes_call (takes_of rfl rfl rfl rfl) fun _ _ _ _ h => h) (pa_cons (pv 1) pa_nil)) (pe_ifExp (pt_cmpR op_eq (pv 0) pe_int (nomark _)) (pe_cx cx_folded hr (by first | decide | omega) (by rfl) (passes_call (takes_of rfl rfl rfl rfl) fun _ _ _ _ h => h) (pa_cons (pv 1) pa_nil)) (pe_cx cx_hooks hr (by first | decide | omega) (by rfl) (passes_call (takes_of rfl rfl rfl rfl) fun _ _ _ _ h => h) (pa_cons (pv 1) pa_nil)))))), fun Q kq => ?_⟩
  try dsimp only [cxOf, Cx.nox]
  exact d_retE s0 (ee_if (b := decide (n = 0)) (et_test (ev_op (ev_var rfl) ev_int op2_eqI)) (fun q => ee_call (ea_cons (ev_var rfl) ea_nil) (h0 (of_decide_eq_true q))) (fun q => ee_if (b := decide (n = 1)) (et_test (ev_op (ev_var rfl) ev_int op2_eqI)) (fun q2 => ee_call (ea_cons (ev_var rfl) ea_nil) (h1 (of_decide_eq_true q2))) (fun q2 => ee_call (ea_cons (ev_var rfl) ea_nil) (h2 (of_decide_eq_false q) (of_decide_eq_false q2))))) kq
/-! ### what is caught -/
structure Kd (K : PySem.W.Frag) (C1 C2 C3 C4 CP c : Addr) (b1 b2 b3 b4 : Bool) : Prop where
  e : ExcC K c
  k1 : PySem.W.kitOne K (.ref c) (.ref C1) = some b1
  k2 : PySem.W.kitOne K (.ref c) (.ref C2) = some b2
  k3 : PySem.W.kitOne K (.ref c) (.ref C3) = some b3
  k4 : PySem.W.kitOne K (.ref c) (.ref C4) = some b4
  kv : PySem.W.kitOne K (.ref c) (.type "ValueError") = some true
  x : PySem.W.exmOne K (.ref c) (.ref CP) = some true
abbrev dBs (l : List Bool) : PyData := .list (l.map PyData.bool)
theorem RvA.ofBools {H : Hp} : ∀ ns : List Bool, RvA K H (ns.map V.bl) (ns.map PyData.bool)
  | [] => .nil
  | n :: ns => .cons (.bl n) (RvA.ofBools ns)
def rKd (K : PySem.W.Frag) (C1 C2 C3 C4 CP : Addr) (cls : Value) (d : Option Addr) (H : Hp) (Q : VK) : Prop := ∃ (c : Addr) (b1 b2 b3 b4 : Bool), cls = .ref c ∧ d = none ∧ Kd K C1 C2 C3 C4 CP c b1 b2 b3 b4 ∧ ∀ p H2, H p = none → Ex H H2 → H2 p = some (.lst ([b1, b2, b3, b4, true].map V.bl)) → Q (.ref p) H2
theorem sc_law_kinds : FnScope ["_law_error", "_law_found"] ["_law_error"] (defScope s_law_kinds) := ⟨rfl, rfl, rfl, by decide +kernel, rfl, by decide +kernel, by decide +kernel⟩
theorem kinds_body (T : Bn mg) (G_BadSum : mg "BadSum" = some (.ref C_BadSum)) (G_BadNumber : mg "BadNumber" = some (.ref C_BadNumber)) (G_NotSuch : mg "NotSuch" = some (.ref C_NotSuch)) (G_TooMany : mg "TooMany" = some (.ref C_TooMany)) (zV : mg "ValueError" = none) {a f : Addr} {oe : Obj} {cls : Value} {d : Option Addr} (hz : Zc cls d oe) (hf : ∃ vs, oe.data = .fields vs) {A : Around} {outer : List Env} {s : Shared} {H : Hp} {Q : VK} {cdv : Value} (h : rKd K C_BadSum C_BadNumber C_NotSuch C_TooMany C_PartsError cls d H Q) :
    ∃ t, PSs (L2H.cxH CX0 P w K mg base ["_law_error", "_law_found"] "_law_kinds" (defScope s_law_kinds) f cdv A outer s H E0 (a, oe)) (defBody s_law_kinds) t ∧ t { nx := fun _ H' => Q .non H', rt := Q } (L2.start ["_law_error", "_law_found"] [.ref a]) H := by
  obtain ⟨c, b1, b2, b3, b4, rfl, rfl, hk, q⟩ := h
  have hi : CallR (L2H.cxH CX0 P w K mg base ["_law_error", "_law_found"] "_law_kinds" (defScope s_law_kinds) f cdv A outer s H E0 (a, oe)) (.builtin "isinstance") (rIsE K c a) := call_isP hk.e hz hf List.mem_cons_self
  refine ⟨_, (pss_cons (ps_set (i := 1) sc_law_kinds.nd rfl (Or.inl rfl) (pe_lst (pa_cons (pe_callB hi (by rfl) T.isinstance_ (by decide +kernel) (pa_cons (pv 0) (pa_cons (pe_glob (v := .ref C_BadSum) (by rfl) G_BadSum rfl) pa_nil))) (pa_cons (pe_callB hi (by rfl) T.isinstance_ (by decide +kernel) (pa_cons (pv 0) (pa_cons (pe_glob (v := .ref C_BadNumber) (by rfl) G_BadNumber rfl) pa_nil))) (pa_cons (pe_callB hi (by rfl) T.isinstance_ (by decide +kernel) (pa_cons (pv 0) (pa_cons (pe_glob (v := .ref C_NotSuch) (by rfl) G_NotSuch rfl) pa_nil))) pa_nil)))))
    (pss_one (ps_ret (pe_op (r := rCatS K) op_catS (pv 1) (pe_lst (pa_cons (pe_callB hi (by rfl) T.isinstance_ (by decide +kernel) (pa_cons (pv 0) (pa_cons (pe_glob (v := .ref C_TooMany) (by rfl) G_TooMany rfl) pa_nil))) (pa_cons (pe_callB hi (by rfl) T.isinstance_ (by decide +kernel) (pa_cons (pv 0) (pa_cons (pe_bltn (v := .ty "ValueError") (by rfl) zV (by decide +kernel) rfl) pa_nil))) pa_nil))))))), ?_⟩
  have s0 : Sg K ⟨H, H, H⟩ (L2.start ["_law_error", "_law_found"] [.ref a]) H [.o a, .no] [] := start_f (us := []) (ds := []) (Ex.refl H) .nil (by decide)
  refine q_asg s0 (x := dBs [b1, b2, b3]) (el_lst (ea_cons (ev_isE (v := .ref C_BadSum) rfl (fun u h => h) hk.k1) (ea_cons (ev_isE (v := .ref C_BadNumber) rfl (fun u h => h) hk.k2) (ea_cons (ev_isE (v := .ref C_NotSuch) rfl (fun u h => h) hk.k3) ea_nil)))).ev (fun σ1 H1 e1 s1 => ?_)
  refine d_retL s1 (xs := [b1, b2, b3, b4, true].map PyData.bool) (el_is (el_cat (xs := [.bool b1, .bool b2, .bool b3]) (ev_var rfl) (el_lst (ea_cons (ev_isE (v := .ref C_TooMany) rfl (fun u h => h) hk.k4) (ea_cons (ev_isE (v := .ty "ValueError") rfl (fun u h => h) hk.kv) ea_nil))).ev (Nat.le_of_ble_eq_true rfl)) rfl) (fun p ws H2 hp e hw r => q p H2 hp e ?_)
  rw [hw, RvA.bools (ns := [b1, b2, b3, b4, true]) r]
def STold (K : PySem.W.Frag) (C1 C2 C3 C4 CP : Addr) (T : List PyData → Addr → Prop) (ds : List PyData) (ys : List PyData) : Prop := ∃ (door thing : PyData) (c : Addr) (b1 b2 b3 b4 : Bool), ds = [door, thing] ∧ T [door, thing] c ∧ Kd K C1 C2 C3 C4 CP c b1 b2 b3 b4 ∧ ys = [b1, b2, b3, b4, true].map PyData.bool
theorem sc_law_told : FnScope ["_law_ask", "_law_door", "_law_thing", "_law_error"] ["_law_ask", "_law_door", "_law_thing"] (defScope s_law_told) := ⟨rfl, rfl, rfl, by decide +kernel, rfl, by decide +kernel, by decide +kernel⟩
theorem ok_law_told (D : Df K mg "_law_told" s_law_told) (T : Bn mg) (D_kinds : Df K mg "_law_kinds" s_law_kinds) (G_PartsError : mg "PartsError" = some (.ref C_PartsError)) (G_BadSum : mg "BadSum" = some (.ref C_BadSum)) (G_BadNumber : mg "BadNumber" = some (.ref C_BadNumber)) (G_NotSuch : mg "NotSuch" = some (.ref C_NotSuch)) (G_TooMany : mg "TooMany" = some (.ref C_TooMany)) (zV : mg "ValueError" = none) : Cal P w K mg base 7 "_law_told" (SpFL P w K mg base 6 (STold K C_BadSum C_BadNumber C_NotSuch C_TooMany C_PartsError)) := by
  obtain ⟨fk, fdk, Fk, hmk⟩ := D_kinds.ex
  refine calFL D sc_law_told (fun _ _ _ _ _ _ us hl => match us, hl with | [_, _, _], _ => rfl) (by decide) (fun T ds y ⟨_, _, _, _, _, _, _, h, _⟩ => by rw [h]; rfl) (fun f cdv A outer s H σ E g T' ds ys X hr hg h s0 => ?_)
  obtain ⟨door, thing, c, b1, b2, b3, b4, rfl, hT, hK, rfl⟩ := h
  replace s0 : Sg K E σ H [.o g, .d door, .d thing, .no] [] := s0
  refine ⟨_, pss_cons (ps_try_as (i := 3) rfl rfl sc_law_told.nd rfl rfl ⟨rfl, by decide, .inl G_PartsError⟩ takes0 (fun W pn xe tk _ => pss_one (ps_expr (pe_ask (P := P) (w := w) (K := K) (mg := mg) (base := base) (k := 6) (i := 0) rfl rfl rfl rfl rfl hr (by decide) rfl (Or.inl rfl) (fun σ => passAt tk σ) (pa_cons (pv 1) (pa_cons (pv 2) pa_nil)))))
    (fun a oe cls d pn hz hf => pss_one (ps_ret (pe_pin (k := 0) Fk sc_law_kinds (Fk.binds (fun _ _ _ _ _ _ us hl => match us, hl with | [_], _ => rfl)) rfl hmk hr (by decide) (by rfl) (i := 3) rfl (Or.inl rfl) (rKd K C_BadSum C_BadNumber C_NotSuch C_TooMany C_PartsError cls d) (fun A outer s H Q cdv h _ => kinds_body T G_BadSum G_BadNumber G_NotSuch G_TooMany zV hz hf h))))) (pss_one (ps_ret (pe_lst pa_nil))), fun Q kq => ?_⟩
  try dsimp only [cxOf, Cx.nox]
  obtain ⟨H0, s0⟩ := s0
  refine ⟨g, T', hg, s0.s.adr 0 g rfl, ?_⟩
  refine (ea_cons (ev_var (i := 1) rfl) (ea_cons (ev_var (i := 2) rfl) ea_nil)) H0 σ H s0.s _ fun vs H1 e1 r => ?_
  refine ⟨fr H0 H H1, [door, thing], c, fr_ex s0.s.base e1, r, hT, fun H2 e2 => ?_⟩
  refine ⟨true, hK.x, fun _ a ha => ?_, fun z => nomatch z⟩
  have eb := s0.ent.trans (e1.trans e2)
  refine ⟨List.getElem?_set_self (by rw [s0.s.len]; exact Nat.le_of_ble_eq_true rfl), c, b1, b2, b3, b4, rfl, rfl, hK, fun p H3 hp e3 hw => ?_⟩
  exact kq p _ H3 (ex_none eb hp) (eb.trans e3) hw (RvA.ofBools _)
theorem shaped_dBs5 (b1 b2 b3 b4 : Bool) : SeqAt.shaped (dBs [b1, b2, b3, b4, true]) = true := by cases b1 <;> cases b2 <;> cases b3 <;> cases b4 <;> decide
theorem eqv_dBs5 (b1 b2 b3 b4 : Bool) : PyData.eqv (dBs [b1, b2, b3, b4, true]) (dBs [b1, b2, b3, b4, true]) = true := by cases b1 <;> cases b2 <;> cases b3 <;> cases b4 <;> decide
theorem all_true {α : Type} : ∀ l : List α, (l.map fun _ => true).all id = true
  | [] => rfl
  | _ :: l => all_true l
def SRefd (K : PySem.W.Frag) (C1 C2 C3 C4 CP : Addr) (T : List PyData → Addr → Prop) (ds : List PyData) (y : PyData) : Prop := ∃ (doors : List Int) (things : List PyData) (c : Addr) (b1 b2 b3 b4 : Bool), ds = [dI doors, .list things, dBs [b1, b2, b3, b4, true]] ∧ things.length ≤ 1000 ∧ (∀ n ∈ doors, ∀ x ∈ things, T [.int n, x] c) ∧ Kd K C1 C2 C3 C4 CP c b1 b2 b3 b4 ∧ y = .bool true
theorem sc_law_refused : FnScope ["_law_ask", "_law_doors", "_law_things", "_law_due", "_law_door", "_law_thing"] ["_law_ask", "_law_doors", "_law_things", "_law_due"] (defScope s_law_refused) := ⟨rfl, rfl, rfl, by decide +kernel, rfl, by decide +kernel, by decide +kernel⟩
theorem ok_law_refused (D : Df K mg "_law_refused" s_law_refused) (T : Bn mg) (c_law_told : Cal P w K mg base 7 "_law_told" (SpFL P w K mg base 6 (STold K C_BadSum C_BadNumber C_NotSuch C_TooMany C_PartsError))) : Cal P w K mg base 8 "_law_refused" (SpFR P w K mg base 6 (SRefd K C_BadSum C_BadNumber C_NotSuch C_TooMany C_PartsError)) := by
  refine calFR D sc_law_refused (fun _ _ _ _ _ _ us hl => match us, hl with | [_, _, _, _], _ => rfl) (by decide) (fun T ds y ⟨_, _, _, _, _, _, _, h, _⟩ => by rw [h]; rfl) (fun f cdv A outer s H σ E g T' ds y X hr hg h s0 => ?_)
  obtain ⟨doors, things, c, b1, b2, b3, b4, rfl, hl, hT, hK, rfl⟩ := h
  replace s0 : Sg K E σ H [.o g, .d (dI doors), .d (.list things), .d (dBs [b1, b2, b3, b4, true]), .no, .no] [] := s0
  refine ⟨_, (pss_cons (ps_for PassesOwn.never rfl (pi_listK (K := K) rfl (pv 1)) (pg_name (i := 4) sc_law_refused.nd rfl (Or.inr rfl))
      (pss_one (ps_if (pt_not (pt_val (pe_callB (r := rAll K) (cr_all rfl) (by rfl) T.all_ (by decide +kernel) (pa_cons (pe_lc (own := [("_law_thing", 5)]) (g := (gName 5)) (tt := tYes) rfl sc_law_refused.nd (pi_listK (K := K) rfl (pv 2)) (blkOk_by (own := [("_law_thing", 5)]) (N := ["_law_ask", "_law_doors", "_law_things", "_law_due", "_law_door", "_law_thing"]) (sc := defScope s_law_refused) (by decide +kernel)) (fun _ _ _ _ _ => (pg_name (i := 5) sc_law_refused.nd rfl (by first | exact Or.inl rfl | exact Or.inr rfl))) (fun _ _ _ _ _ => pts_nil) (fun _ _ _ _ _ => (pe_cmpR (r := rEqD K) (op_eqD hr.units) (pe_c c_law_told hr (by first | decide | omega) (by rfl) (pa_cons (pv 0) (pa_cons (pv 4) (pa_cons (pv 5) pa_nil)))) (pv 3) (nomark _)))) pa_nil))))
        (pss_one (ps_ret pe_bl))
        pss_nil)))
    (pss_one (ps_ret pe_bl))), fun Q kq => ?_⟩
  try dsimp only [cxOf, Cx.nox]
  refine q_for doors PyData.int (fun _ (_ : Unit) => True) (fun _ => [.o g, .d (dI doors), .d (.list things), .d (dBs [b1, b2, b3, b4, true]), .no, .no]) (fun _ => []) (fun n _ => [.o g, .d (dI doors), .d (.list things), .d (dBs [b1, b2, b3, b4, true]), .d (.int n), .no]) () (src_list (ev_var rfl)) s0 trivial ?_ ?_ ?_
  · intro i q z hq hz
    exact ⟨_, tg_name (Nat.le_of_ble_eq_true rfl)⟩
  · intro B i n z σ1 H1 hq hz s1
    have hn := List.mem_of_getElem? hq
    refine d_when s1 (b := false) (et_not (a := true) (et_B (ev_is (ev_cb (ea_cons (ev_is (el_lc0 things id (fun _ => .bool true) (fun x => [.o g, .d (dI doors), .d (.list things), .d (dBs [b1, b2, b3, b4, true]), .d (.int n), .d x]) (src_list (ev_is (ev_var rfl) (by rw [List.map_id]))) (by omega) ?_ ?_).ev (?_ : _ = dBs (things.map fun _ => true))) ea_nil) cb_all) (by rw [all_true])))) (fun z => nomatch z) (fun _ H2 e2 s2 => ⟨(), trivial, s2.weak (.same (.same (.same (.same (.no (.same .nil))))))⟩)
    · intro a ha; exact ⟨_, tg_name (Nat.le_of_ble_eq_true rfl), by decide⟩
    · intro x hx
      exact ev_is (ev_op (el_callF (ef_cons (evv_var rfl) (ea_cons (ev_var rfl) (ea_cons (ev_var rfl) ea_nil))) hg (show STold _ _ _ _ _ _ _ _ _ from ⟨.int n, x, c, b1, b2, b3, b4, rfl, hT n hn x hx, hK, rfl⟩)).ev (ev_var rfl) (op2_eqD (shaped_dBs5 _ _ _ _) (shaped_dBs5 _ _ _ _))) (by rw [eqv_dBs5])
    · unfold dBs; rw [List.map_map]; rfl
  · intro z σ1 H1 hz s1
    exact d_ret s1 ev_bl kq
end
end Pw

set_option Elab.async false
set_option linter.all false
set_option maxRecDepth 100000
set_option maxHeartbeats 2000000
set_option autoImplicit false
namespace Pw
open PySem PySem.Spec PyProof.Rows L2
open Evl (Ex)
open Pw in
local macro_rules | `(tactic| walk_at "ev") => `(tactic| first
  | with_reducible exact ev_int
  | with_reducible exact ev_bl
  | with_reducible exact ev_non
  | exact ev_var rfl
  | exact ea_nil
  | with_reducible exact eo_none
  | with_reducible exact et_yes
  | ((refine' ea_cons ?_ ?_) <;> walk_at "ev")
  | ((with_reducible refine' et_test ?_) <;> walk_at "ev")
  | ((with_reducible refine' et_B ?_) <;> walk_at "ev")
  | ((with_reducible refine' et_not ?_) <;> walk_at "ev")
  | ((with_reducible refine' et_and ?_ (fun h_and => ?_)) <;> walk_at "ev")
  | ((with_reducible refine' et_or ?_ (fun h_or => ?_)) <;> walk_at "ev")
  | ((with_reducible refine' ev_andV ?_ (fun h_and => ?_)) <;> walk_at "ev")
  | ((with_reducible refine' ev_orV ?_ (fun h_or => ?_)) <;> walk_at "ev")
  | ((with_reducible refine' ev_notV ?_) <;> walk_at "ev")
  | ((with_reducible refine' ev_ifI ?_ (fun h_if => ?_) (fun h_if => ?_)) <;> walk_at "ev")
  | ((with_reducible refine' ev_un ?_ op1_neg) <;> walk_at "ev")
  | ((with_reducible refine' (el_cat ?_ ?_ ?_).ev) <;> walk_at "ev")
  | ((with_reducible refine' el_cat ?_ ?_ ?_) <;> walk_at "ev")
  | ((with_reducible refine' ev_op ?_ ?_ ?_) <;> walk_at "ev")
  | ((with_reducible refine' ev_tup ?_ ?_) <;> walk_at "ev")
  | ((with_reducible refine' (el_lst ?_ ?_).ev) <;> walk_at "ev")
  | ((with_reducible refine' el_lst ?_ ?_) <;> walk_at "ev")
  | ((with_reducible refine' (el_sl ?_ ?_ ?_).ev) <;> walk_at "ev")
  | ((with_reducible refine' el_sl ?_ ?_ ?_) <;> walk_at "ev")
  | ((with_reducible refine' (el_rev ?_).ev) <;> walk_at "ev")
  | ((with_reducible refine' el_rev ?_) <;> walk_at "ev")
  | ((with_reducible refine' eo_some ?_) <;> walk_at "ev")
  | ((with_reducible refine' (el_list ?_).ev) <;> walk_at "ev")
  | ((with_reducible refine' el_list ?_) <;> walk_at "ev")
  | ((with_reducible refine' ev_call ?_ ?_) <;> walk_at "ev")
  | ((with_reducible refine' (el_call ?_ ?_).ev) <;> walk_at "ev")
  | ((with_reducible refine' el_call ?_ ?_) <;> walk_at "ev")
  | ((with_reducible refine' (el_sortedD ?_).ev) <;> walk_at "ev")
  | ((with_reducible refine' el_sortedD ?_) <;> walk_at "ev")
  | ((with_reducible refine' (el_sortedDR ?_).ev) <;> walk_at "ev")
  | ((with_reducible refine' el_sortedDR ?_) <;> walk_at "ev")
  | ((with_reducible refine' ev_dgetD ?_ ?_ ?_) <;> walk_at "ev")
  | ((with_reducible refine' ev_cb ?_ ?_) <;> walk_at "ev")
  | with_reducible exact op2_I0
  | with_reducible exact op2_B0
  | with_reducible exact op2_eqI
  | with_reducible exact op2_neI
  | with_reducible exact op2_eqB
  | with_reducible exact op2_neB
  | with_reducible exact op2_isB
  | with_reducible exact op2_isNB
  | with_reducible exact op2_inT
  | with_reducible exact op2_inL
  | (with_reducible refine' op2_eqD ?_ ?_)
  | (with_reducible refine' op2_neD ?_ ?_)
  | ((with_reducible refine' op2_I ?_) <;> walk_at "side")
  | (with_reducible refine' op2_ixL ?_)
  | (with_reducible refine' op2_ixT ?_)
  | (show List.length _ ≤ 100000; exact Nat.le_of_ble_eq_true rfl)
  | exact cb_len
  | exact cb_lenT
  | exact cb_minT
  | exact cb_abs
  | exact cb_max2
  | exact cb_min2
  | exact cb_intB
  | exact cb_sum
  | exact cb_any
  | exact cb_all
  | skip)
local macro_rules | `(tactic| walk_at "side") => `(tactic| first
  | exact Nat.le_of_ble_eq_true rfl
  | (with_reducible exact mulok_l (by decide))
  | (with_reducible exact mulok_r (by decide))
  | (show (0 : Int) < _; decide)
  | (show (0 : Int) < _; omega)
  | (show (0 : Int) ≤ _ ∧ _ ∧ _; decide)
  | skip)

section
variable {P : Program} {w : World} {K : PySem.W.Frag} {mg : Str → Option Value} {base : Heap} {C_BadSum C_BadNumber C_NotSuch C_TooMany C_PartsError : Addr}
/-! ### the law of refusals -/
theorem ev_dnew {ρ : List Sl} {O : List (Addr × Ow)} : Ev K ρ O tDNewK (.dict []) := fun H0 σ H s Q q p hp => q (.ref p) _ (Ex.new hp) (.dct (kvs := []) (by rw [fr_none hp]; exact upd_same) rfl)
theorem can1 {a b : Int} (ha : 0 < a) (hb : 0 < b) : Can [(a, b)] := ⟨List.pairwise_singleton _ _, fun p hp => by rw [List.mem_singleton.mp hp]; exact ⟨ha, hb⟩⟩
theorem can_more {a b c d : Int} {r : List (Int × Int)} (h : Can ((c, d) :: r)) (hac : c < a) (hb : 0 < b) : Can ((a, b) :: (c, d) :: r) := by
  have hc := (h.pos (c, d) List.mem_cons_self).1
  refine ⟨List.pairwise_cons.mpr ⟨fun p hp => ?_, h.desc⟩, fun p hp => ?_⟩
  · rcases List.mem_cons.mp hp with rfl | hp
    · exact hac
    · have := (List.pairwise_cons.mp h.desc).1 p hp
      show p.1 < a
      have this : p.1 < c := this
      omega
  · rcases List.mem_cons.mp hp with rfl | hp
    · have hc : 0 < c := hc
      exact ⟨by show 0 < a; omega, hb⟩
    · exact h.pos p hp
theorem bad_dP {ps : List (Int × Int)} (h : ¬ Can ps) (hl : ps.length ≤ 50000) : BadD (dP ps) := by
  refine ⟨?_, fun xs e => ?_⟩
  · rw [isSum_dP]
    cases q : sumB ps with
    | false => rfl
    | true => exact absurd ((sumB_iff ps).mp q) h
  · cases e
    rw [List.length_map]; exact hl
theorem hook_many {n : Int} (h : 1000 < n) : turnM [(n, n)] = [(n, n)] ∧ 1000 < (hkA 0 [(n, n)]).length := by
  refine ⟨?_, ?_⟩
  · show [(0 + n, n - 0)] = [(n, n)]
    rw [Int.zero_add, Int.sub_zero]
  · show 1000 < (hkI 0 (n, n) ++ []).length
    rw [List.append_nil, hkI_len]
    unfold mnyM
    dsimp only
    split <;> split at * <;> omega
theorem spread_one {b : Int} (hb : 2 ≤ b) : spreadM b [(1, 1)] = [(1, 1)] := by
  have h1 : (1 : Int) % b = 1 := Int.emod_eq_of_lt (by decide) (by omega)
  have h2 : (1 : Int) / b = 0 := Int.ediv_eq_zero_of_lt (by decide) (by omega)
  have e : digsM b (1, 1) = [(1, 1)] := by
    show (if 0 < (1 : Int) then ((1 : Int), (1 : Int) % b) :: digs 1 b (1 * b) ((1 : Int) / b) else []) = _
    rw [if_pos (by decide), h1, h2]
    rfl
  unfold spreadM spreadD
  rw [List.flatMap_cons, List.flatMap_nil, e]
  decide
def rgN (n : Nat) : Nat := (Builtin.Range.rangeSize 0 (n : Int) (1 + (n : Int) / 6)).toNat
def rgB (n : Nat) : Bool := Builtin.Range.small 0 (n : Int) (1 + (n : Int) / 6) && (decide (Builtin.Range.rangeSize 0 (n : Int) (1 + (n : Int) / 6) = (rgN n : Int)) && (decide (rgN n ≤ 64) && (List.range (rgN n)).all fun i => decide (i * (1 + n / 6) < n)))
theorem rg_all : ∀ n : Nat, n < 64 → rgB n = true := by decide +kernel
theorem rg_ok {n : Nat} (h : n < 64) : RgC 0 (n : Int) (1 + (n : Int) / 6) (rgN n) ∧ rgN n ≤ 64 ∧ ∀ i, i < rgN n → i * (1 + n / 6) < n := by
  have := rg_all n h
  unfold rgB at this
  rw [Bool.and_eq_true, Bool.and_eq_true, Bool.and_eq_true] at this
  obtain ⟨h1, h2, h3, h4⟩ := this
  exact ⟨⟨by omega, by omega, h1, of_decide_eq_true h2⟩, of_decide_eq_true h3, fun i hi => of_decide_eq_true (List.all_eq_true.mp h4 i (List.mem_range.mpr hi))⟩
abbrev strL : List PyData := ([.none, .tuple [.int 1, .int 0], .list [.int 1, .int 1], .tuple [.int 0, .int 1], .tuple [.int 1, .bool false], .tuple [.str (Str.ofString "1"), .int 1], .tuple [.int 1, .int 1, .int 1]] : List PyData)
theorem str_bad : ∀ x ∈ strL, isPairD x = false := by
  repeat' first | exact List.forall_mem_nil _ | refine List.forall_mem_cons.mpr ⟨?_, ?_⟩
  all_goals rfl
theorem str_at (m : Nat) : ∃ x, L2.atI strL ((m : Int) % 7) = some x ∧ x ∈ strL := by
  have h : m % 7 < strL.length := Nat.mod_lt _ (by decide)
  refine ⟨strL[m % 7], ?_, List.getElem_mem h⟩
  have e : (m : Int) % 7 = ((m % 7 : Nat) : Int) := by omega
  rw [e]
  exact atI_nat (List.getElem?_eq_getElem h)
theorem bad_mid {a b : List PyData} {x : PyData} (h : isPairD x = false) (hl : (a ++ [x] ++ b).length ≤ 50000) : BadD (.list (a ++ [x] ++ b)) := by
  refine ⟨?_, fun xs e => by cases e; exact hl⟩
  have ha : (a ++ [x] ++ b).all isPairD = false := by
    rw [List.all_append, List.all_append]
    show ((a.all isPairD && (isPairD x && true)) && _) = false
    rw [h]
    simp
  show ((a ++ [x] ++ b).all isPairD && _) = false
  rw [ha]; rfl
def dueR (k : Nat) : PyData := dBs [decide ((k : Int) = 0), decide ((k : Int) = 1), decide ((k : Int) = 2), decide ((k : Int) = 3), true]
local macro_rules | `(tactic| walk_at "wk") => `(tactic| repeat' first | exact Wk.nil | refine' Wk.same ?_ | refine' Wk.no ?_)
local macro_rules | `(tactic| walk_at "bad") => `(tactic| exact ⟨rfl, fun xs e => by cases e <;> exact Nat.le_of_ble_eq_true rfl⟩)
local macro_rules | `(tactic| walk_at "all") => `(tactic| repeat' first | exact List.forall_mem_nil _ | refine List.forall_mem_cons.mpr ⟨?_, ?_⟩)
def SMany (ds : List PyData) (y : PyData) : Prop := ∃ far : Int, ds = [.int far, dueR 3] ∧ 0 ≤ far ∧ y = .bool true
theorem sc_law_many_right : FnScope ["_law_far", "_law_due", "_law_many"] ["_law_far", "_law_due"] (defScope s_law_many_right) := ⟨rfl, rfl, rfl, by decide +kernel, rfl, by decide +kernel, by decide +kernel⟩
theorem ok_law_many_right (D : Df K mg "_law_many_right" s_law_many_right) (T : Bn mg) (k4 : Kd K C_BadSum C_BadNumber C_NotSuch C_TooMany C_PartsError C_TooMany false false false true) (cx_law_others : CalX P w K mg base 6 "_law_others" (SpE K (SOth C_BadSum C_NotSuch C_TooMany))) (c_law_refused : Cal P w K mg base 8 "_law_refused" (SpFR P w K mg base 6 (SRefd K C_BadSum C_BadNumber C_NotSuch C_TooMany C_PartsError))) (c_hooks : Cal P w K mg base 5 "hooks" (SpL K SHook)) : Cal P w K mg base 9 "_law_many_right" (SpR K SMany) := by
  obtain ⟨C_law_others, fdo, pso, Fo, G_law_others, ko, bo⟩ := cx_law_others.ex
  have hO : HeldE P w K mg base 6 C_law_others (SOth C_BadSum C_NotSuch C_TooMany) := ⟨fdo, pso, Fo, ko, bo⟩
  refine calR D sc_law_many_right (fun _ _ _ _ _ _ us hl => match us, hl with | [_, _], _ => rfl) (by decide) (fun ds y ⟨_, h, _⟩ => by rw [h]; rfl) (fun f cdv A outer s H σ E ds y X hr h s0 => ?_)
  obtain ⟨far, rfl, hfar, rfl⟩ := h
  replace s0 : Sg K E σ H [.d (.int far), .d (dueR 3), .no] [] := s0
  refine ⟨_, (pss_cons (ps_set (i := 2) sc_law_many_right.nd rfl (Or.inl rfl) (pe_lst (pa_cons (pe_lst (pa_cons (pe_tup (pa_cons pe_int (pa_cons pe_int pa_nil))) (pa_cons (pe_tup (pa_cons pe_int (pa_cons pe_int pa_nil))) (pa_cons (pe_tup (pa_cons pe_int (pa_cons pe_int pa_nil))) pa_nil)))) (pa_cons (pe_lst (pa_cons (pe_tup (pa_cons pe_int (pa_cons pe_int pa_nil))) (pa_cons (pe_tup (pa_cons pe_int (pa_cons pe_int pa_nil))) (pa_cons (pe_tup (pa_cons pe_int (pa_cons pe_int pa_nil))) pa_nil)))) (pa_cons (pe_lst (pa_cons (pe_tup (pa_cons pe_int (pa_cons pe_int pa_nil))) pa_nil)) pa_nil)))))
    (pss_cons (ps_if (pt_not (pt_val (pe_c c_law_refused hr (by first | decide | omega) (by rfl) (pa_cons (pe_glob (v := .ref C_law_others) (by rfl) G_law_others rfl) (pa_cons (pe_lst (pa_cons pe_int pa_nil)) (pa_cons (pe_op (r := rCatS K) op_catS (pv 2) (pe_lst (pa_cons (pe_lst (pa_cons (pe_tup (pa_cons (pe_op op_add pe_int (pv 0)) (pa_cons (pe_op op_add pe_int (pv 0)) pa_nil))) pa_nil)) pa_nil))) (pa_cons (pv 1) pa_nil)))))))
      (pss_one (ps_ret pe_bl))
      pss_nil)
    (pss_one (ps_ret (pe_and (pe_cmpR op_eq (pe_callB (r := Evl.rLenS K) cp_len (by rfl) T.len_ (by decide +kernel) (pa_cons (pe_c c_hooks hr (by first | decide | omega) (by rfl) (pa_cons (pe_lst (pa_cons (pe_tup (pa_cons pe_int (pa_cons pe_int pa_nil))) pa_nil)) pa_nil)) pa_nil)) pe_int (nomark _)) (pe_one (pe_cmpR op_eq (pe_callB (r := Evl.rLenS K) cp_len (by rfl) T.len_ (by decide +kernel) (pa_cons (pe_c c_hooks hr (by first | decide | omega) (by rfl) (pa_cons (pe_lst (pa_cons (pe_tup (pa_cons pe_int (pa_cons pe_int pa_nil))) (pa_cons (pe_tup (pa_cons pe_int (pa_cons pe_int pa_nil))) (pa_cons (pe_tup (pa_cons pe_int (pa_cons pe_int pa_nil))) pa_nil)))) pa_nil)) pa_nil)) pe_int (nomark _)))))))), fun Q kq => ?_⟩
  try dsimp only [cxOf, Cx.nox]
  refine q_asg s0 (x := .list ([.list [.tuple [.int 2000, .int 600], .tuple [.int 1400, .int 800], .tuple [.int 600, .int 600]], .list [.tuple [.int 1401, .int 600], .tuple [.int 1001, .int 401], .tuple [.int 600, .int 400]], .list [.tuple [.int 1001, .int 1001]]] : List PyData)) (el_lst (ea_cons (el_lst (ea_cons (ev_tup (ea_cons ev_int (ea_cons ev_int ea_nil))) (ea_cons (ev_tup (ea_cons ev_int (ea_cons ev_int ea_nil))) (ea_cons (ev_tup (ea_cons ev_int (ea_cons ev_int ea_nil))) ea_nil))) (Nat.le_of_ble_eq_true rfl)).ev (ea_cons (el_lst (ea_cons (ev_tup (ea_cons ev_int (ea_cons ev_int ea_nil))) (ea_cons (ev_tup (ea_cons ev_int (ea_cons ev_int ea_nil))) (ea_cons (ev_tup (ea_cons ev_int (ea_cons ev_int ea_nil))) ea_nil))) (Nat.le_of_ble_eq_true rfl)).ev (ea_cons (el_lst (ea_cons (ev_tup (ea_cons ev_int (ea_cons ev_int ea_nil))) ea_nil) (Nat.le_of_ble_eq_true rfl)).ev ea_nil))) (Nat.le_of_ble_eq_true rfl)).ev (fun σ1 H1 e1 s1 => ?_)
  have hx : ∀ x ∈ ([.list [.tuple [.int 2000, .int 600], .tuple [.int 1400, .int 800], .tuple [.int 600, .int 600]], .list [.tuple [.int 1401, .int 600], .tuple [.int 1001, .int 401], .tuple [.int 600, .int 400]], .list [.tuple [.int 1001, .int 1001]]] : List PyData) ++ ([dP [(1001 + far, 1001 + far)]] : List PyData), SHokM C_TooMany [x] C_TooMany := by
    show ∀ x ∈ ([dP [(2000, 600), (1400, 800), (600, 600)], dP [(1401, 600), (1001, 401), (600, 400)], dP [(1001, 1001)], dP [(1001 + far, 1001 + far)]] : List PyData), SHokM C_TooMany [x] C_TooMany
    walk_at "all"
    · exact ⟨_, rfl, Nat.le_of_ble_eq_true rfl, by decide, by decide, by decide +kernel, rfl⟩
    · exact ⟨_, rfl, Nat.le_of_ble_eq_true rfl, by decide, by decide, by decide +kernel, rfl⟩
    · exact ⟨_, rfl, Nat.le_of_ble_eq_true rfl, by decide, by decide, by decide +kernel, rfl⟩
    · obtain ⟨h1, h2⟩ := hook_many (n := 1001 + far) (by omega)
      exact ⟨_, rfl, Nat.le_of_ble_eq_true rfl, (sumB_iff _).mpr (can1 (by omega) (by omega)), h1, h2, rfl⟩
  refine q_when s1 (b := false) (et_not (a := true) (et_B (ev_callF (ef_cons evv_glob (ea_cons (el_lst (ea_cons ev_int ea_nil) (Nat.le_of_ble_eq_true rfl)).ev (ea_cons (el_cat (ev_var rfl) (el_lst (ea_cons (el_lst (ea_cons (ev_tup (ea_cons (ev_op ev_int (ev_var rfl) op2_I0) (ea_cons (ev_op ev_int (ev_var rfl) op2_I0) ea_nil))) ea_nil) (Nat.le_of_ble_eq_true rfl)).ev ea_nil) (Nat.le_of_ble_eq_true rfl)).ev (Nat.le_of_ble_eq_true rfl)).ev (ea_cons (ev_var rfl) ea_nil)))) hO (show SRefd K C_BadSum C_BadNumber C_NotSuch C_TooMany C_PartsError _ _ _ from ⟨[2], _, C_TooMany, false, false, false, true, rfl, Nat.le_of_ble_eq_true rfl, fun n hn x hm => ⟨n, x, rfl, fun z => absurd (List.mem_singleton.mp hn) (by omega), fun z => absurd (List.mem_singleton.mp hn) (by omega), fun _ _ => .inr (.inr (hx x hm))⟩, k4, rfl⟩)))) (fun z => nomatch z) (fun _ H2 e2 s2 => ?_)
  have h1 : SHook [dP [(1000, 1000)]] ((hkA 0 [(1000, 1000)]).map pr) := ⟨[(1000, 1000)], rfl, Nat.le_of_ble_eq_true rfl, by decide, by decide, by decide +kernel, rfl⟩
  have h2 : SHook [dP [(1400, 600), (1000, 400), (600, 400)]] ((hkA 0 [(1400, 600), (1000, 400), (600, 400)]).map pr) := ⟨[(1400, 600), (1000, 400), (600, 400)], rfl, Nat.le_of_ble_eq_true rfl, by decide, by decide, by decide +kernel, rfl⟩
  have l1 : (hkA 0 [(1000, 1000)]).length = 1000 := by decide +kernel
  have l2 : (hkA 0 [(1400, 600), (1000, 400), (600, 400)]).length = 1000 := by decide +kernel
  generalize hkA 0 [(1000, 1000)] = g1 at h1 l1
  generalize hkA 0 [(1400, 600), (1000, 400), (600, 400)] = g2 at h2 l2
  exact d_ret s2 (ev_andV (a := true) (b := true) (ev_is (ev_op (ev_cb (ea_cons (el_call (ea_cons (el_lst (ea_cons (ev_tup (ea_cons ev_int (ea_cons ev_int ea_nil))) ea_nil) (Nat.le_of_ble_eq_true rfl)).ev ea_nil) h1).ev ea_nil) cb_len) ev_int op2_eqI) (by rw [List.length_map, l1]; rfl)) (fun _ => ev_is (ev_op (ev_cb (ea_cons (el_call (ea_cons (el_lst (ea_cons (ev_tup (ea_cons ev_int (ea_cons ev_int ea_nil))) (ea_cons (ev_tup (ea_cons ev_int (ea_cons ev_int ea_nil))) (ea_cons (ev_tup (ea_cons ev_int (ea_cons ev_int ea_nil))) ea_nil))) (Nat.le_of_ble_eq_true rfl)).ev ea_nil) h2).ev ea_nil) cb_len) ev_int op2_eqI) (by rw [List.length_map, l2]; rfl))) kq
theorem sc_law : FnScope ["_law_script", "_law_far", "_law_due", "_law_k", "_law_parts", "_law_kept", "_law_bad", "_law_at", "_law_strange", "_law_some", "_law_alike"] ["_law_script"] (defScope s_law) := ⟨rfl, rfl, rfl, by decide +kernel, rfl, by decide +kernel, by decide +kernel⟩
set_option maxHeartbeats 4000000 in
theorem ok_law_k05 {f : Addr} {fd : FuncData} (F : Fun K "law" "law" s_law f fd) (T : Bn mg) (k1 : Kd K C_BadSum C_BadNumber C_NotSuch C_TooMany C_PartsError C_BadSum true false false false) (k2 : Kd K C_BadSum C_BadNumber C_NotSuch C_TooMany C_PartsError C_BadNumber false true false false) (k3 : Kd K C_BadSum C_BadNumber C_NotSuch C_TooMany C_PartsError C_NotSuch false false true false) (k4 : Kd K C_BadSum C_BadNumber C_NotSuch C_TooMany C_PartsError C_TooMany false false false true) (c_law_cell_at : Cal P w K mg base 1 "_law_cell_at" (SpR K SCell)) (c_law_sum : Cal P w K mg base 3 "_law_sum" (SpL K SSum))
    (cx_law_with_sum : CalX P w K mg base 6 "_law_with_sum" (SpE K (SWith C_BadSum))) (cx_law_with_number : CalX P w K mg base 6 "_law_with_number" (SpE K (SWNum C_BadNumber))) (cx_law_led : CalX P w K mg base 6 "_law_led" (SpE K (SLed C_NotSuch))) (cx_law_others : CalX P w K mg base 6 "_law_others" (SpE K (SOth C_BadSum C_NotSuch C_TooMany)))
    (c_law_refused : Cal P w K mg base 8 "_law_refused" (SpFR P w K mg base 6 (SRefd K C_BadSum C_BadNumber C_NotSuch C_TooMany C_PartsError))) (c_law_many_right : Cal P w K mg base 9 "_law_many_right" (SpR K SMany)) (c_spread : Cal P w K mg base 5 "spread" (SpL K SSpread)) : FnOk P w K mg base CX0 22 f fd ["_law_script"] (SpR K SLaw) := by
  obtain ⟨C_law_with_sum, fd1, ps1, F1, G_law_with_sum, h1k, h1b⟩ := cx_law_with_sum.ex
  obtain ⟨C_law_with_number, fd2, ps2, F2, G_law_with_number, h2k, h2b⟩ := cx_law_with_number.ex
  obtain ⟨C_law_led, fd3, ps3, F3, G_law_led, h3k, h3b⟩ := cx_law_led.ex
  obtain ⟨C_law_others, fd4, ps4, F4, G_law_others, h4k, h4b⟩ := cx_law_others.ex
  have hW : HeldE P w K mg base 6 C_law_with_sum (SWith C_BadSum) := ⟨fd1, ps1, F1, h1k, h1b⟩
  have hN : HeldE P w K mg base 6 C_law_with_number (SWNum C_BadNumber) := ⟨fd2, ps2, F2, h2k, h2b⟩
  have hL : HeldE P w K mg base 6 C_law_led (SLed C_NotSuch) := ⟨fd3, ps3, F3, h3k, h3b⟩
  have hO : HeldE P w K mg base 6 C_law_others (SOth C_BadSum C_NotSuch C_TooMany) := ⟨fd4, ps4, F4, h4k, h4b⟩
  clear F1 F2 F3 F4
  refine okR F sc_law (by decide) (fun ds y ⟨_, h, _⟩ => by rw [h]; rfl) (fun cdv A outer s H σ E ds y X hr h s0 => ?_)
  obtain ⟨sc, rfl, hfit, rfl⟩ := h
  -- 0 _law_script, 1 _law_far, 2 _law_due, 3 _law_k, 4 _law_parts, 5 _law_kept, 6 _law_bad, 7 _law_at, 8 _law_strange, 9 _law_some, 10 _law_alike
  obtain ⟨hc, hl, hsz⟩ := sum_facts sc
  have pS : SSum [dI sc] ((sumM sc).map pr) := ⟨sc, rfl, hfit, rfl⟩
  generalize sumM sc = ps at hc hl hsz pS
  replace s0 : Sg K E σ H [.d (dI sc), .no, .no, .no, .no, .no, .no, .no, .no, .no, .no] [] := s0
  refine ⟨_, (pss_cons (ps_set (i := 1) sc_law.nd rfl (Or.inl rfl) (pe_op op_mod (pe_c c_law_cell_at hr (by first | decide | omega) (by rfl) (pa_cons (pv 0) (pa_cons pe_int pa_nil))) (pe_op op_pow pe_int pe_int)))
    (pss_cons (ps_set (i := 2) sc_law.nd rfl (Or.inl rfl) (pe_lst pa_nil))
    (pss_cons (ps_for PassesOwn.never rfl (pi_range1 (by rfl) T.range_ (pa_cons pe_int pa_nil)) (pg_name (i := 3) sc_law.nd rfl (Or.inl rfl))
      (pss_one (ps_expr (pe_bm PySem.F.plainAttrs_list PySem.F.slot_list_append PySem.F.type_list_append mt_append (pv 2) (pa_cons (pe_lst (pa_cons (pe_cmpR op_eq (pv 3) pe_int (nomark _)) (pa_cons (pe_cmpR op_eq (pv 3) pe_int (nomark _)) (pa_cons (pe_cmpR op_eq (pv 3) pe_int (nomark _)) (pa_cons (pe_cmpR op_eq (pv 3) pe_int (nomark _)) (pa_cons pe_bl pa_nil)))))) pa_nil)))))
    (pss_cons (ps_set (i := 4) sc_law.nd rfl (Or.inl rfl) (pe_c c_law_sum hr (by first | decide | omega) (by rfl) (pa_cons (pv 0) pa_nil)))
    (pss_cons (ps_set (i := 5) sc_law.nd rfl (Or.inl rfl) (pe_callTy (r := Evl.rListS K) cp_list (by rfl) T.list_ (by decide +kernel) (pa_cons (pv 4) pa_nil)))
    (pss_cons (ps_set (i := 6) sc_law.nd rfl (Or.inl rfl) (pe_lst (pa_cons pe_non (pa_cons (pe_tup pa_nil) (pa_cons (pe_tup (pa_cons (pe_tup (pa_cons pe_int (pa_cons pe_int pa_nil))) pa_nil)) (pa_cons pe_str (pa_cons pe_dnewK (pa_cons pe_int (pa_cons (pe_lst (pa_cons pe_non pa_nil)) (pa_cons (pe_lst (pa_cons pe_int pa_nil)) (pa_cons (pe_lst (pa_cons (pe_tup (pa_cons pe_int pa_nil)) pa_nil)) (pa_cons (pe_lst (pa_cons (pe_tup (pa_cons pe_int (pa_cons pe_int (pa_cons pe_int pa_nil)))) pa_nil)) (pa_cons (pe_lst (pa_cons (pe_lst (pa_cons pe_int (pa_cons pe_int pa_nil))) pa_nil)) (pa_cons (pe_lst (pa_cons (pe_tup (pa_cons pe_int (pa_cons pe_int pa_nil))) pa_nil)) (pa_cons (pe_lst (pa_cons (pe_tup (pa_cons pe_int (pa_cons pe_int pa_nil))) pa_nil)) pa_nil)))))))))))))))
    (pss_cons (ps_expr (pe_bm PySem.F.plainAttrs_list PySem.F.slot_list_append PySem.F.type_list_append mt_append (pv 6) (pa_cons (pe_lst (pa_cons (pe_tup (pa_cons (pe_op op_sub (pe_un un_neg pe_int) (pv 1)) (pa_cons pe_int pa_nil))) pa_nil)) pa_nil)))
    (pss_cons (ps_set (i := 6) sc_law.nd rfl (Or.inl rfl) (pe_op (r := rCatS K) op_catS (pv 6) (pe_lst (pa_cons (pe_lst (pa_cons (pe_tup (pa_cons pe_int (pa_cons (pe_op op_sub (pe_un un_neg pe_int) (pv 1)) pa_nil))) pa_nil)) (pa_cons (pe_lst (pa_cons (pe_tup (pa_cons pe_bl (pa_cons pe_int pa_nil))) pa_nil)) (pa_cons (pe_lst (pa_cons (pe_tup (pa_cons pe_int (pa_cons pe_bl pa_nil))) pa_nil)) (pa_cons (pe_lst (pa_cons (pe_tup (pa_cons pe_str (pa_cons pe_int pa_nil))) pa_nil)) (pa_cons (pe_lst (pa_cons (pe_tup (pa_cons pe_int (pa_cons pe_non pa_nil))) pa_nil)) (pa_cons (pe_lst (pa_cons (pe_tup (pa_cons pe_int (pa_cons pe_int pa_nil))) (pa_cons (pe_tup (pa_cons pe_int (pa_cons pe_int pa_nil))) pa_nil))) (pa_cons (pe_lst (pa_cons (pe_tup (pa_cons pe_int (pa_cons pe_int pa_nil))) (pa_cons (pe_tup (pa_cons pe_int (pa_cons pe_int pa_nil))) pa_nil))) pa_nil))))))))))
    (pss_cons (ps_for PassesOwn.never rfl (pi_range3 (by rfl) T.range_ (pa_cons pe_int (pa_cons (pe_callB (r := Evl.rLenS K) cp_len (by rfl) T.len_ (by decide +kernel) (pa_cons (pv 4) pa_nil)) (pa_cons (pe_op op_add pe_int (pe_op op_fdivW (pe_callB (r := Evl.rLenS K) cp_len (by rfl) T.len_ (by decide +kernel) (pa_cons (pv 4) pa_nil)) pe_int)) pa_nil)))) (pg_name (i := 7) sc_law.nd rfl (Or.inl rfl))
      (pss_cons (ps_set (i := 8) sc_law.nd rfl (Or.inl rfl) (pe_ix (r := rIxT K) ix_tup (pe_tup (pa_cons pe_non (pa_cons (pe_tup (pa_cons pe_int (pa_cons pe_int pa_nil))) (pa_cons (pe_lst (pa_cons pe_int (pa_cons pe_int pa_nil))) (pa_cons (pe_tup (pa_cons pe_int (pa_cons pe_int pa_nil))) (pa_cons (pe_tup (pa_cons pe_int (pa_cons pe_bl pa_nil))) (pa_cons (pe_tup (pa_cons pe_str (pa_cons pe_int pa_nil))) (pa_cons (pe_tup (pa_cons pe_int (pa_cons pe_int (pa_cons pe_int pa_nil)))) pa_nil)))))))) (pe_op op_mod (pv 7) pe_int) (fun _ _ => rfl)))
      (pss_one (ps_expr (pe_bm PySem.F.plainAttrs_list PySem.F.slot_list_append PySem.F.type_list_append mt_append (pv 6) (pa_cons (pe_op (r := rCatS K) op_catS (pe_op (r := rCatS K) op_catS (pe_slice (r := rSlL K) sl_list (pv 4) po_none (po_some (pv 7))) (pe_lst (pa_cons (pv 8) pa_nil))) (pe_slice (r := rSlL K) sl_list (pv 4) (po_some (pe_op op_add (pv 7) pe_int)) po_none)) pa_nil))))))
    (pss_cons (ps_if (pt_not (pt_val (pe_c c_law_refused hr (by first | decide | omega) (by rfl) (pa_cons (pe_glob (v := .ref C_law_with_sum) (by rfl) G_law_with_sum rfl) (pa_cons (pe_listRg1 rfl (by rfl) T.list_ (by rfl) T.range_ (pa_cons pe_int pa_nil)) (pa_cons (pv 6) (pa_cons (pe_ix (r := rIxL K) ix_list (pv 2) pe_int (fun _ _ => rfl)) pa_nil)))))))
      (pss_one (ps_ret pe_bl))
      pss_nil)
    (pss_cons (ps_set (i := 8) sc_law.nd rfl (Or.inl rfl) (pe_lst (pa_cons pe_non (pa_cons pe_str (pa_cons pe_bl (pa_cons pe_bl (pa_cons (pe_lst (pa_cons pe_int pa_nil)) (pa_cons (pe_tup (pa_cons pe_int pa_nil)) (pa_cons pe_dnewK (pa_cons pe_int (pa_cons pe_int (pa_cons (pe_un un_neg pe_int) (pa_cons (pe_op op_sub (pe_un un_neg pe_int) (pv 1)) pa_nil)))))))))))))
    (pss_cons (ps_if (pt_not (pt_val (pe_c c_law_refused hr (by first | decide | omega) (by rfl) (pa_cons (pe_glob (v := .ref C_law_with_number) (by rfl) G_law_with_number rfl) (pa_cons (pe_lst (pa_cons pe_int (pa_cons pe_int pa_nil))) (pa_cons (pv 8) (pa_cons (pe_ix (r := rIxL K) ix_list (pv 2) pe_int (fun _ _ => rfl)) pa_nil)))))))
      (pss_one (ps_ret pe_bl))
      pss_nil)
    (pss_cons (ps_set (i := 9) sc_law.nd rfl (Or.inl rfl) (pe_lst (pa_cons (pe_tup (pa_cons (pe_lst (pa_cons (pe_tup (pa_cons pe_int (pa_cons pe_int pa_nil))) pa_nil)) (pa_cons pe_int pa_nil))) (pa_cons (pe_tup (pa_cons (pe_lst (pa_cons (pe_tup (pa_cons pe_int (pa_cons pe_int pa_nil))) (pa_cons (pe_tup (pa_cons pe_int (pa_cons pe_int pa_nil))) (pa_cons (pe_tup (pa_cons pe_int (pa_cons pe_int pa_nil))) pa_nil)))) (pa_cons pe_int pa_nil))) (pa_cons (pe_tup (pa_cons (pe_lst (pa_cons (pe_tup (pa_cons (pe_op op_add pe_int (pv 1)) (pa_cons pe_int pa_nil))) (pa_cons (pe_tup (pa_cons pe_int (pa_cons pe_int pa_nil))) pa_nil))) (pa_cons (pe_op op_add pe_int (pv 1)) pa_nil))) (pa_cons (pe_tup (pa_cons (pe_lst (pa_cons (pe_tup (pa_cons (pe_op op_add pe_int (pe_op op_mulA pe_int (pv 1))) (pa_cons pe_int pa_nil))) pa_nil)) (pa_cons pe_int pa_nil))) pa_nil))))))
    (pss_cons (ps_if (pt_not (pt_val (pe_c c_law_refused hr (by first | decide | omega) (by rfl) (pa_cons (pe_glob (v := .ref C_law_led) (by rfl) G_law_led rfl) (pa_cons (pe_lst (pa_cons pe_int pa_nil)) (pa_cons (pv 9) (pa_cons (pe_ix (r := rIxL K) ix_list (pv 2) pe_int (fun _ _ => rfl)) pa_nil)))))))
      (pss_one (ps_ret pe_bl))
      pss_nil)
    (pss_cons (ps_set (i := 9) sc_law.nd rfl (Or.inl rfl) (pe_lst (pa_cons (pe_tup (pa_cons (pe_lst (pa_cons (pe_tup (pa_cons pe_int (pa_cons pe_int pa_nil))) pa_nil)) (pa_cons pe_int pa_nil))) (pa_cons (pe_tup (pa_cons (pe_lst (pa_cons (pe_tup (pa_cons pe_int (pa_cons pe_int pa_nil))) (pa_cons (pe_tup (pa_cons pe_int (pa_cons pe_int pa_nil))) pa_nil))) (pa_cons pe_int pa_nil))) (pa_cons (pe_tup (pa_cons (pe_lst (pa_cons (pe_tup (pa_cons pe_int (pa_cons (pe_op op_add pe_int (pv 1)) pa_nil))) pa_nil)) (pa_cons (pe_op op_add pe_int (pv 1)) pa_nil))) (pa_cons (pe_tup (pa_cons (pe_lst (pa_cons (pe_tup (pa_cons pe_int (pa_cons pe_int pa_nil))) (pa_cons (pe_tup (pa_cons pe_int (pa_cons (pe_op op_add pe_int (pv 1)) pa_nil))) pa_nil))) (pa_cons pe_int pa_nil))) pa_nil))))))
    (pss_cons (ps_if (pt_not (pt_val (pe_c c_law_refused hr (by first | decide | omega) (by rfl) (pa_cons (pe_glob (v := .ref C_law_led) (by rfl) G_law_led rfl) (pa_cons (pe_lst (pa_cons pe_int pa_nil)) (pa_cons (pv 9) (pa_cons (pe_ix (r := rIxL K) ix_list (pv 2) pe_int (fun _ _ => rfl)) pa_nil)))))))
      (pss_one (ps_ret pe_bl))
      pss_nil)
    (pss_cons (ps_set (i := 10) sc_law.nd rfl (Or.inl rfl) (pe_lst (pa_cons (pe_lst (pa_cons (pe_tup (pa_cons pe_int (pa_cons pe_int pa_nil))) pa_nil)) (pa_cons (pe_lst (pa_cons (pe_tup (pa_cons pe_int (pa_cons pe_int pa_nil))) (pa_cons (pe_tup (pa_cons pe_int (pa_cons pe_int pa_nil))) (pa_cons (pe_tup (pa_cons pe_int (pa_cons (pe_op op_add pe_int (pv 1)) pa_nil))) pa_nil)))) (pa_cons (pe_lst (pa_cons (pe_tup (pa_cons pe_int (pa_cons pe_int pa_nil))) (pa_cons (pe_tup (pa_cons pe_int (pa_cons pe_int pa_nil))) pa_nil))) pa_nil)))))
    (pss_cons (ps_if (pt_not (pt_val (pe_c c_law_refused hr (by first | decide | omega) (by rfl) (pa_cons (pe_glob (v := .ref C_law_others) (by rfl) G_law_others rfl) (pa_cons (pe_lst (pa_cons pe_int (pa_cons pe_int pa_nil))) (pa_cons (pv 10) (pa_cons (pe_ix (r := rIxL K) ix_list (pv 2) pe_int (fun _ _ => rfl)) pa_nil)))))))
      (pss_one (ps_ret pe_bl))
      pss_nil)
    (pss_cons (ps_set (i := 9) sc_law.nd rfl (Or.inl rfl) (pe_lst (pa_cons (pe_lst (pa_cons (pe_tup (pa_cons pe_int (pa_cons pe_int pa_nil))) pa_nil)) (pa_cons (pe_lst (pa_cons (pe_tup (pa_cons (pe_op op_add pe_int (pe_op op_mulA pe_int (pv 1))) (pa_cons pe_int pa_nil))) (pa_cons (pe_tup (pa_cons pe_int (pa_cons pe_int pa_nil))) pa_nil))) (pa_cons (pe_lst (pa_cons (pe_tup (pa_cons pe_int (pa_cons pe_int pa_nil))) pa_nil)) (pa_cons (pe_lst (pa_cons (pe_tup (pa_cons pe_int (pa_cons pe_int pa_nil))) (pa_cons (pe_tup (pa_cons pe_int (pa_cons pe_int pa_nil))) pa_nil))) pa_nil))))))
    (pss_cons (ps_if (pt_not (pt_val (pe_c c_law_refused hr (by first | decide | omega) (by rfl) (pa_cons (pe_glob (v := .ref C_law_others) (by rfl) G_law_others rfl) (pa_cons (pe_lst (pa_cons pe_int pa_nil)) (pa_cons (pv 9) (pa_cons (pe_ix (r := rIxL K) ix_list (pv 2) pe_int (fun _ _ => rfl)) pa_nil)))))))
      (pss_one (ps_ret pe_bl))
      pss_nil)
    (pss_cons (ps_if (pt_not (pt_val (pe_c c_law_refused hr (by first | decide | omega) (by rfl) (pa_cons (pe_glob (v := .ref C_law_others) (by rfl) G_law_others rfl) (pa_cons (pe_lst (pa_cons pe_int pa_nil)) (pa_cons (pe_lst (pa_cons (pe_lst (pa_cons (pe_tup (pa_cons pe_int (pa_cons pe_int pa_nil))) pa_nil)) (pa_cons (pe_lst (pa_cons (pe_tup (pa_cons pe_int (pa_cons pe_int pa_nil))) (pa_cons (pe_tup (pa_cons pe_int (pa_cons pe_int pa_nil))) pa_nil))) (pa_cons (pe_lst (pa_cons (pe_tup (pa_cons pe_int (pa_cons pe_int pa_nil))) pa_nil)) (pa_cons (pe_lst (pa_cons (pe_tup (pa_cons (pe_op op_add pe_int (pv 1)) (pa_cons pe_int pa_nil))) pa_nil)) pa_nil))))) (pa_cons (pe_ix (r := rIxL K) ix_list (pv 2) pe_int (fun _ _ => rfl)) pa_nil)))))))
      (pss_one (ps_ret pe_bl))
      pss_nil)
    (pss_one (ps_ret (pe_and (pe_c c_law_many_right hr (by first | decide | omega) (by rfl) (pa_cons (pv 1) (pa_cons (pe_ix (r := rIxL K) ix_list (pv 2) pe_int (fun _ _ => rfl)) pa_nil))) (pe_and (pe_cmpR (r := rEqD K) (op_eqD hr.units) (pv 4) (pv 5) (nomark _)) (pe_one (pe_cmpR (r := rEqD K) (op_eqD hr.units) (pe_c c_spread hr (by first | decide | omega) (by rfl) (pa_cons (pe_lst (pa_cons (pe_tup (pa_cons pe_int (pa_cons pe_int pa_nil))) pa_nil)) (pa_cons (pe_op op_add pe_int (pv 1)) pa_nil))) (pe_lst (pa_cons (pe_tup (pa_cons pe_int (pa_cons pe_int pa_nil))) pa_nil)) (nomark _)))))))))))))))))))))))))))), fun Q kq => ?_⟩
  try dsimp only [cxOf, Cx.nox]
  have c20 : CPow 10 20 := by show (0 : Int) ≤ _ ∧ _ ∧ _; decide
  have p20 : (0 : Int) < 10 ^ Int.toNat 20 := by decide
  have hfar0 := Int.emod_nonneg (cellM sc 0) (show (10 : Int) ^ Int.toNat 20 ≠ 0 by decide)
  have hfar1 := Int.emod_lt_of_pos (cellM sc 0) p20
  refine q_asg s0 (x := .int (cellM sc 0 % 10 ^ Int.toNat 20)) (ev_op (ev_call (ea_cons (ev_var rfl) (ea_cons ev_int ea_nil)) (show SCell _ _ from ⟨sc, 0, rfl, rfl⟩)) (ev_op ev_int ev_int (op2_I c20)) (op2_I p20)) (fun σ1 H1 e1 s1 => ?_)
  generalize cellM sc 0 % 10 ^ Int.toNat 20 = far at s1 hfar0 hfar1
  replace s1 : Sg K E σ1 H1 [.d (dI sc), .d (.int far), .no, .no, .no, .no, .no, .no, .no, .no, .no] [] := s1
  refine q_asgO s1 (xs := []) (el_lst ea_nil) (fun σ2 H2 a e2 s2 => ?_)
  replace s2 : Sg K E σ2 H2 [.d (dI sc), .d (.int far), .o a, .no, .no, .no, .no, .no, .no, .no, .no] [(a, .lst [])] := s2
  refine q_for (List.range (Int.toNat 4)) (fun i => .int (i : Nat)) (fun i z => z = (List.range i).map dueR) (fun _ => [.d (dI sc), .d (.int far), .o a, .no, .no, .no, .no, .no, .no, .no, .no]) (fun z => [(a, .lst z)]) (fun k _ => [.d (dI sc), .d (.int far), .o a, .d (.int (k : Nat)), .no, .no, .no, .no, .no, .no, .no]) ([] : List PyData) (src_rng1 (ea_cons ev_int ea_nil)) s2 rfl ?_ ?_ ?_
  · intro i q z hq hz
    exact ⟨_, tg_name (Nat.le_of_ble_eq_true rfl)⟩
  · intro B i k z σ3 H3 hq hz s3
    have hi : i < 4 := by
      have := (List.getElem?_eq_some_iff.mp hq).1
      rw [List.length_range] at this
      exact this
    rw [List.getElem?_range (show i < Int.toNat 4 from hi)] at hq
    obtain rfl := Option.some.inj hq
    replace s3 : Sg K { E with low := B } σ3 H3 [.d (dI sc), .d (.int far), .o a, .d (.int (i : Nat)), .no, .no, .no, .no, .no, .no, .no] ([] ++ (a, .lst z) :: []) := s3
    refine d_app s3 rfl (x := dueR i) (el_lst (ea_cons (ev_op (ev_var rfl) ev_int op2_eqI) (ea_cons (ev_op (ev_var rfl) ev_int op2_eqI) (ea_cons (ev_op (ev_var rfl) ev_int op2_eqI) (ea_cons (ev_op (ev_var rfl) ev_int op2_eqI) (ea_cons ev_bl ea_nil)))))).ev (by rw [hz, List.length_map, List.length_range]; omega) (fun H4 s4 => ⟨_, ?_, s4.weak (by walk_at "wk")⟩)
    rw [hz, List.range_succ, List.map_append]
    rfl
  intro z σ3 H3 hz s3
  have s4 := Sg.freeze (O1 := []) (O2 := []) (i := 2) s3 rfl
  obtain ⟨dueL, hdue⟩ : ∃ dueL : List PyData, dueL = z := ⟨z, rfl⟩
  rw [← hdue] at s4 hz
  have d0 : L2.atI dueL 0 = some (dueR 0) := by rw [hz]; rfl
  have d1 : L2.atI dueL 1 = some (dueR 1) := by rw [hz]; rfl
  have d2 : L2.atI dueL 2 = some (dueR 2) := by rw [hz]; rfl
  have d3 : L2.atI dueL 3 = some (dueR 3) := by rw [hz]; rfl
  clear hz hdue s3
  replace s4 : Sg K E σ3 H3 [.d (dI sc), .d (.int far), .d (.list dueL), .no, .no, .no, .no, .no, .no, .no, .no] [] := s4
  refine q_asg s4 (x := dP ps) (el_call (ea_cons (ev_var rfl) ea_nil) pS).ev (fun σ5 H5 e5 s5 => ?_)
  refine q_asg s5 (x := dP ps) (el_list (ea_cons (ev_var rfl) ea_nil)).ev (fun σ6 H6 e6 s6 => ?_)
  replace s6 : Sg K E σ6 H6 [.d (dI sc), .d (.int far), .d (.list dueL), .no, .d (dP ps), .d (dP ps), .no, .no, .no, .no, .no] [] := s6
  refine q_asgO s6 (xs := ([.none, .tuple [], .tuple [.tuple [.int 1, .int 1]], .str (Str.ofString "1"), .dict [], .int 5, .list [.none], .list [.int 1], .list [.tuple [.int 1]], .list [.tuple [.int 1, .int 1, .int 1]], .list [.list [.int 1, .int 1]], .list [.tuple [.int 0, .int 1]], .list [.tuple [.int 1, .int 0]]] : List PyData)) (el_lst (ea_cons ev_non (ea_cons (ev_tup ea_nil) (ea_cons (ev_tup (ea_cons (ev_tup (ea_cons ev_int (ea_cons ev_int ea_nil))) ea_nil)) (ea_cons ev_str (ea_cons ev_dnew (ea_cons ev_int (ea_cons (el_lst (ea_cons ev_non ea_nil) (Nat.le_of_ble_eq_true rfl)).ev (ea_cons (el_lst (ea_cons ev_int ea_nil) (Nat.le_of_ble_eq_true rfl)).ev (ea_cons (el_lst (ea_cons (ev_tup (ea_cons ev_int ea_nil)) ea_nil) (Nat.le_of_ble_eq_true rfl)).ev (ea_cons (el_lst (ea_cons (ev_tup (ea_cons ev_int (ea_cons ev_int (ea_cons ev_int ea_nil)))) ea_nil) (Nat.le_of_ble_eq_true rfl)).ev (ea_cons (el_lst (ea_cons (el_lst (ea_cons ev_int (ea_cons ev_int ea_nil)) (Nat.le_of_ble_eq_true rfl)).ev ea_nil) (Nat.le_of_ble_eq_true rfl)).ev (ea_cons (el_lst (ea_cons (ev_tup (ea_cons ev_int (ea_cons ev_int ea_nil))) ea_nil) (Nat.le_of_ble_eq_true rfl)).ev (ea_cons (el_lst (ea_cons (ev_tup (ea_cons ev_int (ea_cons ev_int ea_nil))) ea_nil) (Nat.le_of_ble_eq_true rfl)).ev ea_nil))))))))))))) (Nat.le_of_ble_eq_true rfl)) (fun σ7 H7 b e7 s7 => ?_)
  replace s7 : Sg K E σ7 H7 [.d (dI sc), .d (.int far), .d (.list dueL), .no, .d (dP ps), .d (dP ps), .o b, .no, .no, .no, .no] ([] ++ (b, .lst ([.none, .tuple [], .tuple [.tuple [.int 1, .int 1]], .str (Str.ofString "1"), .dict [], .int 5, .list [.none], .list [.int 1], .list [.tuple [.int 1]], .list [.tuple [.int 1, .int 1, .int 1]], .list [.list [.int 1, .int 1]], .list [.tuple [.int 0, .int 1]], .list [.tuple [.int 1, .int 0]]] : List PyData)) :: []) := s7
  refine q_app s7 rfl (x := dP [((-1) - far, 1)]) (el_lst (ea_cons (ev_tup (ea_cons (ev_op (ev_un ev_int op1_neg) (ev_var rfl) op2_I0) (ea_cons ev_int ea_nil))) ea_nil) (Nat.le_of_ble_eq_true rfl)).ev (Nat.le_of_ble_eq_true rfl) (fun H8 s8 => ?_)
  have s9 := Sg.freeze (O1 := []) (O2 := []) (i := 6) s8 rfl
  have hA : ∀ x ∈ ([.none, .tuple [], .tuple [.tuple [.int 1, .int 1]], .str (Str.ofString "1"), .dict [], .int 5, .list [.none], .list [.int 1], .list [.tuple [.int 1]], .list [.tuple [.int 1, .int 1, .int 1]], .list [.list [.int 1, .int 1]], .list [.tuple [.int 0, .int 1]], .list [.tuple [.int 1, .int 0]]] : List PyData), BadD x := by
    walk_at "all"
    all_goals walk_at "bad"
  have hB : ∀ x ∈ ([.list [.tuple [.int 1, .int ((-1) - far)]], .list [.tuple [.bool true, .int 1]], .list [.tuple [.int 1, .bool true]], .list [.tuple [.str (Str.ofString "1"), .int 1]], .list [.tuple [.int 1, .none]], .list [.tuple [.int 1, .int 1], .tuple [.int 2, .int 1]], .list [.tuple [.int 3, .int 1], .tuple [.int 3, .int 2]]] : List PyData), BadD x := by
    refine List.forall_mem_cons.mpr ⟨?_, ?_⟩
    · exact bad_dP (ps := [(1, (-1) - far)]) (fun h => by have := (h.pos (1, (-1) - far) List.mem_cons_self).2; have this : 0 < (-1) - far := this; omega) (Nat.le_of_ble_eq_true rfl)
    · walk_at "all"
      all_goals walk_at "bad"
  have hb0 : ∀ x ∈ ([.none, .tuple [], .tuple [.tuple [.int 1, .int 1]], .str (Str.ofString "1"), .dict [], .int 5, .list [.none], .list [.int 1], .list [.tuple [.int 1]], .list [.tuple [.int 1, .int 1, .int 1]], .list [.list [.int 1, .int 1]], .list [.tuple [.int 0, .int 1]], .list [.tuple [.int 1, .int 0]]] : List PyData) ++ ([dP [((-1) - far, 1)]] : List PyData) ++ ([.list [.tuple [.int 1, .int ((-1) - far)]], .list [.tuple [.bool true, .int 1]], .list [.tuple [.int 1, .bool true]], .list [.tuple [.str (Str.ofString "1"), .int 1]], .list [.tuple [.int 1, .none]], .list [.tuple [.int 1, .int 1], .tuple [.int 2, .int 1]], .list [.tuple [.int 3, .int 1], .tuple [.int 3, .int 2]]] : List PyData), BadD x := by
    intro x hx
    rcases List.mem_append.mp hx with h | h
    · rcases List.mem_append.mp h with h | h
      · exact hA x h
      · rw [List.mem_singleton.mp h]
        exact bad_dP (fun h => by have := (h.pos ((-1) - far, 1) List.mem_cons_self).1; have this : 0 < (-1) - far := this; omega) (Nat.le_of_ble_eq_true rfl)
    · exact hB x h
  have hb0l : (([.none, .tuple [], .tuple [.tuple [.int 1, .int 1]], .str (Str.ofString "1"), .dict [], .int 5, .list [.none], .list [.int 1], .list [.tuple [.int 1]], .list [.tuple [.int 1, .int 1, .int 1]], .list [.list [.int 1, .int 1]], .list [.tuple [.int 0, .int 1]], .list [.tuple [.int 1, .int 0]]] : List PyData) ++ ([dP [((-1) - far, 1)]] : List PyData) ++ ([.list [.tuple [.int 1, .int ((-1) - far)]], .list [.tuple [.bool true, .int 1]], .list [.tuple [.int 1, .bool true]], .list [.tuple [.str (Str.ofString "1"), .int 1]], .list [.tuple [.int 1, .none]], .list [.tuple [.int 1, .int 1], .tuple [.int 2, .int 1]], .list [.tuple [.int 3, .int 1], .tuple [.int 3, .int 2]]] : List PyData)).length = 21 := rfl
  replace s9 : Sg K E σ7 H8 [.d (dI sc), .d (.int far), .d (.list dueL), .no, .d (dP ps), .d (dP ps), .d (.list (([.none, .tuple [], .tuple [.tuple [.int 1, .int 1]], .str (Str.ofString "1"), .dict [], .int 5, .list [.none], .list [.int 1], .list [.tuple [.int 1]], .list [.tuple [.int 1, .int 1, .int 1]], .list [.list [.int 1, .int 1]], .list [.tuple [.int 0, .int 1]], .list [.tuple [.int 1, .int 0]]] : List PyData) ++ [dP [((-1) - far, 1)]])), .no, .no, .no, .no] [] := s9
  refine q_asgO s9 (xs := ([.none, .tuple [], .tuple [.tuple [.int 1, .int 1]], .str (Str.ofString "1"), .dict [], .int 5, .list [.none], .list [.int 1], .list [.tuple [.int 1]], .list [.tuple [.int 1, .int 1, .int 1]], .list [.list [.int 1, .int 1]], .list [.tuple [.int 0, .int 1]], .list [.tuple [.int 1, .int 0]]] : List PyData) ++ ([dP [((-1) - far, 1)]] : List PyData) ++ ([.list [.tuple [.int 1, .int ((-1) - far)]], .list [.tuple [.bool true, .int 1]], .list [.tuple [.int 1, .bool true]], .list [.tuple [.str (Str.ofString "1"), .int 1]], .list [.tuple [.int 1, .none]], .list [.tuple [.int 1, .int 1], .tuple [.int 2, .int 1]], .list [.tuple [.int 3, .int 1], .tuple [.int 3, .int 2]]] : List PyData)) (el_cat (ev_var rfl) (el_lst (ea_cons (el_lst (ea_cons (ev_tup (ea_cons ev_int (ea_cons (ev_op (ev_un ev_int op1_neg) (ev_var rfl) op2_I0) ea_nil))) ea_nil) (Nat.le_of_ble_eq_true rfl)).ev (ea_cons (el_lst (ea_cons (ev_tup (ea_cons ev_bl (ea_cons ev_int ea_nil))) ea_nil) (Nat.le_of_ble_eq_true rfl)).ev (ea_cons (el_lst (ea_cons (ev_tup (ea_cons ev_int (ea_cons ev_bl ea_nil))) ea_nil) (Nat.le_of_ble_eq_true rfl)).ev (ea_cons (el_lst (ea_cons (ev_tup (ea_cons ev_str (ea_cons ev_int ea_nil))) ea_nil) (Nat.le_of_ble_eq_true rfl)).ev (ea_cons (el_lst (ea_cons (ev_tup (ea_cons ev_int (ea_cons ev_non ea_nil))) ea_nil) (Nat.le_of_ble_eq_true rfl)).ev (ea_cons (el_lst (ea_cons (ev_tup (ea_cons ev_int (ea_cons ev_int ea_nil))) (ea_cons (ev_tup (ea_cons ev_int (ea_cons ev_int ea_nil))) ea_nil)) (Nat.le_of_ble_eq_true rfl)).ev (ea_cons (el_lst (ea_cons (ev_tup (ea_cons ev_int (ea_cons ev_int ea_nil))) (ea_cons (ev_tup (ea_cons ev_int (ea_cons ev_int ea_nil))) ea_nil)) (Nat.le_of_ble_eq_true rfl)).ev ea_nil))))))) (Nat.le_of_ble_eq_true rfl)).ev (Nat.le_of_ble_eq_true rfl)) (fun σ10 H10 p e10 s10 => ?_)
  generalize ([.none, .tuple [], .tuple [.tuple [.int 1, .int 1]], .str (Str.ofString "1"), .dict [], .int 5, .list [.none], .list [.int 1], .list [.tuple [.int 1]], .list [.tuple [.int 1, .int 1, .int 1]], .list [.list [.int 1, .int 1]], .list [.tuple [.int 0, .int 1]], .list [.tuple [.int 1, .int 0]]] : List PyData) ++ ([dP [((-1) - far, 1)]] : List PyData) ++ ([.list [.tuple [.int 1, .int ((-1) - far)]], .list [.tuple [.bool true, .int 1]], .list [.tuple [.int 1, .bool true]], .list [.tuple [.str (Str.ofString "1"), .int 1]], .list [.tuple [.int 1, .none]], .list [.tuple [.int 1, .int 1], .tuple [.int 2, .int 1]], .list [.tuple [.int 3, .int 1], .tuple [.int 3, .int 2]]] : List PyData) = bads at hb0 hb0l s10
  replace s10 : Sg K E σ10 H10 [.d (dI sc), .d (.int far), .d (.list dueL), .no, .d (dP ps), .d (dP ps), .o p, .no, .no, .no, .no] [(p, .lst bads)] := s10
  obtain ⟨g1, g2, g3⟩ := rg_ok (n := ps.length) (by omega)
  refine q_for (List.range (rgN ps.length)) (fun i => .int (0 + (i : Nat) * (1 + ((ps.length : Nat) : Int) / 6))) (fun i z => (∀ x ∈ z, BadD x) ∧ z.length = 21 + i) (fun _ => [.d (dI sc), .d (.int far), .d (.list dueL), .no, .d (dP ps), .d (dP ps), .o p, .no, .no, .no, .no]) (fun z => [(p, .lst z)]) (fun i _ => [.d (dI sc), .d (.int far), .d (.list dueL), .no, .d (dP ps), .d (dP ps), .o p, .d (.int (0 + (i : Nat) * (1 + ((ps.length : Nat) : Int) / 6))), .no, .no, .no]) bads ?_ s10 ⟨hb0, hb0l⟩ ?_ ?_ ?_
  · refine src_rng3 (ea_cons ev_int (ea_cons (ev_is (ev_cb (ea_cons (ev_var rfl) ea_nil) cb_len) (by rw [List.length_map])) (ea_cons (ev_op ev_int (ev_op (ev_is (ev_cb (ea_cons (ev_var rfl) ea_nil) cb_len) (by rw [List.length_map])) ev_int (op2_I (show CDivW _ 6 by unfold CDivW; decide))) op2_I0) ea_nil))) g1
  · intro i q z hq hz
    exact ⟨_, tg_name (Nat.le_of_ble_eq_true rfl)⟩
  · intro B i k z σ11 H11 hq hz s11
    obtain ⟨hz1, hz2⟩ := hz
    have hk : k < rgN ps.length := List.mem_range.mp (List.mem_of_getElem? hq)
    have hil : i < rgN ps.length := by
      have := (List.getElem?_eq_some_iff.mp hq).1
      rw [List.length_range] at this
      exact this
    have hm := g3 k hk
    obtain ⟨m, hme⟩ : ∃ m : Nat, m = k * (1 + ps.length / 6) := ⟨_, rfl⟩
    rw [← hme] at hm
    have em : (0 : Int) + (k : Nat) * (1 + ((ps.length : Nat) : Int) / 6) = (m : Int) := by
      rw [hme, Int.zero_add]
      have : ((ps.length : Nat) : Int) / 6 = ((ps.length / 6 : Nat) : Int) := by omega
      rw [this]
      push_cast
      rfl
    rw [em] at s11
    obtain ⟨x, hx1, hx2⟩ := str_at m
    replace s11 : Sg K { E with low := B } σ11 H11 [.d (dI sc), .d (.int far), .d (.list dueL), .no, .d (dP ps), .d (dP ps), .o p, .d (.int (m : Int)), .no, .no, .no] ([] ++ (p, .lst z) :: []) := s11
    refine q_asg s11 (x := x) (ev_op (ev_tup (xs := strL) (ea_cons ev_non (ea_cons (ev_tup (ea_cons ev_int (ea_cons ev_int ea_nil))) (ea_cons (el_lst (ea_cons ev_int (ea_cons ev_int ea_nil)) (Nat.le_of_ble_eq_true rfl)).ev (ea_cons (ev_tup (ea_cons ev_int (ea_cons ev_int ea_nil))) (ea_cons (ev_tup (ea_cons ev_int (ea_cons ev_bl ea_nil))) (ea_cons (ev_tup (ea_cons ev_str (ea_cons ev_int ea_nil))) (ea_cons (ev_tup (ea_cons ev_int (ea_cons ev_int (ea_cons ev_int ea_nil)))) ea_nil)))))))) (ev_op (ev_var rfl) ev_int (op2_I (show (0 : Int) < 7 by decide))) (op2_ixT hx1)) (fun σ12 H12 e12 s12 => ?_)
    replace s12 : Sg K { E with low := B } σ12 H12 [.d (dI sc), .d (.int far), .d (.list dueL), .no, .d (dP ps), .d (dP ps), .o p, .d (.int (m : Int)), .d x, .no, .no] ([] ++ (p, .lst z) :: []) := s12
    have hlen : ((ps.map pr).take m ++ [x] ++ (ps.map pr).drop (m + 1)).length ≤ 50000 := by
      rw [List.length_append, List.length_append, List.length_take, List.length_drop, List.length_map, List.length_singleton]; omega
    refine d_app s12 rfl (x := .list ((ps.map pr).take m ++ [x] ++ (ps.map pr).drop (m + 1))) (el_cat (xs := (ps.map pr).take m ++ [x]) (ys := (ps.map pr).drop (m + 1)) (el_cat (xs := (ps.map pr).take m) (ys := [x]) (ev_is (el_sl (ev_var rfl) eo_none (eo_some (ev_var rfl))).ev (by rw [cutA_take])) (el_lst (ea_cons (ev_var rfl) ea_nil)).ev ?_).ev (ev_is (el_sl (ev_var rfl) (eo_some (ev_op (ev_var rfl) ev_int op2_I0)) eo_none).ev ?_) ?_).ev ?_ (fun H13 s13 => ⟨_, ⟨?_, ?_⟩, s13.weak (by walk_at "wk")⟩)
    · rw [List.length_take, List.length_map, List.length_singleton]; omega
    · rw [show (m : Int) + 1 = ((m + 1 : Nat) : Int) by omega, cutA_drop]
    · rw [List.length_append, List.length_take, List.length_drop, List.length_map, List.length_singleton]; omega
    · rw [hz2]; omega
    · intro y hy
      rcases List.mem_append.mp hy with hy | hy
      · exact hz1 y hy
      · rw [List.mem_singleton.mp hy]
        exact bad_mid (str_bad x hx2) hlen
    · rw [List.length_append, hz2]; rfl
  intro z σ11 H11 hz s11
  obtain ⟨hz1, hz2⟩ := hz
  rw [List.length_range] at hz2
  have s12 := Sg.freeze (O1 := []) (O2 := []) (i := 6) s11 rfl
  replace s12 : Sg K E σ11 H11 [.d (dI sc), .d (.int far), .d (.list dueL), .no, .d (dP ps), .d (dP ps), .d (.list z), .no, .no, .no, .no] [] := s12
  have r9 : RgC 0 9 1 9 := ⟨by decide, by decide, by decide, by decide⟩
  refine q_when s12 (b := false) (et_not (a := true) (et_B (ev_callF (ef_cons evv_glob (ea_cons (el_is (el_rg1 (ea_cons ev_int ea_nil) r9 (by decide)) rfl).ev (ea_cons (ev_var rfl) (ea_cons (ev_op (ev_var rfl) ev_int (op2_ixL d0)) ea_nil)))) hW (show SRefd K C_BadSum C_BadNumber C_NotSuch C_TooMany C_PartsError _ _ _ from ⟨rg3 0 1 9, z, C_BadSum, true, false, false, false, rfl, by omega, fun n hn x hx => ⟨n, x, rfl, hz1 x hx, rfl⟩, k1, rfl⟩)))) (fun z => nomatch z) (fun _ H13 e13 s13 => ?_)
  replace s13 := s13.weak (ρ' := [.d (dI sc), .d (.int far), .d (.list dueL), .no, .d (dP ps), .d (dP ps), .no, .no, .no, .no, .no]) (by walk_at "wk")
  have m13 : ∀ n ∈ ([0, 1] : List Int), ∀ x ∈ ([.none, .str (Str.ofString "2"), .bool true, .bool false, .list [.int 2], .tuple [.int 2], .dict [], .int 1, .int 0, .int (-1), .int ((-2) - far)] : List PyData), SWNum C_BadNumber [.int n, x] C_BadNumber := by
    intro n _ x hx
    refine ⟨n, x, rfl, ?_, rfl⟩
    revert x
    walk_at "all"
    all_goals first | exact .inl rfl | exact .inr ⟨_, rfl, by omega⟩
  refine q_asg s13 (x := .list ([.none, .str (Str.ofString "2"), .bool true, .bool false, .list [.int 2], .tuple [.int 2], .dict [], .int 1, .int 0, .int (-1), .int ((-2) - far)] : List PyData)) (el_lst (ea_cons ev_non (ea_cons ev_str (ea_cons ev_bl (ea_cons ev_bl (ea_cons (el_lst (ea_cons ev_int ea_nil) (Nat.le_of_ble_eq_true rfl)).ev (ea_cons (ev_tup (ea_cons ev_int ea_nil)) (ea_cons ev_dnew (ea_cons ev_int (ea_cons ev_int (ea_cons (ev_un ev_int op1_neg) (ea_cons (ev_op (ev_un ev_int op1_neg) (ev_var rfl) op2_I0) ea_nil))))))))))) (Nat.le_of_ble_eq_true rfl)).ev (fun σ14 H14 e14 s14 => ?_)
  replace s14 : Sg K E σ14 H14 [.d (dI sc), .d (.int far), .d (.list dueL), .no, .d (dP ps), .d (dP ps), .no, .no, .d (.list ([.none, .str (Str.ofString "2"), .bool true, .bool false, .list [.int 2], .tuple [.int 2], .dict [], .int 1, .int 0, .int (-1), .int ((-2) - far)] : List PyData)), .no, .no] [] := s14
  refine q_when s14 (b := false) (et_not (a := true) (et_B (ev_callF (ef_cons evv_glob (ea_cons (el_lst (ea_cons ev_int (ea_cons ev_int ea_nil)) (Nat.le_of_ble_eq_true rfl)).ev (ea_cons (ev_var rfl) (ea_cons (ev_op (ev_var rfl) ev_int (op2_ixL d1)) ea_nil)))) hN (show SRefd K C_BadSum C_BadNumber C_NotSuch C_TooMany C_PartsError _ _ _ from ⟨[0, 1], ([.none, .str (Str.ofString "2"), .bool true, .bool false, .list [.int 2], .tuple [.int 2], .dict [], .int 1, .int 0, .int (-1), .int ((-2) - far)] : List PyData), C_BadNumber, false, true, false, false, rfl, Nat.le_of_ble_eq_true rfl, m13, k2, rfl⟩)))) (fun z => nomatch z) (fun _ H15 e15 s15 => ?_)
  replace s15 := s15.weak (ρ' := [.d (dI sc), .d (.int far), .d (.list dueL), .no, .d (dP ps), .d (dP ps), .no, .no, .no, .no, .no]) (by walk_at "wk")
  have m15 : ∀ n ∈ ([0] : List Int), ∀ x ∈ ([.tuple [.list [.tuple [.int 6, .int 1]], .int 2], .tuple [.list [.tuple [.int 7, .int 1], .tuple [.int 5, .int 2], .tuple [.int 3, .int 1]], .int 3], .tuple [.list [.tuple [.int (2 + far), .int 1], .tuple [.int 1, .int 4]], .int (2 + far)], .tuple [.list [.tuple [.int (4 + (2 * far)), .int 3]], .int 2]] : List PyData), SLed C_NotSuch [.int n, x] C_NotSuch := by
    intro n hn x hx
    obtain rfl := List.mem_singleton.mp hn
    revert x
    walk_at "all"
    · exact ⟨0, [(6, 1)], 2, rfl, Nat.le_of_ble_eq_true rfl, (sumB_iff _).mpr (can1 (by omega) (by omega)), by omega, fun _ => ⟨(6, 1), List.mem_cons_self, by show (6 : Int) % 2 = 0; exact (by omega)⟩, fun h => absurd rfl h, rfl⟩
    · exact ⟨0, [(7, 1), (5, 2), (3, 1)], 3, rfl, Nat.le_of_ble_eq_true rfl, (sumB_iff _).mpr (can_more (can_more (can1 (by omega) (by omega)) (by omega) (by omega)) (by omega) (by omega)), by omega, fun _ => ⟨(3, 1), (List.mem_cons_of_mem _ (List.mem_cons_of_mem _ List.mem_cons_self)), by show (3 : Int) % 3 = 0; exact Int.emod_self⟩, fun h => absurd rfl h, rfl⟩
    · exact ⟨0, [((2 + far), 1), (1, 4)], (2 + far), rfl, Nat.le_of_ble_eq_true rfl, (sumB_iff _).mpr (can_more (can1 (by omega) (by omega)) (by omega) (by omega)), by omega, fun _ => ⟨((2 + far), 1), List.mem_cons_self, by show ((2 + far) : Int) % (2 + far) = 0; exact Int.emod_self⟩, fun h => absurd rfl h, rfl⟩
    · exact ⟨0, [((4 + (2 * far)), 3)], 2, rfl, Nat.le_of_ble_eq_true rfl, (sumB_iff _).mpr (can1 (by omega) (by omega)), by omega, fun _ => ⟨((4 + (2 * far)), 3), List.mem_cons_self, by show ((4 + (2 * far)) : Int) % 2 = 0; exact (by omega)⟩, fun h => absurd rfl h, rfl⟩
  refine q_asg s15 (x := .list ([.tuple [.list [.tuple [.int 6, .int 1]], .int 2], .tuple [.list [.tuple [.int 7, .int 1], .tuple [.int 5, .int 2], .tuple [.int 3, .int 1]], .int 3], .tuple [.list [.tuple [.int (2 + far), .int 1], .tuple [.int 1, .int 4]], .int (2 + far)], .tuple [.list [.tuple [.int (4 + (2 * far)), .int 3]], .int 2]] : List PyData)) (el_lst (ea_cons (ev_tup (ea_cons (el_lst (ea_cons (ev_tup (ea_cons ev_int (ea_cons ev_int ea_nil))) ea_nil) (Nat.le_of_ble_eq_true rfl)).ev (ea_cons ev_int ea_nil))) (ea_cons (ev_tup (ea_cons (el_lst (ea_cons (ev_tup (ea_cons ev_int (ea_cons ev_int ea_nil))) (ea_cons (ev_tup (ea_cons ev_int (ea_cons ev_int ea_nil))) (ea_cons (ev_tup (ea_cons ev_int (ea_cons ev_int ea_nil))) ea_nil))) (Nat.le_of_ble_eq_true rfl)).ev (ea_cons ev_int ea_nil))) (ea_cons (ev_tup (ea_cons (el_lst (ea_cons (ev_tup (ea_cons (ev_op ev_int (ev_var rfl) op2_I0) (ea_cons ev_int ea_nil))) (ea_cons (ev_tup (ea_cons ev_int (ea_cons ev_int ea_nil))) ea_nil)) (Nat.le_of_ble_eq_true rfl)).ev (ea_cons (ev_op ev_int (ev_var rfl) op2_I0) ea_nil))) (ea_cons (ev_tup (ea_cons (el_lst (ea_cons (ev_tup (ea_cons (ev_op ev_int (ev_op ev_int (ev_var rfl) (op2_I (mulok_l (by decide)))) op2_I0) (ea_cons ev_int ea_nil))) ea_nil) (Nat.le_of_ble_eq_true rfl)).ev (ea_cons ev_int ea_nil))) ea_nil)))) (Nat.le_of_ble_eq_true rfl)).ev (fun σ16 H16 e16 s16 => ?_)
  replace s16 : Sg K E σ16 H16 [.d (dI sc), .d (.int far), .d (.list dueL), .no, .d (dP ps), .d (dP ps), .no, .no, .no, .d (.list ([.tuple [.list [.tuple [.int 6, .int 1]], .int 2], .tuple [.list [.tuple [.int 7, .int 1], .tuple [.int 5, .int 2], .tuple [.int 3, .int 1]], .int 3], .tuple [.list [.tuple [.int (2 + far), .int 1], .tuple [.int 1, .int 4]], .int (2 + far)], .tuple [.list [.tuple [.int (4 + (2 * far)), .int 3]], .int 2]] : List PyData)), .no] [] := s16
  refine q_when s16 (b := false) (et_not (a := true) (et_B (ev_callF (ef_cons evv_glob (ea_cons (el_lst (ea_cons ev_int ea_nil) (Nat.le_of_ble_eq_true rfl)).ev (ea_cons (ev_var rfl) (ea_cons (ev_op (ev_var rfl) ev_int (op2_ixL d2)) ea_nil)))) hL (show SRefd K C_BadSum C_BadNumber C_NotSuch C_TooMany C_PartsError _ _ _ from ⟨[0], ([.tuple [.list [.tuple [.int 6, .int 1]], .int 2], .tuple [.list [.tuple [.int 7, .int 1], .tuple [.int 5, .int 2], .tuple [.int 3, .int 1]], .int 3], .tuple [.list [.tuple [.int (2 + far), .int 1], .tuple [.int 1, .int 4]], .int (2 + far)], .tuple [.list [.tuple [.int (4 + (2 * far)), .int 3]], .int 2]] : List PyData), C_NotSuch, false, false, true, false, rfl, Nat.le_of_ble_eq_true rfl, m15, k3, rfl⟩)))) (fun z => nomatch z) (fun _ H17 e17 s17 => ?_)
  replace s17 := s17.weak (ρ' := [.d (dI sc), .d (.int far), .d (.list dueL), .no, .d (dP ps), .d (dP ps), .no, .no, .no, .no, .no]) (by walk_at "wk")
  have m17 : ∀ n ∈ ([1] : List Int), ∀ x ∈ ([.tuple [.list [.tuple [.int 6, .int 2]], .int 2], .tuple [.list [.tuple [.int 7, .int 1], .tuple [.int 5, .int 3]], .int 3], .tuple [.list [.tuple [.int 1, .int (2 + far)]], .int (2 + far)], .tuple [.list [.tuple [.int 9, .int 1], .tuple [.int 1, .int (5 + far)]], .int 5]] : List PyData), SLed C_NotSuch [.int n, x] C_NotSuch := by
    intro n hn x hx
    obtain rfl := List.mem_singleton.mp hn
    revert x
    walk_at "all"
    · exact ⟨1, [(6, 2)], 2, rfl, Nat.le_of_ble_eq_true rfl, (sumB_iff _).mpr (can1 (by omega) (by omega)), by omega, fun h => absurd h (by decide), fun _ => ⟨(6, 2), List.mem_cons_self, by show (2 : Int) ≤ 2; omega⟩, rfl⟩
    · exact ⟨1, [(7, 1), (5, 3)], 3, rfl, Nat.le_of_ble_eq_true rfl, (sumB_iff _).mpr (can_more (can1 (by omega) (by omega)) (by omega) (by omega)), by omega, fun h => absurd h (by decide), fun _ => ⟨(5, 3), (List.mem_cons_of_mem _ List.mem_cons_self), by show (3 : Int) ≤ 3; omega⟩, rfl⟩
    · exact ⟨1, [(1, (2 + far))], (2 + far), rfl, Nat.le_of_ble_eq_true rfl, (sumB_iff _).mpr (can1 (by omega) (by omega)), by omega, fun h => absurd h (by decide), fun _ => ⟨(1, (2 + far)), List.mem_cons_self, by show ((2 + far) : Int) ≤ (2 + far); omega⟩, rfl⟩
    · exact ⟨1, [(9, 1), (1, (5 + far))], 5, rfl, Nat.le_of_ble_eq_true rfl, (sumB_iff _).mpr (can_more (can1 (by omega) (by omega)) (by omega) (by omega)), by omega, fun h => absurd h (by decide), fun _ => ⟨(1, (5 + far)), (List.mem_cons_of_mem _ List.mem_cons_self), by show (5 : Int) ≤ (5 + far); omega⟩, rfl⟩
  refine q_asg s17 (x := .list ([.tuple [.list [.tuple [.int 6, .int 2]], .int 2], .tuple [.list [.tuple [.int 7, .int 1], .tuple [.int 5, .int 3]], .int 3], .tuple [.list [.tuple [.int 1, .int (2 + far)]], .int (2 + far)], .tuple [.list [.tuple [.int 9, .int 1], .tuple [.int 1, .int (5 + far)]], .int 5]] : List PyData)) (el_lst (ea_cons (ev_tup (ea_cons (el_lst (ea_cons (ev_tup (ea_cons ev_int (ea_cons ev_int ea_nil))) ea_nil) (Nat.le_of_ble_eq_true rfl)).ev (ea_cons ev_int ea_nil))) (ea_cons (ev_tup (ea_cons (el_lst (ea_cons (ev_tup (ea_cons ev_int (ea_cons ev_int ea_nil))) (ea_cons (ev_tup (ea_cons ev_int (ea_cons ev_int ea_nil))) ea_nil)) (Nat.le_of_ble_eq_true rfl)).ev (ea_cons ev_int ea_nil))) (ea_cons (ev_tup (ea_cons (el_lst (ea_cons (ev_tup (ea_cons ev_int (ea_cons (ev_op ev_int (ev_var rfl) op2_I0) ea_nil))) ea_nil) (Nat.le_of_ble_eq_true rfl)).ev (ea_cons (ev_op ev_int (ev_var rfl) op2_I0) ea_nil))) (ea_cons (ev_tup (ea_cons (el_lst (ea_cons (ev_tup (ea_cons ev_int (ea_cons ev_int ea_nil))) (ea_cons (ev_tup (ea_cons ev_int (ea_cons (ev_op ev_int (ev_var rfl) op2_I0) ea_nil))) ea_nil)) (Nat.le_of_ble_eq_true rfl)).ev (ea_cons ev_int ea_nil))) ea_nil)))) (Nat.le_of_ble_eq_true rfl)).ev (fun σ18 H18 e18 s18 => ?_)
  replace s18 : Sg K E σ18 H18 [.d (dI sc), .d (.int far), .d (.list dueL), .no, .d (dP ps), .d (dP ps), .no, .no, .no, .d (.list ([.tuple [.list [.tuple [.int 6, .int 2]], .int 2], .tuple [.list [.tuple [.int 7, .int 1], .tuple [.int 5, .int 3]], .int 3], .tuple [.list [.tuple [.int 1, .int (2 + far)]], .int (2 + far)], .tuple [.list [.tuple [.int 9, .int 1], .tuple [.int 1, .int (5 + far)]], .int 5]] : List PyData)), .no] [] := s18
  refine q_when s18 (b := false) (et_not (a := true) (et_B (ev_callF (ef_cons evv_glob (ea_cons (el_lst (ea_cons ev_int ea_nil) (Nat.le_of_ble_eq_true rfl)).ev (ea_cons (ev_var rfl) (ea_cons (ev_op (ev_var rfl) ev_int (op2_ixL d2)) ea_nil)))) hL (show SRefd K C_BadSum C_BadNumber C_NotSuch C_TooMany C_PartsError _ _ _ from ⟨[1], ([.tuple [.list [.tuple [.int 6, .int 2]], .int 2], .tuple [.list [.tuple [.int 7, .int 1], .tuple [.int 5, .int 3]], .int 3], .tuple [.list [.tuple [.int 1, .int (2 + far)]], .int (2 + far)], .tuple [.list [.tuple [.int 9, .int 1], .tuple [.int 1, .int (5 + far)]], .int 5]] : List PyData), C_NotSuch, false, false, true, false, rfl, Nat.le_of_ble_eq_true rfl, m17, k3, rfl⟩)))) (fun z => nomatch z) (fun _ H19 e19 s19 => ?_)
  replace s19 := s19.weak (ρ' := [.d (dI sc), .d (.int far), .d (.list dueL), .no, .d (dP ps), .d (dP ps), .no, .no, .no, .no, .no]) (by walk_at "wk")
  have m19 : ∀ n ∈ ([0, 1] : List Int), ∀ x ∈ ([.list [.tuple [.int 5, .int 2]], .list [.tuple [.int 9, .int 1], .tuple [.int 7, .int 1], .tuple [.int 3, .int (2 + far)]], .list [.tuple [.int 7, .int 3], .tuple [.int 1, .int 1]]] : List PyData), SOth C_BadSum C_NotSuch C_TooMany [.int n, x] C_NotSuch := by
    intro n hn x hx
    have hn : n = 0 ∨ n = 1 := by simpa using hn
    refine ⟨n, x, rfl, fun _ => .inr ?_, fun _ => .inr (.inr ?_), fun h1 h2 => by omega⟩
    · revert x
      walk_at "all"
      · exact ⟨[(5, 2)], rfl, Nat.le_of_ble_eq_true rfl, ((sumB_iff _).mpr (can1 (by omega) (by omega))), ⟨(5, 2), List.mem_cons_self, by show (1 : Int) < 2; omega⟩, rfl⟩
      · exact ⟨[(9, 1), (7, 1), (3, (2 + far))], rfl, Nat.le_of_ble_eq_true rfl, ((sumB_iff _).mpr (can_more (can_more (can1 (by omega) (by omega)) (by omega) (by omega)) (by omega) (by omega))), ⟨(3, (2 + far)), (List.mem_cons_of_mem _ (List.mem_cons_of_mem _ List.mem_cons_self)), by show (1 : Int) < (2 + far); omega⟩, rfl⟩
      · exact ⟨[(7, 3), (1, 1)], rfl, Nat.le_of_ble_eq_true rfl, ((sumB_iff _).mpr (can_more (can1 (by omega) (by omega)) (by omega) (by omega))), ⟨(7, 3), List.mem_cons_self, by show (1 : Int) < 3; omega⟩, rfl⟩
    · revert x
      walk_at "all"
      · exact ⟨[(5, 2)], rfl, Nat.le_of_ble_eq_true rfl, ((sumB_iff _).mpr (can1 (by omega) (by omega))), (List.forall_mem_cons.mpr ⟨show (5 : Int) % 2 ≠ 0 by decide, (List.forall_mem_nil _)⟩), ⟨(5, 2), List.mem_cons_self, by show (1 : Int) < 2; omega⟩, rfl⟩
      · exact ⟨[(9, 1), (7, 1), (3, (2 + far))], rfl, Nat.le_of_ble_eq_true rfl, ((sumB_iff _).mpr (can_more (can_more (can1 (by omega) (by omega)) (by omega) (by omega)) (by omega) (by omega))), (List.forall_mem_cons.mpr ⟨show (9 : Int) % 2 ≠ 0 by decide, (List.forall_mem_cons.mpr ⟨show (7 : Int) % 2 ≠ 0 by decide, (List.forall_mem_cons.mpr ⟨show (3 : Int) % 2 ≠ 0 by decide, (List.forall_mem_nil _)⟩)⟩)⟩), ⟨(3, (2 + far)), (List.mem_cons_of_mem _ (List.mem_cons_of_mem _ List.mem_cons_self)), by show (1 : Int) < (2 + far); omega⟩, rfl⟩
      · exact ⟨[(7, 3), (1, 1)], rfl, Nat.le_of_ble_eq_true rfl, ((sumB_iff _).mpr (can_more (can1 (by omega) (by omega)) (by omega) (by omega))), (List.forall_mem_cons.mpr ⟨show (7 : Int) % 2 ≠ 0 by decide, (List.forall_mem_cons.mpr ⟨show (1 : Int) % 2 ≠ 0 by decide, (List.forall_mem_nil _)⟩)⟩), ⟨(7, 3), List.mem_cons_self, by show (1 : Int) < 3; omega⟩, rfl⟩
  refine q_asg s19 (x := .list ([.list [.tuple [.int 5, .int 2]], .list [.tuple [.int 9, .int 1], .tuple [.int 7, .int 1], .tuple [.int 3, .int (2 + far)]], .list [.tuple [.int 7, .int 3], .tuple [.int 1, .int 1]]] : List PyData)) (el_lst (ea_cons (el_lst (ea_cons (ev_tup (ea_cons ev_int (ea_cons ev_int ea_nil))) ea_nil) (Nat.le_of_ble_eq_true rfl)).ev (ea_cons (el_lst (ea_cons (ev_tup (ea_cons ev_int (ea_cons ev_int ea_nil))) (ea_cons (ev_tup (ea_cons ev_int (ea_cons ev_int ea_nil))) (ea_cons (ev_tup (ea_cons ev_int (ea_cons (ev_op ev_int (ev_var rfl) op2_I0) ea_nil))) ea_nil))) (Nat.le_of_ble_eq_true rfl)).ev (ea_cons (el_lst (ea_cons (ev_tup (ea_cons ev_int (ea_cons ev_int ea_nil))) (ea_cons (ev_tup (ea_cons ev_int (ea_cons ev_int ea_nil))) ea_nil)) (Nat.le_of_ble_eq_true rfl)).ev ea_nil))) (Nat.le_of_ble_eq_true rfl)).ev (fun σ20 H20 e20 s20 => ?_)
  replace s20 : Sg K E σ20 H20 [.d (dI sc), .d (.int far), .d (.list dueL), .no, .d (dP ps), .d (dP ps), .no, .no, .no, .no, .d (.list ([.list [.tuple [.int 5, .int 2]], .list [.tuple [.int 9, .int 1], .tuple [.int 7, .int 1], .tuple [.int 3, .int (2 + far)]], .list [.tuple [.int 7, .int 3], .tuple [.int 1, .int 1]]] : List PyData))] [] := s20
  refine q_when s20 (b := false) (et_not (a := true) (et_B (ev_callF (ef_cons evv_glob (ea_cons (el_lst (ea_cons ev_int (ea_cons ev_int ea_nil)) (Nat.le_of_ble_eq_true rfl)).ev (ea_cons (ev_var rfl) (ea_cons (ev_op (ev_var rfl) ev_int (op2_ixL d2)) ea_nil)))) hO (show SRefd K C_BadSum C_BadNumber C_NotSuch C_TooMany C_PartsError _ _ _ from ⟨[0, 1], ([.list [.tuple [.int 5, .int 2]], .list [.tuple [.int 9, .int 1], .tuple [.int 7, .int 1], .tuple [.int 3, .int (2 + far)]], .list [.tuple [.int 7, .int 3], .tuple [.int 1, .int 1]]] : List PyData), C_NotSuch, false, false, true, false, rfl, Nat.le_of_ble_eq_true rfl, m19, k3, rfl⟩)))) (fun z => nomatch z) (fun _ H21 e21 s21 => ?_)
  replace s21 := s21.weak (ρ' := [.d (dI sc), .d (.int far), .d (.list dueL), .no, .d (dP ps), .d (dP ps), .no, .no, .no, .no, .no]) (by walk_at "wk")
  have m21 : ∀ n ∈ ([1] : List Int), ∀ x ∈ ([.list [.tuple [.int 2, .int 1]], .list [.tuple [.int (8 + (2 * far)), .int 1], .tuple [.int 7, .int 1]], .list [.tuple [.int 8, .int 2]], .list [.tuple [.int 5, .int 1], .tuple [.int 2, .int 1]]] : List PyData), SOth C_BadSum C_NotSuch C_TooMany [.int n, x] C_NotSuch := by
    intro n hn x hx
    obtain rfl := List.mem_singleton.mp hn
    refine ⟨1, x, rfl, fun h => absurd h (by decide), fun _ => .inr (.inl ?_), fun _ h => absurd rfl h⟩
    revert x
    walk_at "all"
    · exact ⟨[(2, 1)], rfl, Nat.le_of_ble_eq_true rfl, ((sumB_iff _).mpr (can1 (by omega) (by omega))), ⟨(2, 1), List.mem_cons_self, by show (2 : Int) % 2 = 0; omega⟩, rfl⟩
    · exact ⟨[((8 + (2 * far)), 1), (7, 1)], rfl, Nat.le_of_ble_eq_true rfl, ((sumB_iff _).mpr (can_more (can1 (by omega) (by omega)) (by omega) (by omega))), ⟨((8 + (2 * far)), 1), List.mem_cons_self, by show ((8 + (2 * far)) : Int) % 2 = 0; omega⟩, rfl⟩
    · exact ⟨[(8, 2)], rfl, Nat.le_of_ble_eq_true rfl, ((sumB_iff _).mpr (can1 (by omega) (by omega))), ⟨(8, 2), List.mem_cons_self, by show (8 : Int) % 2 = 0; omega⟩, rfl⟩
    · exact ⟨[(5, 1), (2, 1)], rfl, Nat.le_of_ble_eq_true rfl, ((sumB_iff _).mpr (can_more (can1 (by omega) (by omega)) (by omega) (by omega))), ⟨(2, 1), (List.mem_cons_of_mem _ List.mem_cons_self), by show (2 : Int) % 2 = 0; omega⟩, rfl⟩
  refine q_asg s21 (x := .list ([.list [.tuple [.int 2, .int 1]], .list [.tuple [.int (8 + (2 * far)), .int 1], .tuple [.int 7, .int 1]], .list [.tuple [.int 8, .int 2]], .list [.tuple [.int 5, .int 1], .tuple [.int 2, .int 1]]] : List PyData)) (el_lst (ea_cons (el_lst (ea_cons (ev_tup (ea_cons ev_int (ea_cons ev_int ea_nil))) ea_nil) (Nat.le_of_ble_eq_true rfl)).ev (ea_cons (el_lst (ea_cons (ev_tup (ea_cons (ev_op ev_int (ev_op ev_int (ev_var rfl) (op2_I (mulok_l (by decide)))) op2_I0) (ea_cons ev_int ea_nil))) (ea_cons (ev_tup (ea_cons ev_int (ea_cons ev_int ea_nil))) ea_nil)) (Nat.le_of_ble_eq_true rfl)).ev (ea_cons (el_lst (ea_cons (ev_tup (ea_cons ev_int (ea_cons ev_int ea_nil))) ea_nil) (Nat.le_of_ble_eq_true rfl)).ev (ea_cons (el_lst (ea_cons (ev_tup (ea_cons ev_int (ea_cons ev_int ea_nil))) (ea_cons (ev_tup (ea_cons ev_int (ea_cons ev_int ea_nil))) ea_nil)) (Nat.le_of_ble_eq_true rfl)).ev ea_nil)))) (Nat.le_of_ble_eq_true rfl)).ev (fun σ22 H22 e22 s22 => ?_)
  replace s22 : Sg K E σ22 H22 [.d (dI sc), .d (.int far), .d (.list dueL), .no, .d (dP ps), .d (dP ps), .no, .no, .no, .d (.list ([.list [.tuple [.int 2, .int 1]], .list [.tuple [.int (8 + (2 * far)), .int 1], .tuple [.int 7, .int 1]], .list [.tuple [.int 8, .int 2]], .list [.tuple [.int 5, .int 1], .tuple [.int 2, .int 1]]] : List PyData)), .no] [] := s22
  refine q_when s22 (b := false) (et_not (a := true) (et_B (ev_callF (ef_cons evv_glob (ea_cons (el_lst (ea_cons ev_int ea_nil) (Nat.le_of_ble_eq_true rfl)).ev (ea_cons (ev_var rfl) (ea_cons (ev_op (ev_var rfl) ev_int (op2_ixL d2)) ea_nil)))) hO (show SRefd K C_BadSum C_BadNumber C_NotSuch C_TooMany C_PartsError _ _ _ from ⟨[1], ([.list [.tuple [.int 2, .int 1]], .list [.tuple [.int (8 + (2 * far)), .int 1], .tuple [.int 7, .int 1]], .list [.tuple [.int 8, .int 2]], .list [.tuple [.int 5, .int 1], .tuple [.int 2, .int 1]]] : List PyData), C_NotSuch, false, false, true, false, rfl, Nat.le_of_ble_eq_true rfl, m21, k3, rfl⟩)))) (fun z => nomatch z) (fun _ H23 e23 s23 => ?_)
  replace s23 := s23.weak (ρ' := [.d (dI sc), .d (.int far), .d (.list dueL), .no, .d (dP ps), .d (dP ps), .no, .no, .no, .no, .no]) (by walk_at "wk")
  have m23 : ∀ n ∈ ([2] : List Int), ∀ x ∈ ([.list [.tuple [.int 2, .int 1]], .list [.tuple [.int 3, .int 1], .tuple [.int 1, .int 1]], .list [.tuple [.int 2, .int 3]], .list [.tuple [.int (2 + far), .int 1]]] : List PyData), SOth C_BadSum C_NotSuch C_TooMany [.int n, x] C_NotSuch := by
    intro n hn x hx
    obtain rfl := List.mem_singleton.mp hn
    refine ⟨2, x, rfl, fun h => absurd h (by decide), fun h => absurd h (by decide), fun _ _ => .inr (.inl ?_)⟩
    revert x
    walk_at "all"
    · exact ⟨[(2, 1)], rfl, Nat.le_of_ble_eq_true rfl, ((sumB_iff _).mpr (can1 (by omega) (by omega))), by decide, rfl⟩
    · exact ⟨[(3, 1), (1, 1)], rfl, Nat.le_of_ble_eq_true rfl, ((sumB_iff _).mpr (can_more (can1 (by omega) (by omega)) (by omega) (by omega))), by decide, rfl⟩
    · exact ⟨[(2, 3)], rfl, Nat.le_of_ble_eq_true rfl, ((sumB_iff _).mpr (can1 (by omega) (by omega))), by decide, rfl⟩
    · exact ⟨[((2 + far), 1)], rfl, Nat.le_of_ble_eq_true rfl, ((sumB_iff _).mpr (can1 (by omega) (by omega))), fun h => by have h : [((0 : Int) + 1, (2 + far) - 0)] = [(2 + far, 1)] := h; have := congrArg (fun l => (l.headD (0, 0)).1) h; have this : (0 : Int) + 1 = 2 + far := this; omega, rfl⟩
  have s24 := s23
  refine q_when s24 (b := false) (et_not (a := true) (et_B (ev_callF (ef_cons evv_glob (ea_cons (el_lst (ea_cons ev_int ea_nil) (Nat.le_of_ble_eq_true rfl)).ev (ea_cons (el_lst (ea_cons (el_lst (ea_cons (ev_tup (ea_cons ev_int (ea_cons ev_int ea_nil))) ea_nil) (Nat.le_of_ble_eq_true rfl)).ev (ea_cons (el_lst (ea_cons (ev_tup (ea_cons ev_int (ea_cons ev_int ea_nil))) (ea_cons (ev_tup (ea_cons ev_int (ea_cons ev_int ea_nil))) ea_nil)) (Nat.le_of_ble_eq_true rfl)).ev (ea_cons (el_lst (ea_cons (ev_tup (ea_cons ev_int (ea_cons ev_int ea_nil))) ea_nil) (Nat.le_of_ble_eq_true rfl)).ev (ea_cons (el_lst (ea_cons (ev_tup (ea_cons (ev_op ev_int (ev_var rfl) op2_I0) (ea_cons ev_int ea_nil))) ea_nil) (Nat.le_of_ble_eq_true rfl)).ev ea_nil)))) (Nat.le_of_ble_eq_true rfl)).ev (ea_cons (ev_op (ev_var rfl) ev_int (op2_ixL d2)) ea_nil)))) hO (show SRefd K C_BadSum C_BadNumber C_NotSuch C_TooMany C_PartsError _ _ _ from ⟨[2], ([.list [.tuple [.int 2, .int 1]], .list [.tuple [.int 3, .int 1], .tuple [.int 1, .int 1]], .list [.tuple [.int 2, .int 3]], .list [.tuple [.int (2 + far), .int 1]]] : List PyData), C_NotSuch, false, false, true, false, rfl, Nat.le_of_ble_eq_true rfl, m23, k3, rfl⟩)))) (fun z => nomatch z) (fun _ H25 e25 s25 => ?_)
  have hb2 : (2 : Int) + far < 2 ^ 200 := by
    have e : (10 : Int) ^ Int.toNat 20 + 2 < 2 ^ 200 := by decide
    omega
  have pOne : SSpread [dP [(1, 1)], .int (2 + far)] ([((1 : Int), (1 : Int))].map pr) := ⟨[(1, 1)], 2 + far, rfl, by decide, by decide, by decide, by omega, hb2, fun p hp => by rw [List.mem_singleton.mp hp]; show (1 : Int) % (2 + far) ≠ 0; rw [Int.emod_eq_of_lt (by decide) (by omega)]; decide, by rw [spread_one (by omega)]⟩
  exact d_ret s25 (ev_andV (a := true) (b := true) (ev_call (ea_cons (ev_var rfl) (ea_cons (ev_op (ev_var rfl) ev_int (op2_ixL d3)) ea_nil)) (show SMany _ _ from ⟨far, rfl, hfar0, rfl⟩)) (fun _ => ev_is (ev_andV (a := true) (b := true) (ev_is (ev_op (ev_var rfl) (ev_var rfl) op2_eqP) (by rw [decide_eq_true rfl])) (fun _ => ev_is (ev_op (el_call (ea_cons (el_lst (ea_cons (ev_tup (ea_cons ev_int (ea_cons ev_int ea_nil))) ea_nil) (Nat.le_of_ble_eq_true rfl)).ev (ea_cons (ev_op ev_int (ev_var rfl) op2_I0) ea_nil)) pOne).ev (el_lst (ea_cons (ev_tup (ea_cons ev_int (ea_cons ev_int ea_nil))) ea_nil) (Nat.le_of_ble_eq_true rfl)).ev (op2_eqP (ps := [(1, 1)]) (qs := [(1, 1)]))) (by rw [decide_eq_true rfl]))) rfl)) kq
end
end Pw

set_option Elab.async false
set_option linter.all false
set_option maxRecDepth 100000
set_option maxHeartbeats 2000000
set_option autoImplicit false
namespace Pw
open PySem PySem.Spec PyProof.Rows L2
open Evl (Ex)
/-! ### what the top has written, the attach -/
theorem df_mk {K : PySem.W.Frag} {h : Heap} {mg : Str → Option Value} {x : Str} {st : Stmt} (X : K.In h) (G : h.Ns mainGlobals mg) {f : Addr} {od an : Option Addr} {sl : Array (Option Value)} {oc kV dc pm cd ct : Value}
    (a : PySem.W.nsIn K mainGlobals x = some (some (.ref f))) (l : K.lookup f = some ⟨oc, od, .func (PySem.W.fnOf x x (defArgs st) (defBody st) (defScope st) .none kV dc pm an cd ct), sl⟩) (c : PySem.W.codeIn K cd x = true) (k : PySem.W.keepIn K (.ref f) = true) : Df K mg x st := ⟨⟨f, _, fun_mk l c k, PySem.W.mg_of X G a⟩⟩
theorem kit_tyC {K : PySem.W.Frag} {C : Addr} {T : String} {b : Bool} (h : PySem.W.subIn K (.ref C) (.type T) = some b) (hm : PySem.W.kitMeta T = true := by decide +kernel) : PySem.W.kitOne K (.ref C) (.type T) = some b := by
  unfold PySem.W.kitOne
  rw [if_neg (by intro z; cases (beq_iff_eq.mp z))]
  show (if PySem.W.kitMeta T = true then PySem.W.subIn K (.ref C) (.type T) else none) = some b
  rw [if_pos hm]
  exact h
theorem kit_refS {K : PySem.W.Frag} {C : Addr} : PySem.W.kitOne K (.ref C) (.ref C) = some true := by
  unfold PySem.W.kitOne
  rw [if_pos (beq_self_eq_true _)]
theorem kit_refC {K : PySem.W.Frag} {C D : Addr} {b : Bool} (hne : C ≠ D) (hd : PySem.W.hasDictIn K D = true) (ht : PySem.W.typeIn K (.ref D) = some (.type "type")) (h : PySem.W.subIn K (.ref C) (.ref D) = some b) : PySem.W.kitOne K (.ref C) (.ref D) = some b := by
  obtain ⟨cd, hc, _⟩ := PySem.W.any_some hd
  unfold PySem.W.kitOne
  rw [if_neg (by intro z; exact hne (Value.ref.inj (beq_iff_eq.mp z)))]
  show (if ((PySem.W.clsIn K D).isSome && PySem.W.typeIn K (.ref D) == some (.type "type")) = true then PySem.W.subIn K (.ref C) (.ref D) else none) = some b
  rw [if_pos (by rw [hc, ht]; rfl)]
  exact h
theorem glo_mk {K : PySem.W.Frag} {h : Heap} {mg : Str → Option Value} {x : Str} {C : Addr} (X : K.In h) (G : h.Ns mainGlobals mg) (a : PySem.W.nsIn K mainGlobals x = some (some (.ref C))) : mg x = some (.ref C) := PySem.W.mg_of X G a
theorem most_mk {K : PySem.W.Frag} {h : Heap} {mg : Str → Option Value} (X : K.In h) (G : h.Ns mainGlobals mg) {t : Tok} (a : PySem.W.nsIn K mainGlobals "MOST" = some (some (.int 1000 t))) : ∃ t, mg "MOST" = some (.int 1000 t) := ⟨t, PySem.W.mg_of X G a⟩
theorem non_mk {K : PySem.W.Frag} {h : Heap} {mg : Str → Option Value} {x : Str} (X : K.In h) (G : h.Ns mainGlobals mg) (z : PySem.W.nsIn K mainGlobals x = some none) : mg x = none := PySem.W.mg_none_of X G z
theorem bn_mk {K : PySem.W.Frag} {h : Heap} {mg : Str → Option Value} (X : K.In h) (G : h.Ns mainGlobals mg) (z_len : PySem.W.nsIn K mainGlobals "len" = some none) (z_isinstance : PySem.W.nsIn K mainGlobals "isinstance" = some none) (z_int : PySem.W.nsIn K mainGlobals "int" = some none) (z_bool : PySem.W.nsIn K mainGlobals "bool" = some none) (z_tuple : PySem.W.nsIn K mainGlobals "tuple" = some none) (z_list : PySem.W.nsIn K mainGlobals "list" = some none) (z_range : PySem.W.nsIn K mainGlobals "range" = some none) (z_enumerate : PySem.W.nsIn K mainGlobals "enumerate" = some none) (z_sorted : PySem.W.nsIn K mainGlobals "sorted" = some none) (z_set : PySem.W.nsIn K mainGlobals "set" = some none) (z_all : PySem.W.nsIn K mainGlobals "all" = some none) (z_any : PySem.W.nsIn K mainGlobals "any" = some none) (z_sum : PySem.W.nsIn K mainGlobals "sum" = some none) (z_min : PySem.W.nsIn K mainGlobals "min" = some none) (z_max : PySem.W.nsIn K mainGlobals "max" = some none) (z_abs : PySem.W.nsIn K mainGlobals "abs" = some none) : Bn mg := ⟨PySem.W.mg_none_of X G z_len, PySem.W.mg_none_of X G z_isinstance, PySem.W.mg_none_of X G z_int, PySem.W.mg_none_of X G z_bool, PySem.W.mg_none_of X G z_tuple, PySem.W.mg_none_of X G z_list, PySem.W.mg_none_of X G z_range, PySem.W.mg_none_of X G z_enumerate, PySem.W.mg_none_of X G z_sorted, PySem.W.mg_none_of X G z_set, PySem.W.mg_none_of X G z_all, PySem.W.mg_none_of X G z_any, PySem.W.mg_none_of X G z_sum, PySem.W.mg_none_of X G z_min, PySem.W.mg_none_of X G z_max, PySem.W.mg_none_of X G z_abs⟩
theorem all_k05 {l : PySem.W.OpenLaw} {w : World} {K : PySem.W.Frag} {h : Heap} {mg : Str → Option Value} {fa C_BadNumber C_BadSum C_NotSuch C_PartsError C_TooMany : Addr} (X : K.In h) (G : h.Ns mainGlobals mg) (hfa : mg "law" = some (.ref fa)) (T : Bn mg)
    (g_BadNumber : mg "BadNumber" = some (.ref C_BadNumber))
    (g_BadSum : mg "BadSum" = some (.ref C_BadSum))
    (g_NotSuch : mg "NotSuch" = some (.ref C_NotSuch))
    (g_PartsError : mg "PartsError" = some (.ref C_PartsError))
    (g_TooMany : mg "TooMany" = some (.ref C_TooMany))
    (bb_BadSum : PySem.W.subIn K (.ref C_BadSum) (.type "BaseException") = some true)
    (tt_BadSum : PySem.W.typeIn K (.ref C_BadSum) = some (.type "type"))
    (hh_BadSum : PySem.W.hasDictIn K C_BadSum = true)
    (xx_BadSum : PySem.W.excIn K C_BadSum [.type "ValueError", .type "Exception", .type "BaseException", .type "object"] "ValueError.__new__" = true)
    (kk_BadSum : PySem.W.keepIn K (.ref C_BadSum) = true)
    (hg_BadSum : PySem.W.findIn K (.ref C_BadSum) "__getattribute__" = some (some (.builtin "BaseException.__getattribute__")))
    (hk_BadSum : PySem.W.findIn K (.ref C_BadSum) "__getattr__" = some none)
    (ha_BadSum : PySem.W.findIn K (.ref C_BadSum) "__class__" = some (some (.builtin "object.__class__")))
    (hm_BadSum : PySem.W.mroIn K C_BadSum (.type "object") = some true)
    (vv_BadSum : PySem.W.subIn K (.ref C_BadSum) (.type "ValueError") = some true)
    (pp_BadSum : PySem.W.subIn K (.ref C_BadSum) (.ref C_PartsError) = some true)
    (ne_BadNumber_BadSum : C_BadSum ≠ C_BadNumber)
    (ss_BadNumber_BadSum : PySem.W.subIn K (.ref C_BadSum) (.ref C_BadNumber) = some false)
    (ne_NotSuch_BadSum : C_BadSum ≠ C_NotSuch)
    (ss_NotSuch_BadSum : PySem.W.subIn K (.ref C_BadSum) (.ref C_NotSuch) = some false)
    (ne_TooMany_BadSum : C_BadSum ≠ C_TooMany)
    (ss_TooMany_BadSum : PySem.W.subIn K (.ref C_BadSum) (.ref C_TooMany) = some false)
    (bb_BadNumber : PySem.W.subIn K (.ref C_BadNumber) (.type "BaseException") = some true)
    (tt_BadNumber : PySem.W.typeIn K (.ref C_BadNumber) = some (.type "type"))
    (hh_BadNumber : PySem.W.hasDictIn K C_BadNumber = true)
    (xx_BadNumber : PySem.W.excIn K C_BadNumber [.type "ValueError", .type "Exception", .type "BaseException", .type "object"] "ValueError.__new__" = true)
    (kk_BadNumber : PySem.W.keepIn K (.ref C_BadNumber) = true)
    (hg_BadNumber : PySem.W.findIn K (.ref C_BadNumber) "__getattribute__" = some (some (.builtin "BaseException.__getattribute__")))
    (hk_BadNumber : PySem.W.findIn K (.ref C_BadNumber) "__getattr__" = some none)
    (ha_BadNumber : PySem.W.findIn K (.ref C_BadNumber) "__class__" = some (some (.builtin "object.__class__")))
    (hm_BadNumber : PySem.W.mroIn K C_BadNumber (.type "object") = some true)
    (vv_BadNumber : PySem.W.subIn K (.ref C_BadNumber) (.type "ValueError") = some true)
    (pp_BadNumber : PySem.W.subIn K (.ref C_BadNumber) (.ref C_PartsError) = some true)
    (ne_BadSum_BadNumber : C_BadNumber ≠ C_BadSum)
    (ss_BadSum_BadNumber : PySem.W.subIn K (.ref C_BadNumber) (.ref C_BadSum) = some false)
    (ne_NotSuch_BadNumber : C_BadNumber ≠ C_NotSuch)
    (ss_NotSuch_BadNumber : PySem.W.subIn K (.ref C_BadNumber) (.ref C_NotSuch) = some false)
    (ne_TooMany_BadNumber : C_BadNumber ≠ C_TooMany)
    (ss_TooMany_BadNumber : PySem.W.subIn K (.ref C_BadNumber) (.ref C_TooMany) = some false)
    (bb_NotSuch : PySem.W.subIn K (.ref C_NotSuch) (.type "BaseException") = some true)
    (tt_NotSuch : PySem.W.typeIn K (.ref C_NotSuch) = some (.type "type"))
    (hh_NotSuch : PySem.W.hasDictIn K C_NotSuch = true)
    (xx_NotSuch : PySem.W.excIn K C_NotSuch [.type "ValueError", .type "Exception", .type "BaseException", .type "object"] "ValueError.__new__" = true)
    (kk_NotSuch : PySem.W.keepIn K (.ref C_NotSuch) = true)
    (hg_NotSuch : PySem.W.findIn K (.ref C_NotSuch) "__getattribute__" = some (some (.builtin "BaseException.__getattribute__")))
    (hk_NotSuch : PySem.W.findIn K (.ref C_NotSuch) "__getattr__" = some none)
    (ha_NotSuch : PySem.W.findIn K (.ref C_NotSuch) "__class__" = some (some (.builtin "object.__class__")))
    (hm_NotSuch : PySem.W.mroIn K C_NotSuch (.type "object") = some true)
    (vv_NotSuch : PySem.W.subIn K (.ref C_NotSuch) (.type "ValueError") = some true)
    (pp_NotSuch : PySem.W.subIn K (.ref C_NotSuch) (.ref C_PartsError) = some true)
    (ne_BadSum_NotSuch : C_NotSuch ≠ C_BadSum)
    (ss_BadSum_NotSuch : PySem.W.subIn K (.ref C_NotSuch) (.ref C_BadSum) = some false)
    (ne_BadNumber_NotSuch : C_NotSuch ≠ C_BadNumber)
    (ss_BadNumber_NotSuch : PySem.W.subIn K (.ref C_NotSuch) (.ref C_BadNumber) = some false)
    (ne_TooMany_NotSuch : C_NotSuch ≠ C_TooMany)
    (ss_TooMany_NotSuch : PySem.W.subIn K (.ref C_NotSuch) (.ref C_TooMany) = some false)
    (bb_TooMany : PySem.W.subIn K (.ref C_TooMany) (.type "BaseException") = some true)
    (tt_TooMany : PySem.W.typeIn K (.ref C_TooMany) = some (.type "type"))
    (hh_TooMany : PySem.W.hasDictIn K C_TooMany = true)
    (xx_TooMany : PySem.W.excIn K C_TooMany [.type "ValueError", .type "Exception", .type "BaseException", .type "object"] "ValueError.__new__" = true)
    (kk_TooMany : PySem.W.keepIn K (.ref C_TooMany) = true)
    (hg_TooMany : PySem.W.findIn K (.ref C_TooMany) "__getattribute__" = some (some (.builtin "BaseException.__getattribute__")))
    (hk_TooMany : PySem.W.findIn K (.ref C_TooMany) "__getattr__" = some none)
    (ha_TooMany : PySem.W.findIn K (.ref C_TooMany) "__class__" = some (some (.builtin "object.__class__")))
    (hm_TooMany : PySem.W.mroIn K C_TooMany (.type "object") = some true)
    (vv_TooMany : PySem.W.subIn K (.ref C_TooMany) (.type "ValueError") = some true)
    (pp_TooMany : PySem.W.subIn K (.ref C_TooMany) (.ref C_PartsError) = some true)
    (ne_BadSum_TooMany : C_TooMany ≠ C_BadSum)
    (ss_BadSum_TooMany : PySem.W.subIn K (.ref C_TooMany) (.ref C_BadSum) = some false)
    (ne_BadNumber_TooMany : C_TooMany ≠ C_BadNumber)
    (ss_BadNumber_TooMany : PySem.W.subIn K (.ref C_TooMany) (.ref C_BadNumber) = some false)
    (ne_NotSuch_TooMany : C_TooMany ≠ C_NotSuch)
    (ss_NotSuch_TooMany : PySem.W.subIn K (.ref C_TooMany) (.ref C_NotSuch) = some false)
    (bb_PartsError : PySem.W.subIn K (.ref C_PartsError) (.type "BaseException") = some true)
    (tt_PartsError : PySem.W.typeIn K (.ref C_PartsError) = some (.type "type"))
    (hh_PartsError : PySem.W.hasDictIn K C_PartsError = true)
    (hnC : PySem.W.specialIn K (.builtin "object.__class__") "__get__" = some (some (.builtin "getset_descriptor.__get__")))
    (htC : PySem.W.takesIn K (.builtin "object.__class__") = some true)
    (zV : mg "ValueError" = none)
    (d_c_law_kinds : Df K mg "_law_kinds" s_law_kinds)
    (d_c_law_cell_at : Df K mg "_law_cell_at" s_law_cell_at)
    (d_c_law_draw : Df K mg "_law_draw" s_law_draw)
    (d_c_law_number : Df K mg "_law_number" s_law_number)
    (d_c_law_put : Df K mg "_law_put" s_law_put)
    (d_c_law_sum : Df K mg "_law_sum" s_law_sum)
    (d_c_is_whole : Df K mg "is_whole" s_is_whole)
    (d_c_is_pair : Df K mg "is_pair" s_is_pair)
    (d_c_is_sum : Df K mg "is_sum" s_is_sum)
    (d_c_check_sum : Df K mg "check_sum" s_check_sum)
    (d_c_whole : Df K mg "whole" s_whole)
    (d_c_often : Df K mg "often" s_often)
    (d_c_turned : Df K mg "turned" s_turned)
    (d_c_is_own : Df K mg "is_own" s_is_own)
    (d_c_check_by : Df K mg "check_by" s_check_by)
    (d_c_spread : Df K mg "spread" s_spread)
    (d_c_gathered : Df K mg "gathered" s_gathered)
    (d_c_check_unlike : Df K mg "check_unlike" s_check_unlike)
    (d_c_partner : Df K mg "partner" s_partner)
    (d_c_folded : Df K mg "folded" s_folded)
    (d_c_turned_of : Df K mg "turned_of" s_turned_of)
    (d_c_hooks : Df K mg "hooks" s_hooks)
    (d_c_law_with_sum : Df K mg "_law_with_sum" s_law_with_sum)
    (d_c_law_with_number : Df K mg "_law_with_number" s_law_with_number)
    (d_c_law_led : Df K mg "_law_led" s_law_led)
    (d_c_law_others : Df K mg "_law_others" s_law_others)
    (d_c_law_told : Df K mg "_law_told" s_law_told)
    (d_c_law_refused : Df K mg "_law_refused" s_law_refused)
    (d_c_law_many_right : Df K mg "_law_many_right" s_law_many_right)
    (d_c_in_order : Df K mg "in_order" s_in_order)
    (gM : ∃ t, mg "MOST" = some (.int 1000 t))
    {f4 : Addr} {od4 an4 : Option Addr} {sl4 : Array (Option Value)} {oc4 kV4 dc4 pm4 cd4 ct4 : Value}
    (a4 : PySem.W.nsIn K mainGlobals "law" = some (some (.ref f4))) (l4 : K.lookup f4 = some ⟨oc4, od4, .func (PySem.W.fnOf "law" "law" (defArgs s_law) (defBody s_law) (defScope s_law) .none kV4 dc4 pm4 an4 cd4 ct4), sl4⟩) (c4 : PySem.W.codeIn K cd4 "law" = true) (k4 : PySem.W.keepIn K (.ref f4) = true) :
    ∃ fd : FuncData, (∀ (s : Shared) (v : Value), BindsTo s fd ⟨[v], []⟩ [("_law_script", v)]) ∧ ∀ base : Heap, K.In base → base.Ns mainGlobals mg → FnOk l.prog w K mg base CX0 22 fa fd ["_law_script"] (SpR K SLaw) := by
  have e := hfa.symm.trans (PySem.W.mg_of X G a4)
  cases e
  refine ⟨PySem.W.fnOf "law" "law" (defArgs s_law) (defBody s_law) (defScope s_law) .none kV4 dc4 pm4 an4 cd4 ct4, fun s v => .of_eq rfl, fun base _ _ => ?_⟩
  have x_BadSum : XC K mg "BadSum" C_BadSum := ⟨g_BadSum, xx_BadSum, kk_BadSum, bb_BadSum, tt_BadSum⟩
  have x_BadNumber : XC K mg "BadNumber" C_BadNumber := ⟨g_BadNumber, xx_BadNumber, kk_BadNumber, bb_BadNumber, tt_BadNumber⟩
  have x_NotSuch : XC K mg "NotSuch" C_NotSuch := ⟨g_NotSuch, xx_NotSuch, kk_NotSuch, bb_NotSuch, tt_NotSuch⟩
  have x_TooMany : XC K mg "TooMany" C_TooMany := ⟨g_TooMany, xx_TooMany, kk_TooMany, bb_TooMany, tt_TooMany⟩
  have kd_BadSum : Kd K C_BadSum C_BadNumber C_NotSuch C_TooMany C_PartsError C_BadSum true false false false := ⟨⟨hg_BadSum, hk_BadSum, bb_BadSum, hh_BadSum, ha_BadSum, hnC, htC, hm_BadSum⟩, kit_refS, kit_refC ne_BadNumber_BadSum hh_BadNumber tt_BadNumber ss_BadNumber_BadSum, kit_refC ne_NotSuch_BadSum hh_NotSuch tt_NotSuch ss_NotSuch_BadSum, kit_refC ne_TooMany_BadSum hh_TooMany tt_TooMany ss_TooMany_BadSum, kit_tyC vv_BadSum, PySem.W.exm_ref bb_PartsError hh_PartsError tt_PartsError pp_BadSum⟩
  have kd_BadNumber : Kd K C_BadSum C_BadNumber C_NotSuch C_TooMany C_PartsError C_BadNumber false true false false := ⟨⟨hg_BadNumber, hk_BadNumber, bb_BadNumber, hh_BadNumber, ha_BadNumber, hnC, htC, hm_BadNumber⟩, kit_refC ne_BadSum_BadNumber hh_BadSum tt_BadSum ss_BadSum_BadNumber, kit_refS, kit_refC ne_NotSuch_BadNumber hh_NotSuch tt_NotSuch ss_NotSuch_BadNumber, kit_refC ne_TooMany_BadNumber hh_TooMany tt_TooMany ss_TooMany_BadNumber, kit_tyC vv_BadNumber, PySem.W.exm_ref bb_PartsError hh_PartsError tt_PartsError pp_BadNumber⟩
  have kd_NotSuch : Kd K C_BadSum C_BadNumber C_NotSuch C_TooMany C_PartsError C_NotSuch false false true false := ⟨⟨hg_NotSuch, hk_NotSuch, bb_NotSuch, hh_NotSuch, ha_NotSuch, hnC, htC, hm_NotSuch⟩, kit_refC ne_BadSum_NotSuch hh_BadSum tt_BadSum ss_BadSum_NotSuch, kit_refC ne_BadNumber_NotSuch hh_BadNumber tt_BadNumber ss_BadNumber_NotSuch, kit_refS, kit_refC ne_TooMany_NotSuch hh_TooMany tt_TooMany ss_TooMany_NotSuch, kit_tyC vv_NotSuch, PySem.W.exm_ref bb_PartsError hh_PartsError tt_PartsError pp_NotSuch⟩
  have kd_TooMany : Kd K C_BadSum C_BadNumber C_NotSuch C_TooMany C_PartsError C_TooMany false false false true := ⟨⟨hg_TooMany, hk_TooMany, bb_TooMany, hh_TooMany, ha_TooMany, hnC, htC, hm_TooMany⟩, kit_refC ne_BadSum_TooMany hh_BadSum tt_BadSum ss_BadSum_TooMany, kit_refC ne_BadNumber_TooMany hh_BadNumber tt_BadNumber ss_BadNumber_TooMany, kit_refC ne_NotSuch_TooMany hh_NotSuch tt_NotSuch ss_NotSuch_TooMany, kit_refS, kit_tyC vv_TooMany, PySem.W.exm_ref bb_PartsError hh_PartsError tt_PartsError pp_TooMany⟩
  have c_law_cell_at := ok_cell_at (P := l.prog) (w := w) (base := base) d_c_law_cell_at T
  have c_law_draw := ok_draw (P := l.prog) (w := w) (base := base) d_c_law_draw T
  have c_law_number := ok_number (P := l.prog) (w := w) (base := base) d_c_law_number T c_law_draw
  have c_law_put := ok_put (P := l.prog) (w := w) (base := base) d_c_law_put T
  have c_law_sum := ok_law_sum (P := l.prog) (w := w) (base := base) d_c_law_sum T c_law_cell_at c_law_draw c_law_number c_law_put
  have c_is_whole := ok_is_whole (P := l.prog) (w := w) (base := base) d_c_is_whole T
  have c_is_pair := ok_is_pair (P := l.prog) (w := w) (base := base) d_c_is_pair T c_is_whole
  have c_is_sum := ok_is_sum (P := l.prog) (w := w) (base := base) d_c_is_sum T c_is_pair
  have cx_check_sum := xk_check_sum (P := l.prog) (w := w) (base := base) d_c_check_sum T x_BadSum c_is_sum
  have cx_whole := xk_whole (P := l.prog) (w := w) (base := base) d_c_whole T cx_check_sum
  have cx_often := xk_often (P := l.prog) (w := w) (base := base) d_c_often T cx_check_sum
  have cx_turned := xk_turned (P := l.prog) (w := w) (base := base) d_c_turned T cx_check_sum
  have cx_is_own := xk_is_own (P := l.prog) (w := w) (base := base) d_c_is_own T cx_check_sum
  have cx_check_by := xk_check_by (P := l.prog) (w := w) (base := base) d_c_check_by T x_BadNumber c_is_whole
  have cx_spread := xk_spread (P := l.prog) (w := w) (base := base) d_c_spread T x_NotSuch cx_check_sum cx_check_by
  have cx_gathered := xk_gathered (P := l.prog) (w := w) (base := base) d_c_gathered T x_NotSuch cx_check_sum cx_check_by
  have cx_check_unlike := xk_check_unlike (P := l.prog) (w := w) (base := base) d_c_check_unlike T x_NotSuch
  have cx_partner := xk_partner (P := l.prog) (w := w) (base := base) d_c_partner T cx_check_sum cx_check_unlike
  have cx_folded := xk_folded (P := l.prog) (w := w) (base := base) d_c_folded T x_NotSuch cx_check_sum cx_check_unlike
  have c_turned_of := ok_turned_of (P := l.prog) (w := w) (base := base) d_c_turned_of T
  have cx_hooks := xk_hooks (P := l.prog) (w := w) (base := base) d_c_hooks T gM x_NotSuch x_TooMany cx_check_sum c_turned_of
  have cx_law_with_sum := xk_law_with_sum (P := l.prog) (w := w) (base := base) d_c_law_with_sum T cx_whole cx_often cx_turned cx_is_own cx_spread cx_gathered cx_partner cx_folded cx_hooks
  have cx_law_with_number := xk_law_with_number (P := l.prog) (w := w) (base := base) d_c_law_with_number T cx_spread cx_gathered
  have cx_law_led := xk_law_led (P := l.prog) (w := w) (base := base) d_c_law_led T cx_spread cx_gathered
  have cx_law_others := xk_law_others (P := l.prog) (w := w) (base := base) d_c_law_others T cx_partner cx_folded cx_hooks
  have c_law_told := ok_law_told (P := l.prog) (w := w) (base := base) d_c_law_told T d_c_law_kinds g_PartsError g_BadSum g_BadNumber g_NotSuch g_TooMany zV
  have c_law_refused := ok_law_refused (P := l.prog) (w := w) (base := base) d_c_law_refused T c_law_told
  have c_check_sum := ok_check_sum (P := l.prog) (w := w) (base := base) d_c_check_sum T c_is_sum
  have c_hooks := ok_hooks (P := l.prog) (w := w) (base := base) d_c_hooks T gM c_check_sum c_turned_of
  have c_law_many_right := ok_law_many_right (P := l.prog) (w := w) (base := base) d_c_law_many_right T kd_TooMany cx_law_others c_law_refused c_hooks
  have c_check_by := ok_check_by (P := l.prog) (w := w) (base := base) d_c_check_by T c_is_whole
  have c_in_order := ok_in_order (P := l.prog) (w := w) (base := base) d_c_in_order T
  have c_spread := ok_spread (P := l.prog) (w := w) (base := base) d_c_spread T c_check_sum c_check_by c_in_order
  exact ok_law_k05 (fun_mk (st := s_law) l4 c4 k4) T kd_BadSum kd_BadNumber kd_NotSuch kd_TooMany c_law_cell_at c_law_sum cx_law_with_sum cx_law_with_number cx_law_led cx_law_others c_law_refused c_law_many_right c_spread
theorem fit_of {n : Int} (h : PySem.Builtin.Int.intBits n ≤ 1048576) : Fit n := by
  unfold PySem.Builtin.Int.intBits at h
  show n.natAbs < 2 ^ 1100000
  split at h
  · rename_i e
    have : n = 0 := by simpa using e
    subst this
    exact Nat.two_pow_pos _
  · have h1 : n.natAbs < 2 ^ (n.natAbs.log2 + 1) := Nat.lt_log2_self
    exact Nat.lt_of_lt_of_le h1 (Nat.pow_le_pow_right (by decide) (by omega))
theorem walk_k05 {l : PySem.W.OpenLaw} {q : Program} {loose : List Str} {XP : (Str → Option Value) → Heap → Prop} {YP : World → Heap → Prop} {d : DefRec} {K : Params → PySem.W.Frag} (hn : l.most = some 63) (hdf : d.params.defaults = [])
    (hY : ∀ (w : World) (h : Heap), YP w h → (K w.params).In h)
    (F : ∀ (w : World) (mg : Str → Option Value) (fa : Addr) (h : Heap), (K w.params).In h → h.Ns mainGlobals mg → mg d.name = some (.ref fa) →
      ∃ fd : FuncData, (∀ (s : Shared) (u : Value), BindsTo s fd ⟨[u], []⟩ [("_law_script", u)]) ∧ ∀ base : Heap, (K w.params).In base → base.Ns mainGlobals mg → FnOk l.prog w (K w.params) mg base CX0 22 fa fd ["_law_script"] (SpR (K w.params) SLaw)) :
    PySem.W.WalkO q loose XP YP l.row.toRowW d [] (fun f vs => PySem.call f vs) :=
  L2.walk_ofB (n := 63) (k := 22) (x := "_law_script") (CX := fun _ => CX0) (sp := fun w => SpR (K w.params) SLaw) hn (by decide) hdf ⟨rfl, by decide, by decide⟩ hY F
    (fun w H a ns hl hb _ hS => ⟨H, [dI ns], .bool true, Ex.refl H, .cons (.lst hS (RvA.ofInts ns)) .nil, ⟨ns, rfl, fun c hc => fit_of (hb c hc), rfl⟩, fun v H2 _ r => r.isBool⟩) fun _ _ _ _ _ z => z
end Pw
open PySem PySem.W PyProof.Rows in
set_option maxRecDepth 100000 in
set_option maxHeartbeats 0 in
theorem PySem.Challenge.cw_partways_k05_refused_holds : PySem.Challenge.rw_partways_k05_refused.Holds := by
  w_on; o_law; k_head; (case hw => w_witness2)
  k_fill
  refine Pw.walk_k05 (l := PySem.Challenge.rw_partways_k05_refused) rfl rfl (fun w h Y => PySem.W.kIn_of Y) ?F
  case F =>
    intro w mg fa h KX G hmg
    refine' Pw.all_k05 KX G hmg (Pw.bn_mk KX G ?z_len ?z_isinstance ?z_int ?z_bool ?z_tuple ?z_list ?z_range ?z_enumerate ?z_sorted ?z_set ?z_all ?z_any ?z_sum ?z_min ?z_max ?z_abs) (Pw.glo_mk KX G ?aC_BadNumber) (Pw.glo_mk KX G ?aC_BadSum) (Pw.glo_mk KX G ?aC_NotSuch) (Pw.glo_mk KX G ?aC_PartsError) (Pw.glo_mk KX G ?aC_TooMany) ?bb_BadSum ?tt_BadSum ?hh_BadSum ?xx_BadSum ?kk_BadSum ?hg_BadSum ?hk_BadSum ?ha_BadSum ?hm_BadSum ?vv_BadSum ?pp_BadSum ?ne_BadNumber_BadSum ?ss_BadNumber_BadSum ?ne_NotSuch_BadSum ?ss_NotSuch_BadSum ?ne_TooMany_BadSum ?ss_TooMany_BadSum ?bb_BadNumber ?tt_BadNumber ?hh_BadNumber ?xx_BadNumber ?kk_BadNumber ?hg_BadNumber ?hk_BadNumber ?ha_BadNumber ?hm_BadNumber ?vv_BadNumber ?pp_BadNumber ?ne_BadSum_BadNumber ?ss_BadSum_BadNumber ?ne_NotSuch_BadNumber ?ss_NotSuch_BadNumber ?ne_TooMany_BadNumber ?ss_TooMany_BadNumber ?bb_NotSuch ?tt_NotSuch ?hh_NotSuch ?xx_NotSuch ?kk_NotSuch ?hg_NotSuch ?hk_NotSuch ?ha_NotSuch ?hm_NotSuch ?vv_NotSuch ?pp_NotSuch ?ne_BadSum_NotSuch ?ss_BadSum_NotSuch ?ne_BadNumber_NotSuch ?ss_BadNumber_NotSuch ?ne_TooMany_NotSuch ?ss_TooMany_NotSuch ?bb_TooMany ?tt_TooMany ?hh_TooMany ?xx_TooMany ?kk_TooMany ?hg_TooMany ?hk_TooMany ?ha_TooMany ?hm_TooMany ?vv_TooMany ?pp_TooMany ?ne_BadSum_TooMany ?ss_BadSum_TooMany ?ne_BadNumber_TooMany ?ss_BadNumber_TooMany ?ne_NotSuch_TooMany ?ss_NotSuch_TooMany ?bb_PartsError ?tt_PartsError ?hh_PartsError ?hnC ?htC (Pw.non_mk KX G ?zVE) (Pw.df_mk KX G ?a_c_law_kinds ?l_c_law_kinds ?c_c_law_kinds ?k_c_law_kinds) (Pw.df_mk KX G ?a_c_law_cell_at ?l_c_law_cell_at ?c_c_law_cell_at ?k_c_law_cell_at) (Pw.df_mk KX G ?a_c_law_draw ?l_c_law_draw ?c_c_law_draw ?k_c_law_draw) (Pw.df_mk KX G ?a_c_law_number ?l_c_law_number ?c_c_law_number ?k_c_law_number) (Pw.df_mk KX G ?a_c_law_put ?l_c_law_put ?c_c_law_put ?k_c_law_put) (Pw.df_mk KX G ?a_c_law_sum ?l_c_law_sum ?c_c_law_sum ?k_c_law_sum) (Pw.df_mk KX G ?a_c_is_whole ?l_c_is_whole ?c_c_is_whole ?k_c_is_whole) (Pw.df_mk KX G ?a_c_is_pair ?l_c_is_pair ?c_c_is_pair ?k_c_is_pair) (Pw.df_mk KX G ?a_c_is_sum ?l_c_is_sum ?c_c_is_sum ?k_c_is_sum) (Pw.df_mk KX G ?a_c_check_sum ?l_c_check_sum ?c_c_check_sum ?k_c_check_sum) (Pw.df_mk KX G ?a_c_whole ?l_c_whole ?c_c_whole ?k_c_whole) (Pw.df_mk KX G ?a_c_often ?l_c_often ?c_c_often ?k_c_often) (Pw.df_mk KX G ?a_c_turned ?l_c_turned ?c_c_turned ?k_c_turned) (Pw.df_mk KX G ?a_c_is_own ?l_c_is_own ?c_c_is_own ?k_c_is_own) (Pw.df_mk KX G ?a_c_check_by ?l_c_check_by ?c_c_check_by ?k_c_check_by) (Pw.df_mk KX G ?a_c_spread ?l_c_spread ?c_c_spread ?k_c_spread) (Pw.df_mk KX G ?a_c_gathered ?l_c_gathered ?c_c_gathered ?k_c_gathered) (Pw.df_mk KX G ?a_c_check_unlike ?l_c_check_unlike ?c_c_check_unlike ?k_c_check_unlike) (Pw.df_mk KX G ?a_c_partner ?l_c_partner ?c_c_partner ?k_c_partner) (Pw.df_mk KX G ?a_c_folded ?l_c_folded ?c_c_folded ?k_c_folded) (Pw.df_mk KX G ?a_c_turned_of ?l_c_turned_of ?c_c_turned_of ?k_c_turned_of) (Pw.df_mk KX G ?a_c_hooks ?l_c_hooks ?c_c_hooks ?k_c_hooks) (Pw.df_mk KX G ?a_c_law_with_sum ?l_c_law_with_sum ?c_c_law_with_sum ?k_c_law_with_sum) (Pw.df_mk KX G ?a_c_law_with_number ?l_c_law_with_number ?c_c_law_with_number ?k_c_law_with_number) (Pw.df_mk KX G ?a_c_law_led ?l_c_law_led ?c_c_law_led ?k_c_law_led) (Pw.df_mk KX G ?a_c_law_others ?l_c_law_others ?c_c_law_others ?k_c_law_others) (Pw.df_mk KX G ?a_c_law_told ?l_c_law_told ?c_c_law_told ?k_c_law_told) (Pw.df_mk KX G ?a_c_law_refused ?l_c_law_refused ?c_c_law_refused ?k_c_law_refused) (Pw.df_mk KX G ?a_c_law_many_right ?l_c_law_many_right ?c_c_law_many_right ?k_c_law_many_right) (Pw.df_mk KX G ?a_c_in_order ?l_c_in_order ?c_c_in_order ?k_c_in_order) (Pw.most_mk KX G ?zM) ?a4 ?l4 ?c4 ?k4
    (case z_len => k_is)
    (case z_isinstance => k_is)
    (case z_int => k_is)
    (case z_bool => k_is)
    (case z_tuple => k_is)
    (case z_list => k_is)
    (case z_range => k_is)
    (case z_enumerate => k_is)
    (case z_sorted => k_is)
    (case z_set => k_is)
    (case z_all => k_is)
    (case z_any => k_is)
    (case z_sum => k_is)
    (case z_min => k_is)
    (case z_max => k_is)
    (case z_abs => k_is)
    (case aC_BadNumber => k_is)
    (case aC_BadSum => k_is)
    (case aC_NotSuch => k_is)
    (case aC_PartsError => k_is)
    (case aC_TooMany => k_is)
    (case bb_BadSum => k_is)
    (case tt_BadSum => k_is)
    (case hh_BadSum => k_is)
    (case xx_BadSum => k_exc)
    (case kk_BadSum => k_is)
    (case hg_BadSum => k_is)
    (case hk_BadSum => k_is)
    (case ha_BadSum => k_is)
    (case hm_BadSum => k_is)
    (case vv_BadSum => k_is)
    (case pp_BadSum => k_is)
    (case ne_BadNumber_BadSum => decide)
    (case ss_BadNumber_BadSum => k_is)
    (case ne_NotSuch_BadSum => decide)
    (case ss_NotSuch_BadSum => k_is)
    (case ne_TooMany_BadSum => decide)
    (case ss_TooMany_BadSum => k_is)
    (case bb_BadNumber => k_is)
    (case tt_BadNumber => k_is)
    (case hh_BadNumber => k_is)
    (case xx_BadNumber => k_exc)
    (case kk_BadNumber => k_is)
    (case hg_BadNumber => k_is)
    (case hk_BadNumber => k_is)
    (case ha_BadNumber => k_is)
    (case hm_BadNumber => k_is)
    (case vv_BadNumber => k_is)
    (case pp_BadNumber => k_is)
    (case ne_BadSum_BadNumber => decide)
    (case ss_BadSum_BadNumber => k_is)
    (case ne_NotSuch_BadNumber => decide)
    (case ss_NotSuch_BadNumber => k_is)
    (case ne_TooMany_BadNumber => decide)
    (case ss_TooMany_BadNumber => k_is)
    (case bb_NotSuch => k_is)
    (case tt_NotSuch => k_is)
    (case hh_NotSuch => k_is)
    (case xx_NotSuch => k_exc)
    (case kk_NotSuch => k_is)
    (case hg_NotSuch => k_is)
    (case hk_NotSuch => k_is)
    (case ha_NotSuch => k_is)
    (case hm_NotSuch => k_is)
    (case vv_NotSuch => k_is)
    (case pp_NotSuch => k_is)
    (case ne_BadSum_NotSuch => decide)
    (case ss_BadSum_NotSuch => k_is)
    (case ne_BadNumber_NotSuch => decide)
    (case ss_BadNumber_NotSuch => k_is)
    (case ne_TooMany_NotSuch => decide)
    (case ss_TooMany_NotSuch => k_is)
    (case bb_TooMany => k_is)
    (case tt_TooMany => k_is)
    (case hh_TooMany => k_is)
    (case xx_TooMany => k_exc)
    (case kk_TooMany => k_is)
    (case hg_TooMany => k_is)
    (case hk_TooMany => k_is)
    (case ha_TooMany => k_is)
    (case hm_TooMany => k_is)
    (case vv_TooMany => k_is)
    (case pp_TooMany => k_is)
    (case ne_BadSum_TooMany => decide)
    (case ss_BadSum_TooMany => k_is)
    (case ne_BadNumber_TooMany => decide)
    (case ss_BadNumber_TooMany => k_is)
    (case ne_NotSuch_TooMany => decide)
    (case ss_NotSuch_TooMany => k_is)
    (case bb_PartsError => k_is)
    (case tt_PartsError => k_is)
    (case hh_PartsError => k_is)
    (case hnC => k_is)
    (case htC => k_is)
    (case zVE => k_is)
    (case a_c_law_kinds => k_is)
    (case l_c_law_kinds => k_is)
    (case c_c_law_kinds => k_is)
    (case k_c_law_kinds => k_is)
    (case a_c_law_cell_at => k_is)
    (case l_c_law_cell_at => k_is)
    (case c_c_law_cell_at => k_is)
    (case k_c_law_cell_at => k_is)
    (case a_c_law_draw => k_is)
    (case l_c_law_draw => k_is)
    (case c_c_law_draw => k_is)
    (case k_c_law_draw => k_is)
    (case a_c_law_number => k_is)
    (case l_c_law_number => k_is)
    (case c_c_law_number => k_is)
    (case k_c_law_number => k_is)
    (case a_c_law_put => k_is)
    (case l_c_law_put => k_is)
    (case c_c_law_put => k_is)
    (case k_c_law_put => k_is)
    (case a_c_law_sum => k_is)
    (case l_c_law_sum => k_is)
    (case c_c_law_sum => k_is)
    (case k_c_law_sum => k_is)
    (case a_c_is_whole => k_is)
    (case l_c_is_whole => k_is)
    (case c_c_is_whole => k_is)
    (case k_c_is_whole => k_is)
    (case a_c_is_pair => k_is)
    (case l_c_is_pair => k_is)
    (case c_c_is_pair => k_is)
    (case k_c_is_pair => k_is)
    (case a_c_is_sum => k_is)
    (case l_c_is_sum => k_is)
    (case c_c_is_sum => k_is)
    (case k_c_is_sum => k_is)
    (case a_c_check_sum => k_is)
    (case l_c_check_sum => k_is)
    (case c_c_check_sum => k_is)
    (case k_c_check_sum => k_is)
    (case a_c_whole => k_is)
    (case l_c_whole => k_is)
    (case c_c_whole => k_is)
    (case k_c_whole => k_is)
    (case a_c_often => k_is)
    (case l_c_often => k_is)
    (case c_c_often => k_is)
    (case k_c_often => k_is)
    (case a_c_turned => k_is)
    (case l_c_turned => k_is)
    (case c_c_turned => k_is)
    (case k_c_turned => k_is)
    (case a_c_is_own => k_is)
    (case l_c_is_own => k_is)
    (case c_c_is_own => k_is)
    (case k_c_is_own => k_is)
    (case a_c_check_by => k_is)
    (case l_c_check_by => k_is)
    (case c_c_check_by => k_is)
    (case k_c_check_by => k_is)
    (case a_c_spread => k_is)
    (case l_c_spread => k_is)
    (case c_c_spread => k_is)
    (case k_c_spread => k_is)
    (case a_c_gathered => k_is)
    (case l_c_gathered => k_is)
    (case c_c_gathered => k_is)
    (case k_c_gathered => k_is)
    (case a_c_check_unlike => k_is)
    (case l_c_check_unlike => k_is)
    (case c_c_check_unlike => k_is)
    (case k_c_check_unlike => k_is)
    (case a_c_partner => k_is)
    (case l_c_partner => k_is)
    (case c_c_partner => k_is)
    (case k_c_partner => k_is)
    (case a_c_folded => k_is)
    (case l_c_folded => k_is)
    (case c_c_folded => k_is)
    (case k_c_folded => k_is)
    (case a_c_turned_of => k_is)
    (case l_c_turned_of => k_is)
    (case c_c_turned_of => k_is)
    (case k_c_turned_of => k_is)
    (case a_c_hooks => k_is)
    (case l_c_hooks => k_is)
    (case c_c_hooks => k_is)
    (case k_c_hooks => k_is)
    (case a_c_law_with_sum => k_is)
    (case l_c_law_with_sum => k_is)
    (case c_c_law_with_sum => k_is)
    (case k_c_law_with_sum => k_is)
    (case a_c_law_with_number => k_is)
    (case l_c_law_with_number => k_is)
    (case c_c_law_with_number => k_is)
    (case k_c_law_with_number => k_is)
    (case a_c_law_led => k_is)
    (case l_c_law_led => k_is)
    (case c_c_law_led => k_is)
    (case k_c_law_led => k_is)
    (case a_c_law_others => k_is)
    (case l_c_law_others => k_is)
    (case c_c_law_others => k_is)
    (case k_c_law_others => k_is)
    (case a_c_law_told => k_is)
    (case l_c_law_told => k_is)
    (case c_c_law_told => k_is)
    (case k_c_law_told => k_is)
    (case a_c_law_refused => k_is)
    (case l_c_law_refused => k_is)
    (case c_c_law_refused => k_is)
    (case k_c_law_refused => k_is)
    (case a_c_law_many_right => k_is)
    (case l_c_law_many_right => k_is)
    (case c_c_law_many_right => k_is)
    (case k_c_law_many_right => k_is)
    (case a_c_in_order => k_is)
    (case l_c_in_order => k_is)
    (case c_c_in_order => k_is)
    (case k_c_in_order => k_is)
    (case zM => k_is)
    (case a4 => k_is)
    (case l4 => k_is)
    (case c4 => k_is)
    (case k4 => k_is)

