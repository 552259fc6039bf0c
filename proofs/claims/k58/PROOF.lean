import PyProof.Rows.All
import Wide.All
import OpenK.AllK
import Wide.FinOn
import HandS.ForMost
import HandS.Evl
import HandS.IsInst
import HandS.Wide
import HandS.Defaults
import HandS.TupAny
import HandS.SetFor
import HandS.RevRange
import HandS.SortKw
import HandS.Conv
import HandS.Iter
import HandS.TupLe
import HandS.TryOnly
import HandS.NoneIn
import KE.KDictKeyed
import HandS.ListEq
import PyProof.Draws
import PyProof.EnumMake
import PyProof.StrOps2
import HandS.ClsMeth
import HandS.MakeKwOnly
import HandS.FStr
import HandS.OwnEq
import HandS.Text
import PySem.Challenge.RW_buriedsure_k58_whole_misses_judged
import HandS.Head2
import HandS.HeadEnd
import HandS.HeadHook2
import HandS.HeadNt
set_option Elab.async false
set_option linter.all false
set_option maxRecDepth 100000
section
set_option maxHeartbeats 4000000
/-! Dl1: data, what is seen, states of a def by slots. -/
namespace Dl
open PySem L2 Evl

/-! ### what is hidden -/
def hid (M : List Addr) (H : Hp) : Hp := fun a => if a ∈ M then none else H a
theorem hid_in {M : List Addr} {H : Hp} {a : Addr} (h : a ∈ M) : hid M H a = none := if_pos h
theorem hid_out {M : List Addr} {H : Hp} {a : Addr} (h : a ∉ M) : hid M H a = H a := if_neg h
theorem hid_some {M : List Addr} {H : Hp} {a : Addr} {o : HO} (h : hid M H a = some o) : a ∉ M ∧ H a = some o := by
  by_cases q : a ∈ M
  · rw [hid_in q] at h; cases h
  · rw [hid_out q] at h; exact ⟨q, h⟩
theorem hid_nil (H : Hp) : hid [] H = H := by funext a; exact hid_out (by simp)
theorem hid_le {M : List Addr} {H : Hp} : Ex (hid M H) H := fun _ _ h => (hid_some h).2
theorem hid_sub {M M' : List Addr} {H : Hp} (s : ∀ a ∈ M', a ∈ M) : Ex (hid M H) (hid M' H) := fun a o h => by
  obtain ⟨n, h⟩ := hid_some h
  rw [hid_out fun z => n (s a z)]; exact h
theorem hid_ex {M : List Addr} {H H' : Hp} (e : Ex H H') : Ex (hid M H) (hid M H') := fun a o h => by
  obtain ⟨n, h⟩ := hid_some h
  rw [hid_out n]; exact e _ _ h
theorem hid_exS {M N : List Addr} {H H' : Hp} (s : ∀ a ∈ N, a ∈ M) (e : Ex (hid N H) H') : Ex (hid M H) (hid M H') := fun a o h => by
  obtain ⟨n, h⟩ := hid_some h
  rw [hid_out n]; exact e _ _ (by rw [hid_out fun z => n (s a z)]; exact h)
theorem hid_upd {M : List Addr} {H : Hp} {a : Addr} {o : HO} (h : a ∈ M) : hid M (upd H a o) = hid M H := by
  funext b
  by_cases q : b ∈ M
  · rw [hid_in q, hid_in q]
  · rw [hid_out q, hid_out q, upd_ne fun z => q (by rw [z]; exact h)]
theorem ex_upd {B H : Hp} {a : Addr} {o : HO} (e : Ex B H) (h : B a = none) : Ex B (upd H a o) := Ex.mut e h

/-! ### data -/
/-- a value's own kind: told by what is true of it, of heaps that only grow -/
structure OP where
  p : V → Hp → Prop
  mono : ∀ v H H', Ex H H' → p v H → p v H'
inductive Dt where
  | non | bl (b : Bool) | int (i : Int) | str (x : Str) | lst (xs : List Dt) | tup (xs : List Dt) | ob (P : OP)
instance : Inhabited Dt := ⟨.non⟩
mutual
inductive Rp (K : PySem.W.Frag) (H : Hp) : V → Dt → Prop
  | non : Rp K H .non .non
  | bl (b : Bool) : Rp K H (.bl b) (.bl b)
  | int (i : Int) : Rp K H (.int i) (.int i)
  | str (x : Str) : Rp K H (.str x) (.str x)
  | lst {a : Addr} {xs : List V} {ds : List Dt} : Rd H a (.lst xs) → RpA K H xs ds → Rp K H (.ref a) (.lst ds)
  | tup {a : Addr} {xs : List V} {ds : List Dt} : SqT K H a xs → RpA K H xs ds → Rp K H (.ref a) (.tup ds)
  | ob {v : V} {P : OP} : P.p v H → Rp K H v (.ob P)
inductive RpA (K : PySem.W.Frag) (H : Hp) : List V → List Dt → Prop
  | nil : RpA K H [] []
  | cons {v : V} {vs : List V} {d : Dt} {ds : List Dt} : Rp K H v d → RpA K H vs ds → RpA K H (v :: vs) (d :: ds)
end
section
variable {K : PySem.W.Frag} {H H' : Hp}
mutual
theorem Rp.ex (e : Ex H H') : ∀ {v : V} {d : Dt}, Rp K H v d → Rp K H' v d
  | _, _, .non => .non
  | _, _, .bl b => .bl b
  | _, _, .int i => .int i
  | _, _, .str x => .str x
  | _, _, .lst h a => .lst (ex_rd e h) (RpA.ex e a)
  | _, _, .tup h a => .tup (ex_t e h) (RpA.ex e a)
  | _, _, @Rp.ob _ _ v P h => .ob (P.mono v H H' e h)
theorem RpA.ex (e : Ex H H') : ∀ {vs : List V} {ds : List Dt}, RpA K H vs ds → RpA K H' vs ds
  | _, _, .nil => .nil
  | _, _, .cons h t => .cons (Rp.ex e h) (RpA.ex e t)
end
theorem Rp.int_inv {v : V} {i : Int} (h : Rp K H v (.int i)) : v = .int i := by cases h; rfl
theorem Rp.bl_inv {v : V} {b : Bool} (h : Rp K H v (.bl b)) : v = .bl b := by cases h; rfl
theorem Rp.str_inv {v : V} {x : Str} (h : Rp K H v (.str x)) : v = .str x := by cases h; rfl
theorem Rp.non_inv {v : V} (h : Rp K H v .non) : v = .non := by cases h; rfl
theorem Rp.lst_inv {v : V} {ds : List Dt} (h : Rp K H v (.lst ds)) : ∃ a xs, v = .ref a ∧ Rd H a (.lst xs) ∧ RpA K H xs ds := by cases h with | lst h a => exact ⟨_, _, rfl, h, a⟩
theorem Rp.tup_inv {v : V} {ds : List Dt} (h : Rp K H v (.tup ds)) : ∃ a xs, v = .ref a ∧ SqT K H a xs ∧ RpA K H xs ds := by cases h with | tup h a => exact ⟨_, _, rfl, h, a⟩
theorem Rp.ob_inv {v : V} {P : OP} (h : Rp K H v (.ob P)) : P.p v H := by cases h with | ob h => exact h
theorem RpA.length : ∀ {vs : List V} {ds : List Dt}, RpA K H vs ds → vs.length = ds.length
  | _, _, .nil => rfl
  | _, _, .cons _ t => by rw [List.length_cons, List.length_cons, RpA.length t]
theorem RpA.get : ∀ {vs : List V} {ds : List Dt} {i : Nat} {d : Dt}, RpA K H vs ds → ds[i]? = some d → ∃ v, vs[i]? = some v ∧ Rp K H v d
  | _, _, _, _, .nil, e => by simp at e
  | _, _, 0, _, .cons h _, e => by simp at e; subst e; exact ⟨_, rfl, h⟩
  | _, _, i + 1, d, .cons _ t, e => by
    obtain ⟨v, h1, h2⟩ := RpA.get (i := i) (d := d) t (by simpa using e)
    exact ⟨v, by simpa using h1, h2⟩
theorem RpA.getV : ∀ {vs : List V} {ds : List Dt} {i : Nat} {v : V}, RpA K H vs ds → vs[i]? = some v → ∃ d, ds[i]? = some d ∧ Rp K H v d
  | _, _, _, _, .nil, e => by simp at e
  | _, _, 0, _, .cons h _, e => by simp at e; subst e; exact ⟨_, rfl, h⟩
  | _, _, i + 1, d, .cons _ t, e => by
    obtain ⟨v, h1, h2⟩ := RpA.getV (i := i) (v := d) t (by simpa using e)
    exact ⟨v, by simpa using h1, h2⟩
theorem RpA.append : ∀ {vs ws : List V} {ds es : List Dt}, RpA K H vs ds → RpA K H ws es → RpA K H (vs ++ ws) (ds ++ es)
  | _, _, _, _, .nil, s => s
  | _, _, _, _, .cons h t, s => .cons h (RpA.append t s)
theorem RpA.snoc {vs : List V} {ds : List Dt} {v : V} {d : Dt} (a : RpA K H vs ds) (h : Rp K H v d) : RpA K H (vs ++ [v]) (ds ++ [d]) := a.append (.cons h .nil)
theorem RpA.set {v : V} {d : Dt} (h : Rp K H v d) : ∀ {vs : List V} {ds : List Dt} (i : Nat), RpA K H vs ds → RpA K H (vs.set i v) (ds.set i d)
  | _, _, _, .nil => .nil
  | _, _, 0, .cons _ t => .cons h t
  | _, _, i + 1, .cons q t => .cons q (RpA.set h i t)
theorem RpA.take : ∀ {vs : List V} {ds : List Dt} (n : Nat), RpA K H vs ds → RpA K H (vs.take n) (ds.take n)
  | _, _, 0, _ => .nil
  | _, _, _ + 1, .nil => .nil
  | _, _, n + 1, .cons r t => .cons r (RpA.take n t)
theorem RpA.drop : ∀ {vs : List V} {ds : List Dt} (n : Nat), RpA K H vs ds → RpA K H (vs.drop n) (ds.drop n)
  | _, _, 0, r => r
  | _, _, _ + 1, .nil => .nil
  | _, _, n + 1, .cons _ t => RpA.drop n t
theorem RpA.rev : ∀ {vs : List V} {ds : List Dt}, RpA K H vs ds → RpA K H vs.reverse ds.reverse
  | _, _, .nil => .nil
  | _, _, .cons h t => by
    rw [List.reverse_cons, List.reverse_cons]
    exact (RpA.rev t).snoc h
theorem RpA.ints : ∀ {vs : List V} {ns : List Int}, RpA K H vs (ns.map Dt.int) → vs = ns.map V.int
  | _, [], h => by cases h; rfl
  | _, n :: ns, h => by
    cases h with
    | cons h t =>
      rw [List.map_cons, h.int_inv, RpA.ints t]
theorem RpA.bls : ∀ {vs : List V} {ns : List Bool}, RpA K H vs (ns.map Dt.bl) → vs = ns.map V.bl
  | _, [], h => by cases h; rfl
  | _, n :: ns, h => by
    cases h with
    | cons h t =>
      rw [List.map_cons, h.bl_inv, RpA.bls t]
theorem RpA.strs : ∀ {vs : List V} {ns : List Str}, RpA K H vs (ns.map Dt.str) → vs = ns.map V.str
  | _, [], h => by cases h; rfl
  | _, n :: ns, h => by
    cases h with
    | cons h t =>
      rw [List.map_cons, h.str_inv, RpA.strs t]
theorem RpA.of_ints : ∀ (ns : List Int), RpA K H (ns.map V.int) (ns.map Dt.int)
  | [] => .nil
  | n :: ns => .cons (.int n) (RpA.of_ints ns)
theorem RpA.of_strs : ∀ (ns : List Str), RpA K H (ns.map V.str) (ns.map Dt.str)
  | [] => .nil
  | n :: ns => .cons (.str n) (RpA.of_strs ns)
theorem RpA.of_bls : ∀ (ns : List Bool), RpA K H (ns.map V.bl) (ns.map Dt.bl)
  | [] => .nil
  | n :: ns => .cons (.bl n) (RpA.of_bls ns)
end

/-! ### the drawing bag -/
/-- a bag: where it stands, where its list of numbers stands, the numbers -/
structure Bag where
  z : Addr
  l : Addr
  ns : List Int
/-- what is in it now: the next one's place, what is left of a great one, the mixed number, the count -/
def BagAt (b : Bag) (H : Hp) : Prop := ∃ (i g m c : Int), H b.z = some (.lst [.ref b.l, .int i, .int g, .int m, .int c]) ∧
  0 ≤ i ∧ i ≤ b.ns.length ∧ 0 ≤ g ∧ 0 ≤ m ∧ m < 2147483629 ∧ 0 ≤ c
theorem BagAt.at_ {b : Bag} {H H' : Hp} (h : BagAt b H) (e : H' b.z = H b.z) : BagAt b H' := by
  obtain ⟨i, g, m, c, h2, h3⟩ := h
  exact ⟨i, g, m, c, e.trans h2, h3⟩
theorem BagAt.some {b : Bag} {H : Hp} (h : BagAt b H) : H b.z ≠ none := by
  obtain ⟨i, g, m, c, h2, h3⟩ := h
  rw [h2]; exact fun z => nomatch z

/-! ### slots -/
/-- what is true of an object of our own, while what stays stays -/
structure OX where
  p : HO → Hp → Prop
  mono : ∀ o H H', Ex H H' → p o H → p o H'
inductive Des where
  | any
  /-- a value that stays -/
  | dat (d : Dt)
  /-- a list of our own -/
  | own (a : Addr) (ds : List Dt)
  /-- any other thing of our own (a dict) -/
  | ownX (a : Addr) (X : OX)
  /-- the drawing bag -/
  | bag (z : Addr)
  /-- an object of our own, told whole -/
  | ref (a : Addr)

/-- as what stays -/
def obX (a : Addr) (X : OX) : OP where
  p := fun v H => v = .ref a ∧ ∃ o, H a = some o ∧ X.p o H
  mono := fun v H H' e ⟨h1, o, h2, h3⟩ => ⟨h1, o, e _ _ h2, X.mono _ _ _ e h3⟩

structure Cn where
  K : PySem.W.Frag
  B : Hp
  M0 : List Addr
  Z : List Bag
abbrev Cn.zs (c : Cn) : List Addr := c.Z.map (·.z)
/-- more is seen -/
abbrev Cn.up (c : Cn) (B : Hp) : Cn := { c with B := B }
/-- one slot -/
def SlOk (K : PySem.W.Frag) (L Z : List Addr) (Vs H : Hp) : Option V → Des → Prop
  | _, .any => True
  | s, .dat d => ∃ v, s = some v ∧ Rp K Vs v d
  | s, .own a ds => s = some (.ref a) ∧ a ∈ L ∧ ∃ xs, H a = some (.lst xs) ∧ RpA K Vs xs ds
  | s, .ownX a X => s = some (.ref a) ∧ a ∈ L ∧ ∃ o, H a = some o ∧ X.p o Vs
  | s, .bag z => s = some (.ref z) ∧ z ∈ Z
  | s, .ref a => s = some (.ref a)
inductive SlA (K : PySem.W.Frag) (L Z : List Addr) (Vs H : Hp) : St → List Des → Prop
  | nil : SlA K L Z Vs H [] []
  | cons {s : Option V} {σ : St} {d : Des} {ds : List Des} : SlOk K L Z Vs H s d → SlA K L Z Vs H σ ds → SlA K L Z Vs H (s :: σ) (d :: ds)
abbrev Cn.M (c : Cn) (L : List Addr) : List Addr := L ++ (c.zs ++ c.M0)
structure WS (c : Cn) (L : List Addr) (H : Hp) (σ : St) (des : List Des) : Prop where
  ex : Ex c.B H
  own : ∀ a ∈ L, c.B a = none ∧ H a ≠ none
  zs : ∀ b ∈ c.Z, c.B b.z = none ∧ c.B b.l = some (.lst (b.ns.map .int)) ∧ BagAt b H
  m0 : ∀ a ∈ c.M0, H a ≠ none
  lz : ∀ a ∈ L, a ∉ c.zs
  lm : ∀ a ∈ L, a ∉ c.M0
  sl : SlA c.K L c.zs (hid (c.M L) H) H σ des
section
variable {K : PySem.W.Frag} {L L' Z : List Addr} {Vs Vs' H H' : Hp} {c : Cn} {σ : St} {des : List Des}
theorem SlOk.mono (hl : ∀ a ∈ L, a ∈ L') (e : Ex Vs Vs') (k : ∀ a ∈ L, H' a = H a) {s : Option V} {d : Des} (h : SlOk K L Z Vs H s d) : SlOk K L' Z Vs' H' s d := by
  cases d with
  | any => trivial
  | dat d => obtain ⟨v, h1, h2⟩ := h; exact ⟨v, h1, h2.ex e⟩
  | own a ds => obtain ⟨h1, h2, xs, h3, h4⟩ := h; exact ⟨h1, hl a h2, xs, (k a h2).trans h3, h4.ex e⟩
  | ownX a X => obtain ⟨h1, h2, o, h3, h4⟩ := h; exact ⟨h1, hl a h2, o, (k a h2).trans h3, X.mono _ _ _ e h4⟩
  | bag z => exact h
  | ref a => exact h
theorem SlA.mono (hl : ∀ a ∈ L, a ∈ L') (e : Ex Vs Vs') (k : ∀ a ∈ L, H' a = H a) : ∀ {σ : St} {des : List Des}, SlA K L Z Vs H σ des → SlA K L' Z Vs' H' σ des
  | _, _, .nil => .nil
  | _, _, .cons h t => .cons (h.mono hl e k) (SlA.mono hl e k t)
theorem SlA.get : ∀ {σ : St} {des : List Des} {i : Nat} {d : Des}, SlA K L Z Vs H σ des → des[i]? = some d → ∃ s, σ[i]? = some s ∧ SlOk K L Z Vs H s d
  | _, _, _, _, .nil, e => by simp at e
  | _, _, 0, _, .cons h _, e => by simp at e; subst e; exact ⟨_, rfl, h⟩
  | _, _, i + 1, d, .cons _ t, e => by
    obtain ⟨v, h1, h2⟩ := SlA.get (i := i) (d := d) t (by simpa using e)
    exact ⟨v, by simpa using h1, h2⟩
theorem SlA.set {s : Option V} {d : Des} (h : SlOk K L Z Vs H s d) : ∀ {σ : St} {des : List Des} (i : Nat), SlA K L Z Vs H σ des → SlA K L Z Vs H (σ.set i s) (des.set i d)
  | _, _, _, .nil => .nil
  | _, _, 0, .cons _ t => .cons h t
  | _, _, i + 1, .cons q t => .cons q (SlA.set h i t)
theorem SlA.length : ∀ {σ : St} {des : List Des}, SlA K L Z Vs H σ des → σ.length = des.length
  | _, _, .nil => rfl
  | _, _, .cons _ t => by rw [List.length_cons, List.length_cons, SlA.length t]
/-- less is told -/
inductive Wk : List Des → List Des → Prop
  | nil : Wk [] []
  | same {d : Des} {ds es : List Des} : Wk ds es → Wk (d :: ds) (d :: es)
  | any {d : Des} {ds es : List Des} : Wk ds es → Wk (d :: ds) (.any :: es)
theorem SlA.wk : ∀ {des des' : List Des}, Wk des des' → ∀ {σ : St}, SlA K L Z Vs H σ des → SlA K L Z Vs H σ des'
  | _, _, .nil, _, .nil => .nil
  | _, _, .same w, _, .cons h t => .cons h (SlA.wk w t)
  | _, _, .any w, _, .cons h t => .cons trivial (SlA.wk w t)
theorem WS.wk {des' : List Des} (w : WS c L H σ des) (h : Wk des des') : WS c L H σ des' := ⟨w.ex, w.own, w.zs, w.m0, w.lz, w.lm, w.sl.wk h⟩

/-- behind an evaluation: all but the bags stays -/
structure Gr (c : Cn) (H H' : Hp) : Prop where
  ex : Ex (hid c.zs H) H'
  zs : ∀ b ∈ c.Z, BagAt b H'
theorem WS.zn (w : WS c L H σ des) {a : Addr} (h : a ∈ c.zs) : c.B a = none ∧ H a ≠ none := by
  obtain ⟨b, hb, e⟩ := List.mem_map.mp h
  subst e
  exact ⟨(w.zs b hb).1, (w.zs b hb).2.2.some⟩
theorem Gr.of_ex (e : Ex H H') (w : WS c L H σ des) : Gr c H H' := ⟨fun a o h => e _ _ (hid_le _ _ h), fun z hz => by
  refine (w.zs z hz).2.2.at_ ?_
  cases q : H z.z with
  | none => exact absurd q (w.zs z hz).2.2.some
  | some o => exact e _ _ q⟩
theorem Gr.refl (w : WS c L H σ des) : Gr c H H := Gr.of_ex (Ex.refl H) w
theorem Gr.trans {H1 H2 : Hp} (a : Gr c H H1) (b : Gr c H1 H2) : Gr c H H2 := ⟨fun x o h => by
  have q := a.ex x o h
  exact b.ex x o (by rw [hid_out (hid_some h).1]; exact q), b.zs⟩
theorem Gr.keep {a : Addr} {o : HO} (g : Gr c H H') (h : H a = some o) (n : a ∉ c.zs) : H' a = some o := g.ex a o (by rw [hid_out n]; exact h)
theorem Gr.vis (g : Gr c H H') : Ex (hid (c.M L) H) (hid (c.M L) H') := hid_exS (N := c.zs) (fun a h => List.mem_append_right _ (List.mem_append_left _ h)) g.ex
theorem Gr.visZ (g : Gr c H H') : Ex (hid c.zs H) (hid c.zs H') := hid_exS (N := c.zs) (fun a h => h) g.ex
theorem WS.gr (w : WS c L H σ des) (g : Gr c H H') : WS c L H' σ des := by
  have ne : ∀ a, a ∉ c.zs → H a ≠ none → H' a = H a := fun a n h => by
    cases q : H a with
    | none => exact absurd q h
    | some o => exact g.keep q n
  refine ⟨fun a o h => ?_, fun a h => ⟨(w.own a h).1, ?_⟩, fun z h => ⟨(w.zs z h).1, (w.zs z h).2.1, g.zs z h⟩, fun a h => ?_, w.lz, w.lm, w.sl.mono (fun _ h => h) g.vis fun a h => ne a (w.lz a h) (w.own a h).2⟩
  · have nz : a ∉ c.zs := fun z => by rw [(w.zn z).1] at h; cases h
    exact g.keep (w.ex a o h) nz
  · rw [ne a (w.lz a h) (w.own a h).2]; exact (w.own a h).2
  · by_cases q : a ∈ c.zs
    · obtain ⟨b, hb, e⟩ := List.mem_map.mp q
      rw [← e]
      exact (g.zs b hb).some
    · rw [ne a q (w.m0 a h)]; exact w.m0 a h
theorem WS.fresh (w : WS c L H σ des) {p : Addr} (h : H p = none) : p ∉ c.M L := fun q => by
  rcases List.mem_append.mp q with q | q
  · exact (w.own p q).2 h
  · rcases List.mem_append.mp q with q | q
    · exact (w.zn q).2 h
    · exact w.m0 p q h
theorem WS.bagMove (w : WS c L H σ des) {H' : Hp} (k : ∀ b ∈ c.Z, H' b.z = H b.z) : ∀ b ∈ c.Z, c.B b.z = none ∧ c.B b.l = some (.lst (b.ns.map .int)) ∧ BagAt b H' := fun b hb =>
  ⟨(w.zs b hb).1, (w.zs b hb).2.1, (w.zs b hb).2.2.at_ (k b hb)⟩
/-- more may be hidden -/
theorem WS.more {D : Addr} (w : WS c L H σ des) {o : HO} (h : H D = none) : WS c (D :: L) (upd H D o) σ des := by
  have np := w.fresh h
  have keep : ∀ a, H a ≠ none → upd H D o a = H a := fun a h' => upd_ne fun z => h' (by rw [z]; exact h)
  have vis : Ex (hid (c.M L) H) (hid (c.M (D :: L)) (upd H D o)) := fun a u q => by
    obtain ⟨n, q⟩ := hid_some q
    have ne : a ≠ D := fun z => by rw [z, h] at q; cases q
    rw [hid_out, upd_ne ne]; exact q
    intro z
    rcases List.mem_cons.mp z with z | z
    · exact ne z
    · exact n z
  refine ⟨Ex.mut w.ex (fresh_back w.ex h), fun a ha => ?_, w.bagMove fun b hb => keep _ (w.zs b hb).2.2.some, fun a ha => by rw [keep a (w.m0 a ha)]; exact w.m0 a ha, fun a ha => ?_, fun a ha => ?_,
    w.sl.mono (fun a h => List.mem_cons_of_mem _ h) vis fun a h => keep a (w.own a h).2⟩
  · rcases List.mem_cons.mp ha with e | e
    · subst e; exact ⟨fresh_back w.ex h, by rw [upd_same]; exact fun z => nomatch z⟩
    · exact ⟨(w.own a e).1, by rw [keep a (w.own a e).2]; exact (w.own a e).2⟩
  · rcases List.mem_cons.mp ha with e | e
    · subst e; exact fun z => np (List.mem_append_right _ (List.mem_append_left _ z))
    · exact w.lz a e
  · rcases List.mem_cons.mp ha with e | e
    · subst e; exact fun z => np (List.mem_append_right _ (List.mem_append_right _ z))
    · exact w.lm a e
theorem WS.set {i : Nat} {s : Option V} {d : Des} (w : WS c L H σ des) (h : SlOk c.K L c.zs (hid (c.M L) H) H s d) : WS c L H (σ.set i s) (des.set i d) := ⟨w.ex, w.own, w.zs, w.m0, w.lz, w.lm, w.sl.set h i⟩
/-- a new list becomes our own -/
theorem WS.take {p : Addr} {xs : List V} {ds : List Dt} {i : Nat} {H2 : Hp} (w : WS c L H σ des) (hp : H p = none) (g : Gr c H H2) (h2 : H2 p = some (.lst xs)) (h : RpA c.K (hid (p :: c.M L) H2) xs ds) :
    WS c (p :: L) H2 (σ.set i (some (.ref p))) (des.set i (.own p ds)) := by
  have np := w.fresh hp
  have w2 := w.gr g
  have nb : c.B p = none := fresh_back w.ex hp
  have vis : Ex (hid (c.M L) H) (hid (c.M (p :: L)) H2) := fun a o q => by
    have q2 := g.vis a o q
    obtain ⟨n, q⟩ := hid_some q
    obtain ⟨n2, q2⟩ := hid_some q2
    have ne : a ≠ p := fun z => by rw [z, hp] at q; cases q
    rw [hid_out]; exact q2
    intro z
    rcases List.mem_cons.mp z with z | z
    · exact ne z
    · exact n z
  have sl : SlA c.K (p :: L) c.zs (hid (c.M (p :: L)) H2) H2 σ des := w.sl.mono (fun a h => List.mem_cons_of_mem _ h) vis fun a ha => by
    cases q : H a with
    | none => exact absurd q (w.own a ha).2
    | some o => exact g.keep q (w.lz a ha)
  refine ⟨w2.ex, fun a ha => ?_, w2.zs, w2.m0, fun a ha => ?_, fun a ha => ?_, ?_⟩
  · rcases List.mem_cons.mp ha with e | e
    · subst e; exact ⟨nb, by rw [h2]; exact fun z => nomatch z⟩
    · exact w2.own a e
  · rcases List.mem_cons.mp ha with e | e
    · subst e; exact fun z => np (List.mem_append_right _ (List.mem_append_left _ z))
    · exact w.lz a e
  · rcases List.mem_cons.mp ha with e | e
    · subst e; exact fun z => np (List.mem_append_right _ (List.mem_append_right _ z))
    · exact w.lm a e
  · exact SlA.set (show SlOk c.K (p :: L) c.zs _ _ (some (.ref p)) (.own p ds) from ⟨rfl, List.mem_cons_self, xs, h2, h⟩) i sl
/-- a new thing becomes our own -/
theorem WS.takeX {p : Addr} {o : HO} {X : OX} {i : Nat} {H2 : Hp} (w : WS c L H σ des) (hp : H p = none) (g : Gr c H H2) (h2 : H2 p = some o) (h : X.p o (hid (p :: c.M L) H2)) :
    WS c (p :: L) H2 (σ.set i (some (.ref p))) (des.set i (.ownX p X)) := by
  have np := w.fresh hp
  have w2 := w.gr g
  have nb : c.B p = none := fresh_back w.ex hp
  have vis : Ex (hid (c.M L) H) (hid (c.M (p :: L)) H2) := fun a o q => by
    have q2 := g.vis a o q
    obtain ⟨n, q⟩ := hid_some q
    obtain ⟨n2, q2⟩ := hid_some q2
    have ne : a ≠ p := fun z => by rw [z, hp] at q; cases q
    rw [hid_out]; exact q2
    intro z
    rcases List.mem_cons.mp z with z | z
    · exact ne z
    · exact n z
  have sl : SlA c.K (p :: L) c.zs (hid (c.M (p :: L)) H2) H2 σ des := w.sl.mono (fun a h => List.mem_cons_of_mem _ h) vis fun a ha => by
    cases q : H a with
    | none => exact absurd q (w.own a ha).2
    | some o => exact g.keep q (w.lz a ha)
  refine ⟨w2.ex, fun a ha => ?_, w2.zs, w2.m0, fun a ha => ?_, fun a ha => ?_, ?_⟩
  · rcases List.mem_cons.mp ha with e | e
    · subst e; exact ⟨nb, by rw [h2]; exact fun z => nomatch z⟩
    · exact w2.own a e
  · rcases List.mem_cons.mp ha with e | e
    · subst e; exact fun z => np (List.mem_append_right _ (List.mem_append_left _ z))
    · exact w.lz a e
  · rcases List.mem_cons.mp ha with e | e
    · subst e; exact fun z => np (List.mem_append_right _ (List.mem_append_right _ z))
    · exact w.lm a e
  · exact SlA.set (show SlOk c.K (p :: L) c.zs _ _ (some (.ref p)) (.ownX p X) from ⟨rfl, List.mem_cons_self, o, h2, h⟩) i sl
/-! no slot holds the list of our own at a; all of our own are in L -/
def Fre (a : Addr) : List Des → Prop
  | [] => True
  | .own b _ :: r => b ≠ a ∧ Fre a r
  | .ownX b _ :: r => b ≠ a ∧ Fre a r
  | _ :: r => Fre a r
def OwnIn (L : List Addr) : List Des → Prop
  | [] => True
  | .own b _ :: r => b ∈ L ∧ OwnIn L r
  | .ownX b _ :: r => b ∈ L ∧ OwnIn L r
  | _ :: r => OwnIn L r
theorem SlA.fre {a : Addr} (k : ∀ b, b ≠ a → H' b = H b) : ∀ {σ : St} {des : List Des}, SlA K L Z Vs H σ des → Fre a des → SlA K L Z Vs H' σ des
  | _, _, .nil, _ => .nil
  | _, _, @SlA.cons _ _ _ _ _ s σ d ds h t, f => by
    cases d with
    | any => exact .cons trivial (SlA.fre k t f)
    | dat d => exact .cons h (SlA.fre k t f)
    | own b es => obtain ⟨h1, h2, xs, h3, h4⟩ := h; exact .cons ⟨h1, h2, xs, (k b f.1).trans h3, h4⟩ (SlA.fre k t f.2)
    | ownX b X => obtain ⟨h1, h2, xs, h3, h4⟩ := h; exact .cons ⟨h1, h2, xs, (k b f.1).trans h3, h4⟩ (SlA.fre k t f.2)
    | bag z => exact .cons h (SlA.fre k t f)
    | ref b => exact .cons h (SlA.fre k t f)
theorem SlA.less (hv : Ex Vs Vs') : ∀ {σ : St} {des : List Des}, SlA K L Z Vs H σ des → OwnIn L' des → SlA K L' Z Vs' H σ des
  | _, _, .nil, _ => .nil
  | _, _, @SlA.cons _ _ _ _ _ s σ d ds h t, f => by
    cases d with
    | any => exact .cons trivial (SlA.less hv t f)
    | dat d => obtain ⟨v, h1, h2⟩ := h; exact .cons ⟨v, h1, h2.ex hv⟩ (SlA.less hv t f)
    | own b es => obtain ⟨h1, h2, xs, h3, h4⟩ := h; exact .cons ⟨h1, f.1, xs, h3, h4.ex hv⟩ (SlA.less hv t f.2)
    | ownX b X => obtain ⟨h1, h2, o, h3, h4⟩ := h; exact .cons ⟨h1, f.1, o, h3, X.mono _ _ _ hv h4⟩ (SlA.less hv t f.2)
    | bag z => exact .cons h (SlA.less hv t f)
    | ref b => exact .cons h (SlA.less hv t f)
/-- fewer are our own -/
theorem WS.less (w : WS c L H σ des) (hL : ∀ b ∈ L', b ∈ L) (ho : OwnIn L' des) : WS c L' H σ des := by
  have vis : Ex (hid (c.M L) H) (hid (c.M L') H) := hid_sub fun b hb => by
    rcases List.mem_append.mp hb with q | q
    · exact List.mem_append_left _ (hL b q)
    · exact List.mem_append_right _ q
  exact ⟨w.ex, fun b hb => w.own b (hL b hb), w.zs, w.m0, fun b hb => w.lz b (hL b hb), fun b hb => w.lm b (hL b hb), w.sl.less vis ho⟩
/-- a list of our own is changed -/
theorem WS.put {a : Addr} {o : HO} {d : Des} {i : Nat} (w : WS c L H σ des) (ha : a ∈ L) (hf : Fre a (des.set i .any)) (hs : σ[i]? = some (some (.ref a)))
    (h : SlOk c.K L c.zs (hid (c.M L) H) (upd H a o) (some (.ref a)) d) : WS c L (upd H a o) σ (des.set i d) := by
  have hv : hid (c.M L) (upd H a o) = hid (c.M L) H := hid_upd (List.mem_append_left _ ha)
  have nz : a ∉ c.zs := w.lz a ha
  refine ⟨Ex.mut w.ex (w.own a ha).1, fun b hb => ⟨(w.own b hb).1, ?_⟩, w.bagMove fun b hb => upd_ne fun e => nz (by rw [← e]; exact List.mem_map.mpr ⟨b, hb, rfl⟩), fun b hb => ?_, w.lz, w.lm, ?_⟩
  · by_cases e : b = a
    · subst e; rw [upd_same]; exact fun z => nomatch z
    · rw [upd_ne e]; exact (w.own b hb).2
  · by_cases e : b = a
    · subst e; rw [upd_same]; exact fun z => nomatch z
    · rw [upd_ne e]; exact w.m0 b hb
  · rw [hv]
    have q : SlA c.K L c.zs (hid (c.M L) H) (upd H a o) (σ.set i (some (.ref a))) (des.set i .any) :=
      (w.sl.set (show SlOk c.K L c.zs (hid (c.M L) H) H (some (.ref a)) .any from trivial) i).fre (fun b hb => upd_ne hb) hf
    have q2 := q.set h i
    rw [List.set_set, List.set_set] at q2
    have e : σ.set i (some (.ref a)) = σ := by
      apply List.ext_getElem?
      intro j
      by_cases hj : i = j
      · subst hj
        have hlt : i < σ.length := (List.getElem?_eq_some_iff.mp hs).1
        rw [List.getElem?_set_self hlt, hs]
      · rw [List.getElem?_set_ne hj]
    rw [e] at q2
    exact q2
/-- our own becomes what stays: it is a list like any other from now on -/
theorem WS.give {a : Addr} {ds : List Dt} {i : Nat} (w : WS c L H σ des) (h : des[i]? = some (.own a ds)) (hL : ∀ b ∈ L', b ∈ L) (na : a ∉ L') (ho : OwnIn L' (des.set i .any)) : WS c L' H σ (des.set i (.dat (.lst ds))) := by
  have vis : Ex (hid (c.M L) H) (hid (c.M L') H) := hid_sub fun b hb => by
    rcases List.mem_append.mp hb with q | q
    · exact List.mem_append_left _ (hL b q)
    · exact List.mem_append_right _ q
  obtain ⟨s, hs, e, ha, xs, h3, h4⟩ := w.sl.get h
  have hv : hid (c.M L') H a = some (.lst xs) := by
    rw [hid_out]; exact h3
    intro q
    rcases List.mem_append.mp q with q | q
    · exact na q
    · rcases List.mem_append.mp q with q | q
      · exact w.lz a ha q
      · exact w.lm a ha q
  have new : SlOk c.K L' c.zs (hid (c.M L') H) H s (.dat (.lst ds)) := ⟨_, e, .lst (.inl hv) (h4.ex vis)⟩
  refine ⟨w.ex, fun b hb => w.own b (hL b hb), w.zs, w.m0, fun b hb => w.lz b (hL b hb), fun b hb => w.lm b (hL b hb), ?_⟩
  have q : SlA c.K L' c.zs (hid (c.M L') H) H (σ.set i s) (des.set i .any) := (w.sl.set (show SlOk c.K L c.zs (hid (c.M L) H) H s .any from trivial) i).less vis ho
  have q2 := q.set new i
  rw [List.set_set, List.set_set] at q2
  have e2 : σ.set i s = σ := by
    apply List.ext_getElem?
    intro j
    by_cases hj : i = j
    · subst hj
      have hlt : i < σ.length := (List.getElem?_eq_some_iff.mp hs).1
      rw [List.getElem?_set_self hlt, hs]
    · rw [List.getElem?_set_ne hj]
  rw [e2] at q2
  exact q2
/-- a thing of our own stays from now on -/
theorem WS.giveX {a : Addr} {X : OX} {i : Nat} (w : WS c L H σ des) (h : des[i]? = some (.ownX a X)) (hL : ∀ b ∈ L', b ∈ L) (na : a ∉ L') (ho : OwnIn L' (des.set i .any)) : WS c L' H σ (des.set i (.dat (.ob (obX a X)))) := by
  have vis : Ex (hid (c.M L) H) (hid (c.M L') H) := hid_sub fun b hb => by
    rcases List.mem_append.mp hb with q | q
    · exact List.mem_append_left _ (hL b q)
    · exact List.mem_append_right _ q
  obtain ⟨s, hs, e, ha, o, h3, h4⟩ := w.sl.get h
  have hv : hid (c.M L') H a = some o := by
    rw [hid_out]; exact h3
    intro q
    rcases List.mem_append.mp q with q | q
    · exact na q
    · rcases List.mem_append.mp q with q | q
      · exact w.lz a ha q
      · exact w.lm a ha q
  have new : SlOk c.K L' c.zs (hid (c.M L') H) H s (.dat (.ob (obX a X))) := ⟨_, e, .ob ⟨rfl, o, hv, X.mono _ _ _ vis h4⟩⟩
  refine ⟨w.ex, fun b hb => w.own b (hL b hb), w.zs, w.m0, fun b hb => w.lz b (hL b hb), fun b hb => w.lm b (hL b hb), ?_⟩
  have q : SlA c.K L' c.zs (hid (c.M L') H) H (σ.set i s) (des.set i .any) := (w.sl.set (show SlOk c.K L c.zs (hid (c.M L) H) H s .any from trivial) i).less vis ho
  have q2 := q.set new i
  rw [List.set_set, List.set_set] at q2
  have e2 : σ.set i s = σ := by
    apply List.ext_getElem?
    intro j
    by_cases hj : i = j
    · subst hj
      have hlt : i < σ.length := (List.getElem?_eq_some_iff.mp hs).1
      rw [List.getElem?_set_self hlt, hs]
    · rw [List.getElem?_set_ne hj]
  rw [e2] at q2
  exact q2
end
end Dl
end

section
set_option maxHeartbeats 4000000
/-! Dl2: what expressions evaluate to. -/
namespace Dl
open PySem L2 Evl
variable {c : Cn} {L : List Addr} {des : List Des}

def Ed (c : Cn) (L : List Addr) (des : List Des) (te : TE) (d : Dt) : Prop := ∀ σ H, WS c L H σ des → ∀ Q : VK, (∀ v H2, Gr c H H2 → Rp c.K (hid (c.M L) H2) v d → Q v H2) → te σ H Q
def Et (c : Cn) (L : List Addr) (des : List Des) (tt : TT) (b : Bool) : Prop := ∀ σ H, WS c L H σ des → ∀ Q : Bool → Hp → Prop, (∀ H2, Gr c H H2 → Q b H2) → tt σ H Q
def Ea (c : Cn) (L : List Addr) (des : List Des) (ta : TA) (ds : List Dt) : Prop := ∀ σ H, WS c L H σ des → ∀ Q : List V → Hp → Prop, (∀ vs H2, Gr c H H2 → RpA c.K (hid (c.M L) H2) vs ds → Q vs H2) → ta σ H Q
def Eo (c : Cn) (L : List Addr) (des : List Des) (to : TO) (o : Option Int) : Prop := ∀ σ H, WS c L H σ des → ∀ Q : Option Int → Hp → Prop, (∀ H2, Gr c H H2 → Q o H2) → to σ H Q
/-- a list that is read: one that stays or one of our own -/
def El (c : Cn) (L : List Addr) (des : List Des) (te : TE) (ds : List Dt) : Prop := ∀ σ H, WS c L H σ des → ∀ Q : VK, (∀ a xs H2, Gr c H H2 → Rd (hid c.zs H2) a (.lst xs) → RpA c.K (hid (c.M L) H2) xs ds → Q (.ref a) H2) → te σ H Q
/-- an argument list of any kind -/
def Ex1 (c : Cn) (L : List Addr) (des : List Des) (te : TE) (P : V → Hp → Prop) : Prop := ∀ σ H, WS c L H σ des → ∀ Q : VK, (∀ v H2, Gr c H H2 → P v H2 → Q v H2) → te σ H Q
def Exs (c : Cn) (L : List Addr) (des : List Des) (ta : TA) (P : List V → Hp → Prop) : Prop := ∀ σ H, WS c L H σ des → ∀ Q : List V → Hp → Prop, (∀ vs H2, Gr c H H2 → P vs H2 → Q vs H2) → ta σ H Q

section
variable {K : PySem.W.Frag} {H H' : Hp} {ta tb te tl th : TE} {d e : Dt} {i j : Int} {ds : List Dt}
theorem zsM {c : Cn} {L : List Addr} : Ex (hid (c.M L) H) (hid c.zs H) := hid_sub fun _ h => List.mem_append_right _ (List.mem_append_left _ h)
theorem Rp.up {v : V} (h : Rp c.K (hid (c.M L) H) v d) (g : Gr c H H') : Rp c.K (hid (c.M L) H') v d := h.ex g.vis
theorem RpA.up {vs : List V} (h : RpA c.K (hid (c.M L) H) vs ds) (g : Gr c H H') : RpA c.K (hid (c.M L) H') vs ds := h.ex g.vis
theorem Ed.to (h : Ed c L des te d) (q : d = e) : Ed c L des te e := q ▸ h
theorem Et.to {tt : TT} {a b : Bool} (h : Et c L des tt a) (q : a = b) : Et c L des tt b := q ▸ h
theorem El.to {es : List Dt} (h : El c L des te ds) (q : ds = es) : El c L des te es := q ▸ h

/-! ### names, constants -/
theorem ed_var {i : Nat} (h : des[i]? = some (.dat d)) : Ed c L des (tVar i) d := fun σ H w Q q => by
  obtain ⟨s, hs, v, e, hv⟩ := w.sl.get h
  exact ⟨v, by rw [hs, e], q v H (Gr.refl w) hv⟩
theorem ed_int {i : Int} : Ed c L des (tC (.int i)) (.int i) := fun σ H w Q q => q _ _ (Gr.refl w) (.int i)
theorem ed_str {x : Str} : Ed c L des (tC (.str x)) (.str x) := fun σ H w Q q => q _ _ (Gr.refl w) (.str x)
theorem ed_bl {b : Bool} : Ed c L des (tC (.bl b)) (.bl b) := fun σ H w Q q => q _ _ (Gr.refl w) (.bl b)
theorem ed_non : Ed c L des (tC .non) .non := fun σ H w Q q => q _ _ (Gr.refl w) .non
theorem ed_ob {P : OP} {v : V} (h : ∀ H, P.p v H) : Ed c L des (tC v) (.ob P) := fun σ H w Q q => q _ _ (Gr.refl w) (.ob (h _))
theorem ed_gtup {a : Addr} (h : ∀ H, ∃ xs, SqT c.K H a xs ∧ RpA c.K H xs ds) : Ed c L des (tC (.ref a)) (.tup ds) := fun σ H w Q q => by
  obtain ⟨xs, h1, h2⟩ := h (hid (c.M L) H)
  exact q _ _ (Gr.refl w) (.tup h1 h2)

/-! ### lists that are read -/
theorem Gr.seq (g : Gr c H H') {a : Addr} {xs : List V} (h : Rd (hid c.zs H) a (.lst xs)) : Rd (hid c.zs H') a (.lst xs) := ex_rd g.visZ h
theorem rd_all {a : Addr} {xs : List V} (h : Rd (hid c.zs H) a (.lst xs)) : Rd H a (.lst xs) := ex_rd hid_le h
theorem seq_all {K : PySem.W.Frag} {a : Addr} {xs : List V} (h : Rd (hid c.zs H) a (.lst xs)) : SqL K H a xs := .inl (rd_all h)
theorem el_dat (h : Ed c L des te (.lst ds)) : El c L des te ds := fun σ H w Q q => h σ H w _ fun v H2 g r => by
  obtain ⟨a, xs, e, h1, h2⟩ := r.lst_inv
  subst e
  exact q a xs H2 g (ex_rd zsM h1) h2
theorem el_own {i : Nat} {a : Addr} (h : des[i]? = some (.own a ds)) : El c L des (tVar i) ds := fun σ H w Q q => by
  obtain ⟨s, hs, e, ha, xs, h1, h2⟩ := w.sl.get h
  exact ⟨_, by rw [hs, e], q a xs H (Gr.refl w) (.inl (by rw [hid_out (w.lz a ha)]; exact h1)) h2⟩

/-! ### ints -/
theorem ed_ii {f : Int → Int → Int} (ha : Ed c L des ta (.int i)) (hb : Ed c L des tb (.int j)) : Ed c L des (tOp (rI0 fun i j => .int (f i j)) ta tb) (.int (f i j)) := fun σ H w Q q =>
  ha σ H w _ fun v H1 g1 r1 => hb σ H1 (w.gr g1) _ fun u H2 g2 r2 => ⟨i, j, r1.int_inv, r2.int_inv, q _ _ (g1.trans g2) (.int _)⟩
theorem ed_ib {f : Int → Int → Bool} (ha : Ed c L des ta (.int i)) (hb : Ed c L des tb (.int j)) : Ed c L des (tOp (rI0 fun i j => .bl (f i j)) ta tb) (.bl (f i j)) := fun σ H w Q q =>
  ha σ H w _ fun v H1 g1 r1 => hb σ H1 (w.gr g1) _ fun u H2 g2 r2 => ⟨i, j, r1.int_inv, r2.int_inv, q _ _ (g1.trans g2) (.bl _)⟩
theorem ed_iic {C : Int → Int → Prop} {f : Int → Int → Int} (ha : Ed c L des ta (.int i)) (hb : Ed c L des tb (.int j)) (hc : C i j) : Ed c L des (tOp (rI C fun i j => .int (f i j)) ta tb) (.int (f i j)) := fun σ H w Q q =>
  ha σ H w _ fun v H1 g1 r1 => hb σ H1 (w.gr g1) _ fun u H2 g2 r2 => ⟨i, j, r1.int_inv, r2.int_inv, hc, q _ _ (g1.trans g2) (.int _)⟩
theorem ed_un {f : Int → Int} (ha : Ed c L des ta (.int i)) : Ed c L des (tUn (rU fun i => .int (f i)) ta) (.int (f i)) := fun σ H w Q q =>
  ha σ H w _ fun v H1 g1 r1 => ⟨i, r1.int_inv, q _ _ g1 (.int _)⟩

/-! ### equality of scalars -/
theorem ed_eqI (ha : Ed c L des ta (.int i)) (hb : Ed c L des tb (.int j)) : Ed c L des (tOp rEq ta tb) (.bl (decide (i = j))) := fun σ H w Q q =>
  ha σ H w _ fun v H1 g1 r1 => hb σ H1 (w.gr g1) _ fun u H2 g2 r2 => by
    rw [r1.int_inv, r2.int_inv]
    refine ⟨rfl, ?_⟩
    have e : decide (V.int i = V.int j) = decide (i = j) := decide_eq_decide.mpr ⟨fun z => by injection z, fun z => by rw [z]⟩
    rw [e]; exact q _ _ (g1.trans g2) (.bl _)
theorem ed_neI (ha : Ed c L des ta (.int i)) (hb : Ed c L des tb (.int j)) : Ed c L des (tOp rNe ta tb) (.bl (!decide (i = j))) := fun σ H w Q q =>
  ha σ H w _ fun v H1 g1 r1 => hb σ H1 (w.gr g1) _ fun u H2 g2 r2 => by
    rw [r1.int_inv, r2.int_inv]
    refine ⟨rfl, ?_⟩
    have e : decide (V.int i = V.int j) = decide (i = j) := decide_eq_decide.mpr ⟨fun z => by injection z, fun z => by rw [z]⟩
    rw [e]; exact q _ _ (g1.trans g2) (.bl _)
theorem ed_eqB {a b : Bool} (ha : Ed c L des ta (.bl a)) (hb : Ed c L des tb (.bl b)) : Ed c L des (tOp rEq ta tb) (.bl (decide (a = b))) := fun σ H w Q q =>
  ha σ H w _ fun v H1 g1 r1 => hb σ H1 (w.gr g1) _ fun u H2 g2 r2 => by
    rw [r1.bl_inv, r2.bl_inv]
    refine ⟨rfl, ?_⟩
    have e : decide (V.bl a = V.bl b) = decide (a = b) := decide_eq_decide.mpr ⟨fun z => by injection z, fun z => by rw [z]⟩
    rw [e]; exact q _ _ (g1.trans g2) (.bl _)
theorem ed_neB {a b : Bool} (ha : Ed c L des ta (.bl a)) (hb : Ed c L des tb (.bl b)) : Ed c L des (tOp rNe ta tb) (.bl (!decide (a = b))) := fun σ H w Q q =>
  ha σ H w _ fun v H1 g1 r1 => hb σ H1 (w.gr g1) _ fun u H2 g2 r2 => by
    rw [r1.bl_inv, r2.bl_inv]
    refine ⟨rfl, ?_⟩
    have e : decide (V.bl a = V.bl b) = decide (a = b) := decide_eq_decide.mpr ⟨fun z => by injection z, fun z => by rw [z]⟩
    rw [e]; exact q _ _ (g1.trans g2) (.bl _)
theorem ed_eqStr {x y : Str} (ha : Ed c L des ta (.str x)) (hb : Ed c L des tb (.str y)) : Ed c L des (tOp rEq ta tb) (.bl (decide (x = y))) := fun σ H w Q q =>
  ha σ H w _ fun v H1 g1 r1 => hb σ H1 (w.gr g1) _ fun u H2 g2 r2 => by
    rw [r1.str_inv, r2.str_inv]
    refine ⟨rfl, ?_⟩
    have e : decide (V.str x = V.str y) = decide (x = y) := decide_eq_decide.mpr ⟨fun z => by injection z, fun z => by rw [z]⟩
    rw [e]; exact q _ _ (g1.trans g2) (.bl _)
theorem ed_neStr {x y : Str} (ha : Ed c L des ta (.str x)) (hb : Ed c L des tb (.str y)) : Ed c L des (tOp rNe ta tb) (.bl (!decide (x = y))) := fun σ H w Q q =>
  ha σ H w _ fun v H1 g1 r1 => hb σ H1 (w.gr g1) _ fun u H2 g2 r2 => by
    rw [r1.str_inv, r2.str_inv]
    refine ⟨rfl, ?_⟩
    have e : decide (V.str x = V.str y) = decide (x = y) := decide_eq_decide.mpr ⟨fun z => by injection z, fun z => by rw [z]⟩
    rw [e]; exact q _ _ (g1.trans g2) (.bl _)
/-- a text by its signs -/
abbrev sS (l : List Nat) : Str := ⟨l.toArray⟩
@[reducible] def eS (l : List Nat) : Dt := .str (sS l)
theorem sS_inj {l m : List Nat} : sS l = sS m ↔ l = m := ⟨fun z => by injection z with z; simpa using congrArg Array.toList z, fun z => by rw [z]⟩
theorem sS_len {l : List Nat} : (sS l).length = l.length := by show l.toArray.size = l.length; simp
theorem sS_of (z : Str) : z = sS z.cps.toList := by cases z; simp
theorem ed_eqS {x y : List Nat} (ha : Ed c L des ta (eS x)) (hb : Ed c L des tb (eS y)) : Ed c L des (tOp rEq ta tb) (.bl (decide (x = y))) :=
  (ed_eqStr ha hb).to (by rw [decide_eq_decide.mpr (sS_inj (l := x) (m := y))])
theorem ed_neS {x y : List Nat} (ha : Ed c L des ta (eS x)) (hb : Ed c L des tb (eS y)) : Ed c L des (tOp rNe ta tb) (.bl (!decide (x = y))) :=
  (ed_neStr ha hb).to (by rw [decide_eq_decide.mpr (sS_inj (l := x) (m := y))])

/-! ### None -/
def isNon : Dt → Bool
  | .non => true
  | _ => false
def notOb : Dt → Prop
  | .ob _ => False
  | _ => True
theorem Rp.isNon {v : V} (h : Rp K H v d) (n : notOb d) : decide (v = .non) = Dl.isNon d := by
  cases h <;> first | rfl | (exact n.elim) | (simp [Dl.isNon])
def rIsN : R2 := fun x y H Q => y = .non ∧ Q (.bl (decide (x = .non))) H
def rNotN : R2 := fun x y H Q => y = .non ∧ Q (.bl (!decide (x = .non))) H
theorem d_isN {X : Cx} : OpR X (compareOp .Is) rIsN := op_isN
theorem d_notN {X : Cx} : OpR X (compareOp .IsNot) rNotN := op_notN
theorem ed_isN (ha : Ed c L des ta d) (n : notOb d) : Ed c L des (tOp rIsN ta (tC .non)) (.bl (isNon d)) := fun σ H w Q q =>
  ha σ H w _ fun v H1 g1 r1 => ⟨rfl, by rw [r1.isNon n]; exact q _ _ g1 (.bl _)⟩
theorem ed_notN (ha : Ed c L des ta d) (n : notOb d) : Ed c L des (tOp rNotN ta (tC .non)) (.bl (!isNon d)) := fun σ H w Q q =>
  ha σ H w _ fun v H1 g1 r1 => ⟨rfl, by rw [r1.isNon n]; exact q _ _ g1 (.bl _)⟩

/-! ### tests -/
variable {t u : TT} {a b : Bool}
theorem et_test (h : Ed c L des te (.bl b)) : Et c L des (tTest te) b := fun σ H w Q q => h σ H w _ fun v H1 g r => ⟨b, r.bl_inv, q H1 g⟩
theorem et_B (h : Ed c L des te (.bl b)) : Et c L des (tB te) b := fun σ H w Q q => h σ H w _ fun v H1 g r => ⟨b, r.bl_inv, q H1 g⟩
theorem et_and (h1 : Et c L des t a) (h2 : a = true → Et c L des u b) : Et c L des (tAnd t u) (a && b) := fun σ H w Q q => h1 σ H w _ fun H1 g1 => by
  cases a with
  | true => exact h2 rfl σ H1 (w.gr g1) Q fun H2 g2 => q H2 (g1.trans g2)
  | false => exact q H1 g1
theorem et_or (h1 : Et c L des t a) (h2 : a = false → Et c L des u b) : Et c L des (tOr t u) (a || b) := fun σ H w Q q => h1 σ H w _ fun H1 g1 => by
  cases a with
  | true => exact q H1 g1
  | false => exact h2 rfl σ H1 (w.gr g1) Q fun H2 g2 => q H2 (g1.trans g2)
theorem et_not (h1 : Et c L des t a) : Et c L des (tNot t) (!a) := fun σ H w Q q => h1 σ H w _ fun H1 g1 => q H1 g1
theorem ed_andV (h1 : Ed c L des ta (.bl a)) (h2 : a = true → Ed c L des tb (.bl b)) : Ed c L des (tAndV ta tb) (.bl (a && b)) := fun σ H w Q q => h1 σ H w _ fun v H1 g1 r => ⟨a, r.bl_inv, by
  cases a with
  | true => exact h2 rfl σ H1 (w.gr g1) Q fun v H2 g2 r => q v H2 (g1.trans g2) r
  | false => exact q _ H1 g1 (.bl _)⟩
theorem ed_orV (h1 : Ed c L des ta (.bl a)) (h2 : a = false → Ed c L des tb (.bl b)) : Ed c L des (tOrV ta tb) (.bl (a || b)) := fun σ H w Q q => h1 σ H w _ fun v H1 g1 r => ⟨a, r.bl_inv, by
  cases a with
  | true => exact q _ H1 g1 (.bl _)
  | false => exact h2 rfl σ H1 (w.gr g1) Q fun v H2 g2 r => q v H2 (g1.trans g2) r⟩
theorem ed_notV (h1 : Ed c L des ta (.bl a)) : Ed c L des (tNotV ta) (.bl (!a)) := fun σ H w Q q => h1 σ H w _ fun v H1 g1 r => ⟨a, r.bl_inv, q _ _ g1 (.bl _)⟩
theorem ed_if {α : Type} (en : α → Dt) {x y : α} (h : Et c L des t b) (h1 : b = true → Ed c L des ta (en x)) (h2 : b = false → Ed c L des tb (en y)) : Ed c L des (tIf t ta tb) (en (cond b x y)) := fun σ H w Q q => h σ H w _ fun H1 g1 => by
  cases b with
  | true => exact h1 rfl σ H1 (w.gr g1) Q fun v H2 g2 r => q v H2 (g1.trans g2) r
  | false => exact h2 rfl σ H1 (w.gr g1) Q fun v H2 g2 r => q v H2 (g1.trans g2) r
/-- truth -/
def tTr (K : PySem.W.Frag) (ta : TE) : TT := fun σ H Q => ta σ H fun x H' => ∃ k, TruV K x H' k ∧ Q k H'
theorem pt_tr {X : Cx} {a : Expr} {ta : TE} (ha : PE X a ta) (he : ∀ whole, isTrue a X.env whole = (do let v ← whole; standAt a.pos; holding [v] (truthy v))) : PT X a (tTr X.K ta) := pt_truth ha he
theorem et_trI (h : Ed c L des ta (.int i)) : Et c L des (tTr c.K ta) (i != 0) := fun σ H w Q q => h σ H w _ fun v H1 g r => ⟨_, by rw [r.int_inv]; exact rfl, q H1 g⟩
theorem et_trB (h : Ed c L des ta (.bl b)) : Et c L des (tTr c.K ta) b := fun σ H w Q q => h σ H w _ fun v H1 g r => ⟨_, by rw [r.bl_inv]; exact rfl, q H1 g⟩
theorem et_trS {l : List Nat} (h : Ed c L des ta (eS l)) (hl : l.length ≤ 1000000) : Et c L des (tTr c.K ta) (!l.isEmpty) := fun σ H w Q q => h σ H w _ fun v H1 g r => ⟨_, by
  rw [r.str_inv]
  refine ⟨by rw [sS_len]; exact Nat.le_trans hl (by decide), ?_⟩
  rw [sS_len]
  cases l with
  | nil => rfl
  | cons x l => rw [List.length_cons]; symm; show ((l.length + 1 : Nat) : Int) != 0; simp; omega, q H1 g⟩
theorem et_trL (h : El c L des ta ds) : Et c L des (tTr c.K ta) (!ds.isEmpty) := fun σ H w Q q => h σ H w _ fun a xs H1 g s r => ⟨_, .inl ⟨xs, seq_all s, rfl⟩, by
  have e := r.length
  have : xs.isEmpty = ds.isEmpty := by cases xs <;> cases ds <;> first | rfl | (simp at e)
  rw [this]; exact q H1 g⟩
theorem et_trU (h : Ed c L des ta (.tup ds)) : Et c L des (tTr c.K ta) (!ds.isEmpty) := fun σ H w Q q => h σ H w _ fun v H1 g r => by
  obtain ⟨a, xs, e, s, r2⟩ := r.tup_inv
  subst e
  refine ⟨_, .inr (.inl ⟨xs, ex_t hid_le s, rfl⟩), ?_⟩
  have e := r2.length
  have : xs.isEmpty = ds.isEmpty := by cases xs <;> cases ds <;> first | rfl | (simp at e)
  rw [this]; exact q H1 g

/-! ### arguments, displays -/
theorem ea_nil : Ea c L des tNil [] := fun σ H w Q q => q _ _ (Gr.refl w) .nil
theorem ea_cons {tr : TA} (h : Ed c L des ta d) (hr : Ea c L des tr ds) : Ea c L des (tCons ta tr) (d :: ds) := fun σ H w Q q =>
  h σ H w _ fun v H1 g1 r1 => hr σ H1 (w.gr g1) _ fun vs H2 g2 r2 => q _ _ (g1.trans g2) (.cons (r1.up g2) r2)
theorem small {n : Nat} (h : n ≤ 10000000) : n ≤ sizeLine := Nat.le_trans h (by decide)
theorem small_lt {n : Nat} (h : n < 10000000) : n < sizeLine := Nat.lt_of_lt_of_le h (by decide)
/-- a new thing is seen -/
theorem new_vis {σ : St} (w : WS c L H σ des) {p : Addr} {o : HO} (hp : H p = none) : hid (c.M L) (upd H p o) p = some o := by rw [hid_out (w.fresh hp)]; exact upd_same
theorem Gr.new {σ : St} (w : WS c L H σ des) {p : Addr} {o : HO} (hp : H p = none) : Gr c H (upd H p o) := Gr.of_ex (Ex.new hp) w
theorem Rp.new_lst {σ : St} (w : WS c L H σ des) {p : Addr} {xs : List V} (hp : H p = none) (r : RpA c.K (hid (c.M L) H) xs ds) : Rp c.K (hid (c.M L) (upd H p (.lst xs))) (.ref p) (.lst ds) := .lst (.inl (new_vis w hp)) (r.up (Gr.new w hp))
theorem Rp.new_tup {σ : St} (w : WS c L H σ des) {p : Addr} {xs : List V} (hp : H p = none) (r : RpA c.K (hid (c.M L) H) xs ds) : Rp c.K (hid (c.M L) (upd H p (.tup xs))) (.ref p) (.tup ds) := .tup (st_of (new_vis w hp)) (r.up (Gr.new w hp))
theorem ed_tup {ta : TA} (h : Ea c L des ta ds) (hl : ds.length ≤ 10000000) : Ed c L des (tTup ta) (.tup ds) := fun σ H w Q q =>
  h σ H w _ fun vs H1 g1 r1 => ⟨small (by rw [r1.length]; exact hl), fun p hp => q _ _ (g1.trans (Gr.new (w.gr g1) hp)) (.new_tup (w.gr g1) hp r1)⟩
theorem ed_lst {ta : TA} (h : Ea c L des ta ds) (hl : ds.length ≤ 10000000) : Ed c L des (tLst ta) (.lst ds) := fun σ H w Q q =>
  h σ H w _ fun vs H1 g1 r1 => ⟨small (by rw [r1.length]; exact hl), fun p hp => q _ _ (g1.trans (Gr.new (w.gr g1) hp)) (.new_lst (w.gr g1) hp r1)⟩

/-! ### items -/
def gI {α : Type} [Inhabited α] (xs : List α) (i : Int) : α := xs.getD i.toNat default
theorem gI_get {α : Type} [Inhabited α] {xs : List α} {i : Int} (h0 : 0 ≤ i) (h1 : i < xs.length) : xs[i.toNat]? = some (gI xs i) := by
  have h2 : i.toNat < xs.length := by omega
  unfold gI
  rw [List.getD_eq_getElem?_getD, List.getElem?_eq_getElem h2]; rfl
theorem gI_map {α : Type} [Inhabited α] {xs : List α} {i : Int} (f : α → Dt) (h0 : 0 ≤ i) (h1 : i < xs.length) : (xs.map f)[i.toNat]? = some (f (gI xs i)) := by
  rw [List.getElem?_map, gI_get h0 h1]; rfl
theorem atI_of {α : Type} {xs : List α} {i : Int} {v : α} (h0 : 0 ≤ i) (h : xs[i.toNat]? = some v) : atI xs i = some v := by
  have e : i = ((i.toNat : Nat) : Int) := by omega
  rw [e]; exact atI_nat h
theorem ed_ixL {α : Type} [Inhabited α] {f : α → Dt} {xs : List α} (ha : El c L des ta (xs.map f)) (hb : Ed c L des tb (.int i)) (h0 : 0 ≤ i) (h1 : i < xs.length) : Ed c L des (tOp (rIxL c.K) ta tb) (f (gI xs i)) := fun σ H w Q q =>
  ha σ H w _ fun a vs H1 g1 s1 r1 => hb σ H1 (w.gr g1) _ fun u H2 g2 r2 => by
    obtain ⟨v, e, rv⟩ := r1.get (gI_map f h0 h1)
    exact ⟨a, vs, i, v, rfl, r2.int_inv, seq_all (g2.seq s1), atI_of h0 e, q _ _ (g1.trans g2) (rv.up g2)⟩
theorem ed_ixLd {k : Nat} (ha : El c L des ta ds) (hb : Ed c L des tb (.int k)) (h : ds[k]? = some d) : Ed c L des (tOp (rIxL c.K) ta tb) d := fun σ H w Q q =>
  ha σ H w _ fun a vs H1 g1 s1 r1 => hb σ H1 (w.gr g1) _ fun u H2 g2 r2 => by
    obtain ⟨v, e, rv⟩ := r1.get h
    exact ⟨a, vs, _, v, rfl, r2.int_inv, seq_all (g2.seq s1), atI_nat e, q _ _ (g1.trans g2) (rv.up g2)⟩
theorem ed_ixT {k : Nat} (ha : Ed c L des ta (.tup ds)) (hb : Ed c L des tb (.int k)) (h : ds[k]? = some d) : Ed c L des (tOp (rIxT c.K) ta tb) d := fun σ H w Q q =>
  ha σ H w _ fun v1 H1 g1 r1 => hb σ H1 (w.gr g1) _ fun u H2 g2 r2 => by
    obtain ⟨a, xs, e1, s, r⟩ := (r1.up g2).tup_inv
    obtain ⟨v, e, rv⟩ := r.get h
    exact ⟨a, xs, _, v, e1, r2.int_inv, ex_t hid_le s, atI_nat e, q _ _ (g1.trans g2) rv⟩
theorem ed_ixTL {α : Type} [Inhabited α] {f : α → Dt} {xs : List α} (ha : Ed c L des ta (.tup (xs.map f))) (hb : Ed c L des tb (.int i)) (h0 : 0 ≤ i) (h1 : i < xs.length) : Ed c L des (tOp (rIxT c.K) ta tb) (f (gI xs i)) := fun σ H w Q q =>
  ha σ H w _ fun v1 H1 g1 r1 => hb σ H1 (w.gr g1) _ fun u H2 g2 r2 => by
    obtain ⟨a, xs, e1, s, r⟩ := (r1.up g2).tup_inv
    obtain ⟨v, e, rv⟩ := r.get (gI_map f h0 h1)
    exact ⟨a, xs, i, v, e1, r2.int_inv, ex_t hid_le s, atI_of h0 e, q _ _ (g1.trans g2) rv⟩
theorem ed_ixS {l : List Nat} (ha : Ed c L des ta (eS l)) (hb : Ed c L des tb (.int i)) (h0 : 0 ≤ i) (h1 : i < l.length) (hz : l.length ≤ 1000000) : Ed c L des (tOp rIxS ta tb) (eS [gI l i]) := fun σ H w Q q =>
  ha σ H w _ fun v1 H1 g1 r1 => hb σ H1 (w.gr g1) _ fun u H2 g2 r2 => by
    refine ⟨sS l, i, gI l i, r1.str_inv, r2.int_inv, by rw [sS_len]; exact Nat.le_trans hz (by decide), ?_, q _ _ (g1.trans g2) (.str _)⟩
    show atI l.toArray.toList i = _
    rw [show l.toArray.toList = l by simp]
    exact atI_of h0 (gI_get h0 h1)

/-! ### slices -/
def cutA {α : Type} (xs : List α) (lo hi : Option Int) : List α := (xs.drop (HT.sIx xs.length 0 lo)).take (HT.sIx xs.length xs.length hi - HT.sIx xs.length 0 lo)
theorem cutA_map {α β : Type} (f : α → β) (xs : List α) (lo hi : Option Int) : cutA (xs.map f) lo hi = (cutA xs lo hi).map f := by
  unfold cutA; rw [List.length_map, List.map_take, List.map_drop]
theorem RpA.cut {vs : List V} (r : RpA K H vs ds) (lo hi : Option Int) : RpA K H (cutV vs lo hi) (cutA ds lo hi) := by
  unfold cutV cutA; rw [r.length]; exact (r.drop _).take _
variable {tlo thi : TO} {lo hi : Option Int}
theorem eo_none : Eo c L des tNoPart none := fun σ H w Q q => q _ (Gr.refl w)
theorem eo_some (h : Ed c L des te (.int i)) : Eo c L des (tPart te) (some i) := fun σ H w Q q => h σ H w _ fun v H1 g r => ⟨i, r.int_inv, q _ g⟩
theorem ed_slL {α : Type} {f : α → Dt} {xs : List α} (ha : El c L des te (xs.map f)) (h1 : Eo c L des tlo lo) (h2 : Eo c L des thi hi) : Ed c L des (tSl (rSlL c.K) te tlo thi) (.lst ((cutA xs lo hi).map f)) := fun σ H w Q q =>
  ha σ H w _ fun a vs H1 g1 s1 r1 => h1 σ H1 (w.gr g1) _ fun H2 g2 => h2 σ H2 (w.gr (g1.trans g2)) _ fun H3 g3 =>
    ⟨a, vs, rfl, seq_all ((g2.trans g3).seq s1), fun p hp => q _ _ ((g1.trans (g2.trans g3)).trans (Gr.new (w.gr (g1.trans (g2.trans g3))) hp)) (.new_lst (w.gr (g1.trans (g2.trans g3))) hp (by
      rw [← cutA_map]; exact (r1.up (g2.trans g3)).cut lo hi))⟩
theorem ed_slS {l : List Nat} (ha : Ed c L des te (eS l)) (h1 : Eo c L des tlo lo) (h2 : Eo c L des thi hi) (hz : l.length ≤ 1000000) : Ed c L des (tSl rSlS te tlo thi) (eS (cutA l lo hi)) := fun σ H w Q q =>
  ha σ H w _ fun v H1 g1 r1 => h1 σ H1 (w.gr g1) _ fun H2 g2 => h2 σ H2 (w.gr (g1.trans g2)) _ fun H3 g3 => by
    refine ⟨sS l, r1.str_inv, by rw [sS_len]; exact Nat.le_trans hz (by decide), ?_⟩
    have e : cutS (sS l) lo hi = sS (cutA l lo hi) := by
      unfold cutS cutA
      rw [sS_len, show (sS l).cps.toList = l by show l.toArray.toList = l; simp]
    rw [e]; exact q _ _ (g1.trans (g2.trans g3)) (.str _)
theorem ed_slT {α : Type} {f : α → Dt} {xs : List α} (ha : Ed c L des te (.tup (xs.map f))) (h1 : Eo c L des tlo lo) (h2 : Eo c L des thi hi) : Ed c L des (tSl (rSlA c.K) te tlo thi) (.tup ((cutA xs lo hi).map f)) := fun σ H w Q q =>
  ha σ H w _ fun v H1 g1 r1 => h1 σ H1 (w.gr g1) _ fun H2 g2 => h2 σ H2 (w.gr (g1.trans g2)) _ fun H3 g3 => by
    obtain ⟨a, vs, e1, s, r⟩ := (r1.up (g2.trans g3)).tup_inv
    have g := g1.trans (g2.trans g3)
    refine ⟨a, vs, e1, ex_t hid_le s, fun hw => ?_, fun hw p hp => ?_⟩
    · have z : cutA xs lo hi = xs := by
        unfold cutA
        have e := r.length
        rw [List.length_map] at e
        rw [e] at hw
        rw [hw.1, hw.2, List.drop_zero, Nat.sub_zero, List.take_length]
      refine q _ _ g ?_
      rw [z]; exact .tup s r
    · refine q _ _ (g.trans (Gr.new (w.gr g) hp)) (.new_tup (w.gr g) hp ?_)
      rw [← cutA_map]; exact r.cut lo hi

/-! ### len -/
def rLenS (K : PySem.W.Frag) : List V → Hp → VK → Prop := fun xs H Q => ∃ p ys, xs = [.ref p] ∧ (SqL K H p ys ∨ SqT K H p ys) ∧ Q (.int ys.length) H
theorem d_len {X : Cx} : CallR X (.builtin "len") (rLenS X.K) := call_len_seq
def rLenT : List V → Hp → VK → Prop := fun xs H Q => ∃ z, xs = [.str z] ∧ z.length ≤ sizeLine ∧ Q (.int z.length) H
theorem d_lenS {X : Cx} : CallR X (.builtin "len") rLenT := call_len_str
theorem ed_len {α : Type} {f : α → Dt} {xs : List α} (h : El c L des ta (xs.map f)) : Ed c L des (tCB (rLenS c.K) (tCons ta tNil)) (.int (xs.length : Int)) := fun σ H w Q q =>
  h σ H w _ fun a vs H1 g1 s1 r1 => ⟨a, vs, rfl, .inl (seq_all s1), by rw [r1.length, List.length_map]; exact q _ _ g1 (.int _)⟩
theorem ed_lenT (h : Ed c L des ta (.tup ds)) : Ed c L des (tCB (rLenS c.K) (tCons ta tNil)) (.int (ds.length : Int)) := fun σ H w Q q =>
  h σ H w _ fun v H1 g1 r1 => by
    obtain ⟨a, xs, e1, s, r⟩ := r1.tup_inv
    subst e1
    exact ⟨a, xs, rfl, .inr (ex_t hid_le s), by rw [r.length]; exact q _ _ g1 (.int _)⟩
theorem ed_lenTL {α : Type} {f : α → Dt} {xs : List α} (h : Ed c L des ta (.tup (xs.map f))) : Ed c L des (tCB (rLenS c.K) (tCons ta tNil)) (.int (xs.length : Int)) := (ed_lenT h).to (by rw [List.length_map])
theorem ed_lenS {l : List Nat} (h : Ed c L des ta (eS l)) (hz : l.length ≤ 1000000) : Ed c L des (tCB rLenT (tCons ta tNil)) (.int (l.length : Int)) := fun σ H w Q q =>
  h σ H w _ fun v H1 g1 r1 => ⟨sS l, by rw [r1.str_inv], by rw [sS_len]; exact Nat.le_trans hz (by decide), by rw [sS_len]; exact q _ _ g1 (.int _)⟩

/-! ### +, in -/
def rCatL : R2 := fun x y H Q => ∃ l b xs zs, x = .ref l ∧ y = .ref b ∧ Rd H l (.lst xs) ∧ Rd H b (.lst zs) ∧ xs.length + zs.length ≤ sizeLine ∧ ∀ p, H p = none → Q (.ref p) (upd H p (.lst (xs ++ zs)))
theorem rd_raw {X : Cx} {pins : List (Addr × Obj)} {σ : St} {s : Shared} {H : Hp} {l : Addr} {xs : List V} (I : L2.Inv X pins σ H s) (h : Rd H l (.lst xs)) : ∃ (its : List Value) (n : Nat), Vals xs its ∧ s.heap.get? l = some { cls := .type "list", data := .seq its.toArray n } := by
  obtain ⟨_, its, n, r, e⟩ := h.ok I.hok
  exact ⟨its, n, r, e⟩
theorem d_cat {X : Cx} : OpR X (binaryOp .Add) rCatL := by
  intro pins s σ H x y v u Q I rx ry h
  obtain ⟨l, b, xs, zs, rfl, rfl, hH, hB, hz, q⟩ := h
  cases rx
  cases ry
  obtain ⟨its, n, r, e⟩ := rd_raw I hH
  obtain ⟨its2, n2, r2, e2⟩ := rd_raw I hB
  have q1 := r.length
  have q2 := r2.length
  refine PySem.P.add_list e e2 ?_ (by rw [List.size_toArray, List.size_toArray]; omega)
  have ea : its.toArray ++ its2.toArray = (its ++ its2).toArray := by simp
  rw [ea]
  exact ⟨.ref _, _, I.lnew (t' := s.toks) (r.append r2) (by rw [List.length_append]; omega), rfl, q _ I.fresh⟩
theorem ed_cat {α : Type} {f : α → Dt} {xs ys : List α} (ha : El c L des ta (xs.map f)) (hb : El c L des tb (ys.map f)) (hz : xs.length + ys.length ≤ 10000000) : Ed c L des (tOp rCatL ta tb) (.lst ((xs ++ ys).map f)) := fun σ H w Q q =>
  ha σ H w _ fun a vs H1 g1 s1 r1 => hb σ H1 (w.gr g1) _ fun b us H2 g2 s2 r2 => by
    have e1 := r1.length
    have e2 := r2.length
    rw [List.length_map] at e1 e2
    refine ⟨a, b, vs, us, rfl, rfl, rd_all (g2.seq s1), rd_all s2, small (by omega), fun p hp => q _ _ ((g1.trans g2).trans (Gr.new (w.gr (g1.trans g2)) hp)) (.new_lst (w.gr (g1.trans g2)) hp ?_)⟩
    rw [List.map_append]; exact (r1.up g2).append r2
def rCatS : R2 := fun x y H Q => ∃ i j, x = .str i ∧ y = .str j ∧ i.length + j.length ≤ sizeLine ∧ Q (.str (i ++ j)) H
theorem d_catS {X : Cx} : OpR X (binaryOp .Add) rCatS := op_add_str
theorem sS_append (l m : List Nat) : sS l ++ sS m = sS (l ++ m) := by
  show (⟨l.toArray ++ m.toArray⟩ : Str) = ⟨(l ++ m).toArray⟩
  simp
theorem ed_catS {x y : List Nat} (ha : Ed c L des ta (eS x)) (hb : Ed c L des tb (eS y)) (hz : x.length + y.length ≤ 1000000) : Ed c L des (tOp rCatS ta tb) (eS (x ++ y)) := fun σ H w Q q =>
  ha σ H w _ fun v H1 g1 r1 => hb σ H1 (w.gr g1) _ fun u H2 g2 r2 =>
    ⟨sS x, sS y, r1.str_inv, r2.str_inv, by rw [sS_len, sS_len]; exact Nat.le_trans hz (by decide), by rw [sS_append]; exact q _ _ (g1.trans g2) (.str _)⟩
def rInS : R2 := fun x y H Q => ∃ (c : Nat) (z : Str), x = .str ⟨#[c]⟩ ∧ y = .str z ∧ Q (.bl (decide (c ∈ z.cps.toList))) H
def rNotInS : R2 := fun x y H Q => ∃ (c : Nat) (z : Str), x = .str ⟨#[c]⟩ ∧ y = .str z ∧ Q (.bl (!decide (c ∈ z.cps.toList))) H
theorem d_inS {X : Cx} : OpR X (compareOp .In) rInS := op_in_sign
theorem d_notInS {X : Cx} : OpR X (compareOp .NotIn) rNotInS := op_notIn_sign
theorem ed_inS {k : Nat} {z : Str} (ha : Ed c L des ta (eS [k])) (hb : Ed c L des tb (.str z)) : Ed c L des (tOp rInS ta tb) (.bl (decide (k ∈ z.cps.toList))) := fun σ H w Q q =>
  ha σ H w _ fun v H1 g1 r1 => hb σ H1 (w.gr g1) _ fun u H2 g2 r2 => ⟨k, z, r1.str_inv, r2.str_inv, q _ _ (g1.trans g2) (.bl _)⟩
theorem ed_notInS {k : Nat} {z : Str} (ha : Ed c L des ta (eS [k])) (hb : Ed c L des tb (.str z)) : Ed c L des (tOp rNotInS ta tb) (.bl (!decide (k ∈ z.cps.toList))) := fun σ H w Q q =>
  ha σ H w _ fun v H1 g1 r1 => hb σ H1 (w.gr g1) _ fun u H2 g2 r2 => ⟨k, z, r1.str_inv, r2.str_inv, q _ _ (g1.trans g2) (.bl _)⟩
theorem inV_ints (k : Int) : ∀ ns : List Int, inV (.int k) (ns.map V.int) = decide (k ∈ ns)
  | [] => rfl
  | n :: ns => by
    have ih := inV_ints k ns
    unfold inV at ih ⊢
    rw [List.map_cons, List.any_cons, ih]
    have e : eqV (V.int n) (V.int k) = decide (n = k) := by
      by_cases h : n = k
      · subst h; simp [eqV]
      · simp [eqV, h]
    rw [e]
    by_cases h : n = k
    · subst h; simp
    · have h' : ¬ k = n := fun z => h z.symm
      simp [h, h']
theorem inV_strs (k : Str) : ∀ ns : List Str, inV (.str k) (ns.map V.str) = decide (k ∈ ns)
  | [] => rfl
  | n :: ns => by
    have ih := inV_strs k ns
    unfold inV at ih ⊢
    rw [List.map_cons, List.any_cons, ih]
    have e : eqV (V.str n) (V.str k) = decide (n = k) := by
      by_cases h : n = k
      · subst h; simp [eqV]
      · simp [eqV, h]
    rw [e]
    by_cases h : n = k
    · subst h; simp
    · have h' : ¬ k = n := fun z => h z.symm
      simp [h, h']
theorem flat_ints (ns : List Int) : (ns.map V.int).all flatV = true := by simp [flatV]
theorem flat_strs (ns : List Str) : (ns.map V.str).all flatV = true := by simp [flatV]
theorem ed_inI {ns : List Int} (ha : Ed c L des ta (.int i)) (hb : El c L des tb (ns.map .int)) : Ed c L des (tOp (rIn c.K false) ta tb) (.bl (decide (i ∈ ns))) := fun σ H w Q q =>
  ha σ H w _ fun v H1 g1 r1 => hb σ H1 (w.gr g1) _ fun a xs H2 g2 s2 r2 => by
    rw [r2.ints] at s2
    refine ⟨a, _, rfl, .inl (seq_all s2), by rw [r1.int_inv]; rfl, flat_ints ns, ?_⟩
    rw [r1.int_inv, inV_ints]; exact q _ _ (g1.trans g2) (.bl _)
theorem ed_notInI {ns : List Int} (ha : Ed c L des ta (.int i)) (hb : El c L des tb (ns.map .int)) : Ed c L des (tOp (rIn c.K true) ta tb) (.bl (!decide (i ∈ ns))) := fun σ H w Q q =>
  ha σ H w _ fun v H1 g1 r1 => hb σ H1 (w.gr g1) _ fun a xs H2 g2 s2 r2 => by
    rw [r2.ints] at s2
    refine ⟨a, _, rfl, .inl (seq_all s2), by rw [r1.int_inv]; rfl, flat_ints ns, ?_⟩
    rw [r1.int_inv, inV_ints]; exact q _ _ (g1.trans g2) (.bl _)
theorem ed_notInTs {k : Str} {ns : List Str} (ha : Ed c L des ta (.str k)) (hb : Ed c L des tb (.tup (ns.map .str))) : Ed c L des (tOp (rIn c.K true) ta tb) (.bl (!decide (k ∈ ns))) := fun σ H w Q q =>
  ha σ H w _ fun v H1 g1 r1 => hb σ H1 (w.gr g1) _ fun u H2 g2 r2 => by
    obtain ⟨a, xs, e1, s2, r⟩ := r2.tup_inv
    rw [r.strs] at s2
    refine ⟨a, _, e1, .inr (ex_t hid_le s2), by rw [r1.str_inv]; rfl, flat_strs ns, ?_⟩
    rw [r1.str_inv, inV_strs]; exact q _ _ (g1.trans g2) (.bl _)

/-! ### built-ins of ints -/
def rMax2 : List V → Hp → VK → Prop := fun xs H Q => ∃ i j, xs = [.int i, .int j] ∧ Q (.int (if j > i then j else i)) H
def rMin2 : List V → Hp → VK → Prop := fun xs H Q => ∃ i j, xs = [.int i, .int j] ∧ Q (.int (if j < i then j else i)) H
theorem d_max2 {X : Cx} (hc : X.calm = true) : CallR X (.builtin "max") rMax2 := call_max2 hc
theorem d_min2 {X : Cx} (hc : X.calm = true) : CallR X (.builtin "min") rMin2 := call_min2 hc
theorem ed_max2 (ha : Ed c L des ta (.int i)) (hb : Ed c L des tb (.int j)) : Ed c L des (tCB rMax2 (tCons ta (tCons tb tNil))) (.int (max i j)) := fun σ H w Q q =>
  ha σ H w _ fun v H1 g1 r1 => hb σ H1 (w.gr g1) _ fun u H2 g2 r2 => ⟨i, j, by rw [r1.int_inv, r2.int_inv], by
    have e : (if j > i then j else i) = max i j := by rw [Int.max_def]; split <;> split <;> omega
    rw [e]; exact q _ _ (g1.trans g2) (.int _)⟩
theorem ed_min2 (ha : Ed c L des ta (.int i)) (hb : Ed c L des tb (.int j)) : Ed c L des (tCB rMin2 (tCons ta (tCons tb tNil))) (.int (min i j)) := fun σ H w Q q =>
  ha σ H w _ fun v H1 g1 r1 => hb σ H1 (w.gr g1) _ fun u H2 g2 r2 => ⟨i, j, by rw [r1.int_inv, r2.int_inv], by
    have e : (if j < i then j else i) = min i j := by rw [Int.min_def]; split <;> split <;> omega
    rw [e]; exact q _ _ (g1.trans g2) (.int _)⟩
/-- the greatest, the least of a list -/
def maxI : List Int → Int
  | [] => 0
  | x :: xs => xs.foldl max x
def minI : List Int → Int
  | [] => 0
  | x :: xs => xs.foldl min x
theorem foldl_max_spec : ∀ (xs : List Int) (x : Int), (xs.foldl max x = x ∨ xs.foldl max x ∈ xs) ∧ x ≤ xs.foldl max x ∧ ∀ y ∈ xs, y ≤ xs.foldl max x
  | [], x => ⟨.inl rfl, Int.le_refl _, by simp⟩
  | a :: xs, x => by
    obtain ⟨h1, h2, h3⟩ := foldl_max_spec xs (max x a)
    rw [List.foldl_cons]
    refine ⟨?_, by omega, ?_⟩
    · rcases h1 with h1 | h1
      · rw [h1]
        by_cases q : x ≤ a
        · right; rw [Int.max_eq_right q]; exact List.mem_cons_self
        · left; rw [Int.max_eq_left (by omega)]
      · exact .inr (List.mem_cons_of_mem _ h1)
    · intro y hy
      rcases List.mem_cons.mp hy with e | e
      · subst e; omega
      · exact h3 y e
theorem foldl_min_spec : ∀ (xs : List Int) (x : Int), (xs.foldl min x = x ∨ xs.foldl min x ∈ xs) ∧ xs.foldl min x ≤ x ∧ ∀ y ∈ xs, xs.foldl min x ≤ y
  | [], x => ⟨.inl rfl, Int.le_refl _, by simp⟩
  | a :: xs, x => by
    obtain ⟨h1, h2, h3⟩ := foldl_min_spec xs (min x a)
    rw [List.foldl_cons]
    refine ⟨?_, by omega, ?_⟩
    · rcases h1 with h1 | h1
      · rw [h1]
        by_cases q : x ≤ a
        · left; rw [Int.min_eq_left q]
        · right; rw [Int.min_eq_right (by omega)]; exact List.mem_cons_self
      · exact .inr (List.mem_cons_of_mem _ h1)
    · intro y hy
      rcases List.mem_cons.mp hy with e | e
      · subst e; omega
      · exact h3 y e
theorem maxI_spec {ns : List Int} (h : ns ≠ []) : maxI ns ∈ ns ∧ ∀ y ∈ ns, y ≤ maxI ns := by
  cases ns with
  | nil => exact absurd rfl h
  | cons x xs =>
    obtain ⟨h1, h2, h3⟩ := foldl_max_spec xs x
    refine ⟨?_, fun y hy => ?_⟩
    · rcases h1 with h1 | h1
      · show xs.foldl max x ∈ x :: xs
        rw [h1]; exact List.mem_cons_self
      · exact List.mem_cons_of_mem _ h1
    · rcases List.mem_cons.mp hy with e | e
      · subst e; exact h2
      · exact h3 y e
theorem minI_spec {ns : List Int} (h : ns ≠ []) : minI ns ∈ ns ∧ ∀ y ∈ ns, minI ns ≤ y := by
  cases ns with
  | nil => exact absurd rfl h
  | cons x xs =>
    obtain ⟨h1, h2, h3⟩ := foldl_min_spec xs x
    refine ⟨?_, fun y hy => ?_⟩
    · rcases h1 with h1 | h1
      · show xs.foldl min x ∈ x :: xs
        rw [h1]; exact List.mem_cons_self
      · exact List.mem_cons_of_mem _ h1
    · rcases List.mem_cons.mp hy with e | e
      · subst e; exact h2
      · exact h3 y e
theorem ed_maxL {ns : List Int} (h : El c L des ta (ns.map .int)) (hn : 0 < ns.length) : Ed c L des (tCB (rMax c.K) (tCons ta tNil)) (.int (maxI ns)) := fun σ H w Q q =>
  h σ H w _ fun a vs H1 g1 s1 r1 => by
    rw [r1.ints] at s1
    refine ⟨a, ns, rfl, seq_all s1, hn, fun m hm hle => ?_⟩
    have hne : ns ≠ [] := fun z => by rw [z] at hn; exact absurd hn (by decide)
    have e : m = maxI ns := Int.le_antisymm ((maxI_spec hne).2 m hm) (hle _ (maxI_spec hne).1)
    rw [e]; exact q _ _ g1 (.int _)
theorem ed_minL {ns : List Int} (h : El c L des ta (ns.map .int)) (hn : 0 < ns.length) : Ed c L des (tCB (rMin c.K) (tCons ta tNil)) (.int (minI ns)) := fun σ H w Q q =>
  h σ H w _ fun a vs H1 g1 s1 r1 => by
    rw [r1.ints] at s1
    refine ⟨a, ns, rfl, seq_all s1, hn, fun m hm hle => ?_⟩
    have hne : ns ≠ [] := fun z => by rw [z] at hn; exact absurd hn (by decide)
    have e : m = minI ns := Int.le_antisymm (hle _ (minI_spec hne).1) ((minI_spec hne).2 m hm)
    rw [e]; exact q _ _ g1 (.int _)
theorem ed_sum {ns : List Int} (h : El c L des ta (ns.map .int)) : Ed c L des (tCB (rSum c.K) (tCons ta tNil)) (.int ns.sum) := fun σ H w Q q =>
  h σ H w _ fun a vs H1 g1 s1 r1 => by
    rw [r1.ints] at s1
    exact ⟨a, ns, rfl, seq_all s1, q _ _ g1 (.int _)⟩
theorem ed_any {ns : List Bool} (h : El c L des ta (ns.map .bl)) : Ed c L des (tCB (rAny c.K) (tCons ta tNil)) (.bl (ns.any id)) := fun σ H w Q q =>
  h σ H w _ fun a vs H1 g1 s1 r1 => by
    rw [r1.bls] at s1
    exact ⟨a, ns, rfl, seq_all s1, q _ _ g1 (.bl _)⟩
theorem ed_all {ns : List Bool} (h : El c L des ta (ns.map .bl)) : Ed c L des (tCB (rAll c.K) (tCons ta tNil)) (.bl (ns.all id)) := fun σ H w Q q =>
  h σ H w _ fun a vs H1 g1 s1 r1 => by
    rw [r1.bls] at s1
    exact ⟨a, ns, rfl, seq_all s1, q _ _ g1 (.bl _)⟩
def rInt1 : List V → Hp → VK → Prop := fun xs H Q => (∃ i, xs = [.int i] ∧ Q (.int i) H) ∨ ∃ k, xs = [.bl k] ∧ Q (.int (if k then 1 else 0)) H
theorem d_int {X : Cx} : CallR X (.type "int") rInt1 := call_int1
theorem ed_int1 (h : Ed c L des ta (.int i)) : Ed c L des (tCB rInt1 (tCons ta tNil)) (.int i) := fun σ H w Q q =>
  h σ H w _ fun v H1 g1 r1 => .inl ⟨i, by rw [r1.int_inv], q _ _ g1 (.int _)⟩
def rListOf (K : PySem.W.Frag) : List V → Hp → VK → Prop := fun xs H Q => ∃ p ys, xs = [.ref p] ∧ (SqL K H p ys ∨ SqT K H p ys) ∧ ∀ l, H l = none → Q (.ref l) (upd H l (.lst ys))
theorem d_list {X : Cx} : CallR X (.type "list") (rListOf X.K) := call_list_of
theorem ed_listL (h : El c L des ta ds) : Ed c L des (tCB (rListOf c.K) (tCons ta tNil)) (.lst ds) := fun σ H w Q q =>
  h σ H w _ fun a vs H1 g1 s1 r1 => ⟨a, vs, rfl, .inl (seq_all s1), fun l hl => q _ _ (g1.trans (Gr.new (w.gr g1) hl)) (.new_lst (w.gr g1) hl r1)⟩
theorem ed_listT (h : Ed c L des ta (.tup ds)) : Ed c L des (tCB (rListOf c.K) (tCons ta tNil)) (.lst ds) := fun σ H w Q q =>
  h σ H w _ fun v H1 g1 r1 => by
    obtain ⟨a, xs, e1, s, r⟩ := r1.tup_inv
    subst e1
    exact ⟨a, xs, rfl, .inr (ex_t hid_le s), fun l hl => q _ _ (g1.trans (Gr.new (w.gr g1) hl)) (.new_lst (w.gr g1) hl r)⟩
def rTupOf (K : PySem.W.Frag) : List V → Hp → VK → Prop := fun xs H Q => ∃ p ys, xs = [.ref p] ∧ ((SqL K H p ys ∧ ∀ l, H l = none → Q (.ref l) (upd H l (.tup ys))) ∨ (SqT K H p ys ∧ Q (.ref p) H))
theorem d_tuple {X : Cx} : CallR X (.type "tuple") (rTupOf X.K) := call_tuple_of
theorem ed_tupL (h : El c L des ta ds) : Ed c L des (tCB (rTupOf c.K) (tCons ta tNil)) (.tup ds) := fun σ H w Q q =>
  h σ H w _ fun a vs H1 g1 s1 r1 => ⟨a, vs, rfl, .inl ⟨seq_all s1, fun l hl => q _ _ (g1.trans (Gr.new (w.gr g1) hl)) (.new_tup (w.gr g1) hl r1)⟩⟩
end
end Dl
end

section
set_option maxHeartbeats 4000000
/-! Dl3: what is walked, comprehensions, statements, loops, calls, defs. -/
namespace Dl
open PySem L2 Evl
variable {c : Cn} {L L' : List Addr} {des des' : List Des}

/-! ### what is walked -/
def ItOk (K : PySem.W.Frag) (J : It) (Vz Vv : Hp) (xs : List Dt) : Prop := ∀ (i : Nat) (H' : Hp), Ex Vz H' →
  (i < xs.length → J.go i H') ∧ (i = xs.length → J.stop i H') ∧ ∀ v H'', J.yld i H' v H'' → i < xs.length → Ex H' H'' ∧ ∀ M : List Addr, (∀ a ∈ M, H' a ≠ none) → Ex Vv (hid M H') → ∃ d, xs[i]? = some d ∧ Rp K (hid M H'') v d
/-- for a comprehension; for a loop (whose turns may change what is our own) -/
def WalkE (c : Cn) (L : List Addr) (des : List Des) (wi : TI) (xs : List Dt) : Prop := ∀ σ H, WS c L H σ des → ∀ R : It → Hp → Prop, (∀ J H1, Gr c H H1 → ItOk c.K J (hid c.zs H1) (hid (c.M L) H1) xs → R J H1) → wi σ H R
def WalkI (c : Cn) (L : List Addr) (des : List Des) (wi : TI) (xs : List Dt) : Prop := ∀ σ H, WS c L H σ des → ∀ R : It → Hp → Prop, (∀ J H1, Gr c H H1 → ItOk c.K J (hid (c.M L) H1) (hid (c.M L) H1) xs → R J H1) → wi σ H R
theorem WalkI.e {wi : TI} {xs : List Dt} (h : WalkI c L des wi xs) : WalkE c L des wi xs := fun σ H w R q => h σ H w R fun J H1 g k => q J H1 g fun i H' e => k i H' ((zsM (c := c) (L := L)).trans e)
section
variable {K : PySem.W.Frag} {H H' Vz Vv : Hp} {ta tb te tl : TE} {d : Dt} {i j : Int} {ds : List Dt}
theorem itOk_list {a : Addr} {vs : List V} (h : Rd Vz a (.lst vs)) (r : RpA K Vv vs ds) : ItOk K (Itl K a) Vz Vv ds := fun i H' e => by
  have h' : SqL K H' a vs := .inl (ex_rd e h)
  have el := r.length
  refine ⟨fun hi => ?_, fun hi => ⟨vs, h', by omega⟩, fun v H'' y hi => ?_⟩
  · obtain ⟨v, e1, _⟩ := r.get (List.getElem?_eq_getElem hi)
    exact ⟨vs, v, h', e1⟩
  · obtain ⟨e1, y⟩ := y
    subst e1
    refine ⟨Ex.refl _, fun M _ hv => ?_⟩
    obtain ⟨d, e2, rd⟩ := r.getV (y vs h')
    exact ⟨d, e2, rd.ex hv⟩
theorem itOk_tup {a : Addr} {vs : List V} (h : SqT K Vz a vs) (r : RpA K Vv vs ds) : ItOk K (Itt K a) Vz Vv ds := fun i H' e => by
  have h' : SqT K H' a vs := ex_t e h
  have el := r.length
  refine ⟨fun hi => ?_, fun hi => ⟨vs, h', by omega⟩, fun v H'' y hi => ?_⟩
  · obtain ⟨v, e1, _⟩ := r.get (List.getElem?_eq_getElem hi)
    exact ⟨vs, v, h', e1⟩
  · obtain ⟨e1, y⟩ := y
    subst e1
    refine ⟨Ex.refl _, fun M _ hv => ?_⟩
    obtain ⟨d, e2, rd⟩ := r.getV (y vs h')
    exact ⟨d, e2, rd.ex hv⟩
/-- lo, lo + 1, .. below hi -/
def rng (lo hi : Int) : List Int := (List.range (hi - lo).toNat).map fun (k : Nat) => lo + (k : Int)
theorem rng_len (lo hi : Int) : (rng lo hi).length = (hi - lo).toNat := by unfold rng; rw [List.length_map, List.length_range]
theorem mem_rng {lo hi k : Int} : k ∈ rng lo hi ↔ lo ≤ k ∧ k < hi := by
  unfold rng
  rw [List.mem_map]
  constructor
  · rintro ⟨n, hn, e⟩
    rw [List.mem_range] at hn
    omega
  · rintro ⟨h1, h2⟩
    exact ⟨(k - lo).toNat, by rw [List.mem_range]; omega, by omega⟩
theorem rng_get {lo hi : Int} {i : Nat} (h : i < (hi - lo).toNat) : (rng lo hi)[i]? = some (lo + (i : Int)) := by
  unfold rng
  rw [List.getElem?_map, List.getElem?_range h]; rfl
theorem itOk_rng {lo hi : Int} : ItOk K (Itr lo (hi - lo).toNat) Vz Vv ((rng lo hi).map .int) := fun i H' e => by
  have el : ((rng lo hi).map Dt.int).length = (hi - lo).toNat := by rw [List.length_map, rng_len]
  refine ⟨fun h => by rw [el] at h; exact h, fun h => by rw [el] at h; exact Nat.le_of_eq h.symm, fun v H'' y h => ?_⟩
  rw [el] at h
  obtain ⟨e1, e2⟩ := y
  subst e1 e2
  exact ⟨Ex.refl _, fun M _ _ => ⟨.int (lo + (i : Int)), by rw [List.getElem?_map, rng_get h]; rfl, .int _⟩⟩
theorem itOk_str {l : List Nat} : ItOk K (Its (sS l)) Vz Vv (l.map fun k => eS [k]) := fun i H' e => by
  have el : (l.map fun k => eS [k]).length = (sS l).cps.size := by rw [List.length_map]; show _ = l.toArray.size; simp
  refine ⟨fun h => by rw [el] at h; exact h, fun h => by rw [el] at h; exact Nat.le_of_eq h.symm, fun v H'' y h => ?_⟩
  obtain ⟨e1, k, e2, e3⟩ := y
  subst e1 e3
  refine ⟨Ex.refl _, fun M _ _ => ⟨eS [k], ?_, .str _⟩⟩
  have q : l[i]? = some k := by
    have q2 : l.toArray[i]? = some k := e2
    simpa using q2
  rw [List.getElem?_map, q]; rfl
theorem wk_list (h : Ed c L des tl (.lst ds)) : WalkI c L des (iList c.K tl) ds := fun σ H w R q => h σ H w _ fun v H1 g r => by
  obtain ⟨a, xs, e, s, r⟩ := r.lst_inv
  exact ⟨a, e, ⟨xs, .inl (ex_rd hid_le s)⟩, q _ _ g (itOk_list s r)⟩
theorem wk_listE (h : El c L des tl ds) : WalkE c L des (iList c.K tl) ds := fun σ H w R q => h σ H w _ fun a xs H1 g s r =>
  ⟨a, rfl, ⟨xs, seq_all s⟩, q _ _ g (itOk_list s r)⟩
theorem wk_tup (h : Ed c L des tl (.tup ds)) : WalkI c L des (iTup c.K tl) ds := fun σ H w R q => h σ H w _ fun v H1 g r => by
  obtain ⟨a, xs, e, s, r⟩ := r.tup_inv
  exact ⟨a, e, ⟨xs, ex_t hid_le s⟩, q _ _ g (itOk_tup s r)⟩
abbrev Mid (i : Int) : Prop := -10000000 ≤ i ∧ i ≤ 10000000
theorem wk_rng1 {ta : TE} (h : Ed c L des ta (.int j)) (hj : Mid j) : WalkI c L des (iRng1 (tCons ta tNil)) ((rng 0 j).map .int) := fun σ H w R q => h σ H w _ fun v H1 g r => by
  refine ⟨j, by rw [r.int_inv], by have := hj.1; omega, by have := hj.2; omega, q _ _ g ?_⟩
  have := @itOk_rng c.K (hid (c.M L) H1) (hid (c.M L) H1) 0 j
  rwa [Int.sub_zero] at this
theorem wk_rng2 {ta tb : TE} (h : Ed c L des ta (.int i)) (h2 : Ed c L des tb (.int j)) (hi : Mid i) (hj : Mid j) : WalkI c L des (iRng2 (tCons ta (tCons tb tNil))) ((rng i j).map .int) := fun σ H w R q =>
  h σ H w _ fun v H1 g1 r1 => h2 σ H1 (w.gr g1) _ fun u H2 g2 r2 =>
    ⟨i, j, by rw [r1.int_inv, r2.int_inv], by have := hi.1; have := hi.2; have := hj.1; have := hj.2; omega, q _ _ (g1.trans g2) itOk_rng⟩
theorem wk_str {l : List Nat} (h : Ed c L des te (eS l)) : WalkI c L des (iStr te) (l.map fun k => eS [k]) := fun σ H w R q => h σ H w _ fun v H1 g r =>
  ⟨sS l, r.str_inv, q _ _ g itOk_str⟩
/-- enumerate of a list -/
def enumD (ds : List Dt) : List Dt := (List.range ds.length).map fun (k : Nat) => Dt.tup [.int (k : Int), ds.getD k .non]
theorem enumD_len (ds : List Dt) : (enumD ds).length = ds.length := by unfold enumD; rw [List.length_map, List.length_range]
theorem itOk_enum {a : Addr} {vs : List V} (h : Rd Vz a (.lst vs)) (r : RpA K Vv vs ds) : ItOk K (Ite K a) Vz Vv (enumD ds) := fun i H' e => by
  have h' : SqL K H' a vs := .inl (ex_rd e h)
  have el := r.length
  rw [enumD_len]
  refine ⟨fun hi => ?_, fun hi => ⟨vs, h', by omega⟩, fun v H'' y hi => ?_⟩
  · obtain ⟨v, e1, _⟩ := r.get (List.getElem?_eq_getElem hi)
    exact ⟨vs, v, h', e1⟩
  · obtain ⟨T, x, ev, hT, eH, y⟩ := y
    subst ev eH
    refine ⟨Ex.new hT, fun M hM hv => ?_⟩
    obtain ⟨d, e2, rd⟩ := r.getV (y vs h')
    have nT : T ∉ M := fun z => hM T z hT
    refine ⟨.tup [.int (i : Int), d], ?_, .tup (st_of (by rw [hid_out nT]; exact upd_same)) (.cons (.int _) (.cons ((rd.ex hv).ex (hid_ex (Ex.new hT))) .nil))⟩
    unfold enumD
    rw [List.getElem?_map, List.getElem?_range hi, Option.map_some, List.getD_eq_getElem?_getD, e2]; rfl
theorem wk_enum {ta : TE} (h : Ed c L des ta (.lst ds)) : WalkI c L des (iEnum c.K (tCons ta tNil)) (enumD ds) := fun σ H w R q => h σ H w _ fun v H1 g r => by
  obtain ⟨a, xs, e, s, r2⟩ := r.lst_inv
  subst e
  exact ⟨a, xs, rfl, .inl (ex_rd hid_le s), q _ _ g (itOk_enum s r2)⟩
end

/-! ### targets -/
def Gd (c : Cn) (L : List Addr) (des : List Des) (g : TG) (d : Dt) (des' : List Des) : Prop := ∀ σ H v, WS c L H σ des → Rp c.K (hid (c.M L) H) v d → ∀ Q : St → Hp → Prop, (∀ σ', WS c L H σ' des' → Q σ' H) → g v σ H Q
theorem gd_name {i : Nat} {d : Dt} : Gd c L des (gName i) d (des.set i (.dat d)) := fun σ H v w r Q q => q _ (w.set ⟨v, rfl, r⟩)
def GdA (c : Cn) (L : List Addr) (des : List Des) (g : TGs) (ds : List Dt) (des' : List Des) : Prop := ∀ σ H vs, WS c L H σ des → RpA c.K (hid (c.M L) H) vs ds → ∀ Q : St → Hp → Prop, (∀ σ', WS c L H σ' des' → Q σ' H) → g vs σ H Q
theorem gd_nil : GdA c L des gNil [] des := fun σ H vs w r Q q => by cases r; exact ⟨rfl, q σ w⟩
theorem gd_cons {g : TG} {gs : TGs} {d : Dt} {ds : List Dt} {des1 des2 : List Des} (h : Gd c L des g d des1) (h2 : GdA c L des1 gs ds des2) : GdA c L des (gCons g gs) (d :: ds) des2 := fun σ H vs w r Q q => by
  cases r with
  | cons r rs => exact ⟨_, _, rfl, h σ H _ w r _ fun σ' w' => h2 σ' H _ w' rs Q q⟩
theorem gd_tup {gs : TGs} {ds : List Dt} {n : Nat} {des1 : List Des} (h : GdA c L des gs ds des1) (hn : ds.length = n) : Gd c L des (gTup c.K n gs) (.tup ds) des1 := fun σ H v w r Q q => by
  obtain ⟨a, xs, e, s, r⟩ := r.tup_inv
  exact ⟨a, xs, e, ex_t hid_le s, by rw [r.length, hn], h σ H xs w r Q q⟩

/-! ### comprehensions -/
theorem wipe_set {j : Nat} {s : Option V} : ∀ {vs : List Nat} {σ : St}, j ∈ vs → wipe (σ.set j s) vs = wipe σ vs
  | [], _, h => by cases h
  | v :: vs, σ, h => by
    show (wipe (σ.set j s) vs).set v none = (wipe σ vs).set v none
    by_cases hj : j ∈ vs
    · rw [wipe_set hj]
    · have e : j = v := by
        rcases List.mem_cons.mp h with e | e
        · exact e
        · exact absurd e hj
      subst e
      have q : ∀ {vs : List Nat}, j ∉ vs → wipe (σ.set j s) vs = (wipe σ vs).set j s := by
        intro vs
        induction vs with
        | nil => intro _; rfl
        | cons v vs ih =>
          intro h
          show (wipe (σ.set j s) vs).set v none = ((wipe σ vs).set v none).set j s
          rw [ih fun z => h (List.mem_cons_of_mem _ z)]
          exact List.set_comm _ _ fun z => h (by rw [z]; exact List.mem_cons_self)
      rw [q hj, List.set_set]
theorem wipe_wipe {σ : St} : ∀ {vs ws : List Nat}, (∀ v ∈ ws, v ∈ vs) → wipe (wipe σ ws) vs = wipe σ vs
  | vs, [], _ => rfl
  | vs, w :: ws, h => by
    show wipe ((wipe σ ws).set w none) vs = wipe σ vs
    rw [wipe_set (h w List.mem_cons_self), wipe_wipe fun v hv => h v (List.mem_cons_of_mem _ hv)]
/-- a target whose slots are all in vs -/
def Gw (vs : List Nat) (g : TG) : Prop := ∀ (x : V) (σ : St) (H : Hp) (Q : St → Hp → Prop), g x σ H Q → g x σ H fun σ2 H2 => wipe σ2 vs = wipe σ vs ∧ Q σ2 H2
def GwA (vs : List Nat) (g : TGs) : Prop := ∀ (xs : List V) (σ : St) (H : Hp) (Q : St → Hp → Prop), g xs σ H Q → g xs σ H fun σ2 H2 => wipe σ2 vs = wipe σ vs ∧ Q σ2 H2
theorem gw_name {vs : List Nat} {j : Nat} (h : j ∈ vs) : Gw vs (gName j) := fun x σ H Q q => ⟨wipe_set h, q⟩
theorem gw_nil {vs : List Nat} : GwA vs gNil := fun xs σ H Q q => ⟨q.1, rfl, q.2⟩
theorem gw_mono {g : TG} {x : V} {σ : St} {H : Hp} {vs : List Nat} (hm : ∀ (Q Q' : St → Hp → Prop), (∀ a b, Q a b → Q' a b) → g x σ H Q → g x σ H Q') {Q Q' : St → Hp → Prop} (k : ∀ a b, Q a b → Q' a b) (h : g x σ H Q) : g x σ H Q' := hm Q Q' k h
/-- monotone targets -/
def Gm (g : TG) : Prop := ∀ (x : V) (σ : St) (H : Hp) (Q Q' : St → Hp → Prop), (∀ a b, Q a b → Q' a b) → g x σ H Q → g x σ H Q'
def GmA (g : TGs) : Prop := ∀ (xs : List V) (σ : St) (H : Hp) (Q Q' : St → Hp → Prop), (∀ a b, Q a b → Q' a b) → g xs σ H Q → g xs σ H Q'
theorem gm_name {j : Nat} : Gm (gName j) := fun x σ H Q Q' k h => k _ _ h
theorem gm_nil : GmA gNil := fun xs σ H Q Q' k h => ⟨h.1, k _ _ h.2⟩
theorem gm_cons {g : TG} {gs : TGs} (h : Gm g) (h2 : GmA gs) : GmA (gCons g gs) := fun xs σ H Q Q' k q => by
  obtain ⟨v, r, e, q⟩ := q
  exact ⟨v, r, e, h _ _ _ _ _ (fun a b z => h2 _ _ _ _ _ k z) q⟩
theorem gw_cons {vs : List Nat} {g : TG} {gs : TGs} (h : Gw vs g) (h2 : GwA vs gs) (m : Gm g) (m2 : GmA gs) : GwA vs (gCons g gs) := fun xs σ H Q q => by
  obtain ⟨v, r, e, q⟩ := q
  refine ⟨v, r, e, ?_⟩
  refine m _ _ _ _ _ (fun a b z => ?_) (h _ _ _ _ q)
  refine m2 _ _ _ _ _ (fun a' b' z' => ?_) (h2 _ _ _ _ z.2)
  exact ⟨z'.1.trans z.1, z'.2⟩
theorem gw_tup {K : PySem.W.Frag} {n : Nat} {vs : List Nat} {gs : TGs} (h : GwA vs gs) : Gw vs (gTup K n gs) := fun x σ H Q q => by
  obtain ⟨a, xs, e, s, hl, q⟩ := q
  exact ⟨a, xs, e, s, hl, h _ _ _ _ q⟩
def wipeD (des : List Des) : List Nat → List Des
  | [] => des
  | v :: vs => (wipeD des vs).set v .any
theorem SlA.wipe {K : PySem.W.Frag} {L Z : List Addr} {Vs H : Hp} {σ : St} {des : List Des} (h : SlA K L Z Vs H σ des) : ∀ vs : List Nat, SlA K L Z Vs H (wipe σ vs) (wipeD des vs)
  | [] => h
  | v :: vs => (SlA.wipe h vs).set (show SlOk K L Z Vs H none .any from trivial) v
theorem WS.wipe {H : Hp} {σ : St} (w : WS c L H σ des) (vs : List Nat) : WS c L H (L2.wipe σ vs) (wipeD des vs) := ⟨w.ex, w.own, w.zs, w.m0, w.lz, w.lm, w.sl.wipe vs⟩
/-- which are kept -/
def keepD {α : Type} (f : α → Bool) (g : α → Dt) (xs : List α) : List Dt := (xs.filter f).map g
section
variable {α : Type} {f : α → Bool} {g : α → Dt} {xs : List α} {x : α} {i : Nat}
theorem keepD_yes (h : xs[i]? = some x) (hf : f x = true) : keepD f g (xs.take (i + 1)) = keepD f g (xs.take i) ++ [g x] := by
  unfold keepD
  rw [List.take_add_one, h]
  simp [hf]
theorem keepD_no (h : xs[i]? = some x) (hf : f x = false) : keepD f g (xs.take (i + 1)) = keepD f g (xs.take i) := by
  unfold keepD
  rw [List.take_add_one, h]
  simp [hf]
theorem keepD_len : (keepD f g (xs.take i)).length ≤ xs.length := by
  unfold keepD
  rw [List.length_map]
  exact Nat.le_trans (List.length_filter_le _ _) (by rw [List.length_take]; omega)
end
/-- a new list -/
def En (c : Cn) (L : List Addr) (des : List Des) (te : TE) (ds : List Dt) : Prop := ∀ σ H, WS c L H σ des → ∀ Q : VK, (∀ p xs H2, H p = none → Gr c H H2 → H2 p = some (.lst xs) → RpA c.K (hid (p :: c.M L) H2) xs ds → Q (.ref p) H2) → te σ H Q
theorem En.ed {te : TE} {ds : List Dt} (h : En c L des te ds) : Ed c L des te (.lst ds) := fun σ H w Q q => h σ H w _ fun p xs H2 hp g h2 r => by
  have np := w.fresh hp
  refine q _ _ g (.lst (.inl (by rw [hid_out np]; exact h2)) (r.ex (hid_sub fun a ha => List.mem_cons_of_mem _ ha)))
theorem en_lst {ta : TA} {ds : List Dt} (h : Ea c L des ta ds) (hl : ds.length ≤ 10000000) : En c L des (tLst ta) ds := fun σ H w Q q =>
  h σ H w _ fun vs H1 g1 r1 => ⟨small (by rw [r1.length]; exact hl), fun p hp => by
    have w1 := w.gr g1
    have hp0 : H p = none := by
      by_cases z : p ∈ c.zs
      · exact absurd hp ((w1.zn z).2)
      · cases q2 : H p with
        | none => rfl
        | some o => rw [g1.keep q2 z] at hp; cases hp
    refine q p vs _ hp0 (g1.trans (Gr.new w1 hp)) upd_same (r1.ex fun a o h => ?_)
    obtain ⟨n, h⟩ := hid_some h
    have ne : a ≠ p := fun z => by rw [z, hp] at h; cases h
    rw [hid_out, upd_ne ne]; exact h
    intro z
    rcases List.mem_cons.mp z with z | z
    · exact ne z
    · exact n z⟩
theorem Gr.back {H H1 : Hp} {σ : St} (w : WS c L H σ des) (g1 : Gr c H H1) {p : Addr} (hp : H1 p = none) : H p = none := by
  by_cases z : p ∈ c.zs
  · exact absurd hp (((w.gr g1).zn z).2)
  · cases q2 : H p with
    | none => rfl
    | some o => rw [g1.keep q2 z] at hp; cases hp
/-- [e for x in xs if t] -/
theorem en_lc {α : Type} {wi : TI} {g : TG} {tt : TT} {te : TE} {vs : List Nat} {xs : List α} {en : α → Dt} (f : α → Bool) (v : α → Dt) (desx : α → List Des) (hw : WalkE c L des wi (xs.map en)) (hz : xs.length ≤ 9000000)
    (hg : ∀ D x, x ∈ xs → Gd c (D :: L) (wipeD des vs) g (en x) (desx x)) (hwp : Gw vs g)
    (ht : ∀ D x, x ∈ xs → Et c (D :: L) (desx x) tt (f x)) (he : ∀ D x, x ∈ xs → f x = true → Ed c (D :: L) (desx x) te (v x)) : En c L des (tLc wi g tt te vs) (keepD f v xs) := fun σ H w Q q =>
  hw σ H w _ fun J H1 g1 J1 => by
    intro D hD
    have w1 := w.gr g1
    let Pv : Nat → Hp → Prop := fun i H' => i ≤ xs.length ∧ ∃ ys, H' D = some (.lst ys) ∧ Gr c H1 H' ∧ WS c (D :: L) H' σ des ∧ RpA c.K (hid (D :: c.M L) H') ys (keepD f v (xs.take i))
    refine ⟨fun i m H' => m = xs.length - i ∧ Pv i H', ⟨xs.length, by simp, Nat.zero_le _, [], upd_same, Gr.new w1 hD, w1.more hD, .nil⟩, ?_⟩
    rintro i m H' ⟨rfl, hi, ys, h1, h2, h3, h4⟩
    obtain ⟨k1, k2, k3⟩ := J1 i H' h2.ex
    rw [List.length_map] at k1 k2 k3
    by_cases hlt : i < xs.length
    · refine .inr ⟨k1 hlt, Pv (i + 1), fun H'' p => ⟨xs.length - (i + 1), by omega, rfl, p⟩, fun x H'' y => ?_⟩
      obtain ⟨ex, k4⟩ := k3 x H'' y hlt
      have gx : Gr c H' H'' := Gr.of_ex ex h3
      have w3 := h3.gr gx
      have vis : Ex (hid (c.M L) H1) (hid (c.M (D :: L)) H') := fun a o z => by
        have z1 := h2.vis a o z
        obtain ⟨n, z0⟩ := hid_some z
        obtain ⟨n2, z2⟩ := hid_some z1
        rw [hid_out]; exact z2
        intro zz
        rcases List.mem_cons.mp zz with zz | zz
        · rw [zz, hD] at z0; cases z0
        · exact n zz
      have tr : ∀ a ∈ c.M (D :: L), H' a ≠ none := fun a ha z => h3.fresh z ha
      obtain ⟨d', e1', rd⟩ := k4 (c.M (D :: L)) tr vis
      obtain ⟨d, e1, ed⟩ : ∃ x, xs[i]? = some x ∧ d' = en x := by
        rw [List.getElem?_map] at e1'
        cases q : xs[i]? with
        | none => rw [q] at e1'; cases e1'
        | some x => rw [q] at e1'; exact ⟨x, rfl, (Option.some.inj e1').symm⟩
      subst ed
      have hm : d ∈ xs := List.mem_of_getElem? e1
      have hww : wipe (L2.wipe σ vs) vs = L2.wipe σ vs := wipe_wipe fun _ h => h
      rw [← hww]
      rw [hww]
      have hwp' := hwp x (L2.wipe σ vs) H''
      rw [hww] at hwp'
      refine hwp' _ ?_
      refine hg D d hm _ H'' x (w3.wipe vs) rd _ fun σ' w4 => ?_
      refine ht D d hm σ' H'' w4 _ fun H3 g3 => ?_
      have w5 := w4.gr g3
      have nD : D ∉ c.zs := h3.lz D List.mem_cons_self
      have D3 : H3 D = some (.lst ys) := g3.keep (gx.keep h1 nD) nD
      have r3 : RpA c.K (hid (D :: c.M L) H3) ys (keepD f v (xs.take i)) := h4.ex (Ex.trans (hid_exS (N := c.zs) (fun a h => List.mem_cons_of_mem _ (List.mem_append_right _ (List.mem_append_left _ h))) gx.ex) (hid_exS (N := c.zs) (fun a h => List.mem_cons_of_mem _ (List.mem_append_right _ (List.mem_append_left _ h))) g3.ex))
      cases hf : f d with
      | false =>
        show Pv (i + 1) H3
        refine ⟨hlt, ys, D3, (h2.trans gx).trans g3, (h3.gr gx).gr g3, ?_⟩
        rw [keepD_no e1 hf]; exact r3
      | true =>
        show te σ' H3 _
        refine he D d hm hf σ' H3 w5 _ fun y H4 g4 r4 => ?_
        have D4 : H4 D = some (.lst ys) := g4.keep D3 nD
        have wz := ((h3.gr gx).gr g3).gr g4
        have r5 : RpA c.K (hid (D :: c.M L) H4) ys (keepD f v (xs.take i)) := r3.ex (hid_exS (N := c.zs) (fun a h => List.mem_cons_of_mem _ (List.mem_append_right _ (List.mem_append_left _ h))) g4.ex)
        have hv : hid (D :: c.M L) (upd H4 D (.lst (ys ++ [y]))) = hid (D :: c.M L) H4 := hid_upd List.mem_cons_self
        refine ⟨ys, D4, small_lt (by have q1 := r5.length; have q2 := @keepD_len _ f v xs i; omega), hlt, ys ++ [y], upd_same, ?_, ?_, ?_⟩
        · have g5 := ((h2.trans gx).trans g3).trans g4
          refine ⟨fun a o z => ?_, fun b hb => (g5.zs b hb).at_ (upd_ne fun z => nD (by rw [← z]; exact List.mem_map.mpr ⟨b, hb, rfl⟩))⟩
          have ne : a ≠ D := fun zz => by rw [zz] at z; obtain ⟨_, z⟩ := hid_some z; rw [hD] at z; cases z
          rw [upd_ne ne]; exact g5.ex a o z
        · have hv2 : hid (c.M (D :: L)) (upd H4 D (.lst (ys ++ [y]))) = hid (c.M (D :: L)) H4 := hv
          have ndes : ∀ a ∈ L, a ≠ D := fun a ha z => (w1.own a ha).2 (by rw [z]; exact hD)
          refine ⟨Ex.mut wz.ex (wz.own D List.mem_cons_self).1, fun a ha => ⟨(wz.own a ha).1, ?_⟩, wz.bagMove fun b hb => upd_ne fun z => nD (by rw [← z]; exact List.mem_map.mpr ⟨b, hb, rfl⟩), fun a ha => ?_, wz.lz, wz.lm, ?_⟩
          · by_cases z : a = D
            · subst z; rw [upd_same]; exact fun z => nomatch z
            · rw [upd_ne z]; exact (wz.own a ha).2
          · by_cases z : a = D
            · subst z; rw [upd_same]; exact fun z => nomatch z
            · rw [upd_ne z]; exact wz.m0 a ha
          · rw [hv2]
            have sl := w1.sl
            have base : SlA c.K (D :: L) c.zs (hid (c.M (D :: L)) H4) H4 σ des := wz.sl
            -- every slot's own list stands in L, so it is not D
            have s2 : SlA c.K (D :: L) c.zs (hid (c.M (D :: L)) H4) (upd H4 D (.lst (ys ++ [y]))) σ des := by
              have s1 : SlA c.K L c.zs (hid (c.M L) H1) H1 σ des := w1.sl
              have visAll : Ex (hid (c.M L) H1) (hid (c.M (D :: L)) H4) := vis.trans ((hid_exS (N := c.zs) (fun a h => List.mem_cons_of_mem _ (List.mem_append_right _ (List.mem_append_left _ h))) gx.ex).trans ((hid_exS (N := c.zs) (fun a h => List.mem_cons_of_mem _ (List.mem_append_right _ (List.mem_append_left _ h))) g3.ex).trans (hid_exS (N := c.zs) (fun a h => List.mem_cons_of_mem _ (List.mem_append_right _ (List.mem_append_left _ h))) g4.ex)))
              have gall := ((h2.trans gx).trans g3).trans g4
              refine s1.mono (fun a h => List.mem_cons_of_mem _ h) visAll fun a ha => ?_
              rw [upd_ne (ndes a ha)]
              cases z : H1 a with
              | none => exact absurd z (w1.own a ha).2
              | some o => exact gall.keep z (w1.lz a ha)
            exact s2
        · rw [hv, keepD_yes e1 hf]
          refine r5.snoc (r4.ex (hid_sub fun a ha => ?_))
          exact ha
    · have e : i = xs.length := by omega
      subst e
      refine .inl ⟨k2 rfl, q D ys H' (Gr.back w g1 hD) (g1.trans h2) h1 ?_⟩
      rw [List.take_length] at h4; exact h4
end Dl
end

section
set_option maxHeartbeats 4000000
/-! Dl4: statements, loops, calls, defs. -/
namespace Dl
open PySem L2 Evl
variable {c : Cn} {L L' : List Addr} {des des' : List Des}

/-! ### statements -/
def Sd (c : Cn) (L : List Addr) (des : List Des) (ts : TS) (D : Ends) : Prop := ∀ σ H, WS c L H σ des → ts D σ H
/-- what is wanted of the value that is handed back -/
def Post (c : Cn) (d : Dt) (Q : VK) : Prop := ∀ v H', Ex c.B H' → (∀ b ∈ c.Z, BagAt b H') → Rp c.K (hid (c.zs ++ c.M0) H') v d → Q v H'
theorem Post.up {d : Dt} {Q : VK} {B' : Hp} (h : Post c d Q) (e : Ex c.B B') : Post (c.up B') d Q := fun v H' e2 z r => h v H' (e.trans e2) z r
theorem Post.to {d e : Dt} {Q : VK} (h : Post c d Q) (q : d = e) : Post c e Q := q ▸ h
/-- behind a block: a state that is told -/
abbrev At (c : Cn) (L : List Addr) (des : List Des) : St → Hp → Prop := fun σ H => WS c L H σ des
section
variable {t u tz : TS} {te : TE} {D : Ends} {d : Dt} {ds : List Dt} {i : Nat} {tt : TT} {b : Bool} {g : TG}
theorem sd_seq (h : Sd c L des t { D with nx := u D }) : Sd c L des (tSeq t u) D := h
theorem sd_wk (h : Sd c L des' t D) (w : Wk des des') : Sd c L des t D := fun σ H x => h σ H (x.wk w)
theorem sd_next (h : ∀ σ H, WS c L H σ des → D.nx σ H) : Sd c L des tNext D := h
theorem sd_break (h : ∀ σ H, WS c L H σ des → D.bk σ H) : Sd c L des tBreak D := h
theorem sd_cont (h : ∀ σ H, WS c L H σ des → D.ct σ H) : Sd c L des tCont D := h
theorem sd_asg (h : Ed c L des te d) (k : Sd c L (des.set i (.dat d)) tz D) : Sd c L des (tSeq (tAsg te (gName i)) tz) D := fun σ H w => h σ H w _ fun v H1 g r => k _ H1 ((w.gr g).set ⟨v, rfl, r⟩)
theorem sd_asgL (h : Ed c L des te d) (k : ∀ σ H, WS c L H σ (des.set i (.dat d)) → D.nx σ H) : Sd c L des (tAsg te (gName i)) D := fun σ H w => h σ H w _ fun v H1 g r => k _ H1 ((w.gr g).set ⟨v, rfl, r⟩)
theorem sd_asgT (h : Ed c L des te d) (hg : Gd c L des g d des') (k : Sd c L des' tz D) : Sd c L des (tSeq (tAsg te g) tz) D := fun σ H w => h σ H w _ fun v H1 g r => hg σ H1 v (w.gr g) r _ fun σ' w' => k σ' H1 w'
theorem sd_asgTL (h : Ed c L des te d) (hg : Gd c L des g d des') (k : ∀ σ H, WS c L H σ des' → D.nx σ H) : Sd c L des (tAsg te g) D := fun σ H w => h σ H w _ fun v H1 g r => hg σ H1 v (w.gr g) r _ fun σ' w' => k σ' H1 w'
theorem sd_own (h : En c L des te ds) (k : ∀ p, p ∉ c.M L → Sd c (p :: L) (des.set i (.own p ds)) tz D) : Sd c L des (tSeq (tAsg te (gName i)) tz) D := fun σ H w => h σ H w _ fun p xs H2 hp g h2 r => k p (w.fresh hp) _ H2 (w.take hp g h2 r)
theorem sd_drop (h : Ed c L des te d) (k : Sd c L des tz D) : Sd c L des (tSeq (tDrop te) tz) D := fun σ H w => h σ H w _ fun v H1 g r => k σ H1 (w.gr g)
theorem sd_ret (h : Ed c L des te d) (k : Post c d D.rt) : Sd c L des (tRet te) D := fun σ H w => h σ H w _ fun v H1 g r =>
  k v H1 (w.gr g).ex g.zs (r.ex (hid_sub fun a ha => List.mem_append_right _ ha))
theorem sd_retN (k : Post c .non D.rt) : Sd c L des tRetN D := fun σ H w => k _ H w.ex (fun b hb => (w.zs b hb).2.2) .non
theorem sd_retOwn {a : Addr} (h : des[i]? = some (.own a ds)) (k : Post c (.lst ds) D.rt) : Sd c L des (tRet (tVar i)) D := fun σ H w => by
  obtain ⟨s, hs, e, ha, xs, h1, h2⟩ := w.sl.get h
  refine ⟨.ref a, by rw [hs, e], k _ H w.ex (fun b hb => (w.zs b hb).2.2) (.lst (.inl ?_) (h2.ex (hid_sub fun a ha => List.mem_append_right _ ha)))⟩
  rw [hid_out]; exact h1
  intro z
  rcases List.mem_append.mp z with z | z
  · exact w.lz a ha z
  · exact w.lm a ha z
theorem sd_if (h : Et c L des tt b) (h1 : b = true → Sd c L des t D) (h2 : b = false → Sd c L des u D) : Sd c L des (tIfS tt t u) D := fun σ H w => h σ H w _ fun H1 g => by
  cases b with
  | true => exact h1 rfl σ H1 (w.gr g)
  | false => exact h2 rfl σ H1 (w.gr g)
/-- both ways go on behind it, each by itself -/
theorem sd_if2 (h : Et c L des tt b) (h1 : b = true → Sd c L des t { D with nx := tz D }) (h2 : b = false → Sd c L des u { D with nx := tz D }) : Sd c L des (tSeq (tIfS tt t u) tz) D := sd_if (D := { D with nx := tz D }) h h1 h2
/-- a way that never comes back: if c: return .. -/
theorem sd_when (h : Et c L des tt b) (h1 : b = true → Sd c L des t { D with nx := tz D }) (h2 : b = false → Sd c L des tz D) : Sd c L des (tSeq (tIfS tt t tNext) tz) D := sd_if (D := { D with nx := tz D }) h h1 fun hb => sd_next (D := { D with nx := tz D }) fun σ H w => h2 hb σ H w
/-- both ways meet -/
theorem sd_meet (des' : List Des) (h : Et c L des tt b) (h1 : b = true → ∀ N : St → Hp → Prop, (∀ σ H, WS c L H σ des' → N σ H) → Sd c L des t { D with nx := N }) (h2 : b = false → ∀ N : St → Hp → Prop, (∀ σ H, WS c L H σ des' → N σ H) → Sd c L des u { D with nx := N })
    (k : Sd c L des' tz D) : Sd c L des (tSeq (tIfS tt t u) tz) D := fun σ H w => h σ H w _ fun H1 g => by
  cases b with
  | true => exact h1 rfl _ (fun σ' H' w' => k σ' H' w') σ H1 (w.gr g)
  | false => exact h2 rfl _ (fun σ' H' w' => k σ' H' w') σ H1 (w.gr g)
/-- what nobody comes to -/
theorem sd_never (h : False) : Sd c L des t D := h.elim

/-! ### our own lists changed -/
def rApp : V → List V → Hp → VK → Prop := fun x vs H Q => ∃ l xs y, x = .ref l ∧ vs = [y] ∧ H l = some (.lst xs) ∧ xs.length < sizeLine ∧ Q .non (upd H l (.lst (xs ++ [y])))
theorem d_append {X : Cx} : MtM X "list.append" rApp := mt_append
theorem app_core {a : Addr} (hi : des[i]? = some (.own a ds)) (h : Ed c L des te d) (hz : ds.length < 10000000) (hf : Fre a (des.set i .any)) {K : PySem.W.Frag} {N : St → Hp → Prop} (k : ∀ σ H, WS c L H σ (des.set i (.own a (ds ++ [d]))) → N σ H) :
    ∀ σ H, WS c L H σ des → tBM K "list" rApp (tVar i) (tCons te tNil) σ H fun _ H1 => N σ H1 := fun σ H w => by
  obtain ⟨s, hs, e, ha, xs, h1, h2⟩ := w.sl.get hi
  refine ⟨.ref a, by rw [hs, e], Or.inl ⟨rfl, xs, sq_of h1⟩, h σ H w _ fun v H1 g r => ?_⟩
  have w1 := w.gr g
  obtain ⟨s', hs', e', ha', ys, h1', h2'⟩ := w1.sl.get hi
  refine ⟨a, ys, v, rfl, rfl, h1', small_lt (by rw [h2'.length]; exact hz), k σ _ (w1.put ha' hf (by rw [hs, e]) ⟨rfl, ha', _, upd_same, h2'.snoc r⟩)⟩
theorem sd_app {a : Addr} (hi : des[i]? = some (.own a ds)) (h : Ed c L des te d) (hz : ds.length < 10000000) (hf : Fre a (des.set i .any)) {K : PySem.W.Frag} (k : Sd c L (des.set i (.own a (ds ++ [d]))) tz D) :
    Sd c L des (tSeq (tDrop (tBM K "list" rApp (tVar i) (tCons te tNil))) tz) D := app_core hi h hz hf k
theorem sd_appL {a : Addr} (hi : des[i]? = some (.own a ds)) (h : Ed c L des te d) (hz : ds.length < 10000000) (hf : Fre a (des.set i .any)) {K : PySem.W.Frag} (k : ∀ σ H, WS c L H σ (des.set i (.own a (ds ++ [d]))) → D.nx σ H) :
    Sd c L des (tDrop (tBM K "list" rApp (tVar i) (tCons te tNil))) D := app_core hi h hz hf k
/-- xs[j] = e -/
theorem set_core {a : Addr} {tj : TE} {j : Int} (hi : des[i]? = some (.own a ds)) (h : Ed c L des te d) (hj : Ed c L des tj (.int j)) (h0 : 0 ≤ j) (h1 : j < ds.length) (hf : Fre a (des.set i .any)) {N : St → Hp → Prop} (k : ∀ σ H, WS c L H σ (des.set i (.own a (ds.set j.toNat d))) → N σ H) :
    ∀ σ H, WS c L H σ des → te σ H fun x H1 => gSub (tVar i) tj rSetL x σ H1 N := fun σ H w => h σ H w _ fun v H1 g r => by
  have w1 := w.gr g
  obtain ⟨s, hs, e, _⟩ := w1.sl.get hi
  refine ⟨.ref a, by rw [hs, e], hj σ H1 w1 _ fun u H2 g2 r2 => ?_⟩
  have w2 := w1.gr g2
  obtain ⟨s', hs', e', ha', ys, h1', h2'⟩ := w2.sl.get hi
  have el := h2'.length
  have ej : j = ((j.toNat : Nat) : Int) := by omega
  refine ⟨a, ys, j, j.toNat, rfl, r2.int_inv, h1', ?_, k σ _ (w2.put ha' hf (by rw [hs, e]) ⟨rfl, ha', _, upd_same, h2'.set (r.up g2) _⟩)⟩
  rw [ej]; exact ixN_nat (by omega)
theorem sd_setix {a : Addr} {tj : TE} {j : Int} (hi : des[i]? = some (.own a ds)) (h : Ed c L des te d) (hj : Ed c L des tj (.int j)) (h0 : 0 ≤ j) (h1 : j < ds.length) (hf : Fre a (des.set i .any)) (k : Sd c L (des.set i (.own a (ds.set j.toNat d))) tz D) :
    Sd c L des (tSeq (tAsg te (gSub (tVar i) tj rSetL)) tz) D := set_core hi h hj h0 h1 hf k
theorem sd_setixL {a : Addr} {tj : TE} {j : Int} (hi : des[i]? = some (.own a ds)) (h : Ed c L des te d) (hj : Ed c L des tj (.int j)) (h0 : 0 ≤ j) (h1 : j < ds.length) (hf : Fre a (des.set i .any)) (k : ∀ σ H, WS c L H σ (des.set i (.own a (ds.set j.toNat d))) → D.nx σ H) :
    Sd c L des (tAsg te (gSub (tVar i) tj rSetL)) D := set_core hi h hj h0 h1 hf k
/-- x = xs.pop() -/
theorem pop_core {a : Addr} {ds0 : List Dt} (hi : des[i]? = some (.own a ds)) (he : ds = ds0 ++ [d]) (hf : Fre a (des.set i .any)) {K : PySem.W.Frag} {Q : St → VK} (k : ∀ v σ H, WS c L H σ (des.set i (.own a ds0)) → Rp c.K (hid (c.M L) H) v d → Q σ v H) :
    ∀ σ H, WS c L H σ des → tBM0 K "list" rPop (tVar i) σ H (Q σ) := fun σ H w => by
  obtain ⟨s, hs, e, ha, xs, h1, h2⟩ := w.sl.get hi
  subst he
  have el := h2.length
  rw [List.length_append, List.length_singleton] at el
  obtain ⟨v, ev, rv⟩ := h2.get (i := ds0.length) (d := d) (by simp)
  refine ⟨.ref a, by rw [hs, e], Or.inl ⟨rfl, xs, sq_of h1⟩, a, xs, v, rfl, rfl, h1, by rw [show xs.length - 1 = ds0.length by omega]; exact ev, ?_⟩
  have q : RpA c.K (hid (c.M L) H) xs.dropLast ds0 := by
    have := h2.take ds0.length
    rw [List.take_left' rfl] at this
    rw [List.dropLast_eq_take, show xs.length - 1 = ds0.length by omega]; exact this
  have w2 := w.put ha hf (by rw [hs, e]) (o := .lst xs.dropLast) (d := .own a ds0) ⟨rfl, ha, _, upd_same, q⟩
  refine k v σ _ w2 ?_
  rw [hid_upd (List.mem_append_left _ ha)]; exact rv
theorem sd_pop {a : Addr} {ds0 : List Dt} (hi : des[i]? = some (.own a ds)) (he : ds = ds0 ++ [d]) (hf : Fre a (des.set i .any)) (hg : Gd c L (des.set i (.own a ds0)) g d des') {K : PySem.W.Frag} (k : Sd c L des' tz D) : Sd c L des (tSeq (tAsg (tBM0 K "list" rPop (tVar i)) g) tz) D := fun σ H w =>
  pop_core (Q := fun σ v H => g v σ H (tz D)) hi he hf (fun v σ H w r => hg σ H v w r _ fun σ' w' => k σ' H w') σ H w
end

/-! ### loops -/
inductive Step (S R : Type) where
  | nx (s : S) | bk (s : S) | rt (r : R)
def forL {α S R : Type} (f : α → S → Step S R) : List α → S → Step S R
  | [], s => .nx s
  | x :: xs, s => match f x s with
    | .nx s' => forL f xs s'
    | .bk s' => .bk s'
    | .rt r => .rt r
/-- g holds wherever the loop comes to -/
def okL {α S R : Type} (f : α → S → Step S R) (g : α → S → Bool) : List α → S → Bool
  | [], _ => true
  | x :: xs, s => g x s && match f x s with
    | .nx s' => okL f g xs s'
    | _ => true
section
variable {α S R : Type} {f : α → S → Step S R} {g : α → S → Bool}
theorem forL_app : ∀ {xs ys : List α} {s s' : S}, forL f xs s = .nx s' → forL f (xs ++ ys) s = forL f ys s'
  | [], ys, s, s', h => by cases h; rfl
  | x :: xs, ys, s, s', h => by
    show (match f x s with | .nx s' => forL f (xs ++ ys) s' | .bk s' => .bk s' | .rt r => .rt r) = _
    have h' : (match f x s with | .nx s' => forL f xs s' | .bk s' => .bk s' | .rt r => .rt r) = Step.nx s' := h
    cases e : f x s with
    | nx s2 => rw [e] at h'; exact forL_app (show forL f xs s2 = .nx s' from h')
    | bk s2 => rw [e] at h'; cases h'
    | rt r => rw [e] at h'; cases h'
theorem forL_step {xs : List α} {s s' : S} {x : α} {i : Nat} (hx : xs[i]? = some x) (h : forL f (xs.take i) s = .nx s') : forL f (xs.take (i + 1)) s = (match f x s' with | .nx t => .nx t | .bk t => .bk t | .rt r => .rt r) := by
  rw [List.take_add_one, hx]
  show forL f (xs.take i ++ [x]) s = _
  rw [forL_app h]
  show (match f x s' with | .nx t => forL f [] t | .bk t => .bk t | .rt r => .rt r) = _
  cases f x s' <;> rfl
theorem forL_at {xs : List α} {s s' : S} {x : α} {i : Nat} (hx : xs[i]? = some x) (h : forL f (xs.take i) s = .nx s') : forL f xs s = (match f x s' with | .nx t => forL f (xs.drop (i + 1)) t | .bk t => .bk t | .rt r => .rt r) := by
  have e : xs = xs.take i ++ (x :: xs.drop (i + 1)) := by
    have hi := (List.getElem?_eq_some_iff.mp hx).1
    have e2 : xs.drop i = x :: xs.drop (i + 1) := by
      rw [List.drop_eq_getElem_cons hi]
      congr 1
      exact (List.getElem?_eq_some_iff.mp hx).2
    rw [← e2, List.take_append_drop]
  conv => lhs; rw [e]
  rw [forL_app h]
  rfl
theorem okL_at : ∀ {xs : List α} {s s' : S} {x : α} {i : Nat}, okL f g xs s = true → xs[i]? = some x → forL f (xs.take i) s = .nx s' → g x s' = true
  | [], s, s', x, i, _, hx, _ => by simp at hx
  | y :: ys, s, s', x, i, h, hx, hf => by
    have h' : (g y s && match f y s with | .nx s' => okL f g ys s' | _ => true) = true := h
    obtain ⟨h1, h2⟩ := Bool.and_eq_true_iff.mp h'
    cases i with
    | zero =>
      have e1 : some y = some x := by simpa using hx
      cases e1
      have e2 : Step.nx s = Step.nx s' := hf
      cases e2
      exact h1
    | succ i =>
      have hf' : (match f y s with | .nx t => forL f (ys.take i) t | .bk t => .bk t | .rt r => .rt r) = Step.nx s' := hf
      cases e : f y s with
      | nx t =>
        rw [e] at h2 hf'
        exact okL_at (xs := ys) (s := t) (i := i) h2 (by simpa using hx) hf'
      | bk t => rw [e] at hf'; cases hf'
      | rt r => rw [e] at hf'; cases hf'
/-- the loop over what is walked -/
def tForJ (J : It) (g : TG) (tb : TS) : TS := fun D σ H1 => ∃ W : Nat → Nat → St → Hp → Prop, (∃ m, W 0 m σ H1) ∧ ∀ i m σ H, W i m σ H →
  (J.stop i H ∧ D.nx σ H) ∨ (J.go i H ∧ ∃ N : St → Hp → Prop, (∀ σ' H', N σ' H' → ∃ m', m' < m ∧ W (i + 1) m' σ' H') ∧ ∀ x H', J.yld i H x H' → g x σ H' fun σ2 H2 => tb { D with nx := N, ct := N, bk := D.nx } σ2 H2)
/-- the loop: its states by W; the turn's item by en -/
theorem for_core {tb : TS} {tg : TG} {D : Ends} {ys : List α} {s0 : S} (f : α → S → Step S R) (en : α → Dt) (W : S → List Des) (tgt : α → S → List Des) (h0 : Wk des (W s0))
    (hg : ∀ (B' : Hp) x s, Gd (c.up B') L (W s) tg (en x) (tgt x s))
    (hb : ∀ B', Ex c.B B' → ∀ i x s, ys[i]? = some x → forL f (ys.take i) s0 = .nx s →
      ∀ N Bk : St → Hp → Prop, (∀ s' σ' H', f x s = .nx s' → WS (c.up B') L H' σ' (W s') → N σ' H') → (∀ s' σ' H', f x s = .bk s' → WS (c.up B') L H' σ' (W s') → Bk σ' H') → Sd (c.up B') L (tgt x s) tb { D with nx := N, ct := N, bk := Bk })
    (hk : ∀ s, forL f ys s0 = .nx s ∨ forL f ys s0 = .bk s → ∀ σ' H', WS c L H' σ' (W s) → D.nx σ' H') : ∀ (J : It) σ H1, WS c L H1 σ des → ItOk c.K J (hid (c.M L) H1) (hid (c.M L) H1) (ys.map en) → tForJ J tg tb D σ H1 := fun J σ H1 w1 J1 => by
  -- from here on all that is not our own stays
  let B' : Hp := hid (L ++ c.zs) H1
  have eB : Ex c.B B' := fun a o h => by
    have n1 : a ∉ L ++ c.zs := fun z => by
      rcases List.mem_append.mp z with z | z
      · rw [(w1.own a z).1] at h; cases h
      · rw [(w1.zn z).1] at h; cases h
    show hid (L ++ c.zs) H1 a = _
    rw [hid_out n1]; exact w1.ex a o h
  have up : ∀ {σ' des'}, WS c L H1 σ' des' → WS (c.up B') L H1 σ' des' := fun {σ' des'} x => by
    refine ⟨hid_le, fun a ha => ⟨hid_in (List.mem_append_left _ ha), (x.own a ha).2⟩, fun b hb => ⟨hid_in (List.mem_append_right _ (List.mem_map.mpr ⟨b, hb, rfl⟩)), ?_, (x.zs b hb).2.2⟩, x.m0, x.lz, x.lm, x.sl⟩
    exact eB _ _ (x.zs b hb).2.1
  have down : ∀ {H' σ' des'}, WS (c.up B') L H' σ' des' → WS c L H' σ' des' := fun {H' σ' des'} x =>
    ⟨eB.trans x.ex, fun a ha => ⟨(w1.own a ha).1, (x.own a ha).2⟩, fun b hb => ⟨(w1.zs b hb).1, (w1.zs b hb).2.1, (x.zs b hb).2.2⟩, x.m0, x.lz, x.lm, x.sl⟩
  have visB : Ex (hid (c.M L) H1) B' := hid_sub fun a ha => by
    rcases List.mem_append.mp ha with z | z
    · exact List.mem_append_left _ z
    · exact List.mem_append_right _ (List.mem_append_left _ z)
  let Pv : Nat → St → Hp → Prop := fun i σ' H' => i ≤ ys.length ∧ ∃ s, forL f (ys.take i) s0 = .nx s ∧ WS (c.up B') L H' σ' (W s)
  refine ⟨fun i m σ' H' => m = ys.length - i ∧ Pv i σ' H', ⟨ys.length, by simp, Nat.zero_le _, s0, rfl, up (w1.wk h0)⟩, ?_⟩
  rintro i m σ' H' ⟨rfl, hi, s, hs, ws⟩
  have eH : Ex (hid (c.M L) H1) H' := visB.trans ws.ex
  obtain ⟨k1, k2, k3⟩ := J1 i H' eH
  rw [List.length_map] at k1 k2 k3
  by_cases hlt : i < ys.length
  · refine .inr ⟨k1 hlt, Pv (i + 1), fun σ'' H'' p => ⟨ys.length - (i + 1), by omega, rfl, p⟩, fun v H'' y => ?_⟩
    obtain ⟨ex, k4⟩ := k3 v H'' y hlt
    have tr : ∀ a ∈ c.M L, H' a ≠ none := fun a ha z => ws.fresh z ha
    have vis2 : Ex (hid (c.M L) H1) (hid (c.M L) H') := fun a o z => by
      obtain ⟨n, z0⟩ := hid_some z
      rw [hid_out n]; exact eH a o z
    obtain ⟨d, e1, rd⟩ := k4 (c.M L) tr vis2
    have gx : Gr (c.up B') H' H'' := Gr.of_ex ex ws
    have w3 := ws.gr gx
    obtain ⟨x, hx, ed⟩ : ∃ x, ys[i]? = some x ∧ d = en x := by
      rw [List.getElem?_map] at e1
      cases q : ys[i]? with
      | none => rw [q] at e1; cases e1
      | some x => rw [q] at e1; exact ⟨x, rfl, (Option.some.inj e1).symm⟩
    subst ed
    refine hg B' x s σ' H'' v w3 rd _ fun σ2 w4 => ?_
    refine hb B' eB i x s hx hs _ _ ?_ ?_ σ2 H'' w4
    · rintro s' σ3 H3 e w5
      refine ⟨hlt, s', ?_, w5⟩
      rw [forL_step hx hs, e]
    · rintro s' σ3 H3 e w5
      refine hk s' (.inr ?_) σ3 H3 (down w5)
      rw [forL_at hx hs, e]
  · have e : i = ys.length := by omega
    subst e
    rw [List.take_length] at hs
    exact .inl ⟨k2 rfl, hk s (.inl hs) σ' H' (down ws)⟩
/-- the loop: its states by W; the turn's item by en -/
theorem sd_for {tb : TS} {wi : TI} {tg : TG} {D : Ends} {ys : List α} {s0 : S} (f : α → S → Step S R) (en : α → Dt) (W : S → List Des) (tgt : α → S → List Des) (hw : WalkI c L des wi (ys.map en)) (h0 : Wk des (W s0))
    (hg : ∀ (B' : Hp) x s, Gd (c.up B') L (W s) tg (en x) (tgt x s))
    (hb : ∀ B', Ex c.B B' → ∀ i x s, ys[i]? = some x → forL f (ys.take i) s0 = .nx s →
      ∀ N Bk : St → Hp → Prop, (∀ s' σ' H', f x s = .nx s' → WS (c.up B') L H' σ' (W s') → N σ' H') → (∀ s' σ' H', f x s = .bk s' → WS (c.up B') L H' σ' (W s') → Bk σ' H') → Sd (c.up B') L (tgt x s) tb { D with nx := N, ct := N, bk := Bk })
    (hk : ∀ s, forL f ys s0 = .nx s ∨ forL f ys s0 = .bk s → ∀ σ' H', WS c L H' σ' (W s) → D.nx σ' H') : Sd c L des (tFor wi tg tb) D := fun σ H w => hw σ H w _ fun J H1 g1 J1 => for_core f en W tgt h0 hg hb hk J σ H1 (w.gr g1) J1
theorem forL_rt {xs : List α} {s s' : S} {x : α} {i : Nat} {r : R} (hx : xs[i]? = some x) (h : forL f (xs.take i) s = .nx s') (e : f x s' = .rt r) : forL f xs s = .rt r := by
  rw [forL_at hx h, e]
end

/-! ### while, by a word that falls -/
theorem sd_while {S : Type} {tt : TT} {tb : TS} {D : Ends} {s0 : S} (W : S → List Des) (I : S → Prop) (m : S → Nat) (b : S → Bool) (h0 : Wk des (W s0)) (i0 : I s0)
    (ht : ∀ (c' : Cn) s, I s → c'.K = c.K → Et c' L (W s) tt (b s))
    (hb : ∀ s, I s → b s = true → ∀ N : St → Hp → Prop, (∀ s' σ' H', I s' → m s' < m s → WS c L H' σ' (W s') → N σ' H') → ∀ Bk : St → Hp → Prop, (∀ σ' H', D.nx σ' H' → Bk σ' H') → Sd c L (W s) tb { D with nx := N, ct := N, bk := Bk })
    (hk : ∀ s, I s → b s = false → ∀ σ' H', WS c L H' σ' (W s) → D.nx σ' H') : Sd c L des (tWhile tt tb) D := fun σ H w =>
  ⟨fun n σ' H' => ∃ s, n = m s ∧ I s ∧ WS c L H' σ' (W s), ⟨_, s0, rfl, i0, w.wk h0⟩, by
    rintro n σ' H' ⟨s, rfl, is, ws⟩
    refine ht c s is rfl σ' H' ws _ fun H1 g => ?_
    cases hs : b s with
    | false => exact hk s is hs σ' H1 (ws.gr g)
    | true => exact ⟨fun σ2 H2 => ∃ s', m s' < m s ∧ I s' ∧ WS c L H2 σ2 (W s'), fun σ2 H2 ⟨s', h1, h2, h3⟩ => ⟨m s', h1, s', rfl, h2, h3⟩, hb s is hs _ (fun s' σ2 H2 h1 h2 h3 => ⟨s', h2, h1, h3⟩) _ (fun _ _ z => z) σ' H1 (ws.gr g)⟩⟩

/-! ### calls -/
/-- a def that keeps a promise -/
structure Cal (P : Program) (w : World) (K : PySem.W.Frag) (mg : Str → Option Value) (base : Heap) (x : Str) (k : Nat) (ps : List Str) (sp : Sp) : Prop where
  ex : ∃ (f : Addr) (fd : FuncData), FnOk P w K mg base CX0 k f fd ps sp ∧ mg x = some (.ref f) ∧ PySem.W.keepIn K (.ref f) = true ∧ Binds K fd ps []
theorem pe_cal {X : Cx} {x : Str} {j k : Nat} {ps : List Str} {sp : Sp} {e : Expr} {es : List Expr} {p pos : Pos} {t : TA} (C : Cal X.prog X.w X.K X.mg X.base x j ps sp) (hr : Room k X.A) (hk : j ≤ k) (ha : PA X (e :: es) t) (hg : Gl X x := by rfl) (hdb : (x == ("__debug__" : Str)) = false := by decide)
    (he : starEach (e :: es) X.env = (false, eval e X.env) :: starEach es X.env := by rfl) (hpl : (backTo pos (starEach es X.env)).any (·.1) = false := by rfl) : PE X (.Call (.Name x p) (e :: es) [] pos) (tCall sp [] E0 t) := by
  obtain ⟨f, fd, F, m, kp, b⟩ := C.ex
  exact pe_call F (hr.mono hk) hg m kp b .nil pass0 ha hdb he hpl
/-- the promise of a def that makes data of data -/
def Pf (K : PySem.W.Frag) (dom : List Dt → Dt → Prop) : Sp := fun vs H Q _ => ∃ (M0 : List Addr) (ds : List Dt) (r : Dt), dom ds r ∧ (∀ a ∈ M0, H a ≠ none) ∧ RpA K (hid M0 H) vs ds ∧ ∀ v H', Ex H H' → Rp K (hid M0 H') v r → Q v H'
theorem ed_call {dom : List Dt → Dt → Prop} {ta : TA} {ds : List Dt} {r : Dt} {E : XK} (h : Ea c L des ta ds) (hd : dom ds r) : Ed c L des (tCall (Pf c.K dom) [] E ta) r := fun σ H w Q q => h σ H w _ fun vs H1 g1 r1 => by
  have w1 := w.gr g1
  rw [List.append_nil]
  exact ⟨c.M L, ds, r, hd, fun a ha z => w1.fresh z ha, r1, fun v H' e rv => q v H' (g1.trans (Gr.of_ex e w1)) rv⟩
/-- arguments of which some are our own lists; the answer is no object -/
def Ef (c : Cn) (L : List Addr) (des : List Des) (te : TE) (d : Dt) : Prop := ∀ σ H, WS c L H σ des → ∀ Q : VK, (∀ v H2, Gr c H H2 → Rp c.K (hid c.zs H2) v d → Q v H2) → te σ H Q
def Eaf (c : Cn) (L : List Addr) (des : List Des) (ta : TA) (ds : List Dt) : Prop := ∀ σ H, WS c L H σ des → ∀ Q : List V → Hp → Prop, (∀ vs H2, Gr c H H2 → RpA c.K (hid c.zs H2) vs ds → Q vs H2) → ta σ H Q
theorem Ed.f {te : TE} {d : Dt} (h : Ed c L des te d) : Ef c L des te d := fun σ H w Q q => h σ H w _ fun v H2 g r => q v H2 g (r.ex zsM)
theorem ef_own {i : Nat} {a : Addr} {ds : List Dt} (h : des[i]? = some (.own a ds)) : Ef c L des (tVar i) (.lst ds) := fun σ H w Q q => by
  obtain ⟨s, hs, e, ha, xs, h1, h2⟩ := w.sl.get h
  exact ⟨.ref a, by rw [hs, e], q _ H (Gr.refl w) (.lst (.inl (by rw [hid_out (w.lz a ha)]; exact h1)) (h2.ex zsM))⟩
theorem eaf_nil : Eaf c L des tNil [] := fun σ H w Q q => q _ _ (Gr.refl w) .nil
theorem eaf_cons {te : TE} {ta : TA} {d : Dt} {ds : List Dt} (h : Ef c L des te d) (hr : Eaf c L des ta ds) : Eaf c L des (tCons te ta) (d :: ds) := fun σ H w Q q =>
  h σ H w _ fun v H1 g1 r1 => hr σ H1 (w.gr g1) _ fun vs H2 g2 r2 => q _ _ (g1.trans g2) (.cons (r1.ex g2.visZ) r2)
def flatD : Dt → Bool
  | .non | .bl _ | .int _ | .str _ => true
  | _ => false
theorem Rp.flat {K : PySem.W.Frag} {H H' : Hp} {v : V} {d : Dt} (h : Rp K H v d) (f : flatD d = true) : Rp K H' v d := by
  cases h with
  | non => exact .non
  | bl b => exact .bl b
  | int i => exact .int i
  | str x => exact .str x
  | _ => cases f
theorem ed_callF {dom : List Dt → Dt → Prop} {ta : TA} {ds : List Dt} {r : Dt} {E : XK} (h : Eaf c L des ta ds) (hd : dom ds r) (hf : flatD r = true) : Ed c L des (tCall (Pf c.K dom) [] E ta) r := fun σ H w Q q => h σ H w _ fun vs H1 g1 r1 => by
  have w1 := w.gr g1
  rw [List.append_nil]
  exact ⟨c.zs, ds, r, hd, fun a ha => (w1.zn ha).2, r1, fun v H' e rv => q v H' (g1.trans (Gr.of_ex e w1)) (rv.flat hf)⟩
/-- a def's body, from its start -/
theorem start_ok {K : PySem.W.Frag} {N : List Str} {vs : List V} {H : Hp} {M0 : List Addr} {ds : List Dt} (ht : ∀ a ∈ M0, H a ≠ none) (r : RpA K (hid M0 H) vs ds) : WS ⟨K, H, M0, []⟩ [] H (L2.start N vs) (ds.map .dat ++ List.replicate (N.length - ds.length) .any) := by
  refine ⟨Ex.refl H, (fun a h => nomatch h), (fun b h => nomatch h), ht, (fun a h => nomatch h), (fun a h => nomatch h), ?_⟩
  show SlA K [] [] (hid ([] ++ ([] ++ M0)) H) H (L2.start N vs) _
  rw [List.nil_append, List.nil_append]
  have el := r.length
  unfold L2.start
  rw [el]
  have e2 : ∀ n, SlA K [] [] (hid M0 H) H (List.replicate n none) (List.replicate n .any) := fun n => by
    induction n with
    | zero => exact .nil
    | succ n ih => exact .cons trivial ih
  have key : ∀ {vs : List V} {ds : List Dt}, RpA K (hid M0 H) vs ds → ∀ n, SlA K [] [] (hid M0 H) H (vs.map some ++ List.replicate n none) (ds.map .dat ++ List.replicate n .any) := by
    intro vs ds r n
    induction vs generalizing ds with
    | nil => cases r; exact e2 n
    | cons v vs ih =>
      cases r with
      | cons h t => exact .cons ⟨v, rfl, h⟩ (ih t)
  exact key r _
abbrev cn0 (K : PySem.W.Frag) (H : Hp) (M0 : List Addr) : Cn := ⟨K, H, M0, []⟩
theorem post0 {K : PySem.W.Frag} {H : Hp} {M0 : List Addr} {r : Dt} {Q : VK} (q : ∀ v H', Ex H H' → Rp K (hid M0 H') v r → Q v H') : Post (cn0 K H M0) r Q := fun v H' e _ rv => q v H' e rv
abbrev FnP (K : PySem.W.Frag) (x qual : Str) (st : Stmt) (f : Addr) (fd : FuncData) : Prop := FunD K x qual (defArgs st) (defBody st) (defScope st) [] [] f fd
/-- a def of the text makes data of data: its promise alone -/
theorem fn_mk {P : Program} {w : World} {K : PySem.W.Frag} {mg : Str → Option Value} {base : Heap} {x qual : Str} {st : Stmt} {f : Addr} {fd : FuncData} {N ps : List Str} {k : Nat} {dom : List Dt → Dt → Prop} (F : FnP K x qual st f fd) (S : FnScope N ps (defScope st))
    (len : ∀ ds r, dom ds r → ds.length = ps.length)
    (body : ∀ (cdv : Value) (A : Around) (outer : List Env) (s : Shared) (H : Hp) (Q : VK) (E : XK), Room k (A.deeper (PyProof.Rows.envOfC qual (defScope st) s.heap.objs.size f cdv)) →
      ∃ t, PSs (cxOf CX0 P w K mg base N qual (defScope st) f cdv A outer s H E).nox (defBody st) t ∧ ∀ M0 ds r, dom ds r → Post (cn0 K H M0) r Q → Sd (cn0 K H M0) [] (ds.map .dat ++ List.replicate (N.length - ds.length) .any) t { nx := fun _ H' => Q .non H', rt := Q }) :
    FnOk P w K mg base CX0 (k + 1) f fd ps (Pf K dom) := by
  refine F.ok S (fun vs H Q E h => ?_) (fun cdv A outer s H vs Q E hr h => ?_)
  · obtain ⟨M0, ds, r, hd, _, ha, _⟩ := h
    rw [ha.length, len ds r hd]
  · obtain ⟨M0, ds, r, hd, ht, ha, q⟩ := h
    obtain ⟨t, h1, h2⟩ := body cdv A outer s H Q E hr
    exact ⟨t, h1.nox, h2 M0 ds r hd (post0 q) _ H (start_ok ht ha)⟩
/-- a def of the text makes data of data -/
theorem cal_mk {P : Program} {w : World} {K : PySem.W.Frag} {mg : Str → Option Value} {base : Heap} {x qual : Str} {st : Stmt} {f : Addr} {fd : FuncData} {N ps : List Str} {k : Nat} {dom : List Dt → Dt → Prop} (F : FnP K x qual st f fd) (gl : mg x = some (.ref f)) (S : FnScope N ps (defScope st))
    (hb : ∀ (kV doc pm : Value) (an : Option Addr) (cdv ct : Value) (us : List Value), us.length = ps.length → bindArgs (PySem.W.fnOf x qual (defArgs st) (defBody st) (defScope st) .none kV doc pm an cdv ct) ⟨us, []⟩ = pure (ps.zip us))
    (len : ∀ ds r, dom ds r → ds.length = ps.length)
    (body : ∀ (cdv : Value) (A : Around) (outer : List Env) (s : Shared) (H : Hp) (Q : VK) (E : XK), Room k (A.deeper (PyProof.Rows.envOfC qual (defScope st) s.heap.objs.size f cdv)) →
      ∃ t, PSs (cxOf CX0 P w K mg base N qual (defScope st) f cdv A outer s H E).nox (defBody st) t ∧ ∀ M0 ds r, dom ds r → Post (cn0 K H M0) r Q → Sd (cn0 K H M0) [] (ds.map .dat ++ List.replicate (N.length - ds.length) .any) t { nx := fun _ H' => Q .non H', rt := Q }) :
    Cal P w K mg base x (k + 1) ps (Pf K dom) := by
  refine ⟨f, fd, F.ok S (fun vs H Q E h => ?_) (fun cdv A outer s H vs Q E hr h => ?_), gl, F.kp, F.bindsN hb⟩
  · obtain ⟨M0, ds, r, hd, _, ha, _⟩ := h
    rw [ha.length, len ds r hd]
  · obtain ⟨M0, ds, r, hd, ht, ha, q⟩ := h
    obtain ⟨t, h1, h2⟩ := body cdv A outer s H Q E hr
    exact ⟨t, h1.nox, h2 M0 ds r hd (post0 q) _ H (start_ok ht ha)⟩
end Dl
end

section
set_option maxHeartbeats 4000000
/-! Dl5: mirrors: plain functions beside the defs, statement by statement. -/
namespace Dl
open PySem L2 Evl
variable {c : Cn} {L L' : List Addr} {des des' : List Des}

/-! ### words of mirrors -/
def bindV {α β : Type} (v : α) (k : α → β) : β := k v
def lkC : List (Nat × Int) → Nat → Int
  | [], _ => 0
  | (k, v) :: r, c => cond (Nat.beq k c) v (lkC r c)
def hasC : List (Nat × Int) → Nat → Bool
  | [], _ => false
  | (k, v) :: r, c => cond (Nat.beq k c) true (hasC r c)
def midB (i : Int) : Bool := decide (-10000000 ≤ i) && decide (i ≤ 10000000)
def lastI {α : Type} [Inhabited α] : List α → α
  | [] => default
  | [x] => x
  | _ :: y :: r => lastI (y :: r)
def leII (a b : Int × Int) : Bool := decide (a.1 < b.1) || (decide (a.1 = b.1) && decide (a.2 ≤ b.2))
def cntI (l : List Int) (x : Int) : Int := ((l.filter fun y => decide (y = x)).length : Int)
def insR (x : Int) : List Int → List Int
  | [] => [x]
  | y :: r => cond (decide (y < x)) (x :: y :: r) (y :: insR x r)
def sortR : List Int → List Int
  | [] => []
  | x :: r => insR x (sortR r)
def putN {α : Type} [DecidableEq α] (s : List α) (x : α) : List α := cond (decide (x ∈ s)) s (s ++ [x])
section
variable {S R γ : Type}
def Step.st [Inhabited S] : Step S R → S
  | .nx s => s
  | .bk s => s
  | .rt _ => default
def Step.fin (h : R → γ) : Step S R → (S → γ) → γ
  | .nx s, k => k s
  | .bk s, k => k s
  | .rt r, _ => h r
def Step.finB : Step S R → (S → Bool) → Bool
  | .nx s, k => k s
  | .bk s, k => k s
  | .rt _, _ => true
theorem eqFin {a : γ} {h : R → γ} {run : Step S R} {k : S → γ} {s : S} (he : a = Step.fin h run k) (ho : run = .nx s ∨ run = .bk s) : a = k s := by
  rcases ho with e | e
  · rw [e] at he; exact he
  · rw [e] at he; exact he
theorem finOk {run : Step S R} {k : S → Bool} {s : S} (he : Step.finB run k = true) (ho : run = .nx s ∨ run = .bk s) : k s = true := by
  rcases ho with e | e
  · rw [e] at he; exact he
  · rw [e] at he; exact he
theorem eqRt {a : γ} {h : R → γ} {run : Step S R} {k : S → γ} {r : R} (he : a = Step.fin h run k) (hr : run = .rt r) : a = h r := by
  rw [hr] at he; exact he
end
theorem b1 {a b : Bool} (h : (a && b) = true) : a = true := (Bool.and_eq_true_iff.mp h).1
theorem b2 {a b : Bool} (h : (a && b) = true) : b = true := (Bool.and_eq_true_iff.mp h).2
theorem bD {p : Prop} [Decidable p] (h : decide p = true) : p := of_decide_eq_true h
theorem bN {a : Bool} (h : (!a) = true) : a = false := by cases a <;> first | rfl | cases h
theorem bI {a b : Bool} (h : (!a || b) = true) (ha : a = true) : b = true := by subst ha; exact h
theorem bE {a b : Bool} (h : (a || b) = true) (ha : a = false) : b = true := by subst ha; exact h
theorem allP {α : Type} {l : List α} {p : α → Bool} (h : l.all p = true) {x : α} (hx : x ∈ l) : p x = true := List.all_eq_true.mp h x hx
theorem cT {b x y : Bool} (h : cond b x y = true) (hb : b = true) : x = true := by subst hb; exact h
theorem cF {b x y : Bool} (h : cond b x y = true) (hb : b = false) : y = true := by subst hb; exact h
theorem ltM {n m : Nat} (h : n ≤ 1000000) (hm : 1000000 ≤ m := by decide) : n ≤ m := Nat.le_trans h hm
theorem ltM' {n m : Nat} (h : n < 1000000) (hm : 1000000 ≤ m := by decide) : n < m := Nat.lt_of_lt_of_le h hm
theorem midM {i : Int} (h : midB i = true) : Mid i := ⟨bD (b1 h), bD (b2 h)⟩

/-! ### encoders -/
section
variable {α β γ δ : Type}
@[reducible] def eC (k : Nat) : Dt := eS [k]
@[reducible] def eL (f : α → Dt) (xs : List α) : Dt := .lst (xs.map f)
@[reducible] def eT (f : α → Dt) (xs : List α) : Dt := .tup (xs.map f)
@[reducible] def e1 (f : α → Dt) (p : α) : Dt := .tup [f p]
@[reducible] def e2 (f : α → Dt) (g : β → Dt) (p : α × β) : Dt := .tup [f p.1, g p.2]
@[reducible] def e3 (f : α → Dt) (g : β → Dt) (m : γ → Dt) (p : α × β × γ) : Dt := .tup [f p.1, g p.2.1, m p.2.2]
@[reducible] def e4 (f : α → Dt) (g : β → Dt) (m : γ → Dt) (n : δ → Dt) (p : α × β × γ × δ) : Dt := .tup [f p.1, g p.2.1, m p.2.2.1, n p.2.2.2]
variable {ta tb tc td te : TE} {f : α → Dt} {g : β → Dt} {m : γ → Dt} {n : δ → Dt} {x : α} {y : β} {z : γ} {w : δ}
theorem ed_tup1 (h : Ed c L des ta (f x)) : Ed c L des (tTup (tCons ta tNil)) (e1 f x) := ed_tup (ea_cons h ea_nil) (Nat.le_of_ble_eq_true rfl)
theorem ed_tup2 (h : Ed c L des ta (f x)) (h2 : Ed c L des tb (g y)) : Ed c L des (tTup (tCons ta (tCons tb tNil))) (e2 f g (x, y)) := ed_tup (ea_cons h (ea_cons h2 ea_nil)) (Nat.le_of_ble_eq_true rfl)
theorem ed_tup3 (h : Ed c L des ta (f x)) (h2 : Ed c L des tb (g y)) (h3 : Ed c L des tc (m z)) : Ed c L des (tTup (tCons ta (tCons tb (tCons tc tNil)))) (e3 f g m (x, y, z)) := ed_tup (ea_cons h (ea_cons h2 (ea_cons h3 ea_nil))) (Nat.le_of_ble_eq_true rfl)
theorem ed_tup4 (h : Ed c L des ta (f x)) (h2 : Ed c L des tb (g y)) (h3 : Ed c L des tc (m z)) (h4 : Ed c L des td (n w)) : Ed c L des (tTup (tCons ta (tCons tb (tCons tc (tCons td tNil))))) (e4 f g m n (x, y, z, w)) := ed_tup (ea_cons h (ea_cons h2 (ea_cons h3 (ea_cons h4 ea_nil)))) (Nat.le_of_ble_eq_true rfl)
variable {x1 x2 x3 : α}
theorem ed_t0 : Ed c L des (tTup tNil) (eT f []) := ed_tup ea_nil (Nat.le_of_ble_eq_true rfl)
theorem ed_t1 (h : Ed c L des ta (f x1)) : Ed c L des (tTup (tCons ta tNil)) (eT f [x1]) := ed_tup (ea_cons h ea_nil) (Nat.le_of_ble_eq_true rfl)
theorem ed_t2 (h : Ed c L des ta (f x1)) (h2 : Ed c L des tb (f x2)) : Ed c L des (tTup (tCons ta (tCons tb tNil))) (eT f [x1, x2]) := ed_tup (ea_cons h (ea_cons h2 ea_nil)) (Nat.le_of_ble_eq_true rfl)
theorem ed_t3 (h : Ed c L des ta (f x1)) (h2 : Ed c L des tb (f x2)) (h3 : Ed c L des tc (f x3)) : Ed c L des (tTup (tCons ta (tCons tb (tCons tc tNil)))) (eT f [x1, x2, x3]) := ed_tup (ea_cons h (ea_cons h2 (ea_cons h3 ea_nil))) (Nat.le_of_ble_eq_true rfl)
theorem en_l0 : En c L des (tLst tNil) (([] : List α).map f) := en_lst ea_nil (Nat.le_of_ble_eq_true rfl)
theorem en_l1 (h : Ed c L des ta (f x1)) : En c L des (tLst (tCons ta tNil)) ([x1].map f) := en_lst (ea_cons h ea_nil) (Nat.le_of_ble_eq_true rfl)
theorem en_l2 (h : Ed c L des ta (f x1)) (h2 : Ed c L des tb (f x2)) : En c L des (tLst (tCons ta (tCons tb tNil))) ([x1, x2].map f) := en_lst (ea_cons h (ea_cons h2 ea_nil)) (Nat.le_of_ble_eq_true rfl)
theorem en_l3 (h : Ed c L des ta (f x1)) (h2 : Ed c L des tb (f x2)) (h3 : Ed c L des tc (f x3)) : En c L des (tLst (tCons ta (tCons tb (tCons tc tNil)))) ([x1, x2, x3].map f) := en_lst (ea_cons h (ea_cons h2 (ea_cons h3 ea_nil))) (Nat.le_of_ble_eq_true rfl)
/-! texts -/
theorem ed_ch (k : Nat) {s : Str} (h : s = sS [k]) : Ed c L des (tC (.str s)) (eC k) := by rw [h]; exact ed_str
theorem ed_strc (l : List Nat) {s : Str} (h : s = sS l) : Ed c L des (tC (.str s)) (eS l) := by rw [h]; exact ed_str
theorem ed_inC (l : List Nat) {k : Nat} (ha : Ed c L des ta (eC k)) (hb : Ed c L des tb (eS l)) : Ed c L des (tOp rInS ta tb) (.bl (decide (k ∈ l))) := by
  have := ed_inS (z := sS l) ha hb
  rwa [show (sS l).cps.toList = l by show l.toArray.toList = l; simp] at this
theorem ed_notInC (l : List Nat) {k : Nat} (ha : Ed c L des ta (eC k)) (hb : Ed c L des tb (eS l)) : Ed c L des (tOp rNotInS ta tb) (.bl (!decide (k ∈ l))) := by
  have := ed_notInS (z := sS l) ha hb
  rwa [show (sS l).cps.toList = l by show l.toArray.toList = l; simp] at this
theorem ch_inj {k l : Nat} : sS [k] = sS [l] ↔ k = l := by
  rw [sS_inj]; exact ⟨fun h => by injection h, fun h => by rw [h]⟩
theorem ed_eqC {k l : Nat} (ha : Ed c L des ta (eC k)) (hb : Ed c L des tb (eC l)) : Ed c L des (tOp rEq ta tb) (.bl (decide (k = l))) :=
  (ed_eqStr ha hb).to (by rw [decide_eq_decide.mpr (ch_inj (k := k) (l := l))])
theorem ed_neC {k l : Nat} (ha : Ed c L des ta (eC k)) (hb : Ed c L des tb (eC l)) : Ed c L des (tOp rNe ta tb) (.bl (!decide (k = l))) :=
  (ed_neStr ha hb).to (by rw [decide_eq_decide.mpr (ch_inj (k := k) (l := l))])
/-! tests -/
theorem et_yes : Et c L des tYes true := fun σ H w Q q => q H (Gr.refl w)
theorem et_trM {xs : List α} (h : El c L des ta (xs.map f)) : Et c L des (tTr c.K ta) (!xs.isEmpty) := (et_trL h).to (by cases xs <;> rfl)
theorem mulM {i j : Int} {C : Prop} (h : midB i = true) (k : Mid i → C) : C := k (midM h)
/-! comprehensions -/
theorem en_lcf {wi : TI} {tg : TG} {tt : TT} {vs : List Nat} {en : α → Dt} {en' : β → Dt} {ys : List α} {p : α → Bool} {q : α → β} {desx : α → List Des} (hw : WalkE c L des wi (ys.map en)) (hz : ys.length ≤ 9000000)
    (hg : ∀ D x, x ∈ ys → Gd c (D :: L) (wipeD des vs) tg (en x) (desx x)) (hwp : Gw vs tg) (ht : ∀ D x, x ∈ ys → Et c (D :: L) (desx x) tt (p x)) (he : ∀ D x, x ∈ ys → p x = true → Ed c (D :: L) (desx x) te (en' (q x))) :
    En c L des (tLc wi tg tt te vs) (((ys.filter p).map q).map en') := by
  have := en_lc (te := te) p (fun x => en' (q x)) desx hw hz hg hwp ht he
  unfold keepD at this
  rw [List.map_map]
  exact this
theorem en_lcm {wi : TI} {tg : TG} {vs : List Nat} {en : α → Dt} {en' : β → Dt} {ys : List α} {q : α → β} {desx : α → List Des} (hw : WalkE c L des wi (ys.map en)) (hz : ys.length ≤ 9000000)
    (hg : ∀ D x, x ∈ ys → Gd c (D :: L) (wipeD des vs) tg (en x) (desx x)) (hwp : Gw vs tg) (he : ∀ D x, x ∈ ys → Ed c (D :: L) (desx x) te (en' (q x))) :
    En c L des (tLc wi tg tYes te vs) ((ys.map q).map en') := by
  have := en_lcf (p := fun _ => true) hw hz hg hwp (fun _ _ _ => et_yes) (fun D x m _ => he D x m)
  rwa [List.filter_eq_self.mpr (fun _ _ => rfl)] at this
end

/-! ### statements -/
def setAll (des : List Des) : List (Nat × Des) → List Des
  | [] => des
  | (i, d) :: r => setAll (des.set i d) r
section
variable {α β γ S R : Type} {t u tz : TS} {te ta tb : TE} {D : Ends} {tt : TT} {g : TG} {b : Bool} {a : γ}
theorem sd_asgE {V : α} {k : α → γ} {ok : α → Bool} {i : Nat} (en : α → Dt) (he : a = bindV V k) (hk : bindV V ok = true) (h : Ed c L des te (en V)) (kk : ∀ v, a = k v → ok v = true → Sd c L (des.set i (.dat (en v))) tz D) : Sd c L des (tSeq (tAsg te (gName i)) tz) D := sd_asg h (kk V he hk)
theorem sd_asgEL {V : α} {k : α → γ} {ok : α → Bool} {i : Nat} (en : α → Dt) (he : a = bindV V k) (hk : bindV V ok = true) (h : Ed c L des te (en V)) (kk : ∀ v, a = k v → ok v = true → ∀ σ H, WS c L H σ (des.set i (.dat (en v))) → D.nx σ H) : Sd c L des (tAsg te (gName i)) D := sd_asgL h (kk V he hk)
theorem sd_asgTE {V : α} {k : α → γ} {ok : α → Bool} {desx : α → List Des} (en : α → Dt) (he : a = bindV V k) (hk : bindV V ok = true) (h : Ed c L des te (en V)) (hg : ∀ v, Gd c L des g (en v) (desx v)) (kk : ∀ v, a = k v → ok v = true → Sd c L (desx v) tz D) : Sd c L des (tSeq (tAsg te g) tz) D := sd_asgT h (hg V) (kk V he hk)
theorem sd_ownE {V : List α} {k : List α → γ} {ok : List α → Bool} {i : Nat} (f : α → Dt) (he : a = bindV V k) (hk : bindV V ok = true) (h : En c L des te (V.map f)) (kk : ∀ p, p ∉ c.M L → ∀ v, a = k v → ok v = true → Sd c (p :: L) (des.set i (.own p (v.map f))) tz D) : Sd c L des (tSeq (tAsg te (gName i)) tz) D := sd_own h fun p hp => kk p hp V he hk
theorem sd_ownEL {V : List α} {k : List α → γ} {ok : List α → Bool} {i : Nat} (f : α → Dt) (he : a = bindV V k) (hk : bindV V ok = true) (h : En c L des te (V.map f)) (kk : ∀ p, p ∉ c.M L → ∀ v, a = k v → ok v = true → ∀ σ H, WS c (p :: L) H σ (des.set i (.own p (v.map f))) → D.nx σ H) : Sd c L des (tAsg te (gName i)) D := fun σ H w => h σ H w _ fun p xs H2 hp g h2 r => kk p (w.fresh hp) V he hk _ H2 (w.take hp g h2 r)
theorem own_ne {p q : Addr} (h : p ∉ c.M L) (hq : q ∈ L) : p ≠ q := fun e => h (List.mem_append_left _ (e ▸ hq))
theorem sd_give {p : Addr} {ds : List Dt} {i : Nat} (h : des[i]? = some (.own p ds)) (hL : ∀ b ∈ L', b ∈ L) (na : p ∉ L') (ho : OwnIn L' (des.set i .any)) (k : Sd c L' (des.set i (.dat (.lst ds))) t D) : Sd c L des t D := fun σ H w => k σ H (w.give h hL na ho)
theorem sd_giveX {p : Addr} {X : OX} {i : Nat} (h : des[i]? = some (.ownX p X)) (hL : ∀ b ∈ L', b ∈ L) (na : p ∉ L') (ho : OwnIn L' (des.set i .any)) (k : Sd c L' (des.set i (.dat (.ob (obX p X)))) t D) : Sd c L des t D := fun σ H w => k σ H (w.giveX h hL na ho)
theorem sd_appE {p : Addr} {xs : List α} {v : α} {k : List α → γ} {ok : List α → Bool} {i : Nat} {K : PySem.W.Frag} (f : α → Dt) (he : a = bindV (xs ++ [v]) k) (hk : bindV (xs ++ [v]) ok = true) (hi : des[i]? = some (.own p (xs.map f))) (h : Ed c L des te (f v)) (hz : xs.length < 10000000) (hf : Fre p (des.set i .any))
    (kk : ∀ v, a = k v → ok v = true → Sd c L (des.set i (.own p (v.map f))) tz D) : Sd c L des (tSeq (tDrop (tBM K "list" rApp (tVar i) (tCons te tNil))) tz) D := by
  refine sd_app hi h (by rw [List.length_map]; exact hz) hf ?_
  have := kk (xs ++ [v]) he hk
  rwa [List.map_append] at this
theorem sd_appEL {p : Addr} {xs : List α} {v : α} {k : List α → γ} {ok : List α → Bool} {i : Nat} {K : PySem.W.Frag} (f : α → Dt) (he : a = bindV (xs ++ [v]) k) (hk : bindV (xs ++ [v]) ok = true) (hi : des[i]? = some (.own p (xs.map f))) (h : Ed c L des te (f v)) (hz : xs.length < 10000000) (hf : Fre p (des.set i .any))
    (kk : ∀ v, a = k v → ok v = true → ∀ σ H, WS c L H σ (des.set i (.own p (v.map f))) → D.nx σ H) : Sd c L des (tDrop (tBM K "list" rApp (tVar i) (tCons te tNil))) D := by
  refine sd_appL hi h (by rw [List.length_map]; exact hz) hf ?_
  have := kk (xs ++ [v]) he hk
  rwa [List.map_append] at this
theorem map_setN (f : α → Dt) : ∀ (xs : List α) (n : Nat) (v : α), (xs.set n v).map f = (xs.map f).set n (f v)
  | [], _, _ => rfl
  | _ :: _, 0, _ => rfl
  | x :: xs, n + 1, v => by
    show f x :: (xs.set n v).map f = f x :: ((xs.map f).set n (f v))
    rw [map_setN f xs n v]
theorem sd_setE {p : Addr} {xs : List α} {v : α} {j : Int} {tj : TE} {k : List α → γ} {ok : List α → Bool} {i : Nat} (f : α → Dt) (he : a = bindV (xs.set j.toNat v) k) (hk : bindV (xs.set j.toNat v) ok = true) (hi : des[i]? = some (.own p (xs.map f))) (h : Ed c L des te (f v)) (hj : Ed c L des tj (.int j)) (h0 : 0 ≤ j) (h1 : j < xs.length) (hf : Fre p (des.set i .any))
    (kk : ∀ v, a = k v → ok v = true → Sd c L (des.set i (.own p (v.map f))) tz D) : Sd c L des (tSeq (tAsg te (gSub (tVar i) tj rSetL)) tz) D := by
  refine sd_setix hi h hj h0 (by rw [List.length_map]; exact h1) hf ?_
  have := kk _ he hk
  rwa [map_setN] at this
theorem sd_setEL {p : Addr} {xs : List α} {v : α} {j : Int} {tj : TE} {k : List α → γ} {ok : List α → Bool} {i : Nat} (f : α → Dt) (he : a = bindV (xs.set j.toNat v) k) (hk : bindV (xs.set j.toNat v) ok = true) (hi : des[i]? = some (.own p (xs.map f))) (h : Ed c L des te (f v)) (hj : Ed c L des tj (.int j)) (h0 : 0 ≤ j) (h1 : j < xs.length) (hf : Fre p (des.set i .any))
    (kk : ∀ v, a = k v → ok v = true → ∀ σ H, WS c L H σ (des.set i (.own p (v.map f))) → D.nx σ H) : Sd c L des (tAsg te (gSub (tVar i) tj rSetL)) D := by
  refine sd_setixL hi h hj h0 (by rw [List.length_map]; exact h1) hf ?_
  have := kk _ he hk
  rwa [map_setN] at this
theorem lastI_eq [Inhabited α] : ∀ {xs : List α}, xs.isEmpty = false → xs = xs.dropLast ++ [lastI xs]
  | [], h => by cases h
  | [x], _ => rfl
  | x :: y :: r, _ => by
    have := lastI_eq (xs := y :: r) rfl
    show x :: y :: r = x :: (y :: r).dropLast ++ [lastI (y :: r)]
    rw [List.cons_append, ← this]
theorem map_dropLast' (f : α → Dt) (xs : List α) : xs.dropLast.map f = (xs.map f).dropLast := by
  rw [List.dropLast_eq_take, List.dropLast_eq_take, List.map_take, List.length_map]
theorem sd_popE [Inhabited α] {p : Addr} {xs : List α} {k : α → List α → γ} {ok : α → List α → Bool} {i : Nat} {K : PySem.W.Frag} {desx : α → List α → List Des} (f : α → Dt) (he : a = bindV (lastI xs) fun u => bindV xs.dropLast (k u)) (hk : (bindV (lastI xs) fun u => bindV xs.dropLast (ok u)) = true) (hn : (!xs.isEmpty) = true) (hi : des[i]? = some (.own p (xs.map f))) (hf : Fre p (des.set i .any))
    (hg : ∀ u v, Gd c L (des.set i (.own p (v.map f))) g (f u) (desx u v)) (kk : ∀ u v, a = k u v → ok u v = true → Sd c L (desx u v) tz D) : Sd c L des (tSeq (tAsg (tBM0 K "list" rPop (tVar i)) g) tz) D := by
  refine sd_pop (d := f (lastI xs)) (ds0 := xs.dropLast.map f) hi ?_ hf (hg _ _) (kk _ _ he hk)
  have e := lastI_eq (bN hn)
  conv => lhs; rw [e]
  rw [List.map_append]; rfl
theorem sd_ifE {x y : γ} (he : a = cond b x y) (h : Et c L des tt b) (h1 : b = true → a = x → Sd c L des t D) (h2 : b = false → a = y → Sd c L des u D) : Sd c L des (tIfS tt t u) D :=
  sd_if h (fun e => h1 e (by subst e; exact he)) (fun e => h2 e (by subst e; exact he))
theorem sd_whenE {x y : γ} (he : a = cond b x y) (h : Et c L des tt b) (h1 : b = true → a = x → Sd c L des t { D with nx := tz D }) (h2 : b = false → a = y → Sd c L des tz D) : Sd c L des (tSeq (tIfS tt t tNext) tz) D :=
  sd_when h (fun e => h1 e (by subst e; exact he)) (fun e => h2 e (by subst e; exact he))
/-- if c: i = x (else: i = y) -/
theorem sd_ifAsg2 {x y : α} {k : α → γ} {ok : α → Bool} {i : Nat} (en : α → Dt) (he : a = bindV (cond b x y) k) (hk : bindV (cond b x y) ok = true) (h : Et c L des tt b) (h1 : b = true → Ed c L des ta (en x)) (h2 : b = false → Ed c L des tb (en y)) (kk : ∀ v, a = k v → ok v = true → Sd c L (des.set i (.dat (en v))) tz D) :
    Sd c L des (tSeq (tIfS tt (tAsg ta (gName i)) (tAsg tb (gName i))) tz) D :=
  sd_meet (des.set i (.dat (en (cond b x y)))) h (fun e N hN => sd_asgL (h1 e) (fun σ H w => hN σ H (by rw [e]; exact w))) (fun e N hN => sd_asgL (h2 e) (fun σ H w => hN σ H (by rw [e]; exact w))) (kk _ he hk)
theorem set_self' {d : Des} : ∀ {des : List Des} {i : Nat}, des[i]? = some d → des.set i d = des
  | [], _, h => by simp at h
  | x :: des, 0, h => by simp at h; rw [h]; rfl
  | x :: des, i + 1, h => by
    show x :: des.set i d = _
    rw [set_self' (by simpa using h)]
theorem sd_ifAsg {x y : α} {k : α → γ} {ok : α → Bool} {i : Nat} (en : α → Dt) (he : a = bindV (cond b x y) k) (hk : bindV (cond b x y) ok = true) (h : Et c L des tt b) (h1 : b = true → Ed c L des ta (en x)) (hv : des[i]? = some (.dat (en y))) (kk : ∀ v, a = k v → ok v = true → Sd c L (des.set i (.dat (en v))) tz D) :
    Sd c L des (tSeq (tIfS tt (tAsg ta (gName i)) tNext) tz) D :=
  sd_meet (des.set i (.dat (en (cond b x y)))) h (fun e N hN => sd_asgL (h1 e) (fun σ H w => hN σ H (by rw [e]; exact w))) (fun e N hN => sd_next (fun σ H w => hN σ H (by rw [e]; show WS c L H σ (des.set i (.dat (en y))); rw [set_self' hv]; exact w))) (kk _ he hk)
/-- both ways meet: what is stored by then is s -/
theorem sd_join {x y : γ} (upd : S → List (Nat × Des)) (kk : S → γ) (okk : S → Bool) (he : a = cond b x y) (h : Et c L des tt b)
    (h1 : b = true → a = x → ∀ N : St → Hp → Prop, (∀ s σ H, a = kk s → okk s = true → WS c L H σ (setAll des (upd s)) → N σ H) → Sd c L des t { D with nx := N })
    (h2 : b = false → a = y → ∀ N : St → Hp → Prop, (∀ s σ H, a = kk s → okk s = true → WS c L H σ (setAll des (upd s)) → N σ H) → Sd c L des u { D with nx := N })
    (k : ∀ s, a = kk s → okk s = true → Sd c L (setAll des (upd s)) tz D) : Sd c L des (tSeq (tIfS tt t u) tz) D := fun σ H w => h σ H w _ fun H1 g => by
  cases b with
  | true => exact h1 rfl he _ (fun s σ' H' e1 e2 w' => k s e1 e2 σ' H' w') σ H1 (w.gr g)
  | false => exact h2 rfl he _ (fun s σ' H' e1 e2 w' => k s e1 e2 σ' H' w') σ H1 (w.gr g)
theorem sd_retF {V : α} (en : α → Dt) {r : α} (he : r = V) (h : Ed c L des te (en V)) (k : Post c (en V) D.rt) : Sd c L des (tRet te) D := sd_ret h k
theorem sd_retS {V : R} {y : Step S R} (en : R → Dt) (he : y = .rt V) (h : Ed c L des te (en V)) (k : Post c (en V) D.rt) : Sd c L des (tRet te) D := sd_ret h k

/-! ### loops -/
theorem st_of [Inhabited S] {run : Step S R} {s : S} (h : run = .nx s ∨ run = .bk s) : run.st = s := by rcases h with e | e <;> rw [e] <;> rfl
theorem okL_rt {f : α → S → Step S R} {g : α → S → Bool} : True := trivial
theorem sd_forB {f : α → S → Step S R} {g : α → S → Bool} {ys : List α} {s0 : S} {wi : TI} {tg : TG} (upd : S → List (Nat × Des)) (en : α → Dt) {tgt : α → S → List Des} (hg : okL f g ys s0 = true) (hw : WalkI c L des wi (ys.map en)) (h0 : Wk des (setAll des (upd s0)))
    (hgd : ∀ (B' : Hp) x s, Gd (c.up B') L (setAll des (upd s)) tg (en x) (tgt x s))
    (hb : ∀ B', Ex c.B B' → ∀ i x s, ys[i]? = some x → forL f (ys.take i) s0 = .nx s → ∀ y, y = f x s → g x s = true →
      ∀ N Bk : St → Hp → Prop, (∀ s' σ' H', y = .nx s' → WS (c.up B') L H' σ' (setAll des (upd s')) → N σ' H') → (∀ s' σ' H', y = .bk s' → WS (c.up B') L H' σ' (setAll des (upd s')) → Bk σ' H') → Sd (c.up B') L (tgt x s) t { D with nx := N, ct := N, bk := Bk })
    (kk : ∀ s, forL f ys s0 = .nx s ∨ forL f ys s0 = .bk s → ∀ σ H, WS c L H σ (setAll des (upd s)) → D.nx σ H) : Sd c L des (tFor wi tg t) D :=
  sd_for f en (fun s => setAll des (upd s)) tgt hw h0 hgd (fun B' e i x s hx hs N Bk hN hB => hb B' e i x s hx hs _ rfl (okL_at hg hx hs) N Bk hN hB) kk
theorem sd_forS [Inhabited S] {f : α → S → Step S Unit} {g : α → S → Bool} {ys : List α} {s0 : S} {wi : TI} {tg : TG} {k : S → γ} {ok : S → Bool} (upd : S → List (Nat × Des)) (en : α → Dt) {tgt : α → S → List Des} (he : a = bindV (forL f ys s0).st k) (hk : bindV (forL f ys s0).st ok = true) (hg : okL f g ys s0 = true) (hw : WalkI c L des wi (ys.map en)) (h0 : Wk des (setAll des (upd s0)))
    (hgd : ∀ (B' : Hp) x s, Gd (c.up B') L (setAll des (upd s)) tg (en x) (tgt x s))
    (hb : ∀ B', Ex c.B B' → ∀ i x s, ys[i]? = some x → forL f (ys.take i) s0 = .nx s → ∀ y, y = f x s → g x s = true →
      ∀ N Bk : St → Hp → Prop, (∀ s' σ' H', y = .nx s' → WS (c.up B') L H' σ' (setAll des (upd s')) → N σ' H') → (∀ s' σ' H', y = .bk s' → WS (c.up B') L H' σ' (setAll des (upd s')) → Bk σ' H') → Sd (c.up B') L (tgt x s) t { D with nx := N, ct := N, bk := Bk })
    (kk : ∀ s, a = k s → ok s = true → Sd c L (setAll des (upd s)) tz D) : Sd c L des (tSeq (tFor wi tg t) tz) D :=
  sd_seq (sd_forB (D := { D with nx := tz D }) upd en hg hw h0 hgd hb (fun s hs σ H w => kk s (by rw [st_of hs] at he; exact he) (by rw [st_of hs] at hk; exact hk) σ H w))
theorem sd_forSL [Inhabited S] {f : α → S → Step S Unit} {g : α → S → Bool} {ys : List α} {s0 : S} {wi : TI} {tg : TG} {k : S → γ} {ok : S → Bool} (upd : S → List (Nat × Des)) (en : α → Dt) {tgt : α → S → List Des} (he : a = bindV (forL f ys s0).st k) (hk : bindV (forL f ys s0).st ok = true) (hg : okL f g ys s0 = true) (hw : WalkI c L des wi (ys.map en)) (h0 : Wk des (setAll des (upd s0)))
    (hgd : ∀ (B' : Hp) x s, Gd (c.up B') L (setAll des (upd s)) tg (en x) (tgt x s))
    (hb : ∀ B', Ex c.B B' → ∀ i x s, ys[i]? = some x → forL f (ys.take i) s0 = .nx s → ∀ y, y = f x s → g x s = true →
      ∀ N Bk : St → Hp → Prop, (∀ s' σ' H', y = .nx s' → WS (c.up B') L H' σ' (setAll des (upd s')) → N σ' H') → (∀ s' σ' H', y = .bk s' → WS (c.up B') L H' σ' (setAll des (upd s')) → Bk σ' H') → Sd (c.up B') L (tgt x s) t { D with nx := N, ct := N, bk := Bk })
    (kk : ∀ s, a = k s → ok s = true → ∀ σ H, WS c L H σ (setAll des (upd s)) → D.nx σ H) : Sd c L des (tFor wi tg t) D :=
  sd_forB upd en hg hw h0 hgd hb (fun s hs σ H w => kk s (by rw [st_of hs] at he; exact he) (by rw [st_of hs] at hk; exact hk) σ H w)
theorem sd_forR {h : R → γ} {f : α → S → Step S R} {g : α → S → Bool} {ys : List α} {s0 : S} {wi : TI} {tg : TG} {k : S → γ} {ok : S → Bool} (upd : S → List (Nat × Des)) (en : α → Dt) {tgt : α → S → List Des} (he : a = Step.fin h (forL f ys s0) k) (hk : Step.finB (forL f ys s0) ok = true) (hg : okL f g ys s0 = true) (hw : WalkI c L des wi (ys.map en)) (h0 : Wk des (setAll des (upd s0)))
    (hgd : ∀ (B' : Hp) x s, Gd (c.up B') L (setAll des (upd s)) tg (en x) (tgt x s))
    (hb : ∀ B', Ex c.B B' → ∀ i x s, ys[i]? = some x → forL f (ys.take i) s0 = .nx s → ∀ y, y = f x s → g x s = true →
      ∀ N Bk : St → Hp → Prop, (∀ s' σ' H', y = .nx s' → WS (c.up B') L H' σ' (setAll des (upd s')) → N σ' H') → (∀ s' σ' H', y = .bk s' → WS (c.up B') L H' σ' (setAll des (upd s')) → Bk σ' H') → Sd (c.up B') L (tgt x s) t { D with nx := N, ct := N, bk := Bk })
    (kk : ∀ s, a = k s → ok s = true → Sd c L (setAll des (upd s)) tz D) : Sd c L des (tSeq (tFor wi tg t) tz) D :=
  sd_seq (sd_forB (D := { D with nx := tz D }) upd en hg hw h0 hgd hb (fun s hs σ H w => kk s (eqFin he hs) (finOk hk hs) σ H w))
theorem sd_forRL {h : R → γ} {f : α → S → Step S R} {g : α → S → Bool} {ys : List α} {s0 : S} {wi : TI} {tg : TG} {k : S → γ} {ok : S → Bool} (upd : S → List (Nat × Des)) (en : α → Dt) {tgt : α → S → List Des} (he : a = Step.fin h (forL f ys s0) k) (hk : Step.finB (forL f ys s0) ok = true) (hg : okL f g ys s0 = true) (hw : WalkI c L des wi (ys.map en)) (h0 : Wk des (setAll des (upd s0)))
    (hgd : ∀ (B' : Hp) x s, Gd (c.up B') L (setAll des (upd s)) tg (en x) (tgt x s))
    (hb : ∀ B', Ex c.B B' → ∀ i x s, ys[i]? = some x → forL f (ys.take i) s0 = .nx s → ∀ y, y = f x s → g x s = true →
      ∀ N Bk : St → Hp → Prop, (∀ s' σ' H', y = .nx s' → WS (c.up B') L H' σ' (setAll des (upd s')) → N σ' H') → (∀ s' σ' H', y = .bk s' → WS (c.up B') L H' σ' (setAll des (upd s')) → Bk σ' H') → Sd (c.up B') L (tgt x s) t { D with nx := N, ct := N, bk := Bk })
    (kk : ∀ s, a = k s → ok s = true → ∀ σ H, WS c L H σ (setAll des (upd s)) → D.nx σ H) : Sd c L des (tFor wi tg t) D :=
  sd_forB upd en hg hw h0 hgd hb (fun s hs σ H w => kk s (eqFin he hs) (finOk hk hs) σ H w)
end

/-! ### built-in names that a text leaves alone -/
structure Bn (mg : Str → Option Value) : Prop where
  len_ : mg "len" = none
  range_ : mg "range" = none
  int_ : mg "int" = none
  max_ : mg "max" = none
  min_ : mg "min" = none
  list_ : mg "list" = none
  tuple_ : mg "tuple" = none
  isinstance_ : mg "isinstance" = none
  any_ : mg "any" = none
  all_ : mg "all" = none
  sum_ : mg "sum" = none
  sorted_ : mg "sorted" = none
  enumerate_ : mg "enumerate" = none
  reversed_ : mg "reversed" = none
  str_ : mg "str" = none
  bool_ : mg "bool" = none
theorem bb_len : bootBuiltins "len" = some (.builtin "len") := by decide +kernel
theorem bb_max : bootBuiltins "max" = some (.builtin "max") := by decide +kernel
theorem bb_min : bootBuiltins "min" = some (.builtin "min") := by decide +kernel
theorem bb_sum : bootBuiltins "sum" = some (.builtin "sum") := by decide +kernel
theorem bb_any : bootBuiltins "any" = some (.builtin "any") := by decide +kernel
theorem bb_all : bootBuiltins "all" = some (.builtin "all") := by decide +kernel
theorem bb_sorted : bootBuiltins "sorted" = some (.builtin "sorted") := by decide +kernel
theorem bb_isinstance : bootBuiltins "isinstance" = some (.builtin "isinstance") := by decide +kernel
theorem bb_int : bootBuiltins "int" = some (.type "int") := by decide +kernel
theorem bb_str : bootBuiltins "str" = some (.type "str") := by decide +kernel
theorem bb_bool : bootBuiltins "bool" = some (.type "bool") := by decide +kernel
theorem bb_list : bootBuiltins "list" = some (.type "list") := by decide +kernel
theorem bb_tuple : bootBuiltins "tuple" = some (.type "tuple") := by decide +kernel
end Dl
end

section
set_option maxHeartbeats 4000000
/-! Dl6: dicts whose keys are nested tuples; more rules. -/
namespace Dl
open PySem L2 Evl
variable {c : Cn} {L L' : List Addr} {des des' : List Des}

/-! ### nested keys -/
mutual
def nkey : Dt → NestedKey
  | .non => .none
  | .bl b => .num (if b = true then 1 else 0)
  | .int i => .num i
  | .str x => .text x
  | .tup ds => .tup (nkeys ds)
  | .lst _ => .none
  | .ob _ => .none
def nkeys : List Dt → List NestedKey
  | [] => []
  | d :: ds => nkey d :: nkeys ds
end
mutual
def keyOk : Dt → Bool
  | .lst _ => false
  | .ob _ => false
  | .tup ds => keysOk ds
  | .non => true
  | .bl _ => true
  | .int _ => true
  | .str _ => true
def keysOk : List Dt → Bool
  | [] => true
  | d :: ds => keyOk d && keysOk ds
end
section
variable {X : Cx} {pins : List (Addr × Obj)} {σ : St} {H : Hp} {s : Shared}
mutual
theorem nested_of (I : L2.Inv X pins σ H s) : ∀ (d : Dt) (v : V) (u : Value), Rp X.K H v d → keyOk d = true → RelV v u → NestedIs s.heap (nkey d) u
  | .non, _, _, h, _, r => by cases h; cases r; exact .none
  | .bl b, _, _, h, _, r => by cases h; cases r; exact .bool rfl
  | .int i, _, _, h, _, r => by cases h; obtain ⟨t, rfl⟩ := r; exact .int i t
  | .str x, _, _, h, _, r => by cases h; obtain ⟨t, rfl⟩ := r; exact .text x t
  | .lst _, _, _, _, k, _ => by cases k
  | .ob _, _, _, _, k, _ => by cases k
  | .tup ds, _, _, h, k, r => by
    obtain ⟨a, xs, rfl, hs, ha⟩ := h.tup_inv
    cases r
    obtain ⟨its, rv, ⟨o, ho, hc, n, hd⟩, _⟩ := I.tuple hs
    exact .tup ho hc hd (by simpa using nesteds_of I ds _ its ha k rv)
theorem nesteds_of (I : L2.Inv X pins σ H s) : ∀ (ds : List Dt) (vs : List V) (us : List Value), RpA X.K H vs ds → keysOk ds = true → Vals vs us → NestedAll s.heap (nkeys ds) us
  | [], _, _, h, _, r => by cases h; cases r; exact .nil
  | d :: ds, _, _, h, k, r => by
    cases h with
    | cons h1 h2 =>
      cases r with
      | cons r1 r2 => exact .cons (nested_of I d _ _ h1 (b1 k) r1) (nesteds_of I ds _ _ h2 (b2 k) r2)
end
end
/-- the value at b is the key k -/
def NKey (K : PySem.W.Frag) (H : Hp) (k : NestedKey) (b : Addr) : Prop := ∃ d, keyOk d = true ∧ Rp K H (.ref b) d ∧ nkey d = k ∧ k.depth ≤ 8
theorem NKey.is {X : Cx} {pins : List (Addr × Obj)} {σ : St} {H : Hp} {s : Shared} {k : NestedKey} {b : Addr} (h : NKey X.K H k b) (I : L2.Inv X pins σ H s) : (nestedKind X.prog X.w).is s.heap k b := by
  obtain ⟨d, h1, h2, rfl, h3⟩ := h
  exact ⟨nested_of I d _ _ h2 h1 rfl, h3⟩
theorem NKey.ex {K : PySem.W.Frag} {H H' : Hp} {k : NestedKey} {b : Addr} (h : NKey K H k b) (e : Ex H H') : NKey K H' k b := by
  obtain ⟨d, h1, h2, h3⟩ := h
  exact ⟨d, h1, h2.ex e, h3⟩

/-! ### the dict -/
abbrev Ent := NestedKey × Addr × Value
def NDo (a : Addr) (ob : Obj) : HO := .ext fun h => (a == sysModules) = false ∧ h.get? a = some ob
def NDok (P : Program) (w : World) (ob : Obj) (xs : List Ent) : Prop := ob.ExactDict ∧ xs.length ≤ sizeLine ∧ (xs.map (·.1)).Nodup ∧ ∃ es ep, ob.data = .dict es ep ∧ es.toList = xs.map (entryOfKey (nestedKind P w))
section
variable {P : Program} {w : World} {H : Hp} {h : Heap} {a : Addr} {ob : Obj}
theorem ndo_new (hs : (a == sysModules) = false) (e : h.get? a = some ob) : ObjOk P w H h a (NDo a ob) := ⟨⟨hs, e⟩, ⟨ob, e⟩, fun h1 h2 q k => ⟨q.1, k ob q.2⟩⟩
theorem ndo_at {a' : Addr} (x : ObjOk P w H h a' (NDo a ob)) : (a == sysModules) = false ∧ h.get? a = some ob := x.1
end
section
variable {X : Cx} {pins : List (Addr × Obj)} {σ : St} {H : Hp} {s : Shared} {pos pos' : Pos} {td ty tv : TE} {o i e value tg : Expr}
/-- {} -/
def tDNewN (P : Program) (w : World) : TE := fun _ H Q => ∀ p ob, H p = none → NDok P w ob [] → Q (.ref p) (upd H p (NDo p ob))
theorem pe_dnewN : PE X (.Dict [] [] pos) (tDNewN X.prog X.w) := ⟨fun pins s σ H Q I h =>
  wpAny_Dict_empty ⟨.ref s.heap.objs.size, _, I.laid (a := s.heap.objs.size) (o := NDo s.heap.objs.size { cls := .type "dict", data := .dict #[] }) (t' := s.toks) (fun _ _ q => Heap.get?_push_of_some _ q) (Nat.le_refl _)
    (ndo_new (beq_eq_false_iff_ne.mpr (Ne.symm (Nat.ne_of_lt I.big))) (Heap.get?_push_size _ rfl)), rfl, h _ _ (I.hok.fresh (Nat.le_refl _)) ⟨⟨rfl, rfl, rfl⟩, Nat.zero_le _, List.nodup_nil, #[], 0, rfl, rfl⟩⟩⟩
theorem storedH_len {K : Type} [DecidableEq K] (xs : List (K × Addr × Value)) (k : K) (b : Addr) (v : Value) : (storedH xs k b v).length ≤ xs.length + 1 := by
  unfold storedH
  split
  · rw [List.length_map]; omega
  · rw [List.length_append]; simp
/-- d[y] = True -/
def sDPutN (P : Program) (w : World) (K : PySem.W.Frag) (td ty tv : TE) : TS := fun D σ H => tv σ H fun v H1 => td σ H1 fun x H2 => ty σ H2 fun y H3 => ∃ (a b : Addr) (ob : Obj) (xs : List Ent) (k : NestedKey), x = .ref a ∧ y = .ref b ∧ v = .bl true ∧ H3 a = some (NDo a ob) ∧ NDok P w ob xs ∧
  xs.length < sizeLine ∧ (∀ z ∈ xs, NKey K H3 z.1 z.2.1) ∧ NKey K H3 k b ∧ ∀ ob', NDok P w ob' (storedH xs k b (.bool true)) → D.nx σ (upd H3 a (NDo a ob'))
theorem ps_dputN (hu : X.A.units + 64 < cLine) (ho : PE X o td) (hi : PE X i ty) (hv : PE X value tv) (hs : swapsWith value (some (.Subscript o i pos')) pos.line X.env = pure false) :
    PS X (.Assign [.Subscript o i pos'] value pos) (sDPutN X.prog X.w X.K td ty tv) := by
  refine ⟨fun pins s σ H D I h => ?_⟩
  refine wpAny_Assign_Subscript (thn (hv.run pins s σ H _ I h) fun r s1 ⟨v, H1, I1, rv, q1⟩ => thn (ho.run pins s1 σ H1 _ I1 q1) fun u s2 ⟨x, H2, I2, rx, q2⟩ => thn (hi.run pins s2 σ H2 _ I2 q2) fun iv s3 ⟨y, H3, I3, ry, a, b, ob, xs, k, ex, ey, ev, ea, ok, hz, hk, kb, q3⟩ => ?_) hs
  subst ex ey ev
  obtain rfl : u = Value.ref a := rx
  obtain rfl : iv = Value.ref b := ry
  obtain rfl : r = Value.bool true := rv
  obtain ⟨o1, o2, o3, es, ep, o4, o5⟩ := ok
  obtain ⟨hsm, hg⟩ := ndo_at (I3.hok a _ ea)
  have dd : s3.heap.DictOfH (nestedKind X.prog X.w) a xs := ⟨ob, es, ep, hg, o1, o4, o5, fun z hz => (hk z hz).is I3, o3⟩
  refine wpAny_setItem_heap (hsz := o2) (show X.A.in1.units + 8 < cLine by show X.A.units + 1 + 8 < cLine; omega) (kb.is I3) dd fun h' dd' hs => ?_
  obtain ⟨ob', es', ep', hq, h2, h3, h4, _, h5⟩ := dd'
  have hlen := storedH_len xs k b (.bool true)
  refine ⟨σ, upd H3 a (NDo a ob'), d_write I3 (by rw [ea]; exact True.intro) hs ⟨_, hq⟩ (ndo_new hsm hq), q3 ob' ⟨h2, by omega, h5, es', ep', h3, h4⟩⟩
/-! for k in d -/
def Itkn (a : Addr) (ob : Obj) (zs : List Ent) : It :=
  ⟨fun i H => H a = some (NDo a ob) ∧ i < zs.length, fun i H x H' => H' = H ∧ ∃ z, zs[i]? = some z ∧ x = .ref z.2.1, fun i H => H a = some (NDo a ob) ∧ zs.length ≤ i⟩
def iKeysN (P : Program) (w : World) (td : TE) : TI := fun σ H R => td σ H fun x H1 => ∃ a ob zs, x = .ref a ∧ H1 a = some (NDo a ob) ∧ NDok P w ob zs ∧ R (Itkn a ob zs) H1
theorem turn_keysN {P : Program} {w : World} {K : PySem.W.Frag} {tg : Expr} {d : Addr} {ob : Obj} {zs : List Ent} {es : Array DictEntry} {ep : Nat} (it : Addr) (hod : ob.data = .dict es ep) (he : es.toList = zs.map (entryOfKey (nestedKind P w))) : Turn P w K tg (Itkn d ob zs) [it] it (fun i h => h.IsKeyIter it d i zs.length ep) where
  mem := by simp
  obj := fun i h st b hb => by
    have e : b = it := by simpa using hb
    subst e
    obtain ⟨oi, e, c, dd⟩ := st
    exact ⟨oi, e, fun v z => by rw [dd] at z; cases z⟩
  keep := fun i h h' st k => st.at fun oi e => k it (by simp) oi e
  item := by
    intro X hP hw hK hc i pins s σ H E I hf st hg
    subst hP hw hK
    obtain ⟨hd, hi⟩ := hg
    obtain ⟨f0, f1, f2, f3, f4, f5⟩ := hf it (by simp)
    obtain ⟨hs, hgd⟩ := ndo_at (I.hok d _ hd)
    obtain ⟨z, hz⟩ : ∃ p, zs[i]? = some p := ⟨zs[i], List.getElem?_eq_getElem hi⟩
    have hen : es[i]? = some (entryOfKey (nestedKind X.prog X.w) z) := by rw [PySem.entry_at he, hz]; rfl
    refine next_key_item st hgd hod (size_of_entries he) hen fun h' st' sb => ?_
    have I1 : L2.Inv X pins σ H { s with heap := h' } := I.turned (t' := s.toks) (fun b ob hb e => (sb.2 b hb).trans e) f0 f1 f3 f4 f5
    obtain ⟨oi, e, c, dd⟩ := id st'
    exact ⟨_, rfl, go_of (s := { s with heap := h' }) e c dd (by decide) ⟨.ref z.2.1, H, I1, rfl, ⟨rfl, z, hz, rfl⟩, st', fun b hb => (hf b hb).1⟩⟩
  done := by
    intro X hP hw hK hc i pins s σ H E I hf st hg
    subst hP hw hK
    obtain ⟨hd, hi⟩ := hg
    obtain ⟨f0, f1, f2, f3, f4, f5⟩ := hf it (by simp)
    obtain ⟨hs, hgd⟩ := ndo_at (I.hok d _ hd)
    exact next_key_end (I.ok.hd hc) st hgd hod (size_of_entries he) hi fun h' eb => ⟨rfl, I.turned (t' := s.toks) (fun b ob hb e => eb b ob hb e) f0 f1 f3 f4 f5⟩
  self := fun A i s Q E st h => by
    refine wpAny_pyIter_slot st.typeIs F.slot_dict_keyiterator_iter (wpAny_call_entry F.slot_dict_keyiterator_iter st.typeIs F.entry_dict_keyiterator_iter ?_ (F.args_dict_keyiterator_iter_1 _))
    show wpAny _ _ (ret (.ref it)) _ _ s
    exact wpAny_pure ⟨_, rfl, "dict_keyiterator", _, st.typeIs, F.slot_dict_keyiterator_next.lookup, h⟩
theorem pi_keysN (he : PE X e td) : PI X tg e (iKeysN X.prog X.w td) := by
  refine ⟨fun pins s σ H R I h => ?_⟩
  refine thn (he.run pins s σ H _ I h) fun u s1 ⟨x, H1, I1, rx, a, ob, zs, ex, ha, ok, q⟩ => ?_
  subst ex
  obtain rfl : u = Value.ref a := rx
  obtain ⟨o1, o2, o3, es, ep, o4, o5⟩ := ok
  obtain ⟨hsm, hg⟩ := ndo_at (I1.hok a _ ha)
  refine iter_keys hsm hg o1 o4 (pi_one (tk := s1.toks) I1 _ (turn_keysN _ o4 o5) ⟨_, Heap.get?_push_size _ rfl, rfl, ?_⟩ q)
  rw [size_of_entries o5] <;> rfl
/-! list(d) -/
def rListN (P : Program) (w : World) : List V → Hp → VK → Prop := fun xs H Q => ∃ a ob zs, xs = [V.ref a] ∧ H a = some (NDo a ob) ∧ NDok P w ob zs ∧ ∀ p, H p = none → Q (.ref p) (upd H p (.lst (zs.map fun z => V.ref z.2.1)))
theorem call_list_dN (hc : X.calm = true) : CallR X (.type "list") (rListN X.prog X.w) := by
  intro pins s σ H xs us Q I r h
  obtain ⟨d, ob, zs, rfl, hd, ok, q⟩ := h
  obtain ⟨u, rfl, rx⟩ := r.one
  cases rx
  obtain ⟨o1, o2, o3, es, ep, o4, o5⟩ := ok
  obtain ⟨hsm, hg⟩ := ndo_at (I.hok d _ hd)
  have l1 : es.size = zs.length := size_of_entries o5
  refine PySem.W.kdl_call (kdl_raw hsm o1 o4) (I.ok.hd hc) hg (by omega) fun h' tk acc' c' kp e it => ?_
  have ea : acc'.toList = zs.map fun x => Value.ref x.2.1 := by
    have hl : acc'.toList.length = zs.length := by rw [Array.length_toList, it.1]; exact l1
    apply List.ext_getElem?
    intro j
    rw [List.getElem?_map]
    cases hj : acc'.toList[j]? with
    | none =>
      have h1 := List.getElem?_eq_none_iff.mp hj
      rw [List.getElem?_eq_none (by omega)]
      all_goals rfl
    | some v =>
      obtain ⟨en, hen, hv⟩ := it.2 j v (by rw [← Array.getElem?_toList]; exact hj)
      have qe := PySem.entry_at o5 j
      rw [hen] at qe
      cases hb : zs[j]? with
      | none =>
        rw [hb] at qe
        exact nomatch (show some en = none from qe)
      | some b =>
        rw [hb] at qe
        have e2 : en = entryOfKey (nestedKind X.prog X.w) b := Option.some.inj qe
        rw [hv, e2]
        all_goals rfl
  have eb : acc'.toList = (zs.map fun x => x.2.1).map Value.ref := by rw [ea, List.map_map]; all_goals rfl
  have rv : Vals ((zs.map fun x => x.2.1).map V.ref) acc'.toList := by rw [eb]; exact vals_refs _
  have hz : ((zs.map fun x => x.2.1).map V.ref).length ≤ sizeLine := by rw [List.length_map, List.length_map]; omega
  have q' := q s.heap.objs.size (I.hok.fresh (Nat.le_refl _))
  rw [show (zs.map fun z => V.ref z.2.1) = (zs.map fun x => x.2.1).map V.ref by rw [List.map_map]; rfl] at q'
  refine ⟨.ref s.heap.objs.size, _, I.laid (t' := tk) (o := .lst ((zs.map fun x => x.2.1).map V.ref)) kp (Nat.le_refl _) ?_, rfl, q'⟩
  exact ⟨hz, acc'.toList, c', rv, by rw [Array.toArray_toList]; exact e⟩
end

/-! ### .. as a thing of our own: its keys are ks -/
structure KeyEn {α : Type} (en : α → Dt) : Prop where
  tup : ∀ x, ∃ ds, en x = .tup ds
  ok : ∀ x, keyOk (en x) = true
  depth : ∀ x, (nkey (en x)).depth ≤ 8
  inj : ∀ x y, nkey (en x) = nkey (en y) → x = y
section
variable {α : Type}
def ents (en : α → Dt) (ks : List α) (bs : List Addr) : List Ent := (ks.zip bs).map fun p => (nkey (en p.1), p.2, .bool true)
def NX (P : Program) (w : World) (K : PySem.W.Frag) (p : Addr) (en : α → Dt) (ks : List α) : OX where
  p := fun o Vs => ∃ ob bs, o = NDo p ob ∧ NDok P w ob (ents en ks bs) ∧ RpA K Vs (bs.map .ref) (ks.map en)
  mono := fun o H H' e ⟨ob, bs, h1, h2, h3⟩ => ⟨ob, bs, h1, h2, h3.ex e⟩
theorem ents_len {en : α → Dt} {ks : List α} {bs : List Addr} (h : bs.length = ks.length) : (ents en ks bs).length = ks.length := by
  unfold ents; rw [List.length_map, List.length_zip]; omega
theorem ents_key {K : PySem.W.Frag} {H : Hp} {en : α → Dt} (ke : KeyEn en) : ∀ {ks : List α} {bs : List Addr}, RpA K H (bs.map .ref) (ks.map en) → ∀ z ∈ ents en ks bs, NKey K H z.1 z.2.1
  | [], [], _, z, hz => by cases hz
  | [], b :: bs, h, _, _ => by cases h
  | k :: ks, [], h, _, _ => by cases h
  | k :: ks, b :: bs, h, z, hz => by
    cases h with
    | cons h t =>
      rcases List.mem_cons.mp (show z ∈ (nkey (en k), b, Value.bool true) :: ents en ks bs from hz) with e | e
      · subst e; exact ⟨en k, ke.ok k, h, rfl, ke.depth k⟩
      · exact ents_key ke t z e
theorem ents_refs {en : α → Dt} : ∀ {ks : List α} {bs : List Addr}, bs.length = ks.length → (ents en ks bs).map (fun z => V.ref z.2.1) = bs.map .ref
  | [], [], _ => rfl
  | [], b :: bs, h => by cases h
  | k :: ks, [], h => by cases h
  | k :: ks, b :: bs, h => by
    show V.ref b :: (ents en ks bs).map (fun z => V.ref z.2.1) = V.ref b :: bs.map .ref
    rw [ents_refs (Nat.succ.inj h)]
theorem ents_at {en : α → Dt} (ke : KeyEn en) [DecidableEq α] (x : α) : ∀ {ks : List α} {bs : List Addr}, bs.length = ks.length → (atKey (ents en ks bs) (nkey (en x))).isSome = decide (x ∈ ks)
  | [], [], _ => rfl
  | [], b :: bs, h => by cases h
  | k :: ks, [], h => by cases h
  | k :: ks, b :: bs, h => by
    have ih := ents_at ke x (ks := ks) (bs := bs) (Nat.succ.inj h)
    unfold atKey at ih ⊢
    rw [show ents en (k :: ks) (b :: bs) = (nkey (en k), b, Value.bool true) :: ents en ks bs from rfl, List.find?_cons]
    by_cases e : k = x
    · subst e; simp
    · have e2 : ¬ nkey (en k) = nkey (en x) := fun z => e (ke.inj _ _ z)
      have e3 : ¬ x = k := fun z => e z.symm
      have e4 : decide (nkey (en k) = nkey (en x)) = false := decide_eq_false e2
      simp only [e4]
      rw [ih]
      simp [e3]
theorem ents_snoc {en : α → Dt} {x : α} {b : Addr} : ∀ {ks : List α} {bs : List Addr}, bs.length = ks.length → ents en (ks ++ [x]) (bs ++ [b]) = ents en ks bs ++ [(nkey (en x), b, .bool true)]
  | [], [], _ => rfl
  | [], b :: bs, h => by cases h
  | k :: ks, [], h => by cases h
  | k :: ks, b' :: bs, h => by
    show (nkey (en k), b', Value.bool true) :: ents en (ks ++ [x]) (bs ++ [b]) = _
    rw [ents_snoc (Nat.succ.inj h)]; rfl
theorem ents_put {en : α → Dt} {ks : List α} {bs : List Addr} {k : NestedKey} : (ents en ks bs).map (putAt k (.bool true)) = ents en ks bs := by
  unfold ents
  rw [List.map_map]
  refine List.map_congr_left fun p _ => ?_
  show (if nkey (en p.1) = k then (nkey (en p.1), p.2, Value.bool true) else _) = _
  split <;> rfl
theorem ents_stored {en : α → Dt} (ke : KeyEn en) [DecidableEq α] {x : α} {b : Addr} {ks : List α} {bs : List Addr} (h : bs.length = ks.length) :
    ∃ bs' : List Addr, storedH (ents en ks bs) (nkey (en x)) b (.bool true) = ents en (putN ks x) bs' ∧ (bs' = bs ∧ x ∈ ks ∨ bs' = bs ++ [b] ∧ x ∉ ks) := by
  unfold storedH putN
  rw [ents_at ke x h]
  by_cases q : x ∈ ks
  · exact ⟨bs, by simp only [decide_eq_true q, if_true, cond_true]; exact ents_put, .inl ⟨rfl, q⟩⟩
  · exact ⟨bs ++ [b], by simp only [decide_eq_false q, cond_false]; rw [if_neg (by simp), ents_snoc h], .inr ⟨rfl, q⟩⟩
end
section
variable {P : Program} {w : World} {α β γ : Type} {t u tz : TS} {te ta tb td ty tv : TE} {D : Ends} {a : γ} {en : α → Dt} {i : Nat} {p : Addr}
theorem dnew_core {N : Addr → St → Hp → Prop} (k : ∀ p, p ∉ c.M L → ∀ σ H, WS c (p :: L) H σ (des.set i (.ownX p (NX P w c.K p en []))) → N p σ H) : ∀ σ H, WS c L H σ des → tDNewN P w σ H fun x H1 => ∃ p, x = .ref p ∧ N p (σ.set i (some x)) H1 := fun σ H w0 p ob hp ok =>
  ⟨p, rfl, k p (w0.fresh hp) _ _ (w0.takeX hp (Gr.new w0 hp) upd_same ⟨ob, [], rfl, ok, .nil⟩)⟩
theorem sd_newE {k : List α → γ} {ok : List α → Bool} (en : α → Dt) (he : a = bindV [] k) (hk : bindV [] ok = true) (kk : ∀ p, p ∉ c.M L → ∀ v, a = k v → ok v = true → Sd c (p :: L) (des.set i (.ownX p (NX P w c.K p en v))) tz D) : Sd c L des (tSeq (tAsg (tDNewN P w) (gName i)) tz) D := fun σ H w0 p ob hp oo =>
  kk p (w0.fresh hp) [] he hk _ _ (w0.takeX hp (Gr.new w0 hp) upd_same ⟨ob, [], rfl, oo, .nil⟩)
theorem put_core [DecidableEq α] {ks : List α} {x : α} (ke : KeyEn en) (hi : des[i]? = some (.ownX p (NX P w c.K p en ks))) (h : Ed c L des ty (en x)) (hz : ks.length < 1000000) (hf : Fre p (des.set i .any)) {N : St → Hp → Prop} (k : ∀ σ H, WS c L H σ (des.set i (.ownX p (NX P w c.K p en (putN ks x)))) → N σ H) :
    ∀ σ H, WS c L H σ des → sDPutN P w c.K (tVar i) ty (tC (.bl true)) { nx := N, rt := fun _ _ => False, bk := fun _ _ => False, ct := fun _ _ => False } σ H := fun σ H w0 => by
  obtain ⟨s, hs, e, _⟩ := w0.sl.get hi
  refine ⟨.ref p, by rw [hs, e], h σ H w0 _ fun y H1 g r => ?_⟩
  have w1 := w0.gr g
  obtain ⟨s', hs', e', hp, o, ho, ob, bs, eo, ok, rp⟩ := w1.sl.get hi
  obtain ⟨ds, ed⟩ := ke.tup x
  have r' := r
  rw [ed] at r'
  obtain ⟨b, xs, eb, _⟩ := r'.tup_inv
  subst eo eb
  have el := rp.length
  rw [List.length_map, List.length_map] at el
  have full : Ex (hid (c.M L) H1) H1 := hid_le
  refine ⟨p, b, ob, _, nkey (en x), rfl, rfl, rfl, ho, ok, by rw [ents_len el]; exact Nat.lt_of_lt_of_le hz (by decide), fun z hz => (ents_key ke rp z hz).ex full, ⟨en x, ke.ok x, r.ex full, rfl, ke.depth x⟩, fun ob' ok' => k σ _ ?_⟩
  obtain ⟨bs', e1, e2⟩ := ents_stored (b := b) ke (x := x) el
  rw [e1] at ok'
  refine w1.put hp hf (by rw [hs, e]) ⟨rfl, hp, _, upd_same, ob', bs', rfl, ok', ?_⟩
  unfold putN
  rcases e2 with ⟨e2, q⟩ | ⟨e2, q⟩
  · subst e2; rw [decide_eq_true q]; exact rp
  · subst e2
    rw [decide_eq_false q]
    show RpA c.K _ ((bs ++ [b]).map .ref) ((ks ++ [x]).map en)
    rw [List.map_append, List.map_append]
    exact rp.snoc r
theorem sd_putE [DecidableEq α] {ks : List α} {x : α} {k : List α → γ} {ok : List α → Bool} (en : α → Dt) (ke : KeyEn en) (he : a = bindV (putN ks x) k) (hk : bindV (putN ks x) ok = true) (hi : des[i]? = some (.ownX p (NX P w c.K p en ks))) (h : Ed c L des ty (en x)) (hz : ks.length < 1000000) (hf : Fre p (des.set i .any))
    (kk : ∀ v, a = k v → ok v = true → Sd c L (des.set i (.ownX p (NX P w c.K p en v))) tz D) : Sd c L des (tSeq (sDPutN P w c.K (tVar i) ty (tC (.bl true))) tz) D := put_core ke hi h hz hf (kk _ he hk)
theorem sd_putEL [DecidableEq α] {ks : List α} {x : α} {k : List α → γ} {ok : List α → Bool} (en : α → Dt) (ke : KeyEn en) (he : a = bindV (putN ks x) k) (hk : bindV (putN ks x) ok = true) (hi : des[i]? = some (.ownX p (NX P w c.K p en ks))) (h : Ed c L des ty (en x)) (hz : ks.length < 1000000) (hf : Fre p (des.set i .any))
    (kk : ∀ v, a = k v → ok v = true → ∀ σ H, WS c L H σ (des.set i (.ownX p (NX P w c.K p en v))) → D.nx σ H) : Sd c L des (sDPutN P w c.K (tVar i) ty (tC (.bl true))) D := put_core ke hi h hz hf (kk _ he hk)
theorem wk_dic {ks : List α} (hi : des[i]? = some (.dat (.ob (obX p (NX P w c.K p en ks))))) : WalkI c L des (iKeysN P w (tVar i)) (ks.map en) := fun σ H w0 R q => by
  obtain ⟨s, hs, v, e, hv⟩ := w0.sl.get hi
  obtain ⟨ev, o, ho, ob, bs, eo, ok, rp⟩ := hv.ob_inv
  subst ev eo
  have el := rp.length
  rw [List.length_map, List.length_map] at el
  refine ⟨.ref p, by rw [hs, e], p, ob, _, rfl, hid_le _ _ ho, ok, q _ H (Gr.refl w0) fun j H' eH => ?_⟩
  have hp : H' p = some (NDo p ob) := eH _ _ ho
  rw [List.length_map]
  refine ⟨fun hj => ⟨hp, by rw [ents_len el]; exact hj⟩, fun hj => ⟨hp, by rw [ents_len el]; exact Nat.le_of_eq hj.symm⟩, fun v H'' y hj => ?_⟩
  obtain ⟨e1, z, hz, ez⟩ := y
  subst e1 ez
  refine ⟨Ex.refl _, fun M _ hv => ?_⟩
  have q1 : ((ents en ks bs).map (fun z => V.ref z.2.1))[j]? = some (.ref z.2.1) := by rw [List.getElem?_map, hz]; rfl
  rw [ents_refs el] at q1
  obtain ⟨d, e2, rd⟩ := rp.getV q1
  exact ⟨d, e2, rd.ex hv⟩
theorem ed_listF {ks : List α} (hi : des[i]? = some (.dat (.ob (obX p (NX P w c.K p en ks))))) : Ed c L des (tCB (rListN P w) (tCons (tVar i) tNil)) (eL en ks) := fun σ H w0 Q q => by
  obtain ⟨s, hs, v, e, hv⟩ := w0.sl.get hi
  obtain ⟨ev, o, ho, ob, bs, eo, ok, rp⟩ := hv.ob_inv
  subst ev eo
  have el := rp.length
  rw [List.length_map, List.length_map] at el
  refine ⟨.ref p, by rw [hs, e], p, ob, _, rfl, hid_le _ _ ho, ok, fun l hl => ?_⟩
  rw [ents_refs el]
  exact q _ _ (Gr.new w0 hl) (.new_lst w0 hl rp)
theorem ed_listX {ks : List α} (hi : des[i]? = some (.ownX p (NX P w c.K p en ks))) : Ed c L des (tCB (rListN P w) (tCons (tVar i) tNil)) (eL en ks) := fun σ H w0 Q q => by
  obtain ⟨s, hs, e, hp, o, ho, ob, bs, eo, ok, rp⟩ := w0.sl.get hi
  subst eo
  have el := rp.length
  rw [List.length_map, List.length_map] at el
  refine ⟨.ref p, by rw [hs, e], p, ob, _, rfl, ho, ok, fun l hl => ?_⟩
  rw [ents_refs el]
  exact q _ _ (Gr.new w0 hl) (.new_lst w0 hl rp)
end
/-! the keys that are used -/
theorem nkeys_ints : ∀ (l m : List Int), nkeys (l.map .int) = nkeys (m.map .int) → l = m
  | [], [], _ => rfl
  | [], m :: ms, h => by cases h
  | l :: ls, [], h => by cases h
  | l :: ls, m :: ms, h => by
    have h' : NestedKey.num l :: nkeys (ls.map .int) = NestedKey.num m :: nkeys (ms.map .int) := h
    injection h' with h1 h2
    injection h1 with h1
    rw [h1, nkeys_ints ls ms h2]
theorem keysOk_ints : ∀ l : List Int, keysOk (l.map .int) = true
  | [] => rfl
  | _ :: l => keysOk_ints l
theorem depth_ints : ∀ l : List Int, NestedKey.depthAll (nkeys (l.map .int)) ≤ 1
  | [] => by decide
  | x :: l => by
    have := depth_ints l
    show max (NestedKey.depth (.num x)) (NestedKey.depthAll (nkeys (l.map .int))) ≤ 1
    have h0 : NestedKey.depth (.num x) ≤ 1 := by simp [NestedKey.depth]
    omega
theorem keTT : KeyEn (e2 (eT Dt.int) (eT Dt.int)) where
  tup := fun x => ⟨_, rfl⟩
  ok := fun x => by
    show (keysOk (x.1.map .int) && (keysOk (x.2.map .int) && true)) = true
    rw [keysOk_ints, keysOk_ints]; rfl
  depth := fun x => by
    have h1 := depth_ints x.1
    have h2 := depth_ints x.2
    show NestedKey.depth (.tup [.tup (nkeys (x.1.map .int)), .tup (nkeys (x.2.map .int))]) ≤ 8
    simp only [NestedKey.depth, NestedKey.depthAll]
    omega
  inj := fun x y h => by
    have h' : NestedKey.tup [.tup (nkeys (x.1.map .int)), .tup (nkeys (x.2.map .int))] = NestedKey.tup [.tup (nkeys (y.1.map .int)), .tup (nkeys (y.2.map .int))] := h
    injection h' with h1
    injection h1 with h1 h2
    injection h2 with h2 _
    injection h1 with h1
    injection h2 with h2
    cases x; cases y
    simp only at h1 h2
    rw [nkeys_ints _ _ h1, nkeys_ints _ _ h2]
end Dl
end

section
set_option maxHeartbeats 4000000
/-! Dl7: rules whose knowledge is named (for blocks), small dicts, sorted tuples, pairs compared. -/
namespace PyProof.Rows
open PySem
section
variable {prog : Program} {w : World} {A : Around} {E : Value → Shared → Prop} {s : Shared}
/-- the items of a tuple, collected -/
theorem dl_collect_tuple {l : Addr} {vs : List Value} {Q : List Value → Shared → Prop} (hl : s.heap.IsTuple l vs.toArray)
    (h : Q vs { s with heap := (s.heap.push (seqObj "list" #[] 0)).update s.heap.objs.size (Obj.mapSeq (· ++ vs.toArray)) }) (hsz : vs.length ≤ sizeLine := by size_fits) :
    wpAny (model prog w) A (collect (.ref l)) Q E s := by
  obtain ⟨o, ho, hc, n, hd⟩ := id hl
  unfold collect
  refine wpAny_bind (wpAny_runValue (codeAny_builtin entry_proto_collect' ?_))
  show wpAny _ _ (do again (.builtin "list.__iadd__" ⟨[← newList [], .ref l], []⟩)) _ _ s
  refine wpAny_bind (wpAny_newList (wpAny_pure ⟨Code.quiet_builtin _ (by decide +kernel), codeAny_builtin entry_list_iadd' ?_⟩))
  show wpAny _ _ (Builtin.List.listExtendWith (.ref s.heap.objs.size) (.ref l) (.ref s.heap.objs.size)) _ _ { s with heap := s.heap.push (seqObj "list" #[] 0) }
  unfold Builtin.List.listExtendWith
  have ho' : (s.heap.push (seqObj "list" #[] 0)).get? l = some o := Heap.get?_push_of_some _ ho
  refine wpAny_bind (wpAny_typeOf (T := "tuple") ⟨o, ho', hc⟩ ?_)
  have ht : (Value.type "tuple" == Value.type "tuple") = true := by rfl
  rw [if_pos (by rw [ht]; simp)]
  refine wpAny_bind (listItems_at ho' hd ?_)
  refine wpAny_bind (listItems_at (xs := #[]) (n := 0) (Heap.get?_push_size _ rfl) rfl ?_)
  rw [if_neg (by simp)]
  refine wpAny_bind (listUpdate_at (xs := #[]) (n := 0) (Heap.get?_push_size _ rfl) rfl ?_ (Nat.zero_le _) (by show (#[] ++ vs.toArray).size ≤ sizeLine + 1; simp only [Array.size_append, List.size_toArray, List.length_nil]; omega))
  refine wpAny_pure ?_
  show wpAny (model prog w) A (do
      let o ← load s.heap.objs.size
      match o.data with
      | .seq xs _ => pure xs.toList
      | _ => unsupported "internal:collect") Q E { s with heap := (s.heap.push (seqObj "list" #[] 0)).update s.heap.objs.size (Obj.mapSeq (· ++ vs.toArray)) }
  refine wpAny_bind (wpAny_load (get?_update_seq (Heap.get?_push_size _ rfl) _) ?_)
  show wpAny _ _ (pure ((#[] : Array Value) ++ vs.toArray).toList) Q E _
  rw [show ((#[] : Array Value) ++ vs.toArray).toList = vs by simp]
  exact wpAny_pure h
end
end PyProof.Rows
namespace SrtR
open PySem PyProof.Rows Srt SrtO
section
variable {prog : Program} {w : World} {A : Around} {E : Value → Shared → Prop} {s : Shared}
theorem dl_sorted_tup {l : Addr} {vs : List Value} {b : Bool} {kw : List (Str × Value)} {ltv : Value → Value → Bool} {Q : Value → Shared → Prop} (hk : ∀ a, Builtin.«list.sort» ⟨[.ref a], kw⟩ = Builtin.«list.sort» ⟨[.ref a], [(Str.ofString "reverse", .bool b)]⟩)
    (ha1 : argsOk "sorted" ⟨[.ref l], kw⟩) (ha2 : ∀ a, argsOk "list.sort" ⟨[a], kw⟩) (O : Swo ltv) (hl : s.heap.IsTuple l vs.toArray) (hz : vs.length ≤ sizeLine)
    (hS : 2 ≤ vs.length → ∀ (h₁ : Heap) (a : Addr), h₁.get? a = some (seqObj "list" vs.toArray 0) → (∀ b o, s.heap.get? b = some o → b ≠ a ∧ h₁.get? b = some o) → SortableO prog w A.in1.in1 { s with heap := h₁ } a vs ltv)
    (h : ∀ out : List Value, Srtd ltv out → Stb ltv out (if b = true then vs.reverse else vs) → Q (.ref (s.heap.objs.size + 1)) { s with heap := sortedAll s.heap vs (if b = true then out.toArray.reverse else out.toArray) }) :
    wpAny (model prog w) A (call (.builtin "sorted") [.ref l] kw) Q E s := by
  refine call_function_entry_kw kind_sorted plain_sorted entry_sorted ha1 ?_
  unfold Builtin.«sorted»
  refine wpAny_bind (m := checkCount "sorted" 1 1 _) (wpAny_pure ?_)
  refine wpAny_bind (dl_collect_tuple hl ?_ hz)
  refine wpAny_bind (wpAny_newList ?_ hz)
  have hsz : ((s.heap.push (seqObj "list" #[] 0)).update s.heap.objs.size (Obj.mapSeq (· ++ vs.toArray))).objs.size = s.heap.objs.size + 1 := by
    rw [Heap.size_update, size_push']
  have hoL : (((s.heap.push (seqObj "list" #[] 0)).update s.heap.objs.size (Obj.mapSeq (· ++ vs.toArray))).push (seqObj "list" vs.toArray 0)).get? (s.heap.objs.size + 1) = some (seqObj "list" vs.toArray 0) := by
    rw [← hsz]; exact Heap.get?_push_size _ rfl
  have keep : ∀ b o, s.heap.get? b = some o → b ≠ s.heap.objs.size + 1 ∧ (((s.heap.push (seqObj "list" #[] 0)).update s.heap.objs.size (Obj.mapSeq (· ++ vs.toArray))).push (seqObj "list" vs.toArray 0)).get? b = some o := fun b o q => by
    have hlt : b < s.heap.objs.size := Heap.lt_size q
    refine ⟨Nat.ne_of_lt (Nat.lt_succ_of_lt hlt), Heap.get?_push_of_some _ ?_⟩
    rw [Heap.get?_update_ne _ _ _ _ (Nat.ne_of_lt hlt)]
    exact Heap.get?_push_of_some _ q
  show wpAny _ _ _ _ _ { s with heap := ((s.heap.push (seqObj "list" #[] 0)).update s.heap.objs.size (Obj.mapSeq (· ++ vs.toArray))).push (seqObj "list" vs.toArray 0) }
  rw [hsz]
  refine wpAny_bind (wpAny_holding (wpAny_call_entry_kw slot_list_sort ⟨_, hoL, rfl⟩ entry_list_sort ?_ (ha2 _)))
  rw [hk]
  refine list_sort_ordR O hoL hz (fun h2 => hS h2 _ _ hoL keep) fun out hs hb => ⟨_, rfl, ?_⟩
  exact wpAny_pure ⟨_, rfl, h out hs hb⟩
end
end SrtR

namespace Dl
open PySem L2 Evl
variable {c : Cn} {L L' : List Addr} {des des' : List Des}

/-! ### rules by the knowledge's name -/
section
variable {X : Cx} {K : PySem.W.Frag}
theorem k_ix_list (K : PySem.W.Frag) (e : X.K = K := by rfl) : IxR X (rIxL K) := e ▸ ix_list
theorem k_ix_tup (K : PySem.W.Frag) (e : X.K = K := by rfl) : IxR X (rIxT K) := e ▸ ix_tup
theorem k_sl_list (K : PySem.W.Frag) (e : X.K = K := by rfl) : SlR X (rSlL K) := e ▸ sl_list
theorem k_sl_tupA (K : PySem.W.Frag) (e : X.K = K := by rfl) : SlR X (rSlA K) := e ▸ sl_tupA
theorem k_op_in_seq (K : PySem.W.Frag) (e : X.K = K := by rfl) : OpR X (compareOp .In) (rIn K false) := e ▸ op_in_seq
theorem k_op_notIn_seq (K : PySem.W.Frag) (e : X.K = K := by rfl) : OpR X (compareOp .NotIn) (rIn K true) := e ▸ op_notIn_seq
theorem k_max (K : PySem.W.Frag) (hc : X.calm = true := by rfl) (e : X.K = K := by rfl) : CallR X (.builtin "max") (rMax K) := e ▸ cr_max hc
theorem k_min (K : PySem.W.Frag) (hc : X.calm = true := by rfl) (e : X.K = K := by rfl) : CallR X (.builtin "min") (rMin K) := e ▸ cr_min hc
theorem k_sum (K : PySem.W.Frag) (hc : X.calm = true := by rfl) (e : X.K = K := by rfl) : CallR X (.builtin "sum") (rSum K) := e ▸ cr_sum hc
theorem k_any (K : PySem.W.Frag) (hc : X.calm = true := by rfl) (e : X.K = K := by rfl) : CallR X (.builtin "any") (rAny K) := e ▸ cr_any hc
theorem k_all (K : PySem.W.Frag) (hc : X.calm = true := by rfl) (e : X.K = K := by rfl) : CallR X (.builtin "all") (rAll K) := e ▸ cr_all hc
theorem k_len (K : PySem.W.Frag) (e : X.K = K := by rfl) : CallR X (.builtin "len") (rLenS K) := e ▸ d_len
theorem k_list (K : PySem.W.Frag) (e : X.K = K := by rfl) : CallR X (.type "list") (rListOf K) := e ▸ d_list
theorem k_tuple (K : PySem.W.Frag) (e : X.K = K := by rfl) : CallR X (.type "tuple") (rTupOf K) := e ▸ d_tuple
theorem k_pt_tr (K : PySem.W.Frag) {a : Expr} {ta : TE} (ha : PE X a ta) (he : ∀ whole, isTrue a X.env whole = (do let v ← whole; standAt a.pos; holding [v] (truthy v)) := by intro _; rfl) (e : X.K = K := by rfl) : PT X a (tTr K ta) := e ▸ pt_tr ha he
end

/-! ### {k: v, ..}[x], keys texts of one sign -/
section
variable {te : TE} {k : Nat}
def dispZ (z : List (Nat × Int)) : List (TE × TE) := z.map fun p => (tC (.str (sS [p.1])), tC (.int p.2))
def kvZ (z : List (Nat × Int)) : List (Key × V) := z.map fun p => ((.inr (sS [p.1]) : Key), V.int p.2)
theorem tPairs_z : ∀ (z : List (Nat × Int)) {σ : St} {H : Hp} {Q : List (V × V) → Hp → Prop}, Q ((kvZ z).map fun kv => (kV kv.1, kv.2)) H → tPairs (dispZ z) σ H Q
  | [], _, _, _, h => h
  | p :: z, σ, H, Q, h => by
    show tPairs (dispZ z) σ H fun ps H3 => Q ((V.str (sS [p.1]), V.int p.2) :: ps) H3
    exact tPairs_z z h
theorem putK_new {kvs : List (Key × V)} {j : Key} {v : V} (h : j ∉ kvs.map (·.1)) : putK kvs j v = kvs ++ [(j, v)] := by
  unfold putK
  rw [if_neg]
  intro z
  obtain ⟨p, hp, e⟩ := List.any_eq_true.mp z
  exact h (List.mem_map.mpr ⟨p, hp, of_decide_eq_true e⟩)
theorem mergeK_nd : ∀ (more kvs : List (Key × V)), ((kvs ++ more).map (·.1)).Nodup → mergeK kvs more = kvs ++ more
  | [], kvs, _ => by show kvs = kvs ++ []; rw [List.append_nil]
  | p :: r, kvs, h => by
    have h1 : p.1 ∉ kvs.map (·.1) := by
      rw [List.map_append, List.nodup_append] at h
      intro z
      exact h.2.2 _ z _ (List.mem_map.mpr ⟨p, List.mem_cons_self, rfl⟩) rfl
    show mergeK (putK kvs p.1 p.2) r = _
    rw [putK_new h1, mergeK_nd r (kvs ++ [(p.1, p.2)]) (by rw [List.append_assoc]; exact h), List.append_assoc]; rfl
theorem valV_z (c : Nat) : ∀ z : List (Nat × Int), hasC z c = true → valV (kvZ z) (.inr (sS [c]) : Key) = some (.int (lkC z c))
  | [], h => by cases h
  | (j, v) :: r, h => by
    unfold valV
    show ((((.inr (sS [j]) : Key), V.int v) :: kvZ r).find? _).map _ = _
    rw [List.find?_cons]
    by_cases e : j = c
    · subst e
      have e1 : Nat.beq j j = true := Nat.beq_refl j
      simp only [decide_true, lkC, e1, cond_true]
      rfl
    · have e1 : Nat.beq j c = false := by
        cases q : Nat.beq j c with
        | false => rfl
        | true => exact absurd (Nat.eq_of_beq_eq_true q) e
      have e2 : decide ((Sum.inr (sS [j]) : Key) = Sum.inr (sS [c])) = false := decide_eq_false fun z => by
        injection z with z
        exact e (ch_inj.mp z)
      have h' : hasC r c = true := by
        have h0 : cond (Nat.beq j c) true (hasC r c) = true := h
        rw [e1] at h0; exact h0
      simp only [e2, lkC, e1, cond_false]
      exact valV_z c r h'
theorem ed_lkC (z : List (Nat × Int)) {trs : List (TE × TE)} (h : Ed c L des te (eC k)) (hk : hasC z k = true) (ht : trs = dispZ z := by rfl) (hn : (z.map (·.1)).Nodup := by decide) (h15 : z.length ≤ 15 := by decide) : Ed c L des (tDGet (tDisp trs) te) (.int (lkC z k)) := fun σ H w Q q p hp => by
  subst ht
  refine tPairs_z z ⟨upd_same, kvZ z, rfl, by unfold kvZ; rw [List.length_map]; exact h15, ?_⟩
  have e0 : mergeK [] (kvZ z) = kvZ z := by
    refine mergeK_nd _ _ ?_
    show (((kvZ z)).map (·.1)).Nodup
    unfold kvZ
    rw [List.map_map]
    have inj : ∀ {l : List (Nat × Int)}, (l.map (·.1)).Nodup → (l.map ((fun x : Key × V => x.1) ∘ fun p : Nat × Int => ((.inr (sS [p.1]) : Key), V.int p.2))).Nodup := by
      intro l
      induction l with
      | nil => exact fun _ => List.nodup_nil
      | cons a l ih =>
        intro h
        rw [List.map_cons, List.nodup_cons] at h ⊢
        refine ⟨fun z => h.1 ?_, ih h.2⟩
        obtain ⟨b, hb, e⟩ := List.mem_map.mp z
        have e' : (Sum.inr (sS [b.1]) : Key) = Sum.inr (sS [a.1]) := e
        injection e' with e'
        exact List.mem_map.mpr ⟨b, hb, ch_inj.mp e'⟩
    exact inj hn
  rw [e0, upd_upd]
  have g1 := Gr.new w hp (o := .dK (kvZ z))
  refine h σ _ (w.gr g1) _ fun v H2 g2 r => ?_
  have nz : p ∉ c.zs := fun zz => (w.zn zz).2 hp
  have hd : H2 p = some (.dK (kvZ z)) := g2.keep upd_same nz
  refine ⟨p, .int (lkC z k), rfl, ?_, q _ H2 (g1.trans g2) (.int _)⟩
  rw [r.str_inv]
  have := DGet.k (k := (.inr (sS [k]) : Key)) hd
  rw [valV_z k z hk] at this
  exact this
end

/-! ### sorted(t, reverse=True) -/
theorem insR_perm (x : Int) : ∀ l : List Int, (insR x l).Perm (x :: l)
  | [] => .refl _
  | y :: r => by
    show (cond (decide (y < x)) (x :: y :: r) (y :: insR x r)).Perm _
    by_cases h : y < x
    · rw [decide_eq_true h]; exact .refl _
    · rw [decide_eq_false h]; exact ((insR_perm x r).cons y).trans (.swap x y r)
theorem sortR_perm : ∀ l : List Int, (sortR l).Perm l
  | [] => .refl _
  | x :: r => (insR_perm x (sortR r)).trans ((sortR_perm r).cons x)
theorem insR_sorted (x : Int) : ∀ l : List Int, l.Pairwise (· ≥ ·) → (insR x l).Pairwise (· ≥ ·)
  | [], _ => by show [x].Pairwise (· ≥ ·); simp
  | y :: r, h => by
    show (cond (decide (y < x)) (x :: y :: r) (y :: insR x r)).Pairwise _
    rw [List.pairwise_cons] at h
    by_cases hx : y < x
    · rw [decide_eq_true hx]
      show (x :: y :: r).Pairwise _
      rw [List.pairwise_cons, List.pairwise_cons]
      refine ⟨fun z hz => ?_, h⟩
      rcases List.mem_cons.mp hz with e | e
      · subst e; exact Int.le_of_lt hx
      · exact Int.le_trans (h.1 z e) (Int.le_of_lt hx)
    · rw [decide_eq_false hx]
      show (y :: insR x r).Pairwise _
      rw [List.pairwise_cons]
      refine ⟨fun z hz => ?_, insR_sorted x r h.2⟩
      rcases List.mem_cons.mp ((insR_perm x r).mem_iff.mp hz) with e | e
      · subst e; exact Int.not_lt.mp hx
      · exact h.1 z e
theorem sortR_sorted : ∀ l : List Int, (sortR l).Pairwise (· ≥ ·)
  | [] => .nil
  | x :: r => insR_sorted x _ (sortR_sorted r)
theorem perm_ge_eq : ∀ {l m : List Int}, l.Perm m → l.Pairwise (· ≥ ·) → m.Pairwise (· ≥ ·) → l = m
  | [], m, p, _, _ => (List.nil_perm.mp p).symm
  | x :: l, [], p, _, _ => absurd p.length_eq (by simp)
  | x :: l, y :: m, p, hl, hm => by
    rw [List.pairwise_cons] at hl hm
    have e : x = y := by
      have h1 : x ∈ y :: m := p.mem_iff.mp List.mem_cons_self
      have h2 : y ∈ x :: l := p.mem_iff.mpr List.mem_cons_self
      rcases List.mem_cons.mp h1 with e | e
      · exact e
      · rcases List.mem_cons.mp h2 with e2 | e2
        · exact e2.symm
        · exact Int.le_antisymm (hm.1 x e) (hl.1 y e2)
    subst e
    rw [perm_ge_eq ((List.perm_cons x).mp p) hl.2 hm.2]
def rSortTR (K : PySem.W.Frag) : List V → List V → Hp → VK → Prop := fun vs zs H Q => ∃ (a : Addr) (ns : List Int), vs = [V.ref a] ∧ zs = [.bl true] ∧ SqT K H a (ns.map V.int) ∧ ∀ p, H p = none → Q (.ref p) (upd H p (.lst ((sortR ns).map V.int)))
theorem k_sortT {X : Cx} (K : PySem.W.Frag) (e : X.K = K := by rfl) : CallRK X (.builtin "sorted") [Str.ofString "reverse"] (rSortTR K) := by
  subst e
  intro pins s σ H vs zs us ws Q I r rz h
  obtain ⟨a, ns, rfl, rfl, hs, q⟩ := h
  obtain rfl := Vals.ref1 r
  obtain ⟨w1, rfl, e1⟩ := vals1 rz
  obtain rfl : w1 = Value.bool true := e1
  obtain ⟨its, rv, hl, hz⟩ := I.tuple hs
  have hi := rv.ints
  refine SrtR.dl_sorted_tup (b := true) (fun _ => rfl) (PyProof.Rows.args_sorted_rev _ _) (fun _ => PyProof.Rows.args_list_sort_rev _ _) SrtO.swo_int hl (by rw [← rv.length]; exact hz) (fun h2 h₁ a' _ _ => SrtO.ints_sortable hi h2) fun out h1 h2 => ?_
  obtain ⟨ns', k1, k2, k3⟩ := SrtR.ints_outR hi h1 h2
  have e2 : ns' = sortR ns := perm_ge_eq (k2.trans (sortR_perm ns).symm) k3 (sortR_sorted ns)
  subst e2
  obtain ⟨ep, he'⟩ := PyProof.Rows.sortedAll_at s.heap its (if true = true then out.toArray.reverse else out.toArray)
  have hlen : ((sortR ns).map V.int).length ≤ sizeLine := by
    rw [List.length_map, k2.length_eq]
    rw [List.length_map] at hz
    exact hz
  have e0 : ((if true = true then out.toArray.reverse else out.toArray).toList).toArray = (if true = true then out.toArray.reverse else out.toArray) := by rw [Array.toArray_toList]
  exact ⟨.ref _, upd H (s.heap.objs.size + 1) (.lst ((sortR ns).map V.int)), I.laid (t' := s.toks) (fun _ _ => PyProof.Rows.sortedAll_old) (Nat.le_succ _) ⟨hlen, _, ep, vals_of_ints k1, by rw [e0]; exact he'⟩, rfl, q _ (I.hok.fresh (Nat.le_succ _))⟩
section
variable {ta tb te : TE} {i j : Int}
theorem ed_sortL {ns : List Int} (h : Ed c L des te (.tup (ns.map .int))) : Ed c L des (tCKw (rSortTR c.K) (tCons te tNil) (tCons (tC (.bl true)) tNil)) (.lst ((sortR ns).map .int)) := fun σ H w Q q =>
  h σ H w _ fun v H1 g1 r1 => by
    obtain ⟨a, xs, e1, s, r⟩ := r1.tup_inv
    subst e1
    rw [r.ints] at s
    refine ⟨a, ns, rfl, rfl, ex_t hid_le s, fun p hp => q _ _ (g1.trans (Gr.new (w.gr g1) hp)) (.new_lst (w.gr g1) hp (RpA.of_ints _))⟩
theorem ed_sortR {ns : List Int} (h : Ed c L des te (.tup (ns.map .int))) (_ : ns.length ≤ 1000000) : Ed c L des (tCB (rTupOf c.K) (tCons (tCKw (rSortTR c.K) (tCons te tNil) (tCons (tC (.bl true)) tNil)) tNil)) (eT Dt.int (sortR ns)) := ed_tupL (el_dat (ed_sortL h))
/-! ### <= of pairs, count -/
theorem ed_leII {a b : Int × Int} (ha : Ed c L des ta (e2 Dt.int Dt.int a)) (hb : Ed c L des tb (e2 Dt.int Dt.int b)) : Ed c L des (tOp (rLeT c.K) ta tb) (.bl (leII a b)) := fun σ H w Q q =>
  ha σ H w _ fun v H1 g1 r1 => hb σ H1 (w.gr g1) _ fun u H2 g2 r2 => by
    obtain ⟨p, xs, rfl, s1, q1⟩ := (r1.up g2).tup_inv
    obtain ⟨p2, ys, rfl, s2, q2⟩ := r2.tup_inv
    have e1 := q1.ints (ns := [a.1, a.2])
    have e2 := q2.ints (ns := [b.1, b.2])
    subst e1 e2
    refine ⟨p, p2, [a.1, a.2], [b.1, b.2], rfl, rfl, ex_t hid_le s1, ex_t hid_le s2, ?_⟩
    have e : Ob.lexAt (fun j => decide (([a.1, a.2] : List Int).getD j 0 = ([b.1, b.2] : List Int).getD j 0)) (fun j => decide (([a.1, a.2] : List Int).getD j 0 ≤ ([b.1, b.2] : List Int).getD j 0)) (decide (([a.1, a.2] : List Int).length ≤ ([b.1, b.2] : List Int).length)) 0 (min ([a.1, a.2] : List Int).length ([b.1, b.2] : List Int).length) = leII a b := by
      show (if decide (a.1 = b.1) = true then (if decide (a.2 = b.2) = true then decide (2 ≤ 2) else decide (a.2 ≤ b.2)) else decide (a.1 ≤ b.1)) = leII a b
      unfold leII
      by_cases h1 : a.1 = b.1
      · by_cases h2 : a.2 = b.2
        · simp [h1, h2]
        · simp [h1, h2]
      · have : (a.1 ≤ b.1) ↔ (a.1 < b.1) := ⟨fun z => by omega, fun z => by omega⟩
        simp [h1, this]
    rw [e]
    exact q _ _ (g1.trans g2) (.bl _)
theorem k_leT {X : Cx} (K : PySem.W.Frag) (hu : X.A.units + 64 < cLine) (e : X.K = K := by rfl) : OpR X (compareOp .LtE) (rLeT K) := e ▸ op_leT (by omega)
def rCnt (K : PySem.W.Frag) : V → List V → Hp → VK → Prop := rCntI K
theorem cntI_eq (l : List Int) (x : Int) : cntI l x = (l.count x : Nat) := by
  unfold cntI
  rw [List.count_eq_countP, List.countP_eq_length_filter]
  congr 2
theorem ed_count {ns : List Int} {K : PySem.W.Frag} (ha : El c L des ta (ns.map .int)) (hb : Ed c L des tb (.int j)) : Ed c L des (tBM K "list" (rCntI c.K) ta (tCons tb tNil)) (.int (cntI ns j)) := fun σ H w Q q =>
  ha σ H w _ fun a xs H1 g1 s1 r1 => by
    rw [r1.ints] at s1
    refine ⟨Or.inl ⟨rfl, _, seq_all s1⟩, hb σ H1 (w.gr g1) _ fun u H2 g2 r2 => ⟨a, ns, j, rfl, by rw [r2.int_inv], seq_all (g2.seq s1), ?_⟩⟩
    rw [cntI_eq] at q
    exact q _ _ (g1.trans g2) (.int _)
end

/-! ### xs == [] -/
end Dl
end

section
set_option maxHeartbeats 4000000
/-! Dl8: xs == [], a list unpacked into names. -/
namespace PySem.SeqAt
open AutoSeq1 (wpAny_loadPart')
open MeetsSeq MeetsSeq2 MeetsSeq3 SeqRoads2
theorem dl_list_ne {prog : Program} {w : World} (l b : Addr) (items items2 : Array Value) (n n2 : Nat) (dd dd2 : Option Addr) (sl sl2 : Array (Option Value)) (hsz : items.size ≠ items2.size) :
    MeetsIn prog w (Builtin.«list.__eq__» ⟨[.ref l, .ref b], []⟩)
      (fun A R s => s.heap.get? l = some { cls := .type "list", dict := dd, data := .seq items n, slots := sl } ∧ s.heap.get? b = some { cls := .type "list", dict := dd2, data := .seq items2 n2, slots := sl2 } ∧
        R (.ok (.ret (.bool false))) s) := by
  intro A R s h
  obtain ⟨hp, g, d, tk, os⟩ := s; obtain ⟨hl, hb, h⟩ := h
  have f3 := AutoSeq1.sub_list_list
  have hne : (items.size != items2.size) = true := by simp [hsz]
  wp_walk using wpAny_loadPart' hl, wpAny_loadPart' hb
  exact h
theorem dl_rc_ne {prog : Program} {w : World} {A : Around} {s : Shared} {l b : Addr} {items items2 : Array Value} (hl : s.heap.IsList l items) (hb : s.heap.IsList b items2) (hsz : items.size ≠ items2.size) (hu : A.units < cLine)
    (E Q : Value → Shared → Prop) (h : Q (.bool false) s) : wpAny (model prog w) A (richCompare .Eq (.ref l) (.ref b)) Q E s := by
  obtain ⟨⟨cls, dd, data, sl⟩, ho, hc, n, hd⟩ := id hl
  obtain ⟨⟨cls2, dd2, data2, sl2⟩, ho2, hc2, n2, hd2⟩ := id hb
  simp only at hc hd hc2 hd2
  subst hc hd hc2 hd2
  have ta : s.TypeIs (.ref l) "list" := ⟨_, ho, rfl⟩
  have tb : s.TypeIs (.ref b) "list" := ⟨_, ho2, rfl⟩
  exact wpAny_richCompare_same_room (op := .Eq) ta tb F.slot_list_eq (call_meetsIn F.slot_list_eq ta F.entry_list_eq (F.args_list_eq_2 _ _) (dl_list_ne l b items items2 n n2 dd dd2 sl sl2 hsz)
    ⟨ho, ho2, show Value.bool false ≠ Value.notImplemented ∧ Q (.bool false) s from ⟨(fun x => nomatch x), h⟩⟩) hu
end PySem.SeqAt

namespace Dl
open PySem L2 Evl
variable {c : Cn} {L L' : List Addr} {des des' : List Des}
/-- xs == [] -/
def rEqNil (K : PySem.W.Frag) : R2 := fun x y H Q => ∃ (a b : Addr) (xs : List V), x = .ref a ∧ y = .ref b ∧ SqL K H a xs ∧ SqL K H b [] ∧ Q (.bl xs.isEmpty) H
theorem k_eqNil {X : Cx} (K : PySem.W.Frag) (hu : X.A.units + 64 < cLine) (e : X.K = K := by rfl) : OpR X (compareOp .Eq) (rEqNil K) := by
  subst e
  intro pins s σ H x y v u Q I rx ry h
  obtain ⟨a, b, xs, rfl, rfl, ha, hb, q⟩ := h
  obtain rfl : v = Value.ref a := rx
  obtain rfl : u = Value.ref b := ry
  obtain ⟨us, r1, p1, _⟩ := I.list ha
  obtain ⟨ws, r2, p2, _⟩ := I.list hb
  cases r2
  have fin : wpAny (model X.prog X.w) X.A (richCompare .Eq (.ref a) (.ref b)) (EP X pins σ Q) X.xe s := by
    cases r1 with
    | nil => exact SeqAt.rcP_lists (e := fun _ => true) p1.isList p2.isList rfl (by omega) (fun j h1 _ => absurd h1 (Nat.not_lt_zero _)) _ _ ⟨.bl true, H, I, rfl, q⟩
    | cons r rs => exact SeqAt.dl_rc_ne p1.isList p2.isList (by simp) (by omega) _ _ ⟨.bl false, H, I, rfl, q⟩
  exact fin
section
variable {ta te : TE} {α γ : Type} {f : α → Dt} {tz : TS} {D : Ends} {a : γ}
theorem et_nil {xs : List α} (h : El c L des ta (xs.map f)) : Et c L des (tTest (tOp (rEqNil c.K) ta (tLst tNil))) xs.isEmpty := et_test (b := xs.isEmpty) fun σ H w Q q =>
  h σ H w _ fun a vs H1 g1 s1 r1 => ⟨Nat.zero_le _, fun p hp => by
    have w1 := w.gr g1
    have g2 := Gr.new w1 hp (o := .lst [])
    refine ⟨a, p, vs, rfl, rfl, seq_all (g2.seq s1), .inl (.inl upd_same), ?_⟩
    have e := r1.length
    rw [List.length_map] at e
    have e2 : vs.isEmpty = xs.isEmpty := by cases vs <;> cases xs <;> first | rfl | (simp at e)
    rw [e2]
    exact q _ _ (g1.trans g2) (.bl _)⟩
theorem k_unl {X : Cx} {pos : Pos} (K : PySem.W.Frag) {es : List Expr} {k : Nat} {t : TGs} {n : Nat} (h : PGs X es t) (hc : X.calm = true := by rfl)
    (hn : (assignEach es X.env).length = n := by rfl) (hst : (assignEach es X.env).findIdx? (·.1) = none := by rfl) (e : X.K = K := by rfl) : PG X (.Tuple es k pos) (gUnl K n t) := e ▸ pg_unl hc h hn hst
theorem sd_unp2 [Inhabited α] {v : List α} {gs : TGs} {n : Nat} {k : α × α → γ} {ok : α × α → Bool} {desx : α × α → List Des} (f : α → Dt) (he : a = bindV (gI v 0, gI v 1) k) (hk : bindV (gI v 0, gI v 1) ok = true) (h : Ed c L des te (.lst (v.map f))) (hl : v.length = 2)
    (hg : ∀ u : α × α, GdA c L des gs [f u.1, f u.2] (desx u)) (kk : ∀ u, a = k u → ok u = true → Sd c L (desx u) tz D) (hn : n = 2 := by rfl) : Sd c L des (tSeq (tAsg te (gUnl c.K n gs)) tz) D := fun σ H w => h σ H w _ fun u H1 g r => by
  subst hn
  obtain ⟨p, xs, rfl, s, rr⟩ := r.lst_inv
  match v, hl with
  | [x, y], _ =>
    refine ⟨p, xs, rfl, .inl (ex_rd hid_le s), by rw [rr.length, List.length_map]; rfl, ?_⟩
    exact hg (x, y) σ H1 xs (w.gr g) rr _ fun σ' w' => kk (x, y) he hk σ' H1 w'
end
end Dl
end

section
set_option maxHeartbeats 4000000
/-! Dl9: enumerate of a text, a text repeated, calls with one keyword, static methods. -/
namespace Dl
open PySem L2 Evl
variable {c : Cn} {L L' : List Addr} {des des' : List Des}

/-! ### enumerate(text) -/
def Ies (x : Str) : It :=
  ⟨fun i _ => i < x.cps.size, fun i H v H' => ∃ T k, v = .ref T ∧ H T = none ∧ H' = upd H T (.tup [.int (i : Nat), .str ⟨#[k]⟩]) ∧ x.cps[i]? = some k, fun i _ => i = x.cps.size⟩
theorem draws_str {prog : Program} {w : World} {A : Around} (hh : A.handled = none) (it : Addr) (x : Str) (t : Tok) :
    Draws prog w A it [it] x.cps.size (fun i v => ∃ c u, x.cps[i]? = some c ∧ v = .str ⟨#[c]⟩ u) (fun i h => h.IsStrIter it (strIterType x) x t i) := by
  unfold strIterType
  cases x.cps.all (· < 128)
  · exact Draws.strWide hh it x t
  · exact Draws.strAscii hh it x t
theorem turn_enumS {P : Program} {w : World} {K : PySem.W.Frag} {elts : List Expr} {kk : Nat} {tpos : Pos} (x : Str) (t : Tok) (e it : Addr) :
    Turn P w K (.Tuple elts kk tpos) (Ies x) [e, it] e (fun i h => (∃ old, IsEnum h e it ((i : Nat) : Int) old) ∧ h.IsStrIter it (strIterType x) x t i ∧ e ≠ it) where
  mem := by simp
  obj := fun i h st b hb => by
    obtain ⟨⟨old, he⟩, ⟨o, ho, hc, hd⟩, _⟩ := st
    have e' : b = e ∨ b = it := by simpa using hb
    rcases e' with z | z
    · rw [z]; exact ⟨_, he, fun v q => nomatch q⟩
    · rw [z]; exact ⟨o, ho, fun v q => by rw [hd] at q; cases q⟩
  keep := fun i h h' st k => let ⟨⟨old, he⟩, ⟨o, ho, r⟩, hne⟩ := st; ⟨⟨old, k e (by simp) _ he⟩, ⟨o, k it (by simp) o ho, r⟩, hne⟩
  item := by
    intro X hP hw hK hc i pins s σ H E I hf st hg
    subst hP hw hK
    obtain ⟨⟨old, he⟩, hit, hne⟩ := st
    have hel : e < s.heap.objs.size := Heap.lt_size he
    have hil : it < s.heap.objs.size := by obtain ⟨_, q, _⟩ := hit; exact Heap.lt_size q
    refine wpAny_pyNext_enum_itemD (St := fun i h => h.IsStrIter it (strIterType x) x t i) (draws_str (A := X.A.in1) (I.ok.hd hc) it x t) he hit hg hne (fun z => hne (by simpa using z)) fun u h' tk hu ho hit' hT hsz hk => ?_
    obtain ⟨k, tu, hk', rfl⟩ := hu
    refine ⟨_, rfl, wpAny_letOwnedTupleGo_enum (s := { s with heap := h', toks := tk + 1 }) ho fun h'' he' sb => ?_⟩
    have hT2 : h''.get? s.heap.objs.size = some { cls := .type "tuple", data := .seq #[.int i tk, .str ⟨#[k]⟩ tu] } := (sb.2 _ (Nat.ne_of_gt hel)).trans hT
    have new : ObjOk X.prog X.w (upd H s.heap.objs.size (.tup [.int (i : Nat), .str ⟨#[k]⟩])) h'' s.heap.objs.size (.tup [.int (i : Nat), .str ⟨#[k]⟩]) :=
      ⟨by show 2 ≤ sizeLine; decide, [.int i tk, .str ⟨#[k]⟩ tu], .cons ⟨_, rfl⟩ (.cons ⟨_, rfl⟩ .nil), ⟨_, hT2, rfl, _, rfl⟩⟩
    have I1 : L2.Inv X pins σ (upd H s.heap.objs.size (.tup [.int (i : Nat), .str ⟨#[k]⟩])) { s with heap := h'', toks := tk + 1 } :=
      I.turnedNew (ch := [e, it]) (fun b ob hb q => (sb.2 b (fun z => hb (by simp [z]))).trans (hk b ob (fun z => hb (by simp [z])) (fun z => hb (by simp [z])) q)) hf (Nat.le_refl _) new
    refine ⟨.ref s.heap.objs.size, _, I1, rfl, ⟨_, k, rfl, I.hok.fresh (Nat.le_refl _), rfl, hk'⟩, ⟨⟨.str ⟨#[k]⟩ tu, ?_⟩, ?_, hne⟩, fun b hb => ?_⟩
    · have e1 : ((i + 1 : Nat) : Int) = (i : Int) + 1 := by omega
      rw [e1]; exact he'
    · obtain ⟨o, ho', r⟩ := hit'
      exact ⟨o, (sb.2 it (Ne.symm hne)).trans ho', r⟩
    · have hb' : b < s.heap.objs.size := by
        have e' : b = e ∨ b = it := by simpa using hb
        rcases e' with z | z
        · rw [z]; exact hel
        · rw [z]; exact hil
      rw [upd_ne (Nat.ne_of_lt hb')]
      exact (hf b hb).1
  done := by
    intro X hP hw hK hc i pins s σ H E I hf st hg
    subst hP hw hK
    obtain ⟨⟨old, he⟩, hit, hne⟩ := st
    obtain ⟨f0, f1, f2, f3, f4, f5⟩ := hf it (by simp)
    have hg' : i = x.cps.size := hg
    subst hg'
    exact wpAny_pyNext_enum_endD (St := fun i h => h.IsStrIter it (strIterType x) x t i) (draws_str (A := X.A.in1) (I.ok.hd hc) it x t) he hit fun h' eb => ⟨rfl, I.turned (t' := s.toks) (fun b o hb q => eb b o hb q) f0 f1 f3 f4 f5⟩
  self := fun A i s Q E st h => let ⟨⟨_, he⟩, _⟩ := st; wpAny_pyIter_enum he h
def iEnumS (ta : TA) : TI := fun σ H R => ta σ H fun vs H1 => ∃ x, vs = [.str x] ∧ R (Ies x) H1
theorem pi_enumS {X : Cx} {e : Expr} {ta : TA} {p pos tpos : Pos} {elts : List Expr} {kk : Nat} (hg : Gl X "enumerate") (hm : X.mg "enumerate" = none) (ha : PA X [e] ta) (hs : starEach [e] X.env = [(false, eval e X.env)] := by rfl) :
    PI X (.Tuple elts kk tpos) (.Call (.Name "enumerate" p) [e] [] pos) (iEnumS ta) := by
  refine ⟨fun pins s σ H R I h => ?_⟩
  refine PyProof.Rows.Call_ (ld_blt I hg hm PyProof.Rows.boot_enumerate (PyProof.Rows.callWith_type1 (L2.thn (ha.run pos pins s σ H _ I h) fun us s1 ⟨vs, H1, I1, r1, q1⟩ => ?_) hs rfl))
  obtain ⟨x, ex, q⟩ := q1
  subst ex
  cases r1 with
  | cons r rr =>
    cases rr
    obtain ⟨t, rfl⟩ := r
    refine call_enumerate_str fun h' he hit hsz hk => wpAny_pyIter_enum he ?_
    have I2 : L2.Inv X pins σ H1 { s1 with heap := h' } := I1.kept (t' := s1.toks) hk
    refine ⟨s1.heap.objs.size + 1, [s1.heap.objs.size + 1, s1.heap.objs.size], _, _, H1, rfl, I2, turn_enumS x t (s1.heap.objs.size + 1) s1.heap.objs.size, ⟨⟨.none, he⟩, hit, Nat.succ_ne_self _⟩, fun b hb => ?_, q⟩
    have e' : b = s1.heap.objs.size + 1 ∨ b = s1.heap.objs.size := by simpa using hb
    have hle : s1.heap.objs.size ≤ b := by
      rcases e' with z | z
      · rw [z]; exact Nat.le_add_right _ _
      · rw [z]; exact Nat.le_refl _
    exact I1.fpOk hle (I1.hok.fresh hle)
/-- the pairs of places and signs -/
def enS (l : List Nat) : List (Int × Nat) := (List.range l.length).map fun (k : Nat) => ((k : Int), l.getD k 0)
theorem enS_len (l : List Nat) : (enS l).length = l.length := by unfold enS; rw [List.length_map, List.length_range]
theorem wk_enumS {te : TE} {l : List Nat} (h : Ed c L des te (eS l)) : WalkI c L des (iEnumS (tCons te tNil)) ((enS l).map (e2 Dt.int eC)) := fun σ H w R q => h σ H w _ fun v H1 g r => by
  refine ⟨sS l, by rw [r.str_inv], q _ _ g fun i H' e => ?_⟩
  have el : ((enS l).map (e2 Dt.int eC)).length = (sS l).cps.size := by rw [List.length_map, enS_len]; show _ = l.toArray.size; simp
  rw [el]
  refine ⟨fun hi => hi, fun hi => hi, fun v H'' y hi => ?_⟩
  obtain ⟨T, k, ev, hT, eH, hk⟩ := y
  subst ev eH
  refine ⟨Ex.new hT, fun M hM hv => ?_⟩
  have nT : T ∉ M := fun z => hM T z hT
  have hk' : l[i]? = some k := by
    have q2 : l.toArray[i]? = some k := hk
    simpa using q2
  have hi' : i < l.length := (List.getElem?_eq_some_iff.mp hk').1
  refine ⟨.tup [.int (i : Int), eC k], ?_, .tup (st_of' (by rw [hid_out nT]; exact upd_same)) (.cons (.int _) (.cons (.str _) .nil))⟩
  unfold enS
  rw [List.getElem?_map, List.getElem?_map, List.getElem?_range hi', Option.map_some, Option.map_some, List.getD_eq_getElem?_getD, hk']; rfl
where
  st_of' {K : PySem.W.Frag} {H : Hp} {a : Addr} {xs : List V} (h : H a = some (.tup xs)) : SqT K H a xs := Or.inl (Or.inl h)

/-! ### a sign n times -/
def rMulC : R2 := fun x y H Q => ∃ (k : Nat) (n : Int), x = .str ⟨#[k]⟩ ∧ y = .int n ∧ 0 ≤ n ∧ n ≤ 1000 ∧ Q (.str (sS (List.replicate n.toNat k))) H
theorem fold_rep (k : Nat) : ∀ (n : Nat) (a : Array Nat), (List.replicate n #[k]).foldl (· ++ ·) a = a ++ (List.replicate n k).toArray
  | 0, a => by simp
  | n + 1, a => by
    rw [List.replicate_succ, List.foldl_cons, fold_rep k n, List.replicate_succ]
    apply Array.ext'
    simp
theorem op_mulC {X : Cx} : OpR X (binaryOp .Mult) rMulC := by
  intro pins s σ H x y v u Q I rx ry h
  obtain ⟨k, n, rfl, rfl, h0, h1, q⟩ := h
  obtain ⟨t, rfl⟩ := rx
  obtain ⟨t2, rfl⟩ := ry
  have len1 : (⟨#[k]⟩ : Str).length = 1 := rfl
  refine PySem.P.mul_str ?_ ?_ ?_ ?_
  · have a1 : ¬ n < -(2 ^ 63 : Int) := by omega
    have a2 : ¬ n ≥ 2 ^ 63 := by omega
    rw [decide_eq_false a1, decide_eq_false a2]; rfl
  · intro hn _ hz
    rw [len1] at hz
    have : (2 ^ 63 - 1 : Int) / n ≥ 1 := by
      refine (Int.le_ediv_iff_mul_le (by omega)).mpr ?_
      omega
    omega
  · intro _ _
    rw [len1]
    refine decide_eq_false ?_
    show ¬ _
    rw [sizeLine_eq]
    omega
  · by_cases hn : n < 1
    · rw [if_pos hn]
      have e : n = 0 := by omega
      subst e
      exact ⟨by decide, .str Str.empty, H, I.tok _, ⟨_, rfl⟩, q⟩
    · rw [if_neg hn]
      by_cases h2 : (n == 1 || (⟨#[k]⟩ : Str).length == 0) = true
      · rw [if_pos h2]
        have e : n = 1 := by
          rw [len1] at h2
          simpa using h2
        subst e
        exact ⟨.str ⟨#[k]⟩, H, I, ⟨t, rfl⟩, q⟩
      · rw [if_neg h2]
        have e : (⟨(List.replicate n.toNat (⟨#[k]⟩ : Str).cps).foldl (· ++ ·) #[]⟩ : Str) = sS (List.replicate n.toNat k) := by
          show (⟨(List.replicate n.toNat #[k]).foldl (· ++ ·) #[]⟩ : Str) = _
          rw [fold_rep]; simp
        rw [e]
        refine ⟨?_, .str _, H, I.tok _, ⟨_, rfl⟩, q⟩
        rw [sS_len, List.length_replicate, sizeLine_eq]
        omega
theorem ed_mulC {ta tb : TE} {k : Nat} {n : Int} (ha : Ed c L des ta (eC k)) (hb : Ed c L des tb (.int n)) (h0 : 0 ≤ n) (h1 : n ≤ 1000) : Ed c L des (tOp rMulC ta tb) (eS (List.replicate n.toNat k)) := fun σ H w Q q =>
  ha σ H w _ fun v H1 g1 r1 => hb σ H1 (w.gr g1) _ fun u H2 g2 r2 => ⟨k, n, r1.str_inv, r2.int_inv, h0, h1, q _ _ (g1.trans g2) (.str _)⟩

/-! ### f(k = v) -/
theorem pe_callK0 {X : Cx} {CX : CXT} {k : Nat} {f : Addr} {fd : FuncData} {ps ks : List Str} {sp : Sp} {E : XK} {x : Str} {p pos : Pos} {kws : List Keyword} {tk : TA} {g : List Value → List Value → List Value} {gV : List V → List V → List V}
    (F : FnOk X.prog X.w X.K X.mg X.base CX k f fd ps sp) (hr : Room k X.A) (hg : Gl X x) (hm : X.mg x = some (.ref f)) (hk : PySem.W.keepIn X.K (.ref f) = true) (hb : KBinds X.K fd ps ks g gV) (hx : Passes CX X E)
    (hkw : PK X kws tk) (hall : (backToKw pos (keywordEach kws X.env)).all (·.1.isSome) = true := by rfl) (hks : (backToKw pos (keywordEach kws X.env)).filterMap (·.1) = ks := by rfl)
    (hdb : (x == ("__debug__" : Str)) = false := by decide)
    (hpl : ((backTo pos (starEach [] X.env)).any (·.1) || (backToKw pos (keywordEach kws X.env)).any (·.1.isNone)) = false := by rfl) :
    PE X (.Call (.Name x p) [] kws pos) (tCallK sp gV E tNil tk) := by
  refine ⟨fun pins s σ H Q I h => ?_⟩
  refine wpAny_Call_Name_kw (ld_glob I hg hm ?_ hdb)
  refine PySem.W.callWith_KW0 (h₀ := X.base) I.ok.mod.kin hk hall ?_ hpl
  refine L2.thn (hkw.run pos pins s σ H _ I h) fun ws s2 ⟨zs, H2, I2, rz, q2⟩ => ⟨I2.kIn, ?_⟩
  rw [hks]
  exact run_fnk (us := []) F hr hb hx I2 .nil rz q2

/-! ### C.m(..), m a static method -/
structure SMet (K : PySem.W.Frag) (C : Addr) (m : Str) (p g : Addr) : Prop where
  rd : PySem.W.readsIn K C (.type "type") = true
  ga : PySem.W.specialIn K (.ref C) "__getattribute__" = some (some (.builtin "type.__getattribute__"))
  at_ : PySem.W.findCls K (.ref C) (.type "type") m = some (.get (.builtin "staticmethod.__get__") (.ref p) .none (.ref C))
  rc : ∃ rest, PySem.W.recIn K p "staticmethod" = some (.ref g :: rest)
  kp : PySem.W.keepIn K (.ref g) = true
theorem pe_stat {X : Cx} {C p g : Addr} {m x : Str} {pl : Sem Bool} {k j : Nat} {fd : FuncData} {ps : List Str} {sp : Sp} {px apos pos : Pos} {e : Expr} {es : List Expr} {t : TA} (S : SMet X.K C m p g) (F : FnOk X.prog X.w X.K X.mg X.base CX0 j g fd ps sp) (hr : Room k X.A) (hk : j ≤ k)
    (hg : Gl X x) (hm : X.mg x = some (.ref C)) (hb : Binds X.K fd ps []) (ha : PA X (e :: es) t) (hdb : (x == ("__debug__" : Str)) = false := by decide)
    (hst : starEach (e :: es) X.env = (false, eval e X.env) :: starEach es X.env := by rfl) (hpl : (backTo pos (starEach es X.env)).any (·.1) = false := by rfl)
    (ht : eval (.Call (.Attribute (.Name x px) m apos) (e :: es) [] pos) X.env = (do
      let ov ← eval (.Name x px) X.env
      standAt apos.atName
      let (f, first) ← holding [ov] (getMethod ov m pl)
      callWith pos f first (backTo pos (starEach (e :: es) X.env)) (backToKw pos (keywordEach [] X.env))) := by rfl) :
    PE X (.Call (.Attribute (.Name x px) m apos) (e :: es) [] pos) (tCall sp [] E0 t) := by
  refine ⟨fun pins s σ H Q I h => ?_⟩
  refine PySem.W.methodCall_KW (pl := pl) (L2.thn ((pe_glob (v := .ref C) (pos := px) hg hm rfl hdb).run pins s σ H (fun v H1 => v = .ref C ∧ H1 = H) I ⟨rfl, rfl⟩) fun u s1 ⟨v, H1, I1, rv, ev, eH⟩ => ?_) ht
  subst ev eH
  obtain rfl : u = Value.ref C := rv
  obtain ⟨rest, hrec⟩ := S.rc
  refine PySem.W.method_cls I1.kIn S.ga (PySem.W.cls_bind I1.kIn S.rd S.at_ (wpAny_call (PySem.W.sm_get (s := { s1 with toks := s1.toks + 1 }) I1.kIn hrec (PySem.W.handed_on rfl ?_))))
  have I2 : L2.Inv X pins σ H1 { s1 with toks := s1.toks + 1 } := I1.tok _
  refine PySem.W.callWith_K (h₀ := X.base) (first := []) I2.ok.mod.kin S.kp (L2.thn (ha.run pos pins _ σ H1 _ I2 h) fun us s2 ⟨vs, H2, I3, r, q⟩ => ⟨I3.kIn, ?_⟩) hst hpl
  exact run_fn F (hr.mono hk) hb .nil pass0 I3 r q
end Dl
end

section
set_option maxHeartbeats 4000000
/-! Dl10: objects of the text's own classes: as data, while they are made; isinstance; own ==. -/
namespace Dl
open PySem L2 Evl
variable {c : Cn} {L L' : List Addr} {des des' : List Des}

/-! ### an object as data -/
def insPp (K : PySem.W.Frag) (C : Addr) (fs : List (Str × Dt)) (v : V) (H : Hp) : Prop := ∃ (a dx : Addr) (vs : List (Str × V)), v = .ref a ∧ H a = some (.ins C dx vs) ∧ H dx = some (.own a) ∧ vs.map (·.1) = fs.map (·.1) ∧ RpA K H (vs.map (·.2)) (fs.map (·.2))
def insP (K : PySem.W.Frag) (C : Addr) (fs : List (Str × Dt)) : OP where
  p := insPp K C fs
  mono := fun v H H' e ⟨a, dx, vs, h1, h2, h3, h4, h5⟩ => ⟨a, dx, vs, h1, e _ _ h2, e _ _ h3, h4, h5.ex e⟩
theorem lookup_of {K : PySem.W.Frag} {H : Hp} {f : Str} {d : Dt} : ∀ {vs : List (Str × V)} {fs : List (Str × Dt)}, vs.map (·.1) = fs.map (·.1) → RpA K H (vs.map (·.2)) (fs.map (·.2)) → fs.lookup f = some d → ∃ v, vs.lookup f = some v ∧ Rp K H v d
  | [], [], _, _, h => by cases h
  | [], _ :: _, h, _, _ => by cases h
  | _ :: _, [], h, _, _ => by cases h
  | (g, v) :: vs, (g', d') :: fs, hn, hr, hf => by
    injection hn with h1 h2
    have h1' : g = g' := h1
    subst h1'
    cases hr with
    | cons r rs =>
      rw [List.lookup_cons] at hf ⊢
      by_cases e : (f == g) = true
      · rw [e] at hf ⊢
        cases hf
        exact ⟨v, rfl, r⟩
      · have e' : (f == g) = false := by simpa using e
        rw [e'] at hf ⊢
        exact lookup_of h2 rs hf
section
variable {ta tb te : TE} {d : Dt} {C : Addr} {fs : List (Str × Dt)} {f : Str}
theorem ed_fld (cl : Cls c.K C) (na : NoAttr c.K C f) (h : Ed c L des ta (.ob (insP c.K C fs))) (hf : fs.lookup f = some d) : Ed c L des (tFld c.K ta f) d := fun σ H w Q q => h σ H w _ fun v H1 g r => by
  obtain ⟨a, dx, vs, rfl, h1, h2, h3, h4⟩ := r.ob_inv
  obtain ⟨u, e1, e2⟩ := lookup_of h3 h4 hf
  exact ⟨a, C, dx, vs, u, rfl, hid_le _ _ h1, cl, na, e1, q u H1 g e2⟩
/-! ### isinstance -/
/-- what makes an object's class be told -/
structure IsF (K : PySem.W.Frag) (C : Addr) : Prop where
  cl : Cls K C
  ha : PySem.W.findIn K (.ref C) "__class__" = some (some (.builtin "object.__class__"))
  hn : PySem.W.specialIn K (.builtin "object.__class__") "__get__" = some (some (.builtin "getset_descriptor.__get__"))
  htk : PySem.W.takesIn K (.builtin "object.__class__") = some true
  hm : PySem.W.mroIn K C (.type "object") = some true
theorem ty_int {K : PySem.W.Frag} {H : Hp} {v : V} {i : Int} (h : Rp K H v (.int i)) : TyX K H v (.type "int") := by rw [h.int_inv]; exact .base (.int i)
theorem ty_bl {K : PySem.W.Frag} {H : Hp} {v : V} {b : Bool} (h : Rp K H v (.bl b)) : TyX K H v (.type "bool") := by rw [h.bl_inv]; exact .base (.bl b)
theorem ty_str {K : PySem.W.Frag} {H : Hp} {v : V} {x : Str} (h : Rp K H v (.str x)) : TyX K H v (.type "str") := by rw [h.str_inv]; exact .base (.str x)
theorem ty_non {K : PySem.W.Frag} {H : Hp} {v : V} (h : Rp K H v .non) : TyX K H v (.type "NoneType") := by rw [h.non_inv]; exact .base .non
theorem ty_tup {K : PySem.W.Frag} {H : Hp} {v : V} {ds : List Dt} (h : Rp K H v (.tup ds)) : TyX K H v (.type "tuple") := by
  obtain ⟨a, xs, rfl, hs, _⟩ := h.tup_inv
  rcases hs with (h | ⟨o, h⟩) | ⟨o, its, n, h1, h2, h3, h4, h5⟩
  · exact .base (.tup h)
  · exact .fTuple h
  · exact .kTuple h1 h2
theorem ty_lst {K : PySem.W.Frag} {H : Hp} {v : V} {ds : List Dt} (h : Rp K H v (.lst ds)) : TyX K H v (.type "list") := by
  obtain ⟨a, xs, rfl, hs, _⟩ := h.lst_inv
  rcases hs with h | ⟨o, h⟩
  · exact .base (.lst h)
  · exact .base (.frz h)
theorem ty_ins {K : PySem.W.Frag} {H : Hp} {v : V} (F : IsF K C) (h : Rp K H v (.ob (insP K C fs))) : TyX K H v (.ref C) := by
  obtain ⟨a, dx, vs, rfl, h1, _⟩ := h.ob_inv
  exact .base (.ins h1 F.cl F.ha F.hn F.htk F.hm)
theorem k_isi {X : Cx} (K : PySem.W.Frag) (e : X.K = K := by rfl) : CallR X (.builtin "isinstance") (rIsi K) := e ▸ call_isi
theorem ed_isi {cv : V} {t u : Value} {b : Bool} (k : ClsV cv u) (ht : ∀ H v, Rp c.K H v d → TyX c.K H v t) (hk : PySem.W.kitOne c.K t u = some b) (h : Ed c L des ta d) : Ed c L des (tCB (rIsi c.K) (tCons ta (tCons (tC cv) tNil))) (.bl b) := fun σ H w Q q =>
  h σ H w _ fun v H1 g r => ⟨v, cv, t, u, b, rfl, k, ht H1 v (r.ex hid_le), hk, q _ H1 g (.bl _)⟩
end
theorem kit_same (K : PySem.W.Frag) (T : String) : PySem.W.kitOne K (.type T) (.type T) = some true := by
  unfold PySem.W.kitOne
  rw [if_pos (by simp)]
theorem kit_own (K : PySem.W.Frag) (C : Addr) : PySem.W.kitOne K (.ref C) (.ref C) = some true := by
  unfold PySem.W.kitOne
  rw [if_pos (by simp)]
theorem kit_int_bool (K : PySem.W.Frag) : PySem.W.kitOne K (.type "int") (.type "bool") = some false := by kernel_rfl
theorem kit_list_bool (K : PySem.W.Frag) : PySem.W.kitOne K (.type "list") (.type "bool") = some false := by kernel_rfl
theorem kit_list_int (K : PySem.W.Frag) : PySem.W.kitOne K (.type "list") (.type "int") = some false := by kernel_rfl
theorem kit_list_str (K : PySem.W.Frag) : PySem.W.kitOne K (.type "list") (.type "str") = some false := by kernel_rfl
theorem kit_list_tuple (K : PySem.W.Frag) : PySem.W.kitOne K (.type "list") (.type "tuple") = some false := by kernel_rfl
theorem kit_tuple_bool (K : PySem.W.Frag) : PySem.W.kitOne K (.type "tuple") (.type "bool") = some false := by kernel_rfl
theorem kit_tuple_int (K : PySem.W.Frag) : PySem.W.kitOne K (.type "tuple") (.type "int") = some false := by kernel_rfl
theorem kit_tuple_str (K : PySem.W.Frag) : PySem.W.kitOne K (.type "tuple") (.type "str") = some false := by kernel_rfl
theorem kit_tuple_list (K : PySem.W.Frag) : PySem.W.kitOne K (.type "tuple") (.type "list") = some false := by kernel_rfl
theorem kit_str_bool (K : PySem.W.Frag) : PySem.W.kitOne K (.type "str") (.type "bool") = some false := by kernel_rfl
theorem kit_str_int (K : PySem.W.Frag) : PySem.W.kitOne K (.type "str") (.type "int") = some false := by kernel_rfl
theorem kit_bool_int (K : PySem.W.Frag) : PySem.W.kitOne K (.type "bool") (.type "int") = some true := by kernel_rfl

/-! ### an object while it is made -/
def IXp (K : PySem.W.Frag) (C dx a : Addr) (fs : List (Str × Dt)) (o : HO) (Vs : Hp) : Prop := ∃ vs : List (Str × V), o = .ins C dx vs ∧ vs.map (·.1) = fs.map (·.1) ∧ RpA K Vs (vs.map (·.2)) (fs.map (·.2)) ∧ Vs dx = some (.own a)
def IX (K : PySem.W.Frag) (C dx a : Addr) (fs : List (Str × Dt)) : OX where
  p := IXp K C dx a fs
  mono := fun o H H' e ⟨vs, h1, h2, h3, h4⟩ => ⟨vs, h1, h2, h3.ex e, e _ _ h4⟩
theorem putF_new {f : Str} {v : V} : ∀ {vs : List (Str × V)}, f ∉ vs.map (·.1) → putF f v vs = vs ++ [(f, v)]
  | [], _ => rfl
  | (g, x) :: r, h => by
    have h1 : ¬ g = f := fun e => h (by rw [e]; exact List.mem_cons_self)
    show (if g = f then _ else _) = _
    rw [if_neg h1, putF_new fun z => h (List.mem_cons_of_mem _ z)]; rfl
/-- what the making of an object promises -/
def Pi (K : PySem.W.Frag) (C : Addr) (dom : List Dt → List (Str × Dt) → Prop) : Sp := fun vs H Q _ => ∃ (x dx : Addr) (args : List V) (M0 : List Addr) (ds : List Dt) (fs : List (Str × Dt)), vs = .ref x :: args ∧ H x = some (.ins C dx []) ∧ H dx = some (.own x) ∧ dx ≠ x ∧ dom ds fs ∧ (∀ a ∈ M0, H a ≠ none) ∧ x ∉ M0 ∧ dx ∉ M0 ∧
  RpA K (hid (x :: M0) H) args ds ∧ ∀ H', Ex (hid [x] H) H' → Rp K (hid M0 H') (.ref x) (.ob (insP K C fs)) → Q .non H'
section
variable {C : Addr} {dom : List Dt → List (Str × Dt) → Prop} {ta : TA} {ds : List Dt} {fs : List (Str × Dt)} {E : XK}
theorem ed_make (h : Ea c L des ta ds) (hd : dom ds fs) : Ed c L des (tMake C (Pi c.K C dom) [] E ta) (.ob (insP c.K C fs)) := fun σ H w Q q => h σ H w _ fun vs H1 g1 r1 x dx hx hdx hne => by
  have w1 := w.gr g1
  have nx := w1.fresh hx
  have ndx := w1.fresh hdx
  have keep : ∀ a o, H1 a = some o → (upd (upd H1 dx (.own x)) x (.ins C dx [])) a = some o := fun a o ha => by
    have n1 : a ≠ x := fun z => by rw [z, hx] at ha; cases ha
    have n2 : a ≠ dx := fun z => by rw [z, hdx] at ha; cases ha
    rw [upd_ne n1, upd_ne n2]; exact ha
  refine ⟨x, dx, vs, c.M L, ds, fs, by rw [List.append_nil], upd_same, by rw [upd_ne hne]; exact upd_same, hne, hd, fun a ha z => ?_, nx, ndx, r1.ex fun a o ha => ?_, fun H' e rv => ⟨rfl, ?_⟩⟩
  · cases q2 : H1 a with
    | none => exact w1.fresh q2 ha
    | some o => rw [keep a o q2] at z; cases z
  · obtain ⟨n, ha⟩ := hid_some ha
    have n1 : a ≠ x := fun z => by rw [z, hx] at ha; cases ha
    rw [hid_out]
    · exact keep a o ha
    · intro z
      rcases List.mem_cons.mp z with z | z
      · exact n1 z
      · exact n z
  · have ex : Ex H1 H' := fun a o ha => e a o (by
      have n1 : a ≠ x := fun z => by rw [z, hx] at ha; cases ha
      rw [hid_out (by simpa using n1)]; exact keep a o ha)
    exact q _ H' (g1.trans (Gr.of_ex ex w1)) rv
/-- from the start of an __init__ -/
theorem start_init {K : PySem.W.Frag} {N : List Str} {x dx : Addr} {args : List V} {H : Hp} {M0 : List Addr} {ds : List Dt} (hx : H x = some (.ins C dx [])) (hdx : H dx = some (.own x)) (hne : dx ≠ x) (ht : ∀ a ∈ M0, H a ≠ none) (nx : x ∉ M0) (ndx : dx ∉ M0) (r : RpA K (hid (x :: M0) H) args ds) :
    WS ⟨K, hid [x] H, M0, []⟩ [x] H (L2.start N (.ref x :: args)) (.ownX x (IX K C dx x []) :: (ds.map .dat ++ List.replicate (N.length - (ds.length + 1)) .any)) := by
  refine ⟨hid_le, (fun a h => ?_), (fun b h => nomatch h), ht, (fun a h => fun z => nomatch z), (fun a h => ?_), ?_⟩
  · have e : a = x := by simpa using h
    subst e
    exact ⟨hid_in (by simp), by rw [hx]; exact fun z => nomatch z⟩
  · have e : a = x := by simpa using h
    subst e
    exact nx
  · show SlA K [x] [] (hid ([x] ++ ([] ++ M0)) H) H (L2.start N (.ref x :: args)) _
    have el := r.length
    unfold L2.start
    rw [List.length_cons, el]
    have vdx : hid ([x] ++ ([] ++ M0)) H dx = some (.own x) := by
      rw [hid_out]; exact hdx
      intro z
      rcases List.mem_append.mp z with z | z
      · exact hne (by simpa using z)
      · exact ndx (by simpa using z)
    have e2 : ∀ n, SlA K [x] [] (hid ([x] ++ ([] ++ M0)) H) H (List.replicate n none) (List.replicate n .any) := fun n => by
      induction n with
      | zero => exact .nil
      | succ n ih => exact .cons trivial ih
    have r' : RpA K (hid ([x] ++ ([] ++ M0)) H) args ds := r
    have key : ∀ {vs : List V} {ds : List Dt}, RpA K (hid ([x] ++ ([] ++ M0)) H) vs ds → ∀ n, SlA K [x] [] (hid ([x] ++ ([] ++ M0)) H) H (vs.map some ++ List.replicate n none) (ds.map .dat ++ List.replicate n .any) := by
      intro vs ds r n
      induction vs generalizing ds with
      | nil => cases r; exact e2 n
      | cons v vs ih =>
        cases r with
        | cons h t => exact .cons ⟨v, rfl, h⟩ (ih t)
    exact .cons ⟨rfl, by simp, .ins C dx [], hx, [], rfl, rfl, .nil, vdx⟩ (key r' _)
/-- self.f = e -/
theorem fld_core {te : TE} {i : Nat} {a dx : Addr} {f : Str} {d : Dt} (cl : Cls c.K C) (na : NoAttr c.K C f) (hi : des[i]? = some (.ownX a (IX c.K C dx a fs))) (h : Ed c L des te d) (hf : Fre a (des.set i .any)) (hn : f ∉ fs.map (·.1)) (hl : fs.length < 100) {N : St → Hp → Prop} (k : ∀ σ H, WS c L H σ (des.set i (.ownX a (IX c.K C dx a (fs ++ [(f, d)])))) → N σ H) :
    ∀ σ H, WS c L H σ des → sFld c.K (tVar i) te f { nx := N, rt := fun _ _ => False, bk := fun _ _ => False, ct := fun _ _ => False } σ H := fun σ H w => h σ H w _ fun y H1 g r => by
  have w1 := w.gr g
  obtain ⟨s, hs, e, ha, o, ho, vs, eo, hnm, hr, hd⟩ := w1.sl.get hi
  subst eo
  have el : vs.length = fs.length := by have := congrArg List.length hnm; simpa using this
  refine ⟨.ref a, by rw [hs, e], a, C, dx, vs, rfl, ho, cl, na, by omega, k σ _ (w1.put ha hf (by rw [hs, e]) ⟨rfl, ha, _, upd_same, vs ++ [(f, y)], ?_, ?_, ?_, hd⟩)⟩
  · rw [putF_new (by rw [hnm]; exact hn)]
  · rw [List.map_append, List.map_append, hnm]; rfl
  · rw [List.map_append, List.map_append]
    exact hr.snoc r
theorem sd_fld {te : TE} {tz : TS} {D : Ends} {i : Nat} {a dx : Addr} {f : Str} {d : Dt} (cl : Cls c.K C) (na : NoAttr c.K C f) (hi : des[i]? = some (.ownX a (IX c.K C dx a fs))) (h : Ed c L des te d) (hf : Fre a (des.set i .any)) (hn : f ∉ fs.map (·.1)) (hl : fs.length < 100) (k : Sd c L (des.set i (.ownX a (IX c.K C dx a (fs ++ [(f, d)])))) tz D) :
    Sd c L des (tSeq (sFld c.K (tVar i) te f) tz) D := fld_core cl na hi h hf hn hl k
theorem sd_fldL {te : TE} {D : Ends} {i : Nat} {a dx : Addr} {f : Str} {d : Dt} (cl : Cls c.K C) (na : NoAttr c.K C f) (hi : des[i]? = some (.ownX a (IX c.K C dx a fs))) (h : Ed c L des te d) (hf : Fre a (des.set i .any)) (hn : f ∉ fs.map (·.1)) (hl : fs.length < 100) (k : ∀ σ H, WS c L H σ (des.set i (.ownX a (IX c.K C dx a (fs ++ [(f, d)])))) → D.nx σ H) :
    Sd c L des (sFld c.K (tVar i) te f) D := fld_core cl na hi h hf hn hl k
/-- at the end of an __init__ -/
theorem end_init {K : PySem.W.Frag} {H H' : Hp} {M0 : List Addr} {x dx : Addr} {σ : St} {des : List Des} (w : WS ⟨K, hid [x] H, M0, []⟩ [x] H' σ des) (hi : des[0]? = some (.ownX x (IX K C dx x fs))) : Ex (hid [x] H) H' ∧ Rp K (hid M0 H') (.ref x) (.ob (insP K C fs)) := by
  refine ⟨w.ex, ?_⟩
  obtain ⟨s, hs, e, ha, o, ho, vs, eo, hnm, hr, hd⟩ := w.sl.get hi
  subst eo
  have nx : x ∉ M0 := w.lm x (by simp)
  have vis : Ex (hid (Cn.M ⟨K, hid [x] H, M0, []⟩ [x]) H') (hid M0 H') := hid_sub fun a ha => List.mem_append_right _ (List.mem_append_right _ ha)
  exact .ob ⟨x, dx, vs, rfl, by rw [hid_out nx]; exact ho, vis _ _ hd, hnm, hr.ex vis⟩
end
/-- a class that is made by its name -/
structure Mc (P : Program) (w : World) (K : PySem.W.Frag) (mg : Str → Option Value) (base : Heap) (x : Str) (k : Nat) (C : Addr) (ps : List Str) (sp : Sp) : Prop where
  ex : ∃ (f : Addr) (fd : FuncData), Mk K C f ∧ FnOk P w K mg base CX0 k f fd ps sp ∧ mg x = some (.ref C) ∧ Binds K fd ps []
theorem pe_mkc {X : Cx} {x : Str} {C : Addr} {j k : Nat} {ps : List Str} {sp : Sp} {e : Expr} {es : List Expr} {p pos : Pos} {t : TA} (M : Mc X.prog X.w X.K X.mg X.base x j C ps sp) (hr : Room k X.A) (hk : j + 1 ≤ k) (ha : PA X (e :: es) t) (hg : Gl X x := by rfl) (hdb : (x == ("__debug__" : Str)) = false := by decide)
    (he : starEach (e :: es) X.env = (false, eval e X.env) :: starEach es X.env := by rfl) (hpl : (backTo pos (starEach es X.env)).any (·.1) = false := by rfl) : PE X (.Call (.Name x p) (e :: es) [] pos) (tMake C sp [] E0 t) := by
  obtain ⟨f, fd, M, F, m, b⟩ := M.ex
  exact pe_make M F (hr.mono hk) hg m b .nil pass0 ha hdb he hpl
/-- an __init__ of the text makes the object -/
theorem mc_mk {P : Program} {w : World} {K : PySem.W.Frag} {mg : Str → Option Value} {base : Heap} {x qual : Str} {C : Addr} {st : Stmt} {f : Addr} {fd : FuncData} {N ps : List Str} {k : Nat} {dom : List Dt → List (Str × Dt) → Prop} (M : Mk K C f) (F : FnP K "__init__" qual st f fd) (gl : mg x = some (.ref C)) (S : FnScope N ps (defScope st))
    (hb : ∀ (kV doc pm : Value) (an : Option Addr) (cdv ct : Value) (us : List Value), us.length = ps.length → bindArgs (PySem.W.fnOf "__init__" qual (defArgs st) (defBody st) (defScope st) .none kV doc pm an cdv ct) ⟨us, []⟩ = pure (ps.zip us))
    (len : ∀ ds fs, dom ds fs → ds.length + 1 = ps.length)
    (body : ∀ (cdv : Value) (A : Around) (outer : List Env) (s : Shared) (H : Hp) (Q : VK) (E : XK), Room k (A.deeper (PyProof.Rows.envOfC qual (defScope st) s.heap.objs.size f cdv)) →
      ∃ t, PSs (cxOf CX0 P w K mg base N qual (defScope st) f cdv A outer s H E).nox (defBody st) t ∧ ∀ M0 x dx ds fs, dom ds fs → ∀ N' : St → Hp → Prop, (∀ σ H' des, des[0]? = some (.ownX x (IX K C dx x fs)) → WS ⟨K, hid [x] H, M0, []⟩ [x] H' σ des → N' σ H') →
        Sd ⟨K, hid [x] H, M0, []⟩ [x] (.ownX x (IX K C dx x []) :: (ds.map .dat ++ List.replicate (N.length - (ds.length + 1)) .any)) t { nx := N', rt := Q }) :
    Mc P w K mg base x (k + 1) C ps (Pi K C dom) := by
  refine ⟨f, fd, M, F.ok S (fun vs H Q E h => ?_) (fun cdv A outer s H vs Q E hr h => ?_), gl, F.bindsN hb⟩
  · obtain ⟨x, dx, args, M0, ds, fs, rfl, _, _, _, hd, _, _, _, r, _⟩ := h
    rw [List.length_cons, r.length, len ds fs hd]
  · obtain ⟨x, dx, args, M0, ds, fs, rfl, hx, hdx, hne, hd, ht, nx, ndx, r, q⟩ := h
    obtain ⟨t, h1, h2⟩ := body cdv A outer s H Q E hr
    refine ⟨t, h1.nox, h2 M0 x dx ds fs hd _ (fun σ H' des e w' => ?_) _ H (start_init hx hdx hne ht nx ndx r)⟩
    obtain ⟨q1, q2⟩ := end_init w' e
    exact q H' q1 q2
end Dl
end

section
set_option maxHeartbeats 4000000
/-! Dl11: texts: split, int of a text, text of an int, f-strings; own == told. -/
namespace Dl
open PySem L2 Evl
variable {c : Cn} {L L' : List Addr} {des des' : List Des}
section
variable {ta tb te : TE} {i : Int}
def rSplit1 : V → List V → Hp → VK → Prop := fun x xs H Q => ∃ a b, x = .str a ∧ xs = [.str b] ∧ (b.length == 0) = false ∧ a.length + 2 ≤ sizeLine ∧ rNewStrs (Txt.split a b) H Q
theorem pe_split1 {X : Cx} {o e : Expr} {to te : TE} {apos pos : Pos} (ho : PE X o to) (he : PE X e te) (hs : starEach [e] X.env = [(false, eval e X.env)] := by rfl)
    (hbase : attributeBase o "split" X.env (eval o X.env) = eval o X.env := by rfl) (hline : (apos.endLine == pos.line) = true := by rfl) : PE X (.Call (.Attribute o "split" apos) [e] [] pos) (tM1 rSplit1 to te) :=
  pe_m1 F.slot_str_split F.type_str_split mt_split ho he hs hbase hline
theorem ed_split1 {a b : List Nat} {ys : List (List Nat)} (ha : Ed c L des ta (eS a)) (hb : Ed c L des tb (eS b)) (h0 : b.length ≠ 0) (hz : a.length ≤ 1000000) (hy : Txt.split (sS a) (sS b) = ys.map sS) : Ed c L des (tM1 rSplit1 ta tb) (.lst (ys.map eS)) := fun σ H w Q q =>
  ha σ H w _ fun v H1 g1 r1 => ⟨⟨_, r1.str_inv⟩, hb σ H1 (w.gr g1) _ fun u H2 g2 r2 => by
    refine ⟨sS a, sS b, r1.str_inv, by rw [r2.str_inv], by rw [sS_len]; simpa using h0, by rw [sS_len, sizeLine_eq]; omega, ?_⟩
    rw [hy]
    intro p hp
    have g := g1.trans g2
    refine q _ _ (g.trans (Gr.new (w.gr g) hp)) (.new_lst (w.gr g) hp ?_)
    rw [List.map_map]
    have := RpA.of_strs (K := c.K) (H := hid (c.M L) H2) (ys.map sS)
    rw [List.map_map, List.map_map] at this
    exact this⟩
def rIntS : List V → Hp → VK → Prop := fun xs H Q => ∃ a n, xs = [.str a] ∧ PySem.intText? a = some n ∧ a.length ≤ 640 ∧ Q (.int n) H
theorem d_intS {X : Cx} : CallR X (.type "int") rIntS := call_int_str
theorem ed_intS {a : List Nat} (h : Ed c L des ta (eS a)) (e : PySem.intText? (sS a) = some i) (hl : a.length ≤ 640) : Ed c L des (tCB rIntS (tCons ta tNil)) (.int i) := fun σ H w Q q =>
  h σ H w _ fun v H1 g r => ⟨sS a, i, by rw [r.str_inv], e, by rw [sS_len]; exact hl, q _ _ g (.int _)⟩
def rStrI : List V → Hp → VK → Prop := fun xs H Q => ∃ i : Int, xs = [.int i] ∧ i.natAbs.log2 < 1920 ∧ Q (.str (toString i)) H
theorem d_strI {X : Cx} : CallR X (.type "str") rStrI := call_str_int
theorem ed_strI {l : List Nat} (h : Ed c L des ta (.int i)) (hi : i.natAbs.log2 < 1920) (e : ((toString i : String) : Str) = sS l) : Ed c L des (tCB rStrI (tCons ta tNil)) (eS l) := fun σ H w Q q =>
  h σ H w _ fun v H1 g r => ⟨i, by rw [r.int_inv], hi, by
    have e' : (toString i : Str) = sS l := e
    rw [e']; exact q _ _ g (.str _)⟩
/-! f-strings -/
theorem ed_fmtS {l : List Nat} (h : Ed c L des ta (eS l)) (hl : l.length ≤ 1000000) : Ed c L des (tFmt ta) (eS l) := fun σ H w Q q =>
  h σ H w _ fun v H1 g r => .inl ⟨sS l, r.str_inv, by rw [sS_len]; exact Nat.le_trans hl (by decide), q _ _ g (.str _)⟩
theorem ed_fmtI {l : List Nat} (h : Ed c L des ta (.int i)) (hi : i.natAbs.log2 < 1920) (e : ((toString i : String) : Str) = sS l) : Ed c L des (tFmt ta) (eS l) := fun σ H w Q q =>
  h σ H w _ fun v H1 g r => .inr ⟨i, r.int_inv, hi, by
    have e' : (toString i : Str) = sS l := e
    rw [e']; exact q _ _ g (.str _)⟩
def EdJ (c : Cn) (L : List Addr) (des : List Des) (ts : List TE) (a out : List Nat) : Prop := ∀ σ H, WS c L H σ des → ∀ Q : Str → Hp → Prop, (∀ H2, Gr c H H2 → Q (sS out) H2) → tJs ts (sS a) σ H Q
theorem ej_nil {a : List Nat} : EdJ c L des [] a a := fun σ H w Q q => q H (Gr.refl w)
theorem ej_cons {ts : List TE} {a l out : List Nat} (h : Ed c L des te (eS l)) (hl : (a ++ l).length ≤ 1000000) (r : EdJ c L des ts (a ++ l) out) : EdJ c L des (te :: ts) a out := fun σ H w Q q =>
  h σ H w _ fun v H1 g rv => ⟨sS l, rv.str_inv, by rw [sS_append, sS_len]; exact Nat.le_trans hl (by decide), by
    rw [sS_append]
    exact r σ H1 (w.gr g) Q fun H2 g2 => q H2 (g.trans g2)⟩
def tJ (ts : List TE) : TE := fun σ H Q => tJs ts Str.empty σ H fun out H1 => Q (.str out) H1
theorem pe_fstr {X : Cx} {v1 v2 : Expr} {rest : List Expr} {ts : List TE} {pos : Pos} (h : PJ X (v1 :: v2 :: rest) ts) : PE X (.JoinedStr (v1 :: v2 :: rest) pos) (tJ ts) := pe_joined h
theorem ed_js {ts : List TE} {out : List Nat} (h : EdJ c L des ts [] out) : Ed c L des (tJ ts) (eS out) := fun σ H w Q q => h σ H w (fun o H1 => Q (.str o) H1) fun H2 g => q _ _ g (.str _)
/-! own == -/
theorem ed_eqO {C : Addr} {d : Dt} {fs : List (Str × Dt)} {R : Addr → Addr → Hp → Prop} (hd : d = .ob (insP c.K C fs)) (hR : ∀ a b H, Rp c.K H (.ref a) d → Rp c.K H (.ref b) d → R a b H) (ha : Ed c L des ta d) (hb : Ed c L des tb d) :
    Ed c L des (tOp (rEqG (DIns C R)) ta tb) (.bl true) := fun σ H w Q q =>
  ha σ H w _ fun v H1 g1 r1 => hb σ H1 (w.gr g1) _ fun u H2 g2 r2 => by
    have r1' := (r1.up g2).ex (hid_le (H := H2))
    have r2' := r2.ex (hid_le (H := H2))
    have q1 := r1'
    have q2 := r2'
    rw [hd] at q1 q2
    obtain ⟨a, dx, vs, rfl, h1, _⟩ := q1.ob_inv
    obtain ⟨b, dy, us, rfl, h2, _⟩ := q2.ob_inv
    refine ⟨⟨a, b, dx, dy, vs, us, rfl, rfl, h1, h2, hR a b H2 r1' r2'⟩, fun H' e => ?_⟩
    have w2 := w.gr (g1.trans g2)
    exact q _ H' ((g1.trans g2).trans (Gr.of_ex (fun a o h => e a o h) w2)) (.bl _)
end
end Dl
end

section
set_option maxHeartbeats 1000000
namespace K58
open Dl

def law_hands (line : List Nat) (spot : Int) : (Int × Int) :=
 bindV (cond (decide (spot ≤ ((line).length : Int))) (gI line (spot - (1 : Int))) 46) fun (letter3 : Nat) =>
 ((lkC [(46, 0), (104, 1), (72, 2), (97, 0), (98, 1), (66, 2)] letter3), (cond (decide (letter3 ∈ ([97, 98, 66] : List Nat))) (1 : Int) (0 : Int)))
def law_hands_ok (line : List Nat) (spot : Int) : Bool :=
 (decide ((line).length ≤ 1000000) && (!(decide (spot ≤ ((line).length : Int))) || (decide (0 ≤ (spot - (1 : Int))) && (decide ((spot - (1 : Int)) < (line).length) && decide ((line).length ≤ 1000000))))) && (bindV (cond (decide (spot ≤ ((line).length : Int))) (gI line (spot - (1 : Int))) 46) fun (letter3 : Nat) =>
 hasC [(46, 0), (104, 1), (72, 2), (97, 0), (98, 1), (66, 2)] letter3)

@[reducible] def law_deeps_l5 (x : (Int × Bool × Int)) (s : List Int) : Step (List Int) (Unit) :=
 bindV (s ++ [((gI s x.2.2) + (1 : Int))]) fun (found22 : List Int) =>
 .nx found22
@[reducible] def law_deeps_l5_ok (x : (Int × Bool × Int)) (s : List Int) : Bool :=
 (decide (0 ≤ x.2.2) && (decide (x.2.2 < (s).length) && decide ((s).length < 1000000))) && (bindV (s ++ [((gI s x.2.2) + (1 : Int))]) fun (found22 : List Int) =>
 true)
def law_deeps (blocks : List ((Int × Bool × Int))) : List Int :=
 bindV ([(0 : Int)] : List Int) fun (found2 : List Int) =>
 bindV (forL law_deeps_l5 blocks found2).st fun (s25 : List Int) =>
 s25
def law_deeps_ok (blocks : List ((Int × Bool × Int))) : Bool :=
 bindV ([(0 : Int)] : List Int) fun (found2 : List Int) =>
 okL law_deeps_l5 law_deeps_l5_ok blocks found2 && (bindV (forL law_deeps_l5 blocks found2).st fun (s25 : List Int) =>
 true)


def law_at (blocks : List ((Int × Bool × Int))) (leaf : Int) : Int :=
 (cond (leaf != 0) (gI blocks (leaf - (1 : Int))).1 (0 : Int))
def law_at_ok (blocks : List ((Int × Bool × Int))) (leaf : Int) : Bool :=
 (!(leaf != 0) || (decide (0 ≤ (leaf - (1 : Int))) && decide ((leaf - (1 : Int)) < (blocks).length)))


def law_known (blocks : List ((Int × Bool × Int))) (late : Int) (when : Int) : Int :=
 bindV (law_deeps blocks) fun (deeps1 : List Int) =>
 (maxI (([(0 : Int)] : List Int) ++ ((((rng 0 ((blocks).length : Int))).filter (fun (y4 : Int) => ((gI blocks y4).2.1 && (decide ((gI blocks y4).1 ≤ (when - late)))))).map (fun (y4 : Int) => (gI deeps1 (y4 + (1 : Int)))))))
def law_known_ok (blocks : List ((Int × Bool × Int))) (late : Int) (when : Int) : Bool :=
 law_deeps_ok blocks && (bindV (law_deeps blocks) fun (deeps1 : List Int) =>
 (midB ((blocks).length : Int) && (decide (((rng 0 ((blocks).length : Int))).length ≤ 1000000) && (((rng 0 ((blocks).length : Int))).all (fun (y4 : Int) => (decide (0 ≤ y4) && (decide (y4 < (blocks).length) && (!(gI blocks y4).2.1 || (decide (0 ≤ y4) && decide (y4 < (blocks).length)))))) && (((rng 0 ((blocks).length : Int))).all (fun (y4 : Int) => (!((gI blocks y4).2.1 && (decide ((gI blocks y4).1 ≤ (when - late)))) || (decide (0 ≤ (y4 + (1 : Int))) && decide ((y4 + (1 : Int)) < (deeps1).length)))) && (decide (([(0 : Int)] : List Int).length + ((((rng 0 ((blocks).length : Int))).filter (fun (y4 : Int) => ((gI blocks y4).2.1 && (decide ((gI blocks y4).1 ≤ (when - late)))))).map (fun (y4 : Int) => (gI deeps1 (y4 + (1 : Int))))).length ≤ 1000000) && decide (0 < ((([(0 : Int)] : List Int) ++ ((((rng 0 ((blocks).length : Int))).filter (fun (y4 : Int) => ((gI blocks y4).2.1 && (decide ((gI blocks y4).1 ≤ (when - late)))))).map (fun (y4 : Int) => (gI deeps1 (y4 + (1 : Int))))))).length)))))))

@[reducible] def law_fork_l1 (blocks : List ((Int × Bool × Int))) (x : Int) (s : Int × Int) : Step (Int × Int) (Unit) :=
 cond (decide (s.1 = s.2))
 (.bk (s.1, s.2))
 (cond (decide (s.2 < s.1))
 (bindV ((gI blocks (s.1 - (1 : Int))).2.2) fun (one_26 : Int) =>
 .nx (one_26, s.2))
 (bindV ((gI blocks (s.2 - (1 : Int))).2.2) fun (other29 : Int) =>
 .nx (s.1, other29)))
@[reducible] def law_fork_l1_ok (blocks : List ((Int × Bool × Int))) (x : Int) (s : Int × Int) : Bool :=
 cond (decide (s.1 = s.2))
 (true)
 (cond (decide (s.2 < s.1))
 ((decide (0 ≤ (s.1 - (1 : Int))) && decide ((s.1 - (1 : Int)) < (blocks).length)) && (bindV ((gI blocks (s.1 - (1 : Int))).2.2) fun (one_26 : Int) =>
 true))
 ((decide (0 ≤ (s.2 - (1 : Int))) && decide ((s.2 - (1 : Int)) < (blocks).length)) && (bindV ((gI blocks (s.2 - (1 : Int))).2.2) fun (other29 : Int) =>
 true)))
def law_fork (blocks : List ((Int × Bool × Int))) (one_ : Int) (other : Int) : Int :=
 bindV (forL (law_fork_l1 blocks) (rng 0 (((2 : Int) * ((blocks).length : Int)) + (1 : Int))) (one_, other)).st fun (s32 : Int × Int) =>
 (law_at blocks s32.1)
def law_fork_ok (blocks : List ((Int × Bool × Int))) (one_ : Int) (other : Int) : Bool :=
 (midB (((2 : Int) * ((blocks).length : Int)) + (1 : Int)) && okL (law_fork_l1 blocks) (law_fork_l1_ok blocks) (rng 0 (((2 : Int) * ((blocks).length : Int)) + (1 : Int))) (one_, other)) && (bindV (forL (law_fork_l1 blocks) (rng 0 (((2 : Int) * ((blocks).length : Int)) + (1 : Int))) (one_, other)).st fun (s32 : Int × Int) =>
 law_at_ok blocks s32.1)

@[reducible] def law_grown_l7 (hands : (Int × Int)) (mode : List Nat) (ways : List Int) (heights : List Int) (x : Int) (s : List ((List Int × List Int))) : Step (List ((List Int × List Int))) (Unit) :=
 bindV (cutA ([(x % (3 : Int)), (x / (3 : Int))] : List Int) none (some ((ways).length : Int))) fun (deeds24 : List Int) =>
 bindV ((((rng 0 ((ways).length : Int))).filter (fun (y27 : Int) => (decide ((gI deeds24 y27) = (1 : Int))))).map (fun (y27 : Int) => ((gI ways y27) + (1 : Int)))) fun (made31 : List Int) =>
 cond ((decide (hands.1 < ((made31).length : Int))) || ((!(made31).isEmpty) && (decide ((minI made31) < (1 : Int)))))
 (.nx s)
 (cond (decide ((cond (decide (hands.2 = (0 : Int))) (0 : Int) (cond (decide (mode = ([111, 110, 99, 101] : List Nat))) (1 : Int) (2 : Int))) < (cntI deeds24 (2 : Int))))
 (.nx s)
 (bindV (cond (hands.1 != 0) (maxI (([(1 : Int)] : List Int) ++ made31)) (0 : Int)) fun (height50 : Int) =>
 bindV (heights ++ ([(maxI (([height50] : List Int) ++ (cutA heights (some (((heights).length : Int) - (1 : Int))) none)))] : List Int)) fun (row53 : List Int) =>
 bindV (((rng 0 ((ways).length : Int))).map (fun (y56 : Int) => (((gI ways y56) - (gI row53 (0 : Int))) + (cond ((gI deeds24 y56) != 0) (1 : Int) (0 : Int))))) fun (lengths62 : List Int) =>
 bindV (putN s (lengths62, (((cutA row53 (some (1 : Int)) none)).map (fun (y65 : Int) => (y65 - (gI row53 (0 : Int))))))) fun (found69 : List ((List Int × List Int))) =>
 .nx found69))
@[reducible] def law_grown_l7_ok (hands : (Int × Int)) (mode : List Nat) (ways : List Int) (heights : List Int) (x : Int) (s : List ((List Int × List Int))) : Bool :=
 bindV (cutA ([(x % (3 : Int)), (x / (3 : Int))] : List Int) none (some ((ways).length : Int))) fun (deeds24 : List Int) =>
 (midB ((ways).length : Int) && (decide (((rng 0 ((ways).length : Int))).length ≤ 1000000) && (((rng 0 ((ways).length : Int))).all (fun (y27 : Int) => (decide (0 ≤ y27) && decide (y27 < (deeds24).length))) && ((rng 0 ((ways).length : Int))).all (fun (y27 : Int) => (!(decide ((gI deeds24 y27) = (1 : Int))) || (decide (0 ≤ y27) && decide (y27 < (ways).length))))))) && (bindV ((((rng 0 ((ways).length : Int))).filter (fun (y27 : Int) => (decide ((gI deeds24 y27) = (1 : Int))))).map (fun (y27 : Int) => ((gI ways y27) + (1 : Int)))) fun (made31 : List Int) =>
 ((decide (hands.1 < ((made31).length : Int))) || (!(!(made31).isEmpty) || decide (0 < (made31).length))) && (cond ((decide (hands.1 < ((made31).length : Int))) || ((!(made31).isEmpty) && (decide ((minI made31) < (1 : Int)))))
 (true)
 (cond (decide ((cond (decide (hands.2 = (0 : Int))) (0 : Int) (cond (decide (mode = ([111, 110, 99, 101] : List Nat))) (1 : Int) (2 : Int))) < (cntI deeds24 (2 : Int))))
 (true)
 ((!(hands.1 != 0) || (decide (([(1 : Int)] : List Int).length + made31.length ≤ 1000000) && decide (0 < ((([(1 : Int)] : List Int) ++ made31)).length))) && (bindV (cond (hands.1 != 0) (maxI (([(1 : Int)] : List Int) ++ made31)) (0 : Int)) fun (height50 : Int) =>
 (decide (([height50] : List Int).length + (cutA heights (some (((heights).length : Int) - (1 : Int))) none).length ≤ 1000000) && (decide (0 < ((([height50] : List Int) ++ (cutA heights (some (((heights).length : Int) - (1 : Int))) none))).length) && decide (heights.length + ([(maxI (([height50] : List Int) ++ (cutA heights (some (((heights).length : Int) - (1 : Int))) none)))] : List Int).length ≤ 1000000))) && (bindV (heights ++ ([(maxI (([height50] : List Int) ++ (cutA heights (some (((heights).length : Int) - (1 : Int))) none)))] : List Int)) fun (row53 : List Int) =>
 (midB ((ways).length : Int) && (decide (((rng 0 ((ways).length : Int))).length ≤ 1000000) && ((rng 0 ((ways).length : Int))).all (fun (y56 : Int) => (decide (0 ≤ y56) && (decide (y56 < (ways).length) && (decide (0 ≤ (0 : Int)) && (decide ((0 : Int) < (row53).length) && (decide (0 ≤ y56) && decide (y56 < (deeds24).length))))))))) && (bindV (((rng 0 ((ways).length : Int))).map (fun (y56 : Int) => (((gI ways y56) - (gI row53 (0 : Int))) + (cond ((gI deeds24 y56) != 0) (1 : Int) (0 : Int))))) fun (lengths62 : List Int) =>
 (decide (((cutA row53 (some (1 : Int)) none)).length ≤ 1000000) && (((cutA row53 (some (1 : Int)) none)).all (fun (y65 : Int) => (decide (0 ≤ (0 : Int)) && decide ((0 : Int) < (row53).length))) && decide ((s).length < 1000000))) && (bindV (putN s (lengths62, (((cutA row53 (some (1 : Int)) none)).map (fun (y65 : Int) => (y65 - (gI row53 (0 : Int))))))) fun (found69 : List ((List Int × List Int))) =>
 true))))))))
def law_grown (hands : (Int × Int)) (mode : List Nat) (ways : List Int) (heights : List Int) : List ((List Int × List Int)) :=
 bindV ([] : List ((List Int × List Int))) fun (found2 : List ((List Int × List Int))) =>
 bindV (forL (law_grown_l7 hands mode ways heights) (rng 0 (cond (decide (((ways).length : Int) = (2 : Int))) (9 : Int) (3 : Int))) found2).st fun (s72 : List ((List Int × List Int))) =>
 s72
def law_grown_ok (hands : (Int × Int)) (mode : List Nat) (ways : List Int) (heights : List Int) : Bool :=
 bindV ([] : List ((List Int × List Int))) fun (found2 : List ((List Int × List Int))) =>
 (midB (cond (decide (((ways).length : Int) = (2 : Int))) (9 : Int) (3 : Int)) && okL (law_grown_l7 hands mode ways heights) (law_grown_l7_ok hands mode ways heights) (rng 0 (cond (decide (((ways).length : Int) = (2 : Int))) (9 : Int) (3 : Int))) found2) && (bindV (forL (law_grown_l7 hands mode ways heights) (rng 0 (cond (decide (((ways).length : Int) = (2 : Int))) (9 : Int) (3 : Int))) found2).st fun (s72 : List ((List Int × List Int))) =>
 true)


def law_sorted (found : List ((List Int × List Int))) : List ((List Int × List Int)) :=
 ((found).map (fun (y1 : (List Int × List Int)) => ((sortR y1.1), y1.2)))
def law_sorted_ok (found : List ((List Int × List Int))) : Bool :=
 (decide ((found).length ≤ 1000000) && (found).all (fun (y1 : (List Int × List Int)) => decide ((y1.1).length ≤ 1000000)))

@[reducible] def law_wins_l25 (x : (List Int × List Int)) (s : List ((List Int × List Int))) : Step (List ((List Int × List Int))) (Unit) :=
 bindV (putN s x) fun (here42 : List ((List Int × List Int))) =>
 .nx here42
@[reducible] def law_wins_l25_ok (x : (List Int × List Int)) (s : List ((List Int × List Int))) : Bool :=
 decide ((s).length < 1000000) && (bindV (putN s x) fun (here42 : List ((List Int × List Int))) =>
 true)
@[reducible] def law_wins_l76 (x : (List Int × List Int)) (s : List ((List Int × List Int))) : Step (List ((List Int × List Int))) (Unit) :=
 bindV (putN s x) fun (after93 : List ((List Int × List Int))) =>
 .nx after93
@[reducible] def law_wins_l76_ok (x : (List Int × List Int)) (s : List ((List Int × List Int))) : Bool :=
 decide ((s).length < 1000000) && (bindV (putN s x) fun (after93 : List ((List Int × List Int))) =>
 true)
@[reducible] def law_wins_l52 (first : Int) (mode : List Nat) (spot : Int) (k : Int) (hands : (Int × Int)) (x : (List Int × List Int)) (s : List ((List Int × List Int)) × List ((List Int × List Int))) : Step (List ((List Int × List Int)) × List ((List Int × List Int))) (Unit) :=
 bindV (putN s.1 (([(gI x.1 (0 : Int)), (gI x.1 (0 : Int))] : List Int), x.2)) fun (here69 : List ((List Int × List Int))) =>
 cond (decide (((first + k) + (1 : Int)) < spot))
 (bindV (forL law_wins_l76 (law_grown hands mode x.1 x.2) s.2).st fun (s96 : List ((List Int × List Int))) =>
 .nx (here69, s96))
 (.nx (here69, s.2))
@[reducible] def law_wins_l52_ok (first : Int) (mode : List Nat) (spot : Int) (k : Int) (hands : (Int × Int)) (x : (List Int × List Int)) (s : List ((List Int × List Int)) × List ((List Int × List Int))) : Bool :=
 (decide (0 ≤ (0 : Int)) && (decide ((0 : Int) < (x.1).length) && (decide (0 ≤ (0 : Int)) && (decide ((0 : Int) < (x.1).length) && decide ((s.1).length < 1000000))))) && (bindV (putN s.1 (([(gI x.1 (0 : Int)), (gI x.1 (0 : Int))] : List Int), x.2)) fun (here69 : List ((List Int × List Int))) =>
 cond (decide (((first + k) + (1 : Int)) < spot))
 ((law_grown_ok hands mode x.1 x.2 && okL law_wins_l76 law_wins_l76_ok (law_grown hands mode x.1 x.2) s.2) && (bindV (forL law_wins_l76 (law_grown hands mode x.1 x.2) s.2).st fun (s96 : List ((List Int × List Int))) =>
 true))
 (true))
@[reducible] def law_wins_l126 (least : Int) (x : (List Int × List Int)) (s : List ((List Int × List Int))) : Step (List ((List Int × List Int))) (Unit) :=
 cond (decide (least ≤ (gI x.1 (1 : Int))))
 (bindV (putN s x) fun (following147 : List ((List Int × List Int))) =>
 .nx following147)
 (.nx s)
@[reducible] def law_wins_l126_ok (least : Int) (x : (List Int × List Int)) (s : List ((List Int × List Int))) : Bool :=
 (decide (0 ≤ (1 : Int)) && decide ((1 : Int) < (x.1).length)) && (cond (decide (least ≤ (gI x.1 (1 : Int))))
 (decide ((s).length < 1000000) && (bindV (putN s x) fun (following147 : List ((List Int × List Int))) =>
 true))
 (true))
@[reducible] def law_wins_l109 (mode : List Nat) (hands : (Int × Int)) (least : Int) (x : (List Int × List Int)) (s : List ((List Int × List Int))) : Step (List ((List Int × List Int))) (Unit) :=
 bindV (forL (law_wins_l126 least) (law_sorted (law_grown hands mode x.1 x.2)) s).st fun (s150 : List ((List Int × List Int))) =>
 .nx s150
@[reducible] def law_wins_l109_ok (mode : List Nat) (hands : (Int × Int)) (least : Int) (x : (List Int × List Int)) (s : List ((List Int × List Int))) : Bool :=
 (law_grown_ok hands mode x.1 x.2 && (law_sorted_ok (law_grown hands mode x.1 x.2) && okL (law_wins_l126 least) (law_wins_l126_ok least) (law_sorted (law_grown hands mode x.1 x.2)) s)) && (bindV (forL (law_wins_l126 least) (law_sorted (law_grown hands mode x.1 x.2)) s).st fun (s150 : List ((List Int × List Int))) =>
 true)
@[reducible] def law_wins_l1 (more : List Nat) (first : Int) (mode : List Nat) (spot : Int) (x : Int) (s : List ((List Int × List Int)) × List ((List Int × List Int))) : Step (List ((List Int × List Int)) × List ((List Int × List Int))) (Unit) :=
 bindV (law_hands more (x + (1 : Int))) fun (hands18 : (Int × Int)) =>
 bindV ([] : List ((List Int × List Int))) fun (here22 : List ((List Int × List Int))) =>
 bindV (forL law_wins_l25 s.2 here22).st fun (s45 : List ((List Int × List Int))) =>
 bindV ([] : List ((List Int × List Int))) fun (after49 : List ((List Int × List Int))) =>
 bindV (forL (law_wins_l52 first mode spot x hands18) s.1 (s45, after49)).st fun (s99 : List ((List Int × List Int)) × List ((List Int × List Int))) =>
 bindV ((x + (1 : Int)) - ((more).length : Int)) fun (least102 : Int) =>
 bindV ([] : List ((List Int × List Int))) fun (following106 : List ((List Int × List Int))) =>
 bindV (forL (law_wins_l109 mode hands18 least102) s99.1 following106).st fun (s153 : List ((List Int × List Int))) =>
 bindV s99.2 fun (ones156 : List ((List Int × List Int))) =>
 bindV s153 fun (pairs159 : List ((List Int × List Int))) =>
 .nx (ones156, pairs159)
@[reducible] def law_wins_l1_ok (more : List Nat) (first : Int) (mode : List Nat) (spot : Int) (x : Int) (s : List ((List Int × List Int)) × List ((List Int × List Int))) : Bool :=
 law_hands_ok more (x + (1 : Int)) && (bindV (law_hands more (x + (1 : Int))) fun (hands18 : (Int × Int)) =>
 bindV ([] : List ((List Int × List Int))) fun (here22 : List ((List Int × List Int))) =>
 okL law_wins_l25 law_wins_l25_ok s.2 here22 && (bindV (forL law_wins_l25 s.2 here22).st fun (s45 : List ((List Int × List Int))) =>
 bindV ([] : List ((List Int × List Int))) fun (after49 : List ((List Int × List Int))) =>
 okL (law_wins_l52 first mode spot x hands18) (law_wins_l52_ok first mode spot x hands18) s.1 (s45, after49) && (bindV (forL (law_wins_l52 first mode spot x hands18) s.1 (s45, after49)).st fun (s99 : List ((List Int × List Int)) × List ((List Int × List Int))) =>
 decide ((more).length ≤ 1000000) && (bindV ((x + (1 : Int)) - ((more).length : Int)) fun (least102 : Int) =>
 bindV ([] : List ((List Int × List Int))) fun (following106 : List ((List Int × List Int))) =>
 okL (law_wins_l109 mode hands18 least102) (law_wins_l109_ok mode hands18 least102) s99.1 following106 && (bindV (forL (law_wins_l109 mode hands18 least102) s99.1 following106).st fun (s153 : List ((List Int × List Int))) =>
 bindV s99.2 fun (ones156 : List ((List Int × List Int))) =>
 bindV s153 fun (pairs159 : List ((List Int × List Int))) =>
 true)))))
def law_wins (more : List Nat) (first : Int) (mode : List Nat) (spot : Int) (ones : List ((List Int × List Int))) (pairs : List ((List Int × List Int))) : Bool :=
 bindV (forL (law_wins_l1 more first mode spot) (rng 0 ((more).length : Int)) (ones, pairs)).st fun (s162 : List ((List Int × List Int)) × List ((List Int × List Int))) =>
 (((((s162.2).map (fun (y165 : (List Int × List Int)) => (decide ((0 : Int) ≤ (gI y165.1 (1 : Int))))))).any id) || ((((s162.1).map (fun (y169 : (List Int × List Int)) => (decide ((0 : Int) ≤ (gI y169.1 (0 : Int))))))).any id))
def law_wins_ok (more : List Nat) (first : Int) (mode : List Nat) (spot : Int) (ones : List ((List Int × List Int))) (pairs : List ((List Int × List Int))) : Bool :=
 (decide ((more).length ≤ 1000000) && (midB ((more).length : Int) && okL (law_wins_l1 more first mode spot) (law_wins_l1_ok more first mode spot) (rng 0 ((more).length : Int)) (ones, pairs))) && (bindV (forL (law_wins_l1 more first mode spot) (rng 0 ((more).length : Int)) (ones, pairs)).st fun (s162 : List ((List Int × List Int)) × List ((List Int × List Int))) =>
 (decide ((s162.2).length ≤ 1000000) && ((s162.2).all (fun (y165 : (List Int × List Int)) => (decide (0 ≤ (1 : Int)) && decide ((1 : Int) < (y165.1).length))) && (((((s162.2).map (fun (y165 : (List Int × List Int)) => (decide ((0 : Int) ≤ (gI y165.1 (1 : Int))))))).any id) || (decide ((s162.1).length ≤ 1000000) && (s162.1).all (fun (y169 : (List Int × List Int)) => (decide (0 ≤ (0 : Int)) && decide ((0 : Int) < (y169.1).length))))))))


def law_false (line : List Nat) (low : Int) (high : Int) : Int :=
 ((((((cutA line (some low) (some high))).filter (fun (y1 : Nat) => (decide (y1 ∈ ([97, 98, 66] : List Nat))))).map (fun (y1 : Nat) => y1))).length : Int)
def law_false_ok (line : List Nat) (low : Int) (high : Int) : Bool :=
 (decide ((line).length ≤ 1000000) && decide (((cutA line (some low) (some high))).length ≤ 1000000))

@[reducible] def law_stands_l21 (line : List Nat) (mode : List Nat) (blocks : List ((Int × Bool × Int))) (when : Int) (deeps : List Int) (low : Int) (x : Int) (s : List ((Int × Int))) : Step (List ((Int × Int))) (Unit) :=
 cond (decide (mode = ([111, 110, 99, 101] : List Nat)))
 (bindV (s ++ [(x, ((gI deeps x) - low))]) fun (ends42 : List ((Int × Int))) =>
 .nx ends42)
 (cond ((decide (x = (0 : Int))) || (gI blocks (x - (1 : Int))).2.1)
 (bindV (s ++ [(x, (((gI deeps x) - low) + (law_false line (law_at blocks x) when)))]) fun (ends50 : List ((Int × Int))) =>
 .nx ends50)
 (.nx s))
@[reducible] def law_stands_l21_ok (line : List Nat) (mode : List Nat) (blocks : List ((Int × Bool × Int))) (when : Int) (deeps : List Int) (low : Int) (x : Int) (s : List ((Int × Int))) : Bool :=
 cond (decide (mode = ([111, 110, 99, 101] : List Nat)))
 ((decide (0 ≤ x) && (decide (x < (deeps).length) && decide ((s).length < 1000000))) && (bindV (s ++ [(x, ((gI deeps x) - low))]) fun (ends42 : List ((Int × Int))) =>
 true))
 (((decide (x = (0 : Int))) || (decide (0 ≤ (x - (1 : Int))) && decide ((x - (1 : Int)) < (blocks).length))) && (cond ((decide (x = (0 : Int))) || (gI blocks (x - (1 : Int))).2.1)
 ((decide (0 ≤ x) && (decide (x < (deeps).length) && (law_at_ok blocks x && (law_false_ok line (law_at blocks x) when && decide ((s).length < 1000000))))) && (bindV (s ++ [(x, (((gI deeps x) - low) + (law_false line (law_at blocks x) when)))]) fun (ends50 : List ((Int × Int))) =>
 true))
 (true)))
@[reducible] def law_stands_l77 (blocks : List ((Int × Bool × Int))) (spot : Int) (tall : List Int) (one_ : (Int × Int)) (x : (Int × Int)) (s : List ((List Int × List Int))) : Step (List ((List Int × List Int))) (Unit) :=
 cond ((decide (x.2 ≤ one_.2)) && (decide ((law_fork blocks one_.1 x.1) < spot)))
 (bindV (putN s (([one_.2, x.2] : List Int), tall)) fun (pairs99 : List ((List Int × List Int))) =>
 .nx pairs99)
 (.nx s)
@[reducible] def law_stands_l77_ok (blocks : List ((Int × Bool × Int))) (spot : Int) (tall : List Int) (one_ : (Int × Int)) (x : (Int × Int)) (s : List ((List Int × List Int))) : Bool :=
 (!(decide (x.2 ≤ one_.2)) || law_fork_ok blocks one_.1 x.1) && (cond ((decide (x.2 ≤ one_.2)) && (decide ((law_fork blocks one_.1 x.1) < spot)))
 (decide ((s).length < 1000000) && (bindV (putN s (([one_.2, x.2] : List Int), tall)) fun (pairs99 : List ((List Int × List Int))) =>
 true))
 (true))
@[reducible] def law_stands_l60 (blocks : List ((Int × Bool × Int))) (spot : Int) (tall : List Int) (ends : List ((Int × Int))) (x : (Int × Int)) (s : List ((List Int × List Int))) : Step (List ((List Int × List Int))) (Unit) :=
 bindV (forL (law_stands_l77 blocks spot tall x) ends s).st fun (s102 : List ((List Int × List Int))) =>
 .nx s102
@[reducible] def law_stands_l60_ok (blocks : List ((Int × Bool × Int))) (spot : Int) (tall : List Int) (ends : List ((Int × Int))) (x : (Int × Int)) (s : List ((List Int × List Int))) : Bool :=
 okL (law_stands_l77 blocks spot tall x) (law_stands_l77_ok blocks spot tall x) ends s && (bindV (forL (law_stands_l77 blocks spot tall x) ends s).st fun (s102 : List ((List Int × List Int))) =>
 true)
@[reducible] def law_stands_l112 (spot : Int) (when : Int) (tall : List Int) (x : (Int × Int)) (s : List ((List Int × List Int))) : Step (List ((List Int × List Int))) (Unit) :=
 cond (decide (when < spot))
 (bindV (putN s (([x.2] : List Int), tall)) fun (ones133 : List ((List Int × List Int))) =>
 .nx ones133)
 (.nx s)
@[reducible] def law_stands_l112_ok (spot : Int) (when : Int) (tall : List Int) (x : (Int × Int)) (s : List ((List Int × List Int))) : Bool :=
 cond (decide (when < spot))
 (decide ((s).length < 1000000) && (bindV (putN s (([x.2] : List Int), tall)) fun (ones133 : List ((List Int × List Int))) =>
 true))
 (true)
def law_stands (line : List Nat) (mode : List Nat) (late : Int) (blocks : List ((Int × Bool × Int))) (spot : Int) : List (List ((List Int × List Int))) :=
 bindV ((line).length : Int) fun (when1 : Int) =>
 bindV (law_deeps blocks) fun (deeps4 : List Int) =>
 bindV (law_known blocks late when1) fun (low7 : Int) =>
 bindV (((rng (1 : Int) (late + (1 : Int)))).map (fun (y10 : Int) => ((law_known blocks (late - y10) when1) - low7))) fun (tall14 : List Int) =>
 bindV ([] : List ((Int × Int))) fun (ends18 : List ((Int × Int))) =>
 bindV (forL (law_stands_l21 line mode blocks when1 deeps4 low7) (rng 0 (((blocks).length : Int) + (1 : Int))) ends18).st fun (s53 : List ((Int × Int))) =>
 bindV ([] : List ((List Int × List Int))) fun (pairs57 : List ((List Int × List Int))) =>
 bindV (forL (law_stands_l60 blocks spot tall14 s53) s53 pairs57).st fun (s105 : List ((List Int × List Int))) =>
 bindV ([] : List ((List Int × List Int))) fun (ones109 : List ((List Int × List Int))) =>
 bindV (forL (law_stands_l112 spot when1 tall14) s53 ones109).st fun (s136 : List ((List Int × List Int))) =>
 ([s136, s105] : List (List ((List Int × List Int))))
def law_stands_ok (line : List Nat) (mode : List Nat) (late : Int) (blocks : List ((Int × Bool × Int))) (spot : Int) : Bool :=
 decide ((line).length ≤ 1000000) && (bindV ((line).length : Int) fun (when1 : Int) =>
 law_deeps_ok blocks && (bindV (law_deeps blocks) fun (deeps4 : List Int) =>
 law_known_ok blocks late when1 && (bindV (law_known blocks late when1) fun (low7 : Int) =>
 (midB (1 : Int) && (midB (late + (1 : Int)) && (decide (((rng (1 : Int) (late + (1 : Int)))).length ≤ 1000000) && ((rng (1 : Int) (late + (1 : Int)))).all (fun (y10 : Int) => law_known_ok blocks (late - y10) when1)))) && (bindV (((rng (1 : Int) (late + (1 : Int)))).map (fun (y10 : Int) => ((law_known blocks (late - y10) when1) - low7))) fun (tall14 : List Int) =>
 bindV ([] : List ((Int × Int))) fun (ends18 : List ((Int × Int))) =>
 (midB (((blocks).length : Int) + (1 : Int)) && okL (law_stands_l21 line mode blocks when1 deeps4 low7) (law_stands_l21_ok line mode blocks when1 deeps4 low7) (rng 0 (((blocks).length : Int) + (1 : Int))) ends18) && (bindV (forL (law_stands_l21 line mode blocks when1 deeps4 low7) (rng 0 (((blocks).length : Int) + (1 : Int))) ends18).st fun (s53 : List ((Int × Int))) =>
 bindV ([] : List ((List Int × List Int))) fun (pairs57 : List ((List Int × List Int))) =>
 okL (law_stands_l60 blocks spot tall14 s53) (law_stands_l60_ok blocks spot tall14 s53) s53 pairs57 && (bindV (forL (law_stands_l60 blocks spot tall14 s53) s53 pairs57).st fun (s105 : List ((List Int × List Int))) =>
 bindV ([] : List ((List Int × List Int))) fun (ones109 : List ((List Int × List Int))) =>
 okL (law_stands_l112 spot when1 tall14) (law_stands_l112_ok spot when1 tall14) s53 ones109 && (bindV (forL (law_stands_l112 spot when1 tall14) s53 ones109).st fun (s136 : List ((List Int × List Int))) =>
 true)))))))


def law_serves (line : List Nat) (cut : Int) (mode : List Nat) (late : Int) (blocks : List ((Int × Bool × Int))) (spot : Int) : Bool :=
 bindV (gI (law_stands (cutA line none (some cut)) mode late blocks spot) 0, gI (law_stands (cutA line none (some cut)) mode late blocks spot) 1) fun (u1 : (List ((List Int × List Int)) × List ((List Int × List Int)))) =>
 (law_wins (cutA line (some cut) none) cut mode spot u1.1 u1.2)
def law_serves_ok (line : List Nat) (cut : Int) (mode : List Nat) (late : Int) (blocks : List ((Int × Bool × Int))) (spot : Int) : Bool :=
 (decide ((line).length ≤ 1000000) && (law_stands_ok (cutA line none (some cut)) mode late blocks spot && decide (((law_stands (cutA line none (some cut)) mode late blocks spot)).length = 2))) && (bindV (gI (law_stands (cutA line none (some cut)) mode late blocks spot) 0, gI (law_stands (cutA line none (some cut)) mode late blocks spot) 1) fun (u1 : (List ((List Int × List Int)) × List ((List Int × List Int)))) =>
 (decide ((line).length ≤ 1000000) && law_wins_ok (cutA line (some cut) none) cut mode spot u1.1 u1.2))

@[reducible] def law_works_l43 (deeps : List Int) (low : Int) (k : Int) (x : Int) (s : List ((Int × Int))) : Step (List ((Int × Int))) (Unit) :=
 cond (decide (low ≤ ((gI deeps k) + x)))
 (bindV (s ++ [(k, x)]) fun (found64 : List ((Int × Int))) =>
 .nx found64)
 (.nx s)
@[reducible] def law_works_l43_ok (deeps : List Int) (low : Int) (k : Int) (x : Int) (s : List ((Int × Int))) : Bool :=
 (decide (0 ≤ k) && decide (k < (deeps).length)) && (cond (decide (low ≤ ((gI deeps k) + x)))
 (decide ((s).length < 1000000) && (bindV (s ++ [(k, x)]) fun (found64 : List ((Int × Int))) =>
 true))
 (true))
@[reducible] def law_works_j37 (x : Int) (s : List ((Int × Int))) (deeps : List Int) (low : Int) (found : List ((Int × Int))) (k : Int) (s : Int) : Step (List ((Int × Int))) (Unit) :=
 bindV (forL (law_works_l43 deeps low k) (rng 0 (s + (1 : Int))) found).st fun (s67 : List ((Int × Int))) =>
 .nx s67
@[reducible] def law_works_j37_ok (x : Int) (s : List ((Int × Int))) (deeps : List Int) (low : Int) (found : List ((Int × Int))) (k : Int) (s : Int) : Bool :=
 (midB (s + (1 : Int)) && okL (law_works_l43 deeps low k) (law_works_l43_ok deeps low k) (rng 0 (s + (1 : Int))) found) && (bindV (forL (law_works_l43 deeps low k) (rng 0 (s + (1 : Int))) found).st fun (s67 : List ((Int × Int))) =>
 true)
@[reducible] def law_works_l11 (line : List Nat) (spot : Int) (mode : List Nat) (blocks : List ((Int × Bool × Int))) (deeps : List Int) (low : Int) (x : Int) (s : List ((Int × Int))) : Step (List ((Int × Int))) (Unit) :=
 bindV (0 : Int) fun (much28 : Int) =>
 cond (decide (mode = ([109, 97, 110, 121] : List Nat)))
 (cond ((x != 0) && (!(gI blocks (x - (1 : Int))).2.1))
 (.nx s)
 (bindV (law_false line (law_at blocks x) (spot - (1 : Int))) fun (much77 : Int) =>
 law_works_j37 x s deeps low s x much77))
 (law_works_j37 x s deeps low s x much28)
@[reducible] def law_works_l11_ok (line : List Nat) (spot : Int) (mode : List Nat) (blocks : List ((Int × Bool × Int))) (deeps : List Int) (low : Int) (x : Int) (s : List ((Int × Int))) : Bool :=
 bindV (0 : Int) fun (much28 : Int) =>
 cond (decide (mode = ([109, 97, 110, 121] : List Nat)))
 ((!(x != 0) || (decide (0 ≤ (x - (1 : Int))) && decide ((x - (1 : Int)) < (blocks).length))) && (cond ((x != 0) && (!(gI blocks (x - (1 : Int))).2.1))
 (true)
 ((law_at_ok blocks x && law_false_ok line (law_at blocks x) (spot - (1 : Int))) && (bindV (law_false line (law_at blocks x) (spot - (1 : Int))) fun (much77 : Int) =>
 law_works_j37_ok x s deeps low s x much77))))
 (law_works_j37_ok x s deeps low s x much28)
def law_works (line : List Nat) (spot : Int) (mode : List Nat) (late : Int) (blocks : List ((Int × Bool × Int))) : List ((Int × Int)) :=
 bindV (law_deeps blocks) fun (deeps1 : List Int) =>
 bindV (law_known blocks late (spot - (1 : Int))) fun (low4 : Int) =>
 bindV ([] : List ((Int × Int))) fun (found8 : List ((Int × Int))) =>
 bindV (forL (law_works_l11 line spot mode blocks deeps1 low4) (rng 0 (((blocks).length : Int) + (1 : Int))) found8).st fun (s80 : List ((Int × Int))) =>
 s80
def law_works_ok (line : List Nat) (spot : Int) (mode : List Nat) (late : Int) (blocks : List ((Int × Bool × Int))) : Bool :=
 law_deeps_ok blocks && (bindV (law_deeps blocks) fun (deeps1 : List Int) =>
 law_known_ok blocks late (spot - (1 : Int)) && (bindV (law_known blocks late (spot - (1 : Int))) fun (low4 : Int) =>
 bindV ([] : List ((Int × Int))) fun (found8 : List ((Int × Int))) =>
 (midB (((blocks).length : Int) + (1 : Int)) && okL (law_works_l11 line spot mode blocks deeps1 low4) (law_works_l11_ok line spot mode blocks deeps1 low4) (rng 0 (((blocks).length : Int) + (1 : Int))) found8) && (bindV (forL (law_works_l11 line spot mode blocks deeps1 low4) (rng 0 (((blocks).length : Int) + (1 : Int))) found8).st fun (s80 : List ((Int × Int))) =>
 true)))

@[reducible] def law_more_l36 (x : Int) (s : List ((Int × Bool × Int)) × Int) : Step (List ((Int × Bool × Int)) × Int) (Unit) :=
 bindV (s.1 ++ [(x, false, s.2)]) fun (found53 : List ((Int × Bool × Int))) =>
 bindV ((found53).length : Int) fun (tip56 : Int) =>
 .nx (found53, tip56)
@[reducible] def law_more_l36_ok (x : Int) (s : List ((Int × Bool × Int)) × Int) : Bool :=
 decide ((s.1).length < 1000000) && (bindV (s.1 ++ [(x, false, s.2)]) fun (found53 : List ((Int × Bool × Int))) =>
 bindV ((found53).length : Int) fun (tip56 : Int) =>
 true)
@[reducible] def law_more_l9 (line : List Nat) (spot : Int) (blocks : List ((Int × Bool × Int))) (x : (Int × Int)) (s : List ((Int × Bool × Int))) : Step (List ((Int × Bool × Int))) (Unit) :=
 bindV (cutA ((((rng ((law_at blocks x.1) + (1 : Int)) spot)).filter (fun (y26 : Int) => (decide ((gI line (y26 - (1 : Int))) ∈ ([97, 98, 66] : List Nat))))).map (fun (y26 : Int) => y26)) none (some x.2)) fun (slots30 : List Int) =>
 bindV x.1 fun (tip33 : Int) =>
 bindV (forL law_more_l36 slots30 (s, tip33)).st fun (s59 : List ((Int × Bool × Int)) × Int) =>
 bindV (s59.1 ++ [(spot, true, s59.2)]) fun (found62 : List ((Int × Bool × Int))) =>
 .nx found62
@[reducible] def law_more_l9_ok (line : List Nat) (spot : Int) (blocks : List ((Int × Bool × Int))) (x : (Int × Int)) (s : List ((Int × Bool × Int))) : Bool :=
 (law_at_ok blocks x.1 && (midB ((law_at blocks x.1) + (1 : Int)) && (midB spot && (decide (((rng ((law_at blocks x.1) + (1 : Int)) spot)).length ≤ 1000000) && ((rng ((law_at blocks x.1) + (1 : Int)) spot)).all (fun (y26 : Int) => (decide (0 ≤ (y26 - (1 : Int))) && (decide ((y26 - (1 : Int)) < (line).length) && decide ((line).length ≤ 1000000)))))))) && (bindV (cutA ((((rng ((law_at blocks x.1) + (1 : Int)) spot)).filter (fun (y26 : Int) => (decide ((gI line (y26 - (1 : Int))) ∈ ([97, 98, 66] : List Nat))))).map (fun (y26 : Int) => y26)) none (some x.2)) fun (slots30 : List Int) =>
 bindV x.1 fun (tip33 : Int) =>
 okL law_more_l36 law_more_l36_ok slots30 (s, tip33) && (bindV (forL law_more_l36 slots30 (s, tip33)).st fun (s59 : List ((Int × Bool × Int)) × Int) =>
 decide ((s59.1).length < 1000000) && (bindV (s59.1 ++ [(spot, true, s59.2)]) fun (found62 : List ((Int × Bool × Int))) =>
 true)))
def law_more (line : List Nat) (spot : Int) (blocks : List ((Int × Bool × Int))) (works : List ((Int × Int))) : List ((Int × Bool × Int)) :=
 bindV ((blocks).map (fun (y2 : (Int × Bool × Int)) => y2)) fun (found6 : List ((Int × Bool × Int))) =>
 bindV (forL (law_more_l9 line spot blocks) works found6).st fun (s65 : List ((Int × Bool × Int))) =>
 s65
def law_more_ok (line : List Nat) (spot : Int) (blocks : List ((Int × Bool × Int))) (works : List ((Int × Int))) : Bool :=
 decide ((blocks).length ≤ 1000000) && (bindV ((blocks).map (fun (y2 : (Int × Bool × Int)) => y2)) fun (found6 : List ((Int × Bool × Int))) =>
 okL (law_more_l9 line spot blocks) (law_more_l9_ok line spot blocks) works found6 && (bindV (forL (law_more_l9 line spot blocks) works found6).st fun (s65 : List ((Int × Bool × Int))) =>
 true))

@[reducible] def law_branches_j27 (s : List (List ((Int × Bool × Int)))) : List (List ((Int × Bool × Int))) :=
 s
@[reducible] def law_branches_j27_ok (s : List (List ((Int × Bool × Int)))) : Bool :=
 true
@[reducible] def law_branches_l59 (spot : Int) (tree : List ((Int × Bool × Int))) (x : Int) (s : List (List ((Int × Bool × Int)))) : Step (List (List ((Int × Bool × Int)))) (Unit) :=
 bindV (s ++ [(tree ++ ([(spot, false, x)] : List ((Int × Bool × Int))))]) fun (wide76 : List (List ((Int × Bool × Int)))) =>
 .nx wide76
@[reducible] def law_branches_l59_ok (spot : Int) (tree : List ((Int × Bool × Int))) (x : Int) (s : List (List ((Int × Bool × Int)))) : Bool :=
 (decide (tree.length + ([(spot, false, x)] : List ((Int × Bool × Int))).length ≤ 1000000) && decide ((s).length < 1000000)) && (bindV (s ++ [(tree ++ ([(spot, false, x)] : List ((Int × Bool × Int))))]) fun (wide76 : List (List ((Int × Bool × Int)))) =>
 true)
@[reducible] def law_branches_l39 (spot : Int) (blocks : List ((Int × Bool × Int))) (x : List ((Int × Bool × Int))) (s : List (List ((Int × Bool × Int)))) : Step (List (List ((Int × Bool × Int)))) (Unit) :=
 bindV (s ++ [x]) fun (wide56 : List (List ((Int × Bool × Int)))) =>
 bindV (forL (law_branches_l59 spot x) (rng 0 (((blocks).length : Int) + (1 : Int))) wide56).st fun (s79 : List (List ((Int × Bool × Int)))) =>
 .nx s79
@[reducible] def law_branches_l39_ok (spot : Int) (blocks : List ((Int × Bool × Int))) (x : List ((Int × Bool × Int))) (s : List (List ((Int × Bool × Int)))) : Bool :=
 decide ((s).length < 1000000) && (bindV (s ++ [x]) fun (wide56 : List (List ((Int × Bool × Int)))) =>
 (midB (((blocks).length : Int) + (1 : Int)) && okL (law_branches_l59 spot x) (law_branches_l59_ok spot x) (rng 0 (((blocks).length : Int) + (1 : Int))) wide56) && (bindV (forL (law_branches_l59 spot x) (rng 0 (((blocks).length : Int) + (1 : Int))) wide56).st fun (s79 : List (List ((Int × Bool × Int)))) =>
 true))
@[reducible] def law_branches_j14 (spot : Int) (mode : List Nat) (blocks : List ((Int × Bool × Int))) (hands : (Int × Int)) (s : List (List ((Int × Bool × Int)))) : List (List ((Int × Bool × Int))) :=
 cond ((hands.2 != 0) && (decide (mode = ([111, 110, 99, 101] : List Nat))))
 (bindV ([] : List (List ((Int × Bool × Int)))) fun (wide36 : List (List ((Int × Bool × Int)))) =>
 bindV (forL (law_branches_l39 spot blocks) s wide36).st fun (s82 : List (List ((Int × Bool × Int)))) =>
 bindV s82 fun (found85 : List (List ((Int × Bool × Int)))) =>
 law_branches_j27 found85)
 (law_branches_j27 s)
@[reducible] def law_branches_j14_ok (spot : Int) (mode : List Nat) (blocks : List ((Int × Bool × Int))) (hands : (Int × Int)) (s : List (List ((Int × Bool × Int)))) : Bool :=
 cond ((hands.2 != 0) && (decide (mode = ([111, 110, 99, 101] : List Nat))))
 (bindV ([] : List (List ((Int × Bool × Int)))) fun (wide36 : List (List ((Int × Bool × Int)))) =>
 okL (law_branches_l39 spot blocks) (law_branches_l39_ok spot blocks) s wide36 && (bindV (forL (law_branches_l39 spot blocks) s wide36).st fun (s82 : List (List ((Int × Bool × Int)))) =>
 bindV s82 fun (found85 : List (List ((Int × Bool × Int)))) =>
 law_branches_j27_ok found85))
 (law_branches_j27_ok s)
@[reducible] def law_branches_l126 (line : List Nat) (spot : Int) (blocks : List ((Int × Bool × Int))) (one_ : (Int × Int)) (x : (Int × Int)) (s : List (List ((Int × Bool × Int)))) : Step (List (List ((Int × Bool × Int)))) (Unit) :=
 cond (leII one_ x)
 (bindV (s ++ [(law_more line spot blocks ([one_, x] : List ((Int × Int))))]) fun (found147 : List (List ((Int × Bool × Int)))) =>
 .nx found147)
 (.nx s)
@[reducible] def law_branches_l126_ok (line : List Nat) (spot : Int) (blocks : List ((Int × Bool × Int))) (one_ : (Int × Int)) (x : (Int × Int)) (s : List (List ((Int × Bool × Int)))) : Bool :=
 cond (leII one_ x)
 ((law_more_ok line spot blocks ([one_, x] : List ((Int × Int))) && decide ((s).length < 1000000)) && (bindV (s ++ [(law_more line spot blocks ([one_, x] : List ((Int × Int))))]) fun (found147 : List (List ((Int × Bool × Int)))) =>
 true))
 (true)
@[reducible] def law_branches_l109 (line : List Nat) (spot : Int) (blocks : List ((Int × Bool × Int))) (works : List ((Int × Int))) (x : (Int × Int)) (s : List (List ((Int × Bool × Int)))) : Step (List (List ((Int × Bool × Int)))) (Unit) :=
 bindV (forL (law_branches_l126 line spot blocks x) works s).st fun (s150 : List (List ((Int × Bool × Int)))) =>
 .nx s150
@[reducible] def law_branches_l109_ok (line : List Nat) (spot : Int) (blocks : List ((Int × Bool × Int))) (works : List ((Int × Int))) (x : (Int × Int)) (s : List (List ((Int × Bool × Int)))) : Bool :=
 okL (law_branches_l126 line spot blocks x) (law_branches_l126_ok line spot blocks x) works s && (bindV (forL (law_branches_l126 line spot blocks x) works s).st fun (s150 : List (List ((Int × Bool × Int)))) =>
 true)
def law_branches (line : List Nat) (spot : Int) (mode : List Nat) (late : Int) (blocks : List ((Int × Bool × Int))) : List (List ((Int × Bool × Int))) :=
 bindV (law_hands line spot) fun (hands1 : (Int × Int)) =>
 bindV ([blocks] : List (List ((Int × Bool × Int)))) fun (found5 : List (List ((Int × Bool × Int)))) =>
 cond (hands1.1 != 0)
 (bindV (law_works line spot mode late blocks) fun (works90 : List ((Int × Int))) =>
 cond (decide (hands1.1 = (1 : Int)))
 (bindV ((works90).map (fun (y98 : (Int × Int)) => (law_more line spot blocks ([y98] : List ((Int × Int)))))) fun (found102 : List (List ((Int × Bool × Int)))) =>
 law_branches_j14 spot mode blocks hands1 found102)
 (bindV ([] : List (List ((Int × Bool × Int)))) fun (found106 : List (List ((Int × Bool × Int)))) =>
 bindV (forL (law_branches_l109 line spot blocks works90) works90 found106).st fun (s153 : List (List ((Int × Bool × Int)))) =>
 law_branches_j14 spot mode blocks hands1 s153))
 (law_branches_j14 spot mode blocks hands1 found5)
def law_branches_ok (line : List Nat) (spot : Int) (mode : List Nat) (late : Int) (blocks : List ((Int × Bool × Int))) : Bool :=
 law_hands_ok line spot && (bindV (law_hands line spot) fun (hands1 : (Int × Int)) =>
 bindV ([blocks] : List (List ((Int × Bool × Int)))) fun (found5 : List (List ((Int × Bool × Int)))) =>
 cond (hands1.1 != 0)
 (law_works_ok line spot mode late blocks && (bindV (law_works line spot mode late blocks) fun (works90 : List ((Int × Int))) =>
 cond (decide (hands1.1 = (1 : Int)))
 ((decide ((works90).length ≤ 1000000) && (works90).all (fun (y98 : (Int × Int)) => law_more_ok line spot blocks ([y98] : List ((Int × Int))))) && (bindV ((works90).map (fun (y98 : (Int × Int)) => (law_more line spot blocks ([y98] : List ((Int × Int)))))) fun (found102 : List (List ((Int × Bool × Int)))) =>
 law_branches_j14_ok spot mode blocks hands1 found102))
 (bindV ([] : List (List ((Int × Bool × Int)))) fun (found106 : List (List ((Int × Bool × Int)))) =>
 okL (law_branches_l109 line spot blocks works90) (law_branches_l109_ok line spot blocks works90) works90 found106 && (bindV (forL (law_branches_l109 line spot blocks works90) works90 found106).st fun (s153 : List (List ((Int × Bool × Int)))) =>
 law_branches_j14_ok spot mode blocks hands1 s153))))
 (law_branches_j14_ok spot mode blocks hands1 found5))

@[reducible] def law_miss_l4 (one_ : List Nat) (other : List Nat) (x : Int) (s : Int) : Step (Int) (Unit) :=
 cond (decide ((cutA one_ none (some (x + (1 : Int)))) = (cutA other none (some (x + (1 : Int))))))
 (bindV (x + (1 : Int)) fun (common25 : Int) =>
 .nx common25)
 (.nx s)
@[reducible] def law_miss_l4_ok (one_ : List Nat) (other : List Nat) (x : Int) (s : Int) : Bool :=
 (decide ((one_).length ≤ 1000000) && decide ((other).length ≤ 1000000)) && (cond (decide ((cutA one_ none (some (x + (1 : Int)))) = (cutA other none (some (x + (1 : Int))))))
 (bindV (x + (1 : Int)) fun (common25 : Int) =>
 true)
 (true))
@[reducible] def law_miss_l71 (mode : List Nat) (late : Int) (one_ : List Nat) (first : Int) (other : List Nat) (second : Int) (spot : Int) (x : List ((Int × Bool × Int))) (s : List ((Int × List ((Int × Bool × Int)))) × Int) : Step (List ((Int × List ((Int × Bool × Int)))) × Int) (Bool) :=
 bindV (s.2 + (1 : Int)) fun (looks88 : Int) =>
 cond (decide ((400 : Int) < looks88))
 (.rt true)
 (cond ((law_serves one_ (spot + (1 : Int)) mode late x first) && (law_serves other (spot + (1 : Int)) mode late x second))
 (bindV (s.1 ++ [((spot + (1 : Int)), x)]) fun (stack100 : List ((Int × List ((Int × Bool × Int))))) =>
 .nx (stack100, looks88))
 (.nx (s.1, looks88)))
@[reducible] def law_miss_l71_ok (mode : List Nat) (late : Int) (one_ : List Nat) (first : Int) (other : List Nat) (second : Int) (spot : Int) (x : List ((Int × Bool × Int))) (s : List ((Int × List ((Int × Bool × Int)))) × Int) : Bool :=
 bindV (s.2 + (1 : Int)) fun (looks88 : Int) =>
 cond (decide ((400 : Int) < looks88))
 (true)
 ((law_serves_ok one_ (spot + (1 : Int)) mode late x first && (!(law_serves one_ (spot + (1 : Int)) mode late x first) || law_serves_ok other (spot + (1 : Int)) mode late x second)) && (cond ((law_serves one_ (spot + (1 : Int)) mode late x first) && (law_serves other (spot + (1 : Int)) mode late x second))
 (decide ((s.1).length < 1000000) && (bindV (s.1 ++ [((spot + (1 : Int)), x)]) fun (stack100 : List ((Int × List ((Int × Bool × Int))))) =>
 true))
 (true)))
@[reducible] def law_miss_l42 (mode : List Nat) (late : Int) (one_ : List Nat) (first : Int) (other : List Nat) (second : Int) (common : Int) (x : Int) (s : List ((Int × List ((Int × Bool × Int)))) × Int) : Step (List ((Int × List ((Int × Bool × Int)))) × Int) (Bool) :=
 cond ((s.1).isEmpty)
 (.rt true)
 (bindV (lastI s.1) fun (u63 : (Int × List ((Int × Bool × Int)))) =>
 bindV (s.1).dropLast fun (stack64 : List ((Int × List ((Int × Bool × Int))))) =>
 cond (decide (u63.1 = common))
 (.rt false)
 (Step.fin Step.rt (forL (law_miss_l71 mode late one_ first other second u63.1) (law_branches one_ (u63.1 + (1 : Int)) mode late u63.2) (stack64, s.2)) fun (s103 : List ((Int × List ((Int × Bool × Int)))) × Int) =>
 .nx (s103.1, s103.2)))
@[reducible] def law_miss_l42_ok (mode : List Nat) (late : Int) (one_ : List Nat) (first : Int) (other : List Nat) (second : Int) (common : Int) (x : Int) (s : List ((Int × List ((Int × Bool × Int)))) × Int) : Bool :=
 cond ((s.1).isEmpty)
 (true)
 ((!(s.1).isEmpty) && (bindV (lastI s.1) fun (u63 : (Int × List ((Int × Bool × Int)))) =>
 bindV (s.1).dropLast fun (stack64 : List ((Int × List ((Int × Bool × Int))))) =>
 cond (decide (u63.1 = common))
 (true)
 ((law_branches_ok one_ (u63.1 + (1 : Int)) mode late u63.2 && okL (law_miss_l71 mode late one_ first other second u63.1) (law_miss_l71_ok mode late one_ first other second u63.1) (law_branches one_ (u63.1 + (1 : Int)) mode late u63.2) (stack64, s.2)) && (Step.finB (forL (law_miss_l71 mode late one_ first other second u63.1) (law_branches one_ (u63.1 + (1 : Int)) mode late u63.2) (stack64, s.2)) fun (s103 : List ((Int × List ((Int × Bool × Int)))) × Int) =>
 true))))
def law_miss (mode : List Nat) (late : Int) (one_ : List Nat) (first : Int) (other : List Nat) (second : Int) : Bool :=
 bindV (0 : Int) fun (common1 : Int) =>
 bindV (forL (law_miss_l4 one_ other) (rng 0 (min ((one_).length : Int) ((other).length : Int))) common1).st fun (s28 : Int) =>
 cond (decide (one_ = other))
 (false)
 (bindV ([((0 : Int), ([] : List ((Int × Bool × Int))))] : List ((Int × List ((Int × Bool × Int))))) fun (stack36 : List ((Int × List ((Int × Bool × Int))))) =>
 bindV (0 : Int) fun (looks39 : Int) =>
 Step.fin id (forL (law_miss_l42 mode late one_ first other second s28) (rng 0 (200 : Int)) (stack36, looks39)) fun (s106 : List ((Int × List ((Int × Bool × Int)))) × Int) =>
 true)
def law_miss_ok (mode : List Nat) (late : Int) (one_ : List Nat) (first : Int) (other : List Nat) (second : Int) : Bool :=
 bindV (0 : Int) fun (common1 : Int) =>
 (decide ((one_).length ≤ 1000000) && (decide ((other).length ≤ 1000000) && (midB (min ((one_).length : Int) ((other).length : Int)) && okL (law_miss_l4 one_ other) (law_miss_l4_ok one_ other) (rng 0 (min ((one_).length : Int) ((other).length : Int))) common1))) && (bindV (forL (law_miss_l4 one_ other) (rng 0 (min ((one_).length : Int) ((other).length : Int))) common1).st fun (s28 : Int) =>
 cond (decide (one_ = other))
 (true)
 (bindV ([((0 : Int), ([] : List ((Int × Bool × Int))))] : List ((Int × List ((Int × Bool × Int))))) fun (stack36 : List ((Int × List ((Int × Bool × Int))))) =>
 bindV (0 : Int) fun (looks39 : Int) =>
 (midB (200 : Int) && okL (law_miss_l42 mode late one_ first other second s28) (law_miss_l42_ok mode late one_ first other second s28) (rng 0 (200 : Int)) (stack36, looks39)) && (Step.finB (forL (law_miss_l42 mode late one_ first other second s28) (rng 0 (200 : Int)) (stack36, looks39)) fun (s106 : List ((Int × List ((Int × Bool × Int)))) × Int) =>
 true)))


def law_open (line : List Nat) (mode : List Nat) (late : Int) (spot : Int) : Bool :=
 cond ((decide (spot < (1 : Int))) || (decide ((((line).length : Int) + (1 : Int)) < spot)))
 (false)
 ((law_serves line (0 : Int) mode late ([] : List ((Int × Bool × Int))) spot))
def law_open_ok (line : List Nat) (mode : List Nat) (late : Int) (spot : Int) : Bool :=
 ((decide (spot < (1 : Int))) || decide ((line).length ≤ 1000000)) && (cond ((decide (spot < (1 : Int))) || (decide ((((line).length : Int) + (1 : Int)) < spot)))
 (true)
 (law_serves_ok line (0 : Int) mode late ([] : List ((Int × Bool × Int))) spot))


def law_number (item : Int) : Bool :=
 (true && (!false))
def law_number_ok (item : Int) : Bool :=
 true

@[reducible] def law_right_l16 (x : List Nat) (s : Unit) : Step (Unit) (Bool) :=
 cond ((!true) || ((decide ((10 : Int) < ((x).length : Int))) || ((((x).map (fun (y33 : Nat) => (!(decide (y33 ∈ ([46, 104, 72, 97, 98, 66] : List Nat))))))).any id)))
 (.rt false)
 (cond (decide ((4 : Int) < (((((rng (1 : Int) (((x).length : Int) + (1 : Int)))).map (fun (y43 : Int) => (law_hands x y43).1))).sum)))
 (.rt false)
 (.nx ()))
@[reducible] def law_right_l16_ok (x : List Nat) (s : Unit) : Bool :=
 ((!true) || (decide ((x).length ≤ 1000000) && ((decide ((10 : Int) < ((x).length : Int))) || decide ((x).length ≤ 1000000)))) && (cond ((!true) || ((decide ((10 : Int) < ((x).length : Int))) || ((((x).map (fun (y33 : Nat) => (!(decide (y33 ∈ ([46, 104, 72, 97, 98, 66] : List Nat))))))).any id)))
 (true)
 ((decide ((x).length ≤ 1000000) && (midB (1 : Int) && (midB (((x).length : Int) + (1 : Int)) && (decide (((rng (1 : Int) (((x).length : Int) + (1 : Int)))).length ≤ 1000000) && ((rng (1 : Int) (((x).length : Int) + (1 : Int)))).all (fun (y43 : Int) => law_hands_ok x y43))))) && (cond (decide ((4 : Int) < (((((rng (1 : Int) (((x).length : Int) + (1 : Int)))).map (fun (y43 : Int) => (law_hands x y43).1))).sum)))
 (true)
 (true))))
def law_right (told : ((List Nat × List Nat) × Int × (List Nat × List Nat) × Int)) (mode : List Nat) (late : Int) : Bool :=
 cond ((!true) || ((!(decide ((4 : Int) = (4 : Int)))) || ((!(law_number told.2.1)) || (!(law_number told.2.2.2)))))
 (false)
 (cond ((!true) || (!true))
 (false)
 (bindV ([told.1.1, told.2.2.1.1] : List (List Nat)) fun (lines13 : List (List Nat)) =>
 Step.fin id (forL law_right_l16 lines13 ()) fun (s51 : Unit) =>
 cond ((!(law_open (gI lines13 (0 : Int)) mode late told.2.1)) || (!(law_open (gI lines13 (1 : Int)) mode late told.2.2.2)))
 (false)
 ((law_miss mode late (gI lines13 (0 : Int)) told.2.1 (gI lines13 (1 : Int)) told.2.2.2))))
def law_right_ok (told : ((List Nat × List Nat) × Int × (List Nat × List Nat) × Int)) (mode : List Nat) (late : Int) : Bool :=
 ((!true) || ((!(decide ((4 : Int) = (4 : Int)))) || (law_number_ok told.2.1 && ((!(law_number told.2.1)) || law_number_ok told.2.2.2)))) && (cond ((!true) || ((!(decide ((4 : Int) = (4 : Int)))) || ((!(law_number told.2.1)) || (!(law_number told.2.2.2)))))
 (true)
 (cond ((!true) || (!true))
 (true)
 (bindV ([told.1.1, told.2.2.1.1] : List (List Nat)) fun (lines13 : List (List Nat)) =>
 okL law_right_l16 law_right_l16_ok lines13 () && (Step.finB (forL law_right_l16 lines13 ()) fun (s51 : Unit) =>
 (decide (0 ≤ (0 : Int)) && (decide ((0 : Int) < (lines13).length) && (law_open_ok (gI lines13 (0 : Int)) mode late told.2.1 && ((!(law_open (gI lines13 (0 : Int)) mode late told.2.1)) || (decide (0 ≤ (1 : Int)) && (decide ((1 : Int) < (lines13).length) && law_open_ok (gI lines13 (1 : Int)) mode late told.2.2.2)))))) && (cond ((!(law_open (gI lines13 (0 : Int)) mode late told.2.1)) || (!(law_open (gI lines13 (1 : Int)) mode late told.2.2.2)))
 (true)
 ((decide (0 ≤ (0 : Int)) && (decide ((0 : Int) < (lines13).length) && (decide (0 ≤ (1 : Int)) && (decide ((1 : Int) < (lines13).length) && law_miss_ok mode late (gI lines13 (0 : Int)) told.2.1 (gI lines13 (1 : Int)) told.2.2.2))))))))))


def check_length (text : List Nat) : Unit :=
 cond (decide ((100000 : Int) < ((text).length : Int)))
 (default)
 (())
def check_length_ok (text : List Nat) : Bool :=
 decide ((text).length ≤ 1000000) && (cond (decide ((100000 : Int) < ((text).length : Int)))
 (false)
 (true))

@[reducible] def first_strange_l1 (x : (Int × Nat)) (s : Unit) : Step (Unit) (Unit) :=
 cond (!(decide (x.2 ∈ ([46, 104, 72, 97, 98, 66] : List Nat))))
 (.rt default)
 (.nx ())
@[reducible] def first_strange_l1_ok (x : (Int × Nat)) (s : Unit) : Bool :=
 cond (!(decide (x.2 ∈ ([46, 104, 72, 97, 98, 66] : List Nat))))
 (false)
 (true)
def first_strange (text : List Nat) : Unit :=
 Step.fin id (forL first_strange_l1 (enS text) ()) fun (s22 : Unit) =>
 ()
def first_strange_ok (text : List Nat) : Bool :=
 okL first_strange_l1 first_strange_l1_ok (enS text) () && (Step.finB (forL first_strange_l1 (enS text) ()) fun (s22 : Unit) =>
 true)


def rota_fault (text : List Nat) : Unit :=
 cond (decide (text = ([45] : List Nat)))
 (())
 (cond (decide (text = ([] : List Nat)))
 (default)
 ((first_strange text)))
def rota_fault_ok (text : List Nat) : Bool :=
 cond (decide (text = ([45] : List Nat)))
 (true)
 (cond (decide (text = ([] : List Nat)))
 (false)
 (first_strange_ok text))


def letters_of_text (text : List Nat) : List Nat :=
 cond (decide (text = ([45] : List Nat)))
 (([] : List Nat))
 (text)
def letters_of_text_ok (text : List Nat) : Bool :=
 cond (decide (text = ([45] : List Nat)))
 (true)
 (true)

end K58
end

section
namespace K58
open PySem L2
def top (i : Nat) : Stmt := PySem.Challenge.pw_buriedsure_k58_whole_misses_judged.main.body.getD i (.Pass ⟨0, 0, 0, 0⟩)
end K58
end

section
set_option maxHeartbeats 1000000
namespace K58
open PySem L2 Evl Dl
theorem pe_gc {X : Cx} {x : Str} {pos : Pos} {v : V} (hg : Gl X x) (h : ∃ u, X.mg x = some u ∧ RelV v u) (hd : (x == ("__debug__" : Str)) = false := by decide) : PE X (.Name x pos) (tC v) := by
  obtain ⟨u, m, r⟩ := h
  exact pe_glob hg m r hd
theorem ed_lenN {c : Cn} {L : List Addr} {des : List Des} {ta : TE} {ds : List Dt} (n : Nat) (h : Ed c L des ta (.tup ds)) {i : Int} (hi : (n : Int) = i := by rfl) (e : ds.length = n := by rfl) : Ed c L des (tCB (Dl.rLenS c.K) (tCons ta tNil)) (.int i) := by
  subst hi e
  exact ed_lenT h
@[reducible] def eU (_ : Unit) : Dt := .non
@[reducible] def eRota (K : PySem.W.Frag) (C : Addr) (p : List Nat × List Nat) : Dt := .ob (insP K C [(("letters" : Str), eS p.1), (("text" : Str), eS p.2)])
@[reducible] def eWorld (K : PySem.W.Frag) (C : Addr) (p : List Nat × Int × List Nat) : Dt := .ob (insP K C [(("kind" : Str), eS p.1), (("late" : Str), .int p.2.1), (("text" : Str), eS p.2.2)])
structure RotaN (K : PySem.W.Frag) (C : Addr) : Prop where
  letters : NoAttr K C "letters"
  text : NoAttr K C "text"
structure WorldN (K : PySem.W.Frag) (C : Addr) : Prop where
  kind : NoAttr K C "kind"
  late : NoAttr K C "late"
  text : NoAttr K C "text"
/-- the constants and classes of the text -/
structure Gs (mg : Str → Option Value) (aRota aWorld : Addr) : Prop where
  EMPTY : ∃ u, mg "EMPTY" = some u ∧ RelV (.str "-") u
  LETTERS : ∃ u, mg "LETTERS" = some u ∧ RelV (.str ".hHabB") u
  MOST_SLOTS : ∃ u, mg "MOST_SLOTS" = some u ∧ RelV (.int 40) u
  MOST_CHARACTERS : ∃ u, mg "MOST_CHARACTERS" = some u ∧ RelV (.int 100000) u
  MOST_LATE : ∃ u, mg "MOST_LATE" = some u ∧ RelV (.int 4) u
  Rota : mg "Rota" = some (.ref aRota)
  World : mg "World" = some (.ref aWorld)
end K58
end

section
set_option maxHeartbeats 1000000
namespace K58
open PySem L2 Evl Dl
abbrev s_law_hands : Stmt := top 39
abbrev N_law_hands : List Str := ["line", "spot", "letter"]
theorem sc_law_hands : FnScope N_law_hands ["line", "spot"] (defScope s_law_hands) := ⟨rfl, rfl, rfl, by decide +kernel, rfl, by decide +kernel, by decide +kernel⟩
def dom_law_hands (ds : List Dt) (r : Dt) : Prop := ∃ (line : List Nat) (spot : Int), ds = [eS line, Dt.int spot] ∧ law_hands_ok line spot = true ∧ r = (e2 Dt.int Dt.int) (law_hands line spot)

abbrev s_law_deeps : Stmt := top 40
abbrev N_law_deeps : List Str := ["blocks", "found", "item"]
theorem sc_law_deeps : FnScope N_law_deeps ["blocks"] (defScope s_law_deeps) := ⟨rfl, rfl, rfl, by decide +kernel, rfl, by decide +kernel, by decide +kernel⟩
def dom_law_deeps (ds : List Dt) (r : Dt) : Prop := ∃ (blocks : List ((Int × Bool × Int))), ds = [(eL (e3 Dt.int Dt.bl Dt.int)) blocks] ∧ law_deeps_ok blocks = true ∧ r = (eL Dt.int) (law_deeps blocks)

abbrev s_law_at : Stmt := top 41
abbrev N_law_at : List Str := ["blocks", "leaf"]
theorem sc_law_at : FnScope N_law_at ["blocks", "leaf"] (defScope s_law_at) := ⟨rfl, rfl, rfl, by decide +kernel, rfl, by decide +kernel, by decide +kernel⟩
def dom_law_at (ds : List Dt) (r : Dt) : Prop := ∃ (blocks : List ((Int × Bool × Int))) (leaf : Int), ds = [(eL (e3 Dt.int Dt.bl Dt.int)) blocks, Dt.int leaf] ∧ law_at_ok blocks leaf = true ∧ r = Dt.int (law_at blocks leaf)

abbrev s_law_known : Stmt := top 42
abbrev N_law_known : List Str := ["blocks", "late", "when", "deeps", "k"]
theorem sc_law_known : FnScope N_law_known ["blocks", "late", "when"] (defScope s_law_known) := ⟨rfl, rfl, rfl, by decide +kernel, rfl, by decide +kernel, by decide +kernel⟩
def dom_law_known (ds : List Dt) (r : Dt) : Prop := ∃ (blocks : List ((Int × Bool × Int))) (late : Int) (when : Int), ds = [(eL (e3 Dt.int Dt.bl Dt.int)) blocks, Dt.int late, Dt.int when] ∧ law_known_ok blocks late when = true ∧ r = Dt.int (law_known blocks late when)

abbrev s_law_fork : Stmt := top 43
abbrev N_law_fork : List Str := ["blocks", "one", "other", "k"]
theorem sc_law_fork : FnScope N_law_fork ["blocks", "one", "other"] (defScope s_law_fork) := ⟨rfl, rfl, rfl, by decide +kernel, rfl, by decide +kernel, by decide +kernel⟩
def dom_law_fork (ds : List Dt) (r : Dt) : Prop := ∃ (blocks : List ((Int × Bool × Int))) (one_ : Int) (other : Int), ds = [(eL (e3 Dt.int Dt.bl Dt.int)) blocks, Dt.int one_, Dt.int other] ∧ law_fork_ok blocks one_ other = true ∧ r = Dt.int (law_fork blocks one_ other)

abbrev s_law_grown : Stmt := top 44
abbrev N_law_grown : List Str := ["hands", "mode", "ways", "heights", "found", "pick", "deeds", "made", "height", "row", "lengths", "k", "item"]
theorem sc_law_grown : FnScope N_law_grown ["hands", "mode", "ways", "heights"] (defScope s_law_grown) := ⟨rfl, rfl, rfl, by decide +kernel, rfl, by decide +kernel, by decide +kernel⟩
def dom_law_grown (ds : List Dt) (r : Dt) : Prop := ∃ (hands : (Int × Int)) (mode : List Nat) (ways : List Int) (heights : List Int), ds = [(e2 Dt.int Dt.int) hands, eS mode, (eT Dt.int) ways, (eT Dt.int) heights] ∧ law_grown_ok hands mode ways heights = true ∧ r = (eL (e2 (eT Dt.int) (eT Dt.int))) (law_grown hands mode ways heights)

abbrev s_law_sorted : Stmt := top 45
abbrev N_law_sorted : List Str := ["found", "item"]
theorem sc_law_sorted : FnScope N_law_sorted ["found"] (defScope s_law_sorted) := ⟨rfl, rfl, rfl, by decide +kernel, rfl, by decide +kernel, by decide +kernel⟩
def dom_law_sorted (ds : List Dt) (r : Dt) : Prop := ∃ (found : List ((List Int × List Int))), ds = [(eL (e2 (eT Dt.int) (eT Dt.int))) found] ∧ law_sorted_ok found = true ∧ r = (eL (e2 (eT Dt.int) (eT Dt.int))) (law_sorted found)

abbrev s_law_wins : Stmt := top 46
abbrev N_law_wins : List Str := ["more", "first", "mode", "spot", "ones", "pairs", "k", "hands", "here", "item", "after", "one", "made", "least", "following"]
theorem sc_law_wins : FnScope N_law_wins ["more", "first", "mode", "spot", "ones", "pairs"] (defScope s_law_wins) := ⟨rfl, rfl, rfl, by decide +kernel, rfl, by decide +kernel, by decide +kernel⟩
def dom_law_wins (ds : List Dt) (r : Dt) : Prop := ∃ (more : List Nat) (first : Int) (mode : List Nat) (spot : Int) (ones : List ((List Int × List Int))) (pairs : List ((List Int × List Int))), ds = [eS more, Dt.int first, eS mode, Dt.int spot, (eL (e2 (eT Dt.int) (eT Dt.int))) ones, (eL (e2 (eT Dt.int) (eT Dt.int))) pairs] ∧ law_wins_ok more first mode spot ones pairs = true ∧ r = Dt.bl (law_wins more first mode spot ones pairs)

abbrev s_law_false : Stmt := top 47
abbrev N_law_false : List Str := ["line", "low", "high", "letter"]
theorem sc_law_false : FnScope N_law_false ["line", "low", "high"] (defScope s_law_false) := ⟨rfl, rfl, rfl, by decide +kernel, rfl, by decide +kernel, by decide +kernel⟩
def dom_law_false (ds : List Dt) (r : Dt) : Prop := ∃ (line : List Nat) (low : Int) (high : Int), ds = [eS line, Dt.int low, Dt.int high] ∧ law_false_ok line low high = true ∧ r = Dt.int (law_false line low high)

abbrev s_law_stands : Stmt := top 48
abbrev N_law_stands : List Str := ["line", "mode", "late", "blocks", "spot", "when", "deeps", "low", "tall", "ends", "k", "pairs", "one", "other", "ones", "i"]
theorem sc_law_stands : FnScope N_law_stands ["line", "mode", "late", "blocks", "spot"] (defScope s_law_stands) := ⟨rfl, rfl, rfl, by decide +kernel, rfl, by decide +kernel, by decide +kernel⟩
def dom_law_stands (ds : List Dt) (r : Dt) : Prop := ∃ (line : List Nat) (mode : List Nat) (late : Int) (blocks : List ((Int × Bool × Int))) (spot : Int), ds = [eS line, eS mode, Dt.int late, (eL (e3 Dt.int Dt.bl Dt.int)) blocks, Dt.int spot] ∧ law_stands_ok line mode late blocks spot = true ∧ r = (eL (eL (e2 (eT Dt.int) (eT Dt.int)))) (law_stands line mode late blocks spot)

abbrev s_law_serves : Stmt := top 49
abbrev N_law_serves : List Str := ["line", "cut", "mode", "late", "blocks", "spot", "ones", "pairs"]
theorem sc_law_serves : FnScope N_law_serves ["line", "cut", "mode", "late", "blocks", "spot"] (defScope s_law_serves) := ⟨rfl, rfl, rfl, by decide +kernel, rfl, by decide +kernel, by decide +kernel⟩
def dom_law_serves (ds : List Dt) (r : Dt) : Prop := ∃ (line : List Nat) (cut : Int) (mode : List Nat) (late : Int) (blocks : List ((Int × Bool × Int))) (spot : Int), ds = [eS line, Dt.int cut, eS mode, Dt.int late, (eL (e3 Dt.int Dt.bl Dt.int)) blocks, Dt.int spot] ∧ law_serves_ok line cut mode late blocks spot = true ∧ r = Dt.bl (law_serves line cut mode late blocks spot)

abbrev s_law_works : Stmt := top 50
abbrev N_law_works : List Str := ["line", "spot", "mode", "late", "blocks", "deeps", "low", "found", "k", "much", "hidden"]
theorem sc_law_works : FnScope N_law_works ["line", "spot", "mode", "late", "blocks"] (defScope s_law_works) := ⟨rfl, rfl, rfl, by decide +kernel, rfl, by decide +kernel, by decide +kernel⟩
def dom_law_works (ds : List Dt) (r : Dt) : Prop := ∃ (line : List Nat) (spot : Int) (mode : List Nat) (late : Int) (blocks : List ((Int × Bool × Int))), ds = [eS line, Dt.int spot, eS mode, Dt.int late, (eL (e3 Dt.int Dt.bl Dt.int)) blocks] ∧ law_works_ok line spot mode late blocks = true ∧ r = (eL (e2 Dt.int Dt.int)) (law_works line spot mode late blocks)

abbrev s_law_more : Stmt := top 51
abbrev N_law_more : List Str := ["line", "spot", "blocks", "works", "found", "stem", "hidden", "slots", "tip", "j", "item"]
theorem sc_law_more : FnScope N_law_more ["line", "spot", "blocks", "works"] (defScope s_law_more) := ⟨rfl, rfl, rfl, by decide +kernel, rfl, by decide +kernel, by decide +kernel⟩
def dom_law_more (ds : List Dt) (r : Dt) : Prop := ∃ (line : List Nat) (spot : Int) (blocks : List ((Int × Bool × Int))) (works : List ((Int × Int))), ds = [eS line, Dt.int spot, (eL (e3 Dt.int Dt.bl Dt.int)) blocks, (eL (e2 Dt.int Dt.int)) works] ∧ law_more_ok line spot blocks works = true ∧ r = (eL (e3 Dt.int Dt.bl Dt.int)) (law_more line spot blocks works)

abbrev s_law_branches : Stmt := top 52
abbrev N_law_branches : List Str := ["line", "spot", "mode", "late", "blocks", "hands", "found", "works", "one", "other", "wide", "tree", "stem"]
theorem sc_law_branches : FnScope N_law_branches ["line", "spot", "mode", "late", "blocks"] (defScope s_law_branches) := ⟨rfl, rfl, rfl, by decide +kernel, rfl, by decide +kernel, by decide +kernel⟩
def dom_law_branches (ds : List Dt) (r : Dt) : Prop := ∃ (line : List Nat) (spot : Int) (mode : List Nat) (late : Int) (blocks : List ((Int × Bool × Int))), ds = [eS line, Dt.int spot, eS mode, Dt.int late, (eL (e3 Dt.int Dt.bl Dt.int)) blocks] ∧ law_branches_ok line spot mode late blocks = true ∧ r = (eL (eL (e3 Dt.int Dt.bl Dt.int))) (law_branches line spot mode late blocks)

abbrev s_law_miss : Stmt := top 53
abbrev N_law_miss : List Str := ["mode", "late", "one", "first", "other", "second", "common", "k", "stack", "looks", "turn", "spot", "blocks", "tree"]
theorem sc_law_miss : FnScope N_law_miss ["mode", "late", "one", "first", "other", "second"] (defScope s_law_miss) := ⟨rfl, rfl, rfl, by decide +kernel, rfl, by decide +kernel, by decide +kernel⟩
def dom_law_miss (ds : List Dt) (r : Dt) : Prop := ∃ (mode : List Nat) (late : Int) (one_ : List Nat) (first : Int) (other : List Nat) (second : Int), ds = [eS mode, Dt.int late, eS one_, Dt.int first, eS other, Dt.int second] ∧ law_miss_ok mode late one_ first other second = true ∧ r = Dt.bl (law_miss mode late one_ first other second)

abbrev s_law_open : Stmt := top 54
abbrev N_law_open : List Str := ["line", "mode", "late", "spot"]
theorem sc_law_open : FnScope N_law_open ["line", "mode", "late", "spot"] (defScope s_law_open) := ⟨rfl, rfl, rfl, by decide +kernel, rfl, by decide +kernel, by decide +kernel⟩
def dom_law_open (ds : List Dt) (r : Dt) : Prop := ∃ (line : List Nat) (mode : List Nat) (late : Int) (spot : Int), ds = [eS line, eS mode, Dt.int late, Dt.int spot] ∧ law_open_ok line mode late spot = true ∧ r = Dt.bl (law_open line mode late spot)

abbrev s_law_number : Stmt := top 38
abbrev N_law_number : List Str := ["item"]
theorem sc_law_number : FnScope N_law_number ["item"] (defScope s_law_number) := ⟨rfl, rfl, rfl, by decide +kernel, rfl, by decide +kernel, by decide +kernel⟩
def dom_law_number (ds : List Dt) (r : Dt) : Prop := ∃ (item : Int), ds = [Dt.int item] ∧ law_number_ok item = true ∧ r = Dt.bl (law_number item)

abbrev s_law_right : Stmt := top 55
abbrev N_law_right : List Str := ["told", "mode", "late", "lines", "line", "letter", "spot"]
theorem sc_law_right : FnScope N_law_right ["told", "mode", "late"] (defScope s_law_right) := ⟨rfl, rfl, rfl, by decide +kernel, rfl, by decide +kernel, by decide +kernel⟩
def dom_law_right (K : PySem.W.Frag) (aRota : Addr) (ds : List Dt) (r : Dt) : Prop := ∃ (told : ((List Nat × List Nat) × Int × (List Nat × List Nat) × Int)) (mode : List Nat) (late : Int), ds = [(e4 (eRota K aRota) Dt.int (eRota K aRota) Dt.int) told, eS mode, Dt.int late] ∧ law_right_ok told mode late = true ∧ r = Dt.bl (law_right told mode late)

abbrev s_check_length : Stmt := top 21
abbrev N_check_length : List Str := ["text"]
theorem sc_check_length : FnScope N_check_length ["text"] (defScope s_check_length) := ⟨rfl, rfl, rfl, by decide +kernel, rfl, by decide +kernel, by decide +kernel⟩
def dom_check_length (ds : List Dt) (r : Dt) : Prop := ∃ (text : List Nat), ds = [eS text] ∧ check_length_ok text = true ∧ r = eU (check_length text)

abbrev s_first_strange : Stmt := top 15
abbrev N_first_strange : List Str := ["text", "at", "char"]
theorem sc_first_strange : FnScope N_first_strange ["text"] (defScope s_first_strange) := ⟨rfl, rfl, rfl, by decide +kernel, rfl, by decide +kernel, by decide +kernel⟩
def dom_first_strange (ds : List Dt) (r : Dt) : Prop := ∃ (text : List Nat), ds = [eS text] ∧ first_strange_ok text = true ∧ r = eU (first_strange text)

abbrev s_rota_fault : Stmt := top 16
abbrev N_rota_fault : List Str := ["text"]
theorem sc_rota_fault : FnScope N_rota_fault ["text"] (defScope s_rota_fault) := ⟨rfl, rfl, rfl, by decide +kernel, rfl, by decide +kernel, by decide +kernel⟩
def dom_rota_fault (ds : List Dt) (r : Dt) : Prop := ∃ (text : List Nat), ds = [eS text] ∧ rota_fault_ok text = true ∧ r = eU (rota_fault text)

abbrev s_letters_of_text : Stmt := top 17
abbrev N_letters_of_text : List Str := ["text"]
theorem sc_letters_of_text : FnScope N_letters_of_text ["text"] (defScope s_letters_of_text) := ⟨rfl, rfl, rfl, by decide +kernel, rfl, by decide +kernel, by decide +kernel⟩
def dom_letters_of_text (ds : List Dt) (r : Dt) : Prop := ∃ (text : List Nat), ds = [eS text] ∧ letters_of_text_ok text = true ∧ r = eS (letters_of_text text)

end K58
end

section
set_option maxHeartbeats 1000000
namespace K58
open PySem L2 Evl Dl
theorem cal_law_hands {P : Program} {w : World} {K : PySem.W.Frag} {mg : Str → Option Value} {base : Heap} {f : Addr} {fd : FuncData} (F : FnP K "_law_hands" "_law_hands" s_law_hands f fd) (gl : mg "_law_hands" = some (.ref f)) (T : Bn mg)  : Cal P w K mg base "_law_hands" 1 ["line", "spot"] (Pf K dom_law_hands) := by
  refine cal_mk (k := 0) F gl sc_law_hands (fun _ _ _ _ _ _ us hl => match us, hl with | [_, _], _ => rfl) (fun ds r h => by obtain ⟨_, _, rfl, _⟩ := h; rfl) (fun cdv A outer s H Q E hr => ?_)
  have hu := hu_of hr
  refine ⟨_, (pss_cons (ps_set (i := 2) sc_law_hands.nd rfl (Or.inl rfl) (pe_ifExp (pt_cmpR op_le (pv 1) (pe_callB d_lenS (by rfl) T.len_ bb_len (pa_cons (pv 0) pa_nil)) (nomark _)) (pe_ix ix_str (pv 0) (pe_op op_sub (pv 1) pe_int) (fun _ _ => rfl)) pe_str))
 (pss_one (ps_ret (pe_tup (pa_cons (pe_dget hu (pe_disp (pps_cons pe_str pe_int (pps_cons pe_str pe_int (pps_cons pe_str pe_int (pps_cons pe_str pe_int (pps_cons pe_str pe_int (pps_cons pe_str pe_int pps_nil)))))) (by rfl) (by rfl) (fun z => by cases z) (by decide)) (pv 2) (fun _ _ => rfl)) (pa_cons (pe_ifExp (pt_cmpR d_inS (pv 2) pe_str rfl) pe_int pe_int) pa_nil)))))), ?_⟩
  rintro M0 ds r ⟨line, spot, rfl, hk, rfl⟩ hQ
  have he : law_hands line spot = _ := law_hands.eq_1 line spot
  rw [law_hands_ok.eq_1] at hk
  show Sd _ _ [.dat (eS line), .dat (Dt.int spot), .any] _ _
  refine sd_asgE (i := 2) eC he (b2 hk) (ed_if eC (et_test (ed_ib (ed_var rfl) (ed_lenS (ed_var rfl) (bD (b1 (b1 hk)))))) (fun q1 => (ed_ixS (ed_var rfl) (ed_ii (ed_var rfl) ed_int) (bD (b1 (bI (b2 (b1 hk)) q1))) (bD (b1 (b2 (bI (b2 (b1 hk)) q1)))) (bD (b2 (b2 (bI (b2 (b1 hk)) q1)))))) (fun q2 => (ed_ch 46 (by rfl)))) fun letter3 he4 hk5 => ?_
  show Sd _ _ [.dat (eS line), .dat (Dt.int spot), .dat (eC letter3)] _ _
  exact sd_retF (e2 Dt.int Dt.int) he4 (ed_tup2 (f := Dt.int) (g := Dt.int) (ed_lkC [(46, 0), (104, 1), (72, 2), (97, 0), (98, 1), (66, 2)] (ed_var rfl) hk5) (ed_if Dt.int (et_test (ed_inC [97, 98, 66] (ed_var rfl) (ed_strc [97, 98, 66] (by rfl)))) (fun q6 => ed_int) (fun q7 => ed_int))) (hQ.to (congrArg (e2 Dt.int Dt.int) he4))

end K58
end

section
set_option maxHeartbeats 1000000
namespace K58
open PySem L2 Evl Dl
theorem cal_law_deeps {P : Program} {w : World} {K : PySem.W.Frag} {mg : Str → Option Value} {base : Heap} {f : Addr} {fd : FuncData} (F : FnP K "_law_deeps" "_law_deeps" s_law_deeps f fd) (gl : mg "_law_deeps" = some (.ref f)) (T : Bn mg)  : Cal P w K mg base "_law_deeps" 1 ["blocks"] (Pf K dom_law_deeps) := by
  refine cal_mk (k := 0) F gl sc_law_deeps (fun _ _ _ _ _ _ us hl => match us, hl with | [_], _ => rfl) (fun ds r h => by obtain ⟨_, rfl, _⟩ := h; rfl) (fun cdv A outer s H Q E hr => ?_)
  have hu := hu_of hr
  refine ⟨_, (pss_cons (ps_set (i := 1) sc_law_deeps.nd rfl (Or.inl rfl) (pe_lst (pa_cons pe_int pa_nil)))
 (pss_cons (ps_for PassesOwn.never rfl (pi_list (pv 0)) (pg_name (i := 2) sc_law_deeps.nd rfl (Or.inl rfl))
 (pss_one (ps_expr (pe_bm PySem.F.plainAttrs_list PySem.F.slot_list_append PySem.F.type_list_append d_append (pv 1) (pa_cons (pe_op op_add (pe_ix (k_ix_list K) (pv 1) (pe_ix (k_ix_tup K) (pv 2) pe_int (fun _ _ => rfl)) (fun _ _ => rfl)) pe_int) pa_nil)))))
 (pss_one (ps_ret (pv 1))))), ?_⟩
  rintro M0 ds r ⟨blocks, rfl, hk, rfl⟩ hQ
  have he : law_deeps blocks = _ := law_deeps.eq_1 blocks
  rw [law_deeps_ok.eq_1] at hk
  show Sd _ _ [.dat ((eL (e3 Dt.int Dt.bl Dt.int)) blocks), .any, .any] _ _
  refine sd_ownE (i := 1) Dt.int he hk (en_l1 (f := Dt.int) ed_int) fun p1 hp1 found2 he3 hk4 => ?_
  show Sd _ _ [.dat ((eL (e3 Dt.int Dt.bl Dt.int)) blocks), .own p1 (List.map Dt.int found2), .any] _ _
  refine sd_forS (fun (s : List Int) => [(1, .own p1 (List.map Dt.int s)), (2, .any)]) (e3 Dt.int Dt.bl Dt.int) he3 (b2 hk4) (b1 hk4) (wk_list (ed_var rfl)) (.same (.same (.any .nil))) (fun c' x s => gd_name) (fun B20 eB21 i8 x6 s7 hx11 hs12 y13 he14 hk19 N15 B16 hN17 hB18 => ?_) (fun s25 he26 hk27 => ?_)
  · show Sd _ _ [.dat ((eL (e3 Dt.int Dt.bl Dt.int)) blocks), .own p1 (List.map Dt.int s7), .dat ((e3 Dt.int Dt.bl Dt.int) x6)] _ _
    refine sd_appEL (i := 1) (p := p1) Dt.int he14 (b2 hk19) rfl (ed_ii (ed_ixL (f := Dt.int) (el_own rfl) (ed_ixT (k := 2) (ed_var rfl) ed_int rfl) (bD (b1 (b1 hk19))) (bD (b1 (b2 (b1 hk19))))) ed_int) (ltM' (bD (b2 (b2 (b1 hk19))))) trivial fun found22 he23 hk24 => ?_
    exact (fun σ H w => hN17 _ σ H he23 (WS.wk w (.same (.same (.any .nil)))))
  · show Sd _ _ [.dat ((eL (e3 Dt.int Dt.bl Dt.int)) blocks), .own p1 (List.map Dt.int s25), .any] _ _
    exact sd_retOwn (i := 1) (a := p1) rfl (hQ.to (congrArg (eL Dt.int) he26))

end K58
end

section
set_option maxHeartbeats 1000000
namespace K58
open PySem L2 Evl Dl
theorem cal_law_at {P : Program} {w : World} {K : PySem.W.Frag} {mg : Str → Option Value} {base : Heap} {f : Addr} {fd : FuncData} (F : FnP K "_law_at" "_law_at" s_law_at f fd) (gl : mg "_law_at" = some (.ref f)) (T : Bn mg)  : Cal P w K mg base "_law_at" 1 ["blocks", "leaf"] (Pf K dom_law_at) := by
  refine cal_mk (k := 0) F gl sc_law_at (fun _ _ _ _ _ _ us hl => match us, hl with | [_, _], _ => rfl) (fun ds r h => by obtain ⟨_, _, rfl, _⟩ := h; rfl) (fun cdv A outer s H Q E hr => ?_)
  have hu := hu_of hr
  refine ⟨_, (pss_one (ps_ret (pe_ifExp (k_pt_tr K (pv 1)) (pe_ix (k_ix_tup K) (pe_ix (k_ix_list K) (pv 0) (pe_op op_sub (pv 1) pe_int) (fun _ _ => rfl)) pe_int (fun _ _ => rfl)) pe_int))), ?_⟩
  rintro M0 ds r ⟨blocks, leaf, rfl, hk, rfl⟩ hQ
  have he : law_at blocks leaf = _ := law_at.eq_1 blocks leaf
  rw [law_at_ok.eq_1] at hk
  show Sd _ _ [.dat ((eL (e3 Dt.int Dt.bl Dt.int)) blocks), .dat (Dt.int leaf)] _ _
  exact sd_retF Dt.int he (ed_if Dt.int (et_trI (ed_var rfl)) (fun q1 => (ed_ixT (k := 0) (ed_ixL (f := (e3 Dt.int Dt.bl Dt.int)) (el_dat (ed_var rfl)) (ed_ii (ed_var rfl) ed_int) (bD (b1 (bI hk q1))) (bD (b2 (bI hk q1)))) ed_int rfl)) (fun q2 => ed_int)) (hQ.to (congrArg Dt.int he))

end K58
end

section
set_option maxHeartbeats 1000000
namespace K58
open PySem L2 Evl Dl
theorem cal_law_known {P : Program} {w : World} {K : PySem.W.Frag} {mg : Str → Option Value} {base : Heap} {f : Addr} {fd : FuncData} (F : FnP K "_law_known" "_law_known" s_law_known f fd) (gl : mg "_law_known" = some (.ref f)) (T : Bn mg) (C_law_deeps : Cal P w K mg base "_law_deeps" 1 ["blocks"] (Pf K dom_law_deeps)) : Cal P w K mg base "_law_known" 2 ["blocks", "late", "when"] (Pf K dom_law_known) := by
  refine cal_mk (k := 1) F gl sc_law_known (fun _ _ _ _ _ _ us hl => match us, hl with | [_, _, _], _ => rfl) (fun ds r h => by obtain ⟨_, _, _, rfl, _⟩ := h; rfl) (fun cdv A outer s H Q E hr => ?_)
  have hu := hu_of hr
  refine ⟨_, (pss_cons (ps_set (i := 3) sc_law_known.nd rfl (Or.inr rfl) (pe_cal C_law_deeps hr (by decide) (pa_cons (pv 0) pa_nil)))
 (pss_one (ps_ret (pe_callB (k_max K) (by rfl) T.max_ bb_max (pa_cons (pe_op d_cat (pe_lst (pa_cons pe_int pa_nil)) (pe_lc (own := [("k", 4)]) rfl sc_law_known.nd (pi_range1 rfl T.range_ (pa_cons (pe_callB (k_len K) (by rfl) T.len_ bb_len (pa_cons (pv 0) pa_nil)) pa_nil)) (blkOk_by (own := [("k", 4)]) (N := N_law_known) (sc := defScope s_law_known) (by decide +kernel)) (fun _ _ _ _ _ => (pg_name (i := 4) sc_law_known.nd rfl (Or.inl rfl))) (fun _ _ _ _ _ => (pts_one (PW.pt (pw_and (pt_val (pe_ix (k_ix_tup K) (pe_ix (k_ix_list K) (pv 0) (pv 4) (fun _ _ => rfl)) pe_int (fun _ _ => rfl))) (pw_and1 (pt_cmpR op_le (pe_ix (k_ix_tup K) (pe_ix (k_ix_list K) (pv 0) (pv 4) (fun _ _ => rfl)) pe_int (fun _ _ => rfl)) (pe_op op_sub (pv 2) (pv 1)) (nomark _))))))) (fun _ _ _ _ _ => (pe_ix (k_ix_list K) (pv 3) (pe_op op_add (pv 4) pe_int) (fun _ _ => rfl))))) pa_nil))))), ?_⟩
  rintro M0 ds r ⟨blocks, late, when, rfl, hk, rfl⟩ hQ
  have he : law_known blocks late when = _ := law_known.eq_1 blocks late when
  rw [law_known_ok.eq_1] at hk
  show Sd _ _ [.dat ((eL (e3 Dt.int Dt.bl Dt.int)) blocks), .dat (Dt.int late), .dat (Dt.int when), .any, .any] _ _
  refine sd_asgE (i := 3) (eL Dt.int) he (b2 hk) (ed_call (ea_cons (ed_var rfl) ea_nil) ⟨_, rfl, (b1 hk), rfl⟩) fun deeps1 he2 hk3 => ?_
  show Sd _ _ [.dat ((eL (e3 Dt.int Dt.bl Dt.int)) blocks), .dat (Dt.int late), .dat (Dt.int when), .dat ((eL Dt.int) deeps1), .any] _ _
  exact sd_retF Dt.int he2 (ed_maxL (el_dat (ed_cat (f := Dt.int) (el_dat (En.ed (en_l1 (f := Dt.int) ed_int))) (el_dat (En.ed (en_lcf (en := Dt.int) (en' := Dt.int) (WalkI.e (wk_rng1 (ed_len (f := (e3 Dt.int Dt.bl Dt.int)) (el_dat (ed_var rfl))) (midM (b1 hk3)))) (ltM (bD (b1 (b2 hk3)))) (fun d6 y4 m7 => gd_name) (gw_name (by decide)) (fun d6 y4 m7 => (et_and (et_B (ed_ixT (k := 1) (ed_ixL (f := (e3 Dt.int Dt.bl Dt.int)) (el_dat (ed_var rfl)) (ed_var rfl) (bD (b1 (allP (b1 (b2 (b2 hk3))) m7))) (bD (b1 (b2 (allP (b1 (b2 (b2 hk3))) m7))))) ed_int rfl)) (fun q5 => (et_test (ed_ib (ed_ixT (k := 0) (ed_ixL (f := (e3 Dt.int Dt.bl Dt.int)) (el_dat (ed_var rfl)) (ed_var rfl) (bD (b1 (bI (b2 (b2 (allP (b1 (b2 (b2 hk3))) m7))) q5))) (bD (b2 (bI (b2 (b2 (allP (b1 (b2 (b2 hk3))) m7))) q5)))) ed_int rfl) (ed_ii (ed_var rfl) (ed_var rfl))))))) (fun d6 y4 m7 q8 => (ed_ixL (f := Dt.int) (el_dat (ed_var rfl)) (ed_ii (ed_var rfl) ed_int) (bD (b1 (bI (allP (b1 (b2 (b2 (b2 hk3)))) m7) q8))) (bD (b2 (bI (allP (b1 (b2 (b2 (b2 hk3)))) m7) q8)))))))) (ltM (bD (b1 (b2 (b2 (b2 (b2 hk3))))))))) (bD (b2 (b2 (b2 (b2 (b2 hk3))))))) (hQ.to (congrArg Dt.int he2))

end K58
end

section
set_option maxHeartbeats 1000000
namespace K58
open PySem L2 Evl Dl
theorem cal_law_fork {P : Program} {w : World} {K : PySem.W.Frag} {mg : Str → Option Value} {base : Heap} {f : Addr} {fd : FuncData} (F : FnP K "_law_fork" "_law_fork" s_law_fork f fd) (gl : mg "_law_fork" = some (.ref f)) (T : Bn mg) (C_law_at : Cal P w K mg base "_law_at" 1 ["blocks", "leaf"] (Pf K dom_law_at)) : Cal P w K mg base "_law_fork" 2 ["blocks", "one", "other"] (Pf K dom_law_fork) := by
  refine cal_mk (k := 1) F gl sc_law_fork (fun _ _ _ _ _ _ us hl => match us, hl with | [_, _, _], _ => rfl) (fun ds r h => by obtain ⟨_, _, _, rfl, _⟩ := h; rfl) (fun cdv A outer s H Q E hr => ?_)
  have hu := hu_of hr
  refine ⟨_, (pss_cons (ps_for PassesOwn.never rfl (pi_range1 rfl T.range_ (pa_cons (pe_op op_add (pe_op op_mul pe_int (pe_callB (k_len K) (by rfl) T.len_ bb_len (pa_cons (pv 0) pa_nil))) pe_int) pa_nil)) (pg_name (i := 3) sc_law_fork.nd rfl (Or.inl rfl))
 (pss_cons (ps_if (pt_cmpR op_eq (pv 1) (pv 2) (nomark _))
 (pss_one ps_break)
 pss_nil)
 (pss_one (ps_if (pt_cmpR op_gt (pv 1) (pv 2) (nomark _))
 (pss_one (ps_set (i := 1) sc_law_fork.nd rfl (Or.inl rfl) (pe_ix (k_ix_tup K) (pe_ix (k_ix_list K) (pv 0) (pe_op op_sub (pv 1) pe_int) (fun _ _ => rfl)) pe_int (fun _ _ => rfl))))
 (pss_one (ps_set (i := 2) sc_law_fork.nd rfl (Or.inl rfl) (pe_ix (k_ix_tup K) (pe_ix (k_ix_list K) (pv 0) (pe_op op_sub (pv 2) pe_int) (fun _ _ => rfl)) pe_int (fun _ _ => rfl))))))))
 (pss_one (ps_ret (pe_cal C_law_at hr (by decide) (pa_cons (pv 0) (pa_cons (pv 1) pa_nil)))))), ?_⟩
  rintro M0 ds r ⟨blocks, one_, other, rfl, hk, rfl⟩ hQ
  have he : law_fork blocks one_ other = _ := law_fork.eq_1 blocks one_ other
  rw [law_fork_ok.eq_1] at hk
  show Sd _ _ [.dat ((eL (e3 Dt.int Dt.bl Dt.int)) blocks), .dat (Dt.int one_), .dat (Dt.int other), .any] _ _
  refine sd_forS (fun (s : Int × Int) => [(1, .dat (Dt.int s.1)), (2, .dat (Dt.int s.2)), (3, .any)]) Dt.int he (b2 hk) (b2 (b1 hk)) (wk_rng1 (ed_ii (ed_iic ed_int (ed_len (f := (e3 Dt.int Dt.bl Dt.int)) (el_dat (ed_var rfl))) (.inl (by decide))) ed_int) (midM (b1 (b1 hk)))) (.same (.same (.same (.any .nil)))) (fun c' x s => gd_name) (fun B16 eB17 i4 x2 s3 hx7 hs8 y9 he10 hk15 N11 B12 hN13 hB14 => ?_) (fun s32 he33 hk34 => ?_)
  · show Sd _ _ [.dat ((eL (e3 Dt.int Dt.bl Dt.int)) blocks), .dat (Dt.int s3.1), .dat (Dt.int s3.2), .dat (Dt.int x2)] _ _
    refine sd_whenE he10 (et_test (ed_eqI (ed_var rfl) (ed_var rfl))) (fun hb18 he20 => ?_) (fun hb19 he21 => ?_)
    · exact sd_break (fun σ H w => hB14 _ σ H he20 (WS.wk w (.same (.same (.same (.any .nil))))))
    · refine sd_ifE he21 (et_test (ed_ib (ed_var rfl) (ed_var rfl))) (fun hb22 he24 => ?_) (fun hb23 he25 => ?_)
      · refine sd_asgEL (i := 1) Dt.int he24 (b2 (cT (cF hk15 hb19) hb22)) (ed_ixT (k := 2) (ed_ixL (f := (e3 Dt.int Dt.bl Dt.int)) (el_dat (ed_var rfl)) (ed_ii (ed_var rfl) ed_int) (bD (b1 (b1 (cT (cF hk15 hb19) hb22)))) (bD (b2 (b1 (cT (cF hk15 hb19) hb22))))) ed_int rfl) fun one_26 he27 hk28 => ?_
        exact (fun σ H w => hN13 _ σ H he27 (WS.wk w (.same (.same (.same (.any .nil))))))
      · refine sd_asgEL (i := 2) Dt.int he25 (b2 (cF (cF hk15 hb19) hb23)) (ed_ixT (k := 2) (ed_ixL (f := (e3 Dt.int Dt.bl Dt.int)) (el_dat (ed_var rfl)) (ed_ii (ed_var rfl) ed_int) (bD (b1 (b1 (cF (cF hk15 hb19) hb23)))) (bD (b2 (b1 (cF (cF hk15 hb19) hb23))))) ed_int rfl) fun other29 he30 hk31 => ?_
        exact (fun σ H w => hN13 _ σ H he30 (WS.wk w (.same (.same (.same (.any .nil))))))
  · show Sd _ _ [.dat ((eL (e3 Dt.int Dt.bl Dt.int)) blocks), .dat (Dt.int s32.1), .dat (Dt.int s32.2), .any] _ _
    exact sd_retF Dt.int he33 (ed_call (ea_cons (ed_var rfl) (ea_cons (ed_var rfl) ea_nil)) ⟨_, _, rfl, hk34, rfl⟩) (hQ.to (congrArg Dt.int he33))

end K58
end

section
set_option maxHeartbeats 1000000
namespace K58
open PySem L2 Evl Dl
theorem cal_law_grown {P : Program} {w : World} {K : PySem.W.Frag} {mg : Str → Option Value} {base : Heap} {f : Addr} {fd : FuncData} (F : FnP K "_law_grown" "_law_grown" s_law_grown f fd) (gl : mg "_law_grown" = some (.ref f)) (T : Bn mg)  : Cal P w K mg base "_law_grown" 1 ["hands", "mode", "ways", "heights"] (Pf K dom_law_grown) := by
  refine cal_mk (k := 0) F gl sc_law_grown (fun _ _ _ _ _ _ us hl => match us, hl with | [_, _, _, _], _ => rfl) (fun ds r h => by obtain ⟨_, _, _, _, rfl, _⟩ := h; rfl) (fun cdv A outer s H Q E hr => ?_)
  have hu := hu_of hr
  refine ⟨_, (pss_cons (ps_set (i := 4) sc_law_grown.nd rfl (Or.inl rfl) pe_dnewN)
 (pss_cons (ps_for PassesOwn.never rfl (pi_range1 rfl T.range_ (pa_cons (pe_ifExp (pt_cmpR op_eq (pe_callB (k_len K) (by rfl) T.len_ bb_len (pa_cons (pv 2) pa_nil)) pe_int (nomark _)) pe_int pe_int) pa_nil)) (pg_name (i := 5) sc_law_grown.nd rfl (Or.inl rfl))
 (pss_cons (ps_set (i := 6) sc_law_grown.nd rfl (Or.inr rfl) (pe_slice (k_sl_list K) (pe_lst (pa_cons (pe_op op_mod (pe_callTy d_int (by rfl) T.int_ bb_int (pa_cons (pv 5) pa_nil)) pe_int) (pa_cons (pe_op op_fdiv (pv 5) pe_int) pa_nil))) po_none (po_some (pe_callB (k_len K) (by rfl) T.len_ bb_len (pa_cons (pv 2) pa_nil)))))
 (pss_cons (ps_setLc (i := 7) (own := [("k", 11)]) rfl sc_law_grown.nd rfl rfl (sw_true rfl rfl rfl (by decide +kernel)) (pi_range1 rfl T.range_ (pa_cons (pe_callB (k_len K) (by rfl) T.len_ bb_len (pa_cons (pv 2) pa_nil)) pa_nil)) (blkOk_by (own := [("k", 11)]) (N := N_law_grown) (sc := defScope s_law_grown) (by decide +kernel)) (fun _ _ _ _ _ => (pg_name (i := 11) sc_law_grown.nd rfl (Or.inl rfl))) (fun _ _ _ _ _ => (pts_one (pt_cmpR op_eq (pe_ix (k_ix_list K) (pv 6) (pv 11) (fun _ _ => rfl)) pe_int (nomark _)))) (fun _ _ _ _ _ => (pe_op op_add (pe_ix (k_ix_tup K) (pv 2) (pv 11) (fun _ _ => rfl)) pe_int)))
 (pss_cons (ps_if (PW.pt (pw_or (pt_cmpR op_gt (pe_callB (k_len K) (by rfl) T.len_ bb_len (pa_cons (pv 7) pa_nil)) (pe_ix (k_ix_tup K) (pv 0) pe_int (fun _ _ => rfl)) (nomark _)) (pw_or1 (PW.pt (pw_and (k_pt_tr K (pv 7)) (pw_and1 (pt_cmpR op_lt (pe_callB (k_min K) (by rfl) T.min_ bb_min (pa_cons (pv 7) pa_nil)) pe_int (nomark _))))))))
 (pss_one ps_continue)
 pss_nil)
 (pss_cons (ps_if (pt_cmpR op_gt (pe_bm PySem.F.plainAttrs_list PySem.F.slot_list_count PySem.F.type_list_count mt_lcount (pv 6) (pa_cons pe_int pa_nil)) (pe_ifExp (pt_cmpR op_eq (pe_ix (k_ix_tup K) (pv 0) pe_int (fun _ _ => rfl)) pe_int (nomark _)) pe_int (pe_ifExp (pt_cmpR op_eq (pv 1) pe_str (nomark _)) pe_int pe_int)) (nomark _))
 (pss_one ps_continue)
 pss_nil)
 (pss_cons (ps_set (i := 8) sc_law_grown.nd rfl (Or.inl rfl) (pe_ifExp (k_pt_tr K (pe_ix (k_ix_tup K) (pv 0) pe_int (fun _ _ => rfl))) (pe_callB (k_max K) (by rfl) T.max_ bb_max (pa_cons (pe_op d_cat (pe_lst (pa_cons pe_int pa_nil)) (pv 7)) pa_nil)) pe_int))
 (pss_cons (ps_set (i := 9) sc_law_grown.nd rfl (Or.inr rfl) (pe_op d_cat (pe_callTy (k_list K) (by rfl) T.list_ bb_list (pa_cons (pv 3) pa_nil)) (pe_lst (pa_cons (pe_callB (k_max K) (by rfl) T.max_ bb_max (pa_cons (pe_op d_cat (pe_lst (pa_cons (pv 8) pa_nil)) (pe_callTy (k_list K) (by rfl) T.list_ bb_list (pa_cons (pe_slice (k_sl_tupA K) (pv 3) (po_some (pe_op op_sub (pe_callB (k_len K) (by rfl) T.len_ bb_len (pa_cons (pv 3) pa_nil)) pe_int)) po_none) pa_nil))) pa_nil)) pa_nil))))
 (pss_cons (ps_setLc (i := 10) (own := [("k", 11)]) rfl sc_law_grown.nd rfl rfl (sw_true rfl rfl rfl (by decide +kernel)) (pi_range1 rfl T.range_ (pa_cons (pe_callB (k_len K) (by rfl) T.len_ bb_len (pa_cons (pv 2) pa_nil)) pa_nil)) (blkOk_by (own := [("k", 11)]) (N := N_law_grown) (sc := defScope s_law_grown) (by decide +kernel)) (fun _ _ _ _ _ => (pg_name (i := 11) sc_law_grown.nd rfl (Or.inl rfl))) (fun _ _ _ _ _ => pts_nil) (fun _ _ _ _ _ => (pe_op op_add (pe_op op_sub (pe_ix (k_ix_tup K) (pv 2) (pv 11) (fun _ _ => rfl)) (pe_ix (k_ix_list K) (pv 9) pe_int (fun _ _ => rfl))) (pe_ifExp (k_pt_tr K (pe_ix (k_ix_list K) (pv 6) (pv 11) (fun _ _ => rfl))) pe_int pe_int))))
 (pss_one (ps_dputN hr.units (pv 4) (pe_tup (pa_cons (pe_callTy (k_tuple K) (by rfl) T.tuple_ bb_tuple (pa_cons (pv 10) pa_nil)) (pa_cons (pe_callTy (k_tuple K) (by rfl) T.tuple_ bb_tuple (pa_cons (pe_lc (own := [("item", 12)]) rfl sc_law_grown.nd (pi_list (pe_slice (k_sl_list K) (pv 9) (po_some pe_int) po_none)) (blkOk_by (own := [("item", 12)]) (N := N_law_grown) (sc := defScope s_law_grown) (by decide +kernel)) (fun _ _ _ _ _ => (pg_name (i := 12) sc_law_grown.nd rfl (Or.inl rfl))) (fun _ _ _ _ _ => pts_nil) (fun _ _ _ _ _ => (pe_op op_sub (pv 12) (pe_ix (k_ix_list K) (pv 9) pe_int (fun _ _ => rfl))))) pa_nil)) pa_nil))) pe_bl rfl))))))))))
 (pss_one (ps_ret (pe_callTy (call_list_dN rfl) (by rfl) T.list_ bb_list (pa_cons (pv 4) pa_nil)))))), ?_⟩
  rintro M0 ds r ⟨hands, mode, ways, heights, rfl, hk, rfl⟩ hQ
  have he : law_grown hands mode ways heights = _ := law_grown.eq_1 hands mode ways heights
  rw [law_grown_ok.eq_1] at hk
  show Sd _ _ [.dat ((e2 Dt.int Dt.int) hands), .dat (eS mode), .dat ((eT Dt.int) ways), .dat ((eT Dt.int) heights), .any, .any, .any, .any, .any, .any, .any, .any, .any] _ _
  refine sd_newE (i := 4) (e2 (eT Dt.int) (eT Dt.int)) he hk  fun p1 hp1 found2 he3 hk4 => ?_
  show Sd _ _ [.dat ((e2 Dt.int Dt.int) hands), .dat (eS mode), .dat ((eT Dt.int) ways), .dat ((eT Dt.int) heights), .ownX p1 (NX P w K p1 (e2 (eT Dt.int) (eT Dt.int)) found2), .any, .any, .any, .any, .any, .any, .any, .any] _ _
  refine sd_forS (fun (s : List ((List Int × List Int))) => [(4, .ownX p1 (NX P w K p1 (e2 (eT Dt.int) (eT Dt.int)) s)), (5, .any), (6, .any), (7, .any), (8, .any), (9, .any), (10, .any)]) Dt.int he3 (b2 hk4) (b2 (b1 hk4)) (wk_rng1 (ed_if Dt.int (et_test (ed_eqI (ed_lenTL (f := Dt.int) (ed_var rfl)) ed_int)) (fun q5 => ed_int) (fun q6 => ed_int)) (midM (b1 (b1 hk4)))) (.same (.same (.same (.same (.same (.any (.any (.any (.any (.any (.any (.same (.same .nil))))))))))))) (fun c' x s => gd_name) (fun B22 eB23 i10 x8 s9 hx13 hs14 y15 he16 hk21 N17 B18 hN19 hB20 => ?_) (fun s72 he73 hk74 => ?_)
  · show Sd _ _ [.dat ((e2 Dt.int Dt.int) hands), .dat (eS mode), .dat ((eT Dt.int) ways), .dat ((eT Dt.int) heights), .ownX p1 (NX P w K p1 (e2 (eT Dt.int) (eT Dt.int)) s9), .dat (Dt.int x8), .any, .any, .any, .any, .any, .any, .any] _ _
    refine sd_asgE (i := 6) (eL Dt.int) he16 hk21 (ed_slL (f := Dt.int) (el_dat (En.ed (en_l2 (f := Dt.int) (ed_iic (ed_int1 (ed_var rfl)) ed_int (by decide)) (ed_iic (ed_var rfl) ed_int ⟨by decide, by decide⟩)))) eo_none (eo_some (ed_lenTL (f := Dt.int) (ed_var rfl)))) fun deeds24 he25 hk26 => ?_
    show Sd _ _ [.dat ((e2 Dt.int Dt.int) hands), .dat (eS mode), .dat ((eT Dt.int) ways), .dat ((eT Dt.int) heights), .ownX p1 (NX P w K p1 (e2 (eT Dt.int) (eT Dt.int)) s9), .dat (Dt.int x8), .dat ((eL Dt.int) deeds24), .any, .any, .any, .any, .any, .any] _ _
    refine sd_asgE (i := 7) (eL Dt.int) he25 (b2 hk26) (En.ed (en_lcf (en := Dt.int) (en' := Dt.int) (WalkI.e (wk_rng1 (ed_lenTL (f := Dt.int) (ed_var rfl)) (midM (b1 (b1 hk26))))) (ltM (bD (b1 (b2 (b1 hk26))))) (fun d28 y27 m29 => gd_name) (gw_name (by decide)) (fun d28 y27 m29 => (et_test (ed_eqI (ed_ixL (f := Dt.int) (el_dat (ed_var rfl)) (ed_var rfl) (bD (b1 (allP (b1 (b2 (b2 (b1 hk26)))) m29))) (bD (b2 (allP (b1 (b2 (b2 (b1 hk26)))) m29)))) ed_int))) (fun d28 y27 m29 q30 => (ed_ii (ed_ixTL (f := Dt.int) (ed_var rfl) (ed_var rfl) (bD (b1 (bI (allP (b2 (b2 (b2 (b1 hk26)))) m29) q30))) (bD (b2 (bI (allP (b2 (b2 (b2 (b1 hk26)))) m29) q30)))) ed_int)))) fun made31 he32 hk33 => ?_
    show Sd _ _ [.dat ((e2 Dt.int Dt.int) hands), .dat (eS mode), .dat ((eT Dt.int) ways), .dat ((eT Dt.int) heights), .ownX p1 (NX P w K p1 (e2 (eT Dt.int) (eT Dt.int)) s9), .dat (Dt.int x8), .dat ((eL Dt.int) deeds24), .dat ((eL Dt.int) made31), .any, .any, .any, .any, .any] _ _
    refine sd_whenE he32 (et_or (et_test (ed_ib (ed_len (f := Dt.int) (el_dat (ed_var rfl))) (ed_ixT (k := 0) (ed_var rfl) ed_int rfl))) (fun q35 => (et_and (et_trM (el_dat (ed_var rfl))) (fun q34 => (et_test (ed_ib (ed_minL (el_dat (ed_var rfl)) (bD (bI (bE (b1 hk33) q35) q34))) ed_int)))))) (fun hb36 he38 => ?_) (fun hb37 he39 => ?_)
    · exact sd_cont (fun σ H w => hN19 _ σ H he38 (WS.wk w (.same (.same (.same (.same (.same (.any (.any (.any (.any (.any (.any (.same (.same .nil)))))))))))))))
    · refine sd_whenE he39 (et_test (ed_ib (ed_count (el_dat (ed_var rfl)) ed_int) (ed_if Dt.int (et_test (ed_eqI (ed_ixT (k := 1) (ed_var rfl) ed_int rfl) ed_int)) (fun q42 => ed_int) (fun q43 => (ed_if Dt.int (et_test (ed_eqS (ed_var rfl) (ed_strc [111, 110, 99, 101] (by rfl)))) (fun q40 => ed_int) (fun q41 => ed_int)))))) (fun hb44 he46 => ?_) (fun hb45 he47 => ?_)
      · exact sd_cont (fun σ H w => hN19 _ σ H he46 (WS.wk w (.same (.same (.same (.same (.same (.any (.any (.any (.any (.any (.any (.same (.same .nil)))))))))))))))
      · refine sd_asgE (i := 8) Dt.int he47 (b2 (cF (cF (b2 hk33) hb37) hb45)) (ed_if Dt.int (et_trI (ed_ixT (k := 0) (ed_var rfl) ed_int rfl)) (fun q48 => (ed_maxL (el_dat (ed_cat (f := Dt.int) (el_dat (En.ed (en_l1 (f := Dt.int) ed_int))) (el_dat (ed_var rfl)) (ltM (bD (b1 (bI (b1 (cF (cF (b2 hk33) hb37) hb45)) q48)))))) (bD (b2 (bI (b1 (cF (cF (b2 hk33) hb37) hb45)) q48))))) (fun q49 => ed_int)) fun height50 he51 hk52 => ?_
        show Sd _ _ [.dat ((e2 Dt.int Dt.int) hands), .dat (eS mode), .dat ((eT Dt.int) ways), .dat ((eT Dt.int) heights), .ownX p1 (NX P w K p1 (e2 (eT Dt.int) (eT Dt.int)) s9), .dat (Dt.int x8), .dat ((eL Dt.int) deeds24), .dat ((eL Dt.int) made31), .dat (Dt.int height50), .any, .any, .any, .any] _ _
        refine sd_asgE (i := 9) (eL Dt.int) he51 (b2 hk52) (ed_cat (f := Dt.int) (el_dat (ed_listT (ed_var rfl))) (el_dat (En.ed (en_l1 (f := Dt.int) (ed_maxL (el_dat (ed_cat (f := Dt.int) (el_dat (En.ed (en_l1 (f := Dt.int) (ed_var rfl)))) (el_dat (ed_listT (ed_slT (f := Dt.int) (ed_var rfl) (eo_some (ed_ii (ed_lenTL (f := Dt.int) (ed_var rfl)) ed_int)) eo_none))) (ltM (bD (b1 (b1 hk52)))))) (bD (b1 (b2 (b1 hk52)))))))) (ltM (bD (b2 (b2 (b1 hk52)))))) fun row53 he54 hk55 => ?_
        show Sd _ _ [.dat ((e2 Dt.int Dt.int) hands), .dat (eS mode), .dat ((eT Dt.int) ways), .dat ((eT Dt.int) heights), .ownX p1 (NX P w K p1 (e2 (eT Dt.int) (eT Dt.int)) s9), .dat (Dt.int x8), .dat ((eL Dt.int) deeds24), .dat ((eL Dt.int) made31), .dat (Dt.int height50), .dat ((eL Dt.int) row53), .any, .any, .any] _ _
        refine sd_asgE (i := 10) (eL Dt.int) he54 (b2 hk55) (En.ed (en_lcm (en := Dt.int) (en' := Dt.int) (WalkI.e (wk_rng1 (ed_lenTL (f := Dt.int) (ed_var rfl)) (midM (b1 (b1 hk55))))) (ltM (bD (b1 (b2 (b1 hk55))))) (fun d59 y56 m60 => gd_name) (gw_name (by decide)) (fun d59 y56 m60 => (ed_ii (ed_ii (ed_ixTL (f := Dt.int) (ed_var rfl) (ed_var rfl) (bD (b1 (allP (b2 (b2 (b1 hk55))) m60))) (bD (b1 (b2 (allP (b2 (b2 (b1 hk55))) m60))))) (ed_ixL (f := Dt.int) (el_dat (ed_var rfl)) ed_int (bD (b1 (b2 (b2 (allP (b2 (b2 (b1 hk55))) m60))))) (bD (b1 (b2 (b2 (b2 (allP (b2 (b2 (b1 hk55))) m60)))))))) (ed_if Dt.int (et_trI (ed_ixL (f := Dt.int) (el_dat (ed_var rfl)) (ed_var rfl) (bD (b1 (b2 (b2 (b2 (b2 (allP (b2 (b2 (b1 hk55))) m60))))))) (bD (b2 (b2 (b2 (b2 (b2 (allP (b2 (b2 (b1 hk55))) m60))))))))) (fun q57 => ed_int) (fun q58 => ed_int)))))) fun lengths62 he63 hk64 => ?_
        show Sd _ _ [.dat ((e2 Dt.int Dt.int) hands), .dat (eS mode), .dat ((eT Dt.int) ways), .dat ((eT Dt.int) heights), .ownX p1 (NX P w K p1 (e2 (eT Dt.int) (eT Dt.int)) s9), .dat (Dt.int x8), .dat ((eL Dt.int) deeds24), .dat ((eL Dt.int) made31), .dat (Dt.int height50), .dat ((eL Dt.int) row53), .dat ((eL Dt.int) lengths62), .any, .any] _ _
        refine sd_putEL (i := 4) (p := p1) (e2 (eT Dt.int) (eT Dt.int)) keTT he63 (b2 hk64) rfl (ed_tup2 (f := (eT Dt.int)) (g := (eT Dt.int)) (ed_tupL (el_dat (ed_var rfl))) (ed_tupL (el_dat (En.ed (en_lcm (en := Dt.int) (en' := Dt.int) (WalkI.e (wk_list (ed_slL (f := Dt.int) (el_dat (ed_var rfl)) (eo_some ed_int) eo_none))) (ltM (bD (b1 (b1 hk64)))) (fun d66 y65 m67 => gd_name) (gw_name (by decide)) (fun d66 y65 m67 => (ed_ii (ed_var rfl) (ed_ixL (f := Dt.int) (el_dat (ed_var rfl)) ed_int (bD (b1 (allP (b1 (b2 (b1 hk64))) m67))) (bD (b2 (allP (b1 (b2 (b1 hk64))) m67))))))))))) (bD (b2 (b2 (b1 hk64)))) trivial fun found69 he70 hk71 => ?_
        exact (fun σ H w => hN19 _ σ H he70 (WS.wk w (.same (.same (.same (.same (.same (.any (.any (.any (.any (.any (.any (.same (.same .nil)))))))))))))))
  · show Sd _ _ [.dat ((e2 Dt.int Dt.int) hands), .dat (eS mode), .dat ((eT Dt.int) ways), .dat ((eT Dt.int) heights), .ownX p1 (NX P w K p1 (e2 (eT Dt.int) (eT Dt.int)) s72), .any, .any, .any, .any, .any, .any, .any, .any] _ _
    exact sd_retF (eL (e2 (eT Dt.int) (eT Dt.int))) he73 (ed_listX rfl) (hQ.to (congrArg (eL (e2 (eT Dt.int) (eT Dt.int))) he73))

end K58
end

section
set_option maxHeartbeats 1000000
namespace K58
open PySem L2 Evl Dl
theorem cal_law_sorted {P : Program} {w : World} {K : PySem.W.Frag} {mg : Str → Option Value} {base : Heap} {f : Addr} {fd : FuncData} (F : FnP K "_law_sorted" "_law_sorted" s_law_sorted f fd) (gl : mg "_law_sorted" = some (.ref f)) (T : Bn mg)  : Cal P w K mg base "_law_sorted" 1 ["found"] (Pf K dom_law_sorted) := by
  refine cal_mk (k := 0) F gl sc_law_sorted (fun _ _ _ _ _ _ us hl => match us, hl with | [_], _ => rfl) (fun ds r h => by obtain ⟨_, rfl, _⟩ := h; rfl) (fun cdv A outer s H Q E hr => ?_)
  have hu := hu_of hr
  refine ⟨_, (pss_one (ps_ret (pe_lc (own := [("item", 1)]) rfl sc_law_sorted.nd (pi_list (pv 0)) (blkOk_by (own := [("item", 1)]) (N := N_law_sorted) (sc := defScope s_law_sorted) (by decide +kernel)) (fun _ _ _ _ _ => (pg_name (i := 1) sc_law_sorted.nd rfl (Or.inl rfl))) (fun _ _ _ _ _ => pts_nil) (fun _ _ _ _ _ => (pe_tup (pa_cons (pe_callTy (k_tuple K) (by rfl) T.tuple_ bb_tuple (pa_cons (pe_callBK (k_sortT K) (by rfl) T.sorted_ bb_sorted (pa_cons (pe_ix (k_ix_tup K) (pv 1) pe_int (fun _ _ => rfl)) pa_nil) (pk_cons pe_bl pk_nil)) pa_nil)) (pa_cons (pe_ix (k_ix_tup K) (pv 1) pe_int (fun _ _ => rfl)) pa_nil))))))), ?_⟩
  rintro M0 ds r ⟨found, rfl, hk, rfl⟩ hQ
  have he : law_sorted found = _ := law_sorted.eq_1 found
  rw [law_sorted_ok.eq_1] at hk
  show Sd _ _ [.dat ((eL (e2 (eT Dt.int) (eT Dt.int))) found), .any] _ _
  exact sd_retF (eL (e2 (eT Dt.int) (eT Dt.int))) he (En.ed (en_lcm (en := (e2 (eT Dt.int) (eT Dt.int))) (en' := (e2 (eT Dt.int) (eT Dt.int))) (WalkI.e (wk_list (ed_var rfl))) (ltM (bD (b1 hk))) (fun d2 y1 m3 => gd_name) (gw_name (by decide)) (fun d2 y1 m3 => (ed_tup2 (f := (eT Dt.int)) (g := (eT Dt.int)) (ed_sortR (ed_ixT (k := 0) (ed_var rfl) ed_int rfl) (bD (allP (b2 hk) m3))) (ed_ixT (k := 1) (ed_var rfl) ed_int rfl))))) (hQ.to (congrArg (eL (e2 (eT Dt.int) (eT Dt.int))) he))

end K58
end

section
set_option maxHeartbeats 1000000
namespace K58
open PySem L2 Evl Dl
theorem cal_law_wins {P : Program} {w : World} {K : PySem.W.Frag} {mg : Str → Option Value} {base : Heap} {f : Addr} {fd : FuncData} (F : FnP K "_law_wins" "_law_wins" s_law_wins f fd) (gl : mg "_law_wins" = some (.ref f)) (T : Bn mg) (C_law_hands : Cal P w K mg base "_law_hands" 1 ["line", "spot"] (Pf K dom_law_hands)) (C_law_sorted : Cal P w K mg base "_law_sorted" 1 ["found"] (Pf K dom_law_sorted)) (C_law_grown : Cal P w K mg base "_law_grown" 1 ["hands", "mode", "ways", "heights"] (Pf K dom_law_grown)) : Cal P w K mg base "_law_wins" 2 ["more", "first", "mode", "spot", "ones", "pairs"] (Pf K dom_law_wins) := by
  refine cal_mk (k := 1) F gl sc_law_wins (fun _ _ _ _ _ _ us hl => match us, hl with | [_, _, _, _, _, _], _ => rfl) (fun ds r h => by obtain ⟨_, _, _, _, _, _, rfl, _⟩ := h; rfl) (fun cdv A outer s H Q E hr => ?_)
  have hu := hu_of hr
  refine ⟨_, (pss_cons (ps_for PassesOwn.never rfl (pi_range1 rfl T.range_ (pa_cons (pe_callB d_lenS (by rfl) T.len_ bb_len (pa_cons (pv 0) pa_nil)) pa_nil)) (pg_name (i := 6) sc_law_wins.nd rfl (Or.inl rfl))
 (pss_cons (ps_set (i := 7) sc_law_wins.nd rfl (Or.inl rfl) (pe_cal C_law_hands hr (by decide) (pa_cons (pv 0) (pa_cons (pe_op op_add (pv 6) pe_int) pa_nil))))
 (pss_cons (ps_set (i := 8) sc_law_wins.nd rfl (Or.inl rfl) pe_dnewN)
 (pss_cons (ps_for PassesOwn.never rfl (pi_list (pv 5)) (pg_name (i := 9) sc_law_wins.nd rfl (Or.inl rfl))
 (pss_one (ps_dputN hr.units (pv 8) (pv 9) pe_bl rfl)))
 (pss_cons (ps_set (i := 10) sc_law_wins.nd rfl (Or.inl rfl) pe_dnewN)
 (pss_cons (ps_for PassesOwn.never rfl (pi_list (pv 4)) (pg_name (i := 11) sc_law_wins.nd rfl (Or.inl rfl))
 (pss_cons (ps_dputN hr.units (pv 8) (pe_tup (pa_cons (pe_tup (pa_cons (pe_ix (k_ix_tup K) (pe_ix (k_ix_tup K) (pv 11) pe_int (fun _ _ => rfl)) pe_int (fun _ _ => rfl)) (pa_cons (pe_ix (k_ix_tup K) (pe_ix (k_ix_tup K) (pv 11) pe_int (fun _ _ => rfl)) pe_int (fun _ _ => rfl)) pa_nil))) (pa_cons (pe_ix (k_ix_tup K) (pv 11) pe_int (fun _ _ => rfl)) pa_nil))) pe_bl rfl)
 (pss_one (ps_if (pt_cmpR op_lt (pe_op op_add (pe_op op_add (pv 1) (pv 6)) pe_int) (pv 3) (nomark _))
 (pss_one (ps_for PassesOwn.never rfl (pi_list (pe_cal C_law_grown hr (by decide) (pa_cons (pv 7) (pa_cons (pv 2) (pa_cons (pe_ix (k_ix_tup K) (pv 11) pe_int (fun _ _ => rfl)) (pa_cons (pe_ix (k_ix_tup K) (pv 11) pe_int (fun _ _ => rfl)) pa_nil)))))) (pg_name (i := 12) sc_law_wins.nd rfl (Or.inl rfl))
 (pss_one (ps_dputN hr.units (pv 10) (pv 12) pe_bl rfl))))
 pss_nil))))
 (pss_cons (ps_set (i := 13) sc_law_wins.nd rfl (Or.inl rfl) (pe_op op_sub (pe_op op_add (pv 6) pe_int) (pe_callB d_lenS (by rfl) T.len_ bb_len (pa_cons (pv 0) pa_nil))))
 (pss_cons (ps_set (i := 14) sc_law_wins.nd rfl (Or.inl rfl) pe_dnewN)
 (pss_cons (ps_for PassesOwn.never rfl (pi_keysN (pv 8)) (pg_name (i := 9) sc_law_wins.nd rfl (Or.inl rfl))
 (pss_one (ps_for PassesOwn.never rfl (pi_list (pe_cal C_law_sorted hr (by decide) (pa_cons (pe_cal C_law_grown hr (by decide) (pa_cons (pv 7) (pa_cons (pv 2) (pa_cons (pe_ix (k_ix_tup K) (pv 9) pe_int (fun _ _ => rfl)) (pa_cons (pe_ix (k_ix_tup K) (pv 9) pe_int (fun _ _ => rfl)) pa_nil))))) pa_nil))) (pg_name (i := 12) sc_law_wins.nd rfl (Or.inl rfl))
 (pss_one (ps_if (pt_cmpR op_ge (pe_ix (k_ix_tup K) (pe_ix (k_ix_tup K) (pv 12) pe_int (fun _ _ => rfl)) pe_int (fun _ _ => rfl)) (pv 13) (nomark _))
 (pss_one (ps_dputN hr.units (pv 14) (pv 12) pe_bl rfl))
 pss_nil)))))
 (pss_cons (ps_set (i := 4) sc_law_wins.nd rfl (Or.inl rfl) (pe_callTy (call_list_dN rfl) (by rfl) T.list_ bb_list (pa_cons (pv 10) pa_nil)))
 (pss_one (ps_set (i := 5) sc_law_wins.nd rfl (Or.inl rfl) (pe_callTy (call_list_dN rfl) (by rfl) T.list_ bb_list (pa_cons (pv 14) pa_nil))))))))))))))
 (pss_one (ps_ret (pe_or (pe_callB (k_any K) (by rfl) T.any_ bb_any (pa_cons (pe_lc (own := [("item", 9)]) rfl sc_law_wins.nd (pi_list (pv 5)) (blkOk_by (own := [("item", 9)]) (N := N_law_wins) (sc := defScope s_law_wins) (by decide +kernel)) (fun _ _ _ _ _ => (pg_name (i := 9) sc_law_wins.nd rfl (Or.inl rfl))) (fun _ _ _ _ _ => pts_nil) (fun _ _ _ _ _ => (pe_cmpR op_ge (pe_ix (k_ix_tup K) (pe_ix (k_ix_tup K) (pv 9) pe_int (fun _ _ => rfl)) pe_int (fun _ _ => rfl)) pe_int (nomark _)))) pa_nil)) (pe_one (pe_callB (k_any K) (by rfl) T.any_ bb_any (pa_cons (pe_lc (own := [("one", 11)]) rfl sc_law_wins.nd (pi_list (pv 4)) (blkOk_by (own := [("one", 11)]) (N := N_law_wins) (sc := defScope s_law_wins) (by decide +kernel)) (fun _ _ _ _ _ => (pg_name (i := 11) sc_law_wins.nd rfl (Or.inl rfl))) (fun _ _ _ _ _ => pts_nil) (fun _ _ _ _ _ => (pe_cmpR op_ge (pe_ix (k_ix_tup K) (pe_ix (k_ix_tup K) (pv 11) pe_int (fun _ _ => rfl)) pe_int (fun _ _ => rfl)) pe_int (nomark _)))) pa_nil))))))), ?_⟩
  rintro M0 ds r ⟨more, first, mode, spot, ones, pairs, rfl, hk, rfl⟩ hQ
  have he : law_wins more first mode spot ones pairs = _ := law_wins.eq_1 more first mode spot ones pairs
  rw [law_wins_ok.eq_1] at hk
  show Sd _ _ [.dat (eS more), .dat (Dt.int first), .dat (eS mode), .dat (Dt.int spot), .dat ((eL (e2 (eT Dt.int) (eT Dt.int))) ones), .dat ((eL (e2 (eT Dt.int) (eT Dt.int))) pairs), .any, .any, .any, .any, .any, .any, .any, .any, .any] _ _
  refine sd_forS (fun (s : List ((List Int × List Int)) × List ((List Int × List Int))) => [(4, .dat ((eL (e2 (eT Dt.int) (eT Dt.int))) s.1)), (5, .dat ((eL (e2 (eT Dt.int) (eT Dt.int))) s.2)), (6, .any), (7, .any), (8, .any), (9, .any), (10, .any), (11, .any), (12, .any), (13, .any), (14, .any)]) Dt.int he (b2 hk) (b2 (b2 (b1 hk))) (wk_rng1 (ed_lenS (ed_var rfl) (bD (b1 (b1 hk)))) (midM (b1 (b2 (b1 hk))))) (.same (.same (.same (.same (.same (.same (.any (.any (.any (.any (.any (.any (.any (.any (.any .nil))))))))))))))) (fun c' x s => gd_name) (fun B16 eB17 i4 x2 s3 hx7 hs8 y9 he10 hk15 N11 B12 hN13 hB14 => ?_) (fun s162 he163 hk164 => ?_)
  · show Sd _ _ [.dat (eS more), .dat (Dt.int first), .dat (eS mode), .dat (Dt.int spot), .dat ((eL (e2 (eT Dt.int) (eT Dt.int))) s3.1), .dat ((eL (e2 (eT Dt.int) (eT Dt.int))) s3.2), .dat (Dt.int x2), .any, .any, .any, .any, .any, .any, .any, .any] _ _
    refine sd_asgE (i := 7) (e2 Dt.int Dt.int) he10 (b2 hk15) (ed_call (ea_cons (ed_var rfl) (ea_cons (ed_ii (ed_var rfl) ed_int) ea_nil)) ⟨_, _, rfl, (b1 hk15), rfl⟩) fun hands18 he19 hk20 => ?_
    show Sd _ _ [.dat (eS more), .dat (Dt.int first), .dat (eS mode), .dat (Dt.int spot), .dat ((eL (e2 (eT Dt.int) (eT Dt.int))) s3.1), .dat ((eL (e2 (eT Dt.int) (eT Dt.int))) s3.2), .dat (Dt.int x2), .dat ((e2 Dt.int Dt.int) hands18), .any, .any, .any, .any, .any, .any, .any] _ _
    refine sd_newE (i := 8) (e2 (eT Dt.int) (eT Dt.int)) he19 hk20  fun p21 hp21 here22 he23 hk24 => ?_
    show Sd _ _ [.dat (eS more), .dat (Dt.int first), .dat (eS mode), .dat (Dt.int spot), .dat ((eL (e2 (eT Dt.int) (eT Dt.int))) s3.1), .dat ((eL (e2 (eT Dt.int) (eT Dt.int))) s3.2), .dat (Dt.int x2), .dat ((e2 Dt.int Dt.int) hands18), .ownX p21 (NX P w K p21 (e2 (eT Dt.int) (eT Dt.int)) here22), .any, .any, .any, .any, .any, .any] _ _
    refine sd_forS (fun (s : List ((List Int × List Int))) => [(8, .ownX p21 (NX P w K p21 (e2 (eT Dt.int) (eT Dt.int)) s)), (9, .any)]) (e2 (eT Dt.int) (eT Dt.int)) he23 (b2 hk24) (b1 hk24) (wk_list (ed_var rfl)) (.same (.same (.same (.same (.same (.same (.same (.same (.same (.any (.same (.same (.same (.same (.same .nil))))))))))))))) (fun c' x s => gd_name) (fun B40 eB41 i28 x26 s27 hx31 hs32 y33 he34 hk39 N35 B36 hN37 hB38 => ?_) (fun s45 he46 hk47 => ?_)
    · show Sd _ _ [.dat (eS more), .dat (Dt.int first), .dat (eS mode), .dat (Dt.int spot), .dat ((eL (e2 (eT Dt.int) (eT Dt.int))) s3.1), .dat ((eL (e2 (eT Dt.int) (eT Dt.int))) s3.2), .dat (Dt.int x2), .dat ((e2 Dt.int Dt.int) hands18), .ownX p21 (NX P w K p21 (e2 (eT Dt.int) (eT Dt.int)) s27), .dat ((e2 (eT Dt.int) (eT Dt.int)) x26), .any, .any, .any, .any, .any] _ _
      refine sd_putEL (i := 8) (p := p21) (e2 (eT Dt.int) (eT Dt.int)) keTT he34 (b2 hk39) rfl (ed_var rfl) (bD (b1 hk39)) trivial fun here42 he43 hk44 => ?_
      exact (fun σ H w => hN37 _ σ H he43 (WS.wk w (.same (.same (.same (.same (.same (.same (.same (.same (.same (.any (.same (.same (.same (.same (.same .nil)))))))))))))))))
    · show Sd _ _ [.dat (eS more), .dat (Dt.int first), .dat (eS mode), .dat (Dt.int spot), .dat ((eL (e2 (eT Dt.int) (eT Dt.int))) s3.1), .dat ((eL (e2 (eT Dt.int) (eT Dt.int))) s3.2), .dat (Dt.int x2), .dat ((e2 Dt.int Dt.int) hands18), .ownX p21 (NX P w K p21 (e2 (eT Dt.int) (eT Dt.int)) s45), .any, .any, .any, .any, .any, .any] _ _
      refine sd_newE (i := 10) (e2 (eT Dt.int) (eT Dt.int)) he46 hk47  fun p48 hp48 after49 he50 hk51 => ?_
      have ne_p48_p21 : p48 ≠ p21 := own_ne hp48 (by simp)
      have ne_p21_p48 : p21 ≠ p48 := Ne.symm ne_p48_p21
      show Sd _ _ [.dat (eS more), .dat (Dt.int first), .dat (eS mode), .dat (Dt.int spot), .dat ((eL (e2 (eT Dt.int) (eT Dt.int))) s3.1), .dat ((eL (e2 (eT Dt.int) (eT Dt.int))) s3.2), .dat (Dt.int x2), .dat ((e2 Dt.int Dt.int) hands18), .ownX p21 (NX P w K p21 (e2 (eT Dt.int) (eT Dt.int)) s45), .any, .ownX p48 (NX P w K p48 (e2 (eT Dt.int) (eT Dt.int)) after49), .any, .any, .any, .any] _ _
      refine sd_forS (fun (s : List ((List Int × List Int)) × List ((List Int × List Int))) => [(8, .ownX p21 (NX P w K p21 (e2 (eT Dt.int) (eT Dt.int)) s.1)), (10, .ownX p48 (NX P w K p48 (e2 (eT Dt.int) (eT Dt.int)) s.2)), (11, .any), (12, .any)]) (e2 (eT Dt.int) (eT Dt.int)) he50 (b2 hk51) (b1 hk51) (wk_list (ed_var rfl)) (.same (.same (.same (.same (.same (.same (.same (.same (.same (.same (.same (.any (.any (.same (.same .nil))))))))))))))) (fun c' x s => gd_name) (fun B67 eB68 i55 x53 s54 hx58 hs59 y60 he61 hk66 N62 B63 hN64 hB65 => ?_) (fun s99 he100 hk101 => ?_)
      · show Sd _ _ [.dat (eS more), .dat (Dt.int first), .dat (eS mode), .dat (Dt.int spot), .dat ((eL (e2 (eT Dt.int) (eT Dt.int))) s3.1), .dat ((eL (e2 (eT Dt.int) (eT Dt.int))) s3.2), .dat (Dt.int x2), .dat ((e2 Dt.int Dt.int) hands18), .ownX p21 (NX P w K p21 (e2 (eT Dt.int) (eT Dt.int)) s54.1), .any, .ownX p48 (NX P w K p48 (e2 (eT Dt.int) (eT Dt.int)) s54.2), .dat ((e2 (eT Dt.int) (eT Dt.int)) x53), .any, .any, .any] _ _
        refine sd_putE (i := 8) (p := p21) (e2 (eT Dt.int) (eT Dt.int)) keTT he61 (b2 hk66) rfl (ed_tup2 (f := (eT Dt.int)) (g := (eT Dt.int)) (ed_t2 (f := Dt.int) (ed_ixTL (f := Dt.int) (ed_ixT (k := 0) (ed_var rfl) ed_int rfl) ed_int (bD (b1 (b1 hk66))) (bD (b1 (b2 (b1 hk66))))) (ed_ixTL (f := Dt.int) (ed_ixT (k := 0) (ed_var rfl) ed_int rfl) ed_int (bD (b1 (b2 (b2 (b1 hk66))))) (bD (b1 (b2 (b2 (b2 (b1 hk66)))))))) (ed_ixT (k := 1) (ed_var rfl) ed_int rfl)) (bD (b2 (b2 (b2 (b2 (b1 hk66)))))) (And.intro ne_p48_p21 trivial) fun here69 he70 hk71 => ?_
        show Sd _ _ [.dat (eS more), .dat (Dt.int first), .dat (eS mode), .dat (Dt.int spot), .dat ((eL (e2 (eT Dt.int) (eT Dt.int))) s3.1), .dat ((eL (e2 (eT Dt.int) (eT Dt.int))) s3.2), .dat (Dt.int x2), .dat ((e2 Dt.int Dt.int) hands18), .ownX p21 (NX P w K p21 (e2 (eT Dt.int) (eT Dt.int)) here69), .any, .ownX p48 (NX P w K p48 (e2 (eT Dt.int) (eT Dt.int)) s54.2), .dat ((e2 (eT Dt.int) (eT Dt.int)) x53), .any, .any, .any] _ _
        refine sd_ifE he70 (et_test (ed_ib (ed_ii (ed_ii (ed_var rfl) (ed_var rfl)) ed_int) (ed_var rfl))) (fun hb72 he74 => ?_) (fun hb73 he75 => ?_)
        · refine sd_forSL (fun (s : List ((List Int × List Int))) => [(10, .ownX p48 (NX P w K p48 (e2 (eT Dt.int) (eT Dt.int)) s)), (12, .any)]) (e2 (eT Dt.int) (eT Dt.int)) he74 (b2 (cT hk71 hb72)) (b2 (b1 (cT hk71 hb72))) (wk_list (ed_call (ea_cons (ed_var rfl) (ea_cons (ed_var rfl) (ea_cons (ed_ixT (k := 0) (ed_var rfl) ed_int rfl) (ea_cons (ed_ixT (k := 1) (ed_var rfl) ed_int rfl) ea_nil)))) ⟨_, _, _, _, rfl, (b1 (b1 (cT hk71 hb72))), rfl⟩)) (.same (.same (.same (.same (.same (.same (.same (.same (.same (.same (.same (.same (.any (.same (.same .nil))))))))))))))) (fun c' x s => gd_name) (fun B91 eB92 i79 x77 s78 hx82 hs83 y84 he85 hk90 N86 B87 hN88 hB89 => ?_) (fun s96 he97 hk98 => ?_)
          · show Sd _ _ [.dat (eS more), .dat (Dt.int first), .dat (eS mode), .dat (Dt.int spot), .dat ((eL (e2 (eT Dt.int) (eT Dt.int))) s3.1), .dat ((eL (e2 (eT Dt.int) (eT Dt.int))) s3.2), .dat (Dt.int x2), .dat ((e2 Dt.int Dt.int) hands18), .ownX p21 (NX P w K p21 (e2 (eT Dt.int) (eT Dt.int)) here69), .any, .ownX p48 (NX P w K p48 (e2 (eT Dt.int) (eT Dt.int)) s78), .dat ((e2 (eT Dt.int) (eT Dt.int)) x53), .dat ((e2 (eT Dt.int) (eT Dt.int)) x77), .any, .any] _ _
            refine sd_putEL (i := 10) (p := p48) (e2 (eT Dt.int) (eT Dt.int)) keTT he85 (b2 hk90) rfl (ed_var rfl) (bD (b1 hk90)) (And.intro ne_p21_p48 trivial) fun after93 he94 hk95 => ?_
            exact (fun σ H w => hN88 _ σ H he94 (WS.wk w (.same (.same (.same (.same (.same (.same (.same (.same (.same (.same (.same (.same (.any (.same (.same .nil)))))))))))))))))
          · exact (fun σ H w => hN64 _ σ H he97 (WS.wk w (.same (.same (.same (.same (.same (.same (.same (.same (.same (.same (.same (.any (.any (.same (.same .nil)))))))))))))))))
        · exact sd_next (fun σ H w => hN64 _ σ H he75 (WS.wk w (.same (.same (.same (.same (.same (.same (.same (.same (.same (.same (.same (.any (.any (.same (.same .nil)))))))))))))))))
      · show Sd _ _ [.dat (eS more), .dat (Dt.int first), .dat (eS mode), .dat (Dt.int spot), .dat ((eL (e2 (eT Dt.int) (eT Dt.int))) s3.1), .dat ((eL (e2 (eT Dt.int) (eT Dt.int))) s3.2), .dat (Dt.int x2), .dat ((e2 Dt.int Dt.int) hands18), .ownX p21 (NX P w K p21 (e2 (eT Dt.int) (eT Dt.int)) s99.1), .any, .ownX p48 (NX P w K p48 (e2 (eT Dt.int) (eT Dt.int)) s99.2), .any, .any, .any, .any] _ _
        refine sd_asgE (i := 13) Dt.int he100 (b2 hk101) (ed_ii (ed_ii (ed_var rfl) ed_int) (ed_lenS (ed_var rfl) (bD (b1 hk101)))) fun least102 he103 hk104 => ?_
        show Sd _ _ [.dat (eS more), .dat (Dt.int first), .dat (eS mode), .dat (Dt.int spot), .dat ((eL (e2 (eT Dt.int) (eT Dt.int))) s3.1), .dat ((eL (e2 (eT Dt.int) (eT Dt.int))) s3.2), .dat (Dt.int x2), .dat ((e2 Dt.int Dt.int) hands18), .ownX p21 (NX P w K p21 (e2 (eT Dt.int) (eT Dt.int)) s99.1), .any, .ownX p48 (NX P w K p48 (e2 (eT Dt.int) (eT Dt.int)) s99.2), .any, .any, .dat (Dt.int least102), .any] _ _
        refine sd_newE (i := 14) (e2 (eT Dt.int) (eT Dt.int)) he103 hk104  fun p105 hp105 following106 he107 hk108 => ?_
        have ne_p105_p48 : p105 ≠ p48 := own_ne hp105 (by simp)
        have ne_p48_p105 : p48 ≠ p105 := Ne.symm ne_p105_p48
        have ne_p105_p21 : p105 ≠ p21 := own_ne hp105 (by simp)
        have ne_p21_p105 : p21 ≠ p105 := Ne.symm ne_p105_p21
        show Sd _ _ [.dat (eS more), .dat (Dt.int first), .dat (eS mode), .dat (Dt.int spot), .dat ((eL (e2 (eT Dt.int) (eT Dt.int))) s3.1), .dat ((eL (e2 (eT Dt.int) (eT Dt.int))) s3.2), .dat (Dt.int x2), .dat ((e2 Dt.int Dt.int) hands18), .ownX p21 (NX P w K p21 (e2 (eT Dt.int) (eT Dt.int)) s99.1), .any, .ownX p48 (NX P w K p48 (e2 (eT Dt.int) (eT Dt.int)) s99.2), .any, .any, .dat (Dt.int least102), .ownX p105 (NX P w K p105 (e2 (eT Dt.int) (eT Dt.int)) following106)] _ _
        refine sd_giveX (i := 8) (p := p21) (L' := [p105, p48]) rfl (by simp) (by simp [ne_p21_p105, ne_p21_p48]) (And.intro (by simp) (And.intro (by simp) trivial)) ?_
        refine sd_forS (fun (s : List ((List Int × List Int))) => [(14, .ownX p105 (NX P w K p105 (e2 (eT Dt.int) (eT Dt.int)) s)), (9, .any), (12, .any)]) (e2 (eT Dt.int) (eT Dt.int)) he107 (b2 hk108) (b1 hk108) (wk_dic rfl) (.same (.same (.same (.same (.same (.same (.same (.same (.same (.any (.same (.same (.any (.same (.same .nil))))))))))))))) (fun c' x s => gd_name) (fun B124 eB125 i112 x110 s111 hx115 hs116 y117 he118 hk123 N119 B120 hN121 hB122 => ?_) (fun s153 he154 hk155 => ?_)
        · show Sd _ _ [.dat (eS more), .dat (Dt.int first), .dat (eS mode), .dat (Dt.int spot), .dat ((eL (e2 (eT Dt.int) (eT Dt.int))) s3.1), .dat ((eL (e2 (eT Dt.int) (eT Dt.int))) s3.2), .dat (Dt.int x2), .dat ((e2 Dt.int Dt.int) hands18), .dat (.ob (obX p21 (NX P w K p21 (e2 (eT Dt.int) (eT Dt.int)) s99.1))), .dat ((e2 (eT Dt.int) (eT Dt.int)) x110), .ownX p48 (NX P w K p48 (e2 (eT Dt.int) (eT Dt.int)) s99.2), .any, .any, .dat (Dt.int least102), .ownX p105 (NX P w K p105 (e2 (eT Dt.int) (eT Dt.int)) s111)] _ _
          refine sd_forSL (fun (s : List ((List Int × List Int))) => [(14, .ownX p105 (NX P w K p105 (e2 (eT Dt.int) (eT Dt.int)) s)), (12, .any)]) (e2 (eT Dt.int) (eT Dt.int)) he118 (b2 hk123) (b2 (b2 (b1 hk123))) (wk_list (ed_call (ea_cons (ed_call (ea_cons (ed_var rfl) (ea_cons (ed_var rfl) (ea_cons (ed_ixT (k := 0) (ed_var rfl) ed_int rfl) (ea_cons (ed_ixT (k := 1) (ed_var rfl) ed_int rfl) ea_nil)))) ⟨_, _, _, _, rfl, (b1 (b1 hk123)), rfl⟩) ea_nil) ⟨_, rfl, (b1 (b2 (b1 hk123))), rfl⟩)) (.same (.same (.same (.same (.same (.same (.same (.same (.same (.same (.same (.same (.any (.same (.same .nil))))))))))))))) (fun c' x s => gd_name) (fun B141 eB142 i129 x127 s128 hx132 hs133 y134 he135 hk140 N136 B137 hN138 hB139 => ?_) (fun s150 he151 hk152 => ?_)
          · show Sd _ _ [.dat (eS more), .dat (Dt.int first), .dat (eS mode), .dat (Dt.int spot), .dat ((eL (e2 (eT Dt.int) (eT Dt.int))) s3.1), .dat ((eL (e2 (eT Dt.int) (eT Dt.int))) s3.2), .dat (Dt.int x2), .dat ((e2 Dt.int Dt.int) hands18), .dat (.ob (obX p21 (NX P w K p21 (e2 (eT Dt.int) (eT Dt.int)) s99.1))), .dat ((e2 (eT Dt.int) (eT Dt.int)) x110), .ownX p48 (NX P w K p48 (e2 (eT Dt.int) (eT Dt.int)) s99.2), .any, .dat ((e2 (eT Dt.int) (eT Dt.int)) x127), .dat (Dt.int least102), .ownX p105 (NX P w K p105 (e2 (eT Dt.int) (eT Dt.int)) s128)] _ _
            refine sd_ifE he135 (et_test (ed_ib (ed_ixTL (f := Dt.int) (ed_ixT (k := 0) (ed_var rfl) ed_int rfl) ed_int (bD (b1 (b1 hk140))) (bD (b2 (b1 hk140)))) (ed_var rfl))) (fun hb143 he145 => ?_) (fun hb144 he146 => ?_)
            · refine sd_putEL (i := 14) (p := p105) (e2 (eT Dt.int) (eT Dt.int)) keTT he145 (b2 (cT (b2 hk140) hb143)) rfl (ed_var rfl) (bD (b1 (cT (b2 hk140) hb143))) (And.intro ne_p48_p105 trivial) fun following147 he148 hk149 => ?_
              exact (fun σ H w => hN138 _ σ H he148 (WS.wk w (.same (.same (.same (.same (.same (.same (.same (.same (.same (.same (.same (.same (.any (.same (.same .nil)))))))))))))))))
            · exact sd_next (fun σ H w => hN138 _ σ H he146 (WS.wk w (.same (.same (.same (.same (.same (.same (.same (.same (.same (.same (.same (.same (.any (.same (.same .nil)))))))))))))))))
          · exact (fun σ H w => hN121 _ σ H he151 (WS.wk w (.same (.same (.same (.same (.same (.same (.same (.same (.same (.any (.same (.same (.any (.same (.same .nil)))))))))))))))))
        · show Sd _ _ [.dat (eS more), .dat (Dt.int first), .dat (eS mode), .dat (Dt.int spot), .dat ((eL (e2 (eT Dt.int) (eT Dt.int))) s3.1), .dat ((eL (e2 (eT Dt.int) (eT Dt.int))) s3.2), .dat (Dt.int x2), .dat ((e2 Dt.int Dt.int) hands18), .dat (.ob (obX p21 (NX P w K p21 (e2 (eT Dt.int) (eT Dt.int)) s99.1))), .any, .ownX p48 (NX P w K p48 (e2 (eT Dt.int) (eT Dt.int)) s99.2), .any, .any, .dat (Dt.int least102), .ownX p105 (NX P w K p105 (e2 (eT Dt.int) (eT Dt.int)) s153)] _ _
          refine sd_asgE (i := 4) (eL (e2 (eT Dt.int) (eT Dt.int))) he154 hk155 (ed_listX rfl) fun ones156 he157 hk158 => ?_
          show Sd _ _ [.dat (eS more), .dat (Dt.int first), .dat (eS mode), .dat (Dt.int spot), .dat ((eL (e2 (eT Dt.int) (eT Dt.int))) ones156), .dat ((eL (e2 (eT Dt.int) (eT Dt.int))) s3.2), .dat (Dt.int x2), .dat ((e2 Dt.int Dt.int) hands18), .dat (.ob (obX p21 (NX P w K p21 (e2 (eT Dt.int) (eT Dt.int)) s99.1))), .any, .ownX p48 (NX P w K p48 (e2 (eT Dt.int) (eT Dt.int)) s99.2), .any, .any, .dat (Dt.int least102), .ownX p105 (NX P w K p105 (e2 (eT Dt.int) (eT Dt.int)) s153)] _ _
          refine sd_asgEL (i := 5) (eL (e2 (eT Dt.int) (eT Dt.int))) he157 hk158 (ed_listX rfl) fun pairs159 he160 hk161 => ?_
          exact (fun σ H w => hN13 _ σ H he160 (WS.less (WS.wk w (.same (.same (.same (.same (.same (.same (.any (.any (.any (.any (.any (.any (.any (.any (.any .nil)))))))))))))))) (L' := []) (by simp) trivial))
  · show Sd _ _ [.dat (eS more), .dat (Dt.int first), .dat (eS mode), .dat (Dt.int spot), .dat ((eL (e2 (eT Dt.int) (eT Dt.int))) s162.1), .dat ((eL (e2 (eT Dt.int) (eT Dt.int))) s162.2), .any, .any, .any, .any, .any, .any, .any, .any, .any] _ _
    exact sd_retF Dt.bl he163 (ed_orV (ed_any (el_dat (En.ed (en_lcm (en := (e2 (eT Dt.int) (eT Dt.int))) (en' := Dt.bl) (WalkI.e (wk_list (ed_var rfl))) (ltM (bD (b1 hk164))) (fun d166 y165 m167 => gd_name) (gw_name (by decide)) (fun d166 y165 m167 => (ed_ib (ed_ixTL (f := Dt.int) (ed_ixT (k := 0) (ed_var rfl) ed_int rfl) ed_int (bD (b1 (allP (b1 (b2 hk164)) m167))) (bD (b2 (allP (b1 (b2 hk164)) m167)))) ed_int)))))) (fun q173 => (ed_any (el_dat (En.ed (en_lcm (en := (e2 (eT Dt.int) (eT Dt.int))) (en' := Dt.bl) (WalkI.e (wk_list (ed_var rfl))) (ltM (bD (b1 (bE (b2 (b2 hk164)) q173)))) (fun d170 y169 m171 => gd_name) (gw_name (by decide)) (fun d170 y169 m171 => (ed_ib (ed_ixTL (f := Dt.int) (ed_ixT (k := 0) (ed_var rfl) ed_int rfl) ed_int (bD (b1 (allP (b2 (bE (b2 (b2 hk164)) q173)) m171))) (bD (b2 (allP (b2 (bE (b2 (b2 hk164)) q173)) m171)))) ed_int)))))))) (hQ.to (congrArg Dt.bl he163))

end K58
end

section
set_option maxHeartbeats 1000000
namespace K58
open PySem L2 Evl Dl
theorem cal_law_false {P : Program} {w : World} {K : PySem.W.Frag} {mg : Str → Option Value} {base : Heap} {f : Addr} {fd : FuncData} (F : FnP K "_law_false" "_law_false" s_law_false f fd) (gl : mg "_law_false" = some (.ref f)) (T : Bn mg)  : Cal P w K mg base "_law_false" 1 ["line", "low", "high"] (Pf K dom_law_false) := by
  refine cal_mk (k := 0) F gl sc_law_false (fun _ _ _ _ _ _ us hl => match us, hl with | [_, _, _], _ => rfl) (fun ds r h => by obtain ⟨_, _, _, rfl, _⟩ := h; rfl) (fun cdv A outer s H Q E hr => ?_)
  have hu := hu_of hr
  refine ⟨_, (pss_one (ps_ret (pe_callB (k_len K) (by rfl) T.len_ bb_len (pa_cons (pe_lc (own := [("letter", 3)]) rfl sc_law_false.nd (pi_str (pe_slice sl_str (pv 0) (po_some (pv 1)) (po_some (pv 2)))) (blkOk_by (own := [("letter", 3)]) (N := N_law_false) (sc := defScope s_law_false) (by decide +kernel)) (fun _ _ _ _ _ => (pg_name (i := 3) sc_law_false.nd rfl (Or.inl rfl))) (fun _ _ _ _ _ => (pts_one (pt_cmpR d_inS (pv 3) pe_str rfl))) (fun _ _ _ _ _ => (pv 3))) pa_nil)))), ?_⟩
  rintro M0 ds r ⟨line, low, high, rfl, hk, rfl⟩ hQ
  have he : law_false line low high = _ := law_false.eq_1 line low high
  rw [law_false_ok.eq_1] at hk
  show Sd _ _ [.dat (eS line), .dat (Dt.int low), .dat (Dt.int high), .any] _ _
  exact sd_retF Dt.int he (ed_len (f := eC) (el_dat (En.ed (en_lcf (en := eC) (en' := eC) (WalkI.e (wk_str (ed_slS (ed_var rfl) (eo_some (ed_var rfl)) (eo_some (ed_var rfl)) (bD (b1 hk))))) (ltM (bD (b2 hk))) (fun d2 y1 m3 => gd_name) (gw_name (by decide)) (fun d2 y1 m3 => (et_test (ed_inC [97, 98, 66] (ed_var rfl) (ed_strc [97, 98, 66] (by rfl))))) (fun d2 y1 m3 q4 => (ed_var rfl)))))) (hQ.to (congrArg Dt.int he))

end K58
end

section
set_option maxHeartbeats 1000000
namespace K58
open PySem L2 Evl Dl
theorem cal_law_stands {P : Program} {w : World} {K : PySem.W.Frag} {mg : Str → Option Value} {base : Heap} {f : Addr} {fd : FuncData} (F : FnP K "_law_stands" "_law_stands" s_law_stands f fd) (gl : mg "_law_stands" = some (.ref f)) (T : Bn mg) (C_law_deeps : Cal P w K mg base "_law_deeps" 1 ["blocks"] (Pf K dom_law_deeps)) (C_law_known : Cal P w K mg base "_law_known" 2 ["blocks", "late", "when"] (Pf K dom_law_known)) (C_law_fork : Cal P w K mg base "_law_fork" 2 ["blocks", "one", "other"] (Pf K dom_law_fork)) (C_law_false : Cal P w K mg base "_law_false" 1 ["line", "low", "high"] (Pf K dom_law_false)) (C_law_at : Cal P w K mg base "_law_at" 1 ["blocks", "leaf"] (Pf K dom_law_at)) : Cal P w K mg base "_law_stands" 3 ["line", "mode", "late", "blocks", "spot"] (Pf K dom_law_stands) := by
  refine cal_mk (k := 2) F gl sc_law_stands (fun _ _ _ _ _ _ us hl => match us, hl with | [_, _, _, _, _], _ => rfl) (fun ds r h => by obtain ⟨_, _, _, _, _, rfl, _⟩ := h; rfl) (fun cdv A outer s H Q E hr => ?_)
  have hu := hu_of hr
  refine ⟨_, (pss_cons (ps_set (i := 5) sc_law_stands.nd rfl (Or.inr rfl) (pe_callB d_lenS (by rfl) T.len_ bb_len (pa_cons (pv 0) pa_nil)))
 (pss_cons (ps_set (i := 6) sc_law_stands.nd rfl (Or.inl rfl) (pe_cal C_law_deeps hr (by decide) (pa_cons (pv 3) pa_nil)))
 (pss_cons (ps_set (i := 7) sc_law_stands.nd rfl (Or.inr rfl) (pe_cal C_law_known hr (by decide) (pa_cons (pv 3) (pa_cons (pv 2) (pa_cons (pv 5) pa_nil)))))
 (pss_cons (ps_set (i := 8) sc_law_stands.nd rfl (Or.inl rfl) (pe_callTy (k_tuple K) (by rfl) T.tuple_ bb_tuple (pa_cons (pe_lc (own := [("i", 15)]) rfl sc_law_stands.nd (pi_range2 rfl T.range_ (pa_cons pe_int (pa_cons (pe_op op_add (pv 2) pe_int) pa_nil))) (blkOk_by (own := [("i", 15)]) (N := N_law_stands) (sc := defScope s_law_stands) (by decide +kernel)) (fun _ _ _ _ _ => (pg_name (i := 15) sc_law_stands.nd rfl (Or.inl rfl))) (fun _ _ _ _ _ => pts_nil) (fun _ _ _ _ _ => (pe_op op_sub (pe_cal C_law_known hr (by decide) (pa_cons (pv 3) (pa_cons (pe_op op_sub (pv 2) (pv 15)) (pa_cons (pv 5) pa_nil)))) (pv 7)))) pa_nil)))
 (pss_cons (ps_set (i := 9) sc_law_stands.nd rfl (Or.inl rfl) (pe_lst pa_nil))
 (pss_cons (ps_for PassesOwn.never rfl (pi_range1 rfl T.range_ (pa_cons (pe_op op_add (pe_callB (k_len K) (by rfl) T.len_ bb_len (pa_cons (pv 3) pa_nil)) pe_int) pa_nil)) (pg_name (i := 10) sc_law_stands.nd rfl (Or.inl rfl))
 (pss_one (ps_if (pt_cmpR op_eq (pv 1) pe_str (nomark _))
 (pss_one (ps_expr (pe_bm PySem.F.plainAttrs_list PySem.F.slot_list_append PySem.F.type_list_append d_append (pv 9) (pa_cons (pe_tup (pa_cons (pv 10) (pa_cons (pe_op op_sub (pe_ix (k_ix_list K) (pv 6) (pv 10) (fun _ _ => rfl)) (pv 7)) pa_nil))) pa_nil))))
 (pss_one (ps_if (PW.pt (pw_or (pt_cmpR op_eq (pv 10) pe_int (nomark _)) (pw_or1 (pt_val (pe_ix (k_ix_tup K) (pe_ix (k_ix_list K) (pv 3) (pe_op op_sub (pv 10) pe_int) (fun _ _ => rfl)) pe_int (fun _ _ => rfl))))))
 (pss_one (ps_expr (pe_bm PySem.F.plainAttrs_list PySem.F.slot_list_append PySem.F.type_list_append d_append (pv 9) (pa_cons (pe_tup (pa_cons (pv 10) (pa_cons (pe_op op_add (pe_op op_sub (pe_ix (k_ix_list K) (pv 6) (pv 10) (fun _ _ => rfl)) (pv 7)) (pe_cal C_law_false hr (by decide) (pa_cons (pv 0) (pa_cons (pe_cal C_law_at hr (by decide) (pa_cons (pv 3) (pa_cons (pv 10) pa_nil))) (pa_cons (pv 5) pa_nil))))) pa_nil))) pa_nil))))
 pss_nil)))))
 (pss_cons (ps_set (i := 11) sc_law_stands.nd rfl (Or.inl rfl) pe_dnewN)
 (pss_cons (ps_for PassesOwn.never rfl (pi_list (pv 9)) (pg_name (i := 12) sc_law_stands.nd rfl (Or.inl rfl))
 (pss_one (ps_for PassesOwn.never rfl (pi_list (pv 9)) (pg_name (i := 13) sc_law_stands.nd rfl (Or.inl rfl))
 (pss_one (ps_if (PW.pt (pw_and (pt_cmpR op_ge (pe_ix (k_ix_tup K) (pv 12) pe_int (fun _ _ => rfl)) (pe_ix (k_ix_tup K) (pv 13) pe_int (fun _ _ => rfl)) (nomark _)) (pw_and1 (pt_cmpR op_lt (pe_cal C_law_fork hr (by decide) (pa_cons (pv 3) (pa_cons (pe_ix (k_ix_tup K) (pv 12) pe_int (fun _ _ => rfl)) (pa_cons (pe_ix (k_ix_tup K) (pv 13) pe_int (fun _ _ => rfl)) pa_nil)))) (pv 4) (nomark _)))))
 (pss_one (ps_dputN hr.units (pv 11) (pe_tup (pa_cons (pe_tup (pa_cons (pe_ix (k_ix_tup K) (pv 12) pe_int (fun _ _ => rfl)) (pa_cons (pe_ix (k_ix_tup K) (pv 13) pe_int (fun _ _ => rfl)) pa_nil))) (pa_cons (pv 8) pa_nil))) pe_bl rfl))
 pss_nil)))))
 (pss_cons (ps_set (i := 14) sc_law_stands.nd rfl (Or.inl rfl) pe_dnewN)
 (pss_cons (ps_for PassesOwn.never rfl (pi_list (pv 9)) (pg_name (i := 12) sc_law_stands.nd rfl (Or.inl rfl))
 (pss_one (ps_if (pt_cmpR op_gt (pv 4) (pv 5) (nomark _))
 (pss_one (ps_dputN hr.units (pv 14) (pe_tup (pa_cons (pe_tup (pa_cons (pe_ix (k_ix_tup K) (pv 12) pe_int (fun _ _ => rfl)) pa_nil)) (pa_cons (pv 8) pa_nil))) pe_bl rfl))
 pss_nil)))
 (pss_one (ps_ret (pe_lst (pa_cons (pe_callTy (call_list_dN rfl) (by rfl) T.list_ bb_list (pa_cons (pv 14) pa_nil)) (pa_cons (pe_callTy (call_list_dN rfl) (by rfl) T.list_ bb_list (pa_cons (pv 11) pa_nil)) pa_nil))))))))))))))), ?_⟩
  rintro M0 ds r ⟨line, mode, late, blocks, spot, rfl, hk, rfl⟩ hQ
  have he : law_stands line mode late blocks spot = _ := law_stands.eq_1 line mode late blocks spot
  rw [law_stands_ok.eq_1] at hk
  show Sd _ _ [.dat (eS line), .dat (eS mode), .dat (Dt.int late), .dat ((eL (e3 Dt.int Dt.bl Dt.int)) blocks), .dat (Dt.int spot), .any, .any, .any, .any, .any, .any, .any, .any, .any, .any, .any] _ _
  refine sd_asgE (i := 5) Dt.int he (b2 hk) (ed_lenS (ed_var rfl) (bD (b1 hk))) fun when1 he2 hk3 => ?_
  show Sd _ _ [.dat (eS line), .dat (eS mode), .dat (Dt.int late), .dat ((eL (e3 Dt.int Dt.bl Dt.int)) blocks), .dat (Dt.int spot), .dat (Dt.int when1), .any, .any, .any, .any, .any, .any, .any, .any, .any, .any] _ _
  refine sd_asgE (i := 6) (eL Dt.int) he2 (b2 hk3) (ed_call (ea_cons (ed_var rfl) ea_nil) ⟨_, rfl, (b1 hk3), rfl⟩) fun deeps4 he5 hk6 => ?_
  show Sd _ _ [.dat (eS line), .dat (eS mode), .dat (Dt.int late), .dat ((eL (e3 Dt.int Dt.bl Dt.int)) blocks), .dat (Dt.int spot), .dat (Dt.int when1), .dat ((eL Dt.int) deeps4), .any, .any, .any, .any, .any, .any, .any, .any, .any] _ _
  refine sd_asgE (i := 7) Dt.int he5 (b2 hk6) (ed_call (ea_cons (ed_var rfl) (ea_cons (ed_var rfl) (ea_cons (ed_var rfl) ea_nil))) ⟨_, _, _, rfl, (b1 hk6), rfl⟩) fun low7 he8 hk9 => ?_
  show Sd _ _ [.dat (eS line), .dat (eS mode), .dat (Dt.int late), .dat ((eL (e3 Dt.int Dt.bl Dt.int)) blocks), .dat (Dt.int spot), .dat (Dt.int when1), .dat ((eL Dt.int) deeps4), .dat (Dt.int low7), .any, .any, .any, .any, .any, .any, .any, .any] _ _
  refine sd_asgE (i := 8) (eT Dt.int) he8 (b2 hk9) (ed_tupL (el_dat (En.ed (en_lcm (en := Dt.int) (en' := Dt.int) (WalkI.e (wk_rng2 ed_int (ed_ii (ed_var rfl) ed_int) (midM (b1 (b1 hk9))) (midM (b1 (b2 (b1 hk9)))))) (ltM (bD (b1 (b2 (b2 (b1 hk9)))))) (fun d11 y10 m12 => gd_name) (gw_name (by decide)) (fun d11 y10 m12 => (ed_ii (ed_call (ea_cons (ed_var rfl) (ea_cons (ed_ii (ed_var rfl) (ed_var rfl)) (ea_cons (ed_var rfl) ea_nil))) ⟨_, _, _, rfl, (allP (b2 (b2 (b2 (b1 hk9)))) m12), rfl⟩) (ed_var rfl))))))) fun tall14 he15 hk16 => ?_
  show Sd _ _ [.dat (eS line), .dat (eS mode), .dat (Dt.int late), .dat ((eL (e3 Dt.int Dt.bl Dt.int)) blocks), .dat (Dt.int spot), .dat (Dt.int when1), .dat ((eL Dt.int) deeps4), .dat (Dt.int low7), .dat ((eT Dt.int) tall14), .any, .any, .any, .any, .any, .any, .any] _ _
  refine sd_ownE (i := 9) (e2 Dt.int Dt.int) he15 hk16 (en_l0 (f := (e2 Dt.int Dt.int)) ) fun p17 hp17 ends18 he19 hk20 => ?_
  show Sd _ _ [.dat (eS line), .dat (eS mode), .dat (Dt.int late), .dat ((eL (e3 Dt.int Dt.bl Dt.int)) blocks), .dat (Dt.int spot), .dat (Dt.int when1), .dat ((eL Dt.int) deeps4), .dat (Dt.int low7), .dat ((eT Dt.int) tall14), .own p17 (List.map (e2 Dt.int Dt.int) ends18), .any, .any, .any, .any, .any, .any] _ _
  refine sd_forS (fun (s : List ((Int × Int))) => [(9, .own p17 (List.map (e2 Dt.int Dt.int) s)), (10, .any)]) Dt.int he19 (b2 hk20) (b2 (b1 hk20)) (wk_rng1 (ed_ii (ed_len (f := (e3 Dt.int Dt.bl Dt.int)) (el_dat (ed_var rfl))) ed_int) (midM (b1 (b1 hk20)))) (.same (.same (.same (.same (.same (.same (.same (.same (.same (.same (.any (.same (.same (.same (.same (.same .nil)))))))))))))))) (fun c' x s => gd_name) (fun B36 eB37 i24 x22 s23 hx27 hs28 y29 he30 hk35 N31 B32 hN33 hB34 => ?_) (fun s53 he54 hk55 => ?_)
  · show Sd _ _ [.dat (eS line), .dat (eS mode), .dat (Dt.int late), .dat ((eL (e3 Dt.int Dt.bl Dt.int)) blocks), .dat (Dt.int spot), .dat (Dt.int when1), .dat ((eL Dt.int) deeps4), .dat (Dt.int low7), .dat ((eT Dt.int) tall14), .own p17 (List.map (e2 Dt.int Dt.int) s23), .dat (Dt.int x22), .any, .any, .any, .any, .any] _ _
    refine sd_ifE he30 (et_test (ed_eqS (ed_var rfl) (ed_strc [111, 110, 99, 101] (by rfl)))) (fun hb38 he40 => ?_) (fun hb39 he41 => ?_)
    · refine sd_appEL (i := 9) (p := p17) (e2 Dt.int Dt.int) he40 (b2 (cT hk35 hb38)) rfl (ed_tup2 (f := Dt.int) (g := Dt.int) (ed_var rfl) (ed_ii (ed_ixL (f := Dt.int) (el_dat (ed_var rfl)) (ed_var rfl) (bD (b1 (b1 (cT hk35 hb38)))) (bD (b1 (b2 (b1 (cT hk35 hb38)))))) (ed_var rfl))) (ltM' (bD (b2 (b2 (b1 (cT hk35 hb38)))))) trivial fun ends42 he43 hk44 => ?_
      exact (fun σ H w => hN33 _ σ H he43 (WS.wk w (.same (.same (.same (.same (.same (.same (.same (.same (.same (.same (.any (.same (.same (.same (.same (.same .nil))))))))))))))))))
    · refine sd_ifE he41 (et_or (et_test (ed_eqI (ed_var rfl) ed_int)) (fun q45 => (et_B (ed_ixT (k := 1) (ed_ixL (f := (e3 Dt.int Dt.bl Dt.int)) (el_dat (ed_var rfl)) (ed_ii (ed_var rfl) ed_int) (bD (b1 (bE (b1 (cF hk35 hb39)) q45))) (bD (b2 (bE (b1 (cF hk35 hb39)) q45)))) ed_int rfl)))) (fun hb46 he48 => ?_) (fun hb47 he49 => ?_)
      · refine sd_appEL (i := 9) (p := p17) (e2 Dt.int Dt.int) he48 (b2 (cT (b2 (cF hk35 hb39)) hb46)) rfl (ed_tup2 (f := Dt.int) (g := Dt.int) (ed_var rfl) (ed_ii (ed_ii (ed_ixL (f := Dt.int) (el_dat (ed_var rfl)) (ed_var rfl) (bD (b1 (b1 (cT (b2 (cF hk35 hb39)) hb46)))) (bD (b1 (b2 (b1 (cT (b2 (cF hk35 hb39)) hb46)))))) (ed_var rfl)) (ed_call (ea_cons (ed_var rfl) (ea_cons (ed_call (ea_cons (ed_var rfl) (ea_cons (ed_var rfl) ea_nil)) ⟨_, _, rfl, (b1 (b2 (b2 (b1 (cT (b2 (cF hk35 hb39)) hb46))))), rfl⟩) (ea_cons (ed_var rfl) ea_nil))) ⟨_, _, _, rfl, (b1 (b2 (b2 (b2 (b1 (cT (b2 (cF hk35 hb39)) hb46)))))), rfl⟩))) (ltM' (bD (b2 (b2 (b2 (b2 (b1 (cT (b2 (cF hk35 hb39)) hb46)))))))) trivial fun ends50 he51 hk52 => ?_
        exact (fun σ H w => hN33 _ σ H he51 (WS.wk w (.same (.same (.same (.same (.same (.same (.same (.same (.same (.same (.any (.same (.same (.same (.same (.same .nil))))))))))))))))))
      · exact sd_next (fun σ H w => hN33 _ σ H he49 (WS.wk w (.same (.same (.same (.same (.same (.same (.same (.same (.same (.same (.any (.same (.same (.same (.same (.same .nil))))))))))))))))))
  · show Sd _ _ [.dat (eS line), .dat (eS mode), .dat (Dt.int late), .dat ((eL (e3 Dt.int Dt.bl Dt.int)) blocks), .dat (Dt.int spot), .dat (Dt.int when1), .dat ((eL Dt.int) deeps4), .dat (Dt.int low7), .dat ((eT Dt.int) tall14), .own p17 (List.map (e2 Dt.int Dt.int) s53), .any, .any, .any, .any, .any, .any] _ _
    refine sd_newE (i := 11) (e2 (eT Dt.int) (eT Dt.int)) he54 hk55  fun p56 hp56 pairs57 he58 hk59 => ?_
    have ne_p56_p17 : p56 ≠ p17 := own_ne hp56 (by simp)
    have ne_p17_p56 : p17 ≠ p56 := Ne.symm ne_p56_p17
    show Sd _ _ [.dat (eS line), .dat (eS mode), .dat (Dt.int late), .dat ((eL (e3 Dt.int Dt.bl Dt.int)) blocks), .dat (Dt.int spot), .dat (Dt.int when1), .dat ((eL Dt.int) deeps4), .dat (Dt.int low7), .dat ((eT Dt.int) tall14), .own p17 (List.map (e2 Dt.int Dt.int) s53), .any, .ownX p56 (NX P w K p56 (e2 (eT Dt.int) (eT Dt.int)) pairs57), .any, .any, .any, .any] _ _
    refine sd_give (i := 9) (p := p17) (L' := [p56]) rfl (by simp) (by simp [ne_p17_p56]) (And.intro (by simp) trivial) ?_
    refine sd_forS (fun (s : List ((List Int × List Int))) => [(11, .ownX p56 (NX P w K p56 (e2 (eT Dt.int) (eT Dt.int)) s)), (12, .any), (13, .any)]) (e2 Dt.int Dt.int) he58 (b2 hk59) (b1 hk59) (wk_list (ed_var rfl)) (.same (.same (.same (.same (.same (.same (.same (.same (.same (.same (.same (.same (.any (.any (.same (.same .nil)))))))))))))))) (fun c' x s => gd_name) (fun B75 eB76 i63 x61 s62 hx66 hs67 y68 he69 hk74 N70 B71 hN72 hB73 => ?_) (fun s105 he106 hk107 => ?_)
    · show Sd _ _ [.dat (eS line), .dat (eS mode), .dat (Dt.int late), .dat ((eL (e3 Dt.int Dt.bl Dt.int)) blocks), .dat (Dt.int spot), .dat (Dt.int when1), .dat ((eL Dt.int) deeps4), .dat (Dt.int low7), .dat ((eT Dt.int) tall14), .dat ((eL (e2 Dt.int Dt.int)) s53), .any, .ownX p56 (NX P w K p56 (e2 (eT Dt.int) (eT Dt.int)) s62), .dat ((e2 Dt.int Dt.int) x61), .any, .any, .any] _ _
      refine sd_forSL (fun (s : List ((List Int × List Int))) => [(11, .ownX p56 (NX P w K p56 (e2 (eT Dt.int) (eT Dt.int)) s)), (13, .any)]) (e2 Dt.int Dt.int) he69 (b2 hk74) (b1 hk74) (wk_list (ed_var rfl)) (.same (.same (.same (.same (.same (.same (.same (.same (.same (.same (.same (.same (.same (.any (.same (.same .nil)))))))))))))))) (fun c' x s => gd_name) (fun B92 eB93 i80 x78 s79 hx83 hs84 y85 he86 hk91 N87 B88 hN89 hB90 => ?_) (fun s102 he103 hk104 => ?_)
      · show Sd _ _ [.dat (eS line), .dat (eS mode), .dat (Dt.int late), .dat ((eL (e3 Dt.int Dt.bl Dt.int)) blocks), .dat (Dt.int spot), .dat (Dt.int when1), .dat ((eL Dt.int) deeps4), .dat (Dt.int low7), .dat ((eT Dt.int) tall14), .dat ((eL (e2 Dt.int Dt.int)) s53), .any, .ownX p56 (NX P w K p56 (e2 (eT Dt.int) (eT Dt.int)) s79), .dat ((e2 Dt.int Dt.int) x61), .dat ((e2 Dt.int Dt.int) x78), .any, .any] _ _
        refine sd_ifE he86 (et_and (et_test (ed_ib (ed_ixT (k := 1) (ed_var rfl) ed_int rfl) (ed_ixT (k := 1) (ed_var rfl) ed_int rfl))) (fun q94 => (et_test (ed_ib (ed_call (ea_cons (ed_var rfl) (ea_cons (ed_ixT (k := 0) (ed_var rfl) ed_int rfl) (ea_cons (ed_ixT (k := 0) (ed_var rfl) ed_int rfl) ea_nil))) ⟨_, _, _, rfl, (bI (b1 hk91) q94), rfl⟩) (ed_var rfl))))) (fun hb95 he97 => ?_) (fun hb96 he98 => ?_)
        · refine sd_putEL (i := 11) (p := p56) (e2 (eT Dt.int) (eT Dt.int)) keTT he97 (b2 (cT (b2 hk91) hb95)) rfl (ed_tup2 (f := (eT Dt.int)) (g := (eT Dt.int)) (ed_t2 (f := Dt.int) (ed_ixT (k := 1) (ed_var rfl) ed_int rfl) (ed_ixT (k := 1) (ed_var rfl) ed_int rfl)) (ed_var rfl)) (bD (b1 (cT (b2 hk91) hb95))) trivial fun pairs99 he100 hk101 => ?_
          exact (fun σ H w => hN89 _ σ H he100 (WS.wk w (.same (.same (.same (.same (.same (.same (.same (.same (.same (.same (.same (.same (.same (.any (.same (.same .nil))))))))))))))))))
        · exact sd_next (fun σ H w => hN89 _ σ H he98 (WS.wk w (.same (.same (.same (.same (.same (.same (.same (.same (.same (.same (.same (.same (.same (.any (.same (.same .nil))))))))))))))))))
      · exact (fun σ H w => hN72 _ σ H he103 (WS.wk w (.same (.same (.same (.same (.same (.same (.same (.same (.same (.same (.same (.same (.any (.any (.same (.same .nil))))))))))))))))))
    · show Sd _ _ [.dat (eS line), .dat (eS mode), .dat (Dt.int late), .dat ((eL (e3 Dt.int Dt.bl Dt.int)) blocks), .dat (Dt.int spot), .dat (Dt.int when1), .dat ((eL Dt.int) deeps4), .dat (Dt.int low7), .dat ((eT Dt.int) tall14), .dat ((eL (e2 Dt.int Dt.int)) s53), .any, .ownX p56 (NX P w K p56 (e2 (eT Dt.int) (eT Dt.int)) s105), .any, .any, .any, .any] _ _
      refine sd_newE (i := 14) (e2 (eT Dt.int) (eT Dt.int)) he106 hk107  fun p108 hp108 ones109 he110 hk111 => ?_
      have ne_p108_p56 : p108 ≠ p56 := own_ne hp108 (by simp)
      have ne_p56_p108 : p56 ≠ p108 := Ne.symm ne_p108_p56
      show Sd _ _ [.dat (eS line), .dat (eS mode), .dat (Dt.int late), .dat ((eL (e3 Dt.int Dt.bl Dt.int)) blocks), .dat (Dt.int spot), .dat (Dt.int when1), .dat ((eL Dt.int) deeps4), .dat (Dt.int low7), .dat ((eT Dt.int) tall14), .dat ((eL (e2 Dt.int Dt.int)) s53), .any, .ownX p56 (NX P w K p56 (e2 (eT Dt.int) (eT Dt.int)) s105), .any, .any, .ownX p108 (NX P w K p108 (e2 (eT Dt.int) (eT Dt.int)) ones109), .any] _ _
      refine sd_forS (fun (s : List ((List Int × List Int))) => [(14, .ownX p108 (NX P w K p108 (e2 (eT Dt.int) (eT Dt.int)) s)), (12, .any)]) (e2 Dt.int Dt.int) he110 (b2 hk111) (b1 hk111) (wk_list (ed_var rfl)) (.same (.same (.same (.same (.same (.same (.same (.same (.same (.same (.same (.same (.any (.same (.same (.same .nil)))))))))))))))) (fun c' x s => gd_name) (fun B127 eB128 i115 x113 s114 hx118 hs119 y120 he121 hk126 N122 B123 hN124 hB125 => ?_) (fun s136 he137 hk138 => ?_)
      · show Sd _ _ [.dat (eS line), .dat (eS mode), .dat (Dt.int late), .dat ((eL (e3 Dt.int Dt.bl Dt.int)) blocks), .dat (Dt.int spot), .dat (Dt.int when1), .dat ((eL Dt.int) deeps4), .dat (Dt.int low7), .dat ((eT Dt.int) tall14), .dat ((eL (e2 Dt.int Dt.int)) s53), .any, .ownX p56 (NX P w K p56 (e2 (eT Dt.int) (eT Dt.int)) s105), .dat ((e2 Dt.int Dt.int) x113), .any, .ownX p108 (NX P w K p108 (e2 (eT Dt.int) (eT Dt.int)) s114), .any] _ _
        refine sd_ifE he121 (et_test (ed_ib (ed_var rfl) (ed_var rfl))) (fun hb129 he131 => ?_) (fun hb130 he132 => ?_)
        · refine sd_putEL (i := 14) (p := p108) (e2 (eT Dt.int) (eT Dt.int)) keTT he131 (b2 (cT hk126 hb129)) rfl (ed_tup2 (f := (eT Dt.int)) (g := (eT Dt.int)) (ed_t1 (f := Dt.int) (ed_ixT (k := 1) (ed_var rfl) ed_int rfl)) (ed_var rfl)) (bD (b1 (cT hk126 hb129))) (And.intro ne_p56_p108 trivial) fun ones133 he134 hk135 => ?_
          exact (fun σ H w => hN124 _ σ H he134 (WS.wk w (.same (.same (.same (.same (.same (.same (.same (.same (.same (.same (.same (.same (.any (.same (.same (.same .nil))))))))))))))))))
        · exact sd_next (fun σ H w => hN124 _ σ H he132 (WS.wk w (.same (.same (.same (.same (.same (.same (.same (.same (.same (.same (.same (.same (.any (.same (.same (.same .nil))))))))))))))))))
      · show Sd _ _ [.dat (eS line), .dat (eS mode), .dat (Dt.int late), .dat ((eL (e3 Dt.int Dt.bl Dt.int)) blocks), .dat (Dt.int spot), .dat (Dt.int when1), .dat ((eL Dt.int) deeps4), .dat (Dt.int low7), .dat ((eT Dt.int) tall14), .dat ((eL (e2 Dt.int Dt.int)) s53), .any, .ownX p56 (NX P w K p56 (e2 (eT Dt.int) (eT Dt.int)) s105), .any, .any, .ownX p108 (NX P w K p108 (e2 (eT Dt.int) (eT Dt.int)) s136), .any] _ _
        exact sd_retF (eL (eL (e2 (eT Dt.int) (eT Dt.int)))) he137 (En.ed (en_l2 (f := (eL (e2 (eT Dt.int) (eT Dt.int)))) (ed_listX rfl) (ed_listX rfl))) (hQ.to (congrArg (eL (eL (e2 (eT Dt.int) (eT Dt.int)))) he137))

end K58
end

section
set_option maxHeartbeats 1000000
namespace K58
open PySem L2 Evl Dl
theorem cal_law_serves {P : Program} {w : World} {K : PySem.W.Frag} {mg : Str → Option Value} {base : Heap} {f : Addr} {fd : FuncData} (F : FnP K "_law_serves" "_law_serves" s_law_serves f fd) (gl : mg "_law_serves" = some (.ref f)) (T : Bn mg) (C_law_stands : Cal P w K mg base "_law_stands" 3 ["line", "mode", "late", "blocks", "spot"] (Pf K dom_law_stands)) (C_law_wins : Cal P w K mg base "_law_wins" 2 ["more", "first", "mode", "spot", "ones", "pairs"] (Pf K dom_law_wins)) : Cal P w K mg base "_law_serves" 4 ["line", "cut", "mode", "late", "blocks", "spot"] (Pf K dom_law_serves) := by
  refine cal_mk (k := 3) F gl sc_law_serves (fun _ _ _ _ _ _ us hl => match us, hl with | [_, _, _, _, _, _], _ => rfl) (fun ds r h => by obtain ⟨_, _, _, _, _, _, rfl, _⟩ := h; rfl) (fun cdv A outer s H Q E hr => ?_)
  have hu := hu_of hr
  refine ⟨_, (pss_cons (ps_asg (pe_cal C_law_stands hr (by decide) (pa_cons (pe_slice sl_str (pv 0) po_none (po_some (pv 1))) (pa_cons (pv 2) (pa_cons (pv 3) (pa_cons (pv 4) (pa_cons (pv 5) pa_nil)))))) (k_unl K (pgs_cons (pg_name (i := 6) sc_law_serves.nd rfl (Or.inl rfl)) (pgs_cons (pg_name (i := 7) sc_law_serves.nd rfl (Or.inl rfl)) pgs_nil))))
 (pss_one (ps_ret (pe_cal C_law_wins hr (by decide) (pa_cons (pe_slice sl_str (pv 0) (po_some (pv 1)) po_none) (pa_cons (pv 1) (pa_cons (pv 2) (pa_cons (pv 5) (pa_cons (pv 6) (pa_cons (pv 7) pa_nil)))))))))), ?_⟩
  rintro M0 ds r ⟨line, cut, mode, late, blocks, spot, rfl, hk, rfl⟩ hQ
  have he : law_serves line cut mode late blocks spot = _ := law_serves.eq_1 line cut mode late blocks spot
  rw [law_serves_ok.eq_1] at hk
  show Sd _ _ [.dat (eS line), .dat (Dt.int cut), .dat (eS mode), .dat (Dt.int late), .dat ((eL (e3 Dt.int Dt.bl Dt.int)) blocks), .dat (Dt.int spot), .any, .any] _ _
  refine sd_unp2 (eL (e2 (eT Dt.int) (eT Dt.int))) he (b2 hk) (ed_call (ea_cons (ed_slS (ed_var rfl) eo_none (eo_some (ed_var rfl)) (bD (b1 (b1 hk)))) (ea_cons (ed_var rfl) (ea_cons (ed_var rfl) (ea_cons (ed_var rfl) (ea_cons (ed_var rfl) ea_nil))))) ⟨_, _, _, _, _, rfl, (b1 (b2 (b1 hk))), rfl⟩) (bD (b2 (b2 (b1 hk)))) (fun _ => (gd_cons gd_name (gd_cons gd_name gd_nil))) fun u1 he2 hk3 => ?_
  show Sd _ _ [.dat (eS line), .dat (Dt.int cut), .dat (eS mode), .dat (Dt.int late), .dat ((eL (e3 Dt.int Dt.bl Dt.int)) blocks), .dat (Dt.int spot), .dat ((eL (e2 (eT Dt.int) (eT Dt.int))) u1.1), .dat ((eL (e2 (eT Dt.int) (eT Dt.int))) u1.2)] _ _
  exact sd_retF Dt.bl he2 (ed_call (ea_cons (ed_slS (ed_var rfl) (eo_some (ed_var rfl)) eo_none (bD (b1 hk3))) (ea_cons (ed_var rfl) (ea_cons (ed_var rfl) (ea_cons (ed_var rfl) (ea_cons (ed_var rfl) (ea_cons (ed_var rfl) ea_nil)))))) ⟨_, _, _, _, _, _, rfl, (b2 hk3), rfl⟩) (hQ.to (congrArg Dt.bl he2))

end K58
end

section
set_option maxHeartbeats 1000000
namespace K58
open PySem L2 Evl Dl
theorem cal_law_works {P : Program} {w : World} {K : PySem.W.Frag} {mg : Str → Option Value} {base : Heap} {f : Addr} {fd : FuncData} (F : FnP K "_law_works" "_law_works" s_law_works f fd) (gl : mg "_law_works" = some (.ref f)) (T : Bn mg) (C_law_deeps : Cal P w K mg base "_law_deeps" 1 ["blocks"] (Pf K dom_law_deeps)) (C_law_known : Cal P w K mg base "_law_known" 2 ["blocks", "late", "when"] (Pf K dom_law_known)) (C_law_false : Cal P w K mg base "_law_false" 1 ["line", "low", "high"] (Pf K dom_law_false)) (C_law_at : Cal P w K mg base "_law_at" 1 ["blocks", "leaf"] (Pf K dom_law_at)) : Cal P w K mg base "_law_works" 3 ["line", "spot", "mode", "late", "blocks"] (Pf K dom_law_works) := by
  refine cal_mk (k := 2) F gl sc_law_works (fun _ _ _ _ _ _ us hl => match us, hl with | [_, _, _, _, _], _ => rfl) (fun ds r h => by obtain ⟨_, _, _, _, _, rfl, _⟩ := h; rfl) (fun cdv A outer s H Q E hr => ?_)
  have hu := hu_of hr
  refine ⟨_, (pss_cons (ps_set (i := 5) sc_law_works.nd rfl (Or.inl rfl) (pe_cal C_law_deeps hr (by decide) (pa_cons (pv 4) pa_nil)))
 (pss_cons (ps_set (i := 6) sc_law_works.nd rfl (Or.inl rfl) (pe_cal C_law_known hr (by decide) (pa_cons (pv 4) (pa_cons (pv 3) (pa_cons (pe_op op_sub (pv 1) pe_int) pa_nil)))))
 (pss_cons (ps_set (i := 7) sc_law_works.nd rfl (Or.inl rfl) (pe_lst pa_nil))
 (pss_cons (ps_for PassesOwn.never rfl (pi_range1 rfl T.range_ (pa_cons (pe_op op_add (pe_callB (k_len K) (by rfl) T.len_ bb_len (pa_cons (pv 4) pa_nil)) pe_int) pa_nil)) (pg_name (i := 8) sc_law_works.nd rfl (Or.inl rfl))
 (pss_cons (ps_set (i := 9) sc_law_works.nd rfl (Or.inl rfl) pe_int)
 (pss_cons (ps_if (pt_cmpR op_eq (pv 2) pe_str (nomark _))
 (pss_cons (ps_if (PW.pt (pw_and (k_pt_tr K (pv 8)) (pw_and1 (pt_not (pt_val (pe_ix (k_ix_tup K) (pe_ix (k_ix_list K) (pv 4) (pe_op op_sub (pv 8) pe_int) (fun _ _ => rfl)) pe_int (fun _ _ => rfl)))))))
 (pss_one ps_continue)
 pss_nil)
 (pss_one (ps_set (i := 9) sc_law_works.nd rfl (Or.inl rfl) (pe_cal C_law_false hr (by decide) (pa_cons (pv 0) (pa_cons (pe_cal C_law_at hr (by decide) (pa_cons (pv 4) (pa_cons (pv 8) pa_nil))) (pa_cons (pe_op op_sub (pv 1) pe_int) pa_nil)))))))
 pss_nil)
 (pss_one (ps_for PassesOwn.never rfl (pi_range1 rfl T.range_ (pa_cons (pe_op op_add (pv 9) pe_int) pa_nil)) (pg_name (i := 10) sc_law_works.nd rfl (Or.inl rfl))
 (pss_one (ps_if (pt_cmpR op_ge (pe_op op_add (pe_ix (k_ix_list K) (pv 5) (pv 8) (fun _ _ => rfl)) (pv 10)) (pv 6) (nomark _))
 (pss_one (ps_expr (pe_bm PySem.F.plainAttrs_list PySem.F.slot_list_append PySem.F.type_list_append d_append (pv 7) (pa_cons (pe_tup (pa_cons (pv 8) (pa_cons (pv 10) pa_nil))) pa_nil))))
 pss_nil)))))))
 (pss_one (ps_ret (pv 7))))))), ?_⟩
  rintro M0 ds r ⟨line, spot, mode, late, blocks, rfl, hk, rfl⟩ hQ
  have he : law_works line spot mode late blocks = _ := law_works.eq_1 line spot mode late blocks
  rw [law_works_ok.eq_1] at hk
  show Sd _ _ [.dat (eS line), .dat (Dt.int spot), .dat (eS mode), .dat (Dt.int late), .dat ((eL (e3 Dt.int Dt.bl Dt.int)) blocks), .any, .any, .any, .any, .any, .any] _ _
  refine sd_asgE (i := 5) (eL Dt.int) he (b2 hk) (ed_call (ea_cons (ed_var rfl) ea_nil) ⟨_, rfl, (b1 hk), rfl⟩) fun deeps1 he2 hk3 => ?_
  show Sd _ _ [.dat (eS line), .dat (Dt.int spot), .dat (eS mode), .dat (Dt.int late), .dat ((eL (e3 Dt.int Dt.bl Dt.int)) blocks), .dat ((eL Dt.int) deeps1), .any, .any, .any, .any, .any] _ _
  refine sd_asgE (i := 6) Dt.int he2 (b2 hk3) (ed_call (ea_cons (ed_var rfl) (ea_cons (ed_var rfl) (ea_cons (ed_ii (ed_var rfl) ed_int) ea_nil))) ⟨_, _, _, rfl, (b1 hk3), rfl⟩) fun low4 he5 hk6 => ?_
  show Sd _ _ [.dat (eS line), .dat (Dt.int spot), .dat (eS mode), .dat (Dt.int late), .dat ((eL (e3 Dt.int Dt.bl Dt.int)) blocks), .dat ((eL Dt.int) deeps1), .dat (Dt.int low4), .any, .any, .any, .any] _ _
  refine sd_ownE (i := 7) (e2 Dt.int Dt.int) he5 hk6 (en_l0 (f := (e2 Dt.int Dt.int)) ) fun p7 hp7 found8 he9 hk10 => ?_
  show Sd _ _ [.dat (eS line), .dat (Dt.int spot), .dat (eS mode), .dat (Dt.int late), .dat ((eL (e3 Dt.int Dt.bl Dt.int)) blocks), .dat ((eL Dt.int) deeps1), .dat (Dt.int low4), .own p7 (List.map (e2 Dt.int Dt.int) found8), .any, .any, .any] _ _
  refine sd_forS (fun (s : List ((Int × Int))) => [(7, .own p7 (List.map (e2 Dt.int Dt.int) s)), (8, .any), (9, .any), (10, .any)]) Dt.int he9 (b2 hk10) (b2 (b1 hk10)) (wk_rng1 (ed_ii (ed_len (f := (e3 Dt.int Dt.bl Dt.int)) (el_dat (ed_var rfl))) ed_int) (midM (b1 (b1 hk10)))) (.same (.same (.same (.same (.same (.same (.same (.same (.any (.any (.any .nil))))))))))) (fun c' x s => gd_name) (fun B26 eB27 i14 x12 s13 hx17 hs18 y19 he20 hk25 N21 B22 hN23 hB24 => ?_) (fun s80 he81 hk82 => ?_)
  · show Sd _ _ [.dat (eS line), .dat (Dt.int spot), .dat (eS mode), .dat (Dt.int late), .dat ((eL (e3 Dt.int Dt.bl Dt.int)) blocks), .dat ((eL Dt.int) deeps1), .dat (Dt.int low4), .own p7 (List.map (e2 Dt.int Dt.int) s13), .dat (Dt.int x12), .any, .any] _ _
    refine sd_asgE (i := 9) Dt.int he20 hk25 ed_int fun much28 he29 hk30 => ?_
    show Sd _ _ [.dat (eS line), .dat (Dt.int spot), .dat (eS mode), .dat (Dt.int late), .dat ((eL (e3 Dt.int Dt.bl Dt.int)) blocks), .dat ((eL Dt.int) deeps1), .dat (Dt.int low4), .own p7 (List.map (e2 Dt.int Dt.int) s13), .dat (Dt.int x12), .dat (Dt.int much28), .any] _ _
    refine sd_join (fun (s' : Int) => [(9, .dat (Dt.int s'))]) (law_works_j37 x12 s13 deeps1 low4 s13 x12) (law_works_j37_ok x12 s13 deeps1 low4 s13 x12) he29 (et_test (ed_eqS (ed_var rfl) (ed_strc [109, 97, 110, 121] (by rfl)))) (fun hb35 he70 N41 hN42 => ?_) (fun hb36 he71 N41 hN42 => ?_) (fun s40 he38 hk39 => ?_)
    · refine sd_whenE he70 (et_and (et_trI (ed_var rfl)) (fun q72 => (et_not (et_B (ed_ixT (k := 1) (ed_ixL (f := (e3 Dt.int Dt.bl Dt.int)) (el_dat (ed_var rfl)) (ed_ii (ed_var rfl) ed_int) (bD (b1 (bI (b1 (cT hk30 hb35)) q72))) (bD (b2 (bI (b1 (cT hk30 hb35)) q72)))) ed_int rfl))))) (fun hb73 he75 => ?_) (fun hb74 he76 => ?_)
      · exact sd_cont (fun σ H w => hN23 _ σ H he75 (WS.wk w (.same (.same (.same (.same (.same (.same (.same (.same (.any (.any (.any .nil)))))))))))))
      · refine sd_asgEL (i := 9) Dt.int he76 (b2 (cF (b2 (cT hk30 hb35)) hb74)) (ed_call (ea_cons (ed_var rfl) (ea_cons (ed_call (ea_cons (ed_var rfl) (ea_cons (ed_var rfl) ea_nil)) ⟨_, _, rfl, (b1 (b1 (cF (b2 (cT hk30 hb35)) hb74))), rfl⟩) (ea_cons (ed_ii (ed_var rfl) ed_int) ea_nil))) ⟨_, _, _, rfl, (b2 (b1 (cF (b2 (cT hk30 hb35)) hb74))), rfl⟩) fun much77 he78 hk79 => ?_
        exact (fun σ H w => hN42 _ σ H he78 hk79 (WS.wk w (.same (.same (.same (.same (.same (.same (.same (.same (.same (.same (.same .nil)))))))))))))
    · exact sd_next (fun σ H w => hN42 _ σ H he71 (cF hk30 hb36) (WS.wk w (.same (.same (.same (.same (.same (.same (.same (.same (.same (.same (.same .nil)))))))))))))
    · show Sd _ _ [.dat (eS line), .dat (Dt.int spot), .dat (eS mode), .dat (Dt.int late), .dat ((eL (e3 Dt.int Dt.bl Dt.int)) blocks), .dat ((eL Dt.int) deeps1), .dat (Dt.int low4), .own p7 (List.map (e2 Dt.int Dt.int) s13), .dat (Dt.int x12), .dat (Dt.int s40), .any] _ _
      refine sd_forSL (fun (s : List ((Int × Int))) => [(7, .own p7 (List.map (e2 Dt.int Dt.int) s)), (10, .any)]) Dt.int he38 (b2 hk39) (b2 (b1 hk39)) (wk_rng1 (ed_ii (ed_var rfl) ed_int) (midM (b1 (b1 hk39)))) (.same (.same (.same (.same (.same (.same (.same (.same (.same (.same (.any .nil))))))))))) (fun c' x s => gd_name) (fun B58 eB59 i46 x44 s45 hx49 hs50 y51 he52 hk57 N53 B54 hN55 hB56 => ?_) (fun s67 he68 hk69 => ?_)
      · show Sd _ _ [.dat (eS line), .dat (Dt.int spot), .dat (eS mode), .dat (Dt.int late), .dat ((eL (e3 Dt.int Dt.bl Dt.int)) blocks), .dat ((eL Dt.int) deeps1), .dat (Dt.int low4), .own p7 (List.map (e2 Dt.int Dt.int) s45), .dat (Dt.int x12), .dat (Dt.int s40), .dat (Dt.int x44)] _ _
        refine sd_ifE he52 (et_test (ed_ib (ed_ii (ed_ixL (f := Dt.int) (el_dat (ed_var rfl)) (ed_var rfl) (bD (b1 (b1 hk57))) (bD (b2 (b1 hk57)))) (ed_var rfl)) (ed_var rfl))) (fun hb60 he62 => ?_) (fun hb61 he63 => ?_)
        · refine sd_appEL (i := 7) (p := p7) (e2 Dt.int Dt.int) he62 (b2 (cT (b2 hk57) hb60)) rfl (ed_tup2 (f := Dt.int) (g := Dt.int) (ed_var rfl) (ed_var rfl)) (ltM' (bD (b1 (cT (b2 hk57) hb60)))) trivial fun found64 he65 hk66 => ?_
          exact (fun σ H w => hN55 _ σ H he65 (WS.wk w (.same (.same (.same (.same (.same (.same (.same (.same (.same (.same (.any .nil)))))))))))))
        · exact sd_next (fun σ H w => hN55 _ σ H he63 (WS.wk w (.same (.same (.same (.same (.same (.same (.same (.same (.same (.same (.any .nil)))))))))))))
      · exact (fun σ H w => hN23 _ σ H he68 (WS.wk w (.same (.same (.same (.same (.same (.same (.same (.same (.any (.any (.any .nil)))))))))))))
  · show Sd _ _ [.dat (eS line), .dat (Dt.int spot), .dat (eS mode), .dat (Dt.int late), .dat ((eL (e3 Dt.int Dt.bl Dt.int)) blocks), .dat ((eL Dt.int) deeps1), .dat (Dt.int low4), .own p7 (List.map (e2 Dt.int Dt.int) s80), .any, .any, .any] _ _
    exact sd_retOwn (i := 7) (a := p7) rfl (hQ.to (congrArg (eL (e2 Dt.int Dt.int)) he81))

end K58
end

section
set_option maxHeartbeats 1000000
namespace K58
open PySem L2 Evl Dl
theorem cal_law_more {P : Program} {w : World} {K : PySem.W.Frag} {mg : Str → Option Value} {base : Heap} {f : Addr} {fd : FuncData} (F : FnP K "_law_more" "_law_more" s_law_more f fd) (gl : mg "_law_more" = some (.ref f)) (T : Bn mg) (C_law_at : Cal P w K mg base "_law_at" 1 ["blocks", "leaf"] (Pf K dom_law_at)) : Cal P w K mg base "_law_more" 2 ["line", "spot", "blocks", "works"] (Pf K dom_law_more) := by
  refine cal_mk (k := 1) F gl sc_law_more (fun _ _ _ _ _ _ us hl => match us, hl with | [_, _, _, _], _ => rfl) (fun ds r h => by obtain ⟨_, _, _, _, rfl, _⟩ := h; rfl) (fun cdv A outer s H Q E hr => ?_)
  have hu := hu_of hr
  refine ⟨_, (pss_cons (ps_setLc (i := 4) (own := [("item", 10)]) rfl sc_law_more.nd rfl rfl (sw_true rfl rfl rfl (by decide +kernel)) (pi_list (pv 2)) (blkOk_by (own := [("item", 10)]) (N := N_law_more) (sc := defScope s_law_more) (by decide +kernel)) (fun _ _ _ _ _ => (pg_name (i := 10) sc_law_more.nd rfl (Or.inl rfl))) (fun _ _ _ _ _ => pts_nil) (fun _ _ _ _ _ => (pv 10)))
 (pss_cons (ps_for PassesOwn.never rfl (pi_list (pv 3)) (pg_tup rfl (pgs_cons (pg_name (i := 5) sc_law_more.nd rfl (Or.inl rfl)) (pgs_cons (pg_name (i := 6) sc_law_more.nd rfl (Or.inl rfl)) pgs_nil)))
 (pss_cons (ps_set (i := 7) sc_law_more.nd rfl (Or.inl rfl) (pe_slice (k_sl_list K) (pe_lc (own := [("j", 9)]) rfl sc_law_more.nd (pi_range2 rfl T.range_ (pa_cons (pe_op op_add (pe_cal C_law_at hr (by decide) (pa_cons (pv 2) (pa_cons (pv 5) pa_nil))) pe_int) (pa_cons (pv 1) pa_nil))) (blkOk_by (own := [("j", 9)]) (N := N_law_more) (sc := defScope s_law_more) (by decide +kernel)) (fun _ _ _ _ _ => (pg_name (i := 9) sc_law_more.nd rfl (Or.inl rfl))) (fun _ _ _ _ _ => (pts_one (pt_cmpR d_inS (pe_ix ix_str (pv 0) (pe_op op_sub (pv 9) pe_int) (fun _ _ => rfl)) pe_str rfl))) (fun _ _ _ _ _ => (pv 9))) po_none (po_some (pv 6))))
 (pss_cons (ps_set (i := 8) sc_law_more.nd rfl (Or.inl rfl) (pv 5))
 (pss_cons (ps_for PassesOwn.never rfl (pi_list (pv 7)) (pg_name (i := 9) sc_law_more.nd rfl (Or.inl rfl))
 (pss_cons (ps_expr (pe_bm PySem.F.plainAttrs_list PySem.F.slot_list_append PySem.F.type_list_append d_append (pv 4) (pa_cons (pe_tup (pa_cons (pv 9) (pa_cons pe_bl (pa_cons (pv 8) pa_nil)))) pa_nil)))
 (pss_one (ps_set (i := 8) sc_law_more.nd rfl (Or.inl rfl) (pe_callB (k_len K) (by rfl) T.len_ bb_len (pa_cons (pv 4) pa_nil))))))
 (pss_one (ps_expr (pe_bm PySem.F.plainAttrs_list PySem.F.slot_list_append PySem.F.type_list_append d_append (pv 4) (pa_cons (pe_tup (pa_cons (pv 1) (pa_cons pe_bl (pa_cons (pv 8) pa_nil)))) pa_nil))))))))
 (pss_one (ps_ret (pv 4))))), ?_⟩
  rintro M0 ds r ⟨line, spot, blocks, works, rfl, hk, rfl⟩ hQ
  have he : law_more line spot blocks works = _ := law_more.eq_1 line spot blocks works
  rw [law_more_ok.eq_1] at hk
  show Sd _ _ [.dat (eS line), .dat (Dt.int spot), .dat ((eL (e3 Dt.int Dt.bl Dt.int)) blocks), .dat ((eL (e2 Dt.int Dt.int)) works), .any, .any, .any, .any, .any, .any, .any] _ _
  refine sd_ownE (i := 4) (e3 Dt.int Dt.bl Dt.int) he (b2 hk) (en_lcm (en := (e3 Dt.int Dt.bl Dt.int)) (en' := (e3 Dt.int Dt.bl Dt.int)) (WalkI.e (wk_list (ed_var rfl))) (ltM (bD (b1 hk))) (fun d3 y2 m4 => gd_name) (gw_name (by decide)) (fun d3 y2 m4 => (ed_var rfl))) fun p1 hp1 found6 he7 hk8 => ?_
  show Sd _ _ [.dat (eS line), .dat (Dt.int spot), .dat ((eL (e3 Dt.int Dt.bl Dt.int)) blocks), .dat ((eL (e2 Dt.int Dt.int)) works), .own p1 (List.map (e3 Dt.int Dt.bl Dt.int) found6), .any, .any, .any, .any, .any, .any] _ _
  refine sd_forS (fun (s : List ((Int × Bool × Int))) => [(4, .own p1 (List.map (e3 Dt.int Dt.bl Dt.int) s)), (5, .any), (6, .any), (7, .any), (8, .any), (9, .any)]) (e2 Dt.int Dt.int) he7 (b2 hk8) (b1 hk8) (wk_list (ed_var rfl)) (.same (.same (.same (.same (.same (.any (.any (.any (.any (.any (.same .nil))))))))))) (fun c' x s => (gd_tup (gd_cons gd_name (gd_cons gd_name gd_nil)) (by rfl))) (fun B24 eB25 i12 x10 s11 hx15 hs16 y17 he18 hk23 N19 B20 hN21 hB22 => ?_) (fun s65 he66 hk67 => ?_)
  · show Sd _ _ [.dat (eS line), .dat (Dt.int spot), .dat ((eL (e3 Dt.int Dt.bl Dt.int)) blocks), .dat ((eL (e2 Dt.int Dt.int)) works), .own p1 (List.map (e3 Dt.int Dt.bl Dt.int) s11), .dat (Dt.int x10.1), .dat (Dt.int x10.2), .any, .any, .any, .any] _ _
    refine sd_asgE (i := 7) (eL Dt.int) he18 (b2 hk23) (ed_slL (f := Dt.int) (el_dat (En.ed (en_lcf (en := Dt.int) (en' := Dt.int) (WalkI.e (wk_rng2 (ed_ii (ed_call (ea_cons (ed_var rfl) (ea_cons (ed_var rfl) ea_nil)) ⟨_, _, rfl, (b1 (b1 hk23)), rfl⟩) ed_int) (ed_var rfl) (midM (b1 (b2 (b1 hk23)))) (midM (b1 (b2 (b2 (b1 hk23))))))) (ltM (bD (b1 (b2 (b2 (b2 (b1 hk23))))))) (fun d27 y26 m28 => gd_name) (gw_name (by decide)) (fun d27 y26 m28 => (et_test (ed_inC [97, 98, 66] (ed_ixS (ed_var rfl) (ed_ii (ed_var rfl) ed_int) (bD (b1 (allP (b2 (b2 (b2 (b2 (b1 hk23))))) m28))) (bD (b1 (b2 (allP (b2 (b2 (b2 (b2 (b1 hk23))))) m28)))) (bD (b2 (b2 (allP (b2 (b2 (b2 (b2 (b1 hk23))))) m28))))) (ed_strc [97, 98, 66] (by rfl))))) (fun d27 y26 m28 q29 => (ed_var rfl))))) eo_none (eo_some (ed_var rfl))) fun slots30 he31 hk32 => ?_
    show Sd _ _ [.dat (eS line), .dat (Dt.int spot), .dat ((eL (e3 Dt.int Dt.bl Dt.int)) blocks), .dat ((eL (e2 Dt.int Dt.int)) works), .own p1 (List.map (e3 Dt.int Dt.bl Dt.int) s11), .dat (Dt.int x10.1), .dat (Dt.int x10.2), .dat ((eL Dt.int) slots30), .any, .any, .any] _ _
    refine sd_asgE (i := 8) Dt.int he31 hk32 (ed_var rfl) fun tip33 he34 hk35 => ?_
    show Sd _ _ [.dat (eS line), .dat (Dt.int spot), .dat ((eL (e3 Dt.int Dt.bl Dt.int)) blocks), .dat ((eL (e2 Dt.int Dt.int)) works), .own p1 (List.map (e3 Dt.int Dt.bl Dt.int) s11), .dat (Dt.int x10.1), .dat (Dt.int x10.2), .dat ((eL Dt.int) slots30), .dat (Dt.int tip33), .any, .any] _ _
    refine sd_forS (fun (s : List ((Int × Bool × Int)) × Int) => [(4, .own p1 (List.map (e3 Dt.int Dt.bl Dt.int) s.1)), (8, .dat (Dt.int s.2)), (9, .any)]) Dt.int he34 (b2 hk35) (b1 hk35) (wk_list (ed_var rfl)) (.same (.same (.same (.same (.same (.same (.same (.same (.same (.any (.same .nil))))))))))) (fun c' x s => gd_name) (fun B51 eB52 i39 x37 s38 hx42 hs43 y44 he45 hk50 N46 B47 hN48 hB49 => ?_) (fun s59 he60 hk61 => ?_)
    · show Sd _ _ [.dat (eS line), .dat (Dt.int spot), .dat ((eL (e3 Dt.int Dt.bl Dt.int)) blocks), .dat ((eL (e2 Dt.int Dt.int)) works), .own p1 (List.map (e3 Dt.int Dt.bl Dt.int) s38.1), .dat (Dt.int x10.1), .dat (Dt.int x10.2), .dat ((eL Dt.int) slots30), .dat (Dt.int s38.2), .dat (Dt.int x37), .any] _ _
      refine sd_appE (i := 4) (p := p1) (e3 Dt.int Dt.bl Dt.int) he45 (b2 hk50) rfl (ed_tup3 (f := Dt.int) (g := Dt.bl) (m := Dt.int) (ed_var rfl) ed_bl (ed_var rfl)) (ltM' (bD (b1 hk50))) trivial fun found53 he54 hk55 => ?_
      show Sd _ _ [.dat (eS line), .dat (Dt.int spot), .dat ((eL (e3 Dt.int Dt.bl Dt.int)) blocks), .dat ((eL (e2 Dt.int Dt.int)) works), .own p1 (List.map (e3 Dt.int Dt.bl Dt.int) found53), .dat (Dt.int x10.1), .dat (Dt.int x10.2), .dat ((eL Dt.int) slots30), .dat (Dt.int s38.2), .dat (Dt.int x37), .any] _ _
      refine sd_asgEL (i := 8) Dt.int he54 hk55 (ed_len (f := (e3 Dt.int Dt.bl Dt.int)) (el_own rfl)) fun tip56 he57 hk58 => ?_
      exact (fun σ H w => hN48 _ σ H he57 (WS.wk w (.same (.same (.same (.same (.same (.same (.same (.same (.same (.any (.same .nil)))))))))))))
    · show Sd _ _ [.dat (eS line), .dat (Dt.int spot), .dat ((eL (e3 Dt.int Dt.bl Dt.int)) blocks), .dat ((eL (e2 Dt.int Dt.int)) works), .own p1 (List.map (e3 Dt.int Dt.bl Dt.int) s59.1), .dat (Dt.int x10.1), .dat (Dt.int x10.2), .dat ((eL Dt.int) slots30), .dat (Dt.int s59.2), .any, .any] _ _
      refine sd_appEL (i := 4) (p := p1) (e3 Dt.int Dt.bl Dt.int) he60 (b2 hk61) rfl (ed_tup3 (f := Dt.int) (g := Dt.bl) (m := Dt.int) (ed_var rfl) ed_bl (ed_var rfl)) (ltM' (bD (b1 hk61))) trivial fun found62 he63 hk64 => ?_
      exact (fun σ H w => hN21 _ σ H he63 (WS.wk w (.same (.same (.same (.same (.same (.any (.any (.any (.any (.any (.same .nil)))))))))))))
  · show Sd _ _ [.dat (eS line), .dat (Dt.int spot), .dat ((eL (e3 Dt.int Dt.bl Dt.int)) blocks), .dat ((eL (e2 Dt.int Dt.int)) works), .own p1 (List.map (e3 Dt.int Dt.bl Dt.int) s65), .any, .any, .any, .any, .any, .any] _ _
    exact sd_retOwn (i := 4) (a := p1) rfl (hQ.to (congrArg (eL (e3 Dt.int Dt.bl Dt.int)) he66))

end K58
end

section
set_option maxHeartbeats 1000000
namespace K58
open PySem L2 Evl Dl
theorem cal_law_branches {P : Program} {w : World} {K : PySem.W.Frag} {mg : Str → Option Value} {base : Heap} {f : Addr} {fd : FuncData} (F : FnP K "_law_branches" "_law_branches" s_law_branches f fd) (gl : mg "_law_branches" = some (.ref f)) (T : Bn mg) (C_law_hands : Cal P w K mg base "_law_hands" 1 ["line", "spot"] (Pf K dom_law_hands)) (C_law_works : Cal P w K mg base "_law_works" 3 ["line", "spot", "mode", "late", "blocks"] (Pf K dom_law_works)) (C_law_more : Cal P w K mg base "_law_more" 2 ["line", "spot", "blocks", "works"] (Pf K dom_law_more)) : Cal P w K mg base "_law_branches" 4 ["line", "spot", "mode", "late", "blocks"] (Pf K dom_law_branches) := by
  refine cal_mk (k := 3) F gl sc_law_branches (fun _ _ _ _ _ _ us hl => match us, hl with | [_, _, _, _, _], _ => rfl) (fun ds r h => by obtain ⟨_, _, _, _, _, rfl, _⟩ := h; rfl) (fun cdv A outer s H Q E hr => ?_)
  have hu := hu_of hr
  refine ⟨_, (pss_cons (ps_set (i := 5) sc_law_branches.nd rfl (Or.inl rfl) (pe_cal C_law_hands hr (by decide) (pa_cons (pv 0) (pa_cons (pv 1) pa_nil))))
 (pss_cons (ps_set (i := 6) sc_law_branches.nd rfl (Or.inl rfl) (pe_lst (pa_cons (pv 4) pa_nil)))
 (pss_cons (ps_if (k_pt_tr K (pe_ix (k_ix_tup K) (pv 5) pe_int (fun _ _ => rfl)))
 (pss_cons (ps_set (i := 7) sc_law_branches.nd rfl (Or.inl rfl) (pe_cal C_law_works hr (by decide) (pa_cons (pv 0) (pa_cons (pv 1) (pa_cons (pv 2) (pa_cons (pv 3) (pa_cons (pv 4) pa_nil)))))))
 (pss_one (ps_if (pt_cmpR op_eq (pe_ix (k_ix_tup K) (pv 5) pe_int (fun _ _ => rfl)) pe_int (nomark _))
 (pss_one (ps_setLc (i := 6) (own := [("one", 8)]) rfl sc_law_branches.nd rfl rfl (sw_true rfl rfl rfl (by decide +kernel)) (pi_list (pv 7)) (blkOk_by (own := [("one", 8)]) (N := N_law_branches) (sc := defScope s_law_branches) (by decide +kernel)) (fun _ _ _ _ _ => (pg_name (i := 8) sc_law_branches.nd rfl (Or.inl rfl))) (fun _ _ _ _ _ => pts_nil) (fun _ _ _ _ _ => (pe_cal C_law_more hr (by decide) (pa_cons (pv 0) (pa_cons (pv 1) (pa_cons (pv 4) (pa_cons (pe_lst (pa_cons (pv 8) pa_nil)) pa_nil))))))))
 (pss_cons (ps_set (i := 6) sc_law_branches.nd rfl (Or.inl rfl) (pe_lst pa_nil))
 (pss_one (ps_for PassesOwn.never rfl (pi_list (pv 7)) (pg_name (i := 8) sc_law_branches.nd rfl (Or.inl rfl))
 (pss_one (ps_for PassesOwn.never rfl (pi_list (pv 7)) (pg_name (i := 9) sc_law_branches.nd rfl (Or.inl rfl))
 (pss_one (ps_if (pt_cmpR (k_leT K hr.units) (pv 8) (pv 9) (nomark _))
 (pss_one (ps_expr (pe_bm PySem.F.plainAttrs_list PySem.F.slot_list_append PySem.F.type_list_append d_append (pv 6) (pa_cons (pe_cal C_law_more hr (by decide) (pa_cons (pv 0) (pa_cons (pv 1) (pa_cons (pv 4) (pa_cons (pe_lst (pa_cons (pv 8) (pa_cons (pv 9) pa_nil))) pa_nil))))) pa_nil))))
 pss_nil))))))))))
 pss_nil)
 (pss_cons (ps_if (PW.pt (pw_and (k_pt_tr K (pe_ix (k_ix_tup K) (pv 5) pe_int (fun _ _ => rfl))) (pw_and1 (pt_cmpR op_eq (pv 2) pe_str (nomark _)))))
 (pss_cons (ps_set (i := 10) sc_law_branches.nd rfl (Or.inl rfl) (pe_lst pa_nil))
 (pss_cons (ps_for PassesOwn.never rfl (pi_list (pv 6)) (pg_name (i := 11) sc_law_branches.nd rfl (Or.inl rfl))
 (pss_cons (ps_expr (pe_bm PySem.F.plainAttrs_list PySem.F.slot_list_append PySem.F.type_list_append d_append (pv 10) (pa_cons (pv 11) pa_nil)))
 (pss_one (ps_for PassesOwn.never rfl (pi_range1 rfl T.range_ (pa_cons (pe_op op_add (pe_callB (k_len K) (by rfl) T.len_ bb_len (pa_cons (pv 4) pa_nil)) pe_int) pa_nil)) (pg_name (i := 12) sc_law_branches.nd rfl (Or.inl rfl))
 (pss_one (ps_expr (pe_bm PySem.F.plainAttrs_list PySem.F.slot_list_append PySem.F.type_list_append d_append (pv 10) (pa_cons (pe_op d_cat (pv 11) (pe_lst (pa_cons (pe_tup (pa_cons (pv 1) (pa_cons pe_bl (pa_cons (pv 12) pa_nil)))) pa_nil))) pa_nil))))))))
 (pss_one (ps_set (i := 6) sc_law_branches.nd rfl (Or.inl rfl) (pv 10)))))
 pss_nil)
 (pss_one (ps_ret (pv 6))))))), ?_⟩
  rintro M0 ds r ⟨line, spot, mode, late, blocks, rfl, hk, rfl⟩ hQ
  have he : law_branches line spot mode late blocks = _ := law_branches.eq_1 line spot mode late blocks
  rw [law_branches_ok.eq_1] at hk
  show Sd _ _ [.dat (eS line), .dat (Dt.int spot), .dat (eS mode), .dat (Dt.int late), .dat ((eL (e3 Dt.int Dt.bl Dt.int)) blocks), .any, .any, .any, .any, .any, .any, .any, .any] _ _
  refine sd_asgE (i := 5) (e2 Dt.int Dt.int) he (b2 hk) (ed_call (ea_cons (ed_var rfl) (ea_cons (ed_var rfl) ea_nil)) ⟨_, _, rfl, (b1 hk), rfl⟩) fun hands1 he2 hk3 => ?_
  show Sd _ _ [.dat (eS line), .dat (Dt.int spot), .dat (eS mode), .dat (Dt.int late), .dat ((eL (e3 Dt.int Dt.bl Dt.int)) blocks), .dat ((e2 Dt.int Dt.int) hands1), .any, .any, .any, .any, .any, .any, .any] _ _
  refine sd_ownE (i := 6) (eL (e3 Dt.int Dt.bl Dt.int)) he2 hk3 (en_l1 (f := (eL (e3 Dt.int Dt.bl Dt.int))) (ed_var rfl)) fun p4 hp4 found5 he6 hk7 => ?_
  show Sd _ _ [.dat (eS line), .dat (Dt.int spot), .dat (eS mode), .dat (Dt.int late), .dat ((eL (e3 Dt.int Dt.bl Dt.int)) blocks), .dat ((e2 Dt.int Dt.int) hands1), .own p4 (List.map (eL (e3 Dt.int Dt.bl Dt.int)) found5), .any, .any, .any, .any, .any, .any] _ _
  refine sd_give (i := 6) (p := p4) (L' := []) rfl (by simp) (by simp []) trivial ?_
  refine sd_join (fun (s' : List (List ((Int × Bool × Int)))) => [(6, .dat ((eL (eL (e3 Dt.int Dt.bl Dt.int))) s')), (7, .any), (8, .any), (9, .any)]) (law_branches_j14 spot mode blocks hands1) (law_branches_j14_ok spot mode blocks hands1) he6 (et_trI (ed_ixT (k := 0) (ed_var rfl) ed_int rfl)) (fun hb12 he88 N18 hN19 => ?_) (fun hb13 he89 N18 hN19 => ?_) (fun s17 he15 hk16 => ?_)
  · refine sd_asgE (i := 7) (eL (e2 Dt.int Dt.int)) he88 (b2 (cT hk7 hb12)) (ed_call (ea_cons (ed_var rfl) (ea_cons (ed_var rfl) (ea_cons (ed_var rfl) (ea_cons (ed_var rfl) (ea_cons (ed_var rfl) ea_nil))))) ⟨_, _, _, _, _, rfl, (b1 (cT hk7 hb12)), rfl⟩) fun works90 he91 hk92 => ?_
    show Sd _ _ [.dat (eS line), .dat (Dt.int spot), .dat (eS mode), .dat (Dt.int late), .dat ((eL (e3 Dt.int Dt.bl Dt.int)) blocks), .dat ((e2 Dt.int Dt.int) hands1), .dat ((eL (eL (e3 Dt.int Dt.bl Dt.int))) found5), .dat ((eL (e2 Dt.int Dt.int)) works90), .any, .any, .any, .any, .any] _ _
    refine sd_ifE he91 (et_test (ed_eqI (ed_ixT (k := 0) (ed_var rfl) ed_int rfl) ed_int)) (fun hb93 he95 => ?_) (fun hb94 he96 => ?_)
    · refine sd_ownEL (i := 6) (eL (e3 Dt.int Dt.bl Dt.int)) he95 (b2 (cT hk92 hb93)) (en_lcm (en := (e2 Dt.int Dt.int)) (en' := (eL (e3 Dt.int Dt.bl Dt.int))) (WalkI.e (wk_list (ed_var rfl))) (ltM (bD (b1 (b1 (cT hk92 hb93))))) (fun d99 y98 m100 => gd_name) (gw_name (by decide)) (fun d99 y98 m100 => (ed_call (ea_cons (ed_var rfl) (ea_cons (ed_var rfl) (ea_cons (ed_var rfl) (ea_cons (En.ed (en_l1 (f := (e2 Dt.int Dt.int)) (ed_var rfl))) ea_nil)))) ⟨_, _, _, _, rfl, (allP (b2 (b1 (cT hk92 hb93))) m100), rfl⟩))) fun p97 hp97 found102 he103 hk104 => ?_
      exact (fun σ H w => hN19 _ σ H he103 hk104 (WS.wk (WS.give w (i := 6) (a := p97) (L' := []) rfl (by simp) (by simp []) trivial) (.same (.same (.same (.same (.same (.same (.same (.any (.any (.any (.same (.same (.same .nil)))))))))))))))
    · refine sd_ownE (i := 6) (eL (e3 Dt.int Dt.bl Dt.int)) he96 (cF hk92 hb94) (en_l0 (f := (eL (e3 Dt.int Dt.bl Dt.int))) ) fun p105 hp105 found106 he107 hk108 => ?_
      show Sd _ _ [.dat (eS line), .dat (Dt.int spot), .dat (eS mode), .dat (Dt.int late), .dat ((eL (e3 Dt.int Dt.bl Dt.int)) blocks), .dat ((e2 Dt.int Dt.int) hands1), .own p105 (List.map (eL (e3 Dt.int Dt.bl Dt.int)) found106), .dat ((eL (e2 Dt.int Dt.int)) works90), .any, .any, .any, .any, .any] _ _
      refine sd_forSL (fun (s : List (List ((Int × Bool × Int)))) => [(6, .own p105 (List.map (eL (e3 Dt.int Dt.bl Dt.int)) s)), (8, .any), (9, .any)]) (e2 Dt.int Dt.int) he107 (b2 hk108) (b1 hk108) (wk_list (ed_var rfl)) (.same (.same (.same (.same (.same (.same (.same (.same (.any (.any (.same (.same (.same .nil))))))))))))) (fun c' x s => gd_name) (fun B124 eB125 i112 x110 s111 hx115 hs116 y117 he118 hk123 N119 B120 hN121 hB122 => ?_) (fun s153 he154 hk155 => ?_)
      · show Sd _ _ [.dat (eS line), .dat (Dt.int spot), .dat (eS mode), .dat (Dt.int late), .dat ((eL (e3 Dt.int Dt.bl Dt.int)) blocks), .dat ((e2 Dt.int Dt.int) hands1), .own p105 (List.map (eL (e3 Dt.int Dt.bl Dt.int)) s111), .dat ((eL (e2 Dt.int Dt.int)) works90), .dat ((e2 Dt.int Dt.int) x110), .any, .any, .any, .any] _ _
        refine sd_forSL (fun (s : List (List ((Int × Bool × Int)))) => [(6, .own p105 (List.map (eL (e3 Dt.int Dt.bl Dt.int)) s)), (9, .any)]) (e2 Dt.int Dt.int) he118 (b2 hk123) (b1 hk123) (wk_list (ed_var rfl)) (.same (.same (.same (.same (.same (.same (.same (.same (.same (.any (.same (.same (.same .nil))))))))))))) (fun c' x s => gd_name) (fun B141 eB142 i129 x127 s128 hx132 hs133 y134 he135 hk140 N136 B137 hN138 hB139 => ?_) (fun s150 he151 hk152 => ?_)
        · show Sd _ _ [.dat (eS line), .dat (Dt.int spot), .dat (eS mode), .dat (Dt.int late), .dat ((eL (e3 Dt.int Dt.bl Dt.int)) blocks), .dat ((e2 Dt.int Dt.int) hands1), .own p105 (List.map (eL (e3 Dt.int Dt.bl Dt.int)) s128), .dat ((eL (e2 Dt.int Dt.int)) works90), .dat ((e2 Dt.int Dt.int) x110), .dat ((e2 Dt.int Dt.int) x127), .any, .any, .any] _ _
          refine sd_ifE he135 (et_test (ed_leII (ed_var rfl) (ed_var rfl))) (fun hb143 he145 => ?_) (fun hb144 he146 => ?_)
          · refine sd_appEL (i := 6) (p := p105) (eL (e3 Dt.int Dt.bl Dt.int)) he145 (b2 (cT hk140 hb143)) rfl (ed_call (ea_cons (ed_var rfl) (ea_cons (ed_var rfl) (ea_cons (ed_var rfl) (ea_cons (En.ed (en_l2 (f := (e2 Dt.int Dt.int)) (ed_var rfl) (ed_var rfl))) ea_nil)))) ⟨_, _, _, _, rfl, (b1 (b1 (cT hk140 hb143))), rfl⟩) (ltM' (bD (b2 (b1 (cT hk140 hb143))))) trivial fun found147 he148 hk149 => ?_
            exact (fun σ H w => hN138 _ σ H he148 (WS.wk w (.same (.same (.same (.same (.same (.same (.same (.same (.same (.any (.same (.same (.same .nil)))))))))))))))
          · exact sd_next (fun σ H w => hN138 _ σ H he146 (WS.wk w (.same (.same (.same (.same (.same (.same (.same (.same (.same (.any (.same (.same (.same .nil)))))))))))))))
        · exact (fun σ H w => hN121 _ σ H he151 (WS.wk w (.same (.same (.same (.same (.same (.same (.same (.same (.any (.any (.same (.same (.same .nil)))))))))))))))
      · exact (fun σ H w => hN19 _ σ H he154 hk155 (WS.wk (WS.give w (i := 6) (a := p105) (L' := []) rfl (by simp) (by simp []) trivial) (.same (.same (.same (.same (.same (.same (.same (.any (.any (.any (.same (.same (.same .nil)))))))))))))))
  · exact sd_next (fun σ H w => hN19 _ σ H he89 (cF hk7 hb13) (WS.wk w (.same (.same (.same (.same (.same (.same (.same (.any (.any (.any (.same (.same (.same .nil)))))))))))))))
  · show Sd _ _ [.dat (eS line), .dat (Dt.int spot), .dat (eS mode), .dat (Dt.int late), .dat ((eL (e3 Dt.int Dt.bl Dt.int)) blocks), .dat ((e2 Dt.int Dt.int) hands1), .dat ((eL (eL (e3 Dt.int Dt.bl Dt.int))) s17), .any, .any, .any, .any, .any, .any] _ _
    refine sd_join (fun (s' : List (List ((Int × Bool × Int)))) => [(6, .dat ((eL (eL (e3 Dt.int Dt.bl Dt.int))) s')), (10, .any), (11, .any), (12, .any)]) (law_branches_j27) (law_branches_j27_ok) he15 (et_and (et_trI (ed_ixT (k := 1) (ed_var rfl) ed_int rfl)) (fun q20 => (et_test (ed_eqS (ed_var rfl) (ed_strc [111, 110, 99, 101] (by rfl)))))) (fun hb25 he33 N31 hN32 => ?_) (fun hb26 he34 N31 hN32 => ?_) (fun s30 he28 hk29 => ?_)
    · refine sd_ownE (i := 10) (eL (e3 Dt.int Dt.bl Dt.int)) he33 (cT hk16 hb25) (en_l0 (f := (eL (e3 Dt.int Dt.bl Dt.int))) ) fun p35 hp35 wide36 he37 hk38 => ?_
      show Sd _ _ [.dat (eS line), .dat (Dt.int spot), .dat (eS mode), .dat (Dt.int late), .dat ((eL (e3 Dt.int Dt.bl Dt.int)) blocks), .dat ((e2 Dt.int Dt.int) hands1), .dat ((eL (eL (e3 Dt.int Dt.bl Dt.int))) s17), .any, .any, .any, .own p35 (List.map (eL (e3 Dt.int Dt.bl Dt.int)) wide36), .any, .any] _ _
      refine sd_forS (fun (s : List (List ((Int × Bool × Int)))) => [(10, .own p35 (List.map (eL (e3 Dt.int Dt.bl Dt.int)) s)), (11, .any), (12, .any)]) (eL (e3 Dt.int Dt.bl Dt.int)) he37 (b2 hk38) (b1 hk38) (wk_list (ed_var rfl)) (.same (.same (.same (.same (.same (.same (.same (.same (.same (.same (.same (.any (.any .nil))))))))))))) (fun c' x s => gd_name) (fun B54 eB55 i42 x40 s41 hx45 hs46 y47 he48 hk53 N49 B50 hN51 hB52 => ?_) (fun s82 he83 hk84 => ?_)
      · show Sd _ _ [.dat (eS line), .dat (Dt.int spot), .dat (eS mode), .dat (Dt.int late), .dat ((eL (e3 Dt.int Dt.bl Dt.int)) blocks), .dat ((e2 Dt.int Dt.int) hands1), .dat ((eL (eL (e3 Dt.int Dt.bl Dt.int))) s17), .any, .any, .any, .own p35 (List.map (eL (e3 Dt.int Dt.bl Dt.int)) s41), .dat ((eL (e3 Dt.int Dt.bl Dt.int)) x40), .any] _ _
        refine sd_appE (i := 10) (p := p35) (eL (e3 Dt.int Dt.bl Dt.int)) he48 (b2 hk53) rfl (ed_var rfl) (ltM' (bD (b1 hk53))) trivial fun wide56 he57 hk58 => ?_
        show Sd _ _ [.dat (eS line), .dat (Dt.int spot), .dat (eS mode), .dat (Dt.int late), .dat ((eL (e3 Dt.int Dt.bl Dt.int)) blocks), .dat ((e2 Dt.int Dt.int) hands1), .dat ((eL (eL (e3 Dt.int Dt.bl Dt.int))) s17), .any, .any, .any, .own p35 (List.map (eL (e3 Dt.int Dt.bl Dt.int)) wide56), .dat ((eL (e3 Dt.int Dt.bl Dt.int)) x40), .any] _ _
        refine sd_forSL (fun (s : List (List ((Int × Bool × Int)))) => [(10, .own p35 (List.map (eL (e3 Dt.int Dt.bl Dt.int)) s)), (12, .any)]) Dt.int he57 (b2 hk58) (b2 (b1 hk58)) (wk_rng1 (ed_ii (ed_len (f := (e3 Dt.int Dt.bl Dt.int)) (el_dat (ed_var rfl))) ed_int) (midM (b1 (b1 hk58)))) (.same (.same (.same (.same (.same (.same (.same (.same (.same (.same (.same (.same (.any .nil))))))))))))) (fun c' x s => gd_name) (fun B74 eB75 i62 x60 s61 hx65 hs66 y67 he68 hk73 N69 B70 hN71 hB72 => ?_) (fun s79 he80 hk81 => ?_)
        · show Sd _ _ [.dat (eS line), .dat (Dt.int spot), .dat (eS mode), .dat (Dt.int late), .dat ((eL (e3 Dt.int Dt.bl Dt.int)) blocks), .dat ((e2 Dt.int Dt.int) hands1), .dat ((eL (eL (e3 Dt.int Dt.bl Dt.int))) s17), .any, .any, .any, .own p35 (List.map (eL (e3 Dt.int Dt.bl Dt.int)) s61), .dat ((eL (e3 Dt.int Dt.bl Dt.int)) x40), .dat (Dt.int x60)] _ _
          refine sd_appEL (i := 10) (p := p35) (eL (e3 Dt.int Dt.bl Dt.int)) he68 (b2 hk73) rfl (ed_cat (f := (e3 Dt.int Dt.bl Dt.int)) (el_dat (ed_var rfl)) (el_dat (En.ed (en_l1 (f := (e3 Dt.int Dt.bl Dt.int)) (ed_tup3 (f := Dt.int) (g := Dt.bl) (m := Dt.int) (ed_var rfl) ed_bl (ed_var rfl))))) (ltM (bD (b1 (b1 hk73))))) (ltM' (bD (b2 (b1 hk73)))) trivial fun wide76 he77 hk78 => ?_
          exact (fun σ H w => hN71 _ σ H he77 (WS.wk w (.same (.same (.same (.same (.same (.same (.same (.same (.same (.same (.same (.same (.any .nil)))))))))))))))
        · exact (fun σ H w => hN51 _ σ H he80 (WS.wk w (.same (.same (.same (.same (.same (.same (.same (.same (.same (.same (.same (.any (.any .nil)))))))))))))))
      · show Sd _ _ [.dat (eS line), .dat (Dt.int spot), .dat (eS mode), .dat (Dt.int late), .dat ((eL (e3 Dt.int Dt.bl Dt.int)) blocks), .dat ((e2 Dt.int Dt.int) hands1), .dat ((eL (eL (e3 Dt.int Dt.bl Dt.int))) s17), .any, .any, .any, .own p35 (List.map (eL (e3 Dt.int Dt.bl Dt.int)) s82), .any, .any] _ _
        refine sd_give (i := 10) (p := p35) (L' := []) rfl (by simp) (by simp []) trivial ?_
        refine sd_asgEL (i := 6) (eL (eL (e3 Dt.int Dt.bl Dt.int))) he83 hk84 (ed_var rfl) fun found85 he86 hk87 => ?_
        exact (fun σ H w => hN32 _ σ H he86 hk87 (WS.wk w (.same (.same (.same (.same (.same (.same (.same (.same (.same (.same (.any (.any (.any .nil)))))))))))))))
    · exact sd_next (fun σ H w => hN32 _ σ H he34 (cF hk16 hb26) (WS.wk w (.same (.same (.same (.same (.same (.same (.same (.same (.same (.same (.any (.any (.any .nil)))))))))))))))
    · show Sd _ _ [.dat (eS line), .dat (Dt.int spot), .dat (eS mode), .dat (Dt.int late), .dat ((eL (e3 Dt.int Dt.bl Dt.int)) blocks), .dat ((e2 Dt.int Dt.int) hands1), .dat ((eL (eL (e3 Dt.int Dt.bl Dt.int))) s30), .any, .any, .any, .any, .any, .any] _ _
      exact sd_retF (eL (eL (e3 Dt.int Dt.bl Dt.int))) he28 (ed_var rfl) (hQ.to (congrArg (eL (eL (e3 Dt.int Dt.bl Dt.int))) he28))

end K58
end

section
set_option maxHeartbeats 1000000
namespace K58
open PySem L2 Evl Dl
theorem cal_law_miss {P : Program} {w : World} {K : PySem.W.Frag} {mg : Str → Option Value} {base : Heap} {f : Addr} {fd : FuncData} (F : FnP K "_law_miss" "_law_miss" s_law_miss f fd) (gl : mg "_law_miss" = some (.ref f)) (T : Bn mg) (C_law_branches : Cal P w K mg base "_law_branches" 4 ["line", "spot", "mode", "late", "blocks"] (Pf K dom_law_branches)) (C_law_serves : Cal P w K mg base "_law_serves" 4 ["line", "cut", "mode", "late", "blocks", "spot"] (Pf K dom_law_serves)) : Cal P w K mg base "_law_miss" 5 ["mode", "late", "one", "first", "other", "second"] (Pf K dom_law_miss) := by
  refine cal_mk (k := 4) F gl sc_law_miss (fun _ _ _ _ _ _ us hl => match us, hl with | [_, _, _, _, _, _], _ => rfl) (fun ds r h => by obtain ⟨_, _, _, _, _, _, rfl, _⟩ := h; rfl) (fun cdv A outer s H Q E hr => ?_)
  have hu := hu_of hr
  refine ⟨_, (pss_cons (ps_set (i := 6) sc_law_miss.nd rfl (Or.inl rfl) pe_int)
 (pss_cons (ps_for PassesOwn.never rfl (pi_range1 rfl T.range_ (pa_cons (pe_callB (d_min2 rfl) (by rfl) T.min_ bb_min (pa_cons (pe_callB d_lenS (by rfl) T.len_ bb_len (pa_cons (pv 2) pa_nil)) (pa_cons (pe_callB d_lenS (by rfl) T.len_ bb_len (pa_cons (pv 4) pa_nil)) pa_nil))) pa_nil)) (pg_name (i := 7) sc_law_miss.nd rfl (Or.inl rfl))
 (pss_one (ps_if (pt_cmpR op_eq (pe_slice sl_str (pv 2) po_none (po_some (pe_op op_add (pv 7) pe_int))) (pe_slice sl_str (pv 4) po_none (po_some (pe_op op_add (pv 7) pe_int))) (nomark _))
 (pss_one (ps_set (i := 6) sc_law_miss.nd rfl (Or.inl rfl) (pe_op op_add (pv 7) pe_int)))
 pss_nil)))
 (pss_cons (ps_if (pt_cmpR op_eq (pv 2) (pv 4) (nomark _))
 (pss_one (ps_ret pe_bl))
 pss_nil)
 (pss_cons (ps_set (i := 8) sc_law_miss.nd rfl (Or.inl rfl) (pe_lst (pa_cons (pe_tup (pa_cons pe_int (pa_cons (pe_lst pa_nil) pa_nil))) pa_nil)))
 (pss_cons (ps_set (i := 9) sc_law_miss.nd rfl (Or.inl rfl) pe_int)
 (pss_cons (ps_for PassesOwn.never rfl (pi_range1 rfl T.range_ (pa_cons pe_int pa_nil)) (pg_name (i := 10) sc_law_miss.nd rfl (Or.inl rfl))
 (pss_cons (ps_if (pt_cmpR (k_eqNil K hr.units) (pv 8) (pe_lst pa_nil) (nomark _))
 (pss_one (ps_ret pe_bl))
 pss_nil)
 (pss_cons (ps_asg (pe_bm0 PySem.F.plainAttrs_list PySem.F.slot_list_pop PySem.F.type_list_pop mt_pop (pv 8)) (pg_tup rfl (pgs_cons (pg_name (i := 11) sc_law_miss.nd rfl (Or.inl rfl)) (pgs_cons (pg_name (i := 12) sc_law_miss.nd rfl (Or.inl rfl)) pgs_nil))))
 (pss_cons (ps_if (pt_cmpR op_eq (pv 11) (pv 6) (nomark _))
 (pss_one (ps_ret pe_bl))
 pss_nil)
 (pss_one (ps_for PassesOwn.never rfl (pi_list (pe_cal C_law_branches hr (by decide) (pa_cons (pv 2) (pa_cons (pe_op op_add (pv 11) pe_int) (pa_cons (pv 0) (pa_cons (pv 1) (pa_cons (pv 12) pa_nil))))))) (pg_name (i := 13) sc_law_miss.nd rfl (Or.inl rfl))
 (pss_cons (ps_set (i := 9) sc_law_miss.nd rfl (Or.inl rfl) (pe_op op_add (pv 9) pe_int))
 (pss_cons (ps_if (pt_cmpR op_gt (pv 9) pe_int (nomark _))
 (pss_one (ps_ret pe_bl))
 pss_nil)
 (pss_one (ps_if (PW.pt (pw_and (pt_val (pe_cal C_law_serves hr (by decide) (pa_cons (pv 2) (pa_cons (pe_op op_add (pv 11) pe_int) (pa_cons (pv 0) (pa_cons (pv 1) (pa_cons (pv 13) (pa_cons (pv 3) pa_nil)))))))) (pw_and1 (pt_val (pe_cal C_law_serves hr (by decide) (pa_cons (pv 4) (pa_cons (pe_op op_add (pv 11) pe_int) (pa_cons (pv 0) (pa_cons (pv 1) (pa_cons (pv 13) (pa_cons (pv 5) pa_nil)))))))))))
 (pss_one (ps_expr (pe_bm PySem.F.plainAttrs_list PySem.F.slot_list_append PySem.F.type_list_append d_append (pv 8) (pa_cons (pe_tup (pa_cons (pe_op op_add (pv 11) pe_int) (pa_cons (pv 13) pa_nil))) pa_nil))))
 pss_nil))))))))))
 (pss_one (ps_ret pe_bl)))))))), ?_⟩
  rintro M0 ds r ⟨mode, late, one_, first, other, second, rfl, hk, rfl⟩ hQ
  have he : law_miss mode late one_ first other second = _ := law_miss.eq_1 mode late one_ first other second
  rw [law_miss_ok.eq_1] at hk
  show Sd _ _ [.dat (eS mode), .dat (Dt.int late), .dat (eS one_), .dat (Dt.int first), .dat (eS other), .dat (Dt.int second), .any, .any, .any, .any, .any, .any, .any, .any] _ _
  refine sd_asgE (i := 6) Dt.int he hk ed_int fun common1 he2 hk3 => ?_
  show Sd _ _ [.dat (eS mode), .dat (Dt.int late), .dat (eS one_), .dat (Dt.int first), .dat (eS other), .dat (Dt.int second), .dat (Dt.int common1), .any, .any, .any, .any, .any, .any, .any] _ _
  refine sd_forS (fun (s : Int) => [(6, .dat (Dt.int s)), (7, .any)]) Dt.int he2 (b2 hk3) (b2 (b2 (b2 (b1 hk3)))) (wk_rng1 (ed_min2 (ed_lenS (ed_var rfl) (bD (b1 (b1 hk3)))) (ed_lenS (ed_var rfl) (bD (b1 (b2 (b1 hk3)))))) (midM (b1 (b2 (b2 (b1 hk3)))))) (.same (.same (.same (.same (.same (.same (.same (.any (.same (.same (.same (.same (.same (.same .nil)))))))))))))) (fun c' x s => gd_name) (fun B19 eB20 i7 x5 s6 hx10 hs11 y12 he13 hk18 N14 B15 hN16 hB17 => ?_) (fun s28 he29 hk30 => ?_)
  · show Sd _ _ [.dat (eS mode), .dat (Dt.int late), .dat (eS one_), .dat (Dt.int first), .dat (eS other), .dat (Dt.int second), .dat (Dt.int s6), .dat (Dt.int x5), .any, .any, .any, .any, .any, .any] _ _
    refine sd_ifE he13 (et_test (ed_eqS (ed_slS (ed_var rfl) eo_none (eo_some (ed_ii (ed_var rfl) ed_int)) (bD (b1 (b1 hk18)))) (ed_slS (ed_var rfl) eo_none (eo_some (ed_ii (ed_var rfl) ed_int)) (bD (b2 (b1 hk18)))))) (fun hb21 he23 => ?_) (fun hb22 he24 => ?_)
    · refine sd_asgEL (i := 6) Dt.int he23 (cT (b2 hk18) hb21) (ed_ii (ed_var rfl) ed_int) fun common25 he26 hk27 => ?_
      exact (fun σ H w => hN16 _ σ H he26 (WS.wk w (.same (.same (.same (.same (.same (.same (.same (.any (.same (.same (.same (.same (.same (.same .nil))))))))))))))))
    · exact sd_next (fun σ H w => hN16 _ σ H he24 (WS.wk w (.same (.same (.same (.same (.same (.same (.same (.any (.same (.same (.same (.same (.same (.same .nil))))))))))))))))
  · show Sd _ _ [.dat (eS mode), .dat (Dt.int late), .dat (eS one_), .dat (Dt.int first), .dat (eS other), .dat (Dt.int second), .dat (Dt.int s28), .any, .any, .any, .any, .any, .any, .any] _ _
    refine sd_whenE he29 (et_test (ed_eqS (ed_var rfl) (ed_var rfl))) (fun hb31 he33 => ?_) (fun hb32 he34 => ?_)
    · exact sd_retF Dt.bl he33 ed_bl (hQ.to (congrArg Dt.bl he33))
    · refine sd_ownE (i := 8) (e2 Dt.int (eL (e3 Dt.int Dt.bl Dt.int))) he34 (cF hk30 hb32) (en_l1 (f := (e2 Dt.int (eL (e3 Dt.int Dt.bl Dt.int)))) (ed_tup2 (f := Dt.int) (g := (eL (e3 Dt.int Dt.bl Dt.int))) ed_int (En.ed (en_l0 (f := (e3 Dt.int Dt.bl Dt.int)) )))) fun p35 hp35 stack36 he37 hk38 => ?_
      show Sd _ _ [.dat (eS mode), .dat (Dt.int late), .dat (eS one_), .dat (Dt.int first), .dat (eS other), .dat (Dt.int second), .dat (Dt.int s28), .any, .own p35 (List.map (e2 Dt.int (eL (e3 Dt.int Dt.bl Dt.int))) stack36), .any, .any, .any, .any, .any] _ _
      refine sd_asgE (i := 9) Dt.int he37 hk38 ed_int fun looks39 he40 hk41 => ?_
      show Sd _ _ [.dat (eS mode), .dat (Dt.int late), .dat (eS one_), .dat (Dt.int first), .dat (eS other), .dat (Dt.int second), .dat (Dt.int s28), .any, .own p35 (List.map (e2 Dt.int (eL (e3 Dt.int Dt.bl Dt.int))) stack36), .dat (Dt.int looks39), .any, .any, .any, .any] _ _
      refine sd_forR (fun (s : List ((Int × List ((Int × Bool × Int)))) × Int) => [(8, .own p35 (List.map (e2 Dt.int (eL (e3 Dt.int Dt.bl Dt.int))) s.1)), (9, .dat (Dt.int s.2)), (10, .any), (11, .any), (12, .any), (13, .any)]) Dt.int he40 (b2 hk41) (b2 (b1 hk41)) (wk_rng1 ed_int (midM (b1 (b1 hk41)))) (.same (.same (.same (.same (.same (.same (.same (.same (.same (.same (.any (.any (.any (.any .nil)))))))))))))) (fun c' x s => gd_name) (fun B57 eB58 i45 x43 s44 hx48 hs49 y50 he51 hk56 N52 B53 hN54 hB55 => ?_) (fun s106 he107 hk108 => ?_)
      · show Sd _ _ [.dat (eS mode), .dat (Dt.int late), .dat (eS one_), .dat (Dt.int first), .dat (eS other), .dat (Dt.int second), .dat (Dt.int s28), .any, .own p35 (List.map (e2 Dt.int (eL (e3 Dt.int Dt.bl Dt.int))) s44.1), .dat (Dt.int s44.2), .dat (Dt.int x43), .any, .any, .any] _ _
        refine sd_whenE he51 (et_nil (el_own rfl)) (fun hb59 he61 => ?_) (fun hb60 he62 => ?_)
        · exact sd_retS Dt.bl he61 ed_bl ((Post.up hQ eB58).to (congrArg Dt.bl (eqRt he40 (forL_rt hx48 hs49 (he51.symm.trans he61)))))
        · refine sd_popE (i := 8) (p := p35) (e2 Dt.int (eL (e3 Dt.int Dt.bl Dt.int))) he62 (b2 (cF hk56 hb60)) (b1 (cF hk56 hb60)) rfl trivial (fun _ _ => (gd_tup (gd_cons gd_name (gd_cons gd_name gd_nil)) (by rfl))) fun u63 stack64 he65 hk66 => ?_
          show Sd _ _ [.dat (eS mode), .dat (Dt.int late), .dat (eS one_), .dat (Dt.int first), .dat (eS other), .dat (Dt.int second), .dat (Dt.int s28), .any, .own p35 (List.map (e2 Dt.int (eL (e3 Dt.int Dt.bl Dt.int))) stack64), .dat (Dt.int s44.2), .dat (Dt.int x43), .dat (Dt.int u63.1), .dat ((eL (e3 Dt.int Dt.bl Dt.int)) u63.2), .any] _ _
          refine sd_whenE he65 (et_test (ed_eqI (ed_var rfl) (ed_var rfl))) (fun hb67 he69 => ?_) (fun hb68 he70 => ?_)
          · exact sd_retS Dt.bl he69 ed_bl ((Post.up hQ eB58).to (congrArg Dt.bl (eqRt he40 (forL_rt hx48 hs49 (he51.symm.trans he69)))))
          · refine sd_forRL (fun (s : List ((Int × List ((Int × Bool × Int)))) × Int) => [(8, .own p35 (List.map (e2 Dt.int (eL (e3 Dt.int Dt.bl Dt.int))) s.1)), (9, .dat (Dt.int s.2)), (13, .any)]) (eL (e3 Dt.int Dt.bl Dt.int)) he70 (b2 (cF hk66 hb68)) (b2 (b1 (cF hk66 hb68))) (wk_list (ed_call (ea_cons (ed_var rfl) (ea_cons (ed_ii (ed_var rfl) ed_int) (ea_cons (ed_var rfl) (ea_cons (ed_var rfl) (ea_cons (ed_var rfl) ea_nil))))) ⟨_, _, _, _, _, rfl, (b1 (b1 (cF hk66 hb68))), rfl⟩)) (.same (.same (.same (.same (.same (.same (.same (.same (.same (.same (.same (.same (.same (.any .nil)))))))))))))) (fun c' x s => gd_name) (fun B86 eB87 i74 x72 s73 hx77 hs78 y79 he80 hk85 N81 B82 hN83 hB84 => ?_) (fun s103 he104 hk105 => ?_)
            · show Sd _ _ [.dat (eS mode), .dat (Dt.int late), .dat (eS one_), .dat (Dt.int first), .dat (eS other), .dat (Dt.int second), .dat (Dt.int s28), .any, .own p35 (List.map (e2 Dt.int (eL (e3 Dt.int Dt.bl Dt.int))) s73.1), .dat (Dt.int s73.2), .dat (Dt.int x43), .dat (Dt.int u63.1), .dat ((eL (e3 Dt.int Dt.bl Dt.int)) u63.2), .dat ((eL (e3 Dt.int Dt.bl Dt.int)) x72)] _ _
              refine sd_asgE (i := 9) Dt.int he80 hk85 (ed_ii (ed_var rfl) ed_int) fun looks88 he89 hk90 => ?_
              show Sd _ _ [.dat (eS mode), .dat (Dt.int late), .dat (eS one_), .dat (Dt.int first), .dat (eS other), .dat (Dt.int second), .dat (Dt.int s28), .any, .own p35 (List.map (e2 Dt.int (eL (e3 Dt.int Dt.bl Dt.int))) s73.1), .dat (Dt.int looks88), .dat (Dt.int x43), .dat (Dt.int u63.1), .dat ((eL (e3 Dt.int Dt.bl Dt.int)) u63.2), .dat ((eL (e3 Dt.int Dt.bl Dt.int)) x72)] _ _
              refine sd_whenE he89 (et_test (ed_ib (ed_var rfl) ed_int)) (fun hb91 he93 => ?_) (fun hb92 he94 => ?_)
              · exact sd_retS Dt.bl he93 ed_bl ((Post.up (Post.up hQ eB58) eB87).to (congrArg Dt.bl (eqRt he40 (forL_rt hx48 hs49 (he51.symm.trans (eqRt he70 (forL_rt hx77 hs78 (he80.symm.trans he93))))))))
              · refine sd_ifE he94 (et_and (et_B (ed_call (ea_cons (ed_var rfl) (ea_cons (ed_ii (ed_var rfl) ed_int) (ea_cons (ed_var rfl) (ea_cons (ed_var rfl) (ea_cons (ed_var rfl) (ea_cons (ed_var rfl) ea_nil)))))) ⟨_, _, _, _, _, _, rfl, (b1 (b1 (cF hk90 hb92))), rfl⟩)) (fun q95 => (et_B (ed_call (ea_cons (ed_var rfl) (ea_cons (ed_ii (ed_var rfl) ed_int) (ea_cons (ed_var rfl) (ea_cons (ed_var rfl) (ea_cons (ed_var rfl) (ea_cons (ed_var rfl) ea_nil)))))) ⟨_, _, _, _, _, _, rfl, (bI (b2 (b1 (cF hk90 hb92))) q95), rfl⟩)))) (fun hb96 he98 => ?_) (fun hb97 he99 => ?_)
                · refine sd_appEL (i := 8) (p := p35) (e2 Dt.int (eL (e3 Dt.int Dt.bl Dt.int))) he98 (b2 (cT (b2 (cF hk90 hb92)) hb96)) rfl (ed_tup2 (f := Dt.int) (g := (eL (e3 Dt.int Dt.bl Dt.int))) (ed_ii (ed_var rfl) ed_int) (ed_var rfl)) (ltM' (bD (b1 (cT (b2 (cF hk90 hb92)) hb96)))) trivial fun stack100 he101 hk102 => ?_
                  exact (fun σ H w => hN83 _ σ H he101 (WS.wk w (.same (.same (.same (.same (.same (.same (.same (.same (.same (.same (.same (.same (.same (.any .nil))))))))))))))))
                · exact sd_next (fun σ H w => hN83 _ σ H he99 (WS.wk w (.same (.same (.same (.same (.same (.same (.same (.same (.same (.same (.same (.same (.same (.any .nil))))))))))))))))
            · exact (fun σ H w => hN54 _ σ H he104 (WS.wk w (.same (.same (.same (.same (.same (.same (.same (.same (.same (.same (.any (.any (.any (.any .nil))))))))))))))))
      · show Sd _ _ [.dat (eS mode), .dat (Dt.int late), .dat (eS one_), .dat (Dt.int first), .dat (eS other), .dat (Dt.int second), .dat (Dt.int s28), .any, .own p35 (List.map (e2 Dt.int (eL (e3 Dt.int Dt.bl Dt.int))) s106.1), .dat (Dt.int s106.2), .any, .any, .any, .any] _ _
        exact sd_retF Dt.bl he107 ed_bl (hQ.to (congrArg Dt.bl he107))

end K58
end

section
set_option maxHeartbeats 1000000
namespace K58
open PySem L2 Evl Dl
theorem cal_law_open {P : Program} {w : World} {K : PySem.W.Frag} {mg : Str → Option Value} {base : Heap} {f : Addr} {fd : FuncData} (F : FnP K "_law_open" "_law_open" s_law_open f fd) (gl : mg "_law_open" = some (.ref f)) (T : Bn mg) (C_law_serves : Cal P w K mg base "_law_serves" 4 ["line", "cut", "mode", "late", "blocks", "spot"] (Pf K dom_law_serves)) : Cal P w K mg base "_law_open" 5 ["line", "mode", "late", "spot"] (Pf K dom_law_open) := by
  refine cal_mk (k := 4) F gl sc_law_open (fun _ _ _ _ _ _ us hl => match us, hl with | [_, _, _, _], _ => rfl) (fun ds r h => by obtain ⟨_, _, _, _, rfl, _⟩ := h; rfl) (fun cdv A outer s H Q E hr => ?_)
  have hu := hu_of hr
  refine ⟨_, (pss_cons (ps_if (PW.pt (pw_or (pt_cmpR op_lt (pv 3) pe_int (nomark _)) (pw_or1 (pt_cmpR op_gt (pv 3) (pe_op op_add (pe_callB d_lenS (by rfl) T.len_ bb_len (pa_cons (pv 0) pa_nil)) pe_int) (nomark _)))))
 (pss_one (ps_ret pe_bl))
 pss_nil)
 (pss_one (ps_ret (pe_cal C_law_serves hr (by decide) (pa_cons (pv 0) (pa_cons pe_int (pa_cons (pv 1) (pa_cons (pv 2) (pa_cons (pe_lst pa_nil) (pa_cons (pv 3) pa_nil)))))))))), ?_⟩
  rintro M0 ds r ⟨line, mode, late, spot, rfl, hk, rfl⟩ hQ
  have he : law_open line mode late spot = _ := law_open.eq_1 line mode late spot
  rw [law_open_ok.eq_1] at hk
  show Sd _ _ [.dat (eS line), .dat (eS mode), .dat (Dt.int late), .dat (Dt.int spot)] _ _
  refine sd_whenE he (et_or (et_test (ed_ib (ed_var rfl) ed_int)) (fun q1 => (et_test (ed_ib (ed_var rfl) (ed_ii (ed_lenS (ed_var rfl) (bD (bE (b1 hk) q1))) ed_int))))) (fun hb2 he4 => ?_) (fun hb3 he5 => ?_)
  · exact sd_retF Dt.bl he4 ed_bl (hQ.to (congrArg Dt.bl he4))
  · exact sd_retF Dt.bl he5 (ed_call (ea_cons (ed_var rfl) (ea_cons ed_int (ea_cons (ed_var rfl) (ea_cons (ed_var rfl) (ea_cons (En.ed (en_l0 (f := (e3 Dt.int Dt.bl Dt.int)) )) (ea_cons (ed_var rfl) ea_nil)))))) ⟨_, _, _, _, _, _, rfl, (cF (b2 hk) hb3), rfl⟩) (hQ.to (congrArg Dt.bl he5))

end K58
end

section
set_option maxHeartbeats 1000000
namespace K58
open PySem L2 Evl Dl
theorem cal_law_number {P : Program} {w : World} {K : PySem.W.Frag} {mg : Str → Option Value} {base : Heap} {f : Addr} {fd : FuncData} (F : FnP K "_law_number" "_law_number" s_law_number f fd) (gl : mg "_law_number" = some (.ref f)) (T : Bn mg)  : Cal P w K mg base "_law_number" 1 ["item"] (Pf K dom_law_number) := by
  refine cal_mk (k := 0) F gl sc_law_number (fun _ _ _ _ _ _ us hl => match us, hl with | [_], _ => rfl) (fun ds r h => by obtain ⟨_, rfl, _⟩ := h; rfl) (fun cdv A outer s H Q E hr => ?_)
  have hu := hu_of hr
  refine ⟨_, (pss_one (ps_ret (pe_and (pe_callB (k_isi K) (by rfl) T.isinstance_ bb_isinstance (pa_cons (pv 0) (pa_cons (pe_bltn (v := .ty "int") rfl T.int_ bb_int rfl) pa_nil))) (pe_one (pe_not (pe_callB (k_isi K) (by rfl) T.isinstance_ bb_isinstance (pa_cons (pv 0) (pa_cons (pe_bltn (v := .ty "bool") rfl T.bool_ bb_bool rfl) pa_nil)))))))), ?_⟩
  rintro M0 ds r ⟨item, rfl, hk, rfl⟩ hQ
  have he : law_number item = _ := law_number.eq_1 item
  rw [law_number_ok.eq_1] at hk
  show Sd _ _ [.dat (Dt.int item)] _ _
  exact sd_retF Dt.bl he (ed_andV (ed_isi (.ty "int") (fun _ _ r => ty_int r) (kit_same _ _) (ed_var rfl)) (fun q1 => (ed_notV (ed_isi (.ty "bool") (fun _ _ r => ty_int r) (kit_int_bool _) (ed_var rfl))))) (hQ.to (congrArg Dt.bl he))

end K58
end

section
set_option maxHeartbeats 1000000
namespace K58
open PySem L2 Evl Dl
theorem cal_law_right {P : Program} {w : World} {K : PySem.W.Frag} {mg : Str → Option Value} {base : Heap} {f : Addr} {fd : FuncData} (F : FnP K "_law_right" "_law_right" s_law_right f fd) (gl : mg "_law_right" = some (.ref f)) (T : Bn mg) {aRota aWorld : Addr} (FRota : IsF K aRota) (NRota : RotaN K aRota)  (G : Gs mg aRota aWorld) (C_law_miss : Cal P w K mg base "_law_miss" 5 ["mode", "late", "one", "first", "other", "second"] (Pf K dom_law_miss)) (C_law_number : Cal P w K mg base "_law_number" 1 ["item"] (Pf K dom_law_number)) (C_law_open : Cal P w K mg base "_law_open" 5 ["line", "mode", "late", "spot"] (Pf K dom_law_open)) (C_law_hands : Cal P w K mg base "_law_hands" 1 ["line", "spot"] (Pf K dom_law_hands)) : Cal P w K mg base "_law_right" 6 ["told", "mode", "late"] (Pf K (dom_law_right K aRota)) := by
  refine cal_mk (k := 5) F gl sc_law_right (fun _ _ _ _ _ _ us hl => match us, hl with | [_, _, _], _ => rfl) (fun ds r h => by obtain ⟨_, _, _, rfl, _⟩ := h; rfl) (fun cdv A outer s H Q E hr => ?_)
  have hu := hu_of hr
  refine ⟨_, (pss_cons (ps_if (PW.pt (pw_or (pt_not (pt_val (pe_callB (k_isi K) (by rfl) T.isinstance_ bb_isinstance (pa_cons (pv 0) (pa_cons (pe_bltn (v := .ty "tuple") rfl T.tuple_ bb_tuple rfl) pa_nil))))) (pw_or (pt_cmpR op_ne (pe_callB (k_len K) (by rfl) T.len_ bb_len (pa_cons (pv 0) pa_nil)) pe_int (nomark _)) (pw_or (pt_not (pt_val (pe_cal C_law_number hr (by decide) (pa_cons (pe_ix (k_ix_tup K) (pv 0) pe_int (fun _ _ => rfl)) pa_nil)))) (pw_or1 (pt_not (pt_val (pe_cal C_law_number hr (by decide) (pa_cons (pe_ix (k_ix_tup K) (pv 0) pe_int (fun _ _ => rfl)) pa_nil)))))))))
 (pss_one (ps_ret pe_bl))
 pss_nil)
 (pss_cons (ps_if (PW.pt (pw_or (pt_not (pt_val (pe_callB (k_isi K) (by rfl) T.isinstance_ bb_isinstance (pa_cons (pe_ix (k_ix_tup K) (pv 0) pe_int (fun _ _ => rfl)) (pa_cons (pe_glob (v := .ref aRota) rfl G.Rota rfl) pa_nil))))) (pw_or1 (pt_not (pt_val (pe_callB (k_isi K) (by rfl) T.isinstance_ bb_isinstance (pa_cons (pe_ix (k_ix_tup K) (pv 0) pe_int (fun _ _ => rfl)) (pa_cons (pe_glob (v := .ref aRota) rfl G.Rota rfl) pa_nil))))))))
 (pss_one (ps_ret pe_bl))
 pss_nil)
 (pss_cons (ps_set (i := 3) sc_law_right.nd rfl (Or.inl rfl) (pe_lst (pa_cons (pe_fld (pe_ix (k_ix_tup K) (pv 0) pe_int (fun _ _ => rfl)) rfl) (pa_cons (pe_fld (pe_ix (k_ix_tup K) (pv 0) pe_int (fun _ _ => rfl)) rfl) pa_nil))))
 (pss_cons (ps_for PassesOwn.never rfl (pi_list (pv 3)) (pg_name (i := 4) sc_law_right.nd rfl (Or.inr rfl))
 (pss_cons (ps_if (PW.pt (pw_or (pt_not (pt_val (pe_callB (k_isi K) (by rfl) T.isinstance_ bb_isinstance (pa_cons (pv 4) (pa_cons (pe_bltn (v := .ty "str") rfl T.str_ bb_str rfl) pa_nil))))) (pw_or (pt_cmpR op_gt (pe_callB d_lenS (by rfl) T.len_ bb_len (pa_cons (pv 4) pa_nil)) pe_int (nomark _)) (pw_or1 (pt_val (pe_callB (k_any K) (by rfl) T.any_ bb_any (pa_cons (pe_lc (own := [("letter", 5)]) rfl sc_law_right.nd (pi_str (pv 4)) (blkOk_by (own := [("letter", 5)]) (N := N_law_right) (sc := defScope s_law_right) (by decide +kernel)) (fun _ _ _ _ _ => (pg_name (i := 5) sc_law_right.nd rfl (Or.inl rfl))) (fun _ _ _ _ _ => pts_nil) (fun _ _ _ _ _ => (pe_cmpR d_notInS (pv 5) pe_str rfl))) pa_nil)))))))
 (pss_one (ps_ret pe_bl))
 pss_nil)
 (pss_one (ps_if (pt_cmpR op_gt (pe_callB (k_sum K) (by rfl) T.sum_ bb_sum (pa_cons (pe_lc (own := [("spot", 6)]) rfl sc_law_right.nd (pi_range2 rfl T.range_ (pa_cons pe_int (pa_cons (pe_op op_add (pe_callB d_lenS (by rfl) T.len_ bb_len (pa_cons (pv 4) pa_nil)) pe_int) pa_nil))) (blkOk_by (own := [("spot", 6)]) (N := N_law_right) (sc := defScope s_law_right) (by decide +kernel)) (fun _ _ _ _ _ => (pg_name (i := 6) sc_law_right.nd rfl (Or.inl rfl))) (fun _ _ _ _ _ => pts_nil) (fun _ _ _ _ _ => (pe_ix (k_ix_tup K) (pe_cal C_law_hands hr (by decide) (pa_cons (pv 4) (pa_cons (pv 6) pa_nil))) pe_int (fun _ _ => rfl)))) pa_nil)) pe_int (nomark _))
 (pss_one (ps_ret pe_bl))
 pss_nil))))
 (pss_cons (ps_if (PW.pt (pw_or (pt_not (pt_val (pe_cal C_law_open hr (by decide) (pa_cons (pe_ix (k_ix_list K) (pv 3) pe_int (fun _ _ => rfl)) (pa_cons (pv 1) (pa_cons (pv 2) (pa_cons (pe_ix (k_ix_tup K) (pv 0) pe_int (fun _ _ => rfl)) pa_nil))))))) (pw_or1 (pt_not (pt_val (pe_cal C_law_open hr (by decide) (pa_cons (pe_ix (k_ix_list K) (pv 3) pe_int (fun _ _ => rfl)) (pa_cons (pv 1) (pa_cons (pv 2) (pa_cons (pe_ix (k_ix_tup K) (pv 0) pe_int (fun _ _ => rfl)) pa_nil))))))))))
 (pss_one (ps_ret pe_bl))
 pss_nil)
 (pss_one (ps_ret (pe_cal C_law_miss hr (by decide) (pa_cons (pv 1) (pa_cons (pv 2) (pa_cons (pe_ix (k_ix_list K) (pv 3) pe_int (fun _ _ => rfl)) (pa_cons (pe_ix (k_ix_tup K) (pv 0) pe_int (fun _ _ => rfl)) (pa_cons (pe_ix (k_ix_list K) (pv 3) pe_int (fun _ _ => rfl)) (pa_cons (pe_ix (k_ix_tup K) (pv 0) pe_int (fun _ _ => rfl)) pa_nil)))))))))))))), ?_⟩
  rintro M0 ds r ⟨told, mode, late, rfl, hk, rfl⟩ hQ
  have he : law_right told mode late = _ := law_right.eq_1 told mode late
  rw [law_right_ok.eq_1] at hk
  show Sd _ _ [.dat ((e4 (eRota K aRota) Dt.int (eRota K aRota) Dt.int) told), .dat (eS mode), .dat (Dt.int late), .any, .any, .any, .any] _ _
  refine sd_whenE he (et_or (et_not (et_B (ed_isi (.ty "tuple") (fun _ _ r => ty_tup r) (kit_same _ _) (ed_var rfl)))) (fun q3 => (et_or (et_test (ed_neI (ed_lenN 4 (ed_var rfl)) ed_int)) (fun q2 => (et_or (et_not (et_B (ed_call (ea_cons (ed_ixT (k := 1) (ed_var rfl) ed_int rfl) ea_nil) ⟨_, rfl, (b1 (bE (bE (b1 hk) q3) q2)), rfl⟩))) (fun q1 => (et_not (et_B (ed_call (ea_cons (ed_ixT (k := 3) (ed_var rfl) ed_int rfl) ea_nil) ⟨_, rfl, (bE (b2 (bE (bE (b1 hk) q3) q2)) q1), rfl⟩))))))))) (fun hb4 he6 => ?_) (fun hb5 he7 => ?_)
  · exact sd_retF Dt.bl he6 ed_bl (hQ.to (congrArg Dt.bl he6))
  · refine sd_whenE he7 (et_or (et_not (et_B (ed_isi (.own _) (fun _ _ r => ty_ins FRota r) (kit_own _ _) (ed_ixT (k := 0) (ed_var rfl) ed_int rfl)))) (fun q8 => (et_not (et_B (ed_isi (.own _) (fun _ _ r => ty_ins FRota r) (kit_own _ _) (ed_ixT (k := 2) (ed_var rfl) ed_int rfl)))))) (fun hb9 he11 => ?_) (fun hb10 he12 => ?_)
    · exact sd_retF Dt.bl he11 ed_bl (hQ.to (congrArg Dt.bl he11))
    · refine sd_asgE (i := 3) (eL eS) he12 (cF (cF (b2 hk) hb5) hb10) (En.ed (en_l2 (f := eS) (ed_fld FRota.cl NRota.letters (ed_ixT (k := 0) (ed_var rfl) ed_int rfl) rfl) (ed_fld FRota.cl NRota.letters (ed_ixT (k := 2) (ed_var rfl) ed_int rfl) rfl))) fun lines13 he14 hk15 => ?_
      show Sd _ _ [.dat ((e4 (eRota K aRota) Dt.int (eRota K aRota) Dt.int) told), .dat (eS mode), .dat (Dt.int late), .dat ((eL eS) lines13), .any, .any, .any] _ _
      refine sd_forR (fun (s : Unit) => [(4, .any)]) eS he14 (b2 hk15) (b1 hk15) (wk_list (ed_var rfl)) (.same (.same (.same (.same (.any (.same (.same .nil))))))) (fun c' x s => gd_name) (fun B31 eB32 i19 x17 s18 hx22 hs23 y24 he25 hk30 N26 B27 hN28 hB29 => ?_) (fun s51 he52 hk53 => ?_)
      · show Sd _ _ [.dat ((e4 (eRota K aRota) Dt.int (eRota K aRota) Dt.int) told), .dat (eS mode), .dat (Dt.int late), .dat ((eL eS) lines13), .dat (eS x17), .any, .any] _ _
        refine sd_whenE he25 (et_or (et_not (et_B (ed_isi (.ty "str") (fun _ _ r => ty_str r) (kit_same _ _) (ed_var rfl)))) (fun q38 => (et_or (et_test (ed_ib (ed_lenS (ed_var rfl) (bD (b1 (bE (b1 hk30) q38)))) ed_int)) (fun q37 => (et_B (ed_any (el_dat (En.ed (en_lcm (en := eC) (en' := Dt.bl) (WalkI.e (wk_str (ed_var rfl))) (ltM (bD (bE (b2 (bE (b1 hk30) q38)) q37))) (fun d34 y33 m35 => gd_name) (gw_name (by decide)) (fun d34 y33 m35 => (ed_notInC [46, 104, 72, 97, 98, 66] (ed_var rfl) (ed_strc [46, 104, 72, 97, 98, 66] (by rfl))))))))))))) (fun hb39 he41 => ?_) (fun hb40 he42 => ?_)
        · exact sd_retS Dt.bl he41 ed_bl ((Post.up hQ eB32).to (congrArg Dt.bl (eqRt he14 (forL_rt hx22 hs23 (he25.symm.trans he41)))))
        · refine sd_ifE he42 (et_test (ed_ib (ed_sum (el_dat (En.ed (en_lcm (en := Dt.int) (en' := Dt.int) (WalkI.e (wk_rng2 ed_int (ed_ii (ed_lenS (ed_var rfl) (bD (b1 (b1 (cF (b2 hk30) hb40))))) ed_int) (midM (b1 (b2 (b1 (cF (b2 hk30) hb40))))) (midM (b1 (b2 (b2 (b1 (cF (b2 hk30) hb40)))))))) (ltM (bD (b1 (b2 (b2 (b2 (b1 (cF (b2 hk30) hb40)))))))) (fun d44 y43 m45 => gd_name) (gw_name (by decide)) (fun d44 y43 m45 => (ed_ixT (k := 0) (ed_call (ea_cons (ed_var rfl) (ea_cons (ed_var rfl) ea_nil)) ⟨_, _, rfl, (allP (b2 (b2 (b2 (b2 (b1 (cF (b2 hk30) hb40)))))) m45), rfl⟩) ed_int rfl)))))) ed_int)) (fun hb47 he49 => ?_) (fun hb48 he50 => ?_)
          · exact sd_retS Dt.bl he49 ed_bl ((Post.up hQ eB32).to (congrArg Dt.bl (eqRt he14 (forL_rt hx22 hs23 (he25.symm.trans he49)))))
          · exact sd_next (fun σ H w => hN28 _ σ H he50 (WS.wk w (.same (.same (.same (.same (.any (.same (.same .nil)))))))))
      · show Sd _ _ [.dat ((e4 (eRota K aRota) Dt.int (eRota K aRota) Dt.int) told), .dat (eS mode), .dat (Dt.int late), .dat ((eL eS) lines13), .any, .any, .any] _ _
        refine sd_whenE he52 (et_or (et_not (et_B (ed_call (ea_cons (ed_ixL (f := eS) (el_dat (ed_var rfl)) ed_int (bD (b1 (b1 hk53))) (bD (b1 (b2 (b1 hk53))))) (ea_cons (ed_var rfl) (ea_cons (ed_var rfl) (ea_cons (ed_ixT (k := 1) (ed_var rfl) ed_int rfl) ea_nil)))) ⟨_, _, _, _, rfl, (b1 (b2 (b2 (b1 hk53)))), rfl⟩))) (fun q54 => (et_not (et_B (ed_call (ea_cons (ed_ixL (f := eS) (el_dat (ed_var rfl)) ed_int (bD (b1 (bE (b2 (b2 (b2 (b1 hk53)))) q54))) (bD (b1 (b2 (bE (b2 (b2 (b2 (b1 hk53)))) q54))))) (ea_cons (ed_var rfl) (ea_cons (ed_var rfl) (ea_cons (ed_ixT (k := 3) (ed_var rfl) ed_int rfl) ea_nil)))) ⟨_, _, _, _, rfl, (b2 (b2 (bE (b2 (b2 (b2 (b1 hk53)))) q54))), rfl⟩))))) (fun hb55 he57 => ?_) (fun hb56 he58 => ?_)
        · exact sd_retF Dt.bl he57 ed_bl (hQ.to (congrArg Dt.bl he57))
        · exact sd_retF Dt.bl he58 (ed_call (ea_cons (ed_var rfl) (ea_cons (ed_var rfl) (ea_cons (ed_ixL (f := eS) (el_dat (ed_var rfl)) ed_int (bD (b1 (cF (b2 hk53) hb56))) (bD (b1 (b2 (cF (b2 hk53) hb56))))) (ea_cons (ed_ixT (k := 1) (ed_var rfl) ed_int rfl) (ea_cons (ed_ixL (f := eS) (el_dat (ed_var rfl)) ed_int (bD (b1 (b2 (b2 (cF (b2 hk53) hb56))))) (bD (b1 (b2 (b2 (b2 (cF (b2 hk53) hb56))))))) (ea_cons (ed_ixT (k := 3) (ed_var rfl) ed_int rfl) ea_nil)))))) ⟨_, _, _, _, _, _, rfl, (b2 (b2 (b2 (b2 (cF (b2 hk53) hb56))))), rfl⟩) (hQ.to (congrArg Dt.bl he58))

end K58
end

section
set_option maxHeartbeats 1000000
namespace K58
open PySem L2 Evl Dl
theorem cal_check_length {P : Program} {w : World} {K : PySem.W.Frag} {mg : Str → Option Value} {base : Heap} {f : Addr} {fd : FuncData} (F : FnP K "check_length" "check_length" s_check_length f fd) (gl : mg "check_length" = some (.ref f)) (T : Bn mg) {aRota aWorld : Addr}  (G : Gs mg aRota aWorld)  : Cal P w K mg base "check_length" 1 ["text"] (Pf K dom_check_length) := by
  refine cal_mk (k := 0) F gl sc_check_length (fun _ _ _ _ _ _ us hl => match us, hl with | [_], _ => rfl) (fun ds r h => by obtain ⟨_, rfl, _⟩ := h; rfl) (fun cdv A outer s H Q E hr => ?_)
  have hu := hu_of hr
  refine ⟨_, (pss_one (ps_if (pt_cmpR op_gt (pe_callB d_lenS (by rfl) T.len_ bb_len (pa_cons (pv 0) pa_nil)) (pe_gc rfl G.MOST_CHARACTERS) (nomark _))
 (pss_one ps_never)
 pss_nil)), ?_⟩
  rintro M0 ds r ⟨text, rfl, hk, rfl⟩ hQ
  have he : check_length text = _ := check_length.eq_1 text
  rw [check_length_ok.eq_1] at hk
  show Sd _ _ [.dat (eS text)] _ _
  refine sd_ifE he (et_test (ed_ib (ed_lenS (ed_var rfl) (bD (b1 hk))) ed_int)) (fun hb1 he3 => ?_) (fun hb2 he4 => ?_)
  · exact sd_never (Bool.false_ne_true (cT (b2 hk) hb1))
  · exact sd_next (fun σ H w => (hQ.to (congrArg eU he4)) _ H w.ex (fun b hb => (w.zs b hb).2.2) .non)

end K58
end

section
set_option maxHeartbeats 1000000
namespace K58
open PySem L2 Evl Dl
theorem cal_first_strange {P : Program} {w : World} {K : PySem.W.Frag} {mg : Str → Option Value} {base : Heap} {f : Addr} {fd : FuncData} (F : FnP K "first_strange" "first_strange" s_first_strange f fd) (gl : mg "first_strange" = some (.ref f)) (T : Bn mg) {aRota aWorld : Addr}  (G : Gs mg aRota aWorld)  : Cal P w K mg base "first_strange" 1 ["text"] (Pf K dom_first_strange) := by
  refine cal_mk (k := 0) F gl sc_first_strange (fun _ _ _ _ _ _ us hl => match us, hl with | [_], _ => rfl) (fun ds r h => by obtain ⟨_, rfl, _⟩ := h; rfl) (fun cdv A outer s H Q E hr => ?_)
  have hu := hu_of hr
  refine ⟨_, (pss_cons (ps_for PassesOwn.never rfl (pi_enumS rfl T.enumerate_ (pa_cons (pv 0) pa_nil)) (pg_tup rfl (pgs_cons (pg_name (i := 1) sc_first_strange.nd rfl (Or.inl rfl)) (pgs_cons (pg_name (i := 2) sc_first_strange.nd rfl (Or.inl rfl)) pgs_nil)))
 (pss_one (ps_if (pt_cmpR d_notInS (pv 2) (pe_gc rfl G.LETTERS) rfl)
 (pss_one (ps_ret (pv 1)))
 pss_nil)))
 (pss_one (ps_ret pe_non))), ?_⟩
  rintro M0 ds r ⟨text, rfl, hk, rfl⟩ hQ
  have he : first_strange text = _ := first_strange.eq_1 text
  rw [first_strange_ok.eq_1] at hk
  show Sd _ _ [.dat (eS text), .any, .any] _ _
  refine sd_forR (fun (s : Unit) => [(1, .any), (2, .any)]) (e2 Dt.int eC) he (b2 hk) (b1 hk) (wk_enumS (ed_var rfl)) (.same (.any (.any .nil))) (fun c' x s => (gd_tup (gd_cons gd_name (gd_cons gd_name gd_nil)) (by rfl))) (fun B16 eB17 i4 x2 s3 hx7 hs8 y9 he10 hk15 N11 B12 hN13 hB14 => ?_) (fun s22 he23 hk24 => ?_)
  · show Sd _ _ [.dat (eS text), .dat (Dt.int x2.1), .dat (eC x2.2)] _ _
    refine sd_ifE he10 (et_test (ed_notInC [46, 104, 72, 97, 98, 66] (ed_var rfl) (ed_strc [46, 104, 72, 97, 98, 66] (by rfl)))) (fun hb18 he20 => ?_) (fun hb19 he21 => ?_)
    · exact sd_never (Bool.false_ne_true (cT hk15 hb18))
    · exact sd_next (fun σ H w => hN13 _ σ H he21 (WS.wk w (.same (.any (.any .nil)))))
  · show Sd _ _ [.dat (eS text), .any, .any] _ _
    exact sd_retF eU he23 ed_non (hQ.to (congrArg eU he23))

end K58
end

section
set_option maxHeartbeats 1000000
namespace K58
open PySem L2 Evl Dl
theorem cal_rota_fault {P : Program} {w : World} {K : PySem.W.Frag} {mg : Str → Option Value} {base : Heap} {f : Addr} {fd : FuncData} (F : FnP K "rota_fault" "rota_fault" s_rota_fault f fd) (gl : mg "rota_fault" = some (.ref f)) (T : Bn mg) {aRota aWorld : Addr}  (G : Gs mg aRota aWorld) (C_first_strange : Cal P w K mg base "first_strange" 1 ["text"] (Pf K dom_first_strange)) : Cal P w K mg base "rota_fault" 2 ["text"] (Pf K dom_rota_fault) := by
  refine cal_mk (k := 1) F gl sc_rota_fault (fun _ _ _ _ _ _ us hl => match us, hl with | [_], _ => rfl) (fun ds r h => by obtain ⟨_, rfl, _⟩ := h; rfl) (fun cdv A outer s H Q E hr => ?_)
  have hu := hu_of hr
  refine ⟨_, (pss_cons (ps_if (pt_cmpR op_eq (pv 0) (pe_gc rfl G.EMPTY) (nomark _))
 (pss_one (ps_ret pe_non))
 pss_nil)
 (pss_cons (ps_if (pt_cmpR op_eq (pv 0) pe_str (nomark _))
 (pss_one (ps_ret pe_int))
 pss_nil)
 (pss_one (ps_ret (pe_cal C_first_strange hr (by decide) (pa_cons (pv 0) pa_nil)))))), ?_⟩
  rintro M0 ds r ⟨text, rfl, hk, rfl⟩ hQ
  have he : rota_fault text = _ := rota_fault.eq_1 text
  rw [rota_fault_ok.eq_1] at hk
  show Sd _ _ [.dat (eS text)] _ _
  refine sd_whenE he (et_test (ed_eqS (ed_var rfl) (ed_strc [45] (by rfl)))) (fun hb1 he3 => ?_) (fun hb2 he4 => ?_)
  · exact sd_retF eU he3 ed_non (hQ.to (congrArg eU he3))
  · refine sd_whenE he4 (et_test (ed_eqS (ed_var rfl) (ed_strc [] (by rfl)))) (fun hb5 he7 => ?_) (fun hb6 he8 => ?_)
    · exact sd_never (Bool.false_ne_true (cT (cF hk hb2) hb5))
    · exact sd_retF eU he8 (ed_call (ea_cons (ed_var rfl) ea_nil) ⟨_, rfl, (cF (cF hk hb2) hb6), rfl⟩) (hQ.to (congrArg eU he8))

end K58
end

section
set_option maxHeartbeats 1000000
namespace K58
open PySem L2 Evl Dl
theorem cal_letters_of_text {P : Program} {w : World} {K : PySem.W.Frag} {mg : Str → Option Value} {base : Heap} {f : Addr} {fd : FuncData} (F : FnP K "letters_of_text" "letters_of_text" s_letters_of_text f fd) (gl : mg "letters_of_text" = some (.ref f)) (T : Bn mg) {aRota aWorld : Addr}  (G : Gs mg aRota aWorld)  : Cal P w K mg base "letters_of_text" 1 ["text"] (Pf K dom_letters_of_text) := by
  refine cal_mk (k := 0) F gl sc_letters_of_text (fun _ _ _ _ _ _ us hl => match us, hl with | [_], _ => rfl) (fun ds r h => by obtain ⟨_, rfl, _⟩ := h; rfl) (fun cdv A outer s H Q E hr => ?_)
  have hu := hu_of hr
  refine ⟨_, (pss_cons (ps_if (pt_cmpR op_eq (pv 0) (pe_gc rfl G.EMPTY) (nomark _))
 (pss_one (ps_ret pe_str))
 pss_nil)
 (pss_one (ps_ret (pv 0)))), ?_⟩
  rintro M0 ds r ⟨text, rfl, hk, rfl⟩ hQ
  have he : letters_of_text text = _ := letters_of_text.eq_1 text
  rw [letters_of_text_ok.eq_1] at hk
  show Sd _ _ [.dat (eS text)] _ _
  refine sd_whenE he (et_test (ed_eqS (ed_var rfl) (ed_strc [45] (by rfl)))) (fun hb1 he3 => ?_) (fun hb2 he4 => ?_)
  · exact sd_retF eS he3 (ed_strc [] (by rfl)) (hQ.to (congrArg eS he3))
  · exact sd_retF eS he4 (ed_var rfl) (hQ.to (congrArg eS he4))

end K58
end

section
set_option maxHeartbeats 1000000
/-! Hand1: the program's defs that k58 reaches, by hand. -/
namespace K58
open PySem L2 Evl Dl
theorem nin {f : Str} {fs : List (Str × Dt)} (ns : List Str) (e : fs.map (·.1) = ns) (h : f ∉ ns := by decide) : f ∉ fs.map (·.1) := e ▸ h
theorem few {fs : List (Str × Dt)} (n : Nat) (e : fs.length = n) (h : n < 100 := by decide) : fs.length < 100 := e ▸ h
theorem no_tt {p : Prop} (h : false = true) : p := nomatch h
theorem no_ff {p : Prop} (h : true = false) : p := nomatch h
abbrev s_Rota_init : Stmt := inClass (top 26) 0
abbrev N_Rota_init : List Str := ["self", "text", "at", "letters"]
theorem sc_Rota_init : FnScope N_Rota_init ["self", "text"] (defScope s_Rota_init) := ⟨rfl, rfl, rfl, by decide +kernel, rfl, by decide +kernel, by decide +kernel⟩
abbrev s_Rota_eq : Stmt := inClass (top 26) 7
abbrev N_Rota_eq : List Str := ["self", "other"]
theorem sc_Rota_eq : FnScope N_Rota_eq ["self", "other"] (defScope s_Rota_eq) := ⟨rfl, rfl, rfl, by decide +kernel, rfl, by decide +kernel, by decide +kernel⟩
abbrev s_world_words : Stmt := top 28
abbrev N_world_words : List Str := ["text", "words"]
theorem sc_world_words : FnScope N_world_words ["text"] (defScope s_world_words) := ⟨rfl, rfl, rfl, by decide +kernel, rfl, by decide +kernel, by decide +kernel⟩
abbrev s_World_init : Stmt := inClass (top 29) 0
abbrev N_World_init : List Str := ["self", "text", "parts"]
theorem sc_World_init : FnScope N_World_init ["self", "text"] (defScope s_World_init) := ⟨rfl, rfl, rfl, by decide +kernel, rfl, by decide +kernel, by decide +kernel⟩
abbrev s_World_of : Stmt := inClass (top 29) 1
abbrev N_World_of : List Str := ["kind", "late"]
theorem sc_World_of : FnScope N_World_of ["kind", "late"] (defScope s_World_of) := ⟨rfl, rfl, rfl, by decide +kernel, rfl, by decide +kernel, by decide +kernel⟩
abbrev s_miss_parts : Stmt := top 31
abbrev N_miss_parts : List Str := ["kind", "late", "between", "behind"]
theorem sc_miss_parts : FnScope N_miss_parts ["kind", "late"] (defScope s_miss_parts) := ⟨rfl, rfl, rfl, by decide +kernel, rfl, by decide +kernel, by decide +kernel⟩
abbrev s_find_miss : Stmt := top 33
abbrev N_find_miss : List Str := ["world", "parts", "first", "one", "second", "other"]
theorem sc_find_miss : FnScope N_find_miss ["world"] (defScope s_find_miss) := ⟨rfl, rfl, rfl, by decide +kernel, rfl, by decide +kernel, by decide +kernel⟩

/-! ### worlds -/
abbrev manyC : List Nat := [109, 97, 110, 121]
abbrev onceC : List Nat := [111, 110, 99, 101]
def wText (k : List Nat) (l : Int) : List Nat := k ++ [32, 48 + l.toNat]
def WOk (k : List Nat) (l : Int) : Prop := (k = manyC ∨ k = onceC) ∧ (l = 0 ∨ l = 1 ∨ l = 2 ∨ l = 3 ∨ l = 4)
structure Gt (K : PySem.W.Frag) (mg : Str → Option Value) (aK aL : Addr) : Prop where
  KINDS : ∃ u, mg "KINDS" = some u ∧ RelV (.ref aK) u
  LATENESSES : ∃ u, mg "LATENESSES" = some u ∧ RelV (.ref aL) u
  kinds : ∀ H, SqT K H aK (([sS manyC, sS onceC] : List Str).map V.str)
  lates : ∀ H, SqT K H aL (([sS [48], sS [49], sS [50], sS [51], sS [52]] : List Str).map V.str)
section
variable {P : Program} {w : World} {K : PySem.W.Frag} {mg : Str → Option Value} {base : Heap} {f : Addr} {fd : FuncData} {aRota aWorld aK aL : Addr}

/-! ### Rota -/
def rotaOk (t : List Nat) : Bool := check_length_ok t && (rota_fault_ok t && (letters_of_text_ok t && decide ((letters_of_text t).length ≤ 40)))
def dom_Rota (ds : List Dt) (fs : List (Str × Dt)) : Prop := ∃ t, ds = [eS t] ∧ rotaOk t = true ∧ fs = [(("letters" : Str), eS (letters_of_text t)), (("text" : Str), eS t)]
theorem mc_Rota (M : Mk K aRota f) (F : FnP K "__init__" "Rota.__init__" s_Rota_init f fd) (G : Gs mg aRota aWorld) (T : Bn mg) (cl : Cls K aRota) (N : RotaN K aRota)
    (C_check_length : Cal P w K mg base "check_length" 1 ["text"] (Pf K dom_check_length)) (C_rota_fault : Cal P w K mg base "rota_fault" 2 ["text"] (Pf K dom_rota_fault)) (C_letters_of_text : Cal P w K mg base "letters_of_text" 1 ["text"] (Pf K dom_letters_of_text)) :
    Mc P w K mg base "Rota" 3 aRota ["self", "text"] (Pi K aRota dom_Rota) := by
  refine mc_mk (k := 2) M F G.Rota sc_Rota_init (fun _ _ _ _ _ _ us hl => match us, hl with | [_, _], _ => rfl) (fun ds r h => by obtain ⟨_, rfl, _⟩ := h; rfl) (fun cdv A outer s H Q E hr => ?_)
  refine ⟨_, (pss_cons (ps_expr (pe_cal C_check_length hr (by decide) (pa_cons (pv 1) pa_nil)))
 (pss_cons (ps_set (i := 2) sc_Rota_init.nd rfl (Or.inl rfl) (pe_cal C_rota_fault hr (by decide) (pa_cons (pv 1) pa_nil)))
 (pss_cons (ps_if (pt_cmpR d_notN (pv 2) pe_non (nomark _))
 (pss_one ps_never)
 pss_nil)
 (pss_cons (ps_set (i := 3) sc_Rota_init.nd rfl (Or.inl rfl) (pe_cal C_letters_of_text hr (by decide) (pa_cons (pv 1) pa_nil)))
 (pss_cons (ps_if (pt_cmpR op_gt (pe_callB d_lenS (by rfl) T.len_ bb_len (pa_cons (pv 3) pa_nil)) (pe_gc rfl G.MOST_SLOTS) (nomark _))
 (pss_one ps_never)
 pss_nil)
 (pss_cons (ps_fld (pv 0) (pv 3) rfl)
 (pss_one (ps_fld (pv 0) (pv 1) rfl)))))))), ?_⟩
  rintro M0 x dx ds fs ⟨t, rfl, hk, rfl⟩ N' hN
  have hl : (letters_of_text t).length ≤ 40 := bD (b2 (b2 (b2 hk)))
  show Sd _ _ [.ownX x (IX K aRota dx x []), .dat (eS t), .any, .any] _ _
  refine sd_drop (ed_call (ea_cons (ed_var rfl) ea_nil) ⟨_, rfl, b1 hk, rfl⟩) ?_
  refine sd_asg (i := 2) (ed_call (ea_cons (ed_var rfl) ea_nil) ⟨_, rfl, b1 (b2 hk), rfl⟩) ?_
  show Sd _ _ [.ownX x (IX K aRota dx x []), .dat (eS t), .dat .non, .any] _ _
  refine sd_when (b := false) (et_test (ed_notN (d := .non) (ed_var rfl) trivial)) (fun h => no_tt h) (fun _ => ?_)
  refine sd_asg (i := 3) (ed_call (ea_cons (ed_var rfl) ea_nil) ⟨_, rfl, b1 (b2 (b2 hk)), rfl⟩) ?_
  show Sd _ _ [.ownX x (IX K aRota dx x []), .dat (eS t), .dat .non, .dat (eS (letters_of_text t))] _ _
  refine sd_when (b := false) (Et.to (et_test (ed_ib (ed_lenS (ed_var rfl) (Nat.le_trans hl (by decide))) ed_int)) (decide_eq_false (by omega))) (fun h => no_tt h) (fun _ => ?_)
  refine sd_fld (i := 0) cl N.letters rfl (ed_var rfl) trivial (nin [] rfl) (few 0 rfl) ?_
  show Sd _ _ [.ownX x (IX K aRota dx x [(("letters" : Str), eS (letters_of_text t))]), .dat (eS t), .dat .non, .dat (eS (letters_of_text t))] _ _
  exact sd_fldL (i := 0) cl N.text rfl (ed_var rfl) trivial (nin ["letters"] rfl) (few 1 rfl) (fun σ H' w' => hN σ H' _ rfl w')
def dom_Rota_eq (K : PySem.W.Frag) (aRota : Addr) (ds : List Dt) (r : Dt) : Prop := ∃ p, ds = [eRota K aRota p, eRota K aRota p] ∧ r = .bl true
theorem fn_Rota_eq (F : FnP K "__eq__" "Rota.__eq__" s_Rota_eq f fd) (G : Gs mg aRota aWorld) (T : Bn mg) (FR : IsF K aRota) (N : RotaN K aRota) :
    FnOk P w K mg base CX0 1 f fd ["self", "other"] (Pf K (dom_Rota_eq K aRota)) ∧ Binds K fd ["self", "other"] [] := by
  refine ⟨F.ok sc_Rota_eq (fun vs H Q E h => ?_) (fun cdv A outer s H vs Q E hr h => ?_), F.bindsN (fun _ _ _ _ _ _ us hl => match us, hl with | [_, _], _ => rfl)⟩
  · obtain ⟨M0, ds, r, ⟨p, rfl, rfl⟩, _, ha, _⟩ := h
    rw [ha.length]; rfl
  · obtain ⟨M0, ds, r, ⟨p, rfl, rfl⟩, ht, ha, q⟩ := h
    refine ⟨_, PSs.nox (pss_one (ps_ret (pe_and (pe_callB (k_isi K) (by rfl) T.isinstance_ bb_isinstance (pa_cons (pv 1) (pa_cons (pe_glob (v := .ref aRota) rfl G.Rota rfl) pa_nil))) (pe_one (pe_cmpR op_eq (pe_fld (pv 0) rfl) (pe_fld (pv 1) rfl) (nomark _)))))), ?_⟩
    have body : Sd (cn0 K H M0) [] [.dat (eRota K aRota p), .dat (eRota K aRota p)] (tRet (tAndV (tCB (rIsi K) (tCons (tVar 1) (tCons (tC (.ref aRota)) tNil))) (tOp rEq (tFld K (tVar 0) "text") (tFld K (tVar 1) "text")))) { nx := fun _ H' => Q .non H', rt := Q } :=
      sd_ret (d := .bl true) (Ed.to (ed_andV (ed_isi (.own _) (fun _ _ r => ty_ins FR r) (kit_own _ _) (ed_var rfl)) (fun _ => ed_eqS (ed_fld FR.cl N.text (ed_var rfl) rfl) (ed_fld FR.cl N.text (ed_var rfl) rfl))) (by simp)) (post0 q)
    exact body _ H (start_ok ht ha)
def reqR (K : PySem.W.Frag) (aRota : Addr) (a b : Addr) (H : Hp) : Prop := ∃ p, Rp K H (.ref a) (eRota K aRota p) ∧ Rp K H (.ref b) (eRota K aRota p)
theorem rc_Rota_eq {X : Cx} (e1 : X.prog = P) (e2 : X.w = w) (e3 : X.K = K) (e4 : X.mg = mg) (e5 : X.base = base) (F : FnOk P w K mg base CX0 1 f fd ["self", "other"] (Pf K (dom_Rota_eq K aRota))) (b : Binds K fd ["self", "other"] []) (me : Meth K aRota "__eq__" f) :
    RcG X 1 (DIns aRota (reqR K aRota)) := by
  subst e1 e2 e3 e4 e5
  refine rcG_ins (ps := ["self", "other"]) (F.imp fun vs H Q E h => ?_) me.at_ me.fn b pass0
  obtain ⟨a, b, rfl, ⟨p, h1, h2⟩, q⟩ := h
  exact ⟨[], _, .bl true, ⟨p, rfl, rfl⟩, (fun a h => nomatch h), by rw [hid_nil]; exact .cons h1 (.cons h2 .nil), fun v H' e r => by rw [r.bl_inv]; exact q H' e⟩

/-! ### World -/
def dom_world_words (ds : List Dt) (r : Dt) : Prop := ∃ k l, WOk k l ∧ ds = [eS (wText k l)] ∧ r = .tup [eS k, .int l]
theorem cal_world_words (F : FnP K "world_words" "world_words" s_world_words f fd) (gl : mg "world_words" = some (.ref f)) (G : Gs mg aRota aWorld) (T : Bn mg) (J : Gt K mg aK aL) : Cal P w K mg base "world_words" 1 ["text"] (Pf K dom_world_words) := by
  refine cal_mk (k := 0) F gl sc_world_words (fun _ _ _ _ _ _ us hl => match us, hl with | [_], _ => rfl) (fun ds r h => by obtain ⟨_, _, _, rfl, _⟩ := h; rfl) (fun cdv A outer s H Q E hr => ?_)
  refine ⟨_, (pss_cons (ps_set (i := 1) sc_world_words.nd rfl (Or.inl rfl) (pe_split1 (pv 0) pe_str))
 (pss_cons (ps_if (PW.pt (pw_or (pt_cmpR op_ne (pe_callB (k_len K) (by rfl) T.len_ bb_len (pa_cons (pv 1) pa_nil)) pe_int (nomark _)) (pw_or (pt_cmpR (k_op_notIn_seq K) (pe_ix (k_ix_list K) (pv 1) pe_int (fun _ _ => rfl)) (pe_gc rfl J.KINDS) rfl) (pw_or1 (pt_cmpR (k_op_notIn_seq K) (pe_ix (k_ix_list K) (pv 1) pe_int (fun _ _ => rfl)) (pe_gc rfl J.LATENESSES) rfl)))))
 (pss_one (ps_ret pe_non))
 pss_nil)
 (pss_one (ps_ret (pe_tup (pa_cons (pe_ix (k_ix_list K) (pv 1) pe_int (fun _ _ => rfl)) (pa_cons (pe_callTy d_intS (by rfl) T.int_ bb_int (pa_cons (pe_ix (k_ix_list K) (pv 1) pe_int (fun _ _ => rfl)) pa_nil)) pa_nil))))))), ?_⟩
  rintro M0 ds r ⟨k, l, hw, rfl, rfl⟩ hQ
  have e : ∃ n : Nat, l = (n : Int) ∧ wText k l = k ++ [32, 48 + n] ∧ Txt.split (sS (k ++ [32, 48 + n])) (sS [32]) = [k, [48 + n]].map sS ∧ PySem.intText? (sS [48 + n]) = some l ∧ k.length = 4 ∧ (sS k ∈ ([sS manyC, sS onceC] : List Str)) ∧ sS [48 + n] ∈ ([sS [48], sS [49], sS [50], sS [51], sS [52]] : List Str) := by
    obtain ⟨hk, hl⟩ := hw
    rcases hk with rfl | rfl <;> rcases hl with rfl | rfl | rfl | rfl | rfl
    · exact ⟨0, rfl, rfl, by decide +kernel, by decide +kernel, rfl, by decide +kernel, by decide +kernel⟩
    · exact ⟨1, rfl, rfl, by decide +kernel, by decide +kernel, rfl, by decide +kernel, by decide +kernel⟩
    · exact ⟨2, rfl, rfl, by decide +kernel, by decide +kernel, rfl, by decide +kernel, by decide +kernel⟩
    · exact ⟨3, rfl, rfl, by decide +kernel, by decide +kernel, rfl, by decide +kernel, by decide +kernel⟩
    · exact ⟨4, rfl, rfl, by decide +kernel, by decide +kernel, rfl, by decide +kernel, by decide +kernel⟩
    · exact ⟨0, rfl, rfl, by decide +kernel, by decide +kernel, rfl, by decide +kernel, by decide +kernel⟩
    · exact ⟨1, rfl, rfl, by decide +kernel, by decide +kernel, rfl, by decide +kernel, by decide +kernel⟩
    · exact ⟨2, rfl, rfl, by decide +kernel, by decide +kernel, rfl, by decide +kernel, by decide +kernel⟩
    · exact ⟨3, rfl, rfl, by decide +kernel, by decide +kernel, rfl, by decide +kernel, by decide +kernel⟩
    · exact ⟨4, rfl, rfl, by decide +kernel, by decide +kernel, rfl, by decide +kernel, by decide +kernel⟩
  obtain ⟨n, rfl, e1, e2, e3, e4, e5, e6⟩ := e
  rw [e1]
  show Sd _ _ [.dat (eS (k ++ [32, 48 + n])), .any] _ _
  refine sd_asg (i := 1) (ed_split1 (ys := [k, [48 + n]]) (ed_var rfl) (ed_strc [32] (by rfl)) (by decide) (by rw [List.length_append, e4]; show 6 ≤ 1000000; decide) e2) ?_
  show Sd _ _ [.dat (eS (k ++ [32, 48 + n])), .dat (.lst [eS k, eS [48 + n]])] _ _
  have i0 : ∀ {te : TE}, Ed (cn0 K H M0) [] [.dat (eS (k ++ [32, 48 + n])), .dat (.lst [eS k, eS [48 + n]])] (tOp (rIxL K) (tVar 1) (tC (.int 0))) (eS k) := fun {_} => ed_ixLd (k := 0) (el_dat (ed_var rfl)) ed_int rfl
  have i1 : ∀ {te : TE}, Ed (cn0 K H M0) [] [.dat (eS (k ++ [32, 48 + n])), .dat (.lst [eS k, eS [48 + n]])] (tOp (rIxL K) (tVar 1) (tC (.int 1))) (eS [48 + n]) := fun {_} => ed_ixLd (k := 1) (el_dat (ed_var rfl)) ed_int rfl
  refine sd_when (b := false) (Et.to (et_or (et_test (ed_neI (ed_len (f := eS) (xs := [k, [48 + n]]) (el_dat (ed_var rfl))) ed_int)) fun _ => et_or (et_test (ed_notInTs (i0 (te := tNone)) (ed_gtup fun H => ⟨_, J.kinds H, RpA.of_strs _⟩))) fun _ => et_test (ed_notInTs (i1 (te := tNone)) (ed_gtup fun H => ⟨_, J.lates H, RpA.of_strs _⟩))) ?_) (fun h => no_tt h) (fun _ => ?_)
  · rw [decide_eq_true e5, decide_eq_true e6]; rfl
  · exact sd_ret (ed_tup (ea_cons (i0 (te := tNone)) (ea_cons (ed_intS (i1 (te := tNone)) e3 (by show 1 ≤ 640; decide)) ea_nil)) (Nat.le_of_ble_eq_true rfl)) hQ
where
  tNone : TE := fun _ _ _ => True
def dom_World (ds : List Dt) (fs : List (Str × Dt)) : Prop := ∃ k l, WOk k l ∧ ds = [eS (wText k l)] ∧ check_length_ok (wText k l) = true ∧ fs = [(("kind" : Str), eS k), (("late" : Str), .int l), (("text" : Str), eS (wText k l))]
theorem mc_World (M : Mk K aWorld f) (F : FnP K "__init__" "World.__init__" s_World_init f fd) (G : Gs mg aRota aWorld) (cl : Cls K aWorld) (N : WorldN K aWorld)
    (C_check_length : Cal P w K mg base "check_length" 1 ["text"] (Pf K dom_check_length)) (C_world_words : Cal P w K mg base "world_words" 1 ["text"] (Pf K dom_world_words)) :
    Mc P w K mg base "World" 2 aWorld ["self", "text"] (Pi K aWorld dom_World) := by
  refine mc_mk (k := 1) M F G.World sc_World_init (fun _ _ _ _ _ _ us hl => match us, hl with | [_, _], _ => rfl) (fun ds r h => by obtain ⟨_, _, _, rfl, _⟩ := h; rfl) (fun cdv A outer s H Q E hr => ?_)
  refine ⟨_, (pss_cons (ps_expr (pe_cal C_check_length hr (by decide) (pa_cons (pv 1) pa_nil)))
 (pss_cons (ps_set (i := 2) sc_World_init.nd rfl (Or.inl rfl) (pe_cal C_world_words hr (by decide) (pa_cons (pv 1) pa_nil)))
 (pss_cons (ps_if (pt_cmpR d_isN (pv 2) pe_non (nomark _))
 (pss_one ps_never)
 pss_nil)
 (pss_cons (ps_fld (pv 0) (pe_ix (k_ix_tup K) (pv 2) pe_int (fun _ _ => rfl)) rfl)
 (pss_cons (ps_fld (pv 0) (pe_ix (k_ix_tup K) (pv 2) pe_int (fun _ _ => rfl)) rfl)
 (pss_one (ps_fld (pv 0) (pv 1) rfl))))))), ?_⟩
  rintro M0 x dx ds fs ⟨k, l, hw, rfl, hk, rfl⟩ N' hN
  show Sd _ _ [.ownX x (IX K aWorld dx x []), .dat (eS (wText k l)), .any] _ _
  refine sd_drop (ed_call (ea_cons (ed_var rfl) ea_nil) ⟨_, rfl, hk, rfl⟩) ?_
  refine sd_asg (i := 2) (ed_call (ea_cons (ed_var rfl) ea_nil) ⟨k, l, hw, rfl, rfl⟩) ?_
  show Sd _ _ [.ownX x (IX K aWorld dx x []), .dat (eS (wText k l)), .dat (.tup [eS k, .int l])] _ _
  refine sd_when (b := false) (et_test (ed_isN (d := .tup [eS k, .int l]) (ed_var rfl) trivial)) (fun h => no_tt h) (fun _ => ?_)
  refine sd_fld (i := 0) cl N.kind rfl (ed_ixT (k := 0) (ed_var rfl) ed_int rfl) trivial (nin [] rfl) (few 0 rfl) ?_
  show Sd _ _ [.ownX x (IX K aWorld dx x [(("kind" : Str), eS k)]), .dat (eS (wText k l)), .dat (.tup [eS k, .int l])] _ _
  refine sd_fld (i := 0) cl N.late rfl (ed_ixT (k := 1) (ed_var rfl) ed_int rfl) trivial (nin ["kind"] rfl) (few 1 rfl) ?_
  show Sd _ _ [.ownX x (IX K aWorld dx x [(("kind" : Str), eS k), (("late" : Str), .int l)]), .dat (eS (wText k l)), .dat (.tup [eS k, .int l])] _ _
  exact sd_fldL (i := 0) cl N.text rfl (ed_var rfl) trivial (nin ["kind", "late"] rfl) (few 2 rfl) (fun σ H' w' => hN σ H' _ rfl w')
end
end K58
end

section
set_option maxHeartbeats 1000000
/-! Hand2: World.of, miss_parts, find_miss, _law_like. -/
namespace K58
open PySem L2 Evl Dl
def rep (n : Int) : List Nat := List.replicate n.toNat 46
def fA (l : Int) : List Nat := cond (decide (l = 0)) [104, 97] ((([] ++ [104]) ++ rep (l - 1)) ++ [104])
def fB (l : Int) : List Nat := cond (decide (l = 0)) [104, 97, 104] (((([] ++ [104]) ++ rep (l - 1)) ++ [104, 104]) ++ rep l)
def noMiss (k : List Nat) (l : Int) : Bool := decide (l = 0) && decide (k = manyC)
theorem wok_len {k : List Nat} {l : Int} (h : WOk k l) : check_length_ok (wText k l) = true := by
  obtain ⟨hk, hl⟩ := h
  rcases hk with rfl | rfl <;> rcases hl with rfl | rfl | rfl | rfl | rfl <;> decide +kernel
theorem wok_rA {k : List Nat} {l : Int} (h : WOk k l) : rotaOk (fA l) = true := by
  obtain ⟨hk, hl⟩ := h
  rcases hl with rfl | rfl | rfl | rfl | rfl <;> decide +kernel
theorem wok_rB {k : List Nat} {l : Int} (h : WOk k l) : rotaOk (fB l) = true := by
  obtain ⟨hk, hl⟩ := h
  rcases hl with rfl | rfl | rfl | rfl | rfl <;> decide +kernel
theorem wok_n {k : List Nat} {l : Int} (h : WOk k l) : ∃ n : Nat, l = (n : Int) ∧ n ≤ 4 ∧ ((toString l : String) : Str) = sS [48 + n] ∧ k.length = 4 ∧ wText k l = k ++ [32, 48 + n] ∧ l.natAbs.log2 < 1920 := by
  obtain ⟨hk, hl⟩ := h
  have e : k.length = 4 := by rcases hk with rfl | rfl <;> rfl
  rcases hl with rfl | rfl | rfl | rfl | rfl
  · exact ⟨0, rfl, by decide, by decide +kernel, e, rfl, by decide +kernel⟩
  · exact ⟨1, rfl, by decide, by decide +kernel, e, rfl, by decide +kernel⟩
  · exact ⟨2, rfl, by decide, by decide +kernel, e, rfl, by decide +kernel⟩
  · exact ⟨3, rfl, by decide, by decide +kernel, e, rfl, by decide +kernel⟩
  · exact ⟨4, rfl, by decide, by decide +kernel, e, rfl, by decide +kernel⟩
section
variable {P : Program} {w : World} {K : PySem.W.Frag} {mg : Str → Option Value} {base : Heap} {f : Addr} {fd : FuncData} {aRota aWorld aK aL : Addr}
def dom_World_of (K : PySem.W.Frag) (aWorld : Addr) (ds : List Dt) (r : Dt) : Prop := ∃ k l, WOk k l ∧ ds = [eS k, .int l] ∧ r = eWorld K aWorld (k, l, wText k l)
theorem fn_World_of (F : FnP K "of" "World.of" s_World_of f fd) (G : Gs mg aRota aWorld) (J : Gt K mg aK aL) (C_World : Mc P w K mg base "World" 2 aWorld ["self", "text"] (Pi K aWorld dom_World)) :
    FnOk P w K mg base CX0 4 f fd ["kind", "late"] (Pf K (dom_World_of K aWorld)) ∧ Binds K fd ["kind", "late"] [] := by
  refine ⟨F.ok sc_World_of (fun vs H Q E h => ?_) (fun cdv A outer s H vs Q E hr h => ?_), F.bindsN (fun _ _ _ _ _ _ us hl => match us, hl with | [_, _], _ => rfl)⟩
  · obtain ⟨M0, ds, r, ⟨k, l, _, rfl, rfl⟩, _, ha, _⟩ := h
    rw [ha.length]; rfl
  · obtain ⟨M0, ds, r, ⟨k, l, hw, rfl, rfl⟩, ht, ha, q⟩ := h
    have core : ∃ t, PSs (cxOf CX0 P w K mg base N_World_of "World.of" (defScope s_World_of) f cdv A outer s H E).nox (defBody s_World_of) t ∧ Sd (cn0 K H M0) [] [.dat (eS k), .dat (.int l)] t { nx := fun _ H' => Q .non H', rt := Q } := by
      refine ⟨_, (pss_cons (ps_if (pt_cmpR (k_op_notIn_seq K) (pv 0) (pe_gc rfl J.KINDS) rfl)
 (pss_one ps_never)
 pss_nil)
 (pss_cons (ps_if (PW.pt (pw_or (pt_cmpR op_lt (pv 1) pe_int (nomark _)) (pw_or1 (pt_cmpR op_gt (pv 1) (pe_gc rfl G.MOST_LATE) (nomark _)))))
 (pss_one ps_never)
 pss_nil)
 (pss_one (ps_ret (pe_mkc C_World hr (by decide) (pa_cons (pe_fstr (PJ.cons (pe_fmt (pv 0)) (PJ.cons pe_str (PJ.cons (pe_fmt (pv 1)) PJ.nil)))) pa_nil)))))), ?_⟩
      obtain ⟨n, en, hn, e1, e2, e3, e4⟩ := wok_n hw
      have hk : sS k ∈ ([sS manyC, sS onceC] : List Str) := by
        rcases hw.1 with e | e <;> rw [e] <;> simp
      refine sd_when (b := false) (Et.to (Dl.et_test (ed_notInTs (ed_var rfl) (ed_gtup fun H => ⟨_, J.kinds H, RpA.of_strs _⟩))) ?_) (fun h => no_tt h) (fun _ => ?_)
      · rw [decide_eq_true hk]; rfl
      refine sd_when (b := false) (Et.to (et_or (Dl.et_test (ed_ib (ed_var rfl) ed_int)) fun _ => Dl.et_test (ed_ib (ed_var rfl) ed_int)) ?_) (fun h => no_tt h) (fun _ => ?_)
      · have a1 : ¬ l < 0 := by omega
        have a2 : ¬ l > 4 := by omega
        show (decide (l < 0) || decide (l > 4)) = false
        rw [decide_eq_false a1, decide_eq_false a2]; rfl
      have txt : Ed (cn0 K H M0) [] [.dat (eS k), .dat (.int l)] (tJ [tFmt (tVar 0), tC (.str " "), tFmt (tVar 1)]) (eS (wText k l)) := Ed.to (ed_js (ej_cons (ed_fmtS (ed_var rfl) (by rw [e2]; decide)) (by rw [List.nil_append, e2]; decide) (ej_cons (ed_strc [32] (by rfl)) (by rw [List.nil_append, List.length_append, e2]; decide)
        (ej_cons (ed_fmtI (ed_var rfl) e4 e1) (by rw [List.nil_append, List.length_append, List.length_append, e2]; show 4 + 1 + 1 ≤ 1000000; decide) ej_nil)))) (by rw [e3, List.nil_append, List.append_assoc]; rfl)
      exact sd_ret (ed_make (ea_cons txt ea_nil) ⟨k, l, hw, rfl, wok_len hw, rfl⟩) (post0 q)
    obtain ⟨t, h1, h2⟩ := core
    exact ⟨t, h1.nox, h2 _ H (start_ok ht ha)⟩

def dom_miss_parts (ds : List Dt) (r : Dt) : Prop := ∃ k l, WOk k l ∧ ds = [eS k, .int l] ∧ r = cond (noMiss k l) .non (.tup [eS (fA l), .int 1, eS (fB l), .int 2])
theorem cal_miss_parts (F : FnP K "miss_parts" "miss_parts" s_miss_parts f fd) (gl : mg "miss_parts" = some (.ref f)) : Cal P w K mg base "miss_parts" 1 ["kind", "late"] (Pf K dom_miss_parts) := by
  refine cal_mk (k := 0) F gl sc_miss_parts (fun _ _ _ _ _ _ us hl => match us, hl with | [_, _], _ => rfl) (fun ds r h => by obtain ⟨_, _, _, rfl, _⟩ := h; rfl) (fun cdv A outer s H Q E hr => ?_)
  refine ⟨_, (pss_cons (ps_if (pt_cmpR op_eq (pv 1) pe_int (nomark _))
 (pss_cons (ps_if (pt_cmpR op_eq (pv 0) pe_str (nomark _))
 (pss_one (ps_ret pe_non))
 pss_nil)
 (pss_one (ps_ret (pe_tup (pa_cons pe_str (pa_cons pe_int (pa_cons pe_str (pa_cons pe_int pa_nil))))))))
 pss_nil)
 (pss_cons (ps_set (i := 2) sc_miss_parts.nd rfl (Or.inl rfl) (pe_op op_mulC pe_str (pe_op op_sub (pv 1) pe_int)))
 (pss_cons (ps_set (i := 3) sc_miss_parts.nd rfl (Or.inl rfl) (pe_op op_mulC pe_str (pv 1)))
 (pss_one (ps_ret (pe_tup (pa_cons (pe_fstr (PJ.cons pe_str (PJ.cons (pe_fmt (pv 2)) (PJ.cons pe_str PJ.nil)))) (pa_cons pe_int (pa_cons (pe_fstr (PJ.cons pe_str (PJ.cons (pe_fmt (pv 2)) (PJ.cons pe_str (PJ.cons (pe_fmt (pv 3)) PJ.nil))))) (pa_cons pe_int pa_nil)))))))))), ?_⟩
  rintro M0 ds r ⟨k, l, hw, rfl, rfl⟩ hQ
  show Sd _ _ [.dat (eS k), .dat (.int l), .any, .any] _ _
  refine sd_when (Dl.et_test (ed_eqI (ed_var rfl) ed_int)) (fun h => ?_) (fun h => ?_)
  · have l0 : l = 0 := bD h
    subst l0
    refine sd_when (Dl.et_test (ed_eqS (ed_var rfl) (ed_strc manyC (by rfl)))) (fun h2 => ?_) (fun h2 => ?_)
    · exact sd_ret (d := .non) ed_non (hQ.to (by unfold noMiss; rw [h2]; rfl))
    · exact sd_ret (d := .tup [eS [104, 97], .int 1, eS [104, 97, 104], .int 2]) (ed_tup (ea_cons (ed_strc _ (by rfl)) (ea_cons ed_int (ea_cons (ed_strc _ (by rfl)) (ea_cons ed_int ea_nil)))) (Nat.le_of_ble_eq_true rfl)) (hQ.to (by unfold noMiss; rw [h2]; rfl))
  · have l0 : ¬ l = 0 := of_decide_eq_false h
    obtain ⟨n, en, hn, _⟩ := wok_n hw
    have r1 : (rep (l - 1)).length ≤ 4 := by unfold rep; rw [List.length_replicate]; omega
    have r2 : (rep l).length ≤ 4 := by unfold rep; rw [List.length_replicate]; omega
    refine sd_asg (i := 2) (d := eS (rep (l - 1))) (ed_mulC (ed_ch 46 (by rfl)) (ed_ii (ed_var rfl) ed_int) (by omega) (by omega)) ?_
    refine sd_asg (i := 3) (d := eS (rep l)) (ed_mulC (ed_ch 46 (by rfl)) (ed_var rfl) (by omega) (by omega)) ?_
    show Sd _ _ [.dat (eS k), .dat (.int l), .dat (eS (rep (l - 1))), .dat (eS (rep l))] _ _
    refine sd_ret (d := .tup [eS ((([] ++ [104]) ++ rep (l - 1)) ++ [104]), .int 1, eS (((([] ++ [104]) ++ rep (l - 1)) ++ [104, 104]) ++ rep l), .int 2]) (ed_tup (ea_cons (ed_js (ej_cons (ed_strc [104] (by rfl)) (by decide) (ej_cons (ed_fmtS (ed_var rfl) (by omega)) ?_ (ej_cons (ed_strc [104] (by rfl)) ?_ ej_nil)))) (ea_cons ed_int (ea_cons (ed_js (ej_cons (ed_strc [104] (by rfl)) (by decide) (ej_cons (ed_fmtS (ed_var rfl) (by omega)) ?_ (ej_cons (ed_strc [104, 104] (by rfl)) ?_ (ej_cons (ed_fmtS (ed_var rfl) (by omega)) ?_ ej_nil))))) (ea_cons ed_int ea_nil)))) (Nat.le_of_ble_eq_true rfl)) (hQ.to ?_)
    · simp only [List.length_append, List.length_cons, List.length_nil]; omega
    · simp only [List.length_append, List.length_cons, List.length_nil]; omega
    · simp only [List.length_append, List.length_cons, List.length_nil]; omega
    · simp only [List.length_append, List.length_cons, List.length_nil]; omega
    · simp only [List.length_append, List.length_cons, List.length_nil]; omega
    · unfold noMiss fA fB
      rw [h]; rfl

def dom_find_miss (K : PySem.W.Frag) (aRota aWorld : Addr) (ds : List Dt) (r : Dt) : Prop := ∃ k l t, WOk k l ∧ ds = [eWorld K aWorld (k, l, t)] ∧ r = cond (noMiss k l) .non (e4 (eRota K aRota) .int (eRota K aRota) .int ((letters_of_text (fA l), fA l), 1, (letters_of_text (fB l), fB l), 2))
theorem fn_find_missO (F : FnP K "find_miss" "find_miss" s_find_miss f fd) (gl : mg "find_miss" = some (.ref f)) (clW : Cls K aWorld) (NW : WorldN K aWorld) (C_miss_parts : Cal P w K mg base "miss_parts" 1 ["kind", "late"] (Pf K dom_miss_parts))
    (C_Rota : Mc P w K mg base "Rota" 3 aRota ["self", "text"] (Pi K aRota dom_Rota)) : FnOk P w K mg base CX0 5 f fd ["world"] (Pf K (dom_find_miss K aRota aWorld)) := by
  refine fn_mk (k := 4) F sc_find_miss (fun ds r h => by obtain ⟨_, _, _, _, rfl, _⟩ := h; rfl) (fun cdv A outer s H Q E hr => ?_)
  refine ⟨_, (pss_cons (ps_set (i := 1) sc_find_miss.nd rfl (Or.inl rfl) (pe_cal C_miss_parts hr (by decide) (pa_cons (pe_fld (pv 0) rfl) (pa_cons (pe_fld (pv 0) rfl) pa_nil))))
 (pss_cons (ps_if (pt_cmpR d_isN (pv 1) pe_non (nomark _))
 (pss_one (ps_ret pe_non))
 pss_nil)
 (pss_cons (ps_asg (pv 1) (pg_tup rfl (pgs_cons (pg_name (i := 2) sc_find_miss.nd rfl (Or.inl rfl)) (pgs_cons (pg_name (i := 3) sc_find_miss.nd rfl (Or.inl rfl)) (pgs_cons (pg_name (i := 4) sc_find_miss.nd rfl (Or.inl rfl)) (pgs_cons (pg_name (i := 5) sc_find_miss.nd rfl (Or.inl rfl)) pgs_nil))))))
 (pss_one (ps_ret (pe_tup (pa_cons (pe_mkc C_Rota hr (by decide) (pa_cons (pv 2) pa_nil)) (pa_cons (pv 3) (pa_cons (pe_mkc C_Rota hr (by decide) (pa_cons (pv 4) pa_nil)) (pa_cons (pv 5) pa_nil)))))))))), ?_⟩
  rintro M0 ds r ⟨k, l, t, hw, rfl, rfl⟩ hQ
  show Sd _ _ [.dat (eWorld K aWorld (k, l, t)), .any, .any, .any, .any, .any] _ _
  refine sd_asg (i := 1) (ed_call (ea_cons (ed_fld clW NW.kind (ed_var rfl) rfl) (ea_cons (ed_fld clW NW.late (ed_var rfl) rfl) ea_nil)) ⟨k, l, hw, rfl, rfl⟩) ?_
  cases hm : noMiss k l with
  | true =>
    rw [hm] at hQ
    show Sd _ _ [.dat (eWorld K aWorld (k, l, t)), .dat .non, .any, .any, .any, .any] _ _
    exact sd_when (b := true) (Dl.et_test (ed_isN (d := .non) (ed_var rfl) trivial)) (fun _ => sd_ret (d := .non) ed_non hQ) (fun h => no_ff h)
  | false =>
    rw [hm] at hQ
    show Sd _ _ [.dat (eWorld K aWorld (k, l, t)), .dat (.tup [eS (fA l), .int 1, eS (fB l), .int 2]), .any, .any, .any, .any] _ _
    refine sd_when (b := false) (Dl.et_test (ed_isN (d := .tup [eS (fA l), .int 1, eS (fB l), .int 2]) (ed_var rfl) trivial)) (fun h => no_tt h) (fun _ => ?_)
    refine sd_asgT (d := .tup [eS (fA l), .int 1, eS (fB l), .int 2]) (ed_var rfl) (gd_tup (gd_cons gd_name (gd_cons gd_name (gd_cons gd_name (gd_cons gd_name gd_nil)))) (by rfl)) ?_
    show Sd _ _ [.dat (eWorld K aWorld (k, l, t)), .dat (.tup [eS (fA l), .int 1, eS (fB l), .int 2]), .dat (eS (fA l)), .dat (.int 1), .dat (eS (fB l)), .dat (.int 2)] _ _
    exact sd_ret (ed_tup (ea_cons (ed_make (ea_cons (ed_var rfl) ea_nil) ⟨_, rfl, wok_rA hw, rfl⟩) (ea_cons (ed_var rfl) (ea_cons (ed_make (ea_cons (ed_var rfl) ea_nil) ⟨_, rfl, wok_rB hw, rfl⟩) (ea_cons (ed_var rfl) ea_nil)))) (Nat.le_of_ble_eq_true rfl)) hQ
theorem fn_find_miss (F : FnP K "find_miss" "find_miss" s_find_miss f fd) (gl : mg "find_miss" = some (.ref f)) (clW : Cls K aWorld) (NW : WorldN K aWorld) (C_miss_parts : Cal P w K mg base "miss_parts" 1 ["kind", "late"] (Pf K dom_miss_parts))
    (C_Rota : Mc P w K mg base "Rota" 3 aRota ["self", "text"] (Pi K aRota dom_Rota)) : Cal P w K mg base "find_miss" 5 ["world"] (Pf K (dom_find_miss K aRota aWorld)) := ⟨f, fd, fn_find_missO F gl clW NW C_miss_parts C_Rota, gl, F.kp, F.bindsN (fun _ _ _ _ _ _ us hl => match us, hl with | [_], _ => rfl)⟩
end
end K58
end

section
set_option maxHeartbeats 1000000
/-! Hand3: _law_like, _law_bag, _law_draw. -/
namespace K58
open PySem L2 Evl Dl
abbrev s_law_bag : Stmt := top 35
abbrev N_law_bag : List Str := ["script", "mixed", "item"]
theorem sc_law_bag : FnScope N_law_bag ["script"] (defScope s_law_bag) := ⟨rfl, rfl, rfl, by decide +kernel, rfl, by decide +kernel, by decide +kernel⟩
abbrev s_law_draw : Stmt := top 36
abbrev N_law_draw : List Str := ["bag", "size", "item", "digit"]
theorem sc_law_draw : FnScope N_law_draw ["bag", "size"] (defScope s_law_draw) := ⟨rfl, rfl, rfl, by decide +kernel, rfl, by decide +kernel, by decide +kernel⟩
abbrev s_law_like : Stmt := top 37
abbrev N_law_like : List Str := ["told", "due", "k"]
theorem sc_law_like : FnScope N_law_like ["told", "due"] (defScope s_law_like) := ⟨rfl, rfl, rfl, by decide +kernel, rfl, by decide +kernel, by decide +kernel⟩
section
variable {P : Program} {w : World} {K : PySem.W.Frag} {mg : Str → Option Value} {base : Heap} {f : Addr} {fd : FuncData}
/-! ### like -/
def dom_like1 (ds : List Dt) (r : Dt) : Prop := ∃ i : Int, ds = [.int i, .int i] ∧ r = .bl true
def dom_like2 (ds : List Dt) (r : Dt) : Prop := ∃ a b : Int, ds = [.lst [.int a, .int b], .lst [.int a, .int b]] ∧ r = .bl true
theorem cal_like1 (F : FnP K "_law_like" "_law_like" s_law_like f fd) (gl : mg "_law_like" = some (.ref f)) (T : Bn mg) : Cal P w K mg base "_law_like" 1 ["told", "due"] (Pf K dom_like1) := by
  refine cal_mk (k := 0) F gl sc_law_like (fun _ _ _ _ _ _ us hl => match us, hl with | [_, _], _ => rfl) (fun ds r h => by obtain ⟨_, rfl, _⟩ := h; rfl) (fun cdv A outer s H Q E hr => ?_)
  refine ⟨_, (pss_cons (ps_if (pt_val (pe_callB (k_isi K) (by rfl) T.isinstance_ bb_isinstance (pa_cons (pv 1) (pa_cons (pe_bltn (v := .ty "bool") rfl T.bool_ bb_bool rfl) pa_nil))))
 (pss_one ps_never)
 pss_nil)
 (pss_cons (ps_if (pt_val (pe_callB (k_isi K) (by rfl) T.isinstance_ bb_isinstance (pa_cons (pv 1) (pa_cons (pe_bltn (v := .ty "int") rfl T.int_ bb_int rfl) pa_nil))))
 (pss_one (ps_ret (pe_and (pe_callB (k_isi K) (by rfl) T.isinstance_ bb_isinstance (pa_cons (pv 0) (pa_cons (pe_bltn (v := .ty "int") rfl T.int_ bb_int rfl) pa_nil))) (pe_and (pe_not (pe_callB (k_isi K) (by rfl) T.isinstance_ bb_isinstance (pa_cons (pv 0) (pa_cons (pe_bltn (v := .ty "bool") rfl T.bool_ bb_bool rfl) pa_nil)))) (pe_one (pe_cmpR op_eq (pv 0) (pv 1) (nomark _)))))))
 pss_nil)
 (pss_cons ps_never (pss_cons ps_never (pss_one ps_never))))), ?_⟩
  rintro M0 ds r ⟨i, rfl, rfl⟩ hQ
  show Sd _ _ [.dat (.int i), .dat (.int i), .any] _ _
  refine sd_when (b := false) (et_B (ed_isi (.ty "bool") (fun _ _ r => ty_int r) (kit_int_bool _) (ed_var rfl))) (fun h => no_tt h) (fun _ => ?_)
  refine sd_when (b := true) (et_B (ed_isi (.ty "int") (fun _ _ r => ty_int r) (kit_same _ _) (ed_var rfl))) (fun _ => ?_) (fun h => no_ff h)
  exact sd_ret (d := .bl true) (Ed.to (ed_andV (ed_isi (.ty "int") (fun _ _ r => ty_int r) (kit_same _ _) (ed_var rfl)) (fun _ => ed_andV (ed_notV (ed_isi (.ty "bool") (fun _ _ r => ty_int r) (kit_int_bool _) (ed_var rfl))) (fun _ => ed_eqI (ed_var rfl) (ed_var rfl)))) (by simp)) hQ
theorem cal_like2 (F : FnP K "_law_like" "_law_like" s_law_like f fd) (gl : mg "_law_like" = some (.ref f)) (T : Bn mg) : Cal P w K mg base "_law_like" 2 ["told", "due"] (Pf K dom_like2) := by
  have C_law_like := cal_like1 (P := P) (w := w) (base := base) F gl T
  refine cal_mk (k := 1) F gl sc_law_like (fun _ _ _ _ _ _ us hl => match us, hl with | [_, _], _ => rfl) (fun ds r h => by obtain ⟨_, _, rfl, _⟩ := h; rfl) (fun cdv A outer s H Q E hr => ?_)
  refine ⟨_, (pss_cons (ps_if (pt_val (pe_callB (k_isi K) (by rfl) T.isinstance_ bb_isinstance (pa_cons (pv 1) (pa_cons (pe_bltn (v := .ty "bool") rfl T.bool_ bb_bool rfl) pa_nil))))
 (pss_one ps_never)
 pss_nil)
 (pss_cons (ps_if (pt_val (pe_callB (k_isi K) (by rfl) T.isinstance_ bb_isinstance (pa_cons (pv 1) (pa_cons (pe_bltn (v := .ty "int") rfl T.int_ bb_int rfl) pa_nil))))
 (pss_one ps_never)
 pss_nil)
 (pss_cons (ps_if (pt_val (pe_callB (k_isi K) (by rfl) T.isinstance_ bb_isinstance (pa_cons (pv 1) (pa_cons (pe_bltn (v := .ty "str") rfl T.str_ bb_str rfl) pa_nil))))
 (pss_one ps_never)
 pss_nil)
 (pss_cons (ps_if (PW.pt (pw_or (pt_val (pe_callB (k_isi K) (by rfl) T.isinstance_ bb_isinstance (pa_cons (pv 1) (pa_cons (pe_bltn (v := .ty "list") rfl T.list_ bb_list rfl) pa_nil)))) (pw_or1 (pt_val (pe_callB (k_isi K) (by rfl) T.isinstance_ bb_isinstance (pa_cons (pv 1) (pa_cons (pe_bltn (v := .ty "tuple") rfl T.tuple_ bb_tuple rfl) pa_nil)))))))
 (pss_cons (ps_if (PW.pt (pw_or (pt_cmpR op_ne (pe_callB (k_isi K) (by rfl) T.isinstance_ bb_isinstance (pa_cons (pv 0) (pa_cons (pe_bltn (v := .ty "list") rfl T.list_ bb_list rfl) pa_nil))) (pe_callB (k_isi K) (by rfl) T.isinstance_ bb_isinstance (pa_cons (pv 1) (pa_cons (pe_bltn (v := .ty "list") rfl T.list_ bb_list rfl) pa_nil))) (nomark _)) (pw_or1 (pt_cmpR op_ne (pe_callB (k_isi K) (by rfl) T.isinstance_ bb_isinstance (pa_cons (pv 0) (pa_cons (pe_bltn (v := .ty "tuple") rfl T.tuple_ bb_tuple rfl) pa_nil))) (pe_callB (k_isi K) (by rfl) T.isinstance_ bb_isinstance (pa_cons (pv 1) (pa_cons (pe_bltn (v := .ty "tuple") rfl T.tuple_ bb_tuple rfl) pa_nil))) (nomark _)))))
 (pss_one (ps_ret pe_bl))
 pss_nil)
 (pss_cons (ps_if (pt_cmpR op_ne (pe_callB (k_len K) (by rfl) T.len_ bb_len (pa_cons (pv 0) pa_nil)) (pe_callB (k_len K) (by rfl) T.len_ bb_len (pa_cons (pv 1) pa_nil)) (nomark _))
 (pss_one (ps_ret pe_bl))
 pss_nil)
 (pss_cons (ps_for PassesOwn.never rfl (pi_range1 rfl T.range_ (pa_cons (pe_callB (k_len K) (by rfl) T.len_ bb_len (pa_cons (pv 1) pa_nil)) pa_nil)) (pg_name (i := 2) sc_law_like.nd rfl (Or.inl rfl))
 (pss_one (ps_if (pt_not (pt_val (pe_cal C_law_like hr (by decide) (pa_cons (pe_ix (k_ix_list K) (pv 0) (pv 2) (fun _ _ => rfl)) (pa_cons (pe_ix (k_ix_list K) (pv 1) (pv 2) (fun _ _ => rfl)) pa_nil)))))
 (pss_one (ps_ret pe_bl))
 pss_nil)))
 (pss_one (ps_ret pe_bl)))))
 pss_nil)
 (pss_one ps_never))))), ?_⟩
  rintro M0 ds r ⟨a, b, rfl, rfl⟩ hQ
  show Sd _ _ [.dat (.lst ([a, b].map .int)), .dat (.lst ([a, b].map .int)), .any] _ _
  refine sd_when (b := false) (et_B (ed_isi (.ty "bool") (fun _ _ r => ty_lst r) (kit_list_bool _) (ed_var rfl))) (fun h => no_tt h) (fun _ => ?_)
  refine sd_when (b := false) (et_B (ed_isi (.ty "int") (fun _ _ r => ty_lst r) (kit_list_int _) (ed_var rfl))) (fun h => no_tt h) (fun _ => ?_)
  refine sd_when (b := false) (et_B (ed_isi (.ty "str") (fun _ _ r => ty_lst r) (kit_list_str _) (ed_var rfl))) (fun h => no_tt h) (fun _ => ?_)
  refine sd_when (b := true) (et_or (b := true) (et_B (ed_isi (.ty "list") (fun _ _ r => ty_lst r) (kit_same _ _) (ed_var rfl))) (fun h => no_ff h)) (fun _ => ?_) (fun h => no_ff h)
  refine sd_when (b := false) (et_or (Dl.et_test (ed_neB (a := true) (b := true) (ed_isi (.ty "list") (fun _ _ r => ty_lst r) (kit_same _ _) (ed_var rfl)) (ed_isi (.ty "list") (fun _ _ r => ty_lst r) (kit_same _ _) (ed_var rfl)))) (fun _ => Dl.et_test (ed_neB (a := false) (b := false) (ed_isi (.ty "tuple") (fun _ _ r => ty_lst r) (kit_list_tuple _) (ed_var rfl)) (ed_isi (.ty "tuple") (fun _ _ r => ty_lst r) (kit_list_tuple _) (ed_var rfl))))) (fun h => no_tt h) (fun _ => ?_)
  refine sd_when (b := false) (Dl.et_test (ed_neI (i := 2) (j := 2) (ed_len (f := Dt.int) (xs := [a, b]) (el_dat (ed_var rfl))) (ed_len (f := Dt.int) (xs := [a, b]) (el_dat (ed_var rfl))))) (fun h => no_tt h) (fun _ => ?_)
  refine sd_seq (sd_for (R := Unit) (ys := rng 0 2) (s0 := ()) (fun _ _ => .nx ()) Dt.int (fun _ => [.dat (.lst ([a, b].map .int)), .dat (.lst ([a, b].map .int)), .any]) (fun x _ => [.dat (.lst ([a, b].map .int)), .dat (.lst ([a, b].map .int)), .dat (.int x)]) (wk_rng1 (j := 2) (ed_len (f := Dt.int) (xs := [a, b]) (el_dat (ed_var rfl))) (by constructor <;> omega)) (.same (.same (.same .nil))) (fun _ _ _ => gd_name) (fun B' eB i x s' hx _ N Bk hN _ => ?_) (fun s' _ => ?_))
  · have hm := mem_rng.mp (List.mem_of_getElem? hx)
    have h1 : x < (([a, b] : List Int).length : Int) := hm.2
    refine sd_if (b := false) (et_not (a := true) (et_B (ed_call (ea_cons (ed_ixL (f := Dt.int) (el_dat (ed_var rfl)) (ed_var rfl) hm.1 h1) (ea_cons (ed_ixL (f := Dt.int) (el_dat (ed_var rfl)) (ed_var rfl) hm.1 h1) ea_nil)) ⟨gI [a, b] x, rfl, rfl⟩))) (fun h => no_tt h) (fun _ => sd_next fun σ H' w' => hN () σ H' rfl (w'.wk (.same (.same (.any .nil)))))
  · exact fun σ H' w' => (sd_ret (D := { nx := fun _ H' => Q .non H', rt := Q }) (d := .bl true) ed_bl hQ : Sd (cn0 K H M0) [] _ _ _) σ H' w'

/-! ### bag -/
def sqP (K : PySem.W.Frag) (a : Addr) (ns : List Int) : OP where
  p := fun v H => v = .ref a ∧ SqL K H a (ns.map .int)
  mono := fun v H H' e h => ⟨h.1, h.2.elim (fun q => .inl (ex_rd e q)) .inr⟩
def spBag (K : PySem.W.Frag) : Sp := fun vs H Q _ => ∃ (a : Addr) (ns : List Int), vs = [.ref a] ∧ SqL K H a (ns.map .int) ∧ ∀ (z l : Addr) (H' : Hp) (m : Int) (ns' : List Int), H z = none → z ≠ l → Ex H H' → H' z = some (.lst [.ref l, .int 0, .int 0, .int m, .int 0]) → H' l = some (.lst (ns'.map .int)) → 0 ≤ m → m < 2147483629 → Q (.ref z) H'
def mixF (x s : Int) : Int := (s * 69621 + x % 2147483587 + 173) % 2147483629
theorem mix_bound : ∀ (xs : List Int) (s0 : Int), 0 ≤ s0 → s0 < 2147483629 → ∀ s, forL (fun x s => (Step.nx (mixF x s) : Step Int Unit)) xs s0 = .nx s ∨ forL (fun x s => (Step.nx (mixF x s) : Step Int Unit)) xs s0 = .bk s → 0 ≤ s ∧ s < 2147483629
  | [], s0, h0, h1, s, h => by
    rcases h with h | h
    · have e : (Step.nx s0 : Step Int Unit) = .nx s := h
      injection e with e
      omega
    · have e : (Step.nx s0 : Step Int Unit) = .bk s := h
      cases e
  | x :: xs, s0, h0, h1, s, h => by
    have b0 : 0 ≤ mixF x s0 := Int.emod_nonneg _ (by decide)
    have b1 : mixF x s0 < 2147483629 := Int.emod_lt_of_pos _ (by decide)
    exact mix_bound xs (mixF x s0) b0 b1 s h
theorem ed_sq63 {c : Cn} {L : List Addr} {des : List Des} {te : TE} {a : Addr} {ns : List Int} (h : Ed c L des te (.ob (sqP c.K a ns))) : Ed c L des (tSl (rSlL c.K) te tNoPart (tPart (tC (.int 63)))) (.lst ((cutA ns none (some 63)).map .int)) := fun σ H w Q q =>
  h σ H w _ fun v H1 g r => by
    obtain ⟨rfl, hs⟩ := r.ob_inv
    have hs' : SqL c.K H1 a (ns.map .int) := hs.elim (fun q => .inl (ex_rd hid_le q)) .inr
    refine eo_none σ H1 (w.gr g) _ fun H2 g2 => eo_some ed_int σ H2 (w.gr (g.trans g2)) _ fun H3 g3 => ?_
    have hs3 : SqL c.K H3 a (ns.map .int) := by
      have hv := hs.elim (fun q => (.inl (ex_rd (g2.trans g3).vis q) : SqL c.K (hid (c.M L) H3) a (ns.map .int))) .inr
      exact hv.elim (fun q => .inl (ex_rd hid_le q)) .inr
    refine ⟨a, _, rfl, hs3, fun p hp => ?_⟩
    have gg := g.trans (g2.trans g3)
    refine q _ _ (gg.trans (Gr.new (w.gr gg) hp)) (.new_lst (w.gr gg) hp ?_)
    have := (RpA.of_ints (K := c.K) (H := hid (c.M L) H3) ns).cut none (some 63)
    rwa [cutA_map] at this
theorem en_listOf {c : Cn} {L : List Addr} {des : List Des} {te : TE} {ds : List Dt} (h : Ed c L des te (.lst ds)) : En c L des (tCB (rListOf c.K) (tCons te tNil)) ds := fun σ H w Q q =>
  h σ H w _ fun v H1 g r => by
    obtain ⟨a, xs, rfl, s, rr⟩ := r.lst_inv
    refine ⟨a, xs, rfl, .inl (.inl (ex_rd hid_le s)), fun l hl => ?_⟩
    have w1 := w.gr g
    refine q l xs _ (Gr.back w g hl) (g.trans (Gr.new w1 hl)) upd_same (rr.ex fun b o hb => ?_)
    obtain ⟨n, hb⟩ := hid_some hb
    have ne : b ≠ l := fun z => by rw [z, hl] at hb; cases hb
    rw [hid_out, upd_ne ne]; exact hb
    intro z
    rcases List.mem_cons.mp z with z | z
    · exact ne z
    · exact n z
theorem fn_bag (F : FnP K "_law_bag" "_law_bag" s_law_bag f fd) (T : Bn mg) : FnOk P w K mg base CX0 1 f fd ["script"] (spBag K) ∧ Binds K fd ["script"] [] := by
  refine ⟨F.ok sc_law_bag (fun vs H Q E h => ?_) (fun cdv A outer s H vs Q E hr h => ?_), F.bindsN (fun _ _ _ _ _ _ us hl => match us, hl with | [_], _ => rfl)⟩
  · obtain ⟨a, ns, rfl, _⟩ := h; rfl
  · obtain ⟨a, ns, rfl, hs, q⟩ := h
    have core : ∃ t, PSs (cxOf CX0 P w K mg base N_law_bag "_law_bag" (defScope s_law_bag) f cdv A outer s H E).nox (defBody s_law_bag) t ∧ Sd (cn0 K H []) [] [.dat (.ob (sqP K a ns)), .any, .any] t { nx := fun _ H' => Q .non H', rt := Q } := by
      refine ⟨_, (pss_cons (ps_set (i := 1) sc_law_bag.nd rfl (Or.inl rfl) pe_int)
 (pss_cons (ps_for PassesOwn.never rfl (pi_list (pe_slice (k_sl_list K) (pv 0) po_none (po_some pe_int))) (pg_name (i := 2) sc_law_bag.nd rfl (Or.inl rfl))
 (pss_one (ps_set (i := 1) sc_law_bag.nd rfl (Or.inl rfl) (pe_op op_mod (pe_callTy d_int (by rfl) T.int_ bb_int (pa_cons (pe_op op_add (pe_op op_add (pe_op op_mul (pv 1) pe_int) (pe_op op_mod (pe_callTy d_int (by rfl) T.int_ bb_int (pa_cons (pv 2) pa_nil)) pe_int)) pe_int) pa_nil)) pe_int))))
 (pss_one (ps_ret (pe_lst (pa_cons (pe_callTy (k_list K) (by rfl) T.list_ bb_list (pa_cons (pe_slice (k_sl_list K) (pv 0) po_none (po_some pe_int)) pa_nil)) (pa_cons pe_int (pa_cons pe_int (pa_cons (pv 1) (pa_cons pe_int pa_nil)))))))))), ?_⟩
      refine sd_asg (i := 1) (d := .int 16197) ed_int ?_
      show Sd _ _ [.dat (.ob (sqP K a ns)), .dat (.int 16197), .any] _ _
      refine sd_seq (sd_for (R := Unit) (ys := cutA ns none (some 63)) (s0 := 16197) (fun x s => .nx (mixF x s)) Dt.int (fun s => [.dat (.ob (sqP K a ns)), .dat (.int s), .any]) (fun x s => [.dat (.ob (sqP K a ns)), .dat (.int s), .dat (.int x)]) (wk_list (ed_sq63 (ed_var rfl))) (.same (.same (.same .nil))) (fun _ _ _ => gd_name) (fun B' eB i x s' hx _ N Bk hN _ => ?_) (fun s' hs' => ?_))
      · exact sd_asgL (i := 1) (d := .int (mixF x s')) (ed_iic (ed_int1 (ed_ii (ed_ii (ed_iic (ed_var rfl) ed_int (.inr (by decide))) (ed_iic (ed_int1 (ed_var rfl)) ed_int (by decide))) ed_int)) ed_int (by decide)) (fun σ H' w' => hN _ σ H' rfl (w'.wk (.same (.same (.any .nil)))))
      · obtain ⟨m0, m1⟩ := mix_bound _ _ (by decide) (by decide) s' hs'
        intro σ H1 w1
        refine en_listOf (ed_sq63 (ed_var rfl)) σ H1 w1 _ fun l xs H2 hl g h2 r => ?_
        have w2 := w1.gr g
        obtain ⟨sl, es, v, ev, rv⟩ := w2.sl.get (i := 1) rfl
        have e1 := r.ints
        subst e1
        refine ⟨_, by rw [es, ev], ?_⟩
        rw [rv.int_inv]
        refine ⟨by show 5 ≤ sizeLine; decide, fun z hz => ?_⟩
        have nz : z ≠ l := fun e => by rw [e, h2] at hz; cases hz
        have hz0 : H z = none := fresh_back w2.ex hz
        exact q z l _ s' _ hz0 nz (Ex.mut w2.ex hz0) upd_same (by rw [upd_ne nz.symm]; exact h2) m0 m1
    obtain ⟨t, h1, h2⟩ := core
    refine ⟨t, h1.nox, h2 _ H ?_⟩
    have st := start_ok (K := K) (N := N_law_bag) (vs := [V.ref a]) (H := H) (M0 := []) (ds := [.ob (sqP K a ns)]) (fun a h => nomatch h) (.cons (.ob ⟨rfl, by rw [hid_nil]; exact hs⟩) .nil)
    exact st
end
end K58
end

section
set_option maxHeartbeats 1000000
/-! Hand4: _law_draw. -/
namespace K58
open PySem L2 Evl Dl
def listP (l : Addr) (ns : List Int) : OP where
  p := fun v H => v = .ref l ∧ H l = some (.lst (ns.map .int))
  mono := fun v H H' e h => ⟨h.1, e _ _ h.2⟩
section
variable {c : Cn} {L : List Addr} {des : List Des} {te ta tb : TE} {t u tz : TS} {tt : TT} {b : Bool} {D : Ends} {d : Dt}
theorem el_listP {l : Addr} {ns : List Int} (h : Ed c L des te (.ob (listP l ns))) : El c L des te (ns.map .int) := fun σ H w Q q => h σ H w _ fun v H1 g r => by
  obtain ⟨rfl, hl⟩ := r.ob_inv
  exact q l _ H1 g (.inl (zsM _ _ hl)) (RpA.of_ints ns)
theorem sd_retK (h : Ed c L des te d) (k : ∀ v σ H', WS c L H' σ des → Rp c.K (hid (c.M L) H') v d → D.rt v H') : Sd c L des (tRet te) D := fun σ H w => h σ H w _ fun v H1 g r => k v σ H1 (w.gr g) r
theorem sd_ifQ (P : St → Hp → Prop) (hr : ∀ σ H, P σ H → tz D σ H) (h : Et c L des tt b) (h1 : b = true → ∀ N : St → Hp → Prop, (∀ σ H, P σ H → N σ H) → Sd c L des t { D with nx := N }) (h2 : b = false → ∀ N : St → Hp → Prop, (∀ σ H, P σ H → N σ H) → Sd c L des u { D with nx := N }) :
    Sd c L des (tSeq (tIfS tt t u) tz) D := sd_if (D := { D with nx := tz D }) h (fun e => h1 e _ hr) (fun e => h2 e _ hr)
theorem start_own1 {K : PySem.W.Frag} {N : List Str} {z : Addr} {vs args : List V} {ds ads : List Dt} {H : Hp} (hz : H z = some (.lst vs)) (r : RpA K (hid [z] H) vs ds) (ra : RpA K (hid [z] H) args ads) :
    WS ⟨K, hid [z] H, [], []⟩ [z] H (L2.start N (.ref z :: args)) (.own z ds :: (ads.map .dat ++ List.replicate (N.length - (ads.length + 1)) .any)) := by
  refine ⟨hid_le, (fun a h => ?_), (fun b h => nomatch h), (fun a h => nomatch h), (fun a h => fun z => nomatch z), (fun a h => fun z => nomatch z), ?_⟩
  · have e : a = z := by simpa using h
    subst e
    exact ⟨hid_in (by simp), by rw [hz]; exact fun z => nomatch z⟩
  · have el := ra.length
    unfold L2.start
    rw [List.length_cons, el]
    have hv : hid ([z] ++ ([] ++ [])) H = hid [z] H := by rw [List.append_nil, List.append_nil]
    show SlA K [z] [] (hid ([z] ++ ([] ++ [])) H) H _ _
    rw [hv]
    have e2 : ∀ n, SlA K [z] [] (hid [z] H) H (List.replicate n none) (List.replicate n .any) := fun n => by
      induction n with
      | zero => exact .nil
      | succ n ih => exact .cons trivial ih
    have key : ∀ {vs : List V} {ds : List Dt}, RpA K (hid [z] H) vs ds → ∀ n, SlA K [z] [] (hid [z] H) H (vs.map some ++ List.replicate n none) (ds.map .dat ++ List.replicate n .any) := by
      intro vs ds r n
      induction vs generalizing ds with
      | nil => cases r; exact e2 n
      | cons v vs ih =>
        cases r with
        | cons h t => exact .cons ⟨v, rfl, h⟩ (ih t)
    exact .cons ⟨rfl, by simp, vs, hz, r⟩ (key ra _)
end
def spDraw (K : PySem.W.Frag) : Sp := fun vs H Q _ => ∃ (b : Bag) (size : Int), vs = [.ref b.z, .int size] ∧ 1 ≤ size ∧ size ≤ 100 ∧ BagAt b H ∧ H b.l = some (.lst (b.ns.map .int)) ∧ b.l ≠ b.z ∧ ∀ n H', 0 ≤ n → n < size → Ex (hid [b.z] H) H' → BagAt b H' → Q (.int n) H'
section
variable {P : Program} {w : World} {K : PySem.W.Frag} {mg : Str → Option Value} {base : Heap} {f : Addr} {fd : FuncData}
abbrev bagD (l : Addr) (ns : List Int) (i g m cc : Int) : List Dt := [.ob (listP l ns), .int i, .int g, .int m, .int cc]
abbrev S4 (b : Bag) (size i g m cc : Int) : List Des := [.own b.z (bagD b.l b.ns i g m cc), .dat (.int size), .any, .any]
theorem bag_end {b : Bag} {H H' : Hp} {σ : St} {des : List Des} {i g m cc : Int} (w : WS ⟨K, hid [b.z] H, [], []⟩ [b.z] H' σ des) (hi : des[0]? = some (.own b.z (bagD b.l b.ns i g m cc))) (h0 : 0 ≤ i) (h1 : i ≤ b.ns.length) (h2 : 0 ≤ g) (h3 : 0 ≤ m) (h4 : m < 2147483629) (h5 : 0 ≤ cc) : Ex (hid [b.z] H) H' ∧ BagAt b H' := by
  refine ⟨w.ex, ?_⟩
  obtain ⟨s, hs, e, ha, xs, hx, r⟩ := w.sl.get hi
  cases r with
  | cons r0 r =>
    cases r with
    | cons r1 r =>
      cases r with
      | cons r2 r =>
        cases r with
        | cons r3 r =>
          cases r with
          | cons r4 r =>
            cases r
            obtain ⟨e0, _⟩ := r0.ob_inv
            rw [e0, r1.int_inv, r2.int_inv, r3.int_inv, r4.int_inv] at hx
            exact ⟨i, g, m, cc, hx, h0, h1, h2, h3, h4, h5⟩
theorem fn_draw (F : FnP K "_law_draw" "_law_draw" s_law_draw f fd) (T : Bn mg) : FnOk P w K mg base CX0 1 f fd ["bag", "size"] (spDraw K) ∧ Binds K fd ["bag", "size"] [] := by
  refine ⟨F.ok sc_law_draw (fun vs H Q E h => ?_) (fun cdv A outer s H vs Q E hr h => ?_), F.bindsN (fun _ _ _ _ _ _ us hl => match us, hl with | [_, _], _ => rfl)⟩
  · obtain ⟨b, size, rfl, _⟩ := h; rfl
  · obtain ⟨b, size, rfl, z1, z2, hb, hl, hne, q⟩ := h
    obtain ⟨i0, g0, m0, c0, hz, hi0, hi1, hg0, hm0, hm1, hc0⟩ := hb
    have core : ∃ t, PSs (cxOf CX0 P w K mg base N_law_draw "_law_draw" (defScope s_law_draw) f cdv A outer s H E).nox (defBody s_law_draw) t ∧ Sd ⟨K, hid [b.z] H, [], []⟩ [b.z] (S4 b size i0 g0 m0 c0) t { nx := fun _ H' => Q .non H', rt := Q } := by
      refine ⟨_, (pss_cons (ps_asg (pe_op op_add (pe_ix (k_ix_list K) (pv 0) pe_int (fun _ _ => rfl)) pe_int) (pg_sub (pv 0) pe_int set_list))
 (pss_cons (ps_if (PW.pt (pw_and (pt_cmpR op_eq (pe_ix (k_ix_list K) (pv 0) pe_int (fun _ _ => rfl)) pe_int (nomark _)) (pw_and1 (pt_cmpR op_lt (pe_ix (k_ix_list K) (pv 0) pe_int (fun _ _ => rfl)) (pe_callB (k_len K) (by rfl) T.len_ bb_len (pa_cons (pe_ix (k_ix_list K) (pv 0) pe_int (fun _ _ => rfl)) pa_nil)) (nomark _)))))
 (pss_cons (ps_set (i := 2) sc_law_draw.nd rfl (Or.inl rfl) (pe_ix (k_ix_list K) (pe_ix (k_ix_list K) (pv 0) pe_int (fun _ _ => rfl)) (pe_ix (k_ix_list K) (pv 0) pe_int (fun _ _ => rfl)) (fun _ _ => rfl)))
 (pss_cons (ps_asg (pe_op op_add (pe_ix (k_ix_list K) (pv 0) pe_int (fun _ _ => rfl)) pe_int) (pg_sub (pv 0) pe_int set_list))
 (pss_one (ps_if (pt_cmpR op_ge (pv 2) (pe_op op_pow pe_int pe_int) (nomark _))
 (pss_one (ps_asg (pv 2) (pg_sub (pv 0) pe_int set_list)))
 (pss_one (ps_asg (pe_op op_mod (pe_callTy d_int (by rfl) T.int_ bb_int (pa_cons (pe_op op_add (pe_op op_add (pe_op op_mul (pe_ix (k_ix_list K) (pv 0) pe_int (fun _ _ => rfl)) pe_int) (pe_op op_mul (pe_op op_mod (pe_callTy d_int (by rfl) T.int_ bb_int (pa_cons (pv 2) pa_nil)) pe_int) pe_int)) pe_int) pa_nil)) pe_int) (pg_sub (pv 0) pe_int set_list)))))))
 pss_nil)
 (pss_cons (ps_if (pt_cmpR op_gt (pe_ix (k_ix_list K) (pv 0) pe_int (fun _ _ => rfl)) pe_int (nomark _))
 (pss_cons (ps_set (i := 3) sc_law_draw.nd rfl (Or.inl rfl) (pe_op op_mod (pe_callTy d_int (by rfl) T.int_ bb_int (pa_cons (pe_ix (k_ix_list K) (pv 0) pe_int (fun _ _ => rfl)) pa_nil)) (pv 1)))
 (pss_cons (ps_asg (pe_op op_fdiv (pe_ix (k_ix_list K) (pv 0) pe_int (fun _ _ => rfl)) (pv 1)) (pg_sub (pv 0) pe_int set_list))
 (pss_one (ps_ret (pv 3)))))
 pss_nil)
 (pss_cons (ps_asg (pe_op op_mod (pe_callTy d_int (by rfl) T.int_ bb_int (pa_cons (pe_op op_add (pe_op op_add (pe_op op_pow (pe_ix (k_ix_list K) (pv 0) pe_int (fun _ _ => rfl)) pe_int) (pe_op op_mul (pe_ix (k_ix_list K) (pv 0) pe_int (fun _ _ => rfl)) pe_int)) pe_int) pa_nil)) pe_int) (pg_sub (pv 0) pe_int set_list))
 (pss_one (ps_ret (pe_op op_mod (pe_callTy d_int (by rfl) T.int_ bb_int (pa_cons (pe_op op_add (pe_op op_fdiv (pe_ix (k_ix_list K) (pv 0) pe_int (fun _ _ => rfl)) pe_int) (pe_op op_mul (pe_op op_mod (pe_callTy d_int (by rfl) T.int_ bb_int (pa_cons (pe_ix (k_ix_list K) (pv 0) pe_int (fun _ _ => rfl)) pa_nil)) pe_int) pe_int)) pa_nil)) (pv 1)))))))), ?_⟩
      refine sd_setix (i := 0) (a := b.z) (d := .int (c0 + 1)) (j := 4) rfl (ed_ii (ed_ixLd (k := 4) (el_own rfl) ed_int rfl) ed_int) ed_int (by decide) (by show (4 : Int) < 5; decide) trivial ?_
      show Sd _ _ (S4 b size i0 g0 m0 (c0 + 1)) _ _
      refine sd_ifQ (fun σ H' => ∃ i g m cc : Int, 0 ≤ i ∧ i ≤ b.ns.length ∧ 0 ≤ g ∧ 0 ≤ m ∧ m < 2147483629 ∧ 0 ≤ cc ∧ WS ⟨K, hid [b.z] H, [], []⟩ [b.z] H' σ (S4 b size i g m cc)) ?_
        (et_and (Dl.et_test (ed_eqI (ed_ixLd (k := 2) (el_own rfl) ed_int rfl) ed_int)) (fun _ => Dl.et_test (ed_ib (ed_ixLd (k := 1) (el_own rfl) ed_int rfl) (ed_len (f := Dt.int) (xs := b.ns) (el_listP (ed_ixLd (k := 0) (el_own rfl) ed_int rfl)))))) (fun ht N hN => ?_) (fun _ N hN => sd_next fun σ H' w' => hN σ H' ⟨i0, g0, m0, c0 + 1, hi0, hi1, hg0, hm0, hm1, by omega, w'⟩)
      · rintro σ H' ⟨i, g, m, cc, a1, a2, a3, a4, a5, a6, w'⟩
        revert σ H'
        show Sd ⟨K, hid [b.z] H, [], []⟩ [b.z] (S4 b size i g m cc) _ _
        refine sd_when (Dl.et_test (ed_ib (ed_ixLd (k := 2) (el_own rfl) ed_int rfl) ed_int)) (fun hg => ?_) (fun _ => ?_)
        · refine sd_asg (i := 3) (d := .int (g % size)) (ed_iic (ed_int1 (ed_ixLd (k := 2) (el_own rfl) ed_int rfl)) (ed_var rfl) (by omega)) ?_
          show Sd _ _ [.own b.z (bagD b.l b.ns i g m cc), .dat (.int size), .any, .dat (.int (g % size))] _ _
          refine sd_setix (i := 0) (a := b.z) (d := .int (g / size)) (j := 2) rfl (ed_iic (ed_ixLd (k := 2) (el_own rfl) ed_int rfl) (ed_var rfl) ⟨by omega, by omega⟩) ed_int (by decide) (by show (2 : Int) < 5; decide) trivial ?_
          show Sd _ _ [.own b.z (bagD b.l b.ns i (g / size) m cc), .dat (.int size), .any, .dat (.int (g % size))] _ _
          refine sd_retK (ed_var (d := .int (g % size)) rfl) (fun v σ H' w' r => ?_)
          rw [r.int_inv]
          obtain ⟨e1, e2⟩ := bag_end w' rfl a1 a2 (Int.ediv_nonneg a3 (by omega)) a4 a5 a6
          exact q _ H' (Int.emod_nonneg _ (by omega)) (Int.emod_lt_of_pos _ (by omega)) e1 e2
        · refine sd_setix (i := 0) (a := b.z) (d := .int ((m ^ (3 : Int).toNat + cc * 1299721 + 90001) % 2147483629)) (j := 3) rfl (ed_iic (ed_int1 (ed_ii (ed_ii (ed_iic (f := fun i j => i ^ j.toNat) (ed_ixLd (k := 3) (el_own rfl) ed_int rfl) ed_int ⟨by decide, by decide, by omega⟩) (ed_iic (ed_ixLd (k := 4) (el_own rfl) ed_int rfl) ed_int (.inr (by decide)))) ed_int)) ed_int (by decide)) ed_int (by decide) (by show (3 : Int) < 5; decide) trivial ?_
          generalize hm' : (m ^ (3 : Int).toNat + cc * 1299721 + 90001) % 2147483629 = m'
          have b4 : 0 ≤ m' := by rw [← hm']; exact Int.emod_nonneg _ (by decide)
          have b5 : m' < 2147483629 := by rw [← hm']; exact Int.emod_lt_of_pos _ (by decide)
          show Sd _ _ (S4 b size i g m' cc) _ _
          refine sd_retK (d := .int ((m' / 89 + m' % 6857 * 71) % size)) (ed_iic (ed_int1 (ed_ii (ed_iic (ed_ixLd (k := 3) (el_own rfl) ed_int rfl) ed_int ⟨by decide, by decide⟩) (ed_iic (ed_iic (ed_int1 (ed_ixLd (k := 3) (el_own rfl) ed_int rfl)) ed_int (by decide)) ed_int (.inr (by decide))))) (ed_var rfl) (by omega)) (fun v σ H' w' r => ?_)
          rw [r.int_inv]
          obtain ⟨e1, e2⟩ := bag_end w' rfl a1 a2 a3 b4 b5 a6
          exact q _ H' (Int.emod_nonneg _ (by omega)) (Int.emod_lt_of_pos _ (by omega)) e1 e2
      · have hlt : i0 < (b.ns.length : Int) := by
          have := b2 ht
          exact of_decide_eq_true this
        refine sd_asg (i := 2) (d := .int (gI b.ns i0)) (ed_ixL (f := Dt.int) (el_listP (ed_ixLd (k := 0) (el_own rfl) ed_int rfl)) (ed_ixLd (k := 1) (el_own rfl) ed_int rfl) hi0 hlt) ?_
        show Sd _ _ [.own b.z (bagD b.l b.ns i0 g0 m0 (c0 + 1)), .dat (.int size), .dat (.int (gI b.ns i0)), .any] _ _
        refine sd_setix (i := 0) (a := b.z) (d := .int (i0 + 1)) (j := 1) rfl (ed_ii (ed_ixLd (k := 1) (el_own rfl) ed_int rfl) ed_int) ed_int (by decide) (by show (1 : Int) < 5; decide) trivial ?_
        show Sd _ _ [.own b.z (bagD b.l b.ns (i0 + 1) g0 m0 (c0 + 1)), .dat (.int size), .dat (.int (gI b.ns i0)), .any] _ _
        refine sd_if (Dl.et_test (ed_ib (ed_var rfl) (ed_iic (f := fun i j => i ^ j.toNat) ed_int ed_int ⟨by decide, by decide, by decide⟩))) (fun hge => ?_) (fun _ => ?_)
        · refine sd_setixL (i := 0) (a := b.z) (d := .int (gI b.ns i0)) (j := 2) rfl (ed_var rfl) ed_int (by decide) (by show (2 : Int) < 5; decide) trivial (fun σ H' w' => hN σ H' ⟨i0 + 1, gI b.ns i0, m0, c0 + 1, by omega, by omega, ?_, hm0, hm1, by omega, w'.wk (.same (.same (.any (.same .nil))))⟩)
          have := of_decide_eq_true hge
          have e18 : (10 : Int) ^ (18 : Int).toNat = 1000000000000000000 := by decide
          omega
        · refine sd_setixL (i := 0) (a := b.z) (d := .int ((m0 * 48271 + gI b.ns i0 % 2147483563 * 40014 + 211) % 2147483629)) (j := 3) rfl (ed_iic (ed_int1 (ed_ii (ed_ii (ed_iic (ed_ixLd (k := 3) (el_own rfl) ed_int rfl) ed_int (.inr (by decide))) (ed_iic (ed_iic (ed_int1 (ed_var rfl)) ed_int (by decide)) ed_int (.inr (by decide)))) ed_int)) ed_int (by decide)) ed_int (by decide) (by show (3 : Int) < 5; decide) trivial
            (fun σ H' w' => hN σ H' ⟨i0 + 1, g0, _, c0 + 1, by omega, by omega, hg0, Int.emod_nonneg _ (by decide), Int.emod_lt_of_pos _ (by decide), by omega, w'.wk (.same (.same (.any (.same .nil))))⟩)
    obtain ⟨t, h1, h2⟩ := core
    refine ⟨t, h1.nox, h2 _ H ?_⟩
    refine start_own1 (args := [.int size]) (ads := [.int size]) hz ?_ (.cons (.int _) .nil)
    exact .cons (.ob ⟨rfl, by rw [hid_out (by simpa using hne)]; exact hl⟩) (.cons (.int _) (.cons (.int _) (.cons (.int _) (.cons (.int _) .nil))))
end
end K58
end

section
set_option maxHeartbeats 2000000
/-! Ev: the nine worlds, judged by computing. -/
namespace K58
open PySem L2 Evl Dl
/-! ### the worlds, judged by computing -/
def toldOf (l : Int) : (List Nat × List Nat) × Int × (List Nat × List Nat) × Int := ((letters_of_text (fA l), fA l), 1, (letters_of_text (fB l), fB l), 2)
theorem r_o0 : law_right_ok (toldOf 0) onceC 0 = true ∧ law_right (toldOf 0) onceC 0 = true := by decide +kernel
theorem r_o1 : law_right_ok (toldOf 1) onceC 1 = true ∧ law_right (toldOf 1) onceC 1 = true := by decide +kernel
theorem r_o2 : law_right_ok (toldOf 2) onceC 2 = true ∧ law_right (toldOf 2) onceC 2 = true := by decide +kernel
theorem r_o3 : law_right_ok (toldOf 3) onceC 3 = true ∧ law_right (toldOf 3) onceC 3 = true := by decide +kernel
theorem r_o4 : law_right_ok (toldOf 4) onceC 4 = true ∧ law_right (toldOf 4) onceC 4 = true := by decide +kernel
theorem r_m1 : law_right_ok (toldOf 1) manyC 1 = true ∧ law_right (toldOf 1) manyC 1 = true := by decide +kernel
theorem r_m2 : law_right_ok (toldOf 2) manyC 2 = true ∧ law_right (toldOf 2) manyC 2 = true := by decide +kernel
theorem r_m3 : law_right_ok (toldOf 3) manyC 3 = true ∧ law_right (toldOf 3) manyC 3 = true := by decide +kernel
theorem r_m4 : law_right_ok (toldOf 4) manyC 4 = true ∧ law_right (toldOf 4) manyC 4 = true := by decide +kernel
theorem right_all {k : List Nat} {l : Int} (h : WOk k l) (hm : noMiss k l = false) : law_right_ok (toldOf l) k l = true ∧ law_right (toldOf l) k l = true := by
  obtain ⟨hk, hl⟩ := h
  rcases hk with rfl | rfl <;> rcases hl with rfl | rfl | rfl | rfl | rfl
  · exact absurd hm (by decide)
  · exact r_m1
  · exact r_m2
  · exact r_m3
  · exact r_m4
  · exact r_o0
  · exact r_o1
  · exact r_o2
  · exact r_o3
  · exact r_o4
def kindOf (x : Int) : List Nat := cond (decide (x < 5)) onceC manyC
def lateOf (x : Int) : Int := cond (decide (kindOf x = manyC) && decide (x % 5 = 0)) 1 (x % 5)
theorem world_of {x : Int} (h0 : 0 ≤ x) (h1 : x < 10) : WOk (kindOf x) (lateOf x) ∧ noMiss (kindOf x) (lateOf x) = false := by
  have : x = 0 ∨ x = 1 ∨ x = 2 ∨ x = 3 ∨ x = 4 ∨ x = 5 ∨ x = 6 ∨ x = 7 ∨ x = 8 ∨ x = 9 := by omega
  have key : ∀ (y : Int) (k : List Nat) (l : Int), kindOf y = k → lateOf y = l → WOk k l → noMiss k l = false → WOk (kindOf y) (lateOf y) ∧ noMiss (kindOf y) (lateOf y) = false := fun y k l e1 e2 a b => by rw [e1, e2]; exact ⟨a, b⟩
  rcases this with rfl | rfl | rfl | rfl | rfl | rfl | rfl | rfl | rfl | rfl
  · exact key 0 onceC 0 rfl rfl ⟨.inr rfl, .inl rfl⟩ (by decide)
  · exact key 1 onceC 1 rfl rfl ⟨.inr rfl, .inr (.inl rfl)⟩ (by decide)
  · exact key 2 onceC 2 rfl rfl ⟨.inr rfl, .inr (.inr (.inl rfl))⟩ (by decide)
  · exact key 3 onceC 3 rfl rfl ⟨.inr rfl, .inr (.inr (.inr (.inl rfl)))⟩ (by decide)
  · exact key 4 onceC 4 rfl rfl ⟨.inr rfl, .inr (.inr (.inr (.inr rfl)))⟩ (by decide)
  · exact key 5 manyC 1 rfl rfl ⟨.inl rfl, .inr (.inl rfl)⟩ (by decide)
  · exact key 6 manyC 1 rfl rfl ⟨.inl rfl, .inr (.inl rfl)⟩ (by decide)
  · exact key 7 manyC 2 rfl rfl ⟨.inl rfl, .inr (.inr (.inl rfl))⟩ (by decide)
  · exact key 8 manyC 3 rfl rfl ⟨.inl rfl, .inr (.inr (.inr (.inl rfl)))⟩ (by decide)
  · exact key 9 manyC 4 rfl rfl ⟨.inl rfl, .inr (.inr (.inr (.inr rfl)))⟩ (by decide)

end K58
end

section
set_option maxHeartbeats 2000000
/-! Law: the law's own def. -/
namespace K58
open PySem L2 Evl Dl
abbrev s_law : Stmt := top 56
abbrev N_law : List Str := ["script", "bag", "pick", "much", "mode", "late", "told", "again"]
theorem sc_law : FnScope N_law ["script"] (defScope s_law) := ⟨rfl, rfl, rfl, by decide +kernel, rfl, by decide +kernel, by decide +kernel⟩
/-! ### draws -/
section
variable {c : Cn} {L : List Addr} {des : List Des} {te ta tb : TE} {tz : TS} {D : Ends}
/-- an int that is not told but that P holds of it -/
def Edi (c : Cn) (L : List Addr) (des : List Des) (te : TE) (P : Int → Prop) : Prop := ∀ σ H, WS c L H σ des → ∀ Q : VK, (∀ n H2, P n → Gr c H H2 → Q (.int n) H2) → te σ H Q
theorem ed_draw {b : Bag} {i : Nat} {size : Int} (hZ : c.Z = [b]) (hi : des[i]? = some (.bag b.z)) (z1 : 1 ≤ size) (z2 : size ≤ 100) : Edi c L des (tCall (spDraw c.K) [] E0 (tCons (tVar i) (tCons (tC (.int size)) tNil))) (fun n => 0 ≤ n ∧ n < size) := fun σ H w Q q => by
  obtain ⟨s, hs, e, _⟩ := w.sl.get hi
  obtain ⟨zb, zl, zz⟩ := w.zs b (by rw [hZ]; simp)
  have hl : H b.l = some (.lst (b.ns.map .int)) := w.ex _ _ zl
  have ne : b.l ≠ b.z := fun e => by rw [e, zb] at zl; cases zl
  refine ⟨.ref b.z, by rw [hs, e], b, size, rfl, z1, z2, zz, hl, ne, fun n H' h0 h1 ex ba => q n H' ⟨h0, h1⟩ ⟨?_, fun b' hb' => ?_⟩⟩
  · have e : c.zs = [b.z] := by show c.Z.map (·.z) = _; rw [hZ]; rfl
    rw [e]; exact ex
  · rw [hZ] at hb'
    have e : b' = b := by simpa using hb'
    subst e; exact ba
theorem edi_add {f : Int → Int → Int} {P R : Int → Prop} {i : Int} (ha : Ed c L des ta (.int i)) (hb : Edi c L des tb P) (h : ∀ n, P n → R (f i n)) : Edi c L des (tOp (rI0 fun i j => .int (f i j)) ta tb) R := fun σ H w Q q =>
  ha σ H w _ fun v H1 g1 r1 => hb σ H1 (w.gr g1) _ fun n H2 hn g2 => ⟨i, n, r1.int_inv, rfl, q _ H2 (h n hn) (g1.trans g2)⟩
theorem edi_mod {f : Int → Int → Int} {C : Int → Int → Prop} {P R : Int → Prop} {j : Int} (ha : Edi c L des ta P) (hb : Ed c L des tb (.int j)) (hc : ∀ n, C n j) (h : ∀ n, P n → R (f n j)) : Edi c L des (tOp (rI C fun i j => .int (f i j)) ta tb) R := fun σ H w Q q =>
  ha σ H w _ fun n H1 hn g1 => hb σ H1 (w.gr g1) _ fun u H2 g2 r2 => ⟨n, j, rfl, r2.int_inv, hc n, q _ H2 (h n hn) (g1.trans g2)⟩
theorem edi_int {P : Int → Prop} (ha : Edi c L des ta P) : Edi c L des (tCB rInt1 (tCons ta tNil)) P := fun σ H w Q q =>
  ha σ H w _ fun n H1 hn g => .inl ⟨n, rfl, q n H1 hn g⟩
theorem sd_asgI {i : Nat} {P : Int → Prop} (h : Edi c L des te P) (k : ∀ n, P n → Sd c L (des.set i (.dat (.int n))) tz D) : Sd c L des (tSeq (tAsg te (gName i)) tz) D := fun σ H w => h σ H w _ fun n H1 hn g => k n hn _ H1 ((w.gr g).set ⟨_, rfl, .int n⟩)
theorem ed_callK {dom : List Dt → Dt → Prop} {tk : TA} {ds : List Dt} {r : Dt} {E : XK} (h : Ea c L des tk ds) (hd : dom ds r) : Ed c L des (tCallK (Pf c.K dom) (fun vs zs => vs ++ zs) E tNil tk) r := fun σ H w Q q => h σ H w _ fun vs H1 g1 r1 => by
  have w1 := w.gr g1
  exact ⟨c.M L, ds, r, hd, fun a ha z => w1.fresh z ha, r1, fun v H' e rv => q v H' (g1.trans (Gr.of_ex e w1)) rv⟩
end
theorem call_first {ta : TA} {sp : Sp} {E : XK} {i : Nat} {tz : TS} {D : Ends} {σ : St} {H : Hp} (h : ta σ H fun vs H1 => sp (vs ++ []) H1 (fun v H2 => tz D (σ.set i (some v)) H2) E) : tSeq (tAsg (tCall sp [] E ta) (gName i)) tz D σ H := h
section
variable {c : Cn} {L : List Addr} {des : List Des} {ta tb : TE} {tz tq : TS} {D : Ends}
/-- for j in [i, an int that P holds of] -/
theorem sd_for2 {K : PySem.W.Frag} {P : Int → Prop} {i : Int} {j : Nat} (W : List Des) (hK : K = c.K) (h1 : Ed c L des ta (.int i)) (h2 : Edi c L des tb P) (hW : Wk des W)
    (hb : ∀ n, P n → ∀ B', Ex c.B B' → ∀ x, x = i ∨ x = n → ∀ N Bk : St → Hp → Prop, (∀ σ' H', WS (c.up B') L H' σ' W → N σ' H') → Sd (c.up B') L (W.set j (.dat (.int x))) tq { D with nx := N, ct := N, bk := Bk })
    (hk : Sd c L W tz D) : Sd c L des (tSeq (tFor (iList K (tLst (tCons ta (tCons tb tNil)))) (gName j) tq) tz) D := by
  subst hK
  intro σ H w
  refine h1 σ H w _ fun v H1 g1 r1 => h2 σ H1 (w.gr g1) _ fun n H2 hn g2 => ⟨by show 2 ≤ sizeLine; decide, fun p hp => ?_⟩
  have w2 := (w.gr g1).gr g2
  have g3 := Gr.new w2 hp (o := .lst [v, .int n])
  have w3 := w2.gr g3
  rw [r1.int_inv] at g3 w3 ⊢
  have vis : hid (c.M L) (upd H2 p (.lst [.int i, .int n])) p = some (.lst [.int i, .int n]) := new_vis w2 hp
  refine ⟨p, rfl, ⟨_, .inl (.inl upd_same)⟩, ?_⟩
  refine for_core (D := { D with nx := tz D }) (R := Unit) (ys := [i, n]) (s0 := ()) (fun _ _ => .nx ()) Dt.int (fun _ => W) (fun x _ => W.set j (.dat (.int x))) hW (fun _ _ _ => gd_name) (fun B' eB k x s' hx _ N Bk hN _ => ?_) (fun _ _ σ' H' w' => hk σ' H' w') (Itl c.K p) σ _ w3 (itOk_list (.inl vis) (.cons (.int _) (.cons (.int _) .nil)))
  have hm : x = i ∨ x = n := by
    have := List.mem_of_getElem? hx
    simpa using this
  exact hb n hn B' eB x hm N Bk fun σ' H' w' => hN () σ' H' rfl w'
end
def spLaw (K : PySem.W.Frag) : Sp := fun vs H Q _ => ∃ (a : Addr) (ns : List Int), vs = [.ref a] ∧ SqL K H a (ns.map .int) ∧ ∀ H', Q (.bl true) H'
section
variable {P : Program} {w : World} {K : PySem.W.Frag} {mg : Str → Option Value} {base : Heap} {f fM fO fE : Addr} {fd fdM fdO fdE : FuncData} {aRota aWorld aK aL p : Addr}
theorem anys {K : PySem.W.Frag} {L Z L' Z' : List Addr} {Vs H Vs' H' : Hp} : ∀ {σ : St} {n : List Des}, SlA K L Z Vs H σ n → (∀ d ∈ n, d = .any) → SlA K L' Z' Vs' H' σ n
  | _, _, .nil, _ => .nil
  | _, _, .cons s t, h => by
    have e := h _ List.mem_cons_self
    subst e
    exact .cons trivial (anys t fun d hd => h d (List.mem_cons_of_mem _ hd))
theorem kb_find (F : FnP K "find_miss" "find_miss" s_find_miss fM fdM) : KBinds K fdM ["world"] ["world"] (fun us ws => us ++ ws) (fun vs zs => vs ++ zs) := by
  refine ⟨fun s us ws _ hl => ?_, fun r1 r2 => r1.append r2⟩
  obtain ⟨oc, od, dV, kV, doc, pm, an, cdv, ct, osl, rfl, lk, hcd, hD, hK⟩ := F.ex
  rcases hD with ⟨_, rfl⟩ | ⟨e, _⟩
  · match us, ws, hl with
    | [u], [], _ => exact .of_eq rfl
    | [], [v], _ => exact .of_eq rfl
  · exact absurd rfl e
theorem fn_law (F : FnP K "law" "law" s_law f fd) (G : Gs mg aRota aWorld) (T : Bn mg) (FR : IsF K aRota) (NR : RotaN K aRota)
    (C_law_bag : Cal P w K mg base "_law_bag" 1 ["script"] (spBag K)) (C_law_draw : Cal P w K mg base "_law_draw" 1 ["bag", "size"] (spDraw K)) (C_law_like : Cal P w K mg base "_law_like" 2 ["told", "due"] (Pf K dom_like2))
    (C_law_right : Cal P w K mg base "_law_right" 6 ["told", "mode", "late"] (Pf K (dom_law_right K aRota)))
    (C_find_miss : Cal P w K mg base "find_miss" 5 ["world"] (Pf K (dom_find_miss K aRota aWorld))) (FM : FnP K "find_miss" "find_miss" s_find_miss fM fdM) (gM : mg "find_miss" = some (.ref fM)) (OM : FnOk P w K mg base CX0 5 fM fdM ["world"] (Pf K (dom_find_miss K aRota aWorld)))
    (C_World : Mc P w K mg base "World" 2 aWorld ["self", "text"] (Pi K aWorld dom_World)) (SO : SMet K aWorld "of" p fO) (OO : FnOk P w K mg base CX0 4 fO fdO ["kind", "late"] (Pf K (dom_World_of K aWorld))) (BO : Binds K fdO ["kind", "late"] [])
    (OE : FnOk P w K mg base CX0 1 fE fdE ["self", "other"] (Pf K (dom_Rota_eq K aRota))) (BE : Binds K fdE ["self", "other"] []) (ME : Meth K aRota "__eq__" fE) : FnOk P w K mg base CX0 7 f fd ["script"] (spLaw K) := by
  refine F.ok sc_law (fun vs H Q E h => ?_) (fun cdv A outer s H vs Q E hr h => ?_)
  · obtain ⟨a, ns, rfl, _⟩ := h; rfl
  obtain ⟨a, ns, rfl, hs, q⟩ := h
  have hwM0 : WOk manyC 0 := ⟨.inl rfl, .inl rfl⟩
  have core : ∃ t, PSs (cxOf CX0 P w K mg base N_law "law" (defScope s_law) f cdv A outer s H E).nox (defBody s_law) t ∧ ∀ σ, WS (cn0 K H []) [] H σ [.dat (.ob (sqP K a ns)), .any, .any, .any, .any, .any, .any, .any] → t { nx := fun _ H' => Q .non H', rt := Q } σ H := by
    refine ⟨_, (pss_cons (ps_set (i := 1) sc_law.nd rfl (Or.inl rfl) (pe_cal C_law_bag hr (by decide) (pa_cons (pv 0) pa_nil)))
 (pss_cons (ps_set (i := 2) sc_law.nd rfl (Or.inl rfl) (pe_cal C_law_draw hr (by decide) (pa_cons (pv 1) (pa_cons pe_int pa_nil))))
 (pss_cons (ps_if (pt_cmpR d_notN (pe_cal C_find_miss hr (by decide) (pa_cons (pe_mkc C_World hr (by decide) (pa_cons pe_str pa_nil)) pa_nil)) pe_non (nomark _))
 (pss_one (ps_ret pe_bl))
 pss_nil)
 (pss_cons (ps_for PassesOwn.never rfl (pi_list (pe_lst (pa_cons (pv 2) (pa_cons (pe_op op_mod (pe_callTy d_int (by rfl) T.int_ bb_int (pa_cons (pe_op op_add (pe_op op_add (pv 2) pe_int) (pe_cal C_law_draw hr (by decide) (pa_cons (pv 1) (pa_cons pe_int pa_nil)))) pa_nil)) pe_int) pa_nil)))) (pg_name (i := 3) sc_law.nd rfl (Or.inl rfl))
 (pss_cons (ps_set (i := 4) sc_law.nd rfl (Or.inl rfl) (pe_ifExp (pt_cmpR op_lt (pv 3) pe_int (nomark _)) pe_str pe_str))
 (pss_cons (ps_set (i := 5) sc_law.nd rfl (Or.inl rfl) (pe_op op_mod (pe_callTy d_int (by rfl) T.int_ bb_int (pa_cons (pv 3) pa_nil)) pe_int))
 (pss_cons (ps_if (PW.pt (pw_and (pt_cmpR op_eq (pv 4) pe_str (nomark _)) (pw_and1 (pt_cmpR op_eq (pv 5) pe_int (nomark _)))))
 (pss_one (ps_set (i := 5) sc_law.nd rfl (Or.inl rfl) pe_int))
 pss_nil)
 (pss_cons (ps_set (i := 6) sc_law.nd rfl (Or.inl rfl) (pe_cal C_find_miss hr (by decide) (pa_cons (pe_stat SO OO hr (by decide) rfl G.World BO (pa_cons (pv 4) (pa_cons (pv 5) pa_nil))) pa_nil)))
 (pss_cons (ps_if (pt_not (pt_val (pe_cal C_law_right hr (by decide) (pa_cons (pv 6) (pa_cons (pv 4) (pa_cons (pv 5) pa_nil))))))
 (pss_one (ps_ret pe_bl))
 pss_nil)
 (pss_cons (ps_set (i := 7) sc_law.nd rfl (Or.inl rfl) (pe_callK0 OM (hr.mono (by decide)) rfl gM FM.kp (kb_find FM) pass0 (pk_cons (pe_mkc C_World hr (by decide) (pa_cons (pe_op d_catS (pe_op d_catS (pv 4) pe_str) (pe_callTy d_strI (by rfl) T.str_ bb_str (pa_cons (pv 5) pa_nil))) pa_nil)) pk_nil)))
 (pss_cons (ps_if (PW.pt (pw_or (pt_not (pt_val (pe_callB (k_isi K) (by rfl) T.isinstance_ bb_isinstance (pa_cons (pv 7) (pa_cons (pe_bltn (v := .ty "tuple") rfl T.tuple_ bb_tuple rfl) pa_nil))))) (pw_or1 (pt_cmpR op_ne (pe_callB (k_len K) (by rfl) T.len_ bb_len (pa_cons (pv 7) pa_nil)) pe_int (nomark _)))))
 (pss_one (ps_ret pe_bl))
 pss_nil)
 (pss_one (ps_if (PW.pt (pw_or (pt_not (pt_cmpR (op_eqG (rc_Rota_eq (P := P) (w := w) (K := K) (mg := mg) (base := base) rfl rfl rfl rfl rfl OE BE ME) (hr.mono (by decide))) (pe_ix (k_ix_tup K) (pv 7) pe_int (fun _ _ => rfl)) (pe_ix (k_ix_tup K) (pv 6) pe_int (fun _ _ => rfl)) (nomark _))) (pw_or (pt_not (pt_cmpR (op_eqG (rc_Rota_eq (P := P) (w := w) (K := K) (mg := mg) (base := base) rfl rfl rfl rfl rfl OE BE ME) (hr.mono (by decide))) (pe_ix (k_ix_tup K) (pv 7) pe_int (fun _ _ => rfl)) (pe_ix (k_ix_tup K) (pv 6) pe_int (fun _ _ => rfl)) (nomark _))) (pw_or1 (pt_not (pt_val (pe_cal C_law_like hr (by decide) (pa_cons (pe_lst (pa_cons (pe_ix (k_ix_tup K) (pv 7) pe_int (fun _ _ => rfl)) (pa_cons (pe_ix (k_ix_tup K) (pv 7) pe_int (fun _ _ => rfl)) pa_nil))) (pa_cons (pe_lst (pa_cons (pe_ix (k_ix_tup K) (pv 6) pe_int (fun _ _ => rfl)) (pa_cons (pe_ix (k_ix_tup K) (pv 6) pe_int (fun _ _ => rfl)) pa_nil))) pa_nil)))))))))
 (pss_one (ps_ret pe_bl))
 pss_nil))))))))))
 (pss_one (ps_ret pe_bl)))))), ?_⟩
    intro σ w0
    refine call_first (Dl.ea_cons (ed_var (d := .ob (sqP K a ns)) rfl) Dl.ea_nil σ H w0 _ fun vs H1 g1 r1 => ?_)
    cases r1 with
    | cons r0 r1 =>
    cases r1
    obtain ⟨ev, hsq⟩ := r0.ob_inv
    subst ev
    have w1 := w0.gr g1
    have hsq' : SqL K H1 a (ns.map .int) := hsq.elim (fun q => .inl (ex_rd hid_le q)) .inr
    refine ⟨a, ns, rfl, hsq', fun z l H' m ns' hz hne ex hz' hl' m0 m1 => ?_⟩
    have hnl : ns' = ns' := rfl
    -- the bag is the bag from here on
    have w2 : WS ⟨K, hid [z] H', [], [⟨z, l, ns'⟩]⟩ [] H' (σ.set 1 (some (.ref z))) [.dat (.ob (sqP K a ns)), .bag z, .any, .any, .any, .any, .any, .any] := by
      have exz : Ex H1 (hid [z] H') := fun b o hb => by
        have nb : b ≠ z := fun e => by rw [e, hz] at hb; cases hb
        rw [hid_out (by simpa using nb)]; exact ex b o hb
      have lz : l ∉ [z] := by simpa using hne.symm
      refine ⟨hid_le, (fun b hb => nomatch hb), (fun b hb => ?_), (fun b hb => nomatch hb), (fun b hb => nomatch hb), (fun b hb => nomatch hb), ?_⟩
      · have e : b = ⟨z, l, ns'⟩ := by simpa using hb
        subst e
        exact ⟨hid_in (by simp), (hid_out lz).trans hl', 0, 0, m, 0, hz', by decide, by simp, by decide, m0, m1, by decide⟩
      · have sl := w1.sl
        have slot0 : ∃ v, (σ.set 1 (some (.ref z)))[0]? = some (some v) := by
          obtain ⟨s0, hs0, v, ev, _⟩ := sl.get (i := 0) rfl
          exact ⟨v, by rw [List.getElem?_set_ne (by decide), hs0, ev]⟩
        show SlA K [] [z] (hid ([] ++ ([z] ++ [])) H') H' (σ.set 1 (some (.ref z))) _
        have hv : hid ([] ++ ([z] ++ [])) H' = hid [z] H' := by simp
        rw [hv]
        cases sl with
        | cons s0 sl =>
          cases sl with
          | cons s1 sl =>
            obtain ⟨v, ev, hv0⟩ := s0
            obtain ⟨ev2, hq⟩ := hv0.ob_inv
            refine .cons ⟨v, ev, .ob ⟨ev2, ?_⟩⟩ (.cons ⟨rfl, by simp⟩ ?_)
            · exact hq.elim (fun q => .inl (ex_rd (hid_le.trans exz) q)) .inr
            · exact anys sl (by simp)
    generalize hc : (⟨K, hid [z] H', [], [⟨z, l, ns'⟩]⟩ : Cn) = c1 at w2
    have cK : c1.K = K := by rw [← hc]
    have cZ : c1.Z = [⟨z, l, ns'⟩] := by rw [← hc]
    clear hc
    subst cK
    change tSeq _ _ _ _ _
    generalize σ.set 1 (some (.ref z)) = σ2 at w2 ⊢
    refine (?main : Sd c1 [] [.dat (.ob (sqP c1.K a ns)), .bag z, .any, .any, .any, .any, .any, .any] _ _) σ2 H' w2
    have hQ : ∀ B', Post (c1.up B') (.bl true) Q := fun B' v H' _ _ r => by rw [r.bl_inv]; exact q H'
    refine sd_asgI (i := 2) (ed_draw (b := ⟨z, l, ns'⟩) cZ rfl (by decide) (by decide)) (fun pick hp => ?_)
    show Sd _ _ [.dat (.ob (sqP c1.K a ns)), .bag z, .dat (.int pick), .any, .any, .any, .any, .any] _ _
    refine sd_when (b := false) (Dl.et_test (ed_notN (d := .non) (ed_call (Dl.ea_cons (ed_make (Dl.ea_cons (ed_strc (wText manyC 0) (by rfl)) Dl.ea_nil) ⟨manyC, 0, hwM0, rfl, wok_len hwM0, rfl⟩) Dl.ea_nil) ⟨manyC, 0, _, hwM0, rfl, rfl⟩) trivial)) (fun h => no_tt h) (fun _ => ?_)
    refine sd_for2 (j := 3) [.dat (.ob (sqP c1.K a ns)), .bag z, .dat (.int pick), .any, .any, .any, .any, .any] rfl (ed_var rfl) (edi_mod (P := fun _ => True) (R := fun r => 0 ≤ r ∧ r < 10) (edi_int (edi_add (R := fun _ => True) (ed_ii (ed_var rfl) ed_int) (ed_draw (b := ⟨z, l, ns'⟩) cZ rfl (by decide) (by decide)) (fun _ _ => trivial))) ed_int (fun _ => by decide) (fun n _ => ⟨Int.emod_nonneg _ (by decide), Int.emod_lt_of_pos _ (by decide)⟩)) (.same (.same (.same (.same (.same (.same (.same (.same .nil)))))))) (fun n hn B' eB x hx N Bk hN => ?_) (sd_ret (d := .bl true) ed_bl (hQ c1.B))
    have hx0 : 0 ≤ x := by rcases hx with e | e <;> rw [e] <;> omega
    have hx1 : x < 10 := by rcases hx with e | e <;> rw [e] <;> omega
    show Sd _ _ [.dat (.ob (sqP c1.K a ns)), .bag z, .dat (.int pick), .dat (.int x), .any, .any, .any, .any] _ _
    refine sd_asg (i := 4) (d := eS (kindOf x)) (ed_if eS (Dl.et_test (ed_ib (ed_var rfl) ed_int)) (fun _ => ed_strc onceC (by rfl)) (fun _ => ed_strc manyC (by rfl))) ?_
    refine sd_asg (i := 5) (d := .int (x % 5)) (ed_iic (ed_int1 (ed_var rfl)) ed_int (by decide)) ?_
    show Sd _ _ [.dat (.ob (sqP c1.K a ns)), .bag z, .dat (.int pick), .dat (.int x), .dat (eS (kindOf x)), .dat (.int (x % 5)), .any, .any] _ _
    refine sd_meet [.dat (.ob (sqP c1.K a ns)), .bag z, .dat (.int pick), .dat (.int x), .dat (eS (kindOf x)), .dat (.int (lateOf x)), .any, .any] (et_and (Dl.et_test (ed_eqS (ed_var rfl) (ed_strc manyC (by rfl)))) (fun _ => Dl.et_test (ed_eqI (ed_var rfl) ed_int))) (fun hb N2 hN2 => ?_) (fun hb N2 hN2 => ?_) ?_
    · have e : lateOf x = 1 := by unfold lateOf; rw [hb]; rfl
      exact sd_asgL (i := 5) (d := .int 1) ed_int (fun σ H w => hN2 σ H (by rw [e]; exact w))
    · have e : lateOf x = x % 5 := by unfold lateOf; rw [hb]; rfl
      exact sd_next (fun σ H w => hN2 σ H (by rw [e]; exact w))
    obtain ⟨hw, hm⟩ := world_of hx0 hx1
    obtain ⟨ok, rt⟩ := right_all hw hm
    generalize kindOf x = k at *
    generalize lateOf x = l' at *
    obtain ⟨n', en, hn', e1, e2, e3, e4'⟩ := wok_n hw
    refine sd_asg (i := 6) (d := e4 (eRota c1.K aRota) .int (eRota c1.K aRota) .int (toldOf l')) (ed_call (Dl.ea_cons (ed_call (Dl.ea_cons (ed_var rfl) (Dl.ea_cons (ed_var rfl) Dl.ea_nil)) ⟨k, l', hw, rfl, rfl⟩) Dl.ea_nil) ⟨k, l', wText k l', hw, rfl, by rw [hm]; rfl⟩) ?_
    show Sd _ _ [.dat (.ob (sqP c1.K a ns)), .bag z, .dat (.int pick), .dat (.int x), .dat (eS k), .dat (.int l'), .dat (e4 (eRota c1.K aRota) .int (eRota c1.K aRota) .int (toldOf l')), .any] _ _
    refine sd_when (b := false) (et_not (a := true) (et_B (ed_call (Dl.ea_cons (ed_var rfl) (Dl.ea_cons (ed_var rfl) (Dl.ea_cons (ed_var rfl) Dl.ea_nil))) ⟨toldOf l', k, l', rfl, ok, by rw [rt]⟩))) (fun h => no_tt h) (fun _ => ?_)
    have txt : Ed (c1.up B') [] [.dat (.ob (sqP c1.K a ns)), .bag z, .dat (.int pick), .dat (.int x), .dat (eS k), .dat (.int l'), .dat (e4 (eRota c1.K aRota) .int (eRota c1.K aRota) .int (toldOf l')), .any] (tOp rCatS (tOp rCatS (tVar 4) (tC (.str " "))) (tCB rStrI (tCons (tVar 5) tNil))) (eS (wText k l')) :=
      Ed.to (ed_catS (ed_catS (ed_var rfl) (ed_strc [32] (by rfl)) (by rw [e2]; decide)) (ed_strI (ed_var rfl) e4' e1) (by rw [List.length_append, e2]; show 4 + 1 + 1 ≤ 1000000; decide)) (by rw [e3, List.append_assoc]; rfl)
    refine sd_asg (i := 7) (d := e4 (eRota c1.K aRota) .int (eRota c1.K aRota) .int (toldOf l')) (ed_callK (Dl.ea_cons (ed_make (Dl.ea_cons txt Dl.ea_nil) ⟨k, l', hw, rfl, wok_len hw, rfl⟩) Dl.ea_nil) ⟨k, l', wText k l', hw, rfl, by rw [hm]; rfl⟩) ?_
    show Sd _ _ [.dat (.ob (sqP c1.K a ns)), .bag z, .dat (.int pick), .dat (.int x), .dat (eS k), .dat (.int l'), .dat (e4 (eRota c1.K aRota) .int (eRota c1.K aRota) .int (toldOf l')), .dat (e4 (eRota c1.K aRota) .int (eRota c1.K aRota) .int (toldOf l'))] _ _
    refine sd_when (b := false) (et_or (et_not (a := true) (et_B (ed_isi (.ty "tuple") (fun _ _ r => ty_tup r) (kit_same _ _) (ed_var rfl)))) (fun _ => Dl.et_test (ed_neI (i := 4) (j := 4) (ed_lenN 4 (ed_var rfl)) ed_int))) (fun h => no_tt h) (fun _ => ?_)
    have q0 : Ed (c1.up B') [] [.dat (.ob (sqP c1.K a ns)), .bag z, .dat (.int pick), .dat (.int x), .dat (eS k), .dat (.int l'), .dat (e4 (eRota c1.K aRota) .int (eRota c1.K aRota) .int (toldOf l')), .dat (e4 (eRota c1.K aRota) .int (eRota c1.K aRota) .int (toldOf l'))] (tOp (rEqG (DIns aRota (reqR c1.K aRota))) (tOp (rIxT c1.K) (tVar 7) (tC (.int 0))) (tOp (rIxT c1.K) (tVar 6) (tC (.int 0)))) (.bl true) :=
      ed_eqO (c := c1.up B') (d := eRota c1.K aRota (letters_of_text (fA l'), fA l')) rfl (fun a b H r1 r2 => ⟨_, r1, r2⟩) (ed_ixT (k := 0) (ed_var rfl) ed_int rfl) (ed_ixT (k := 0) (ed_var rfl) ed_int rfl)
    have q2 : Ed (c1.up B') [] [.dat (.ob (sqP c1.K a ns)), .bag z, .dat (.int pick), .dat (.int x), .dat (eS k), .dat (.int l'), .dat (e4 (eRota c1.K aRota) .int (eRota c1.K aRota) .int (toldOf l')), .dat (e4 (eRota c1.K aRota) .int (eRota c1.K aRota) .int (toldOf l'))] (tOp (rEqG (DIns aRota (reqR c1.K aRota))) (tOp (rIxT c1.K) (tVar 7) (tC (.int 2))) (tOp (rIxT c1.K) (tVar 6) (tC (.int 2)))) (.bl true) :=
      ed_eqO (c := c1.up B') (d := eRota c1.K aRota (letters_of_text (fB l'), fB l')) rfl (fun a b H r1 r2 => ⟨_, r1, r2⟩) (ed_ixT (k := 2) (ed_var rfl) ed_int rfl) (ed_ixT (k := 2) (ed_var rfl) ed_int rfl)
    refine sd_if (b := false) (Dl.et_or (b := false) (Dl.et_not (a := true) (Dl.et_test q0)) (fun _ => Dl.et_or (b := false) (Dl.et_not (a := true) (Dl.et_test q2)) (fun _ => Dl.et_not (a := true) (Dl.et_B (ed_call (Dl.ea_cons (ed_lst (Dl.ea_cons (ed_ixT (k := 1) (ed_var rfl) ed_int rfl) (Dl.ea_cons (ed_ixT (k := 3) (ed_var rfl) ed_int rfl) Dl.ea_nil)) (Nat.le_of_ble_eq_true rfl)) (Dl.ea_cons (ed_lst (Dl.ea_cons (ed_ixT (k := 1) (ed_var rfl) ed_int rfl) (Dl.ea_cons (ed_ixT (k := 3) (ed_var rfl) ed_int rfl) Dl.ea_nil)) (Nat.le_of_ble_eq_true rfl)) Dl.ea_nil)) ⟨1, 2, rfl, rfl⟩))))) (fun h => no_tt h) (fun _ => ?_)
    exact sd_next (fun σ H w => hN σ H (w.wk (.same (.same (.same (.any (.any (.any (.any (.any .nil))))))))))
  obtain ⟨t, h1, h2⟩ := core
  refine ⟨t, h1.nox, h2 _ ?_⟩
  exact start_ok (K := K) (N := N_law) (vs := [V.ref a]) (H := H) (M0 := []) (ds := [.ob (sqP K a ns)]) (fun a h => nomatch h) (.cons (.ob ⟨rfl, by rw [hid_nil]; exact hs⟩) .nil)
end
end K58
end

section
set_option maxHeartbeats 0
/-! Head: the facts of the text's names, and the law. -/
namespace K58
open PySem PySem.Spec PyProof.Rows L2
def d_check_length : He5.DefA := { at_ := fun K => He.ga K "check_length", name := "check_length", qual := "check_length", params := defArgs s_check_length, body := defBody s_check_length, scope := defScope s_check_length }
def d_first_strange : He5.DefA := { at_ := fun K => He.ga K "first_strange", name := "first_strange", qual := "first_strange", params := defArgs s_first_strange, body := defBody s_first_strange, scope := defScope s_first_strange }
def d_rota_fault : He5.DefA := { at_ := fun K => He.ga K "rota_fault", name := "rota_fault", qual := "rota_fault", params := defArgs s_rota_fault, body := defBody s_rota_fault, scope := defScope s_rota_fault }
def d_letters_of_text : He5.DefA := { at_ := fun K => He.ga K "letters_of_text", name := "letters_of_text", qual := "letters_of_text", params := defArgs s_letters_of_text, body := defBody s_letters_of_text, scope := defScope s_letters_of_text }
def d_law_hands : He5.DefA := { at_ := fun K => He.ga K "_law_hands", name := "_law_hands", qual := "_law_hands", params := defArgs s_law_hands, body := defBody s_law_hands, scope := defScope s_law_hands }
def d_law_deeps : He5.DefA := { at_ := fun K => He.ga K "_law_deeps", name := "_law_deeps", qual := "_law_deeps", params := defArgs s_law_deeps, body := defBody s_law_deeps, scope := defScope s_law_deeps }
def d_law_at : He5.DefA := { at_ := fun K => He.ga K "_law_at", name := "_law_at", qual := "_law_at", params := defArgs s_law_at, body := defBody s_law_at, scope := defScope s_law_at }
def d_law_known : He5.DefA := { at_ := fun K => He.ga K "_law_known", name := "_law_known", qual := "_law_known", params := defArgs s_law_known, body := defBody s_law_known, scope := defScope s_law_known }
def d_law_fork : He5.DefA := { at_ := fun K => He.ga K "_law_fork", name := "_law_fork", qual := "_law_fork", params := defArgs s_law_fork, body := defBody s_law_fork, scope := defScope s_law_fork }
def d_law_grown : He5.DefA := { at_ := fun K => He.ga K "_law_grown", name := "_law_grown", qual := "_law_grown", params := defArgs s_law_grown, body := defBody s_law_grown, scope := defScope s_law_grown }
def d_law_sorted : He5.DefA := { at_ := fun K => He.ga K "_law_sorted", name := "_law_sorted", qual := "_law_sorted", params := defArgs s_law_sorted, body := defBody s_law_sorted, scope := defScope s_law_sorted }
def d_law_wins : He5.DefA := { at_ := fun K => He.ga K "_law_wins", name := "_law_wins", qual := "_law_wins", params := defArgs s_law_wins, body := defBody s_law_wins, scope := defScope s_law_wins }
def d_law_false : He5.DefA := { at_ := fun K => He.ga K "_law_false", name := "_law_false", qual := "_law_false", params := defArgs s_law_false, body := defBody s_law_false, scope := defScope s_law_false }
def d_law_stands : He5.DefA := { at_ := fun K => He.ga K "_law_stands", name := "_law_stands", qual := "_law_stands", params := defArgs s_law_stands, body := defBody s_law_stands, scope := defScope s_law_stands }
def d_law_serves : He5.DefA := { at_ := fun K => He.ga K "_law_serves", name := "_law_serves", qual := "_law_serves", params := defArgs s_law_serves, body := defBody s_law_serves, scope := defScope s_law_serves }
def d_law_works : He5.DefA := { at_ := fun K => He.ga K "_law_works", name := "_law_works", qual := "_law_works", params := defArgs s_law_works, body := defBody s_law_works, scope := defScope s_law_works }
def d_law_more : He5.DefA := { at_ := fun K => He.ga K "_law_more", name := "_law_more", qual := "_law_more", params := defArgs s_law_more, body := defBody s_law_more, scope := defScope s_law_more }
def d_law_branches : He5.DefA := { at_ := fun K => He.ga K "_law_branches", name := "_law_branches", qual := "_law_branches", params := defArgs s_law_branches, body := defBody s_law_branches, scope := defScope s_law_branches }
def d_law_miss : He5.DefA := { at_ := fun K => He.ga K "_law_miss", name := "_law_miss", qual := "_law_miss", params := defArgs s_law_miss, body := defBody s_law_miss, scope := defScope s_law_miss }
def d_law_open : He5.DefA := { at_ := fun K => He.ga K "_law_open", name := "_law_open", qual := "_law_open", params := defArgs s_law_open, body := defBody s_law_open, scope := defScope s_law_open }
def d_law_number : He5.DefA := { at_ := fun K => He.ga K "_law_number", name := "_law_number", qual := "_law_number", params := defArgs s_law_number, body := defBody s_law_number, scope := defScope s_law_number }
def d_law_right : He5.DefA := { at_ := fun K => He.ga K "_law_right", name := "_law_right", qual := "_law_right", params := defArgs s_law_right, body := defBody s_law_right, scope := defScope s_law_right }
def d_world_words : He5.DefA := { at_ := fun K => He.ga K "world_words", name := "world_words", qual := "world_words", params := defArgs s_world_words, body := defBody s_world_words, scope := defScope s_world_words }
def d_miss_parts : He5.DefA := { at_ := fun K => He.ga K "miss_parts", name := "miss_parts", qual := "miss_parts", params := defArgs s_miss_parts, body := defBody s_miss_parts, scope := defScope s_miss_parts }
def d_find_miss : He5.DefA := { at_ := fun K => He.ga K "find_miss", name := "find_miss", qual := "find_miss", params := defArgs s_find_miss, body := defBody s_find_miss, scope := defScope s_find_miss }
def d_law_like : He5.DefA := { at_ := fun K => He.ga K "_law_like", name := "_law_like", qual := "_law_like", params := defArgs s_law_like, body := defBody s_law_like, scope := defScope s_law_like }
def d_law_bag : He5.DefA := { at_ := fun K => He.ga K "_law_bag", name := "_law_bag", qual := "_law_bag", params := defArgs s_law_bag, body := defBody s_law_bag, scope := defScope s_law_bag }
def d_law_draw : He5.DefA := { at_ := fun K => He.ga K "_law_draw", name := "_law_draw", qual := "_law_draw", params := defArgs s_law_draw, body := defBody s_law_draw, scope := defScope s_law_draw }
def d_law : He5.DefA := { at_ := fun K => He.ga K "law", name := "law", qual := "law", params := defArgs s_law, body := defBody s_law, scope := defScope s_law }
def d_Rota_init : He5.DefA := { at_ := fun K => He.ma K (He.ga K "Rota") "__init__", name := "__init__", qual := "Rota.__init__", params := defArgs s_Rota_init, body := defBody s_Rota_init, scope := defScope s_Rota_init }
def d_Rota_eq : He5.DefA := { at_ := fun K => He.ma K (He.ga K "Rota") "__eq__", name := "__eq__", qual := "Rota.__eq__", params := defArgs s_Rota_eq, body := defBody s_Rota_eq, scope := defScope s_Rota_eq }
def d_World_init : He5.DefA := { at_ := fun K => He.ma K (He.ga K "World") "__init__", name := "__init__", qual := "World.__init__", params := defArgs s_World_init, body := defBody s_World_init, scope := defScope s_World_init }
def d_World_of : He5.DefA := { at_ := fun K => He5.wf K (He.ga K "World") "staticmethod" "of", name := "of", qual := "World.of", params := defArgs s_World_of, body := defBody s_World_of, scope := defScope s_World_of }
def fn : List He5.DefA := [d_check_length, d_first_strange, d_rota_fault, d_letters_of_text, d_law_hands, d_law_deeps, d_law_at, d_law_known, d_law_fork, d_law_grown, d_law_sorted, d_law_wins, d_law_false, d_law_stands, d_law_serves, d_law_works, d_law_more, d_law_branches, d_law_miss, d_law_open, d_law_number, d_law_right, d_world_words, d_miss_parts, d_find_miss, d_law_like, d_law_bag, d_law_draw, d_law, d_Rota_init, d_Rota_eq, d_World_init, d_World_of]
def fa : List He.Fa := [.glo "check_length", .glo "first_strange", .glo "rota_fault", .glo "letters_of_text", .glo "_law_hands", .glo "_law_deeps", .glo "_law_at", .glo "_law_known", .glo "_law_fork", .glo "_law_grown", .glo "_law_sorted", .glo "_law_wins", .glo "_law_false", .glo "_law_stands", .glo "_law_serves", .glo "_law_works", .glo "_law_more", .glo "_law_branches", .glo "_law_miss", .glo "_law_open", .glo "_law_number", .glo "_law_right", .glo "world_words", .glo "miss_parts", .glo "find_miss", .glo "_law_like", .glo "_law_bag", .glo "_law_draw", .glo "law", .glo "Rota", .glo "World", .free "len", .free "range", .free "int", .free "max", .free "min", .free "list", .free "tuple", .free "isinstance", .free "any"] ++ ([.free "all", .free "sum", .free "sorted", .free "enumerate", .free "reversed", .free "str", .free "bool", .str "EMPTY" "-", .str "LETTERS" ".hHabB", .int "MOST_SLOTS" 40, .int "MOST_CHARACTERS" 100000, .int "MOST_LATE" 4, .cls "Rota", .cls "World", .noat "Rota" "letters", .noat "Rota" "text", .noat "World" "kind", .noat "World" "late", .noat "World" "text", .mkr "Rota", .mkr "World", .meth "Rota" "__eq__"] : List He.Fa)
/-- more that is looked at -/
def strsB (K : PySem.W.Frag) (a : Addr) (xs : List Str) : Bool := match K.lookup a with
  | some ⟨.type "tuple", _, .seq its _, _⟩ => He.relAll (xs.map V.str) its.toList && decide (its.size ≤ sizeLine)
  | _ => false
def kindsS : List Str := ["many", "once"]
def latesS : List Str := ["0", "1", "2", "3", "4"]
def p_class (K : PySem.W.Frag) : Bool := decide (PySem.W.findIn K (.ref (He.ga K "Rota")) "__class__" = some (some (.builtin "object.__class__")))
def p_cget (K : PySem.W.Frag) : Bool := decide (PySem.W.specialIn K (.builtin "object.__class__") "__get__" = some (some (.builtin "getset_descriptor.__get__")))
def p_takes (K : PySem.W.Frag) : Bool := decide (PySem.W.takesIn K (.builtin "object.__class__") = some true)
def p_mro (K : PySem.W.Frag) : Bool := decide (PySem.W.mroIn K (He.ga K "Rota") (.type "object") = some true)
def p_wrap (K : PySem.W.Frag) : Bool := He5.wrapB K (He.ga K "World") "staticmethod" "staticmethod.__get__" "of"
def p_reads (K : PySem.W.Frag) : Bool := PySem.W.readsIn K (He.ga K "World") (.type "type")
def p_ga (K : PySem.W.Frag) : Bool := decide (PySem.W.specialIn K (.ref (He.ga K "World")) "__getattribute__" = some (some (.builtin "type.__getattribute__")))
def p_keep (K : PySem.W.Frag) : Bool := PySem.W.keepIn K (.ref (He5.wf K (He.ga K "World") "staticmethod" "of"))
def p_kinds (K : PySem.W.Frag) : Bool := He.eqO (PySem.W.nsIn K mainGlobals "KINDS") (some (some (.ref (He.ga K "KINDS")))) && strsB K (He.ga K "KINDS") kindsS
def p_lates (K : PySem.W.Frag) : Bool := He.eqO (PySem.W.nsIn K mainGlobals "LATENESSES") (some (some (.ref (He.ga K "LATENESSES")))) && strsB K (He.ga K "LATENESSES") latesS
def ps : List (PySem.W.Frag → Bool) := [p_class, p_cget, p_takes, p_mro, p_wrap, p_reads, p_ga, p_keep, p_kinds, p_lates]
/-! the Hook -/
def obsK (K : PySem.W.Frag) : He.AlD := ((fa.all fun f => f.ok K) && ((ps.all fun p => p K) && fn.all fun d => d.ok K), fn.map fun d => He5.fnA K (d.at_ K))
def valK : He.AlD := (true, fn.map He5.DefA.val)
def SaysK (K : PySem.W.Frag) : Prop := obsK K = valK
def obG (g : Addr → Option Obj) : He.AlD := obsK (He.frG g (He5.asA g 6))
def hk : PySem.W.Hook where
  α := He.AlD
  obs := fun s => obG s.heap.get?
  val := fun _ => valK
  says := fun _ h => ∃ K : PySem.W.Frag, K.In h ∧ SaysK K
  of := fun _ _ e => ⟨_, He.frG_in, e⟩
  keeps := fun _ _ _ ⟨K, hK, c⟩ k => ⟨K, PySem.W.Frag.In.keeps hK k, c⟩
def ob (s : PySem.W.SharedT) : He.AlD := obG (HandSHeadRun.getT s)
theorem ob_eq (s : PySem.W.SharedT) : ob s = hk.obs s.abs := by
  have e : HandSHeadRun.getT s = s.abs.heap.get? := funext (HandSHeadRun.getT_eq s)
  show obG (HandSHeadRun.getT s) = obG s.abs.heap.get?
  rw [e]
theorem ba {a b : Bool} (h : (a && b) = true) : a = true ∧ b = true := Bool.and_eq_true_iff.mp h
section
variable {K : PySem.W.Frag}
theorem SaysK.fact (c : SaysK K) (i : Nat) {f : He.Fa} (h : fa[i]? = some f := by rfl) : f.ok K = true := by
  have c1 := (ba (show ((fa.all fun f => f.ok K) && ((ps.all fun p => p K) && fn.all fun d => d.ok K)) = true from congrArg (fun z : He.AlD => z.1) c)).1
  exact List.all_eq_true.mp c1 f (List.mem_of_getElem? h)
theorem SaysK.more (c : SaysK K) (i : Nat) {p : PySem.W.Frag → Bool} (h : ps[i]? = some p := by rfl) : p K = true := by
  have c1 := (ba (ba (show ((fa.all fun f => f.ok K) && ((ps.all fun p => p K) && fn.all fun d => d.ok K)) = true from congrArg (fun z : He.AlD => z.1) c)).2).1
  exact List.all_eq_true.mp c1 p (List.mem_of_getElem? h)
theorem SaysK.def_ (c : SaysK K) (i : Nat) {d : He5.DefA} (h : fn[i]? = some d := by rfl) : ∃ fd, L2.FunD K d.name d.qual d.params d.body d.scope (d.dvs K) (d.kws K) (d.at_ K) fd := by
  have c2 := (ba (ba (show ((fa.all fun f => f.ok K) && ((ps.all fun p => p K) && fn.all fun d => d.ok K)) = true from congrArg (fun z : He.AlD => z.1) c)).2).2
  have e : fn.map (fun d => He5.fnA K (d.at_ K)) = fn.map He5.DefA.val := congrArg (fun z : He.AlD => z.2) c
  have e2 : (fn.map fun d => He5.fnA K (d.at_ K))[i]? = (fn.map He5.DefA.val)[i]? := by rw [e]
  rw [List.getElem?_map, List.getElem?_map, h] at e2
  exact He5.DefA.funD (Option.some.inj e2) (List.all_eq_true.mp c2 d (List.mem_of_getElem? h))
theorem strs_ok {a : Addr} {xs : List Str} (h : strsB K a xs = true) : ∀ H, SqT K H a (xs.map V.str) := by
  intro H
  unfold strsB at h
  split at h
  · rename_i od its n sl e
    obtain ⟨h1, h2⟩ := ba h
    exact .inr ⟨_, its, n, e, rfl, rfl, of_decide_eq_true h2, He.relAll_ok h1⟩
  · cases h
end
abbrev R : PySem.W.OpenRow := PySem.W.OpenLaw.row PySem.Challenge.rw_buriedsure_k58_whole_misses_judged
def loose : List PySem.Str := (["_wall", "BadRota", "BadWorld", "OutOf", "TooMany", "EMPTY", "LETTERS", "FALSE_LETTERS", "TRUE_HANDS", "MOST_SLOTS", "true_hands", "has_false_hand", "hands_at", "first_strange", "rota_fault", "letters_of_text", "text_of_letters", "MOST_CHARACTERS", "check_length", "KINDS", "MOST_LATE", "LATENESSES", "Rota", "time_of", "world_words", "World", "miss_parts", "find_miss", "_law_bag", "_law_draw"] : List PySem.Str) ++ (["_law_like", "_law_number", "_law_hands", "_law_deeps", "_law_at", "_law_known", "_law_fork", "_law_grown", "_law_sorted", "_law_wins", "_law_false", "_law_stands", "_law_serves", "_law_works", "_law_more", "_law_branches", "_law_miss", "_law_open", "_law_right"] : List PySem.Str)
theorem facts {P : Program} {w : World} {K : PySem.W.Frag} {h : Heap} {mg : Str → Option Value} {f : Addr} (X : K.In h) (G0 : h.Ns mainGlobals mg) (hfa : mg ("law" : Str) = some (.ref f)) (c : SaysK K) :
    ∃ fd : FuncData, (∀ (s : Shared) (v : Value), BindsTo s fd ⟨[v], []⟩ [("script", v)]) ∧ ∀ base : Heap, K.In base → base.Ns mainGlobals mg → FnOk P w K mg base CX0 7 f fd ["script"] (spLaw K) := by
  obtain ⟨fd_d_check_length, F_d_check_length⟩ := c.def_ 0 (d := d_check_length) rfl
  obtain ⟨fd_d_first_strange, F_d_first_strange⟩ := c.def_ 1 (d := d_first_strange) rfl
  obtain ⟨fd_d_rota_fault, F_d_rota_fault⟩ := c.def_ 2 (d := d_rota_fault) rfl
  obtain ⟨fd_d_letters_of_text, F_d_letters_of_text⟩ := c.def_ 3 (d := d_letters_of_text) rfl
  obtain ⟨fd_d_law_hands, F_d_law_hands⟩ := c.def_ 4 (d := d_law_hands) rfl
  obtain ⟨fd_d_law_deeps, F_d_law_deeps⟩ := c.def_ 5 (d := d_law_deeps) rfl
  obtain ⟨fd_d_law_at, F_d_law_at⟩ := c.def_ 6 (d := d_law_at) rfl
  obtain ⟨fd_d_law_known, F_d_law_known⟩ := c.def_ 7 (d := d_law_known) rfl
  obtain ⟨fd_d_law_fork, F_d_law_fork⟩ := c.def_ 8 (d := d_law_fork) rfl
  obtain ⟨fd_d_law_grown, F_d_law_grown⟩ := c.def_ 9 (d := d_law_grown) rfl
  obtain ⟨fd_d_law_sorted, F_d_law_sorted⟩ := c.def_ 10 (d := d_law_sorted) rfl
  obtain ⟨fd_d_law_wins, F_d_law_wins⟩ := c.def_ 11 (d := d_law_wins) rfl
  obtain ⟨fd_d_law_false, F_d_law_false⟩ := c.def_ 12 (d := d_law_false) rfl
  obtain ⟨fd_d_law_stands, F_d_law_stands⟩ := c.def_ 13 (d := d_law_stands) rfl
  obtain ⟨fd_d_law_serves, F_d_law_serves⟩ := c.def_ 14 (d := d_law_serves) rfl
  obtain ⟨fd_d_law_works, F_d_law_works⟩ := c.def_ 15 (d := d_law_works) rfl
  obtain ⟨fd_d_law_more, F_d_law_more⟩ := c.def_ 16 (d := d_law_more) rfl
  obtain ⟨fd_d_law_branches, F_d_law_branches⟩ := c.def_ 17 (d := d_law_branches) rfl
  obtain ⟨fd_d_law_miss, F_d_law_miss⟩ := c.def_ 18 (d := d_law_miss) rfl
  obtain ⟨fd_d_law_open, F_d_law_open⟩ := c.def_ 19 (d := d_law_open) rfl
  obtain ⟨fd_d_law_number, F_d_law_number⟩ := c.def_ 20 (d := d_law_number) rfl
  obtain ⟨fd_d_law_right, F_d_law_right⟩ := c.def_ 21 (d := d_law_right) rfl
  obtain ⟨fd_d_world_words, F_d_world_words⟩ := c.def_ 22 (d := d_world_words) rfl
  obtain ⟨fd_d_miss_parts, F_d_miss_parts⟩ := c.def_ 23 (d := d_miss_parts) rfl
  obtain ⟨fd_d_find_miss, F_d_find_miss⟩ := c.def_ 24 (d := d_find_miss) rfl
  obtain ⟨fd_d_law_like, F_d_law_like⟩ := c.def_ 25 (d := d_law_like) rfl
  obtain ⟨fd_d_law_bag, F_d_law_bag⟩ := c.def_ 26 (d := d_law_bag) rfl
  obtain ⟨fd_d_law_draw, F_d_law_draw⟩ := c.def_ 27 (d := d_law_draw) rfl
  obtain ⟨fd_d_law, F_d_law⟩ := c.def_ 28 (d := d_law) rfl
  obtain ⟨fd_d_Rota_init, F_d_Rota_init⟩ := c.def_ 29 (d := d_Rota_init) rfl
  obtain ⟨fd_d_Rota_eq, F_d_Rota_eq⟩ := c.def_ 30 (d := d_Rota_eq) rfl
  obtain ⟨fd_d_World_init, F_d_World_init⟩ := c.def_ 31 (d := d_World_init) rfl
  obtain ⟨fd_d_World_of, F_d_World_of⟩ := c.def_ 32 (d := d_World_of) rfl
  have g_check_length := He.glo_ok X G0 (c.fact 0 (f := .glo "check_length") rfl)
  have g_first_strange := He.glo_ok X G0 (c.fact 1 (f := .glo "first_strange") rfl)
  have g_rota_fault := He.glo_ok X G0 (c.fact 2 (f := .glo "rota_fault") rfl)
  have g_letters_of_text := He.glo_ok X G0 (c.fact 3 (f := .glo "letters_of_text") rfl)
  have g_law_hands := He.glo_ok X G0 (c.fact 4 (f := .glo "_law_hands") rfl)
  have g_law_deeps := He.glo_ok X G0 (c.fact 5 (f := .glo "_law_deeps") rfl)
  have g_law_at := He.glo_ok X G0 (c.fact 6 (f := .glo "_law_at") rfl)
  have g_law_known := He.glo_ok X G0 (c.fact 7 (f := .glo "_law_known") rfl)
  have g_law_fork := He.glo_ok X G0 (c.fact 8 (f := .glo "_law_fork") rfl)
  have g_law_grown := He.glo_ok X G0 (c.fact 9 (f := .glo "_law_grown") rfl)
  have g_law_sorted := He.glo_ok X G0 (c.fact 10 (f := .glo "_law_sorted") rfl)
  have g_law_wins := He.glo_ok X G0 (c.fact 11 (f := .glo "_law_wins") rfl)
  have g_law_false := He.glo_ok X G0 (c.fact 12 (f := .glo "_law_false") rfl)
  have g_law_stands := He.glo_ok X G0 (c.fact 13 (f := .glo "_law_stands") rfl)
  have g_law_serves := He.glo_ok X G0 (c.fact 14 (f := .glo "_law_serves") rfl)
  have g_law_works := He.glo_ok X G0 (c.fact 15 (f := .glo "_law_works") rfl)
  have g_law_more := He.glo_ok X G0 (c.fact 16 (f := .glo "_law_more") rfl)
  have g_law_branches := He.glo_ok X G0 (c.fact 17 (f := .glo "_law_branches") rfl)
  have g_law_miss := He.glo_ok X G0 (c.fact 18 (f := .glo "_law_miss") rfl)
  have g_law_open := He.glo_ok X G0 (c.fact 19 (f := .glo "_law_open") rfl)
  have g_law_number := He.glo_ok X G0 (c.fact 20 (f := .glo "_law_number") rfl)
  have g_law_right := He.glo_ok X G0 (c.fact 21 (f := .glo "_law_right") rfl)
  have g_world_words := He.glo_ok X G0 (c.fact 22 (f := .glo "world_words") rfl)
  have g_miss_parts := He.glo_ok X G0 (c.fact 23 (f := .glo "miss_parts") rfl)
  have g_find_miss := He.glo_ok X G0 (c.fact 24 (f := .glo "find_miss") rfl)
  have g_law_like := He.glo_ok X G0 (c.fact 25 (f := .glo "_law_like") rfl)
  have g_law_bag := He.glo_ok X G0 (c.fact 26 (f := .glo "_law_bag") rfl)
  have g_law_draw := He.glo_ok X G0 (c.fact 27 (f := .glo "_law_draw") rfl)
  have g_law := He.glo_ok X G0 (c.fact 28 (f := .glo "law") rfl)
  have T : Dl.Bn mg := ⟨He.free_ok X G0 (c.fact 31 (f := .free "len") rfl), He.free_ok X G0 (c.fact 32 (f := .free "range") rfl), He.free_ok X G0 (c.fact 33 (f := .free "int") rfl), He.free_ok X G0 (c.fact 34 (f := .free "max") rfl), He.free_ok X G0 (c.fact 35 (f := .free "min") rfl), He.free_ok X G0 (c.fact 36 (f := .free "list") rfl), He.free_ok X G0 (c.fact 37 (f := .free "tuple") rfl), He.free_ok X G0 (c.fact 38 (f := .free "isinstance") rfl), He.free_ok X G0 (c.fact 39 (f := .free "any") rfl), He.free_ok X G0 (c.fact 40 (f := .free "all") rfl), He.free_ok X G0 (c.fact 41 (f := .free "sum") rfl), He.free_ok X G0 (c.fact 42 (f := .free "sorted") rfl), He.free_ok X G0 (c.fact 43 (f := .free "enumerate") rfl), He.free_ok X G0 (c.fact 44 (f := .free "reversed") rfl), He.free_ok X G0 (c.fact 45 (f := .free "str") rfl), He.free_ok X G0 (c.fact 46 (f := .free "bool") rfl)⟩
  have G : Gs mg (He.ga K "Rota") (He.ga K "World") := by
    obtain ⟨t1, e1⟩ := He.str_ok X G0 (c.fact 47 (f := .str "EMPTY" "-") rfl)
    obtain ⟨t2, e2⟩ := He.str_ok X G0 (c.fact 48 (f := .str "LETTERS" ".hHabB") rfl)
    obtain ⟨t3, e3⟩ := He.int_ok X G0 (c.fact 49 (f := .int "MOST_SLOTS" 40) rfl)
    obtain ⟨t4, e4⟩ := He.int_ok X G0 (c.fact 50 (f := .int "MOST_CHARACTERS" 100000) rfl)
    obtain ⟨t5, e5⟩ := He.int_ok X G0 (c.fact 51 (f := .int "MOST_LATE" 4) rfl)
    exact ⟨⟨_, e1, t1, rfl⟩, ⟨_, e2, t2, rfl⟩, ⟨_, e3, t3, rfl⟩, ⟨_, e4, t4, rfl⟩, ⟨_, e5, t5, rfl⟩, He.glo_ok X G0 (c.fact 29 (f := .glo "Rota") rfl), He.glo_ok X G0 (c.fact 30 (f := .glo "World") rfl)⟩
  have clR := He.cls_ok (c.fact 52 (f := .cls "Rota") rfl)
  have clW := He.cls_ok (c.fact 53 (f := .cls "World") rfl)
  have NR : RotaN K (He.ga K "Rota") := ⟨He.noat_ok (c.fact 54 (f := .noat "Rota" "letters") rfl), He.noat_ok (c.fact 55 (f := .noat "Rota" "text") rfl)⟩
  have NW : WorldN K (He.ga K "World") := ⟨He.noat_ok (c.fact 56 (f := .noat "World" "kind") rfl), He.noat_ok (c.fact 57 (f := .noat "World" "late") rfl), He.noat_ok (c.fact 58 (f := .noat "World" "text") rfl)⟩
  have MR := He.mkr_ok (c.fact 59 (f := .mkr "Rota") rfl)
  have MW := He.mkr_ok (c.fact 60 (f := .mkr "World") rfl)
  have ME := He.meth_ok (c.fact 61 (f := .meth "Rota" "__eq__") rfl)
  have FR : Dl.IsF K (He.ga K "Rota") := ⟨clR, of_decide_eq_true (c.more 0 (p := p_class)), of_decide_eq_true (c.more 1 (p := p_cget)), of_decide_eq_true (c.more 2 (p := p_takes)), of_decide_eq_true (c.more 3 (p := p_mro))⟩
  obtain ⟨w1, w2⟩ := He5.wrapB_ok (c.more 4 (p := p_wrap))
  have SO : Dl.SMet K (He.ga K "World") "of" (He.ma K (He.ga K "World") "of") (He5.wf K (He.ga K "World") "staticmethod" "of") := ⟨c.more 5 (p := p_reads), of_decide_eq_true (c.more 6 (p := p_ga)), w1, w2, c.more 7 (p := p_keep)⟩
  obtain ⟨k1, k2⟩ := ba (c.more 8 (p := p_kinds))
  obtain ⟨l1, l2⟩ := ba (c.more 9 (p := p_lates))
  have J : Gt K mg (He.ga K "KINDS") (He.ga K "LATENESSES") := ⟨⟨_, PySem.W.mg_of X G0 (He.eqO_ok k1), rfl⟩, ⟨_, PySem.W.mg_of X G0 (He.eqO_ok l1), rfl⟩, strs_ok k2, strs_ok l2⟩
  have e := hfa.symm.trans g_law
  cases e
  refine ⟨fd_d_law, fun s v => FunD.bindsA (ps := ["script"]) (F_d_law : Dl.FnP K "law" "law" s_law _ _) (fun _ _ _ _ _ _ us hl => match us, hl with | [_], _ => rfl) s [v] rfl, fun base _ _ => ?_⟩
  have C_check_length := cal_check_length (P := P) (w := w) (base := base) F_d_check_length g_check_length T G
  have C_first_strange := cal_first_strange (P := P) (w := w) (base := base) F_d_first_strange g_first_strange T G
  have C_rota_fault := cal_rota_fault (P := P) (w := w) (base := base) F_d_rota_fault g_rota_fault T G C_first_strange
  have C_letters_of_text := cal_letters_of_text (P := P) (w := w) (base := base) F_d_letters_of_text g_letters_of_text T G
  have C_law_hands := cal_law_hands (P := P) (w := w) (base := base) F_d_law_hands g_law_hands T 
  have C_law_deeps := cal_law_deeps (P := P) (w := w) (base := base) F_d_law_deeps g_law_deeps T 
  have C_law_at := cal_law_at (P := P) (w := w) (base := base) F_d_law_at g_law_at T 
  have C_law_known := cal_law_known (P := P) (w := w) (base := base) F_d_law_known g_law_known T C_law_deeps
  have C_law_fork := cal_law_fork (P := P) (w := w) (base := base) F_d_law_fork g_law_fork T C_law_at
  have C_law_grown := cal_law_grown (P := P) (w := w) (base := base) F_d_law_grown g_law_grown T 
  have C_law_sorted := cal_law_sorted (P := P) (w := w) (base := base) F_d_law_sorted g_law_sorted T 
  have C_law_wins := cal_law_wins (P := P) (w := w) (base := base) F_d_law_wins g_law_wins T C_law_hands C_law_sorted C_law_grown
  have C_law_false := cal_law_false (P := P) (w := w) (base := base) F_d_law_false g_law_false T 
  have C_law_stands := cal_law_stands (P := P) (w := w) (base := base) F_d_law_stands g_law_stands T C_law_deeps C_law_known C_law_fork C_law_false C_law_at
  have C_law_serves := cal_law_serves (P := P) (w := w) (base := base) F_d_law_serves g_law_serves T C_law_stands C_law_wins
  have C_law_works := cal_law_works (P := P) (w := w) (base := base) F_d_law_works g_law_works T C_law_deeps C_law_known C_law_false C_law_at
  have C_law_more := cal_law_more (P := P) (w := w) (base := base) F_d_law_more g_law_more T C_law_at
  have C_law_branches := cal_law_branches (P := P) (w := w) (base := base) F_d_law_branches g_law_branches T C_law_hands C_law_works C_law_more
  have C_law_miss := cal_law_miss (P := P) (w := w) (base := base) F_d_law_miss g_law_miss T C_law_branches C_law_serves
  have C_law_open := cal_law_open (P := P) (w := w) (base := base) F_d_law_open g_law_open T C_law_serves
  have C_law_number := cal_law_number (P := P) (w := w) (base := base) F_d_law_number g_law_number T 
  have C_law_right := cal_law_right (P := P) (w := w) (base := base) F_d_law_right g_law_right T FR NR G C_law_miss C_law_number C_law_open C_law_hands
  have C_Rota := mc_Rota (P := P) (w := w) (base := base) MR F_d_Rota_init G T clR NR C_check_length C_rota_fault C_letters_of_text
  obtain ⟨OE, BE⟩ := fn_Rota_eq (P := P) (w := w) (base := base) F_d_Rota_eq G T FR NR
  have C_world_words := cal_world_words (P := P) (w := w) (base := base) F_d_world_words g_world_words G T J
  have C_World := mc_World (P := P) (w := w) (base := base) MW F_d_World_init G clW NW C_check_length C_world_words
  obtain ⟨OO, BO⟩ := fn_World_of (P := P) (w := w) (base := base) F_d_World_of G J C_World
  have C_miss_parts := cal_miss_parts (P := P) (w := w) (base := base) F_d_miss_parts g_miss_parts
  have C_find_miss := fn_find_miss (P := P) (w := w) (base := base) F_d_find_miss g_find_miss clW NW C_miss_parts C_Rota
  have C_like := cal_like2 (P := P) (w := w) (base := base) F_d_law_like g_law_like T
  obtain ⟨OB, BB⟩ := fn_bag (P := P) (w := w) (mg := mg) (base := base) F_d_law_bag T
  obtain ⟨OD, BD⟩ := fn_draw (P := P) (w := w) (mg := mg) (base := base) F_d_law_draw T
  have C_bag : Dl.Cal P w K mg base "_law_bag" 1 ["script"] (spBag K) := ⟨_, _, OB, g_law_bag, F_d_law_bag.kp, BB⟩
  have C_draw : Dl.Cal P w K mg base "_law_draw" 1 ["bag", "size"] (spDraw K) := ⟨_, _, OD, g_law_draw, F_d_law_draw.kp, BD⟩
  obtain ⟨fM, fdM, OM, gM, kM, bM⟩ := C_find_miss.ex
  have eM := gM.symm.trans g_find_miss
  cases eM
  exact fn_law (P := P) (w := w) (base := base) F_d_law G T FR NR C_bag C_draw C_like C_law_right C_find_miss F_d_find_miss g_find_miss (fn_find_missO F_d_find_miss g_find_miss clW NW C_miss_parts C_Rota) C_World SO OO BO OE BE ME
end K58
end

section
set_option maxHeartbeats 0
namespace K58
open PySem PySem.Spec PyProof.Rows L2
theorem run_f (w : World) : HandSHeadRun.RunEq R (PySem.W.view R.prog [56]) hk ob 6000 loose (w.withFollow "special-get-raises" false) := by
  intro os
  kernel_rfl
theorem run_t (w : World) : HandSHeadRun.RunEq R (PySem.W.view R.prog [56]) hk ob 6000 loose (w.withFollow "special-get-raises" true) := by
  intro os
  kernel_rfl
theorem run (w : World) : HandSHeadRun.RunEq R (PySem.W.view R.prog [56]) hk ob 6000 loose w := PySem.W.byRow2 "special-get-raises" (P := fun w => HandSHeadRun.RunEq R (PySem.W.view R.prog [56]) hk ob 6000 loose w) run_f run_t w
end K58
end

section
set_option maxHeartbeats 0
open PySem PySem.W PySem.Calls PyProof.Rows
theorem PySem.Challenge.cw_buriedsure_k58_whole_misses_judged_holds : PySem.Challenge.rw_buriedsure_k58_whole_misses_judged.Holds := by
  w_on; o_law
  refine HandSHeadRun.head_any (r := OpenLaw.row PySem.Challenge.rw_buriedsure_k58_whole_misses_judged) (q := view (OpenLaw.row PySem.Challenge.rw_buriedsure_k58_whole_misses_judged).prog [56]) (H := K58.hk) (ob := K58.ob) (M := 6000) (loose := K58.loose) (d := HandSHeadRun.topDef (OpenLaw.row PySem.Challenge.rw_buriedsure_k58_whole_misses_judged).prog 56) (kwd := []) K58.ob_eq
    (by kernel_rfl) (fun s => by kernel_rfl) K58.run (by kernel_rfl) (by kernel_rfl) (by kernel_rfl) (by rfl) (by first | assumption | decide +kernel) (by decide +kernel) ⟨rfl, rfl, rfl, rfl, rfl, by decide +kernel⟩ ?hw ?hc
  case hw => w_witness2
  case hc =>
    refine L2.walk_ofE (l := PySem.Challenge.rw_buriedsure_k58_whole_misses_judged) (n := 63) (k := 7) (x := "script") (CX := L2.CX0) rfl (by decide) (by kernel_rfl) ⟨rfl, by decide, by decide⟩ ?F (fun _ _ _ _ z => z)
    intro w mg fa h Y G hmg0
    obtain ⟨K, KX, c⟩ := Y
    have hmg : mg ("law" : PySem.Str) = some (.ref fa) := by
      have e : (HandSHeadRun.topDef (OpenLaw.row PySem.Challenge.rw_buriedsure_k58_whole_misses_judged).prog 56).name = ("law" : PySem.Str) := by kernel_rfl
      rw [← e]
      exact hmg0
    obtain ⟨fd, hb, hF⟩ := K58.facts (P := (PySem.Challenge.rw_buriedsure_k58_whole_misses_judged).prog) (w := w) KX G hmg c
    exact ⟨K, fd, K58.spLaw K, KX, hb, fun H a ns hl _ hS => ⟨a, ns, rfl, hS, fun _ => rfl⟩, hF⟩
end
