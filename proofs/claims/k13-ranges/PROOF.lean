import PyProof.Rows.All
import HandS.ForMost
import HandS.ForExc
import HandS.HeadHook2
import HandS.Style
import HandS.CallSlots
import HandS.Defaults
import HandS.IsInst
import HandS.SortInts
import HandS.SortRule
import HandS.More
import HandS.ClsMeth
import HandS.CallRecv
import HandS.Head0
import HandS.Head1
import HandS.Head2
import HandS.HeadEnd
import HandS.HeadHook1
import PySem.Challenge.RW_roadstairs_k13_ranges_carried_and_cut
set_option Elab.async false
set_option linter.all false
set_option maxRecDepth 100000
/-! DnBase: plain data, cells, how they stand in the abstract heap, how the heap goes on. -/
namespace Dn
open PySem L2

/-- plain data: what no longer changes; ref n: the n-th cell -/
inductive D where
  | non | bl (b : Bool) | int (i : Int) | str (x : Str)
  | tup (xs : List D) | lst (xs : List D) | dct (kvs : List (Key × D)) | obj (c : Str) (fs : List (Str × D))
  | ref (n : Nat) | scr (xs : List Int)
/-- what may change -/
inductive Cell where
  | lst (xs : List D) | dct (kvs : List (Key × D)) | ins (c : Str) (fs : List (Str × D)) | dead
abbrev Om := List Cell
abbrev Gm := List (Option D)
/-- an error: its class, its attributes -/
structure Xn where
  cls : Str
  fs : List (Str × D)
inductive Rs (α : Type) where
  | ok (a : α) | ex (e : Xn)

/-- where the cells stand; hid: lists under construction, which no data name -/
structure Mp where
  l : List Addr
  hid : Addr → Prop
/-- what may still change -/
def Live (m : Mp) (Ω : Om) (a : Addr) : Prop := (∃ (n : Nat) (c : Cell), m.l[n]? = some a ∧ Ω[n]? = some c ∧ c ≠ Cell.dead) ∨ m.hid a
/-- the script -/
def ScrL (K : PySem.W.Frag) (H : Hp) (a : Addr) (vs : List V) : Prop := (∃ o, H a = some (.frz o (.lst vs))) ∨
    ∃ (o : Obj) (its : Array Value) (n : Nat), K.lookup a = some o ∧ o.cls = .type "list" ∧ o.dict = none ∧ o.data = .seq its n ∧ its.size ≤ sizeLine ∧ Vals vs its.toList
theorem ScrL.sq {K : PySem.W.Frag} {H : Hp} {a : Addr} {vs : List V} (h : ScrL K H a vs) : SqL K H a vs := h.elim (fun ⟨o, h⟩ => .inl (.inr ⟨o, h⟩)) .inr

/-- a tuple: tracked, or a written one of at most one item -/
def TpA (K : PySem.W.Frag) (H : Hp) (a : Addr) (vs : List V) : Prop := H a = some (.tup vs) ∨ (vs.length ≤ 1 ∧
    ∃ (o : Obj) (its : Array Value) (n : Nat), K.lookup a = some o ∧ o.cls = .type "tuple" ∧ o.data = .seq its n ∧ its.size ≤ sizeLine ∧ Vals vs its.toList)
theorem TpA.sq {K : PySem.W.Frag} {H : Hp} {a : Addr} {vs : List V} (h : TpA K H a vs) : SqT K H a vs := h.elim (fun h => .inl (.inl h)) fun h => .inr h.2
section
variable (K : PySem.W.Frag) (m : Mp) (Ω : Om) (H : Hp)
mutual
def Rl : D → V → Prop
  | .non, v => v = .non
  | .bl b, v => v = .bl b
  | .int i, v => v = .int i
  | .str x, v => v = .str x
  | .tup xs, v => ∃ a vs, v = .ref a ∧ TpA K H a vs ∧ RlL xs vs
  | .lst xs, v => ∃ a vs, v = .ref a ∧ H a = some (.lst vs) ∧ ¬ Live m Ω a ∧ RlL xs vs
  | .dct kvs, v => ∃ a ws, v = .ref a ∧ Rd H a (.dK ws) ∧ ¬ Live m Ω a ∧ RlK kvs ws
  | .obj c fs, v => ∃ a dx gs, v = .ref a ∧ H a = some (.ins (He.ga K c) dx gs) ∧ ¬ Live m Ω a ∧ RlF fs gs
  | .ref n, v => ∃ a, v = .ref a ∧ m.l[n]? = some a
  | .scr xs, v => ∃ a, v = .ref a ∧ ScrL K H a (xs.map V.int)
def RlL : List D → List V → Prop
  | [], vs => vs = []
  | d :: ds, vs => ∃ v r, vs = v :: r ∧ Rl d v ∧ RlL ds r
def RlK : List (Key × D) → List (Key × V) → Prop
  | [], vs => vs = []
  | (k, d) :: ds, vs => ∃ v r, vs = (k, v) :: r ∧ Rl d v ∧ RlK ds r
def RlF : List (Str × D) → List (Str × V) → Prop
  | [], vs => vs = []
  | (k, d) :: ds, vs => ∃ v r, vs = (k, v) :: r ∧ Rl d v ∧ RlF ds r
end
def CellOk : Cell → Addr → Prop
  | .lst xs, a => ∃ vs, H a = some (.lst vs) ∧ RlL K m Ω H xs vs
  | .dct kvs, a => ∃ ws, H a = some (.dK ws) ∧ RlK K m Ω H kvs ws
  | .ins c fs, a => ∃ dx gs, H a = some (.ins (He.ga K c) dx gs) ∧ RlF K m Ω H fs gs
  | .dead, a => ∃ o, H a = some o
structure CellsOk : Prop where
  len : m.l.length = Ω.length
  nd : m.l.Nodup
  at_ : ∀ (n : Nat) c a, Ω[n]? = some c → m.l[n]? = some a → CellOk K m Ω H c a
  hl : ∀ a, m.hid a → (∃ vs, H a = some (.lst vs)) ∧ a ∉ m.l
end

/-- the heap has gone on, by the cells alone -/
structure Gw (K : PySem.W.Frag) (m : Mp) (Ω : Om) (H : Hp) (m' : Mp) (Ω' : Om) (H' : Hp) : Prop where
  pre : ∀ (n : Nat) a, m.l[n]? = some a → m'.l[n]? = some a
  frame : ∀ a o, H a = some o → ¬ Live m Ω a → H' a = some o
  norev : ∀ a o, H a = some o → Live m' Ω' a → Live m Ω a
structure Go (K : PySem.W.Frag) (m : Mp) (Ω : Om) (H : Hp) (m' : Mp) (Ω' : Om) (H' : Hp) : Prop extends Gw K m Ω H m' Ω' H' where
  ok : CellsOk K m' Ω' H'
  hk : ∀ a o, m.hid a → H a = some o → H' a = some o
  hs : ∀ a, m.hid a → m'.hid a

section
variable {K : PySem.W.Frag} {m m1 m' : Mp} {Ω Ω1 Ω' : Om} {H H1 H' : Hp}
theorem Go.refl (c : CellsOk K m Ω H) : Go K m Ω H m Ω H := ⟨⟨fun _ _ h => h, fun _ _ h _ => h, fun _ _ _ h => h⟩, c, fun _ _ _ h => h, fun _ h => h⟩
theorem Go.trans (x : Go K m Ω H m1 Ω1 H1) (y : Go K m1 Ω1 H1 m' Ω' H') : Go K m Ω H m' Ω' H' where
  pre := fun n a h => y.pre n a (x.pre n a h)
  frame := fun a o h l => y.frame a o (x.frame a o h l) fun z => l (x.norev a o h z)
  norev := fun a o h l => Classical.byContradiction fun z => z (x.norev a o h (y.norev a o (x.frame a o h z) l))
  ok := y.ok
  hk := fun a o h e => y.hk a o (x.hs a h) (x.hk a o h e)
  hs := fun a h => y.hs a (x.hs a h)
theorem Gw.trans (x : Gw K m Ω H m1 Ω1 H1) (y : Gw K m1 Ω1 H1 m' Ω' H') : Gw K m Ω H m' Ω' H' where
  pre := fun n a h => y.pre n a (x.pre n a h)
  frame := fun a o h l => y.frame a o (x.frame a o h l) fun z => l (x.norev a o h z)
  norev := fun a o h l => Classical.byContradiction fun z => z (x.norev a o h (y.norev a o (x.frame a o h z) l))
theorem CellsOk.live (c : CellsOk K m Ω H) {a : Addr} (l : Live m Ω a) : (∃ vs, H a = some (.lst vs)) ∨ (∃ ws, H a = some (.dK ws)) ∨ ∃ C dx gs, H a = some (.ins C dx gs) := by
  rcases l with ⟨n, x, h1, h2, h3⟩ | l
  · have q := c.at_ n x a h2 h1
    cases x with
    | lst xs => obtain ⟨vs, h, _⟩ := q; exact .inl ⟨vs, h⟩
    | dct xs => obtain ⟨vs, h, _⟩ := q; exact .inr (.inl ⟨vs, h⟩)
    | ins c fs => obtain ⟨dx, gs, h, _⟩ := q; exact .inr (.inr ⟨_, dx, gs, h⟩)
    | dead => exact (h3 rfl).elim
  · exact .inl (c.hl a l).1
theorem CellsOk.some (c : CellsOk K m Ω H) {n : Nat} {a : Addr} (h : m.l[n]? = some a) : ∃ o, H a = Option.some o := by
  have hn : n < Ω.length := by rw [← c.len]; exact (List.getElem?_eq_some_iff.mp h).1
  have q := c.at_ n _ a (List.getElem?_eq_getElem hn) h
  cases e : Ω[n] with
  | lst xs => rw [e] at q; obtain ⟨vs, h, _⟩ := q; exact ⟨_, h⟩
  | dct xs => rw [e] at q; obtain ⟨vs, h, _⟩ := q; exact ⟨_, h⟩
  | ins c fs => rw [e] at q; obtain ⟨dx, gs, h, _⟩ := q; exact ⟨_, h⟩
  | dead => rw [e] at q; exact q
theorem CellsOk.tup (c : CellsOk K m Ω H) {a : Addr} {vs : List V} (h : H a = Option.some (.tup vs)) : ¬ Live m Ω a := fun l => by
  rcases c.live l with ⟨x, q⟩ | ⟨x, q⟩ | ⟨x, y, z, q⟩ <;> (rw [h] at q; cases q)
theorem CellsOk.frz (c : CellsOk K m Ω H) {a : Addr} {o : Obj} {u : HO} (h : H a = Option.some (.frz o u)) : ¬ Live m Ω a := fun l => by
  rcases c.live l with ⟨x, q⟩ | ⟨x, q⟩ | ⟨x, y, z, q⟩ <;> (rw [h] at q; cases q)
theorem Gw.sqT (g : Gw K m Ω H m' Ω' H') (c : CellsOk K m Ω H) {a : Addr} {vs : List V} (h : SqT K H a vs) : SqT K H' a vs := by
  rcases h with (h | ⟨o, h⟩) | h
  · exact .inl (.inl (g.frame _ _ h (c.tup h)))
  · exact .inl (.inr ⟨o, g.frame _ _ h (c.frz h)⟩)
  · exact .inr h
theorem Gw.tpA (g : Gw K m Ω H m' Ω' H') (c : CellsOk K m Ω H) {a : Addr} {vs : List V} (h : TpA K H a vs) : TpA K H' a vs := h.imp (fun h => g.frame _ _ h (c.tup h)) fun h => h
theorem Gw.scr (g : Gw K m Ω H m' Ω' H') (c : CellsOk K m Ω H) {a : Addr} {vs : List V} (h : ScrL K H a vs) : ScrL K H' a vs := by
  rcases h with ⟨o, h⟩ | h
  · exact .inl ⟨o, g.frame _ _ h (c.frz h)⟩
  · exact .inr h
mutual
theorem Rl.go (g : Gw K m Ω H m' Ω' H') (c : CellsOk K m Ω H) : ∀ (d : D) (v : V), Rl K m Ω H d v → Rl K m' Ω' H' d v
  | .non, v, h => h
  | .bl _, v, h => h
  | .int _, v, h => h
  | .str _, v, h => h
  | .tup xs, v, h => by
    unfold Rl at h ⊢
    obtain ⟨a, vs, e, h1, h2⟩ := h
    exact ⟨a, vs, e, g.tpA c h1, RlL.go g c xs vs h2⟩
  | .lst xs, v, h => by
    unfold Rl at h ⊢
    obtain ⟨a, vs, e, h1, l, h2⟩ := h
    exact ⟨a, vs, e, g.frame _ _ h1 l, fun z => l (g.norev _ _ h1 z), RlL.go g c xs vs h2⟩
  | .dct xs, v, h => by
    unfold Rl at h ⊢
    obtain ⟨a, vs, e, h1, l, h2⟩ := h
    rcases h1 with h1 | ⟨o, h1⟩
    · exact ⟨a, vs, e, .inl (g.frame _ _ h1 l), fun z => l (g.norev _ _ h1 z), RlK.go g c xs vs h2⟩
    · exact ⟨a, vs, e, .inr ⟨o, g.frame _ _ h1 l⟩, fun z => l (g.norev _ _ h1 z), RlK.go g c xs vs h2⟩
  | .obj k fs, v, h => by
    unfold Rl at h ⊢
    obtain ⟨a, dx, gs, e, h1, l, h2⟩ := h
    exact ⟨a, dx, gs, e, g.frame _ _ h1 l, fun z => l (g.norev _ _ h1 z), RlF.go g c fs gs h2⟩
  | .ref n, v, h => by
    unfold Rl at h ⊢
    obtain ⟨a, e, h1⟩ := h
    exact ⟨a, e, g.pre n a h1⟩
  | .scr xs, v, h => by
    unfold Rl at h ⊢
    obtain ⟨a, e, h1⟩ := h
    exact ⟨a, e, g.scr c h1⟩
theorem RlL.go (g : Gw K m Ω H m' Ω' H') (c : CellsOk K m Ω H) : ∀ (ds : List D) (vs : List V), RlL K m Ω H ds vs → RlL K m' Ω' H' ds vs
  | [], vs, h => by unfold RlL at h ⊢; exact h
  | d :: ds, vs, h => by
    unfold RlL at h ⊢
    obtain ⟨v, r, e, h1, h2⟩ := h
    exact ⟨v, r, e, Rl.go g c d v h1, RlL.go g c ds r h2⟩
theorem RlK.go (g : Gw K m Ω H m' Ω' H') (c : CellsOk K m Ω H) : ∀ (ds : List (Key × D)) (vs : List (Key × V)), RlK K m Ω H ds vs → RlK K m' Ω' H' ds vs
  | [], vs, h => by unfold RlK at h ⊢; exact h
  | (k, d) :: ds, vs, h => by
    unfold RlK at h ⊢
    obtain ⟨v, r, e, h1, h2⟩ := h
    exact ⟨v, r, e, Rl.go g c d v h1, RlK.go g c ds r h2⟩
theorem RlF.go (g : Gw K m Ω H m' Ω' H') (c : CellsOk K m Ω H) : ∀ (ds : List (Str × D)) (vs : List (Str × V)), RlF K m Ω H ds vs → RlF K m' Ω' H' ds vs
  | [], vs, h => by unfold RlF at h ⊢; exact h
  | (k, d) :: ds, vs, h => by
    unfold RlF at h ⊢
    obtain ⟨v, r, e, h1, h2⟩ := h
    exact ⟨v, r, e, Rl.go g c d v h1, RlF.go g c ds r h2⟩
end
/-- an object that the cells do not know is new -/
theorem CellsOk.fresh (c : CellsOk K m Ω H) {p : Addr} (h : H p = none) : p ∉ m.l := fun z => by
  obtain ⟨n, hn, e⟩ := List.mem_iff_getElem.mp z
  obtain ⟨o, q⟩ := c.some (n := n) (a := p) (by rw [List.getElem?_eq_getElem hn, e])
  rw [h] at q; cases q
theorem CellsOk.freshH (c : CellsOk K m Ω H) {p : Addr} (h : H p = none) : ¬ m.hid p := fun z => by
  obtain ⟨⟨vs, q⟩, _⟩ := c.hl p z
  rw [h] at q; cases q
theorem CellsOk.freshL (c : CellsOk K m Ω H) {p : Addr} (h : H p = none) : ¬ Live m Ω p := fun l => by
  rcases l with ⟨n, x, h1, _⟩ | l
  · exact c.fresh h (List.mem_of_getElem? h1)
  · exact c.freshH h l
theorem CellOk.go (g : Gw K m Ω H m' Ω' H') (c : CellsOk K m Ω H) {a : Addr} : ∀ x : Cell, CellOk K m Ω H x a → (∀ o, H a = some o → H' a = some o) → CellOk K m' Ω' H' x a
  | .lst xs, ⟨vs, h, r⟩, f => ⟨vs, f _ h, RlL.go g c xs vs r⟩
  | .dct xs, ⟨vs, h, r⟩, f => ⟨vs, f _ h, RlK.go g c xs vs r⟩
  | .ins _ xs, ⟨dx, vs, h, r⟩, f => ⟨dx, vs, f _ h, RlF.go g c xs vs r⟩
  | .dead, ⟨o, h⟩, f => ⟨o, f _ h⟩
theorem CellsOk.nodup_ix (c : CellsOk K m Ω H) {i j : Nat} {a : Addr} (h1 : m.l[i]? = Option.some a) (h2 : m.l[j]? = Option.some a) : i = j := by
  obtain ⟨l1, e1⟩ := List.getElem?_eq_some_iff.mp h1
  obtain ⟨l2, e2⟩ := List.getElem?_eq_some_iff.mp h2
  exact (List.getElem_inj c.nd).mp (e1.trans e2.symm)
/-- a new object beside the cells -/
theorem Go.new (c : CellsOk K m Ω H) {p : Addr} {o : HO} (h : H p = none) : Go K m Ω H m Ω (upd H p o) := by
  have k : ∀ a u, H a = some u → upd H p o a = some u := fun a u q => by rw [upd_ne (ne_of_none q h)]; exact q
  have g : Gw K m Ω H m Ω (upd H p o) := ⟨fun _ _ h => h, fun a u q _ => k a u q, fun _ _ _ l => l⟩
  exact ⟨g, ⟨c.len, c.nd, fun n x a h1 h2 => (c.at_ n x a h1 h2).go g c x fun u q => k a u q, fun a ha => let ⟨⟨vs, q⟩, z⟩ := c.hl a ha; ⟨⟨vs, k a _ q⟩, z⟩⟩, fun a u _ q => k a u q, fun _ z => z⟩
/-- one cell more -/
def Mp.add (m : Mp) (p : Addr) : Mp := ⟨m.l ++ [p], m.hid⟩
/-- a new cell -/
theorem Go.cell (c : CellsOk K m Ω H) {p : Addr} {o : HO} {x : Cell} (h : H p = none) (hx : ∀ g : Gw K m Ω H (m.add p) (Ω ++ [x]) (upd H p o), CellOk K (m.add p) (Ω ++ [x]) (upd H p o) x p) : Go K m Ω H (m.add p) (Ω ++ [x]) (upd H p o) := by
  have hp := c.fresh h
  have k : ∀ a u, H a = some u → upd H p o a = some u := fun a u q => by rw [upd_ne (ne_of_none q h)]; exact q
  have g : Gw K m Ω H (m.add p) (Ω ++ [x]) (upd H p o) := ⟨fun n a h => by show (m.l ++ [p])[n]? = some a; rw [List.getElem?_append_left (List.getElem?_eq_some_iff.mp h).1]; exact h, fun a u q _ => k a u q, fun a u q l => by
    rcases l with ⟨n, y, h1, h2, h3⟩ | l
    · have h1 : (m.l ++ [p])[n]? = some a := h1
      by_cases hn : n < m.l.length
      · rw [List.getElem?_append_left hn] at h1
        rw [List.getElem?_append_left (by rw [← c.len]; exact hn)] at h2
        exact .inl ⟨n, y, h1, h2, h3⟩
      · rw [List.getElem?_append_right (Nat.le_of_not_lt hn)] at h1
        have e : a = p := by
          cases hk : n - m.l.length with
          | zero => rw [hk] at h1; exact (Option.some.inj h1).symm
          | succ k => rw [hk] at h1; simp at h1
        rw [e, h] at q
        cases q
    · exact .inr l⟩
  refine ⟨g, ⟨by show (m.l ++ [p]).length = _; rw [List.length_append, List.length_append, c.len]; rfl, ?_, fun n y a h1 h2 => ?_, fun a ha => ?_⟩, fun a u _ q => k a u q, fun _ z => z⟩
  · show (m.l ++ [p]).Nodup
    rw [List.nodup_append]
    exact ⟨c.nd, by simp, fun a ha b hb => by
      have e : b = p := by simpa using hb
      rw [e]
      intro z
      exact hp (z ▸ ha)⟩
  · have h2 : (m.l ++ [p])[n]? = some a := h2
    by_cases hn : n < m.l.length
    · rw [List.getElem?_append_left hn] at h2
      rw [List.getElem?_append_left (by rw [← c.len]; exact hn)] at h1
      exact (c.at_ n y a h1 h2).go g c y fun u q => k a u q
    · rw [List.getElem?_append_right (Nat.le_of_not_lt hn)] at h2
      rw [List.getElem?_append_right (by rw [← c.len]; exact Nat.le_of_not_lt hn)] at h1
      cases hk : n - m.l.length with
      | zero =>
        rw [hk] at h2
        have hk2 : n - Ω.length = 0 := by rw [← c.len]; exact hk
        rw [hk2] at h1
        cases (Option.some.inj h1)
        cases (Option.some.inj h2)
        exact hx g
      | succ k => rw [hk] at h2; simp at h2
  · obtain ⟨⟨vs, q⟩, z⟩ := c.hl a ha
    refine ⟨⟨vs, k a _ q⟩, fun hm => ?_⟩
    rcases List.mem_append.mp hm with hm | hm
    · exact z hm
    · have e : a = p := by simpa using hm
      rw [e, h] at q
      cases q
/-- a live cell is changed -/
theorem Go.set (c : CellsOk K m Ω H) {n : Nat} {a : Addr} {o : HO} {x y : Cell} (hm : m.l[n]? = some a) (hx : Ω[n]? = some x) (hl : x ≠ .dead)
    (hy : ∀ g : Gw K m Ω H m (Ω.set n y) (upd H a o), CellOk K m (Ω.set n y) (upd H a o) y a) : Go K m Ω H m (Ω.set n y) (upd H a o) := by
  have la : Live m Ω a := .inl ⟨n, x, hm, hx, hl⟩
  have g : Gw K m Ω H m (Ω.set n y) (upd H a o) := ⟨fun _ _ h => h, fun b u q l => by rw [upd_ne (fun e => l (by rw [e]; exact la))]; exact q, fun b u q l => by
    rcases l with ⟨k, z, h1, h2, h3⟩ | l
    · by_cases hk : k = n
      · subst hk
        rw [hm] at h1
        cases h1
        exact la
      · rw [List.getElem?_set_ne (Ne.symm hk)] at h2
        exact .inl ⟨k, z, h1, h2, h3⟩
    · exact .inr l⟩
  have hh : ∀ b, m.hid b → b ≠ a := fun b hb e => (c.hl b hb).2 (e ▸ List.mem_of_getElem? hm)
  refine ⟨g, ⟨by rw [List.length_set]; exact c.len, c.nd, fun k z b h1 h2 => ?_, fun b hb => ?_⟩, fun b u hb q => by rw [upd_ne (hh b hb)]; exact q, fun _ z => z⟩
  · by_cases hk : k = n
    · subst hk
      rw [hm] at h2
      cases h2
      rw [List.getElem?_set_self (List.getElem?_eq_some_iff.mp hx).1] at h1
      cases h1
      exact hy g
    · rw [List.getElem?_set_ne (Ne.symm hk)] at h1
      have hb : b ≠ a := fun e => hk (c.nodup_ix h2 (e ▸ hm))
      exact (c.at_ k z b h1 h2).go g c z fun u q => by rw [upd_ne hb]; exact q
  · obtain ⟨⟨vs, q⟩, z⟩ := c.hl b hb
    exact ⟨⟨vs, by rw [upd_ne (hh b hb)]; exact q⟩, z⟩
/-- a list is laid aside, to be filled -/
def Mp.hide (m : Mp) (p : Addr) : Mp := ⟨m.l, fun a => m.hid a ∨ a = p⟩
def Mp.shown (m : Mp) (h : Addr → Prop) : Mp := ⟨m.l, h⟩
theorem Gw.hide (c : CellsOk K m Ω H) {p : Addr} {o : HO} (h : H p = none) : Gw K m Ω H (m.hide p) Ω (upd H p o) :=
  ⟨fun _ _ h => h, fun a u q _ => by rw [upd_ne (ne_of_none q h)]; exact q, fun a u q l => by
    rcases l with l | l | l
    · exact .inl l
    · exact .inr l
    · rw [l, h] at q; cases q⟩
theorem CellsOk.hide (c : CellsOk K m Ω H) {p : Addr} {vs : List V} (h : H p = none) : CellsOk K (m.hide p) Ω (upd H p (.lst vs)) :=
  ⟨c.len, c.nd, fun n x a h1 h2 => (c.at_ n x a h1 h2).go (Gw.hide c h) c x fun u q => by rw [upd_ne (ne_of_none q h)]; exact q, fun a ha => by
    rcases ha with ha | ha
    · obtain ⟨⟨ws, q⟩, z⟩ := c.hl a ha
      exact ⟨⟨ws, by rw [upd_ne (ne_of_none q h)]; exact q⟩, z⟩
    · subst ha
      exact ⟨⟨vs, upd_same⟩, c.fresh h⟩⟩
/-- it is filled -/
theorem Gw.fill (c : CellsOk K m Ω H) {p : Addr} {o : HO} (hp : m.hid p) : Gw K m Ω H m Ω (upd H p o) :=
  ⟨fun _ _ h => h, fun a u q l => by rw [upd_ne (fun e => l (by rw [e]; exact .inr hp))]; exact q, fun _ _ _ l => l⟩
theorem CellsOk.fill (c : CellsOk K m Ω H) {p : Addr} {vs : List V} (hp : m.hid p) : CellsOk K m Ω (upd H p (.lst vs)) :=
  ⟨c.len, c.nd, fun n x a h1 h2 => (c.at_ n x a h1 h2).go (Gw.fill c hp) c x fun u q => by rw [upd_ne (show a ≠ p from fun e => (c.hl p hp).2 (by rw [← e]; exact List.mem_of_getElem? h2))]; exact q, fun a ha => by
    obtain ⟨⟨ws, q⟩, z⟩ := c.hl a ha
    refine ⟨?_, z⟩
    by_cases e : a = p
    · subst e; exact ⟨vs, upd_same⟩
    · exact ⟨ws, by rw [upd_ne e]; exact q⟩⟩
/-- it is shown -/
theorem Gw.shown {h : Addr → Prop} (hh : ∀ a, h a → m.hid a) : Gw K m Ω H (m.shown h) Ω H :=
  ⟨fun _ _ h => h, fun _ _ q _ => q, fun a u q l => l.imp (fun z => z) (hh a)⟩
theorem Gw.toShown {m0 : Mp} {Ω0 : Om} {H0 : Hp} (g : Gw K m0 Ω0 H0 m Ω H) (hh : ∀ a, m0.hid a → m.hid a) : Gw K m0 Ω0 H0 (m.shown m0.hid) Ω H := g.trans (Gw.shown hh)
theorem CellsOk.shown (c : CellsOk K m Ω H) {h : Addr → Prop} (hh : ∀ a, h a → m.hid a) : CellsOk K (m.shown h) Ω H :=
  ⟨c.len, c.nd, fun n x a h1 h2 => (c.at_ n x a h1 h2).go (Gw.shown hh) c x fun u q => q, fun a ha => c.hl a (hh a ha)⟩
end

/-! ### what names no cell from k on -/
mutual
def below (k : Nat) : D → Bool
  | .tup xs => belowL k xs
  | .lst xs => belowL k xs
  | .dct kvs => belowK k kvs
  | .obj _ fs => belowF k fs
  | .ref n => decide (n < k)
  | _ => true
def belowL (k : Nat) : List D → Bool
  | [] => true
  | d :: ds => below k d && belowL k ds
def belowK (k : Nat) : List (Key × D) → Bool
  | [] => true
  | (_, d) :: ds => below k d && belowK k ds
def belowF (k : Nat) : List (Str × D) → Bool
  | [] => true
  | (_, d) :: ds => below k d && belowF k ds
end
def cellBelow (k : Nat) : Cell → Bool
  | .lst xs => belowL k xs
  | .dct kvs => belowK k kvs
  | .ins _ fs => belowF k fs
  | .dead => true
def cellsBelow (k : Nat) (Ω : Om) : Bool := (Ω.take k).all (cellBelow k)

def Mp.take (k : Nat) (m : Mp) : Mp := ⟨m.l.take k, m.hid⟩
section
variable {K : PySem.W.Frag} {m : Mp} {Ω : Om} {H : Hp} {k : Nat}
theorem live_take {a : Addr} (l : Live (Mp.take k m) (Ω.take k) a) : Live m Ω a := by
  rcases l with ⟨n, x, h1, h2, h3⟩ | l
  · have h1 : (m.l.take k)[n]? = some a := h1
    rw [List.getElem?_take] at h1 h2
    by_cases hn : n < k
    · rw [if_pos hn] at h1 h2
      exact .inl ⟨n, x, h1, h2, h3⟩
    · rw [if_neg hn] at h1
      cases h1
  · exact .inr l
mutual
theorem Rl.take : ∀ (d : D) (v : V), below k d = true → Rl K m Ω H d v → Rl K (Mp.take k m) (Ω.take k) H d v
  | .non, v, _, h => h
  | .bl _, v, _, h => h
  | .int _, v, _, h => h
  | .str _, v, _, h => h
  | .tup xs, v, b, h => by
    unfold Rl at h ⊢
    unfold below at b
    obtain ⟨a, vs, e, h1, h2⟩ := h
    exact ⟨a, vs, e, h1, RlL.take xs vs b h2⟩
  | .lst xs, v, b, h => by
    unfold Rl at h ⊢
    unfold below at b
    obtain ⟨a, vs, e, h1, l, h2⟩ := h
    exact ⟨a, vs, e, h1, fun z => l (live_take z), RlL.take xs vs b h2⟩
  | .dct xs, v, b, h => by
    unfold Rl at h ⊢
    unfold below at b
    obtain ⟨a, vs, e, h1, l, h2⟩ := h
    exact ⟨a, vs, e, h1, fun z => l (live_take z), RlK.take xs vs b h2⟩
  | .obj _ fs, v, b, h => by
    unfold Rl at h ⊢
    unfold below at b
    obtain ⟨a, dx, gs, e, h1, l, h2⟩ := h
    exact ⟨a, dx, gs, e, h1, fun z => l (live_take z), RlF.take fs gs b h2⟩
  | .ref n, v, b, h => by
    unfold Rl at h ⊢
    unfold below at b
    obtain ⟨a, e, h1⟩ := h
    exact ⟨a, e, by show (m.l.take k)[n]? = some a; rw [List.getElem?_take, if_pos (of_decide_eq_true b)]; exact h1⟩
  | .scr xs, v, b, h => by
    unfold Rl at h ⊢
    exact h
theorem RlL.take : ∀ (ds : List D) (vs : List V), belowL k ds = true → RlL K m Ω H ds vs → RlL K (Mp.take k m) (Ω.take k) H ds vs
  | [], vs, _, h => by unfold RlL at h ⊢; exact h
  | d :: ds, vs, b, h => by
    unfold RlL at h ⊢
    unfold belowL at b
    obtain ⟨b1, b2⟩ := Bool.and_eq_true_iff.mp b
    obtain ⟨v, r, e, h1, h2⟩ := h
    exact ⟨v, r, e, Rl.take d v b1 h1, RlL.take ds r b2 h2⟩
theorem RlK.take : ∀ (ds : List (Key × D)) (vs : List (Key × V)), belowK k ds = true → RlK K m Ω H ds vs → RlK K (Mp.take k m) (Ω.take k) H ds vs
  | [], vs, _, h => by unfold RlK at h ⊢; exact h
  | (_, d) :: ds, vs, b, h => by
    unfold RlK at h ⊢
    unfold belowK at b
    obtain ⟨b1, b2⟩ := Bool.and_eq_true_iff.mp b
    obtain ⟨v, r, e, h1, h2⟩ := h
    exact ⟨v, r, e, Rl.take d v b1 h1, RlK.take ds r b2 h2⟩
theorem RlF.take : ∀ (ds : List (Str × D)) (vs : List (Str × V)), belowF k ds = true → RlF K m Ω H ds vs → RlF K (Mp.take k m) (Ω.take k) H ds vs
  | [], vs, _, h => by unfold RlF at h ⊢; exact h
  | (_, d) :: ds, vs, b, h => by
    unfold RlF at h ⊢
    unfold belowF at b
    obtain ⟨b1, b2⟩ := Bool.and_eq_true_iff.mp b
    obtain ⟨v, r, e, h1, h2⟩ := h
    exact ⟨v, r, e, Rl.take d v b1 h1, RlF.take ds r b2 h2⟩
end
theorem CellOk.take {a : Addr} : ∀ x : Cell, cellBelow k x = true → CellOk K m Ω H x a → CellOk K (Mp.take k m) (Ω.take k) H x a
  | .lst xs, b, ⟨vs, h, r⟩ => ⟨vs, h, RlL.take xs vs b r⟩
  | .dct xs, b, ⟨vs, h, r⟩ => ⟨vs, h, RlK.take xs vs b r⟩
  | .ins _ xs, b, ⟨dx, vs, h, r⟩ => ⟨dx, vs, h, RlF.take xs vs b r⟩
  | .dead, _, h => h
theorem CellsOk.take (c : CellsOk K m Ω H) (b : cellsBelow k Ω = true) : CellsOk K (Mp.take k m) (Ω.take k) H := by
  refine ⟨by show (m.l.take k).length = _; rw [List.length_take, List.length_take, c.len], c.nd.sublist (List.take_sublist _ _), fun n x a h1 h2 => ?_, fun a ha => ⟨(c.hl a ha).1, fun z => (c.hl a ha).2 (List.mem_of_mem_take z)⟩⟩
  have hb : cellBelow k x = true := List.all_eq_true.mp b x (List.mem_of_getElem? h1)
  have h2 : (m.l.take k)[n]? = Option.some a := h2
  rw [List.getElem?_take] at h1 h2
  by_cases hn : n < k
  · rw [if_pos hn] at h1 h2
    exact (c.at_ n x a h1 h2).take x hb
  · rw [if_neg hn] at h1
    cases h1
/-- the cells from the old end on are left -/
theorem Go.take {m0 : Mp} {Ω0 : Om} {H0 : Hp} (g : Go K m0 Ω0 H0 m Ω H) (hk : m0.l.length ≤ k) (b : cellsBelow k Ω = true) : Go K m0 Ω0 H0 (Mp.take k m) (Ω.take k) H :=
  ⟨⟨fun n a h => by
    show (m.l.take k)[n]? = some a
    rw [List.getElem?_take, if_pos (Nat.lt_of_lt_of_le (List.getElem?_eq_some_iff.mp h).1 hk)]
    exact g.pre n a h, fun a o => g.frame a o, fun a o h l => g.toGw.norev a o h (live_take l)⟩, g.ok.take b, fun a o => g.hk a o, fun a => g.hs a⟩
end
end Dn


set_option Elab.async false
set_option linter.all false
set_option maxRecDepth 100000
/-! DnCore: denotations, and how a reading follows from one. -/
namespace Dn
open PySem L2

def Slots (K : PySem.W.Frag) (m : Mp) (Ω : Om) (H : Hp) (Γ : Gm) (σ : St) : Prop :=
  Γ.length = σ.length ∧ ∀ (i : Nat) (d : D), Γ[i]? = some (some d) → ∃ v, σ[i]? = some (some v) ∧ Rl K m Ω H d v
structure SR (K : PySem.W.Frag) (m : Mp) (Γ : Gm) (Ω : Om) (σ : St) (H : Hp) : Prop where
  cells : CellsOk K m Ω H
  slots : Slots K m Ω H Γ σ
/-- an error that is on its way -/
def XRel (K : PySem.W.Frag) (m : Mp) (Ω : Om) (H : Hp) (e : Xn) (cls : Value) (dd : Option Addr) : Prop :=
  cls = .ref (He.ga K e.cls) ∧ ((e.fs = [] ∧ dd = none) ∨ ∃ d gs, dd = some d ∧ H d = some (.xd gs) ∧ RlF K m Ω H e.fs gs)

section
variable {K : PySem.W.Frag} {m m' : Mp} {Ω Ω' : Om} {H H' : Hp} {Γ : Gm} {σ : St}
theorem SR.go (r : SR K m Γ Ω σ H) (g : Go K m Ω H m' Ω' H') : SR K m' Γ Ω' σ H' :=
  ⟨g.ok, r.slots.1, fun i d h => let ⟨v, h1, h2⟩ := r.slots.2 i d h; ⟨v, h1, Rl.go g.toGw r.cells d v h2⟩⟩
end

abbrev Den (α : Type) := Gm → Om → Option (Rs α × Om)
def bR {α β : Type} (r : Option (Rs α × Om)) (k : α → Om → Option (Rs β × Om)) : Option (Rs β × Om) := match r with
  | none => none
  | some (.ok a, Ω) => k a Ω
  | some (.ex e, Ω) => some (.ex e, Ω)
def bnd {α β : Type} (f : Den α) (k : α → Den β) : Den β := fun Γ Ω => bR (f Γ Ω) fun a Ω1 => k a Γ Ω1
@[simp] theorem bR_none {α β : Type} (k : α → Om → Option (Rs β × Om)) : bR none k = none := rfl
@[simp] theorem bR_ok {α β : Type} (a : α) (Ω : Om) (k : α → Om → Option (Rs β × Om)) : bR (some (.ok a, Ω)) k = k a Ω := rfl
@[simp] theorem bR_ex {α β : Type} (e : Xn) (Ω : Om) (k : α → Om → Option (Rs β × Om)) : bR (some (.ex e, Ω)) k = some (.ex e, Ω) := rfl

/-- what is wanted behind a denotation's end -/
def Af {α β : Type} (K : PySem.W.Frag) (R : Mp → Om → Hp → α → β → Prop) (E : XK) (Q : β → Hp → Prop) (m : Mp) (Ω : Om) (H : Hp) (r : Option (Rs α × Om)) : Prop := match r with
  | none => False
  | some (.ok a, Ω') => ∀ m' b H', Go K m Ω H m' Ω' H' → R m' Ω' H' a b → Q b H'
  | some (.ex e, Ω') => ∀ m' H' cls dd, Go K m Ω H m' Ω' H' → XRel K m' Ω' H' e cls dd → E cls dd H'
def tG {α β : Type} (K : PySem.W.Frag) (R : Mp → Om → Hp → α → β → Prop) (E : St → XK) (f : Den α) (σ : St) (H : Hp) (Q : β → Hp → Prop) : Prop :=
  ∃ m Γ Ω, SR K m Γ Ω σ H ∧ Af K R (E σ) Q m Ω H (f Γ Ω)
section
variable {K : PySem.W.Frag} {m m1 m' : Mp} {Ω Ω1 Ω' : Om} {H H1 H' : Hp} {Γ : Gm} {σ : St} {α β γ δ : Type} {R : Mp → Om → Hp → α → β → Prop} {R2 : Mp → Om → Hp → γ → δ → Prop} {E : XK} {Q Q' : β → Hp → Prop}
theorem Af.go (g : Go K m Ω H m1 Ω1 H1) : ∀ {r : Option (Rs α × Om)}, Af K R E Q m Ω H r → Af K R E Q m1 Ω1 H1 r
  | none, h => h
  | some (.ok a, Ω'), h => fun m' b H' g2 r => h m' b H' (g.trans g2) r
  | some (.ex e, Ω'), h => fun m' H' c d g2 r => h m' H' c d (g.trans g2) r
theorem Af.imp : ∀ {r : Option (Rs α × Om)}, Af K R E Q m Ω H r → (∀ m' Ω' H' a b, r = some (.ok a, Ω') → Go K m Ω H m' Ω' H' → R m' Ω' H' a b → Q b H' → Q' b H') → Af K R E Q' m Ω H r
  | none, h, _ => h
  | some (.ok a, Ω'), h, i => fun m' b H' g2 r => i m' Ω' H' a b rfl g2 r (h m' b H' g2 r)
  | some (.ex e, Ω'), h, _ => h
theorem Af.bind {Q2 : δ → Hp → Prop} {k : α → Om → Option (Rs γ × Om)} : ∀ {r : Option (Rs α × Om)}, Af K R2 E Q2 m Ω H (bR r k) →
    Af K R E (fun b H1 => ∃ m1 Ω1 a, Go K m Ω H m1 Ω1 H1 ∧ R m1 Ω1 H1 a b ∧ Af K R2 E Q2 m1 Ω1 H1 (k a Ω1)) m Ω H r
  | none, h => h
  | some (.ok a, Ω'), h => fun m' b H' g2 r => ⟨m', Ω', a, g2, r, Af.go g2 h⟩
  | some (.ex e, Ω'), h => h
theorem Af.guard {c : Prop} [Decidable c] {r : Option (Rs α × Om)} (h : Af K R E Q m Ω H (if c then r else none)) : c ∧ Af K R E Q m Ω H r := by
  by_cases hc : c
  · rw [if_pos hc] at h; exact ⟨hc, h⟩
  · rw [if_neg hc] at h; exact h.elim
end

/-! ### the judgements -/
abbrev tD (K : PySem.W.Frag) (E : St → XK) (f : Den D) : TE := fun σ H Q => tG K (Rl K) E f σ H Q
abbrev tDA (K : PySem.W.Frag) (E : St → XK) (f : Den (List D)) : TA := fun σ H Q => tG K (RlL K) E f σ H Q
abbrev tDT (K : PySem.W.Frag) (E : St → XK) (f : Den Bool) : TT := fun σ H Q => tG K (fun _ _ _ a b => a = b) E f σ H Q
abbrev DE (X : Cx) (E : St → XK) (e : Expr) (f : Den D) : Prop := PE X e (tD X.K E f)
abbrev DA (X : Cx) (E : St → XK) (es : List Expr) (f : Den (List D)) : Prop := PA X es (tDA X.K E f)
abbrev DT (X : Cx) (E : St → XK) (e : Expr) (f : Den Bool) : Prop := PT X e (tDT X.K E f)
theorem PE.mono {X : Cx} {e : Expr} {t t' : TE} (h : PE X e t) (i : ∀ σ H Q, t' σ H Q → t σ H Q) : PE X e t' := ⟨fun pins s σ H Q I q => h.run pins s σ H Q I (i σ H Q q)⟩
theorem PT.mono {X : Cx} {e : Expr} {t t' : TT} (h : PT X e t) (i : ∀ σ H Q, t' σ H Q → t σ H Q) : PT X e t' := ⟨fun pins s σ H Q I q => h.run pins s σ H Q I (i σ H Q q)⟩
theorem PA.mono {X : Cx} {e : List Expr} {t t' : TA} (h : PA X e t) (i : ∀ σ H Q, t' σ H Q → t σ H Q) : PA X e t' := ⟨fun pos pins s σ H Q I q => h.run pos pins s σ H Q I (i σ H Q q)⟩
theorem PS.mono {X : Cx} {e : Stmt} {t t' : TS} (h : PS X e t) (i : ∀ D σ H, t' D σ H → t D σ H) : PS X e t' := ⟨fun pins s σ H Q I q => h.run pins s σ H Q I (i Q σ H q)⟩
theorem PSs.mono {X : Cx} {e : List Stmt} {t t' : TS} (h : PSs X e t) (i : ∀ D σ H, t' D σ H → t D σ H) : PSs X e t' := ⟨fun pins s σ H Q I q => h.run pins s σ H Q I (i Q σ H q)⟩

/-! ### names, constants -/
def fVar (i : Nat) : Den D := fun Γ Ω => match Γ[i]? with
  | some (some d) => some (.ok d, Ω)
  | _ => none
def fC {α : Type} (d : α) : Den α := fun _ Ω => some (.ok d, Ω)
section
variable {X : Cx} {E : St → XK} {a b e : Expr} {f g : Den D} {pos : Pos}
theorem de_var (i : Nat) {x : Str} {pos : Pos} (hN : X.N[i]? = some x := by rfl) (hv : Vis X.env.scope x := by first | exact Or.inl rfl | exact Or.inr (Or.inl rfl) | exact Or.inr (Or.inr rfl)) (hd : (x == ("__debug__" : Str)) = false := by decide)
    (hcd : (x == ("__classdict__" : Str)) = false := by decide) : DE X E (.Name x pos) (fVar i) := PE.mono (pe_var hN hv hd hcd) fun σ H Q h => by
  obtain ⟨m, Γ, Ω, s, h⟩ := h
  unfold fVar at h
  cases e : Γ[i]? with
  | none => rw [e] at h; exact h.elim
  | some o =>
    rw [e] at h
    cases o with
    | none => exact h.elim
    | some d =>
      obtain ⟨v, h1, h2⟩ := s.slots.2 i d e
      exact ⟨v, h1, h m v H (Go.refl s.cells) h2⟩
theorem de_c {e : Expr} {v : V} {d : D} (h : PE X e (tC v)) (r : ∀ m Ω H, Rl X.K m Ω H d v) : DE X E e (fC d) := PE.mono h fun σ H Q q => by
  obtain ⟨m, Γ, Ω, s, q⟩ := q
  exact q m v H (Go.refl s.cells) (r m Ω H)
theorem de_int {i : Int} {k : Nat} : DE X E (.Constant (.int i) k pos) (fC (.int i)) := de_c pe_int fun _ _ _ => by unfold Rl; rfl
theorem de_str {x : Str} {k : Nat} : DE X E (.Constant (.str x) k pos) (fC (.str x)) := de_c pe_str fun _ _ _ => by unfold Rl; rfl
theorem de_bl {x : Bool} {k : Nat} : DE X E (.Constant (.bool x) k pos) (fC (.bl x)) := de_c pe_bl fun _ _ _ => by unfold Rl; rfl
theorem de_non {k : Nat} : DE X E (.Constant .none k pos) (fC .non) := de_c pe_non fun _ _ _ => by unfold Rl; rfl

/-! ### two operands -/
abbrev Op1 := D → Om → Option (Rs D × Om)
abbrev Op2 := D → D → Om → Option (Rs D × Om)
def fBin (op : Op2) (f g : Den D) : Den D := bnd f fun x => bnd g fun y _ Ω => op x y Ω
def fUn (op : Op1) (f : Den D) : Den D := bnd f fun x _ Ω => op x Ω
/-- the rule r serves the operation op on data -/
def OpD (K : PySem.W.Frag) (op : Op2) (r : R2) : Prop := ∀ (E : XK) (m : Mp) (Ω : Om) (H : Hp) (x y : D) (v u : V) (Q : VK), CellsOk K m Ω H → Rl K m Ω H x v → Rl K m Ω H y u → Af K (Rl K) E Q m Ω H (op x y Ω) →
  r v u H Q
def UnD (K : PySem.W.Frag) (op : Op1) (r : V → Hp → VK → Prop) : Prop := ∀ (E : XK) (m : Mp) (Ω : Om) (H : Hp) (x : D) (v : V) (Q : VK), CellsOk K m Ω H → Rl K m Ω H x v → Af K (Rl K) E Q m Ω H (op x Ω) → r v H Q
theorem op_of {op : Op2} {r : R2} (o : OpD X.K op r) {σ : St} {H : Hp} {Q : VK} (h : tD X.K E (fBin op f g) σ H Q) : tOp r (tD X.K E f) (tD X.K E g) σ H Q := by
  obtain ⟨m, Γ, Ω, s, h⟩ := h
  refine ⟨m, Γ, Ω, s, (Af.bind (R := Rl X.K) h).imp fun _ _ _ _ _ _ _ _ ⟨m1, Ω1, x, g1, r1, q⟩ => ⟨m1, Γ, Ω1, s.go g1, (Af.bind (R := Rl X.K) q).imp fun _ _ _ _ _ _ _ _ ⟨m2, Ω2, y, g2, r2, q2⟩ => ?_⟩⟩
  exact o (E σ) m2 Ω2 _ x y _ _ Q g2.ok (Rl.go g2.toGw g1.ok x _ r1) r2 q2
theorem un_of {op : Op1} {r : V → Hp → VK → Prop} (o : UnD X.K op r) {σ : St} {H : Hp} {Q : VK} (h : tD X.K E (fUn op f) σ H Q) : tUn r (tD X.K E f) σ H Q := by
  obtain ⟨m, Γ, Ω, s, h⟩ := h
  refine ⟨m, Γ, Ω, s, (Af.bind (R := Rl X.K) h).imp fun _ _ _ _ _ _ _ _ ⟨m1, Ω1, x, g1, r1, q⟩ => ?_⟩
  exact o (E σ) m1 Ω1 _ x _ Q g1.ok r1 q
theorem de_bin {op : Operator} {o : Op2} {r : R2} (hr : OpR X (binaryOp op) r) (hd : OpD X.K o r) (ha : DE X E a f) (hb : DE X E b g) : DE X E (.BinOp a op b pos) (fBin o f g) := PE.mono (pe_op hr ha hb) fun _ _ _ h => op_of hd h
theorem de_un {op : UnaryOp} {o : Op1} {r : V → Hp → VK → Prop} (hr : UnR X (unaryOp op) r) (hd : UnD X.K o r) (ha : DE X E a f) : DE X E (.UnaryOp op a pos) (fUn o f) := PE.mono (pe_un hr ha) fun _ _ _ h => un_of hd h
theorem de_cmp {op : CmpOp} {o : Op2} {r : R2} (hr : OpR X (compareOp op) r) (hd : OpD X.K o r) (ha : DE X E a f) (hb : DE X E b g) (hm : behindInMarks op b = false) : DE X E (.Compare a [op] [b] pos) (fBin o f g) := PE.mono (pe_cmpR hr ha hb hm) fun _ _ _ h => op_of hd h
theorem de_ix {o : Op2} {r : R2} (hr : IxR X r) (hd : OpD X.K o r) (ha : DE X E a f) (hb : DE X E b g) (hp : PlainIx b) : DE X E (.Subscript a b pos) (fBin o f g) := PE.mono (pe_ix hr ha hb hp) fun _ _ _ h => op_of hd h

/-- one of two rules, by the data -/
def r2or (r r' : R2) : R2 := fun x y H Q => r x y H Q ∨ r' x y H Q
theorem opR_or {f : Value → Value → Sem Value} {r r' : R2} (h : OpR X f r) (h' : OpR X f r') : OpR X f (r2or r r') := fun pins s σ H x y v u Q I rx ry q => q.elim (h pins s σ H x y v u Q I rx ry) (h' pins s σ H x y v u Q I rx ry)
end

/-! ### tests -/
def fT (f : Den D) : Den Bool := bnd f fun x _ Ω => match x with
  | .bl b => some (.ok b, Ω)
  | _ => none
def fAnd (f g : Den Bool) : Den Bool := bnd f fun x => if x = true then g else fC false
def fOr (f g : Den Bool) : Den Bool := bnd f fun x => if x = true then fC true else g
def fNot (f : Den Bool) : Den Bool := bnd f fun x => fC (!x)
def fBl (f : Den Bool) : Den D := bnd f fun x => fC (.bl x)
def fIf {α : Type} (c : Den Bool) (f g : Den α) : Den α := bnd c fun x => if x = true then f else g
def fAndV (f g : Den D) : Den D := bnd (fT f) fun x => if x = true then g else fC (.bl false)
def fOrV (f g : Den D) : Den D := bnd (fT f) fun x => if x = true then fC (.bl true) else g
section
variable {X : Cx} {E : St → XK} {a b c e : Expr} {f g : Den D} {p q : Den Bool} {pos : Pos} {rest : List Expr}
theorem tT_of {f : Den D} {σ : St} {H : Hp} {Q : Bool → Hp → Prop} {K : PySem.W.Frag} (h : tDT K E (fT f) σ H Q) : tD K E f σ H fun x H1 => ∃ c, x = .bl c ∧ Q c H1 := by
  obtain ⟨m, Γ, Ω, s, h⟩ := h
  refine ⟨m, Γ, Ω, s, (Af.bind (R := Rl K) h).imp fun _ _ _ _ _ _ _ _ ⟨m1, Ω1, x, g1, r1, q⟩ => ?_⟩
  cases x with
  | bl c =>
    unfold Rl at r1
    exact ⟨c, r1, q m1 c _ (Go.refl g1.ok) rfl⟩
  | _ => exact q.elim
/-- a test that is a value's truth: of True and False alone -/
theorem dt_val (h : DE X E e f) (he : ∀ (whole : Sem Value), PySem.isTrue e X.env whole = (do let v ← whole; standAt e.pos; holding [v] (truthy v)) := by intro _; rfl) : DT X E e (fT f) := PT.mono (pt_val h he) fun σ H Q h => tT_of h
theorem dt_cmp {op : CmpOp} {o : Op2} {r : R2} (hr : OpR X (compareOp op) r) (hd : OpD X.K o r) (ha : DE X E a f) (hb : DE X E b g) (hm : behindInMarks op b = false) : DT X E (.Compare a [op] [b] pos) (fT (fBin o f g)) := PT.mono (pt_cmpR hr ha hb hm) fun σ H Q h => by
  have h2 := tT_of h
  exact op_of hd h2
theorem dt_not (h : DT X E a p) : DT X E (.UnaryOp .Not a pos) (fNot p) := PT.mono (pt_not h) fun σ H Q h => by
  obtain ⟨m, Γ, Ω, s, h⟩ := h
  refine ⟨m, Γ, Ω, s, (Af.bind (R := fun _ _ _ a b => a = b) h).imp fun _ _ _ _ _ _ _ _ ⟨m1, Ω1, x, g1, r1, q⟩ => ?_⟩
  subst r1
  exact q m1 _ _ (Go.refl g1.ok) rfl
theorem tAnd_of {σ : St} {H : Hp} {Q : Bool → Hp → Prop} {K : PySem.W.Frag} (h : tDT K E (fAnd p q) σ H Q) : tAnd (tDT K E p) (tDT K E q) σ H Q := by
  obtain ⟨m, Γ, Ω, s, h⟩ := h
  refine ⟨m, Γ, Ω, s, (Af.bind (R := fun _ _ _ a b => a = b) h).imp fun _ _ _ _ _ _ _ _ ⟨m1, Ω1, x, g1, r1, q⟩ => ?_⟩
  subst r1
  cases x with
  | true => exact ⟨m1, Γ, Ω1, s.go g1, q⟩
  | false => exact q m1 _ _ (Go.refl g1.ok) rfl
theorem tOr_of {σ : St} {H : Hp} {Q : Bool → Hp → Prop} {K : PySem.W.Frag} (h : tDT K E (fOr p q) σ H Q) : tOr (tDT K E p) (tDT K E q) σ H Q := by
  obtain ⟨m, Γ, Ω, s, h⟩ := h
  refine ⟨m, Γ, Ω, s, (Af.bind (R := fun _ _ _ a b => a = b) h).imp fun _ _ _ _ _ _ _ _ ⟨m1, Ω1, x, g1, r1, q⟩ => ?_⟩
  subst r1
  cases x with
  | true => exact q m1 _ _ (Go.refl g1.ok) rfl
  | false => exact ⟨m1, Γ, Ω1, s.go g1, q⟩
/-- and, or: the last one first -/
abbrev DW (X : Cx) (E : St → XK) (e : Expr) (f : Den Bool) : Prop := PW X e (tDT X.K E f)
theorem PW.mono {X : Cx} {e : Expr} {t t' : TT} (h : PW X e t) (i : ∀ σ H Q, t' σ H Q → t σ H Q) : PW X e t' := ⟨fun wh pins s σ H Q I q => h.run wh pins s σ H Q I (i σ H Q q)⟩
theorem dw_and1 (h : DT X E a p) : DW X E (.BoolOp .And [a] pos) p := pw_and1 h
theorem dw_or1 (h : DT X E a p) : DW X E (.BoolOp .Or [a] pos) p := pw_or1 h
theorem dw_and (h1 : DT X E a p) (h2 : DW X E (.BoolOp .And (b :: rest) pos) q) : DW X E (.BoolOp .And (a :: b :: rest) pos) (fAnd p q) := PW.mono (pw_and h1 h2) fun _ _ _ h => tAnd_of h
theorem dw_or (h1 : DT X E a p) (h2 : DW X E (.BoolOp .Or (b :: rest) pos) q) : DW X E (.BoolOp .Or (a :: b :: rest) pos) (fOr p q) := PW.mono (pw_or h1 h2) fun _ _ _ h => tOr_of h
theorem dt_w (h : DW X E e p) : DT X E e p := h.pt
/-- and, or, not as values, of True and False -/
theorem de_one {op : BoolOp} (h : DE X E a f) : DE X E (.BoolOp op [a] pos) f := pe_one h
theorem de_and (h1 : DE X E a f) (h2 : DE X E (.BoolOp .And (b :: rest) pos) g) : DE X E (.BoolOp .And (a :: b :: rest) pos) (fAndV f g) := PE.mono (pe_and h1 h2) fun σ H Q h => by
  obtain ⟨m, Γ, Ω, s, h⟩ := h
  refine (tT_of (Q := fun c H1 => if c = true then tD X.K E g σ H1 Q else Q (.bl false) H1) ⟨m, Γ, Ω, s, (Af.bind (R := fun _ _ _ a b => a = b) h).imp fun _ _ _ _ _ _ _ _ ⟨m1, Ω1, x, g1, r1, q⟩ => ?_⟩)
  subst r1
  cases x with
  | true => exact ⟨m1, Γ, Ω1, s.go g1, q⟩
  | false => exact q m1 _ _ (Go.refl g1.ok) (by unfold Rl; rfl)
theorem de_or (h1 : DE X E a f) (h2 : DE X E (.BoolOp .Or (b :: rest) pos) g) : DE X E (.BoolOp .Or (a :: b :: rest) pos) (fOrV f g) := PE.mono (pe_or h1 h2) fun σ H Q h => by
  obtain ⟨m, Γ, Ω, s, h⟩ := h
  refine (tT_of (Q := fun c H1 => if c = true then Q (.bl true) H1 else tD X.K E g σ H1 Q) ⟨m, Γ, Ω, s, (Af.bind (R := fun _ _ _ a b => a = b) h).imp fun _ _ _ _ _ _ _ _ ⟨m1, Ω1, x, g1, r1, q⟩ => ?_⟩)
  subst r1
  cases x with
  | true => exact q m1 _ _ (Go.refl g1.ok) (by unfold Rl; rfl)
  | false => exact ⟨m1, Γ, Ω1, s.go g1, q⟩
def fNotV (f : Den D) : Den D := fBl (fNot (fT f))
theorem de_not (h : DE X E a f) : DE X E (.UnaryOp .Not a pos) (fNotV f) := PE.mono (pe_not h) fun σ H Q h => by
  obtain ⟨m, Γ, Ω, s, h⟩ := h
  refine (tT_of (Q := fun c H1 => Q (.bl (!c)) H1) ⟨m, Γ, Ω, s, ?_⟩)
  have h2 := (Af.bind (R := fun _ _ _ a b => a = b) (β := Bool) h)
  have h3 := (Af.bind (R := fun _ _ _ a b => a = b) (β := Bool) h2)
  refine h3.imp fun _ _ _ _ _ _ _ _ ⟨m1, Ω1, x, g1, r1, q⟩ => ?_
  subst r1
  obtain ⟨m2, Ω2, y, g2, r2, q2⟩ := q m1 (!x) _ (Go.refl g1.ok) rfl
  subst r2
  exact q2 m2 _ _ (Go.refl g2.ok) (by unfold Rl; rfl)
theorem de_if (hc : DT X E c p) (h1 : DE X E a f) (h2 : DE X E b g) : DE X E (.IfExp c a b pos) (fIf p f g) := PE.mono (pe_ifExp hc h1 h2) fun σ H Q h => by
  obtain ⟨m, Γ, Ω, s, h⟩ := h
  refine ⟨m, Γ, Ω, s, (Af.bind (R := fun _ _ _ a b => a = b) h).imp fun _ _ _ _ _ _ _ _ ⟨m1, Ω1, x, g1, r1, q⟩ => ?_⟩
  subst r1
  cases x with
  | true => exact ⟨m1, Γ, Ω1, s.go g1, q⟩
  | false => exact ⟨m1, Γ, Ω1, s.go g1, q⟩
end

/-! ### argument lists, tuples, lists -/
def fNil : Den (List D) := fC []
def fCons (f : Den D) (r : Den (List D)) : Den (List D) := bnd f fun x => bnd r fun xs => fC (x :: xs)
def fTup (r : Den (List D)) : Den D := bnd r fun xs _ Ω => if xs.length ≤ 100000 then some (.ok (.tup xs), Ω) else none
/-- a list that no longer changes; one that is a cell -/
def fLst (r : Den (List D)) : Den D := bnd r fun xs _ Ω => if xs.length ≤ 100000 then some (.ok (.lst xs), Ω) else none
def fLstC (r : Den (List D)) : Den D := bnd r fun xs _ Ω => if xs.length ≤ 100000 then some (.ok (.ref Ω.length), Ω ++ [.lst xs]) else none
theorem sz {n : Nat} (h : n ≤ 100000) : n ≤ sizeLine := Nat.le_trans h (by decide)
section
variable {X : Cx} {E : St → XK} {a b c e : Expr} {es : List Expr} {f g : Den D} {r : Den (List D)} {pos : Pos}
theorem RlL.length {K : PySem.W.Frag} {m : Mp} {Ω : Om} {H : Hp} : ∀ {ds : List D} {vs : List V}, RlL K m Ω H ds vs → ds.length = vs.length
  | [], vs, h => by unfold RlL at h; rw [h]; rfl
  | d :: ds, vs, h => by
    unfold RlL at h
    obtain ⟨v, r, e, _, h2⟩ := h
    rw [e, List.length_cons, List.length_cons, RlL.length h2]
theorem da_nil : DA X E [] fNil := PA.mono pa_nil fun σ H Q h => by
  obtain ⟨m, Γ, Ω, s, h⟩ := h
  exact h m [] H (Go.refl s.cells) (by unfold RlL; rfl)
theorem da_cons (h1 : DE X E e f) (h2 : DA X E es r) (hs : starEach (e :: es) X.env = (false, eval e X.env) :: starEach es X.env := by rfl) : DA X E (e :: es) (fCons f r) := PA.mono (pa_cons h1 h2 hs) fun σ H Q h => by
  obtain ⟨m, Γ, Ω, s, h⟩ := h
  refine ⟨m, Γ, Ω, s, (Af.bind (R := Rl X.K) h).imp fun _ _ _ _ _ _ _ _ ⟨m1, Ω1, x, g1, r1, q⟩ => ⟨m1, Γ, Ω1, s.go g1, (Af.bind (R := RlL X.K) q).imp fun _ _ _ _ _ _ _ _ ⟨m2, Ω2, xs, g2, r2, q2⟩ => ?_⟩⟩
  refine q2 m2 _ _ (Go.refl g2.ok) ?_
  unfold RlL
  exact ⟨_, _, rfl, Rl.go g2.toGw g1.ok x _ r1, r2⟩
theorem RlL.new {K : PySem.W.Frag} {m : Mp} {Ω : Om} {H : Hp} {p : Addr} {o : HO} (c : CellsOk K m Ω H) (hp : H p = none) {ds : List D} {vs : List V} (h : RlL K m Ω H ds vs) : RlL K m Ω (upd H p o) ds vs := RlL.go (Go.new c hp).toGw c ds vs h
theorem de_tup {x1} (h : DA X E es r) : DE X E (.Tuple es x1 pos) (fTup r) := PE.mono (pe_tup h) fun σ H Q h => by
  obtain ⟨m, Γ, Ω, s, h⟩ := h
  refine ⟨m, Γ, Ω, s, (Af.bind (R := RlL X.K) h).imp fun _ _ H1 _ b _ _ _ ⟨m1, Ω1, xs, g1, r1, q⟩ => ?_⟩
  obtain ⟨hz, q⟩ := Af.guard q
  refine ⟨by rw [← r1.length]; exact sz hz, fun p hp => q m1 _ _ (Go.new g1.ok hp) ?_⟩
  unfold Rl
  exact ⟨p, _, rfl, .inl upd_same, RlL.new g1.ok hp r1⟩
/-- a new pure list -/
theorem Rl.newL {K : PySem.W.Frag} {m : Mp} {Ω : Om} {H : Hp} {p : Addr} {ds : List D} {vs : List V} (c : CellsOk K m Ω H) (hp : H p = none) (h : RlL K m Ω H ds vs) : Rl K m Ω (upd H p (.lst vs)) (.lst ds) (.ref p) := by
  unfold Rl
  exact ⟨p, vs, rfl, upd_same, c.freshL hp, RlL.new c hp h⟩
theorem de_lst (h : DA X E es r) : DE X E (.List es pos) (fLst r) := PE.mono (pe_lst h) fun σ H Q h => by
  obtain ⟨m, Γ, Ω, s, h⟩ := h
  refine ⟨m, Γ, Ω, s, (Af.bind (R := RlL X.K) h).imp fun _ _ H1 _ b _ _ _ ⟨m1, Ω1, xs, g1, r1, q⟩ => ?_⟩
  obtain ⟨hz, q⟩ := Af.guard q
  exact ⟨by rw [← r1.length]; exact sz hz, fun p hp => q m1 _ _ (Go.new g1.ok hp) (Rl.newL g1.ok hp r1)⟩
/-- a new cell that is a list -/
theorem Go.cellL {K : PySem.W.Frag} {m : Mp} {Ω : Om} {H : Hp} {p : Addr} {ds : List D} {vs : List V} (c : CellsOk K m Ω H) (hp : H p = none) (h : RlL K m Ω H ds vs) : Go K m Ω H (m.add p) (Ω ++ [.lst ds]) (upd H p (.lst vs)) :=
  Go.cell c hp fun g => ⟨vs, upd_same, RlL.go g c ds vs h⟩
theorem rl_last {K : PySem.W.Frag} {m : Mp} {Ω Ω1 : Om} {H H1 : Hp} {p : Addr} (c : CellsOk K m Ω H) : Rl K (m.add p) Ω1 H1 (.ref Ω.length) (.ref p) := by
  unfold Rl
  exact ⟨p, rfl, by show (m.l ++ [p])[Ω.length]? = some p; rw [← c.len]; simp⟩
theorem de_lstC (h : DA X E es r) : DE X E (.List es pos) (fLstC r) := PE.mono (pe_lst h) fun σ H Q h => by
  obtain ⟨m, Γ, Ω, s, h⟩ := h
  refine ⟨m, Γ, Ω, s, (Af.bind (R := RlL X.K) h).imp fun _ _ H1 _ b _ _ _ ⟨m1, Ω1, xs, g1, r1, q⟩ => ?_⟩
  obtain ⟨hz, q⟩ := Af.guard q
  exact ⟨by rw [← r1.length]; exact sz hz, fun p hp => q (m1.add p) _ _ (Go.cellL g1.ok hp r1) (rl_last g1.ok)⟩
end
end Dn


set_option Elab.async false
set_option linter.all false
set_option maxRecDepth 100000
/-! DnOps: operators on data. -/
namespace Dn
open PySem L2
section
variable {K : PySem.W.Frag} {m : Mp} {Ω : Om} {H : Hp}
/-- done: the value stands -/
theorem Af.now {α β : Type} {R : Mp → Om → Hp → α → β → Prop} {E : XK} {Q : β → Hp → Prop} {a : α} (q : Af K R E Q m Ω H (some (.ok a, Ω))) (c : CellsOk K m Ω H) {b : β} (r : R m Ω H a b) : Q b H := q m b H (Go.refl c) r
def opI (g : Int → Int → D) : Op2 := fun x y Ω => match x, y with
  | .int i, .int j => some (.ok (g i j), Ω)
  | _, _ => none
def opIC (C : Int → Int → Bool) (g : Int → Int → D) : Op2 := fun x y Ω => match x, y with
  | .int i, .int j => if C i j = true then some (.ok (g i j), Ω) else none
  | _, _ => none
theorem opD_I0 {g : Int → Int → D} {g' : Int → Int → V} (h : ∀ m Ω H i j, Rl K m Ω H (g i j) (g' i j)) : OpD K (opI g) (rI0 g') := by
  intro E m Ω H x y v u Q c rx ry q
  cases x with
  | int i =>
    cases y with
    | int j =>
      unfold Rl at rx ry
      exact ⟨i, j, rx, ry, q.now c (h m Ω H i j)⟩
    | _ => exact q.elim
  | _ => exact q.elim
theorem opD_I {C : Int → Int → Bool} {C' : Int → Int → Prop} {g : Int → Int → D} {g' : Int → Int → V} (hC : ∀ i j, C i j = true → C' i j) (h : ∀ m Ω H i j, Rl K m Ω H (g i j) (g' i j)) : OpD K (opIC C g) (rI C' g') := by
  intro E m Ω H x y v u Q c rx ry q
  cases x with
  | int i =>
    cases y with
    | int j =>
      unfold Rl at rx ry
      obtain ⟨hc, q⟩ := Af.guard q
      exact ⟨i, j, rx, ry, hC i j hc, q.now c (h m Ω H i j)⟩
    | _ => exact q.elim
  | _ => exact q.elim
theorem rl_int {i : Int} : Rl K m Ω H (.int i) (.int i) := by unfold Rl; rfl
theorem rl_bl {i : Bool} : Rl K m Ω H (.bl i) (.bl i) := by unfold Rl; rfl
def dSub : Op2 := opI fun i j => .int (i - j)
def dLt : Op2 := opI fun i j => .bl (decide (i < j))
def dLe : Op2 := opI fun i j => .bl (decide (i ≤ j))
def dGt : Op2 := opI fun i j => .bl (decide (j < i))
def dGe : Op2 := opI fun i j => .bl (decide (j ≤ i))
def cMul (i j : Int) : Bool := decide ((-(2 ^ 64) < i ∧ i < 2 ^ 64) ∨ (-(2 ^ 64) < j ∧ j < 2 ^ 64))
def dMul : Op2 := opIC cMul fun i j => .int (i * j)
def dFdiv : Op2 := opIC (fun _ j => decide (0 < j ∧ j < 1073741824)) fun i j => .int (i / j)
def dMod : Op2 := opIC (fun _ j => decide (0 < j)) fun i j => .int (i % j)
def dPow : Op2 := opIC (fun i j => decide (0 ≤ j ∧ j ≤ 1000000 ∧ i.natAbs < 2 ^ 64)) fun i j => .int (i ^ j.toNat)
theorem od_sub : OpD K dSub (rI0 fun i j => .int (i - j)) := opD_I0 fun _ _ _ _ _ => rl_int
theorem od_lt : OpD K dLt (rI0 fun i j => .bl (decide (i < j))) := opD_I0 fun _ _ _ _ _ => rl_bl
theorem od_le : OpD K dLe (rI0 fun i j => .bl (decide (i ≤ j))) := opD_I0 fun _ _ _ _ _ => rl_bl
theorem od_gt : OpD K dGt (rI0 fun i j => .bl (decide (j < i))) := opD_I0 fun _ _ _ _ _ => rl_bl
theorem od_ge : OpD K dGe (rI0 fun i j => .bl (decide (j ≤ i))) := opD_I0 fun _ _ _ _ _ => rl_bl
theorem od_mul : OpD K dMul (rI CMul fun i j => .int (i * j)) := opD_I (fun i j h => of_decide_eq_true (p := (-(2 ^ 64) < i ∧ i < 2 ^ 64) ∨ (-(2 ^ 64) < j ∧ j < 2 ^ 64)) h) fun _ _ _ _ _ => rl_int
theorem od_fdiv : OpD K dFdiv (rI CDiv fun i j => .int (i / j)) := opD_I (fun i j h => of_decide_eq_true (p := 0 < j ∧ j < 1073741824) h) fun _ _ _ _ _ => rl_int
theorem od_mod : OpD K dMod (rI (fun _ j => 0 < j) fun i j => .int (i % j)) := opD_I (fun _ _ h => of_decide_eq_true h) fun _ _ _ _ _ => rl_int
theorem od_pow : OpD K dPow (rI CPow fun i j => .int (i ^ j.toNat)) := opD_I (fun i j h => of_decide_eq_true (p := 0 ≤ j ∧ j ≤ 1000000 ∧ i.natAbs < 2 ^ 64) h) fun _ _ _ _ _ => rl_int

/-! ### lists -/
def asL (Ω : Om) : D → Option (List D)
  | .lst xs => some xs
  | .ref n => match Ω[n]? with
    | some (.lst xs) => some xs
    | _ => none
  | _ => none
theorem asL_ok (c : CellsOk K m Ω H) : ∀ {d : D} {v : V} {xs : List D}, Rl K m Ω H d v → asL Ω d = some xs → ∃ a vs, v = .ref a ∧ H a = some (.lst vs) ∧ RlL K m Ω H xs vs := by
  intro d v xs r e
  cases d with
  | lst ys =>
    unfold Rl at r
    cases (Option.some.inj e)
    obtain ⟨a, vs, e1, h1, _, h2⟩ := r
    exact ⟨a, vs, e1, h1, h2⟩
  | ref n =>
    unfold Rl at r
    obtain ⟨a, e1, h1⟩ := r
    unfold asL at e
    dsimp only at e
    cases q : Ω[n]? with
    | none => rw [q] at e; cases e
    | some x =>
      rw [q] at e
      cases x with
      | lst ys =>
        cases (Option.some.inj e)
        obtain ⟨vs, h2, h3⟩ := c.at_ n _ a q h1
        exact ⟨a, vs, e1, h2, h3⟩
      | _ => cases e
  | _ => cases e
theorem RlL.get : ∀ {ds : List D} {vs : List V} {i : Nat} {d : D}, RlL K m Ω H ds vs → ds[i]? = some d → ∃ v, vs[i]? = some v ∧ Rl K m Ω H d v
  | [], vs, i, d, h, e => by simp at e
  | x :: ds, vs, i, d, h, e => by
    unfold RlL at h
    obtain ⟨v, r, e1, h1, h2⟩ := h
    subst e1
    cases i with
    | zero => simp at e; subst e; exact ⟨v, rfl, h1⟩
    | succ i =>
      obtain ⟨w, h3, h4⟩ := RlL.get (i := i) h2 (by simpa using e)
      exact ⟨w, by simpa using h3, h4⟩
theorem RlL.atI {ds : List D} {vs : List V} {i : Int} {d : D} (h : RlL K m Ω H ds vs) (e : L2.atI ds i = some d) : ∃ v, L2.atI vs i = some v ∧ Rl K m Ω H d v := by
  unfold L2.atI at e ⊢
  rw [h.length] at e
  cases q : ixN vs.length i with
  | none => rw [q] at e; cases e
  | some j => rw [q] at e; exact h.get e
theorem RlL.append : ∀ {ds es : List D} {vs ws : List V}, RlL K m Ω H ds vs → RlL K m Ω H es ws → RlL K m Ω H (ds ++ es) (vs ++ ws)
  | [], es, vs, ws, h, h' => by unfold RlL at h; subst h; exact h'
  | x :: ds, es, vs, ws, h, h' => by
    unfold RlL at h
    obtain ⟨v, r, e1, h1, h2⟩ := h
    subst e1
    show RlL K m Ω H (x :: (ds ++ es)) (v :: (r ++ ws))
    unfold RlL
    exact ⟨v, _, rfl, h1, h2.append h'⟩
theorem RlL.one {d : D} {v : V} (h : Rl K m Ω H d v) : RlL K m Ω H [d] [v] := by
  unfold RlL
  exact ⟨v, [], rfl, h, by unfold RlL; rfl⟩
theorem RlL.set : ∀ {ds : List D} {vs : List V} (i : Nat) {d : D} {v : V}, RlL K m Ω H ds vs → Rl K m Ω H d v → RlL K m Ω H (ds.set i d) (vs.set i v)
  | [], vs, i, d, v, h, _ => by unfold RlL at h; subst h; unfold RlL; rfl
  | x :: ds, vs, i, d, v, h, h' => by
    unfold RlL at h
    obtain ⟨w, r, e1, h1, h2⟩ := h
    subst e1
    cases i with
    | zero =>
      show RlL K m Ω H (d :: ds) (v :: r)
      unfold RlL
      exact ⟨v, _, rfl, h', h2⟩
    | succ i =>
      show RlL K m Ω H (x :: ds.set i d) (w :: r.set i v)
      unfold RlL
      exact ⟨w, _, rfl, h1, RlL.set i h2 h'⟩
/-- x[i] of a list, a cell, a tuple, the script -/
def dIx : Op2 := fun x y Ω => match x, y with
  | .tup xs, .int i => match L2.atI xs i with
    | some d => some (.ok d, Ω)
    | none => none
  | .scr xs, .int i => match L2.atI xs i with
    | some d => some (.ok (.int d), Ω)
    | none => none
  | x, .int i => match asL Ω x with
    | some xs => match L2.atI xs i with
      | some d => some (.ok d, Ω)
      | none => none
    | none => none
  | _, _ => none
theorem od_ix : OpD K dIx (r2or (rIxL K) (rIxT K)) := by
  intro E m Ω H x y v u Q c rx ry q
  cases y with
  | int i =>
    unfold Rl at ry
    have one : ∀ (d : D) (xs : List D), d = x → asL Ω d = some xs → Af K (Rl K) E Q m Ω H (match L2.atI xs i with | some d => some (.ok d, Ω) | none => none) → r2or (rIxL K) (rIxT K) v u H Q := fun d xs ed e qq => by
      clear q
      subst ed
      obtain ⟨a, vs, e1, h1, h2⟩ := asL_ok c rx e
      cases e2 : L2.atI xs i with
      | none => rw [e2] at qq; exact qq.elim
      | some d =>
        rw [e2] at qq
        obtain ⟨w, h3, h4⟩ := h2.atI e2
        exact .inl ⟨a, vs, i, w, e1, ry, SqL.of h1, h3, qq.now c h4⟩
    cases x with
    | tup xs =>
      unfold Rl at rx
      obtain ⟨a, vs, e1, h1, h2⟩ := rx
      unfold dIx at q
      dsimp only at q
      cases e2 : L2.atI xs i with
      | none => rw [e2] at q; exact q.elim
      | some d =>
        rw [e2] at q
        obtain ⟨w, h3, h4⟩ := h2.atI e2
        exact .inr ⟨a, vs, i, w, e1, ry, h1.sq, h3, q.now c h4⟩
    | scr xs =>
      unfold Rl at rx
      obtain ⟨a, e1, h1⟩ := rx
      unfold dIx at q
      dsimp only at q
      cases e2 : L2.atI xs i with
      | none => rw [e2] at q; exact q.elim
      | some d =>
        rw [e2] at q
        refine .inl ⟨a, xs.map V.int, i, .int d, e1, ry, h1.sq, ?_, q.now c rl_int⟩
        unfold L2.atI at e2 ⊢
        rw [List.length_map]
        cases e3 : ixN xs.length i with
        | none => rw [e3] at e2; cases e2
        | some j =>
          rw [e3] at e2
          show (xs.map V.int)[j]? = some (.int d)
          rw [List.getElem?_map, show xs[j]? = some d from e2] <;> rfl
    | lst xs => exact one (.lst xs) xs rfl rfl q
    | ref n =>
      unfold dIx at q
      dsimp only at q
      cases e : asL Ω (.ref n) with
      | none => rw [e] at q; exact q.elim
      | some xs => rw [e] at q; exact one (.ref n) xs rfl e q
    | _ => exact q.elim
  | _ => cases x <;> exact q.elim
/-- a + b -/
def dAdd : Op2 := fun x y Ω => match x, y with
  | .int i, .int j => some (.ok (.int (i + j)), Ω)
  | .str a, .str b => if a.length + b.length ≤ 100000 then some (.ok (.str (a ++ b)), Ω) else none
  | x, y => match asL Ω x with
    | some xs => match asL Ω y with
      | some ys => if xs.length + ys.length ≤ 100000 then some (.ok (.lst (xs ++ ys)), Ω) else none
      | none => none
    | none => none
def rAddS : R2 := fun x y H Q => ∃ i j, x = .str i ∧ y = .str j ∧ i.length + j.length ≤ sizeLine ∧ Q (.str (i ++ j)) H
theorem od_add : OpD K dAdd (r2or (rI0 fun i j => .int (i + j)) (r2or rAddS rCat)) := by
  intro E m Ω H x y v u Q c rx ry q
  have cat : ∀ (d e : D), d = x → e = y → Af K (Rl K) E Q m Ω H (match asL Ω d with
    | some xs => match asL Ω e with
      | some ys => if xs.length + ys.length ≤ 100000 then some (.ok (.lst (xs ++ ys)), Ω) else none
      | none => none
    | none => none) → rCat v u H Q := fun d e ed ee qq => by
    clear q
    subst ed ee
    cases e1 : asL Ω d with
    | none => rw [e1] at qq; exact qq.elim
    | some xs =>
      rw [e1] at qq
      cases e2 : asL Ω e with
      | none => rw [e2] at qq; exact qq.elim
      | some ys =>
        rw [e2] at qq
        obtain ⟨hz, qq⟩ := Af.guard qq
        obtain ⟨a, vs, e3, h1, h2⟩ := asL_ok c rx e1
        obtain ⟨b, ws, e4, h3, h4⟩ := asL_ok c ry e2
        exact ⟨a, b, vs, ws, e3, e4, h1, h3, by rw [← h2.length, ← h4.length]; exact sz hz, fun p hp => qq m _ _ (Go.new c hp) (Rl.newL c hp (h2.append h4))⟩
  cases x with
  | int i =>
    cases y with
    | int j =>
      unfold Rl at rx ry
      exact .inl ⟨i, j, rx, ry, q.now c rl_int⟩
    | _ => exact q.elim
  | str i =>
    cases y with
    | str j =>
      unfold Rl at rx ry
      obtain ⟨hz, q⟩ := Af.guard q
      exact .inr (.inl ⟨i, j, rx, ry, sz hz, q.now c (by unfold Rl; rfl)⟩)
    | _ => exact q.elim
  | lst xs => cases y <;> first | exact q.elim | exact .inr (.inr (cat _ _ rfl rfl q))
  | ref n => cases y <;> exact .inr (.inr (cat _ _ rfl rfl q))
  | _ => cases y <;> exact q.elim
end
section
variable {X : Cx} {E : St → XK} {a b e : Expr} {f g : Den D} {pos : Pos}
theorem op_addX : OpR X (binaryOp .Add) (r2or (rI0 fun i j => .int (i + j)) (r2or rAddS rCat)) := opR_or op_add (opR_or op_add_str op_cat)
theorem ixR_or {r r' : R2} (h : IxR X r) (h' : IxR X r') : IxR X (r2or r r') := fun value slice pins s σ H x y v u Q I rx ry q hs => q.elim (fun q => h value slice pins s σ H x y v u Q I rx ry q hs) (fun q => h' value slice pins s σ H x y v u Q I rx ry q hs)
theorem de_add (ha : DE X E a f) (hb : DE X E b g) : DE X E (.BinOp a .Add b pos) (fBin dAdd f g) := de_bin op_addX od_add ha hb
theorem de_sub (ha : DE X E a f) (hb : DE X E b g) : DE X E (.BinOp a .Sub b pos) (fBin dSub f g) := de_bin op_sub od_sub ha hb
theorem de_mul (ha : DE X E a f) (hb : DE X E b g) : DE X E (.BinOp a .Mult b pos) (fBin dMul f g) := de_bin op_mul od_mul ha hb
theorem de_fdiv (ha : DE X E a f) (hb : DE X E b g) : DE X E (.BinOp a .FloorDiv b pos) (fBin dFdiv f g) := de_bin op_fdiv od_fdiv ha hb
theorem de_mod (ha : DE X E a f) (hb : DE X E b g) : DE X E (.BinOp a .Mod b pos) (fBin dMod f g) := de_bin op_mod od_mod ha hb
theorem de_pow (ha : DE X E a f) (hb : DE X E b g) : DE X E (.BinOp a .Pow b pos) (fBin dPow f g) := de_bin op_pow od_pow ha hb
theorem de_lt (ha : DE X E a f) (hb : DE X E b g) : DE X E (.Compare a [.Lt] [b] pos) (fBin dLt f g) := de_cmp op_lt od_lt ha hb (nomark _)
theorem de_le (ha : DE X E a f) (hb : DE X E b g) : DE X E (.Compare a [.LtE] [b] pos) (fBin dLe f g) := de_cmp op_le od_le ha hb (nomark _)
theorem de_gt (ha : DE X E a f) (hb : DE X E b g) : DE X E (.Compare a [.Gt] [b] pos) (fBin dGt f g) := de_cmp op_gt od_gt ha hb (nomark _)
theorem de_ge (ha : DE X E a f) (hb : DE X E b g) : DE X E (.Compare a [.GtE] [b] pos) (fBin dGe f g) := de_cmp op_ge od_ge ha hb (nomark _)
theorem dt_lt (ha : DE X E a f) (hb : DE X E b g) : DT X E (.Compare a [.Lt] [b] pos) (fT (fBin dLt f g)) := dt_cmp op_lt od_lt ha hb (nomark _)
theorem dt_le (ha : DE X E a f) (hb : DE X E b g) : DT X E (.Compare a [.LtE] [b] pos) (fT (fBin dLe f g)) := dt_cmp op_le od_le ha hb (nomark _)
theorem dt_gt (ha : DE X E a f) (hb : DE X E b g) : DT X E (.Compare a [.Gt] [b] pos) (fT (fBin dGt f g)) := dt_cmp op_gt od_gt ha hb (nomark _)
theorem dt_ge (ha : DE X E a f) (hb : DE X E b g) : DT X E (.Compare a [.GtE] [b] pos) (fT (fBin dGe f g)) := dt_cmp op_ge od_ge ha hb (nomark _)
theorem de_sq (ha : DE X E a f) (hb : DE X E b g) (hp : PlainIx b := by intro _ _; rfl) : DE X E (.Subscript a b pos) (fBin dIx f g) := de_ix (ixR_or ix_list ix_tup) od_ix ha hb hp
def dNeg : Op1 := fun x Ω => match x with
  | .int i => some (.ok (.int (-i)), Ω)
  | _ => none
theorem de_neg (ha : DE X E a f) : DE X E (.UnaryOp .USub a pos) (fUn dNeg f) := de_un un_neg (by
  intro E m Ω H x v Q c rx q
  cases x with
  | int i => unfold Rl at rx; exact ⟨i, rx, q.now c rl_int⟩
  | _ => exact q.elim) ha
end
end Dn


set_option Elab.async false
set_option linter.all false
set_option maxRecDepth 100000
/-! DnStm: statements, targets, walks. -/
namespace Dn
open PySem L2

inductive Fl where
  | nx | rt (d : D) | bk | ct | ex (e : Xn)
abbrev DenS := Gm → Om → Option (Fl × Gm × Om)
def AfS (K : PySem.W.Frag) (E : St → XK) (D : Ends) (m : Mp) (Ω : Om) (H : Hp) (r : Option (Fl × Gm × Om)) : Prop := match r with
  | none => False
  | some (.nx, Γ', Ω') => ∀ m' σ' H', Go K m Ω H m' Ω' H' → Slots K m' Ω' H' Γ' σ' → D.nx σ' H'
  | some (.bk, Γ', Ω') => ∀ m' σ' H', Go K m Ω H m' Ω' H' → Slots K m' Ω' H' Γ' σ' → D.bk σ' H'
  | some (.ct, Γ', Ω') => ∀ m' σ' H', Go K m Ω H m' Ω' H' → Slots K m' Ω' H' Γ' σ' → D.ct σ' H'
  | some (.rt d, _, Ω') => ∀ m' v H', Go K m Ω H m' Ω' H' → Rl K m' Ω' H' d v → D.rt v H'
  | some (.ex e, Γ', Ω') => ∀ m' σ' H' cls dd, Go K m Ω H m' Ω' H' → Slots K m' Ω' H' Γ' σ' → XRel K m' Ω' H' e cls dd → E σ' cls dd H'
def tS (K : PySem.W.Frag) (E : St → XK) (g : DenS) : TS := fun D σ H => ∃ m Γ Ω, SR K m Γ Ω σ H ∧ AfS K E D m Ω H (g Γ Ω)
abbrev DS (X : Cx) (E : St → XK) (st : Stmt) (g : DenS) : Prop := PS X st (tS X.K E g)
abbrev DSs (X : Cx) (E : St → XK) (st : List Stmt) (g : DenS) : Prop := PSs X st (tS X.K E g)
section
variable {K : PySem.W.Frag} {m m1 m' : Mp} {Ω Ω1 Ω' : Om} {H H1 H' : Hp} {Γ : Gm} {σ : St} {E : St → XK} {D D' : Ends}
theorem AfS.go (g : Go K m Ω H m1 Ω1 H1) : ∀ {r : Option (Fl × Gm × Om)}, AfS K E D m Ω H r → AfS K E D m1 Ω1 H1 r
  | none, h => h
  | some (.nx, Γ', Ω'), h => fun m' b H' g2 r => h m' b H' (g.trans g2) r
  | some (.bk, Γ', Ω'), h => fun m' b H' g2 r => h m' b H' (g.trans g2) r
  | some (.ct, Γ', Ω'), h => fun m' b H' g2 r => h m' b H' (g.trans g2) r
  | some (.rt d, Γ', Ω'), h => fun m' b H' g2 r => h m' b H' (g.trans g2) r
  | some (.ex e, Γ', Ω'), h => fun m' σ' H' c d g2 sl r => h m' σ' H' c d (g.trans g2) sl r
theorem Slots.set (s : Slots K m Ω H Γ σ) {i : Nat} {d : Dn.D} {v : V} (r : Rl K m Ω H d v) : Slots K m Ω H (Γ.set i (some d)) (σ.set i (some v)) := by
  refine ⟨by rw [List.length_set, List.length_set, s.1], fun j e h => ?_⟩
  by_cases hj : j = i
  · subst hj
    have hl : j < Γ.length := by
      have := (List.getElem?_eq_some_iff.mp h).1
      rwa [List.length_set] at this
    rw [List.getElem?_set_self hl] at h
    cases h
    exact ⟨v, by rw [List.getElem?_set_self (by rw [← s.1]; exact hl)], r⟩
  · rw [List.getElem?_set_ne (Ne.symm hj)] at h ⊢
    exact s.2 j e h
end
/-! ### blocks -/
def sSkip : DenS := fun Γ Ω => some (.nx, Γ, Ω)
def bS (r : Option (Fl × Gm × Om)) (k : DenS) : Option (Fl × Gm × Om) := match r with
  | none => none
  | some (.nx, Γ, Ω) => k Γ Ω
  | some x => some x
@[simp] theorem bS_none (k : DenS) : bS none k = none := rfl
@[simp] theorem bS_nx (Γ : Gm) (Ω : Om) (k : DenS) : bS (some (.nx, Γ, Ω)) k = k Γ Ω := rfl
@[simp] theorem bS_rt (d : D) (Γ : Gm) (Ω : Om) (k : DenS) : bS (some (.rt d, Γ, Ω)) k = some (.rt d, Γ, Ω) := rfl
@[simp] theorem bS_bk (Γ : Gm) (Ω : Om) (k : DenS) : bS (some (.bk, Γ, Ω)) k = some (.bk, Γ, Ω) := rfl
@[simp] theorem bS_ct (Γ : Gm) (Ω : Om) (k : DenS) : bS (some (.ct, Γ, Ω)) k = some (.ct, Γ, Ω) := rfl
@[simp] theorem bS_ex (e : Xn) (Γ : Gm) (Ω : Om) (k : DenS) : bS (some (.ex e, Γ, Ω)) k = some (.ex e, Γ, Ω) := rfl
def sSeq (g k : DenS) : DenS := fun Γ Ω => bS (g Γ Ω) k
/-- a value, then a statement's end -/
def eS (r : Option (Rs D × Om)) (Γ : Gm) (k : D → Om → Option (Fl × Gm × Om)) : Option (Fl × Gm × Om) := match r with
  | none => none
  | some (.ok d, Ω) => k d Ω
  | some (.ex e, Ω) => some (.ex e, Γ, Ω)
@[simp] theorem eS_none (Γ : Gm) (k : D → Om → Option (Fl × Gm × Om)) : eS none Γ k = none := rfl
@[simp] theorem eS_ok (d : D) (Ω : Om) (Γ : Gm) (k : D → Om → Option (Fl × Gm × Om)) : eS (some (.ok d, Ω)) Γ k = k d Ω := rfl
@[simp] theorem eS_ex (e : Xn) (Ω : Om) (Γ : Gm) (k : D → Om → Option (Fl × Gm × Om)) : eS (some (.ex e, Ω)) Γ k = some (.ex e, Γ, Ω) := rfl
def sSet (i : Nat) (f : Den D) : DenS := fun Γ Ω => eS (f Γ Ω) Γ fun d Ω1 => some (.nx, Γ.set i (some d), Ω1)
def sRet (f : Den D) : DenS := fun Γ Ω => eS (f Γ Ω) Γ fun d Ω1 => some (.rt d, Γ, Ω1)
def sExp (f : Den D) : DenS := fun Γ Ω => eS (f Γ Ω) Γ fun _ Ω1 => some (.nx, Γ, Ω1)
def sIf (c : Den Bool) (g k : DenS) : DenS := fun Γ Ω => match c Γ Ω with
  | none => none
  | some (.ok b, Ω1) => if b = true then g Γ Ω1 else k Γ Ω1
  | some (.ex e, Ω1) => some (.ex e, Γ, Ω1)
def sNever : DenS := fun _ _ => none
section
variable {X : Cx} {E : St → XK} {st : Stmt} {rest a b : List Stmt} {e c : Expr} {f : Den D} {g k : DenS} {p : Den Bool} {pos : Pos}
/-- from a value's end to a statement's -/
theorem AfS.val {K : PySem.W.Frag} {D : Ends} {m : Mp} {Ω : Om} {H : Hp} {Γ : Gm} {σ : St} {kk : Dn.D → Om → Option (Fl × Gm × Om)} (sl : Slots K m Ω H Γ σ) (c : CellsOk K m Ω H) : ∀ {r : Option (Rs Dn.D × Om)}, AfS K E D m Ω H (eS r Γ kk) →
    Af K (Rl K) (E σ) (fun v H1 => ∃ m1 Ω1 d, Go K m Ω H m1 Ω1 H1 ∧ Rl K m1 Ω1 H1 d v ∧ AfS K E D m1 Ω1 H1 (kk d Ω1)) m Ω H r
  | none, h => h
  | some (.ok d, Ω'), h => fun m' v H' g r => ⟨m', Ω', d, g, r, AfS.go g h⟩
  | some (.ex e, Ω'), h => fun m' H' cls dd g r => h m' σ H' cls dd g ((SR.mk c sl).go g).slots r
theorem ds_nil : DSs X E [] sSkip := PSs.mono pss_nil fun D σ H h => by
  obtain ⟨m, Γ, Ω, s, h⟩ := h
  exact h m σ H (Go.refl s.cells) s.slots
theorem ds_cons (h1 : DS X E st g) (h2 : DSs X E rest k) : DSs X E (st :: rest) (sSeq g k) := PSs.mono (pss_cons h1 h2) fun D σ H h => by
  obtain ⟨m, Γ, Ω, s, h⟩ := h
  refine ⟨m, Γ, Ω, s, ?_⟩
  show AfS X.K E { D with nx := tS X.K E k D } m Ω H (g Γ Ω)
  unfold sSeq at h
  cases e : g Γ Ω with
  | none => rw [e] at h; exact h
  | some x =>
    obtain ⟨fl, Γ', Ω'⟩ := x
    rw [e] at h
    cases fl with
    | nx => exact fun m' σ' H' g2 sl => ⟨m', Γ', Ω', ⟨g2.ok, sl⟩, AfS.go g2 h⟩
    | _ => exact h
theorem ds_one (h1 : DS X E st g) : DSs X E [st] g := PSs.mono (pss_cons h1 (ds_nil (E := E))) fun D σ H h => by
  obtain ⟨m, Γ, Ω, s, h⟩ := h
  refine ⟨m, Γ, Ω, s, ?_⟩
  show AfS X.K E { D with nx := tS X.K E sSkip D } m Ω H (g Γ Ω)
  cases e : g Γ Ω with
  | none => rw [e] at h; exact h
  | some x =>
    obtain ⟨fl, Γ', Ω'⟩ := x
    rw [e] at h
    cases fl with
    | nx => exact fun m' σ' H' g2 sl => ⟨m', Γ', Ω', ⟨g2.ok, sl⟩, fun m2 σ2 H2 g3 sl3 => h m2 σ2 H2 (g2.trans g3) sl3⟩
    | _ => exact h
theorem ds_set (i : Nat) {x : Str} {pos' : Pos} (hN : X.N.Nodup) (he : DE X E e f) (hi : X.N[i]? = some x := by rfl) (hx : Loc X.env.scope x := by first | exact Or.inl rfl | exact Or.inr rfl) (hs : swapsWith e (some (.Name x pos')) pos.line X.env = pure false := by rfl) (hf : X.fn x = true ∨ X.env.scope.names.lookup x = some .local := by first | exact .inl rfl | exact .inr rfl | assumption) :
    DS X E (.Assign [.Name x pos'] e pos) (sSet i f) := PS.mono (ps_set (i := i) hN hi hx he hs hf) fun D σ H h => by
  obtain ⟨m, Γ, Ω, s, h⟩ := h
  refine ⟨m, Γ, Ω, s, (AfS.val s.slots s.cells h).imp fun _ _ _ _ _ _ _ _ ⟨m1, Ω1, d, g1, r1, q⟩ => ?_⟩
  exact q m1 _ _ (Go.refl g1.ok) ((s.go g1).slots.set r1)
theorem ds_ret (he : DE X E e f) : DS X E (.Return (some e) pos) (sRet f) := PS.mono (ps_ret he) fun D σ H h => by
  obtain ⟨m, Γ, Ω, s, h⟩ := h
  refine ⟨m, Γ, Ω, s, (AfS.val s.slots s.cells h).imp fun _ _ _ _ _ _ _ _ ⟨m1, Ω1, d, g1, r1, q⟩ => ?_⟩
  exact q m1 _ _ (Go.refl g1.ok) r1
theorem ds_exp (he : DE X E e f) (hs : swapsWith e none pos.line X.env = pure false := by rfl) : DS X E (.Expr e pos) (sExp f) := PS.mono (ps_expr he hs) fun D σ H h => by
  obtain ⟨m, Γ, Ω, s, h⟩ := h
  refine ⟨m, Γ, Ω, s, (AfS.val s.slots s.cells h).imp fun _ _ _ _ _ _ _ _ ⟨m1, Ω1, d, g1, r1, q⟩ => ?_⟩
  exact q m1 _ _ (Go.refl g1.ok) (s.go g1).slots
theorem ds_if (hc : DT X E c p) (h1 : DSs X E a g) (h2 : DSs X E b k) : DS X E (.If c a b pos) (sIf p g k) := PS.mono (ps_if hc h1 h2) fun D σ H h => by
  obtain ⟨m, Γ, Ω, s, h⟩ := h
  refine ⟨m, Γ, Ω, s, ?_⟩
  unfold sIf at h
  cases e : p Γ Ω with
  | none => rw [e] at h; exact h
  | some x =>
    obtain ⟨r, Ω'⟩ := x
    rw [e] at h
    cases r with
    | ok b =>
      intro m' b' H' g2 eb
      subst eb
      cases b with
      | true => exact ⟨m', Γ, Ω', s.go g2, AfS.go g2 h⟩
      | false => exact ⟨m', Γ, Ω', s.go g2, AfS.go g2 h⟩
    | ex e => exact fun m' H' cls dd g2 r => h m' σ H' cls dd g2 (s.go g2).slots r
theorem ds_never : DS X E st sNever := PS.mono ps_never fun D σ H h => by
  obtain ⟨m, Γ, Ω, s, h⟩ := h
  exact h
theorem ds_pass : DS X E (.Pass pos) sSkip := PS.mono ps_pass fun D σ H h => by
  obtain ⟨m, Γ, Ω, s, h⟩ := h
  exact h m σ H (Go.refl s.cells) s.slots
def sBreak : DenS := fun Γ Ω => some (.bk, Γ, Ω)
def sCont : DenS := fun Γ Ω => some (.ct, Γ, Ω)
theorem ds_break : DS X E (.Break pos) sBreak := PS.mono ps_break fun D σ H h => by
  obtain ⟨m, Γ, Ω, s, h⟩ := h
  exact h m σ H (Go.refl s.cells) s.slots
theorem ds_cont : DS X E (.Continue pos) sCont := PS.mono ps_continue fun D σ H h => by
  obtain ⟨m, Γ, Ω, s, h⟩ := h
  exact h m σ H (Go.refl s.cells) s.slots
end

/-! ### targets -/
abbrev DenG := D → Gm → Option Gm
def gN (i : Nat) : DenG := fun d Γ => some (Γ.set i (some d))
def gNil : List D → Gm → Option Gm := fun ds Γ => match ds with
  | [] => some Γ
  | _ => none
def gCons (t : DenG) (u : List D → Gm → Option Gm) : List D → Gm → Option Gm := fun ds Γ => match ds with
  | d :: r => match t d Γ with
    | some Γ1 => u r Γ1
    | none => none
  | [] => none
def gT (n : Nat) (u : List D → Gm → Option Gm) : DenG := fun d Γ => match d with
  | .tup ds => if ds.length = n then u ds Γ else none
  | _ => none
def tTg (K : PySem.W.Frag) (t : DenG) : TG := fun v σ H Q => ∃ m Γ Ω d Γ', SR K m Γ Ω σ H ∧ Rl K m Ω H d v ∧ t d Γ = some Γ' ∧ ∀ σ', Slots K m Ω H Γ' σ' → Q σ' H
def tTgs (K : PySem.W.Frag) (t : List D → Gm → Option Gm) : TGs := fun vs σ H Q => ∃ m Γ Ω ds Γ', SR K m Γ Ω σ H ∧ RlL K m Ω H ds vs ∧ t ds Γ = some Γ' ∧ ∀ σ', Slots K m Ω H Γ' σ' → Q σ' H
abbrev DG (X : Cx) (tg : Expr) (t : DenG) : Prop := PG X tg (tTg X.K t)
abbrev DGs (X : Cx) (tg : List Expr) (t : List D → Gm → Option Gm) : Prop := PGs X tg (tTgs X.K t)
theorem PG.mono {X : Cx} {e : Expr} {t t' : TG} (h : PG X e t) (i : ∀ v σ H Q, t' v σ H Q → t v σ H Q) : PG X e t' := ⟨fun pins s σ H v u Q I r q => h.run pins s σ H v u Q I r (i v σ H Q q)⟩
theorem PGs.mono {X : Cx} {e : List Expr} {t t' : TGs} (h : PGs X e t) (i : ∀ v σ H Q, t' v σ H Q → t v σ H Q) : PGs X e t' := ⟨fun pins s σ H v u Q I r q => h.run pins s σ H v u Q I r (i v σ H Q q)⟩
section
variable {X : Cx} {E : St → XK} {e : Expr} {es : List Expr} {pos : Pos} {t : DenG} {u : List D → Gm → Option Gm}
theorem dg_n (i : Nat) {x : Str} (hN : X.N.Nodup) (hi : X.N[i]? = some x := by rfl) (hx : Loc X.env.scope x := by first | exact Or.inl rfl | exact Or.inr rfl) (hf : X.fn x = true ∨ X.env.scope.names.lookup x = some .local := by first | exact .inl rfl | exact .inr rfl | assumption) : DG X (.Name x pos) (gN i) := PG.mono (pg_name (i := i) hN hi hx hf) fun v σ H Q h => by
  obtain ⟨m, Γ, Ω, d, Γ', s, r, e, q⟩ := h
  cases e
  exact q _ (s.slots.set r)
theorem dgs_nil : DGs X [] gNil := PGs.mono pgs_nil fun v σ H Q h => by
  obtain ⟨m, Γ, Ω, ds, Γ', s, r, e, q⟩ := h
  cases ds with
  | nil =>
    unfold RlL at r
    cases e
    exact ⟨r, q _ s.slots⟩
  | cons d ds => cases e
theorem dgs_cons (h1 : DG X e t) (h2 : DGs X es u) (hs : (assignEach (e :: es) X.env).map (·.2) = assign e X.env :: (assignEach es X.env).map (·.2) := by rfl) : DGs X (e :: es) (gCons t u) := PGs.mono (pgs_cons h1 h2 hs) fun v σ H Q h => by
  obtain ⟨m, Γ, Ω, ds, Γ', s, r, e, q⟩ := h
  cases ds with
  | nil => cases e
  | cons d ds =>
    unfold RlL at r
    obtain ⟨w, ws, ev, r1, r2⟩ := r
    unfold gCons at e
    dsimp only at e
    cases e1 : t d Γ with
    | none => rw [e1] at e; cases e
    | some Γ1 =>
      rw [e1] at e
      exact ⟨w, ws, ev, m, Γ, Ω, d, Γ1, s, r1, e1, fun σ' sl => ⟨m, Γ1, Ω, ds, Γ', ⟨s.cells, sl⟩, r2, e, q⟩⟩
theorem dg_t {n : Nat} {k : Nat} (hc : X.calm = true) (h : DGs X es u) (hn : (assignEach es X.env).length = n := by rfl) (hst : (assignEach es X.env).findIdx? (·.1) = none := by rfl) : DG X (.Tuple es k pos) (gT n u) := PG.mono (pg_tup hc h hn hst) fun v σ H Q h => by
  obtain ⟨m, Γ, Ω, d, Γ', s, r, e, q⟩ := h
  cases d with
  | tup ds =>
    unfold Rl at r
    obtain ⟨a, vs, ev, h1, h2⟩ := r
    unfold gT at e
    dsimp only at e
    by_cases hl : ds.length = n
    · rw [if_pos hl] at e
      exact ⟨a, vs, ev, h1.sq, by rw [← h2.length]; exact hl, m, Γ, Ω, ds, Γ', s, h2, e, q⟩
    · rw [if_neg hl] at e; cases e
  | _ => cases e
/-- target = value -/
def sAsg (f : Den D) (t : DenG) : DenS := fun Γ Ω => eS (f Γ Ω) Γ fun d Ω1 => match t d Γ with
  | some Γ1 => some (.nx, Γ1, Ω1)
  | none => none
theorem ds_asg {tg : Expr} {f : Den D} (he : DE X E e f) (hg : DG X tg t) (hs : swapsWithSole [tg] e pos.line X.env = pure false := by rfl) (hw : swappedStores [tg] e X.env = pure none := by rfl)
    (h1 : (assignEach [tg] X.env).map (·.2) = [assign tg X.env] := by rfl) : DS X E (.Assign [tg] e pos) (sAsg f t) := PS.mono (ps_asg he hg hs hw h1) fun D σ H h => by
  obtain ⟨m, Γ, Ω, s, h⟩ := h
  refine ⟨m, Γ, Ω, s, (AfS.val s.slots s.cells h).imp fun _ _ _ _ _ _ _ _ ⟨m1, Ω1, d, g1, r1, q⟩ => ?_⟩
  cases e1 : t d Γ with
  | none => rw [e1] at q; exact q.elim
  | some Γ1 =>
    rw [e1] at q
    exact ⟨m1, Γ, Ω1, d, Γ1, s.go g1, r1, e1, fun σ' sl => q m1 σ' _ (Go.refl g1.ok) sl⟩
/-- a, b = x, y; a, b, c = x, y, z by plain local names -/
def sPar (is : List Nat) (r : Den (List D)) : DenS := fun Γ Ω => match r Γ Ω with
  | none => none
  | some (.ok ds, Ω1) => match is, ds with
    | [i, j], [x, y] => some (.nx, (Γ.set i (some x)).set j (some y), Ω1)
    | [i, j, l], [x, y, z] => some (.nx, ((Γ.set i (some x)).set j (some y)).set l (some z), Ω1)
    | _, _ => none
  | some (.ex e, Ω1) => some (.ex e, Γ, Ω1)
theorem ds_par2 (i j : Nat) {x y : Str} {a b : Expr} {r : Den (List D)} {px py pt : Pos} {kt k2 pt2} (hc : X.calm = true) (hN : X.N.Nodup) (ha : DA X E [a, b] r) (hi : X.N[i]? = some x := by rfl) (hj : X.N[j]? = some y := by rfl) (hij : i ≠ j := by decide)
    (hx : X.env.scope.names.lookup x = some .local := by rfl) (hy : X.env.scope.names.lookup y = some .local := by rfl)
    (hw : swappedStores [.Tuple [.Name x px, .Name y py] kt pt] (.Tuple [a, b] k2 pt2) X.env = pure (some [x, y]) := by rfl)
    (hs : swapsWithSole [.Tuple [.Name x px, .Name y py] kt pt] (.Tuple [a, b] k2 pt2) pos.line X.env = pure false := by rfl) :
    DS X E (.Assign [.Tuple [.Name x px, .Name y py] kt pt] (.Tuple [a, b] k2 pt2) pos) (sPar [i, j] r) := PS.mono (ps_par hc hN hi hj hij hx hy ha hw hs) fun D σ H h => by
  obtain ⟨m, Γ, Ω, s, h⟩ := h
  refine ⟨m, Γ, Ω, s, ?_⟩
  unfold sPar at h
  cases e : r Γ Ω with
  | none => rw [e] at h; exact h
  | some z =>
    obtain ⟨q, Ω'⟩ := z
    rw [e] at h
    cases q with
    | ok ds =>
      intro m' vs H' g2 rr
      match ds, h, rr with
      | [d1, d2], h, rr =>
        unfold RlL at rr
        obtain ⟨v1, w1, e1, r1, q1⟩ := rr
        unfold RlL at q1
        obtain ⟨v2, w2, e2, r2, q2⟩ := q1
        unfold RlL at q2
        subst q2 e2 e1
        exact ⟨v1, v2, rfl, h m' _ _ g2 (((s.go g2).slots.set r1).set r2)⟩
      | [], h, rr => exact h.elim
      | [_], h, rr => exact h.elim
      | _ :: _ :: _ :: _, h, rr => exact h.elim
    | ex e => exact fun m' H' cls dd g2 r => h m' σ H' cls dd g2 (s.go g2).slots r
theorem ds_par3 (i j l : Nat) {x y z : Str} {a b c : Expr} {r : Den (List D)} {px py pz pt : Pos} {kt k2 pt2} (hc : X.calm = true) (hN : X.N.Nodup) (ha : DA X E [a, b, c] r) (hi : X.N[i]? = some x := by rfl) (hj : X.N[j]? = some y := by rfl) (hl : X.N[l]? = some z := by rfl) (hij : i ≠ j := by decide) (hil : i ≠ l := by decide) (hjl : j ≠ l := by decide)
    (hx : X.env.scope.names.lookup x = some .local := by rfl) (hy : X.env.scope.names.lookup y = some .local := by rfl) (hz : X.env.scope.names.lookup z = some .local := by rfl)
    (hw : swappedStores [.Tuple [.Name x px, .Name y py, .Name z pz] kt pt] (.Tuple [a, b, c] k2 pt2) X.env = pure (some [x, y, z]) := by rfl)
    (hs : swapsWithSole [.Tuple [.Name x px, .Name y py, .Name z pz] kt pt] (.Tuple [a, b, c] k2 pt2) pos.line X.env = pure false := by rfl) :
    DS X E (.Assign [.Tuple [.Name x px, .Name y py, .Name z pz] kt pt] (.Tuple [a, b, c] k2 pt2) pos) (sPar [i, j, l] r) := PS.mono (ps_par3 hc hN hi hj hl hij hil hjl hx hy hz ha hw hs) fun D σ H h => by
  obtain ⟨m, Γ, Ω, s, h⟩ := h
  refine ⟨m, Γ, Ω, s, ?_⟩
  unfold sPar at h
  cases e : r Γ Ω with
  | none => rw [e] at h; exact h
  | some z =>
    obtain ⟨q, Ω'⟩ := z
    rw [e] at h
    cases q with
    | ok ds =>
      intro m' vs H' g2 rr
      match ds, h, rr with
      | [d1, d2, d3], h, rr =>
        unfold RlL at rr
        obtain ⟨v1, w1, e1, r1, q1⟩ := rr
        unfold RlL at q1
        obtain ⟨v2, w2, e2, r2, q2⟩ := q1
        unfold RlL at q2
        obtain ⟨v3, w3, e3, r3, q3⟩ := q2
        unfold RlL at q3
        subst q3 e3 e2 e1
        exact ⟨v1, v2, v3, rfl, h m' _ _ g2 ((((s.go g2).slots.set r1).set r2).set r3)⟩
      | [], h, rr => exact h.elim
      | [_], h, rr => exact h.elim
      | [_, _], h, rr => exact h.elim
      | _ :: _ :: _ :: _ :: _, h, rr => exact h.elim
    | ex e => exact fun m' H' cls dd g2 r => h m' σ H' cls dd g2 (s.go g2).slots r
end

/-! ### walks -/
/-- J gives the items, one by one -/
def Yields (K : PySem.W.Frag) (m : Mp) (Ω : Om) (H : Hp) (ds : List D) (J : It) : Prop := ∀ (i : Nat) (m' : Mp) (Ω' : Om) (H' : Hp), Gw K m Ω H m' Ω' H' → CellsOk K m' Ω' H' →
  (∀ d, ds[i]? = some d → J.go i H' ∧ ∀ x H'', J.yld i H' x H'' → Go K m' Ω' H' m' Ω' H'' ∧ Rl K m' Ω' H'' d x) ∧ (ds.length ≤ i → J.stop i H')
def tIt (K : PySem.W.Frag) (E : St → XK) (f : Den (List D)) : TI := fun σ H R => tG K (fun m Ω H ds J => Yields K m Ω H ds J) E f σ H fun J H' => R J H'
abbrev DI (X : Cx) (E : St → XK) (tg iter : Expr) (f : Den (List D)) : Prop := PI X tg iter (tIt X.K E f)
def loopS (t : DenG) (b : DenS) : List D → Gm → Om → Option (Fl × Gm × Om)
  | [], Γ, Ω => some (.nx, Γ, Ω)
  | d :: r, Γ, Ω => match t d Γ with
    | none => none
    | some Γ1 => match b Γ1 Ω with
      | none => none
      | some (.nx, Γ2, Ω2) => loopS t b r Γ2 Ω2
      | some (.ct, Γ2, Ω2) => loopS t b r Γ2 Ω2
      | some (.bk, Γ2, Ω2) => some (.nx, Γ2, Ω2)
      | some x => some x
def sFor (f : Den (List D)) (t : DenG) (b : DenS) : DenS := fun Γ Ω => match f Γ Ω with
  | none => none
  | some (.ok ds, Ω1) => loopS t b ds Γ Ω1
  | some (.ex e, Ω1) => some (.ex e, Γ, Ω1)
section
variable {X : Cx} {E : St → XK} {tg iter : Expr} {body : List Stmt} {pos : Pos} {t : DenG} {f : Den (List D)} {b : DenS}
theorem ds_for (hp : PassesOwn (model X.prog X.w) X.A X.env X.xe) (hc : X.calm = true) (hi : DI X E tg iter f) (hg : DG X tg t) (hb : DSs X E body b)
    (hs : ∀ x, foldedSetIterable iter X.env x = pure x := by intro _; rfl) : DS X E (.For tg iter body [] pos) (sFor f t b) := PS.mono (ps_for hp hc hi hg hb hs) fun D σ H h => by
  obtain ⟨m, Γ, Ω, s, h⟩ := h
  refine ⟨m, Γ, Ω, s, ?_⟩
  unfold sFor at h
  cases e : f Γ Ω with
  | none => rw [e] at h; exact h
  | some z =>
    obtain ⟨q, Ω0⟩ := z
    rw [e] at h
    cases q with
    | ex e => exact fun m' H' cls dd g2 r => h m' σ H' cls dd g2 (s.go g2).slots r
    | ok ds =>
      intro m0 J H0 g0 Y
      have h : AfS X.K E D m Ω H (loopS t b ds Γ Ω0) := h
      refine ⟨fun i k σ' H' => k = ds.length - i ∧ i ≤ ds.length ∧ ∃ m' Γ' Ω', Go X.K m0 Ω0 H0 m' Ω' H' ∧ SR X.K m' Γ' Ω' σ' H' ∧ AfS X.K E D m' Ω' H' (loopS t b (ds.drop i) Γ' Ω'), ⟨ds.length, rfl, Nat.zero_le _, m0, Γ, Ω0, Go.refl g0.ok, s.go g0, AfS.go g0 h⟩, ?_⟩
      rintro i k σ' H' ⟨rfl, hi, m', Γ', Ω', g', s', a'⟩
      by_cases hlt : i < ds.length
      · right
        have e1 : ds[i]? = some ds[i] := List.getElem?_eq_getElem hlt
        obtain ⟨y1, _⟩ := Y i m' Ω' H' g'.toGw g'.ok
        obtain ⟨go1, yl⟩ := y1 _ e1
        rw [List.drop_eq_getElem_cons hlt] at a'
        refine ⟨go1, fun σ2 H2 => ∃ m2 Γ2 Ω2, Go X.K m0 Ω0 H0 m2 Ω2 H2 ∧ SR X.K m2 Γ2 Ω2 σ2 H2 ∧ AfS X.K E D m2 Ω2 H2 (loopS t b (ds.drop (i + 1)) Γ2 Ω2), fun σ2 H2 ⟨m2, Γ2, Ω2, z1, z2, z3⟩ => ⟨ds.length - (i + 1), by omega, rfl, hlt, m2, Γ2, Ω2, z1, z2, z3⟩, fun x H2 y2 => ?_⟩
        obtain ⟨g2, r2⟩ := yl x H2 y2
        have a2 : AfS X.K E D m' Ω' H2 (loopS t b (ds[i] :: ds.drop (i + 1)) Γ' Ω') := AfS.go g2 a'
        unfold loopS at a2
        cases e2 : t ds[i] Γ' with
        | none => rw [e2] at a2; exact a2.elim
        | some Γ1 =>
          rw [e2] at a2
          refine ⟨m', Γ', Ω', ds[i], Γ1, s'.go g2, r2, e2, fun σ3 sl3 => ⟨m', Γ1, Ω', ⟨g2.ok, sl3⟩, ?_⟩⟩
          dsimp only at a2
          cases e3 : b Γ1 Ω' with
          | none => rw [e3] at a2; exact a2.elim
          | some z =>
            obtain ⟨fl, Γ2, Ω2⟩ := z
            rw [e3] at a2
            cases fl with
            | nx => exact fun m3 σ4 H3 g3 sl4 => ⟨m3, Γ2, Ω2, (g'.trans g2).trans g3, ⟨g3.ok, sl4⟩, AfS.go g3 a2⟩
            | ct => exact fun m3 σ4 H3 g3 sl4 => ⟨m3, Γ2, Ω2, (g'.trans g2).trans g3, ⟨g3.ok, sl4⟩, AfS.go g3 a2⟩
            | bk => exact a2
            | rt d => exact a2
            | ex e => exact a2
      · left
        have ei : i = ds.length := by omega
        obtain ⟨_, y2⟩ := Y i m' Ω' H' g'.toGw g'.ok
        refine ⟨y2 (by omega), ?_⟩
        rw [List.drop_of_length_le (by omega)] at a'
        exact a' m' σ' H' (Go.refl s'.cells) s'.slots
end
end Dn


set_option Elab.async false
set_option linter.all false
set_option maxRecDepth 100000
/-! DnCall: defs and calls. -/
namespace Dn
open PySem PySem.Spec PyProof.Rows L2

abbrev FD := List D → Om → Option (Rs D × Om)
/-- a def's promise by its denotation -/
def spD (K : PySem.W.Frag) (n : Nat) (F : FD) : Sp := fun vs H Q E => vs.length = n ∧ ∃ m Ω ds, CellsOk K m Ω H ∧ RlL K m Ω H ds vs ∧ Af K (Rl K) E Q m Ω H (F ds Ω)
def endF (r : Option (Fl × Gm × Om)) : Option (Rs D × Om) := match r with
  | none => none
  | some (.nx, _, Ω) => some (.ok .non, Ω)
  | some (.rt d, _, Ω) => some (.ok d, Ω)
  | some (.ex e, _, Ω) => some (.ex e, Ω)
  | _ => none
@[simp] theorem endF_none : endF none = none := rfl
@[simp] theorem endF_nx (Γ : Gm) (Ω : Om) : endF (some (.nx, Γ, Ω)) = some (.ok .non, Ω) := rfl
@[simp] theorem endF_rt (d : D) (Γ : Gm) (Ω : Om) : endF (some (.rt d, Γ, Ω)) = some (.ok d, Ω) := rfl
@[simp] theorem endF_ex (e : Xn) (Γ : Gm) (Ω : Om) : endF (some (.ex e, Γ, Ω)) = some (.ex e, Ω) := rfl
def startG (n : Nat) (ds : List D) : Gm := ds.map some ++ List.replicate (n - ds.length) none
def fnD (n : Nat) (b : DenS) : FD := fun ds Ω => endF (b (startG n ds) Ω)
theorem slots_start {K : PySem.W.Frag} {m : Mp} {Ω : Om} {H : Hp} {N : List Str} {ds : List D} {vs : List V} (r : RlL K m Ω H ds vs) : Slots K m Ω H (startG N.length ds) (L2.start N vs) := by
  have hl := r.length
  refine ⟨by unfold startG L2.start; simp [hl], fun i d h => ?_⟩
  unfold startG at h
  by_cases hi : i < ds.length
  · rw [List.getElem?_append_left (by simpa using hi), List.getElem?_map] at h
    cases e : ds[i]? with
    | none => rw [e] at h; cases h
    | some x =>
      rw [e] at h
      cases h
      obtain ⟨v, h1, h2⟩ := r.get e
      refine ⟨v, ?_, h2⟩
      unfold L2.start
      rw [List.getElem?_append_left (by simp; omega), List.getElem?_map, h1]
      rfl
  · rw [List.getElem?_append_right (by simpa using hi), List.getElem?_replicate] at h
    split at h <;> cases h
section
variable {P : Program} {w : World} {K : PySem.W.Frag} {mg : Str → Option Value} {base : Heap} {x qual : Str} {params : Arguments} {body : List Stmt} {scope : Scope} {f : Addr} {fd : FuncData}
/-- a def by its body's denotation -/
theorem fn_def {N ps : List Str} {k : Nat} {b : DenS} (F : FunD K x qual params body scope [] [] f fd) (S : FnScope N ps scope)
    (hb : ∀ (cdv : Value) (A : Around) (outer : List Env) (s : Shared) (H : Hp) (E : XK), Room k (A.deeper (envOfC qual scope s.heap.objs.size f cdv)) → DSs (cxOf (L2.CX P w) P w K mg base N qual scope f cdv A outer s H E) (fun _ => E) body b) :
    FnOk P w K mg base (L2.CX P w) (k + 1) f fd ps (spD K ps.length (fnD N.length b)) := by
  refine F.ok S (fun vs H Q E h => h.1) (fun cdv A outer s H vs Q E hr h => ⟨_, hb cdv A outer s H E hr, ?_⟩)
  obtain ⟨hl, m, Ω, ds, c, r, q⟩ := h
  refine ⟨m, startG N.length ds, Ω, ⟨c, slots_start r⟩, ?_⟩
  unfold fnD at q
  show AfS K (fun _ => E) _ m Ω H (b (startG N.length ds) Ω)
  cases e : b (startG N.length ds) Ω with
  | none => rw [e] at q; exact q
  | some z =>
    obtain ⟨fl, Γ', Ω'⟩ := z
    rw [e] at q
    cases fl with
    | nx => exact fun m' σ' H' g sl => q m' .non H' g (by unfold Rl; rfl)
    | rt d => exact q
    | ex e => exact fun m' σ' H' cls dd g sl r => q m' H' cls dd g r
    | bk => exact q.elim
    | ct => exact q.elim
end
/-! ### the local cells are left behind -/
def frz (k : Nat) (Ω : Om) (d : D) : D := match d with
  | .ref n => if n < k then .ref n else match Ω[n]? with
    | some (.lst xs) => .lst xs
    | some (.dct kvs) => .dct kvs
    | some (.ins c fs) => .obj c fs
    | _ => .ref n
  | d => d
def clean (F : FD) : FD := fun ds Ω => match F ds Ω with
  | none => none
  | some (Rs.ok d, Ω') => if below Ω.length (frz Ω.length Ω' d) = true ∧ cellsBelow Ω.length Ω' = true then some (.ok (frz Ω.length Ω' d), Ω'.take Ω.length) else none
  | some (.ex e, Ω') => if belowF Ω.length e.fs = true ∧ cellsBelow Ω.length Ω' = true then some (.ex e, Ω'.take Ω.length) else none
section
variable {K : PySem.W.Frag} {m : Mp} {Ω : Om} {H : Hp} {E : XK} {Q : VK}
theorem frz_ok {k : Nat} (c : CellsOk K m Ω H) {d : D} {v : V} (r : Rl K m Ω H d v) (hb : below k (frz k Ω d) = true) : Rl K (Mp.take k m) (Ω.take k) H (frz k Ω d) v := by
  cases d with
  | ref n =>
    unfold frz at hb ⊢
    dsimp only at hb ⊢
    by_cases hn : n < k
    · rw [if_pos hn] at hb ⊢
      exact Rl.take _ v hb r
    · rw [if_neg hn] at hb ⊢
      unfold Rl at r
      obtain ⟨a, ev, ha⟩ := r
      have hl : ¬ Live (Mp.take k m) (Ω.take k) a := fun l => by
        rcases l with ⟨i, x, h1, _⟩ | l
        · have h1 : (m.l.take k)[i]? = some a := h1
          rw [List.getElem?_take] at h1
          by_cases hi : i < k
          · rw [if_pos hi] at h1
            exact hn (c.nodup_ix h1 ha ▸ hi)
          · rw [if_neg hi] at h1
            cases h1
        · exact (c.hl a l).2 (List.mem_of_getElem? ha)
      cases e : Ω[n]? with
      | none =>
        rw [e] at hb
        have z : below k (.ref n) = true := hb
        unfold below at z
        exact (hn (of_decide_eq_true z)).elim
      | some x =>
        rw [e] at hb
        have ck := c.at_ n x a e ha
        cases x with
        | lst xs =>
          obtain ⟨vs, h1, h2⟩ := ck
          have z : below k (.lst xs) = true := hb
          unfold below at z
          show Rl K (Mp.take k m) (Ω.take k) H (.lst xs) v
          unfold Rl
          exact ⟨a, vs, ev, h1, hl, RlL.take xs vs z h2⟩
        | dct xs =>
          obtain ⟨vs, h1, h2⟩ := ck
          have z : below k (.dct xs) = true := hb
          unfold below at z
          show Rl K (Mp.take k m) (Ω.take k) H (.dct xs) v
          unfold Rl
          exact ⟨a, vs, ev, .inl h1, hl, RlK.take xs vs z h2⟩
        | ins cc xs =>
          obtain ⟨dx, vs, h1, h2⟩ := ck
          have z : below k (.obj cc xs) = true := hb
          unfold below at z
          show Rl K (Mp.take k m) (Ω.take k) H (.obj cc xs) v
          unfold Rl
          exact ⟨a, dx, vs, ev, h1, hl, RlF.take xs vs z h2⟩
        | dead =>
          have z : below k (.ref n) = true := hb
          unfold below at z
          exact (hn (of_decide_eq_true z)).elim
  | _ => exact Rl.take _ v hb r
theorem XRel.take {k : Nat} {e : Xn} {cls : Value} {dd : Option Addr} (r : XRel K m Ω H e cls dd) (hb : belowF k e.fs = true) : XRel K (Mp.take k m) (Ω.take k) H e cls dd := by
  obtain ⟨h1, h2⟩ := r
  refine ⟨h1, h2.imp (fun z => z) fun ⟨d, gs, z1, z2, z3⟩ => ⟨d, gs, z1, z2, RlF.take _ _ hb z3⟩⟩
theorem clean_ok {F : FD} {ds : List D} (c : CellsOk K m Ω H) (h : Af K (Rl K) E Q m Ω H (clean F ds Ω)) : Af K (Rl K) E Q m Ω H (F ds Ω) := by
  unfold clean at h
  cases e : F ds Ω with
  | none => rw [e] at h; exact h
  | some z =>
    obtain ⟨r, Ω'⟩ := z
    rw [e] at h
    cases r with
    | ok d =>
      obtain ⟨⟨b1, b2⟩, h⟩ := Af.guard h
      intro m' v H' g r
      exact h (Mp.take Ω.length m') v H' (Go.take g (by rw [c.len]; exact Nat.le_refl _) b2) (frz_ok g.ok r b1)
    | ex e =>
      obtain ⟨⟨b1, b2⟩, h⟩ := Af.guard h
      intro m' H' cls dd g r
      exact h (Mp.take Ω.length m') H' cls dd (Go.take g (by rw [c.len]; exact Nat.le_refl _) b2) (r.take b1)
theorem spD_clean {n : Nat} {F : FD} {vs : List V} (h : spD K n (clean F) vs H Q E) : spD K n F vs H Q E := by
  obtain ⟨hl, m, Ω, ds, c, r, q⟩ := h
  exact ⟨hl, m, Ω, ds, c, r, clean_ok c q⟩
end
theorem FnOk.clean {P : Program} {w : World} {K : PySem.W.Frag} {mg : Str → Option Value} {base : Heap} {CX : CXT} {k n : Nat} {f : Addr} {fd : FuncData} {ps : List Str} {F : FD} (G : FnOk P w K mg base CX k f fd ps (spD K n F)) : FnOk P w K mg base CX k f fd ps (spD K n (Dn.clean F)) := G.imp fun _ _ _ _ h => spD_clean h

/-! ### calls -/
/-- the module's name x is a def with this denotation -/
structure FnG (P : Program) (w : World) (K : PySem.W.Frag) (mg : Str → Option Value) (base : Heap) (x : Str) (ps : List Str) (k : Nat) (F : FD) : Prop where
  ex : ∃ f fd, mg x = some (.ref f) ∧ FnOk P w K mg base (L2.CX P w) k f fd ps (spD K ps.length F) ∧ PySem.W.keepIn K (.ref f) = true ∧ Binds K fd ps []
def fCall (n : Nat) (F : FD) (r : Den (List D)) : Den D := bnd r fun ds _ Ω => if ds.length = n then F ds Ω else none
section
variable {X : Cx} {E : L2.St → XK} {x : Str} {ps : List Str} {k : Nat} {F : FD} {e : Expr} {es : List Expr} {r : Den (List D)} {p pos : Pos}
theorem sp_of {n : Nat} {σ : L2.St} {H : Hp} {Q : VK} {m : Mp} {Ω : Om} {ds : List D} {vs : List V} (c : CellsOk X.K m Ω H) (rr : RlL X.K m Ω H ds vs) (q : Af X.K (Rl X.K) (E σ) Q m Ω H (if ds.length = n then F ds Ω else none)) : spD X.K n F vs H Q (E σ) := by
  obtain ⟨hl, q⟩ := Af.guard q
  exact ⟨by rw [← rr.length]; exact hl, m, Ω, ds, c, rr, q⟩
theorem de_call (G : FnG X.prog X.w X.K X.mg X.base x ps k F) (hr : Room k X.A) (hx : ∀ σ, PassesAt (L2.CX X.prog X.w) X σ (E σ)) (ha : DA X E (e :: es) r) (hg : Gl X x := by rfl)
    (hdb : (x == ("__debug__" : Str)) = false := by decide) (he : starEach (e :: es) X.env = (false, eval e X.env) :: starEach es X.env := by rfl) (hpl : (backTo pos (starEach es X.env)).any (·.1) = false := by rfl) :
    DE X E (.Call (.Name x p) (e :: es) [] pos) (fCall ps.length F r) := by
  obtain ⟨f, fd, hm, ok, kp, bi⟩ := G.ex
  refine PE.mono (pe_callS ok hr hg hm kp bi hx ha hdb he hpl) fun σ H Q h => ?_
  obtain ⟨m, Γ, Ω, s, h⟩ := h
  refine ⟨m, Γ, Ω, s, (Af.bind (R := RlL X.K) h).imp fun _ _ _ _ _ _ _ _ ⟨m1, Ω1, ds, g1, r1, q⟩ => ?_⟩
  exact sp_of g1.ok r1 q
end
/-- nothing is let out of a comprehension's block -/
abbrev E0S : L2.St → XK := fun _ _ _ _ => False
theorem pass00 {X : Cx} (σ : L2.St) : PassesAt (L2.CX X.prog X.w) X σ (E0S σ) := fun _ _ _ _ _ _ h => by
  obtain ⟨_, _, _, _, _, _, _, _, _, _, _, _, z⟩ := h
  exact z.elim
end Dn


set_option Elab.async false
set_option linter.all false
set_option maxRecDepth 100000
/-! DnEq: == of data. -/
namespace Dn
open PySem L2

section
variable (g : Nat → Option PyData)
mutual
def toPg : D → Option PyData
  | .non => some .none
  | .bl b => some (.bool b)
  | .int i => some (.int i)
  | .str x => some (.str x)
  | .tup xs => (toPLg xs).map .tuple
  | .lst xs => (toPLg xs).map .list
  | .ref n => g n
  | .dct _ => none
  | .obj _ _ => none
  | .scr _ => none
def toPLg : List D → Option (List PyData)
  | [] => some []
  | d :: ds => match toPg d with
    | none => none
    | some p => match toPLg ds with
      | none => none
      | some ps => some (p :: ps)
end
end
def toP (Ω : Om) : Nat → D → Option PyData
  | 0 => toPg fun _ => none
  | k + 1 => toPg fun n => match Ω[n]? with
    | some (.lst xs) => (toPLg (fun n => toP Ω k (.ref n)) xs).map .list
    | _ => none
section
variable {K : PySem.W.Frag} {m : Mp} {Ω : Om} {H : Hp} {g : Nat → Option PyData}
mutual
theorem toPg_ok (c : CellsOk K m Ω H) (hg : ∀ n p v, Rl K m Ω H (.ref n) v → g n = some p → Dp K H v p) : ∀ (d : D) (v : V) (p : PyData), Rl K m Ω H d v → toPg g d = some p → Dp K H v p
  | .non, v, p, r, e => by unfold Rl at r; unfold toPg at e; cases e; subst r; exact .non
  | .bl b, v, p, r, e => by unfold Rl at r; unfold toPg at e; cases e; subst r; exact .bl b
  | .int b, v, p, r, e => by unfold Rl at r; unfold toPg at e; cases e; subst r; exact .int b
  | .str b, v, p, r, e => by unfold Rl at r; unfold toPg at e; cases e; subst r; exact .str b
  | .tup xs, v, p, r, e => by
    unfold Rl at r
    unfold toPg at e
    obtain ⟨a, vs, ev, h1, h2⟩ := r
    cases q : toPLg g xs with
    | none => rw [q] at e; cases e
    | some ps =>
      rw [q] at e
      cases e
      subst ev
      exact .tup h1.sq (toPLg_ok c hg xs vs ps h2 q)
  | .lst xs, v, p, r, e => by
    unfold Rl at r
    unfold toPg at e
    obtain ⟨a, vs, ev, h1, _, h2⟩ := r
    cases q : toPLg g xs with
    | none => rw [q] at e; cases e
    | some ps =>
      rw [q] at e
      cases e
      subst ev
      exact .lst (SqL.of h1) (toPLg_ok c hg xs vs ps h2 q)
  | .ref n, v, p, r, e => by unfold toPg at e; exact hg n p v r e
  | .dct _, v, p, r, e => by unfold toPg at e; cases e
  | .obj _ _, v, p, r, e => by unfold toPg at e; cases e
  | .scr _, v, p, r, e => by unfold toPg at e; cases e
theorem toPLg_ok (c : CellsOk K m Ω H) (hg : ∀ n p v, Rl K m Ω H (.ref n) v → g n = some p → Dp K H v p) : ∀ (ds : List D) (vs : List V) (ps : List PyData), RlL K m Ω H ds vs → toPLg g ds = some ps → DpAll K H vs ps
  | [], vs, ps, r, e => by unfold RlL at r; unfold toPLg at e; cases e; subst r; exact .nil
  | d :: ds, vs, ps, r, e => by
    unfold RlL at r
    unfold toPLg at e
    obtain ⟨v, w, ev, h1, h2⟩ := r
    subst ev
    cases q : toPg g d with
    | none => rw [q] at e; cases e
    | some p =>
      rw [q] at e
      dsimp only at e
      cases q2 : toPLg g ds with
      | none => rw [q2] at e; cases e
      | some qs =>
        rw [q2] at e
        cases e
        exact .cons (toPg_ok c hg d v p h1 q) (toPLg_ok c hg ds w qs h2 q2)
end
theorem toP_ok (c : CellsOk K m Ω H) : ∀ (k : Nat) (d : D) (v : V) (p : PyData), Rl K m Ω H d v → toP Ω k d = some p → Dp K H v p
  | 0, d, v, p, r, e => toPg_ok c (fun n p v _ e => by cases e) d v p r e
  | k + 1, d, v, p, r, e => by
    refine toPg_ok c (fun n p v r e => ?_) d v p r e
    cases q : Ω[n]? with
    | none => rw [q] at e; cases e
    | some x =>
      rw [q] at e
      cases x with
      | lst xs =>
        dsimp only at e
        cases q2 : toPLg (fun n => toP Ω k (.ref n)) xs with
        | none => rw [q2] at e; cases e
        | some ps =>
          rw [q2] at e
          cases e
          unfold Rl at r
          obtain ⟨a, ev, ha⟩ := r
          obtain ⟨vs, h1, h2⟩ := c.at_ n _ a q ha
          subst ev
          exact .lst (SqL.of h1) (toPLg_ok c (fun n p v r e => toP_ok c k (.ref n) v p r e) xs vs ps h2 q2)
      | _ => cases e
def eqG (b : Bool → D) : Op2 := fun x y Ω => match x, y with
  | .int i, .int j => some (.ok (b (decide (i = j))), Ω)
  | x, y => match toP Ω 3 x with
    | some p => match toP Ω 3 y with
      | some q => if SeqAt.shaped p = true ∧ SeqAt.shaped q = true then some (.ok (b (PyData.eqv p q)), Ω) else none
      | none => none
    | none => none
def dEq : Op2 := eqG fun b => .bl b
def dNe : Op2 := eqG fun b => .bl (!b)
theorem eqG_ok {b : Bool → D} {E : XK} {x y : D} {v u : V} {Q : VK} (c : CellsOk K m Ω H) (rx : Rl K m Ω H x v) (ry : Rl K m Ω H y u) (q : Af K (Rl K) E Q m Ω H (eqG b x y Ω)) :
    ∃ d e, Dp K H v d ∧ Dp K H u e ∧ SeqAt.shaped d = true ∧ SeqAt.shaped e = true ∧ Af K (Rl K) E Q m Ω H (some (.ok (b (PyData.eqv d e)), Ω)) := by
  have gen : ∀ x' y', x' = x → y' = y → Af K (Rl K) E Q m Ω H (match toP Ω 3 x' with
    | some p => match toP Ω 3 y' with
      | some q => if SeqAt.shaped p = true ∧ SeqAt.shaped q = true then some (.ok (b (PyData.eqv p q)), Ω) else none
      | none => none
    | none => none) → ∃ d e, Dp K H v d ∧ Dp K H u e ∧ SeqAt.shaped d = true ∧ SeqAt.shaped e = true ∧ Af K (Rl K) E Q m Ω H (some (.ok (b (PyData.eqv d e)), Ω)) := fun x' y' e1 e2 qq => by
    clear q
    subst e1 e2
    cases h1 : toP Ω 3 x' with
    | none => rw [h1] at qq; exact qq.elim
    | some p =>
      rw [h1] at qq
      dsimp only at qq
      cases h2 : toP Ω 3 y' with
      | none => rw [h2] at qq; exact qq.elim
      | some z =>
        rw [h2] at qq
        obtain ⟨⟨s1, s2⟩, qq⟩ := Af.guard qq
        exact ⟨p, z, toP_ok c 3 _ _ _ rx h1, toP_ok c 3 _ _ _ ry h2, s1, s2, qq⟩
  cases x with
  | int i =>
    cases y with
    | int j =>
      unfold Rl at rx ry
      subst rx ry
      exact ⟨_, _, .int i, .int j, rfl, rfl, by
        have e : PyData.eqv (.int i) (.int j) = decide (i = j) := by
          simp only [PyData.eqv]
          by_cases h : i = j
          · simp [h]
          · simp [h]
        rw [e]
        exact q⟩
    | _ => exact gen _ _ rfl rfl q
  | _ => cases y <;> exact gen _ _ rfl rfl q
theorem od_eq : OpD K dEq (rEqD K) := by
  intro E m Ω H x y v u Q c rx ry q
  obtain ⟨d, e, h1, h2, s1, s2, q⟩ := eqG_ok c rx ry q
  exact ⟨d, e, h1, h2, s1, s2, q.now c rl_bl⟩
theorem od_ne : OpD K dNe (rNeD K) := by
  intro E m Ω H x y v u Q c rx ry q
  obtain ⟨d, e, h1, h2, s1, s2, q⟩ := eqG_ok c rx ry q
  exact ⟨d, e, h1, h2, s1, s2, q.now c rl_bl⟩
/-- is None -/
def isNon : D → Bool
  | .non => true
  | _ => false
def dIsN : Op2 := fun x y Ω => match y with
  | .non => some (.ok (.bl (isNon x)), Ω)
  | _ => none
def dNotN : Op2 := fun x y Ω => match y with
  | .non => some (.ok (.bl (!(isNon x))), Ω)
  | _ => none
theorem isN_of {x : D} {v : V} (r : Rl K m Ω H x v) : (isNon x) = decide (v = .non) := by
  cases x with
  | non => unfold Rl at r; subst r; rfl
  | bl b => unfold Rl at r; subst r; rfl
  | int b => unfold Rl at r; subst r; rfl
  | str b => unfold Rl at r; subst r; rfl
  | tup b => unfold Rl at r; obtain ⟨a, _, e, _⟩ := r; subst e; rfl
  | lst b => unfold Rl at r; obtain ⟨a, _, e, _⟩ := r; subst e; rfl
  | dct b => unfold Rl at r; obtain ⟨a, _, e, _⟩ := r; subst e; rfl
  | obj b fs => unfold Rl at r; obtain ⟨a, _, _, e, _⟩ := r; subst e; rfl
  | ref b => unfold Rl at r; obtain ⟨a, e, _⟩ := r; subst e; rfl
  | scr b => unfold Rl at r; obtain ⟨a, e, _⟩ := r; subst e; rfl
theorem od_isN : OpD K dIsN (fun x y H Q => y = .non ∧ Q (.bl (decide (x = .non))) H) := by
  intro E m Ω H x y v u Q c rx ry q
  cases y with
  | non =>
    unfold Rl at ry
    have q2 : Af K (Rl K) E Q m Ω H (some (.ok (.bl (isNon x)), Ω)) := q
    rw [isN_of rx] at q2
    exact ⟨ry, q2.now c rl_bl⟩
  | _ => exact q.elim
theorem od_notN : OpD K dNotN (fun x y H Q => y = .non ∧ Q (.bl (!decide (x = .non))) H) := by
  intro E m Ω H x y v u Q c rx ry q
  cases y with
  | non =>
    unfold Rl at ry
    have q2 : Af K (Rl K) E Q m Ω H (some (.ok (.bl (!isNon x)), Ω)) := q
    rw [isN_of rx] at q2
    exact ⟨ry, q2.now c rl_bl⟩
  | _ => exact q.elim
end
section
variable {X : Cx} {E : St → XK} {a b e : Expr} {f g : Den D} {pos : Pos} {k : Nat}
theorem de_eq (hr : Room k X.A) (ha : DE X E a f) (hb : DE X E b g) : DE X E (.Compare a [.Eq] [b] pos) (fBin dEq f g) := de_cmp (op_eqD hr.units) od_eq ha hb (nomark _)
theorem de_ne (hr : Room k X.A) (ha : DE X E a f) (hb : DE X E b g) : DE X E (.Compare a [.NotEq] [b] pos) (fBin dNe f g) := de_cmp (op_neD hr.units) od_ne ha hb (nomark _)
theorem dt_eq (hr : Room k X.A) (ha : DE X E a f) (hb : DE X E b g) : DT X E (.Compare a [.Eq] [b] pos) (fT (fBin dEq f g)) := dt_cmp (op_eqD hr.units) od_eq ha hb (nomark _)
theorem dt_ne (hr : Room k X.A) (ha : DE X E a f) (hb : DE X E b g) : DT X E (.Compare a [.NotEq] [b] pos) (fT (fBin dNe f g)) := dt_cmp (op_neD hr.units) od_ne ha hb (nomark _)
theorem de_isN (ha : DE X E a f) (hb : DE X E b g) : DE X E (.Compare a [.Is] [b] pos) (fBin dIsN f g) := de_cmp op_isN od_isN ha hb (nomark _)
theorem de_notN (ha : DE X E a f) (hb : DE X E b g) : DE X E (.Compare a [.IsNot] [b] pos) (fBin dNotN f g) := de_cmp op_notN od_notN ha hb (nomark _)
theorem dt_isN (ha : DE X E a f) (hb : DE X E b g) : DT X E (.Compare a [.Is] [b] pos) (fT (fBin dIsN f g)) := dt_cmp op_isN od_isN ha hb (nomark _)
theorem dt_notN (ha : DE X E a f) (hb : DE X E b g) : DT X E (.Compare a [.IsNot] [b] pos) (fT (fBin dNotN f g)) := dt_cmp op_notN od_notN ha hb (nomark _)
/-- a < b < c -/
def fChain (o o' : Op2) (f g h : Den D) : Den D := bnd f fun x => bnd g fun y => bnd (fT fun _ Ω => o x y Ω) fun b => if b = true then bnd h fun z _ Ω => o' y z Ω else fC (.bl false)
theorem chain_of {o o' : Op2} {r r' : R2} {f g h : Den D} (od : OpD X.K o r) (od' : OpD X.K o' r') {σ : St} {H : Hp} {Q : VK} (hh : tD X.K E (fChain o o' f g h) σ H Q) : tChain r r' (tD X.K E f) (tD X.K E g) (tD X.K E h) σ H Q := by
  obtain ⟨m, Γ, Ω, s, hh⟩ := hh
  refine ⟨m, Γ, Ω, s, (Af.bind (R := Rl X.K) hh).imp fun _ _ _ _ _ _ _ _ ⟨m1, Ω1, x, g1, r1, q⟩ => ⟨m1, Γ, Ω1, s.go g1, (Af.bind (R := Rl X.K) q).imp fun _ _ _ _ _ _ _ _ ⟨m2, Ω2, y, g2, r2, q2⟩ => ?_⟩⟩
  refine od (E σ) m2 Ω2 _ x y _ _ _ g2.ok (Rl.go g2.toGw g1.ok x _ r1) r2 ?_
  have q3 := Af.bind (R := fun _ _ _ a b => a = b) (β := Bool) q2
  have q4 := Af.bind (R := Rl X.K) q3
  refine q4.imp fun _ _ H3 _ v3 _ _ _ ⟨m3, Ω3, d3, g3, r3, q5⟩ => ?_
  cases d3 with
  | bl b =>
    unfold Rl at r3
    refine ⟨b, r3, ?_⟩
    obtain ⟨m4, Ω4, b4, g4, e4, q6⟩ := q5 m3 b H3 (Go.refl g3.ok) rfl
    subst e4
    cases b4 with
    | false => exact q6.now g4.ok rl_bl
    | true =>
      show tD X.K E h σ H3 _
      refine ⟨m4, Γ, Ω4, ((s.go g1).go g2).go g4, (Af.bind (R := Rl X.K) q6).imp fun _ _ _ _ _ _ _ _ ⟨m5, Ω5, z, g5, r5, q7⟩ => ?_⟩
      exact od' (E σ) m5 Ω5 _ y z _ _ _ g5.ok (Rl.go (g4.trans g5).toGw g2.ok y _ r2) r5 q7
  | _ => exact q5.elim
theorem de_chain {c : Expr} {op op' : CmpOp} {o o' : Op2} {r r' : R2} {h : Den D} (hr : OpR X (compareOp op) r) (hr' : OpR X (compareOp op') r') (od : OpD X.K o r) (od' : OpD X.K o' r') (ha : DE X E a f) (hb : DE X E b g) (hc : DE X E c h)
    (hl : lastMarks [op, op'] [b, c] = false := by rfl) : DE X E (.Compare a [op, op'] [b, c] pos) (fChain o o' f g h) := PE.mono (pe_chain hr hr' ha hb hc hl) fun _ _ _ hh => chain_of od od' hh
theorem dt_chain {c : Expr} {op op' : CmpOp} {o o' : Op2} {r r' : R2} {h : Den D} (hr : OpR X (compareOp op) r) (hr' : OpR X (compareOp op') r') (od : OpD X.K o r) (od' : OpD X.K o' r') (ha : DE X E a f) (hb : DE X E b g) (hc : DE X E c h)
    (hl : lastMarks [op, op'] [b, c] = false := by rfl) : DT X E (.Compare a [op, op'] [b, c] pos) (fT (fChain o o' f g h)) := PT.mono (pt_chain hr hr' ha hb hc hl) fun _ _ _ hh => by
  have h2 := tT_of hh
  exact chain_of od od' h2
theorem dt_leLt {c : Expr} {h : Den D} (ha : DE X E a f) (hb : DE X E b g) (hc : DE X E c h) (hl : lastMarks [CmpOp.LtE, CmpOp.Lt] [b, c] = false := by rfl) : DT X E (.Compare a [.LtE, .Lt] [b, c] pos) (fT (fChain dLe dLt f g h)) := dt_chain op_le op_lt od_le od_lt ha hb hc hl
theorem dt_leLe {c : Expr} {h : Den D} (ha : DE X E a f) (hb : DE X E b g) (hc : DE X E c h) (hl : lastMarks [CmpOp.LtE, CmpOp.LtE] [b, c] = false := by rfl) : DT X E (.Compare a [.LtE, .LtE] [b, c] pos) (fT (fChain dLe dLe f g h)) := dt_chain op_le op_le od_le od_le ha hb hc hl
end
end Dn


set_option Elab.async false
set_option linter.all false
set_option maxRecDepth 100000
/-! DnIter: what is walked; list comprehensions. -/
namespace Dn
open PySem L2
theorem PI.mono {X : Cx} {tg iter : Expr} {w w' : TI} (h : PI X tg iter w) (i : ∀ σ H R, w' σ H R → w σ H R) : PI X tg iter w' := ⟨fun pins s σ H R I q => h.run pins s σ H R I (i σ H R q)⟩
theorem PI.or {X : Cx} {tg iter : Expr} {w w' : TI} (h : PI X tg iter w) (h' : PI X tg iter w') : PI X tg iter (fun σ H R => w σ H R ∨ w' σ H R) := ⟨fun pins s σ H R I q => q.elim (h.run pins s σ H R I) (h'.run pins s σ H R I)⟩
section
variable {K : PySem.W.Frag} {m : Mp} {Ω : Om} {H : Hp}
theorem yields_list {a : Addr} {vs : List V} {ds : List D} (c : CellsOk K m Ω H) (h1 : H a = some (.lst vs)) (hl : ¬ Live m Ω a) (h2 : RlL K m Ω H ds vs) : Yields K m Ω H ds (Itl K a) := fun i m' Ω' H' g ok => by
  have e1 := g.frame _ _ h1 hl
  have e2 := RlL.go g c ds vs h2
  refine ⟨fun d hd => ?_, fun hi => ⟨vs, SqL.of e1, by rw [← h2.length]; exact hi⟩⟩
  obtain ⟨v, hv, rv⟩ := e2.get hd
  refine ⟨⟨vs, v, SqL.of e1, hv⟩, fun x H'' y => ?_⟩
  obtain ⟨e, y⟩ := y
  subst e
  have z := y vs (SqL.of e1)
  rw [hv] at z
  cases z
  exact ⟨Go.refl ok, rv⟩
theorem yields_tup {a : Addr} {vs : List V} {ds : List D} (c : CellsOk K m Ω H) (h1 : SqT K H a vs) (h2 : RlL K m Ω H ds vs) : Yields K m Ω H ds (Itt K a) := fun i m' Ω' H' g ok => by
  have e1 := g.sqT c h1
  have e2 := RlL.go g c ds vs h2
  refine ⟨fun d hd => ?_, fun hi => ⟨vs, e1, by rw [← h2.length]; exact hi⟩⟩
  obtain ⟨v, hv, rv⟩ := e2.get hd
  refine ⟨⟨vs, v, e1, hv⟩, fun x H'' y => ?_⟩
  obtain ⟨e, y⟩ := y
  subst e
  have z := y vs e1
  rw [hv] at z
  cases z
  exact ⟨Go.refl ok, rv⟩
def rangeD (lo : Int) (n : Nat) : List D := (List.range n).map fun (i : Nat) => .int (lo + (i : Int))
theorem yields_range {lo : Int} {n : Nat} : Yields K m Ω H (rangeD lo n) (Itr lo n) := fun i m' Ω' H' g ok => by
  refine ⟨fun d hd => ?_, fun hi => by unfold rangeD at hi; rw [List.length_map, List.length_range] at hi; exact hi⟩
  unfold rangeD at hd
  rw [List.getElem?_map] at hd
  cases e : (List.range n)[i]? with
  | none => rw [e] at hd; cases hd
  | some j =>
    rw [e] at hd
    have hi : i < n := by simpa using (List.getElem?_eq_some_iff.mp e).1
    have ej : j = i := by
      have := (List.getElem?_eq_some_iff.mp e).2
      simpa using this.symm
    subst ej
    cases hd
    refine ⟨hi, fun x H'' y => ?_⟩
    obtain ⟨e1, e2⟩ := y
    subst e1 e2
    exact ⟨Go.refl ok, rl_int⟩
def enumD (k : Nat) : List D → List D
  | [] => []
  | d :: ds => .tup [.int (k : Int), d] :: enumD (k + 1) ds
theorem enumD_get : ∀ (ds : List D) (k i : Nat) (d : D), (enumD k ds)[i]? = some d → ∃ e, ds[i]? = some e ∧ d = .tup [.int ((k + i : Nat) : Int), e]
  | [], k, i, d, h => by unfold enumD at h; simp at h
  | e :: ds, k, 0, d, h => by
    unfold enumD at h
    simp at h
    exact ⟨e, rfl, by rw [← h]; rfl⟩
  | e :: ds, k, i + 1, d, h => by
    unfold enumD at h
    obtain ⟨x, h1, h2⟩ := enumD_get ds (k + 1) i d (by simpa using h)
    exact ⟨x, by simpa using h1, by rw [h2, show k + 1 + i = k + (i + 1) by omega]⟩
theorem enumD_length : ∀ (ds : List D) (k : Nat), (enumD k ds).length = ds.length
  | [], k => rfl
  | e :: ds, k => by unfold enumD; rw [List.length_cons, List.length_cons, enumD_length ds]
theorem yields_enum {a : Addr} {vs : List V} {ds : List D} (c : CellsOk K m Ω H) (h1 : H a = some (.lst vs)) (hl : ¬ Live m Ω a) (h2 : RlL K m Ω H ds vs) : Yields K m Ω H (enumD 0 ds) (Ite K a) := fun i m' Ω' H' g ok => by
  have e1 := g.frame _ _ h1 hl
  have e2 := RlL.go g c ds vs h2
  refine ⟨fun d hd => ?_, fun hi => ⟨vs, SqL.of e1, by rw [← h2.length]; rw [enumD_length] at hi; exact hi⟩⟩
  obtain ⟨e, hd, ed⟩ := enumD_get ds 0 i d hd
  obtain ⟨v, hv, rv⟩ := e2.get hd
  refine ⟨⟨vs, v, SqL.of e1, hv⟩, fun x H'' y => ?_⟩
  obtain ⟨T, x', ex, hT, eH, y⟩ := y
  have z := y vs (SqL.of e1)
  rw [hv] at z
  cases z
  subst ex eH ed
  refine ⟨Go.new ok hT, ?_⟩
  unfold Rl
  refine ⟨T, _, rfl, .inl upd_same, ?_⟩
  unfold RlL
  refine ⟨_, _, rfl, by rw [Nat.zero_add]; exact rl_int, RlL.new ok hT (RlL.one rv)⟩
end
def fSeq (f : Den D) : Den (List D) := bnd f fun d _ Ω => match d with
  | .lst xs => some (.ok xs, Ω)
  | .tup xs => some (.ok xs, Ω)
  | _ => none
def fRange1 (r : Den (List D)) : Den (List D) := bnd r fun ds _ Ω => match ds with
  | [d] => match d with
    | .int j => if -(2 ^ 62) ≤ j ∧ j < 2 ^ 62 then some (.ok (rangeD 0 j.toNat), Ω) else none
    | _ => none
  | _ => none
def fRange2 (r : Den (List D)) : Den (List D) := bnd r fun ds _ Ω => match ds with
  | [d, e] => match d, e with
    | .int i, .int j => if -(2 ^ 62) ≤ i ∧ i < 2 ^ 62 ∧ -(2 ^ 62) ≤ j ∧ j < 2 ^ 62 then some (.ok (rangeD i (j - i).toNat), Ω) else none
    | _, _ => none
  | _ => none
def fEnum (r : Den (List D)) : Den (List D) := bnd r fun ds _ Ω => match ds with
  | [d] => match d with
    | .lst xs => some (.ok (enumD 0 xs), Ω)
    | _ => none
  | _ => none
section
variable {X : Cx} {E : St → XK} {tg e a b : Expr} {f : Den D} {r : Den (List D)} {p pos : Pos}
theorem di_seq (h : DE X E e f) : DI X E tg e (fSeq f) := PI.mono (PI.or (pi_list h) (pi_tup h)) fun σ H R h => by
  obtain ⟨m, Γ, Ω, s, h⟩ := h
  unfold fSeq bnd at h
  cases e : f Γ Ω with
  | none => rw [e] at h; exact h.elim
  | some z =>
    obtain ⟨q, Ω1⟩ := z
    rw [e] at h
    cases q with
    | ex x =>
      refine .inl ⟨m, Γ, Ω, s, ?_⟩
      rw [e]
      exact h
    | ok d =>
      cases d with
      | lst xs =>
        refine .inl ⟨m, Γ, Ω, s, ?_⟩
        rw [e]
        intro m1 v H1 g1 r1
        unfold Rl at r1
        obtain ⟨a, vs, ev, h1, hl, h2⟩ := r1
        exact ⟨a, ev, ⟨vs, SqL.of h1⟩, h m1 _ H1 g1 (yields_list g1.ok h1 hl h2)⟩
      | tup xs =>
        refine .inr ⟨m, Γ, Ω, s, ?_⟩
        rw [e]
        intro m1 v H1 g1 r1
        unfold Rl at r1
        obtain ⟨a, vs, ev, h1, h2⟩ := r1
        exact ⟨a, ev, ⟨vs, h1.sq⟩, h m1 _ H1 g1 (yields_tup g1.ok h1.sq h2)⟩
      | _ => exact h.elim
theorem di_range1 (ha : DA X E [a] r) (hm : X.mg "range" = none) (hg : Gl X "range" := by rfl) (hs : starEach [a] X.env = [(false, eval a X.env)] := by rfl) : DI X E tg (.Call (.Name "range" p) [a] [] pos) (fRange1 r) := PI.mono (pi_range1 hg hm ha hs) fun σ H R h => by
  obtain ⟨m, Γ, Ω, s, h⟩ := h
  refine ⟨m, Γ, Ω, s, (Af.bind (R := RlL X.K) h).imp fun _ _ H1 _ vs _ _ _ ⟨m1, Ω1, ds, g1, r1, q⟩ => ?_⟩
  match ds, q, r1 with
  | [.int j], q, r1 =>
    obtain ⟨⟨b1, b2⟩, q⟩ := Af.guard q
    unfold RlL at r1
    obtain ⟨v, w, ev, q1, q2⟩ := r1
    unfold RlL at q2
    unfold Rl at q1
    subst q2 q1 ev
    exact ⟨j, rfl, b1, b2, q m1 _ H1 (Go.refl g1.ok) yields_range⟩
  | [], q, _ => exact q.elim
  | _ :: _ :: _, q, _ => exact q.elim
  | [.non], q, _ | [.bl _], q, _ | [.str _], q, _ | [.tup _], q, _ | [.lst _], q, _ | [.dct _], q, _ | [.obj _ _], q, _ | [.ref _], q, _ | [.scr _], q, _ => exact q.elim
theorem RlL.two {K : PySem.W.Frag} {m : Mp} {Ω : Om} {H : Hp} {x y : D} {vs : List V} (r : RlL K m Ω H [x, y] vs) : ∃ v w, vs = [v, w] ∧ Rl K m Ω H x v ∧ Rl K m Ω H y w := by
  unfold RlL at r
  obtain ⟨v, r1, e1, h1, r⟩ := r
  unfold RlL at r
  obtain ⟨w, r2, e2, h2, r⟩ := r
  unfold RlL at r
  subst r e2 e1
  exact ⟨v, w, rfl, h1, h2⟩
theorem RlL.single {K : PySem.W.Frag} {m : Mp} {Ω : Om} {H : Hp} {x : D} {vs : List V} (r : RlL K m Ω H [x] vs) : ∃ v, vs = [v] ∧ Rl K m Ω H x v := by
  unfold RlL at r
  obtain ⟨v, r1, e1, h1, r⟩ := r
  unfold RlL at r
  subst r e1
  exact ⟨v, rfl, h1⟩
theorem di_range2 (ha : DA X E [a, b] r) (hm : X.mg "range" = none) (hg : Gl X "range" := by rfl) (hs : starEach [a, b] X.env = [(false, eval a X.env), (false, eval b X.env)] := by rfl) (hs2 : starEach [b] X.env = [(false, eval b X.env)] := by rfl) : DI X E tg (.Call (.Name "range" p) [a, b] [] pos) (fRange2 r) := PI.mono (pi_range2 hg hm ha hs hs2) fun σ H R h => by
  obtain ⟨m, Γ, Ω, s, h⟩ := h
  refine ⟨m, Γ, Ω, s, (Af.bind (R := RlL X.K) h).imp fun _ _ H1 _ vs _ _ _ ⟨m1, Ω1, ds, g1, r1, q⟩ => ?_⟩
  have two : ∃ i j, ds = [.int i, .int j] := by
    match ds, q with
    | [x, y], q => cases x <;> cases y <;> first | exact ⟨_, _, rfl⟩ | exact q.elim
    | [], q => exact q.elim
    | [_], q => exact q.elim
    | _ :: _ :: _ :: _, q => exact q.elim
  obtain ⟨i, j, ed⟩ := two
  subst ed
  obtain ⟨bb, q⟩ := Af.guard q
  obtain ⟨v, w, ev, h1, h2⟩ := r1.two
  unfold Rl at h1 h2
  subst h1 h2 ev
  exact ⟨i, j, rfl, bb, q m1 _ H1 (Go.refl g1.ok) yields_range⟩
theorem di_enum {elts : List Expr} {kk : Nat} {tpos : Pos} (ha : DA X E [e] r) (hm : X.mg "enumerate" = none) (hg : Gl X "enumerate" := by rfl) (hs : starEach [e] X.env = [(false, eval e X.env)] := by rfl) : DI X E (.Tuple elts kk tpos) (.Call (.Name "enumerate" p) [e] [] pos) (fEnum r) := PI.mono (pi_enum hg hm ha hs) fun σ H R h => by
  obtain ⟨m, Γ, Ω, s, h⟩ := h
  refine ⟨m, Γ, Ω, s, (Af.bind (R := RlL X.K) h).imp fun _ _ H1 _ vs _ _ _ ⟨m1, Ω1, ds, g1, r1, q⟩ => ?_⟩
  have one : ∃ xs, ds = [.lst xs] := by
    match ds, q with
    | [x], q => cases x <;> first | exact ⟨_, rfl⟩ | exact q.elim
    | [], q => exact q.elim
    | _ :: _ :: _, q => exact q.elim
  obtain ⟨xs, ed⟩ := one
  subst ed
  obtain ⟨v, ev, h1⟩ := r1.single
  unfold Rl at h1
  obtain ⟨a, ws, e1, h2, hl, h3⟩ := h1
  subst e1 ev
  exact ⟨a, ws, rfl, SqL.of h2, q m1 _ H1 (Go.refl g1.ok) (yields_enum g1.ok h2 hl h3)⟩
end

/-! ### comprehensions -/
def wipeG (Γ : Gm) : List Nat → Gm
  | [] => Γ
  | v :: vs => (wipeG Γ vs).set v none
def setAll (Γ : Gm) : List Nat → List D → Gm
  | i :: is, d :: ds => setAll (Γ.set i (some d)) is ds
  | _, _ => Γ
def setAllV (σ : St) : List Nat → List V → St
  | i :: is, v :: vs => setAllV (σ.set i (some v)) is vs
  | _, _ => σ
/-- the target: one name, or a tuple of names -/
inductive Tg where
  | nm (i : Nat) | tp (is : List Nat)
def Tg.slots : Tg → List Nat
  | .nm i => [i]
  | .tp is => is
def Tg.den : Tg → DenG
  | .nm i => fun d Γ => some (Γ.set i (some d))
  | .tp is => fun d Γ => match d with
    | .tup ds => if ds.length = is.length then some (setAll Γ is ds) else none
    | _ => none
def gNames : List Nat → TGs
  | [] => L2.gNil
  | i :: is => L2.gCons (L2.gName i) (gNames is)
def Tg.rd (K : PySem.W.Frag) : Tg → TG
  | .nm i => L2.gName i
  | .tp is => L2.gTup K is.length (gNames is)
def loopC (t : DenG) (ft : Den Bool) (fe : Den D) (Γ : Gm) : List D → List D → Om → Option (Rs D × Om)
  | [], acc, Ω => some (.ok (.lst acc), Ω)
  | d :: r, acc, Ω => match t d Γ with
    | none => none
    | some Γ1 => match ft Γ1 Ω with
      | some (.ok true, Ω1) => match fe Γ1 Ω1 with
        | some (.ok y, Ω2) => if acc.length < 100000 then loopC t ft fe Γ r (acc ++ [y]) Ω2 else none
        | _ => none
      | some (.ok false, Ω1) => loopC t ft fe Γ r acc Ω1
      | _ => none
def fLc (fi : Den (List D)) (t : Tg) (ft : Den Bool) (fe : Den D) (vs : List Nat) : Den D := fun Γ Ω => bR (fi Γ Ω) fun ds Ω1 => loopC t.den ft fe (wipeG Γ vs) ds [] Ω1
section
variable {K : PySem.W.Frag} {m : Mp} {Ω : Om} {H : Hp} {Γ : Gm} {σ : St}
theorem Slots.wipe (s : Slots K m Ω H Γ σ) : ∀ vs : List Nat, Slots K m Ω H (wipeG Γ vs) (L2.wipe σ vs)
  | [] => s
  | v :: vs => by
    have ih := Slots.wipe s vs
    refine ⟨by unfold wipeG L2.wipe; rw [List.length_set, List.length_set, ih.1], fun i d h => ?_⟩
    unfold wipeG at h
    by_cases hi : i = v
    · subst hi
      by_cases hl : i < (wipeG Γ vs).length
      · rw [List.getElem?_set_self hl] at h; cases h
      · have := (List.getElem?_eq_some_iff.mp h).1
        rw [List.length_set] at this
        exact (hl this).elim
    · rw [List.getElem?_set_ne (Ne.symm hi)] at h
      obtain ⟨x, h1, h2⟩ := ih.2 i d h
      refine ⟨x, ?_, h2⟩
      unfold L2.wipe
      rw [List.getElem?_set_ne (Ne.symm hi)]
      exact h1
theorem wipe_set {i : Nat} {o : Option V} : ∀ {vs : List Nat} {σ : St}, i ∈ vs → L2.wipe (σ.set i o) vs = L2.wipe σ vs
  | v :: vs, σ, h => by
    unfold L2.wipe
    by_cases hi : i ∈ vs
    · rw [wipe_set hi]
    · have e : i = v := by
        rcases List.mem_cons.mp h with h | h
        · exact h
        · exact (hi h).elim
      subst e
      have z : ∀ (vs : List Nat), L2.wipe (σ.set i o) vs = (L2.wipe σ vs).set i (((L2.wipe (σ.set i o) vs)[i]?).getD none) ∨ True := fun _ => .inr trivial
      have y : ∀ (vs : List Nat), (L2.wipe (σ.set i o) vs).set i none = (L2.wipe σ vs).set i none := by
        intro vs
        induction vs with
        | nil => unfold L2.wipe; rw [List.set_set]
        | cons v vs ih =>
          unfold L2.wipe
          by_cases hv : v = i
          · subst hv; rw [List.set_set, List.set_set]; exact ih
          · rw [List.set_comm _ _ hv, ih, List.set_comm _ _ (Ne.symm hv)]
      exact y vs
theorem wipe_wipe : ∀ (vs : List Nat) (σ : St), L2.wipe (L2.wipe σ vs) vs = L2.wipe σ vs := by
  intro vs
  have key : ∀ (us : List Nat) (σ : St), (∀ u ∈ us, u ∈ vs) → L2.wipe (L2.wipe σ us) vs = L2.wipe σ vs := by
    intro us
    induction us with
    | nil => intro σ _; rfl
    | cons u us ih =>
      intro σ h
      show L2.wipe ((L2.wipe σ us).set u none) vs = _
      rw [wipe_set (h u (List.mem_cons_self ..))]
      exact ih σ fun x hx => h x (List.mem_cons_of_mem _ hx)
  exact fun σ => key vs σ fun _ h => h
theorem wipe_setAll : ∀ {is : List Nat} {ws : List V} {vs : List Nat} {σ : St}, (∀ i ∈ is, i ∈ vs) → L2.wipe (setAllV σ is ws) vs = L2.wipe σ vs
  | [], ws, vs, σ, _ => by unfold setAllV; rfl
  | i :: is, [], vs, σ, _ => by unfold setAllV; rfl
  | i :: is, w :: ws, vs, σ, h => by
    unfold setAllV
    rw [wipe_setAll fun x hx => h x (List.mem_cons_of_mem _ hx), wipe_set (h i (List.mem_cons_self ..))]
theorem Slots.setAll : ∀ {is : List Nat} {ds : List D} {ws : List V} {Γ : Gm} {σ : St}, Slots K m Ω H Γ σ → RlL K m Ω H ds ws → Slots K m Ω H (Dn.setAll Γ is ds) (setAllV σ is ws)
  | [], ds, ws, Γ, σ, s, _ => by unfold Dn.setAll setAllV; exact s
  | i :: is, [], ws, Γ, σ, s, r => by unfold RlL at r; subst r; unfold Dn.setAll setAllV; exact s
  | i :: is, d :: ds, ws, Γ, σ, s, r => by
    unfold RlL at r
    obtain ⟨w, r', e, h1, h2⟩ := r
    subst e
    unfold Dn.setAll setAllV
    exact Slots.setAll (s.set h1) h2
theorem gNames_of : ∀ {is : List Nat} {ws : List V} {σ : St} {Q : St → Hp → Prop}, ws.length = is.length → Q (setAllV σ is ws) H → gNames is ws σ H Q
  | [], ws, σ, Q, hl, q => ⟨List.eq_nil_of_length_eq_zero hl, by cases List.eq_nil_of_length_eq_zero hl; exact q⟩
  | i :: is, [], σ, Q, hl, q => by cases hl
  | i :: is, w :: ws, σ, Q, hl, q => ⟨w, ws, rfl, gNames_of (is := is) (Nat.succ.inj hl) q⟩
/-- the target's reading, from its denotation -/
theorem Tg.of {t : Tg} {d : D} {v : V} {Γ1 : Gm} {vs : List Nat} {Q : St → Hp → Prop} (s : Slots K m Ω H Γ σ) (r : Rl K m Ω H d v) (e : t.den d Γ = some Γ1) (hv : ∀ i ∈ t.slots, i ∈ vs)
    (q : ∀ σ', Slots K m Ω H Γ1 σ' → L2.wipe σ' vs = L2.wipe σ vs → Q σ' H) : t.rd K v σ H Q := by
  cases t with
  | nm i =>
    cases e
    exact q _ (s.set r) (wipe_set (hv i (List.mem_cons_self ..)))
  | tp is =>
    cases d with
    | tup ds =>
      have e : (if ds.length = is.length then some (Dn.setAll Γ is ds) else none) = some Γ1 := e
      by_cases hl : ds.length = is.length
      · rw [if_pos hl] at e
        cases e
        unfold Rl at r
        obtain ⟨a, ws, ev, h1, h2⟩ := r
        have hw : ws.length = is.length := by rw [← h2.length]; exact hl
        exact ⟨a, ws, ev, h1.sq, hw, gNames_of hw (q _ (s.setAll h2) (wipe_setAll hv))⟩
      · rw [if_neg hl] at e; cases e
    | _ => cases e
end
abbrev DTs (X : Cx) (E : St → XK) (ifs : List Expr) (f : Den Bool) : Prop := PTs X ifs (tDT X.K E f)
theorem PTs.mono {X : Cx} {e : List Expr} {t t' : TT} (h : PTs X e t) (i : ∀ σ H Q, t' σ H Q → t σ H Q) : PTs X e t' := ⟨fun pins s σ H Q I q => h.run pins s σ H Q I (i σ H Q q)⟩
theorem dts_nil {X : Cx} {E : St → XK} : DTs X E [] (fC true) := PTs.mono pts_nil fun σ H Q h => by
  obtain ⟨m, Γ, Ω, s, h⟩ := h
  exact h m true H (Go.refl s.cells) rfl
theorem dts_one {X : Cx} {E : St → XK} {c : Expr} {f : Den Bool} (h : DT X E c f) : DTs X E [c] f := pts_one h
theorem pg_nm {X : Cx} (i : Nat) {x : Str} {pos : Pos} (hN : X.N.Nodup) (hi : X.N[i]? = some x := by rfl) (hx : Loc X.env.scope x := by first | exact Or.inl rfl | exact Or.inr rfl) (hf : X.fn x = true ∨ X.env.scope.names.lookup x = some .local := by first | exact .inl rfl | exact .inr rfl | assumption) : PG X (.Name x pos) ((Tg.nm i).rd X.K) := pg_name (i := i) hN hi hx hf
theorem pgs_n0 {X : Cx} : PGs X [] (gNames []) := pgs_nil
theorem pgs_n1 {X : Cx} (i : Nat) {is : List Nat} {x : Str} {pos : Pos} {es : List Expr} (hN : X.N.Nodup) (h2 : PGs X es (gNames is)) (hi : X.N[i]? = some x := by rfl) (hx : Loc X.env.scope x := by first | exact Or.inl rfl | exact Or.inr rfl) (hf : X.fn x = true ∨ X.env.scope.names.lookup x = some .local := by first | exact .inl rfl | exact .inr rfl | assumption)
    (hs : (assignEach (.Name x pos :: es) X.env).map (·.2) = assign (.Name x pos) X.env :: (assignEach es X.env).map (·.2) := by rfl) : PGs X (.Name x pos :: es) (gNames (i :: is)) := pgs_cons (pg_name (i := i) hN hi hx hf) h2 hs
theorem pg_tp {X : Cx} {es : List Expr} {is : List Nat} {k : Nat} {pos : Pos} (hc : X.calm = true) (h : PGs X es (gNames is)) (hn : (assignEach es X.env).length = is.length := by rfl) (hst : (assignEach es X.env).findIdx? (·.1) = none := by rfl) : PG X (.Tuple es k pos) ((Tg.tp is).rd X.K) := pg_tup hc h hn hst
/-- between two turns: the list at p is filled, hidden -/
structure LcI (K : PySem.W.Frag) (Γ : Gm) (σ : St) (m1 : Mp) (Ω1 : Om) (H1 : Hp) (p : Addr) (m2 : Mp) (Ω2 : Om) (acc : List D) (ws : List V) (H2 : Hp) : Prop where
  gw : Gw K m1 Ω1 H1 m2 Ω2 H2
  c : CellsOk K m2 Ω2 H2
  hh : ∀ a, m1.hid a → m2.hid a
  hk : ∀ a o, m1.hid a → H1 a = some o → H2 a = some o
  hD : m2.hid p
  eD : H2 p = some (.lst ws)
  racc : RlL K m2 Ω2 H2 acc ws
  sl : Slots K m2 Ω2 H2 Γ σ
theorem LcI.step {K : PySem.W.Frag} {Γ : Gm} {σ : St} {m1 : Mp} {Ω1 : Om} {H1 : Hp} {p : Addr} {m2 m3 : Mp} {Ω2 Ω3 : Om} {acc : List D} {ws : List V} {H2 H3 : Hp}
    (I : LcI K Γ σ m1 Ω1 H1 p m2 Ω2 acc ws H2) (g : Go K m2 Ω2 H2 m3 Ω3 H3) : LcI K Γ σ m1 Ω1 H1 p m3 Ω3 acc ws H3 :=
  ⟨I.gw.trans g.toGw, g.ok, fun a h => g.hs a (I.hh a h), fun a o h e => g.hk a o (I.hh a h) (I.hk a o h e), g.hs p I.hD, g.hk p _ I.hD I.eD, RlL.go g.toGw I.c _ _ I.racc, ((SR.mk I.c I.sl).go g).slots⟩
section
variable {X : Cx} {E : St → XK} {elt tg iter : Expr} {ifs : List Expr} {scope : Scope} {own : List (Str × Nat)} {pos : Pos} {fi : Den (List D)} {t : Tg} {ft : Den Bool} {fe : Den D}
theorem lc_of (hv : ∀ i ∈ t.slots, i ∈ own.map (·.2)) {σ : St} {H : Hp} {Q : VK} (h : tD X.K E (fLc fi t ft fe (own.map (·.2))) σ H Q) :
    tLc (tIt X.K E fi) (t.rd X.K) (tDT X.K E0S ft) (tD X.K E0S fe) (own.map (·.2)) σ H Q := by
  obtain ⟨m, Γ, Ω, s, h⟩ := h
  refine ⟨m, Γ, Ω, s, (Af.bind (R := fun m Ω H ds J => Yields X.K m Ω H ds J) h).imp fun _ _ H1 _ J _ _ _ ⟨m1, Ω1, ds, g1, Y, q⟩ => ?_⟩
  intro D hD
  have c1 := g1.ok
  refine ⟨fun i k H2 => k = ds.length - i ∧ i ≤ ds.length ∧ ∃ (m2 : Mp) (Ω2 : Om) (acc : List Dn.D) (ws : List V), LcI X.K (wipeG Γ (own.map (·.2))) (L2.wipe σ (own.map (·.2))) m1 Ω1 H1 D m2 Ω2 acc ws H2 ∧ Af X.K (Rl X.K) (E σ) Q m1 Ω1 H1 (loopC t.den ft fe (wipeG Γ (own.map (·.2))) (ds.drop i) acc Ω2), ⟨ds.length, rfl, Nat.zero_le _, ?_⟩, ?_⟩
  · have gw := Gw.hide (K := X.K) (o := .lst []) c1 hD
    have sl := (s.go g1).slots.wipe (own.map (·.2))
    exact ⟨m1.hide D, Ω1, [], [], ⟨gw, c1.hide hD, fun a h => .inl h, fun a o _ q => by rw [upd_ne (ne_of_none q hD)]; exact q, .inr rfl, upd_same, by unfold RlL; rfl, ⟨sl.1, fun i d h => let ⟨v, h1, h2⟩ := sl.2 i d h; ⟨v, h1, Rl.go gw c1 d v h2⟩⟩⟩, q⟩
  · rintro i k H2 ⟨rfl, hi, m2, Ω2, acc, ws, I2, q2⟩
    by_cases hlt : i < ds.length
    · right
      have e1 : ds[i]? = some ds[i] := List.getElem?_eq_getElem hlt
      obtain ⟨y1, _⟩ := Y i m2 Ω2 H2 I2.gw I2.c
      obtain ⟨go1, yl⟩ := y1 _ e1
      rw [List.drop_eq_getElem_cons hlt] at q2
      refine ⟨go1, fun H3 => ∃ (m3 : Mp) (Ω3 : Om) (acc : List Dn.D) (ws : List V), LcI X.K (wipeG Γ (own.map (·.2))) (L2.wipe σ (own.map (·.2))) m1 Ω1 H1 D m3 Ω3 acc ws H3 ∧ Af X.K (Rl X.K) (E σ) Q m1 Ω1 H1 (loopC t.den ft fe (wipeG Γ (own.map (·.2))) (ds.drop (i + 1)) acc Ω3), fun H3 z => ⟨ds.length - (i + 1), by omega, rfl, hlt, z⟩, fun x H3 y2 => ?_⟩
      obtain ⟨g3, r3⟩ := yl x H3 y2
      unfold loopC at q2
      cases e2 : t.den ds[i] (wipeG Γ (own.map (·.2))) with
      | none => rw [e2] at q2; exact q2.elim
      | some Γ1 =>
        rw [e2] at q2
        dsimp only at q2
        have sl3 := ((SR.mk I2.c I2.sl).go g3)
        refine Tg.of sl3.slots r3 e2 hv fun σ' sl' ew => ⟨by rw [ew, wipe_wipe], m2, Γ1, Ω2, ⟨g3.ok, sl'⟩, ?_⟩
        cases e3 : ft Γ1 Ω2 with
        | none => rw [e3] at q2; exact q2.elim
        | some z =>
          obtain ⟨rr, Ω3⟩ := z
          rw [e3] at q2
          cases rr with
          | ex e => exact q2.elim
          | ok b =>
            intro m4 b' H4 g4 eb
            subst eb
            have g24 := g3.trans g4
            cases b with
            | false => exact ⟨m4, Ω3, acc, ws, I2.step g24, q2⟩
            | true =>
              show tD X.K E0S fe σ' H4 _
              dsimp only at q2
              refine ⟨m4, Γ1, Ω3, ⟨g4.ok, ((SR.mk g3.ok sl').go g4).slots⟩, ?_⟩
              cases e4 : fe Γ1 Ω3 with
              | none => rw [e4] at q2; exact q2.elim
              | some z =>
                obtain ⟨rr, Ω5⟩ := z
                rw [e4] at q2
                cases rr with
                | ex e => exact q2.elim
                | ok y =>
                  obtain ⟨hz, q2⟩ := Af.guard q2
                  intro m5 v H5 g5 r5
                  have I5 := I2.step (g24.trans g5)
                  have hl : ws.length < sizeLine := by rw [← I5.racc.length]; exact Nat.lt_of_lt_of_le hz (by decide)
                  refine ⟨ws, I5.eD, hl, m5, Ω5, acc ++ [y], ws ++ [v], ?_⟩
                  have gf := Gw.fill (K := X.K) (o := .lst (ws ++ [v])) I5.c I5.hD
                  exact ⟨⟨I5.gw.trans gf, I5.c.fill I5.hD, I5.hh, fun a o h e => by rw [upd_ne (show a ≠ D from fun z => c1.freshH hD (by rw [← z]; exact h))]; exact I5.hk a o h e, I5.hD, upd_same, RlL.go gf I5.c _ _ (I5.racc.append (RlL.one r5)), ⟨I5.sl.1, fun i d h => let ⟨v, h1, h2⟩ := I5.sl.2 i d h; ⟨v, h1, Rl.go gf I5.c d v h2⟩⟩⟩, q2⟩
    · left
      have ei : i = ds.length := by omega
      obtain ⟨_, y2⟩ := Y i m2 Ω2 H2 I2.gw I2.c
      refine ⟨y2 (by omega), ?_⟩
      rw [List.drop_of_length_le (by omega)] at q2
      unfold loopC at q2
      refine q2 (m2.shown m1.hid) _ H2 ⟨I2.gw.toShown I2.hh, I2.c.shown I2.hh, I2.hk, fun _ h => h⟩ ?_
      unfold Rl
      refine ⟨D, ws, rfl, I2.eD, fun l => ?_, RlL.go (Gw.shown I2.hh) I2.c acc ws I2.racc⟩
      rcases l with ⟨n, cc, h1, _⟩ | l
      · exact (I2.c.hl D I2.hD).2 (List.mem_of_getElem? h1)
      · exact c1.freshH hD l
theorem de_lc (hc : X.calm = true) (hN : X.N.Nodup) (hi : DI X E tg iter fi) (ok : BlkOk X.N X.env.scope scope own) (hv : ∀ i ∈ t.slots, i ∈ own.map (·.2))
    (hg : ∀ (s : Shared) (H : Hp) (C : Addr) (cl : List (Str × Addr)) (fp : List Addr), PG (X.blk s H scope (compEnvC scope cl C X.env) fp) tg (t.rd X.K))
    (ht : ∀ (s : Shared) (H : Hp) (C : Addr) (cl : List (Str × Addr)) (fp : List Addr), DTs (X.blk s H scope (compEnvC scope cl C X.env) fp) E0S ifs ft)
    (he : ∀ (s : Shared) (H : Hp) (C : Addr) (cl : List (Str × Addr)) (fp : List Addr), DE (X.blk s H scope (compEnvC scope cl C X.env) fp) E0S elt fe)
    (hs : ∀ x, foldedSetIterable iter X.env x = pure x := by intro _; rfl) : DE X E (.ListComp elt [⟨tg, iter, ifs, 0⟩] scope pos) (fLc fi t ft fe (own.map (·.2))) :=
  PE.mono (pe_lc hc hN hi ok hg ht he hs) fun σ H Q h => lc_of hv h
theorem ds_setLc (i : Nat) {y : Str} {py spos : Pos} (hc : X.calm = true) (hN : X.N.Nodup) (hi : DI X E tg iter fi) (ok : BlkOk X.N X.env.scope scope own) (hv : ∀ i ∈ t.slots, i ∈ own.map (·.2))
    (hg : ∀ (s : Shared) (H : Hp) (C : Addr) (cl : List (Str × Addr)) (fp : List Addr), PG (X.blk s H scope (compEnvC scope cl C X.env) fp) tg (t.rd X.K))
    (ht : ∀ (s : Shared) (H : Hp) (C : Addr) (cl : List (Str × Addr)) (fp : List Addr), DTs (X.blk s H scope (compEnvC scope cl C X.env) fp) E0S ifs ft)
    (he : ∀ (s : Shared) (H : Hp) (C : Addr) (cl : List (Str × Addr)) (fp : List Addr), DE (X.blk s H scope (compEnvC scope cl C X.env) fp) E0S elt fe)
    (hsw : swapsWith (.ListComp elt [⟨tg, iter, ifs, 0⟩] scope pos) (some (.Name y py)) spos.line X.env = pure true)
    (hy : X.N[i]? = some y := by rfl) (hyl : X.env.scope.names.lookup y = some .local := by rfl)
    (hs : ∀ x, foldedSetIterable iter X.env x = pure x := by intro _; rfl) : DS X E (.Assign [.Name y py] (.ListComp elt [⟨tg, iter, ifs, 0⟩] scope pos) spos) (sSet i (fLc fi t ft fe (own.map (·.2)))) :=
  PS.mono (ps_setLc (i := i) hc hN hy hyl hsw hi ok hg ht he hs) fun D σ H h => by
    obtain ⟨m, Γ, Ω, s, h⟩ := h
    refine lc_of (E := E) hv ⟨m, Γ, Ω, s, (AfS.val s.slots s.cells h).imp fun _ _ _ _ _ _ _ _ ⟨m1, Ω1, d, g1, r1, q⟩ => ?_⟩
    exact q m1 _ _ (Go.refl g1.ok) ((s.go g1).slots.set r1)
end
end Dn


set_option Elab.async false
set_option linter.all false
set_option maxRecDepth 100000
/-! DnMore: built-ins, lists that change, dicts. -/
namespace Dn
open PySem L2
abbrev OpA := List D → Om → Option (Rs D × Om)
def CallD (K : PySem.W.Frag) (op : OpA) (r : List V → Hp → VK → Prop) : Prop := ∀ (E : XK) (m : Mp) (Ω : Om) (H : Hp) (ds : List D) (vs : List V) (Q : VK), CellsOk K m Ω H → RlL K m Ω H ds vs → Af K (Rl K) E Q m Ω H (op ds Ω) → r vs H Q
def fCB (op : OpA) (r : Den (List D)) : Den D := bnd r fun ds _ Ω => op ds Ω
section
variable {X : Cx} {E : St → XK} {x : Str} {e : Expr} {es : List Expr} {r : Den (List D)} {p pos : Pos} {op : OpA} {rr : List V → Hp → VK → Prop}
theorem cb_of (hd : CallD X.K op rr) {σ : St} {H : Hp} {Q : VK} (h : tD X.K E (fCB op r) σ H Q) : tCB rr (tDA X.K E r) σ H Q := by
  obtain ⟨m, Γ, Ω, s, h⟩ := h
  refine ⟨m, Γ, Ω, s, (Af.bind (R := RlL X.K) h).imp fun _ _ _ _ _ _ _ _ ⟨m1, Ω1, ds, g1, r1, q⟩ => ?_⟩
  exact hd (E σ) m1 Ω1 _ ds _ Q g1.ok r1 q
theorem de_callB {id : String} (hr : CallR X (.builtin id) rr) (hd : CallD X.K op rr) (hm : X.mg x = none) (hv : bootBuiltins x = some (.builtin id)) (ha : DA X E (e :: es) r) (hg : Gl X x := by rfl) (hn : x ≠ Str.ofString "__name__" := by decide)
    (hdb : (x == ("__debug__" : Str)) = false := by decide) (he : starEach (e :: es) X.env = (false, eval e X.env) :: starEach es X.env := by rfl) (hpl : (backTo pos (starEach es X.env)).any (·.1) = false := by rfl) : DE X E (.Call (.Name x p) (e :: es) [] pos) (fCB op r) :=
  PE.mono (pe_callB hr hg hm hv ha hn hdb he hpl) fun _ _ _ h => cb_of hd h
theorem de_callTy {T : String} (hr : CallR X (.type T) rr) (hd : CallD X.K op rr) (hm : X.mg x = none) (hv : bootBuiltins x = some (.type T)) (ha : DA X E (e :: es) r) (hg : Gl X x := by rfl) (hn : x ≠ Str.ofString "__name__" := by decide)
    (hdb : (x == ("__debug__" : Str)) = false := by decide) (he : starEach (e :: es) X.env = (false, eval e X.env) :: starEach es X.env := by rfl) (hpl : (backTo pos (starEach es X.env)).any (·.1) = false := by rfl) : DE X E (.Call (.Name x p) (e :: es) [] pos) (fCB op r) :=
  PE.mono (pe_callTy hr hg hm hv ha hn hdb he hpl) fun _ _ _ h => cb_of hd h
end
section
variable {K : PySem.W.Frag} {X : Cx}
def callR_or {v : Value} {r r' : List V → Hp → VK → Prop} (h : CallR X v r) (h' : CallR X v r') : CallR X v (fun xs H Q => r xs H Q ∨ r' xs H Q) := fun pins s σ H xs us Q I rv q => q.elim (h pins s σ H xs us Q I rv) (h' pins s σ H xs us Q I rv)
/-- one argument, two arguments -/
def op1 (g : Op1) : OpA := fun ds Ω => match ds with
  | [d] => g d Ω
  | _ => none
def op2 (g : Op2) : OpA := fun ds Ω => match ds with
  | [d, e] => g d e Ω
  | _ => none
theorem op1_of {g : Op1} {E : XK} {m : Mp} {Ω : Om} {H : Hp} {ds : List D} {vs : List V} {Q : VK} (r : RlL K m Ω H ds vs) (q : Af K (Rl K) E Q m Ω H (op1 g ds Ω)) : ∃ d v, ds = [d] ∧ vs = [v] ∧ Rl K m Ω H d v ∧ Af K (Rl K) E Q m Ω H (g d Ω) := by
  match ds, q, r with
  | [d], q, r =>
    obtain ⟨v, ev, h⟩ := r.single
    exact ⟨d, v, rfl, ev, h, q⟩
  | [], q, _ => exact q.elim
  | _ :: _ :: _, q, _ => exact q.elim
theorem op2_of {g : Op2} {E : XK} {m : Mp} {Ω : Om} {H : Hp} {ds : List D} {vs : List V} {Q : VK} (r : RlL K m Ω H ds vs) (q : Af K (Rl K) E Q m Ω H (op2 g ds Ω)) : ∃ d e v w, ds = [d, e] ∧ vs = [v, w] ∧ Rl K m Ω H d v ∧ Rl K m Ω H e w ∧ Af K (Rl K) E Q m Ω H (g d e Ω) := by
  match ds, q, r with
  | [d, e], q, r =>
    obtain ⟨v, w, ev, h1, h2⟩ := r.two
    exact ⟨d, e, v, w, rfl, ev, h1, h2, q⟩
  | [], q, _ => exact q.elim
  | [_], q, _ => exact q.elim
  | _ :: _ :: _ :: _, q, _ => exact q.elim
/-! ### ints -/
def dAbs : OpA := op1 fun d Ω => match d with
  | .int i => some (.ok (.int (if i < 0 then -i else i)), Ω)
  | _ => none
theorem cd_abs : CallD K dAbs (fun xs H Q => ∃ i, xs = [.int i] ∧ Q (.int (if i < 0 then -i else i)) H) := by
  intro E m Ω H ds vs Q c r q
  obtain ⟨d, v, ed, ev, h, q⟩ := op1_of r q
  subst ed ev
  cases d with
  | int i => unfold Rl at h; subst h; exact ⟨i, rfl, q.now c rl_int⟩
  | _ => exact q.elim
def dMax : OpA := op2 fun d e Ω => match d, e with
  | .int i, .int j => some (.ok (.int (if j > i then j else i)), Ω)
  | _, _ => none
def dMin : OpA := op2 fun d e Ω => match d, e with
  | .int i, .int j => some (.ok (.int (if j < i then j else i)), Ω)
  | _, _ => none
theorem cd_max : CallD K dMax (fun xs H Q => ∃ i j, xs = [.int i, .int j] ∧ Q (.int (if j > i then j else i)) H) := by
  intro E m Ω H ds vs Q c r q
  obtain ⟨d, e, v, w, ed, ev, h, h2, q⟩ := op2_of r q
  subst ed ev
  cases d with
  | int i =>
    cases e with
    | int j => unfold Rl at h h2; subst h h2; exact ⟨i, j, rfl, q.now c rl_int⟩
    | _ => exact q.elim
  | _ => exact q.elim
theorem cd_min : CallD K dMin (fun xs H Q => ∃ i j, xs = [.int i, .int j] ∧ Q (.int (if j < i then j else i)) H) := by
  intro E m Ω H ds vs Q c r q
  obtain ⟨d, e, v, w, ed, ev, h, h2, q⟩ := op2_of r q
  subst ed ev
  cases d with
  | int i =>
    cases e with
    | int j => unfold Rl at h h2; subst h h2; exact ⟨i, j, rfl, q.now c rl_int⟩
    | _ => exact q.elim
  | _ => exact q.elim
def dInt : OpA := op1 fun d Ω => match d with
  | .int i => some (.ok (.int i), Ω)
  | .bl b => some (.ok (.int (if b then 1 else 0)), Ω)
  | _ => none
theorem cd_int : CallD K dInt (fun xs H Q => (∃ i, xs = [.int i] ∧ Q (.int i) H) ∨ ∃ k, xs = [.bl k] ∧ Q (.int (if k then 1 else 0)) H) := by
  intro E m Ω H ds vs Q c r q
  obtain ⟨d, v, ed, ev, h, q⟩ := op1_of r q
  subst ed ev
  cases d with
  | int i => unfold Rl at h; subst h; exact .inl ⟨i, rfl, q.now c rl_int⟩
  | bl b => unfold Rl at h; subst h; exact .inr ⟨b, rfl, q.now c rl_int⟩
  | _ => exact q.elim
def dDivmod : OpA := op2 fun d e Ω => match d, e with
  | .int i, .int j => if 0 < j ∧ j < 1073741824 then some (.ok (.tup [.int (i / j), .int (i % j)]), Ω) else none
  | _, _ => none
theorem rl_tupNew {m : Mp} {Ω : Om} {H : Hp} {p : Addr} {ds : List D} {vs : List V} (c : CellsOk K m Ω H) (hp : H p = none) (h : RlL K m Ω H ds vs) : Rl K m Ω (upd H p (.tup vs)) (.tup ds) (.ref p) := by
  unfold Rl
  exact ⟨p, vs, rfl, .inl upd_same, RlL.new c hp h⟩
theorem rlL_2 {m : Mp} {Ω : Om} {H : Hp} {x y : D} {v w : V} (h1 : Rl K m Ω H x v) (h2 : Rl K m Ω H y w) : RlL K m Ω H [x, y] [v, w] := by
  unfold RlL
  exact ⟨v, [w], rfl, h1, RlL.one h2⟩
theorem cd_divmod : CallD K dDivmod (fun xs H Q => ∃ i j, xs = [.int i, .int j] ∧ CDiv i j ∧ ∀ p, H p = none → Q (.ref p) (upd H p (.tup [.int (i / j), .int (i % j)]))) := by
  intro E m Ω H ds vs Q c r q
  obtain ⟨d, e, v, w, ed, ev, h, h2, q⟩ := op2_of r q
  subst ed ev
  cases d with
  | int i =>
    cases e with
    | int j =>
      unfold Rl at h h2
      subst h h2
      obtain ⟨hc, q⟩ := Af.guard q
      exact ⟨i, j, rfl, hc, fun p hp => q m _ _ (Go.new c hp) (rl_tupNew c hp (rlL_2 rl_int rl_int))⟩
    | _ => exact q.elim
  | _ => exact q.elim
/-! ### sequences -/
def dLen : OpA := op1 fun d Ω => match d with
  | .str x => if x.length ≤ 100000 then some (.ok (.int x.length), Ω) else none
  | .tup xs => some (.ok (.int xs.length), Ω)
  | .scr xs => some (.ok (.int xs.length), Ω)
  | d => match asL Ω d with
    | some xs => some (.ok (.int xs.length), Ω)
    | none => none
theorem cd_len : CallD K dLen (fun xs H Q => ∃ x n, xs = [x] ∧ LenV K x H n ∧ Q (.int n) H) := by
  intro E m Ω H ds vs Q c r q
  obtain ⟨d, v, ed, ev, h, q⟩ := op1_of r q
  subst ed ev
  have gen : ∀ d', d' = d → Af K (Rl K) E Q m Ω H (match asL Ω d' with | some xs => some (.ok (.int xs.length), Ω) | none => none) → ∃ x n, [v] = [x] ∧ LenV K x H n ∧ Q (.int n) H := fun d' e qq => by
    clear q
    subst e
    cases e1 : asL Ω d' with
    | none => rw [e1] at qq; exact qq.elim
    | some xs =>
      rw [e1] at qq
      obtain ⟨a, ws, ea, h1, h2⟩ := asL_ok c h e1
      subst ea
      exact ⟨.ref a, ws.length, rfl, .inl ⟨ws, SqL.of h1, rfl⟩, by rw [← h2.length]; exact qq.now c rl_int⟩
  cases d with
  | str x =>
    unfold Rl at h
    subst h
    obtain ⟨hz, q⟩ := Af.guard q
    exact ⟨.str x, x.length, rfl, ⟨sz hz, rfl⟩, q.now c rl_int⟩
  | tup xs =>
    unfold Rl at h
    obtain ⟨a, ws, ea, h1, h2⟩ := h
    subst ea
    exact ⟨.ref a, ws.length, rfl, .inr ⟨ws, h1.sq, rfl⟩, by rw [← h2.length]; exact q.now c rl_int⟩
  | scr xs =>
    unfold Rl at h
    obtain ⟨a, ea, h1⟩ := h
    subst ea
    exact ⟨.ref a, (xs.map V.int).length, rfl, .inl ⟨_, h1.sq, rfl⟩, by rw [List.length_map]; exact q.now c rl_int⟩
  | lst xs => exact gen _ rfl q
  | ref n => exact gen _ rfl q
  | _ => exact q.elim
/-- tuple(x), list(x): new ones, pure -/
def dTuple : OpA := op1 fun d Ω => match d with
  | .tup xs => some (.ok (.tup xs), Ω)
  | d => match asL Ω d with
    | some xs => some (.ok (.tup xs), Ω)
    | none => none
theorem cd_tuple : CallD K dTuple (fun xs H Q => ∃ p ys, xs = [.ref p] ∧ ((SqL K H p ys ∧ ∀ l, H l = none → Q (.ref l) (upd H l (.tup ys))) ∨ (SqT K H p ys ∧ Q (.ref p) H))) := by
  intro E m Ω H ds vs Q c r q
  obtain ⟨d, v, ed, ev, h, q⟩ := op1_of r q
  subst ed ev
  have gen : ∀ d', d' = d → Af K (Rl K) E Q m Ω H (match asL Ω d' with | some xs => some (.ok (.tup xs), Ω) | none => none) → ∃ p ys, [v] = [.ref p] ∧ ((SqL K H p ys ∧ ∀ l, H l = none → Q (.ref l) (upd H l (.tup ys))) ∨ (SqT K H p ys ∧ Q (.ref p) H)) := fun d' e qq => by
    clear q
    subst e
    cases e1 : asL Ω d' with
    | none => rw [e1] at qq; exact qq.elim
    | some xs =>
      rw [e1] at qq
      obtain ⟨a, ws, ea, h1, h2⟩ := asL_ok c h e1
      subst ea
      exact ⟨a, ws, rfl, .inl ⟨SqL.of h1, fun l hl => qq m _ _ (Go.new c hl) (rl_tupNew c hl h2)⟩⟩
  cases d with
  | tup xs =>
    have h0 := h
    unfold Rl at h
    obtain ⟨a, ws, ea, h1, h2⟩ := h
    subst ea
    exact ⟨a, ws, rfl, .inr ⟨h1.sq, q.now c h0⟩⟩
  | lst xs => exact gen _ rfl q
  | ref n => exact gen _ rfl q
  | _ => exact q.elim
def dList : OpA := op1 fun d Ω => match d with
  | .tup xs => some (.ok (.lst xs), Ω)
  | d => match asL Ω d with
    | some xs => some (.ok (.lst xs), Ω)
    | none => none
theorem cd_list : CallD K dList (fun xs H Q => ∃ p ys, xs = [.ref p] ∧ (SqL K H p ys ∨ SqT K H p ys) ∧ ∀ l, H l = none → Q (.ref l) (upd H l (.lst ys))) := by
  intro E m Ω H ds vs Q c r q
  obtain ⟨d, v, ed, ev, h, q⟩ := op1_of r q
  subst ed ev
  have gen : ∀ d', d' = d → Af K (Rl K) E Q m Ω H (match asL Ω d' with | some xs => some (.ok (.lst xs), Ω) | none => none) → ∃ p ys, [v] = [.ref p] ∧ (SqL K H p ys ∨ SqT K H p ys) ∧ ∀ l, H l = none → Q (.ref l) (upd H l (.lst ys)) := fun d' e qq => by
    clear q
    subst e
    cases e1 : asL Ω d' with
    | none => rw [e1] at qq; exact qq.elim
    | some xs =>
      rw [e1] at qq
      obtain ⟨a, ws, ea, h1, h2⟩ := asL_ok c h e1
      subst ea
      exact ⟨a, ws, rfl, .inl (SqL.of h1), fun l hl => qq m _ _ (Go.new c hl) (Rl.newL c hl h2)⟩
  cases d with
  | tup xs =>
    unfold Rl at h
    obtain ⟨a, ws, ea, h1, h2⟩ := h
    subst ea
    exact ⟨a, ws, rfl, .inr h1.sq, fun l hl => q m _ _ (Go.new c hl) (Rl.newL c hl h2)⟩
  | lst xs => exact gen _ rfl q
  | ref n => exact gen _ rfl q
  | _ => exact q.elim
/-! ### lists of ints, of truths -/
def asInts : List D → Option (List Int)
  | [] => some []
  | .int i :: r => match asInts r with
    | some l => some (i :: l)
    | none => none
  | _ :: _ => none
theorem asInts_ok {m : Mp} {Ω : Om} {H : Hp} : ∀ {ds : List D} {vs : List V} {ns : List Int}, RlL K m Ω H ds vs → asInts ds = some ns → vs = ns.map V.int
  | [], vs, ns, r, e => by unfold RlL at r; unfold asInts at e; cases e; exact r
  | d :: ds, vs, ns, r, e => by
    unfold RlL at r
    obtain ⟨v, w, ev, h1, h2⟩ := r
    cases d with
    | int i =>
      unfold asInts at e
      cases e1 : asInts ds with
      | none => rw [e1] at e; cases e
      | some l =>
        rw [e1] at e
        cases e
        unfold Rl at h1
        rw [ev, h1, asInts_ok h2 e1]
        rfl
    | _ => unfold asInts at e; cases e
theorem rlL_ints {m : Mp} {Ω : Om} {H : Hp} : ∀ (ns : List Int), RlL K m Ω H (ns.map D.int) (ns.map V.int)
  | [] => by unfold RlL; rfl
  | n :: ns => by
    show RlL K m Ω H (.int n :: ns.map D.int) (.int n :: ns.map V.int)
    unfold RlL
    exact ⟨_, _, rfl, rl_int, rlL_ints ns⟩
def asBools : List D → Option (List Bool)
  | [] => some []
  | .bl i :: r => match asBools r with
    | some l => some (i :: l)
    | none => none
  | _ :: _ => none
theorem asBools_ok {m : Mp} {Ω : Om} {H : Hp} : ∀ {ds : List D} {vs : List V} {ns : List Bool}, RlL K m Ω H ds vs → asBools ds = some ns → vs = ns.map V.bl
  | [], vs, ns, r, e => by unfold RlL at r; unfold asBools at e; cases e; exact r
  | d :: ds, vs, ns, r, e => by
    unfold RlL at r
    obtain ⟨v, w, ev, h1, h2⟩ := r
    cases d with
    | bl i =>
      unfold asBools at e
      cases e1 : asBools ds with
      | none => rw [e1] at e; cases e
      | some l =>
        rw [e1] at e
        cases e
        unfold Rl at h1
        rw [ev, h1, asBools_ok h2 e1]
        rfl
    | _ => unfold asBools at e; cases e
/-- an operation on a list of ints, of truths -/
def onInts (g : List Int → Om → Option (Rs D × Om)) : OpA := op1 fun d Ω => match asL Ω d with
  | some xs => match asInts xs with
    | some ns => g ns Ω
    | none => none
  | none => none
def onBools (g : List Bool → Om → Option (Rs D × Om)) : OpA := op1 fun d Ω => match asL Ω d with
  | some xs => match asBools xs with
    | some ns => g ns Ω
    | none => none
  | none => none
theorem onInts_of {g : List Int → Om → Option (Rs D × Om)} {E : XK} {m : Mp} {Ω : Om} {H : Hp} {ds : List D} {vs : List V} {Q : VK} (c : CellsOk K m Ω H) (r : RlL K m Ω H ds vs) (q : Af K (Rl K) E Q m Ω H (onInts g ds Ω)) :
    ∃ a ns, vs = [.ref a] ∧ H a = some (.lst (ns.map V.int)) ∧ Af K (Rl K) E Q m Ω H (g ns Ω) := by
  obtain ⟨d, v, ed, ev, h, q1⟩ := op1_of r q
  clear q
  subst ed ev
  cases e1 : asL Ω d with
  | none => rw [e1] at q1; exact q1.elim
  | some xs =>
    rw [e1] at q1
    obtain ⟨a, ws, ea, h1, h2⟩ := asL_ok c h e1
    subst ea
    dsimp only at q1
    cases e2 : asInts xs with
    | none => rw [e2] at q1; exact q1.elim
    | some ns =>
      rw [e2] at q1
      rw [asInts_ok h2 e2] at h1
      exact ⟨a, ns, rfl, h1, q1⟩
theorem onBools_of {g : List Bool → Om → Option (Rs D × Om)} {E : XK} {m : Mp} {Ω : Om} {H : Hp} {ds : List D} {vs : List V} {Q : VK} (c : CellsOk K m Ω H) (r : RlL K m Ω H ds vs) (q : Af K (Rl K) E Q m Ω H (onBools g ds Ω)) :
    ∃ a ns, vs = [.ref a] ∧ H a = some (.lst (ns.map V.bl)) ∧ Af K (Rl K) E Q m Ω H (g ns Ω) := by
  obtain ⟨d, v, ed, ev, h, q1⟩ := op1_of r q
  clear q
  subst ed ev
  cases e1 : asL Ω d with
  | none => rw [e1] at q1; exact q1.elim
  | some xs =>
    rw [e1] at q1
    obtain ⟨a, ws, ea, h1, h2⟩ := asL_ok c h e1
    subst ea
    dsimp only at q1
    cases e2 : asBools xs with
    | none => rw [e2] at q1; exact q1.elim
    | some ns =>
      rw [e2] at q1
      rw [asBools_ok h2 e2] at h1
      exact ⟨a, ns, rfl, h1, q1⟩
def dSum : OpA := onInts fun ns Ω => some (.ok (.int ns.sum), Ω)
def dAll : OpA := onBools fun bs Ω => some (.ok (.bl (bs.all id)), Ω)
def dAny : OpA := onBools fun bs Ω => some (.ok (.bl (bs.any id)), Ω)
theorem cd_sum : CallD K dSum (rSum K) := by
  intro E m Ω H ds vs Q c r q
  obtain ⟨a, ns, ev, h, q⟩ := onInts_of c r q
  exact ⟨a, ns, ev, SqL.of h, q.now c rl_int⟩
theorem cd_all : CallD K dAll (rAll K) := by
  intro E m Ω H ds vs Q c r q
  obtain ⟨a, ns, ev, h, q⟩ := onBools_of c r q
  exact ⟨a, ns, ev, SqL.of h, q.now c rl_bl⟩
theorem cd_any : CallD K dAny (rAny K) := by
  intro E m Ω H ds vs Q c r q
  obtain ⟨a, ns, ev, h, q⟩ := onBools_of c r q
  exact ⟨a, ns, ev, SqL.of h, q.now c rl_bl⟩
/-! ### sorted -/
def sortI (ns : List Int) : List Int := ns.mergeSort (fun a b => decide (a ≤ b))
theorem sortI_perm (ns : List Int) : (sortI ns).Perm ns := List.mergeSort_perm ns _
theorem sortI_le (ns : List Int) : (sortI ns).Pairwise (· ≤ ·) := by
  have h := List.pairwise_mergeSort (le := fun (a b : Int) => decide (a ≤ b)) (fun a b c h1 h2 => by simp at *; omega) (fun a b => by simp; omega) ns
  exact h.imp fun h => by simpa using h
theorem sorted_unique : ∀ {xs ys : List Int}, xs.Perm ys → xs.Pairwise (· ≤ ·) → ys.Pairwise (· ≤ ·) → xs = ys
  | [], ys, p, _, _ => (List.Perm.nil_eq p)
  | x :: xs, ys, p, h1, h2 => by
    cases ys with
    | nil => exact absurd p.length_eq (by simp)
    | cons y ys =>
      have hx : x ∈ y :: ys := p.subset (List.mem_cons_self ..)
      have hy : y ∈ x :: xs := p.symm.subset (List.mem_cons_self ..)
      have e : x = y := by
        rw [List.pairwise_cons] at h1 h2
        rcases List.mem_cons.mp hx with e | hx
        · exact e
        · rcases List.mem_cons.mp hy with e | hy
          · exact e.symm
          · have := h1.1 y hy
            have := h2.1 x hx
            omega
      subst e
      rw [sorted_unique (List.Perm.cons_inv p) (List.pairwise_cons.mp h1).2 (List.pairwise_cons.mp h2).2]
def dSortI : OpA := onInts fun ns Ω => some (.ok (.lst ((sortI ns).map D.int)), Ω)
theorem cd_sortI : CallD K dSortI (rSortedI K) := by
  intro E m Ω H ds vs Q c r q
  obtain ⟨a, ns, ev, h, q⟩ := onInts_of c r q
  refine ⟨a, ns, ev, SqL.of h, fun ns' p hp hs hn => ?_⟩
  rw [sorted_unique (hp.trans (sortI_perm ns).symm) hs (sortI_le ns)]
  exact q m _ _ (Go.new c hn) (Rl.newL c hn (rlL_ints _))
end
end Dn


set_option Elab.async false
set_option linter.all false
set_option maxRecDepth 100000
/-! DnDict: lists that change, dicts. -/
namespace Dn
open PySem L2
/-! ### methods of lists that are cells -/
abbrev OpM := D → List D → Om → Option (Rs D × Om)
/-- the n-th cell, a list -/
def cellL (Ω : Om) (n : Nat) : Option (List D) := match Ω[n]? with
  | some (.lst xs) => some xs
  | _ => none
theorem cellL_some {Ω : Om} {n : Nat} {xs : List D} (h : cellL Ω n = some xs) : Ω[n]? = some (.lst xs) := by
  unfold cellL at h
  cases e : Ω[n]? with
  | none => rw [e] at h; cases h
  | some x =>
    rw [e] at h
    cases x with
    | lst ys => cases h; rfl
    | _ => cases h
section
variable {K : PySem.W.Frag} {m : Mp} {Ω : Om} {H : Hp}
theorem cellL_ok (c : CellsOk K m Ω H) {n : Nat} {v : V} {xs : List D} (r : Rl K m Ω H (.ref n) v) (h : cellL Ω n = some xs) : ∃ a vs, v = .ref a ∧ m.l[n]? = some a ∧ Ω[n]? = some (.lst xs) ∧ H a = some (.lst vs) ∧ RlL K m Ω H xs vs := by
  have e := cellL_some h
  unfold Rl at r
  obtain ⟨a, ev, ha⟩ := r
  obtain ⟨vs, h1, h2⟩ := c.at_ n _ a e ha
  exact ⟨a, vs, ev, ha, e, h1, h2⟩
/-- a list cell is given other items -/
theorem Go.setL (c : CellsOk K m Ω H) {n : Nat} {a : Addr} {xs ys : List D} {ws : List V} (ha : m.l[n]? = some a) (e : Ω[n]? = some (.lst xs)) (r : RlL K m Ω H ys ws) : Go K m Ω H m (Ω.set n (.lst ys)) (upd H a (.lst ws)) :=
  Go.set c ha e (fun z => by cases z) fun g => ⟨ws, upd_same, RlL.go g c ys ws r⟩
end
/-! ### dicts as data -/
def valD (kvs : List (Key × D)) (k : Key) : Option D := (kvs.find? fun kv => decide (kv.1 = k)).map (·.2)
def putD (kvs : List (Key × D)) (k : Key) (v : D) : List (Key × D) :=
  if (kvs.any fun kv => decide (kv.1 = k)) = true then kvs.map (fun kv => if kv.1 = k then (kv.1, v) else kv) else kvs ++ [(k, v)]
def mergeD (kvs more : List (Key × D)) : List (Key × D) := more.foldl (fun acc kv => putD acc kv.1 kv.2) kvs
def keyD : D → Option Key
  | .int i => some (.inl i)
  | .str x => some (.inr x)
  | _ => none
def unkey : Key → D
  | .inl i => .int i
  | .inr x => .str x
section
variable {K : PySem.W.Frag} {m : Mp} {Ω : Om} {H : Hp}
theorem keyD_ok {d : D} {v : V} {k : Key} (r : Rl K m Ω H d v) (e : keyD d = some k) : v = kV k := by
  cases d with
  | int i => cases e; unfold Rl at r; exact r
  | str i => cases e; unfold Rl at r; exact r
  | _ => cases e
theorem rl_unkey (k : Key) : Rl K m Ω H (unkey k) (kV k) := by
  cases k with
  | inl i => exact rl_int
  | inr x => show Rl K m Ω H (.str x) (.str x); unfold Rl; rfl
theorem RlK.length : ∀ {ds : List (Key × D)} {vs : List (Key × V)}, RlK K m Ω H ds vs → ds.length = vs.length
  | [], vs, h => by unfold RlK at h; rw [h]; rfl
  | (k, d) :: ds, vs, h => by
    unfold RlK at h
    obtain ⟨v, r, e, _, h2⟩ := h
    rw [e, List.length_cons, List.length_cons, RlK.length h2]
theorem RlK.keys : ∀ {ds : List (Key × D)} {vs : List (Key × V)}, RlK K m Ω H ds vs → ds.map (·.1) = vs.map (·.1)
  | [], vs, h => by unfold RlK at h; rw [h]; rfl
  | (k, d) :: ds, vs, h => by
    unfold RlK at h
    obtain ⟨v, r, e, _, h2⟩ := h
    rw [e, List.map_cons, List.map_cons, RlK.keys h2]
theorem RlK.val : ∀ {ds : List (Key × D)} {vs : List (Key × V)} {k : Key}, RlK K m Ω H ds vs → (∃ d v, valD ds k = some d ∧ valV vs k = some v ∧ Rl K m Ω H d v) ∨ (valD ds k = none ∧ valV vs k = none)
  | [], vs, k, h => by unfold RlK at h; subst h; exact .inr ⟨rfl, rfl⟩
  | (k', d) :: ds, vs, k, h => by
    unfold RlK at h
    obtain ⟨v, r, e, h1, h2⟩ := h
    subst e
    by_cases hk : k' = k
    · exact .inl ⟨d, v, by simp [valD, List.find?_cons, hk], by simp [valV, List.find?_cons, hk], h1⟩
    · have e1 : valD ((k', d) :: ds) k = valD ds k := by simp [valD, List.find?_cons, hk]
      have e2 : valV ((k', v) :: r) k = valV r k := valV_neg hk
      rw [e1, e2]
      exact RlK.val h2
theorem RlK.append : ∀ {ds es : List (Key × D)} {vs ws : List (Key × V)}, RlK K m Ω H ds vs → RlK K m Ω H es ws → RlK K m Ω H (ds ++ es) (vs ++ ws)
  | [], es, vs, ws, h, h' => by unfold RlK at h; subst h; exact h'
  | (k, x) :: ds, es, vs, ws, h, h' => by
    unfold RlK at h
    obtain ⟨v, r, e1, h1, h2⟩ := h
    subst e1
    show RlK K m Ω H ((k, x) :: (ds ++ es)) ((k, v) :: (r ++ ws))
    unfold RlK
    exact ⟨v, _, rfl, h1, h2.append h'⟩
theorem RlK.put {ds : List (Key × D)} {vs : List (Key × V)} {k : Key} {d : D} {v : V} (h : RlK K m Ω H ds vs) (r : Rl K m Ω H d v) : RlK K m Ω H (putD ds k d) (putK vs k v) := by
  have ha : (ds.any fun kv => decide (kv.1 = k)) = (vs.any fun kv => decide (kv.1 = k)) := by
    have := h.keys
    have e1 : (ds.any fun kv => decide (kv.1 = k)) = ((ds.map (·.1)).any fun x => decide (x = k)) := by rw [List.any_map]; rfl
    have e2 : (vs.any fun kv => decide (kv.1 = k)) = ((vs.map (·.1)).any fun x => decide (x = k)) := by rw [List.any_map]; rfl
    rw [e1, e2, this]
  unfold putD putK
  rw [ha]
  split
  · have key : ∀ {ds : List (Key × D)} {vs : List (Key × V)}, RlK K m Ω H ds vs → RlK K m Ω H (ds.map fun kv => if kv.1 = k then (kv.1, d) else kv) (vs.map fun kv => if kv.1 = k then (kv.1, v) else kv) := by
      intro ds
      induction ds with
      | nil => intro vs h; unfold RlK at h; subst h; unfold RlK; rfl
      | cons p ds ih =>
        intro vs h
        obtain ⟨k', x⟩ := p
        unfold RlK at h
        obtain ⟨w, r', e, h1, h2⟩ := h
        subst e
        rw [List.map_cons, List.map_cons]
        by_cases hk : k' = k
        · simp only [hk, if_true]
          unfold RlK
          exact ⟨v, _, rfl, r, ih h2⟩
        · simp only [hk, if_false]
          unfold RlK
          exact ⟨w, _, rfl, h1, ih h2⟩
    exact key h
  · refine h.append ?_
    unfold RlK
    exact ⟨v, [], rfl, r, by unfold RlK; rfl⟩
theorem RlK.merge : ∀ {more : List (Key × D)} {ws : List (Key × V)} {ds : List (Key × D)} {vs : List (Key × V)}, RlK K m Ω H more ws → RlK K m Ω H ds vs → RlK K m Ω H (mergeD ds more) (mergeK vs ws)
  | [], ws, ds, vs, h, h' => by unfold RlK at h; subst h; exact h'
  | (k, d) :: more, ws, ds, vs, h, h' => by
    unfold RlK at h
    obtain ⟨v, r, e, h1, h2⟩ := h
    subst e
    show RlK K m Ω H (mergeD (putD ds k d) more) (mergeK (putK vs k v) r)
    exact RlK.merge h2 (h'.put h1)
/-- a dict, pure or a cell -/
def asK (Ω : Om) : D → Option (List (Key × D))
  | .dct kvs => some kvs
  | .ref n => match Ω[n]? with
    | some (.dct kvs) => some kvs
    | _ => none
  | _ => none
theorem asK_ok (c : CellsOk K m Ω H) {d : D} {v : V} {kvs : List (Key × D)} (r : Rl K m Ω H d v) (e : asK Ω d = some kvs) : ∃ a ws, v = .ref a ∧ Rd H a (.dK ws) ∧ RlK K m Ω H kvs ws := by
  cases d with
  | dct ys =>
    unfold Rl at r
    cases (Option.some.inj e)
    obtain ⟨a, vs, e1, h1, _, h2⟩ := r
    exact ⟨a, vs, e1, h1, h2⟩
  | ref n =>
    unfold Rl at r
    obtain ⟨a, e1, h1⟩ := r
    unfold asK at e
    dsimp only at e
    cases q : Ω[n]? with
    | none => rw [q] at e; cases e
    | some x =>
      rw [q] at e
      cases x with
      | dct ys =>
        cases (Option.some.inj e)
        obtain ⟨vs, h2, h3⟩ := c.at_ n _ a q h1
        exact ⟨a, vs, e1, .inl h2, h3⟩
      | _ => cases e
  | _ => cases e
/-- d[k] of a dict -/
def onKey (g : Option D → Om → Option (Rs D × Om)) : Op2 := fun x y Ω => match asK Ω x with
  | some kvs => match keyD y with
    | some k => g (valD kvs k) Ω
    | none => none
  | none => none
theorem onKey_of {g : Option D → Om → Option (Rs D × Om)} {E : XK} {x y : D} {v u : V} {Q : VK} (c : CellsOk K m Ω H) (rx : Rl K m Ω H x v) (ry : Rl K m Ω H y u) (q : Af K (Rl K) E Q m Ω H (onKey g x y Ω)) :
    ∃ a o, v = .ref a ∧ IsD H a ∧ DGet H a u o ∧ ((∃ d w, o = some w ∧ Rl K m Ω H d w ∧ Af K (Rl K) E Q m Ω H (g (some d) Ω)) ∨ (o = none ∧ Af K (Rl K) E Q m Ω H (g none Ω))) := by
  unfold onKey at q
  cases e1 : asK Ω x with
  | none => rw [e1] at q; exact q.elim
  | some kvs =>
    rw [e1] at q
    dsimp only at q
    cases e2 : keyD y with
    | none => rw [e2] at q; exact q.elim
    | some k =>
      rw [e2] at q
      dsimp only at q
      obtain ⟨a, ws, ev, h1, h2⟩ := asK_ok c rx e1
      have hu := keyD_ok ry e2
      refine ⟨a, valV ws k, ev, .inl ⟨ws, h1⟩, .inl ⟨ws, k, h1, hu, rfl⟩, ?_⟩
      rcases h2.val (k := k) with ⟨d, w, z1, z2, z3⟩ | ⟨z1, z2⟩
      · rw [z1] at q
        exact .inl ⟨d, w, z2, z3, q⟩
      · rw [z1] at q
        exact .inr ⟨z2, q⟩
def dGet : Op2 := onKey fun o Ω => match o with
  | some d => some (.ok d, Ω)
  | none => none
def dGetN : Op2 := onKey fun o Ω => some (.ok (o.getD .non), Ω)
def dHas : Op2 := onKey fun o Ω => some (.ok (.bl o.isSome), Ω)
def dHasNo : Op2 := onKey fun o Ω => some (.ok (.bl (!o.isSome)), Ω)
end
section
variable {X : Cx} {E : St → XK} {a b e o : Expr} {f g : Den D} {pos : Pos} {k : Nat}
theorem hu_of' {A : Around} (hr : Room k A) : A.units + 1 < cLine := hu_of hr
theorem de_dget (hr : Room k X.A) (ha : DE X E a f) (hb : DE X E b g) (hp : NoSl b := by intro _ _; rfl) : DE X E (.Subscript a b pos) (fBin dGet f g) := PE.mono (pe_dget (hu_of hr) ha hb hp) fun σ H Q h => by
  obtain ⟨m, Γ, Ω, s, h⟩ := h
  refine ⟨m, Γ, Ω, s, (Af.bind (R := Rl X.K) h).imp fun _ _ _ _ _ _ _ _ ⟨m1, Ω1, x, g1, r1, q⟩ => ⟨m1, Γ, Ω1, s.go g1, (Af.bind (R := Rl X.K) q).imp fun _ _ _ _ _ _ _ _ ⟨m2, Ω2, y, g2, r2, q2⟩ => ?_⟩⟩
  obtain ⟨a, o, ev, _, hg, z⟩ := onKey_of g2.ok (Rl.go g2.toGw g1.ok x _ r1) r2 q2
  rcases z with ⟨d, w, eo, hd, q3⟩ | ⟨eo, q3⟩
  · subst eo
    exact ⟨a, w, ev, hg, q3.now g2.ok hd⟩
  · exact q3.elim
/-- k in d, k not in d: the key first -/
def fIn (f g : Den D) : Den D := bnd f fun y => bnd g fun x _ Ω => dHas x y Ω
def fNotIn (f g : Den D) : Den D := bnd f fun y => bnd g fun x _ Ω => dHasNo x y Ω
theorem tIn_of {σ : St} {H : Hp} {Q : VK} (h : tD X.K E (fIn f g) σ H Q) : tDIn (tD X.K E f) (tD X.K E g) σ H Q := by
  obtain ⟨m, Γ, Ω, s, h⟩ := h
  refine ⟨m, Γ, Ω, s, (Af.bind (R := Rl X.K) h).imp fun _ _ _ _ _ _ _ _ ⟨m1, Ω1, y, g1, r1, q⟩ => ⟨m1, Γ, Ω1, s.go g1, (Af.bind (R := Rl X.K) q).imp fun _ _ _ _ _ _ _ _ ⟨m2, Ω2, x, g2, r2, q2⟩ => ?_⟩⟩
  obtain ⟨a, o, ev, _, hg, z⟩ := onKey_of g2.ok r2 (Rl.go g2.toGw g1.ok y _ r1) q2
  refine ⟨a, o, ev, hg, ?_⟩
  rcases z with ⟨d, w, eo, hd, q3⟩ | ⟨eo, q3⟩
  · subst eo; exact q3.now g2.ok rl_bl
  · subst eo; exact q3.now g2.ok rl_bl
theorem tNotIn_of {σ : St} {H : Hp} {Q : VK} (h : tD X.K E (fNotIn f g) σ H Q) : tDNotIn (tD X.K E f) (tD X.K E g) σ H Q := by
  obtain ⟨m, Γ, Ω, s, h⟩ := h
  refine ⟨m, Γ, Ω, s, (Af.bind (R := Rl X.K) h).imp fun _ _ _ _ _ _ _ _ ⟨m1, Ω1, y, g1, r1, q⟩ => ⟨m1, Γ, Ω1, s.go g1, (Af.bind (R := Rl X.K) q).imp fun _ _ _ _ _ _ _ _ ⟨m2, Ω2, x, g2, r2, q2⟩ => ?_⟩⟩
  obtain ⟨a, o, ev, _, hg, z⟩ := onKey_of g2.ok r2 (Rl.go g2.toGw g1.ok y _ r1) q2
  refine ⟨a, o, ev, hg, ?_⟩
  rcases z with ⟨d, w, eo, hd, q3⟩ | ⟨eo, q3⟩
  · subst eo; exact q3.now g2.ok rl_bl
  · subst eo; exact q3.now g2.ok rl_bl
theorem de_in (hr : Room k X.A) (ha : DE X E a f) (hb : DE X E b g) (hm : behindInMarks .In b = false := by rfl) : DE X E (.Compare a [.In] [b] pos) (fIn f g) := PE.mono (pe_cmp (pc_din (hu_of hr) ha hb) hm) fun _ _ _ h => tIn_of h
theorem de_notIn (hr : Room k X.A) (ha : DE X E a f) (hb : DE X E b g) (hm : behindInMarks .NotIn b = false := by rfl) : DE X E (.Compare a [.NotIn] [b] pos) (fNotIn f g) := PE.mono (pe_cmp (pc_dnotin (hu_of hr) ha hb) hm) fun _ _ _ h => tNotIn_of h
theorem dt_in (hr : Room k X.A) (ha : DE X E a f) (hb : DE X E b g) (hm : behindInMarks .In b = false := by rfl) : DT X E (.Compare a [.In] [b] pos) (fT (fIn f g)) := PT.mono (pt_cmp (pc_din (hu_of hr) ha hb) hm) fun _ _ _ h => by
  have h2 := tT_of h
  exact tIn_of h2
theorem dt_notIn (hr : Room k X.A) (ha : DE X E a f) (hb : DE X E b g) (hm : behindInMarks .NotIn b = false := by rfl) : DT X E (.Compare a [.NotIn] [b] pos) (fT (fNotIn f g)) := PT.mono (pt_cmp (pc_dnotin (hu_of hr) ha hb) hm) fun _ _ _ h => by
  have h2 := tT_of h
  exact tNotIn_of h2
/-- {}: a cell -/
def fDnew : Den D := fun _ Ω => some (.ok (.ref Ω.length), Ω ++ [.dct []])
theorem de_dnew : DE X E (.Dict [] [] pos) fDnew := PE.mono pe_dnewK fun σ H Q h => by
  obtain ⟨m, Γ, Ω, s, h⟩ := h
  intro p hp
  exact h (m.add p) _ _ (Go.cell s.cells hp fun g => ⟨[], upd_same, by unfold RlK; rfl⟩) (rl_last s.cells)
end
/-! ### methods of built-in objects -/
/-- chk: what is asked of the receiver ahead of the arguments -/
def fMt (chk : D → Om → Bool) (op : OpM) (f : Den D) (r : Den (List D)) : Den D := bnd f fun x Γ Ω => if chk x Ω = true then bR (r Γ Ω) fun ds Ω1 => op x ds Ω1 else none
def fMt0 (chk : D → Om → Bool) (op : OpM) (f : Den D) : Den D := bnd f fun x _ Ω => if chk x Ω = true then op x [] Ω else none
def MthD (K : PySem.W.Frag) (op : OpM) (rr : V → List V → Hp → VK → Prop) : Prop := ∀ (E : XK) (m : Mp) (Ω : Om) (H : Hp) (x : D) (v : V) (ds : List D) (vs : List V) (Q : VK), CellsOk K m Ω H → Rl K m Ω H x v → RlL K m Ω H ds vs → Af K (Rl K) E Q m Ω H (op x ds Ω) → rr v vs H Q
def RcvD (K : PySem.W.Frag) (T : String) (chk : D → Om → Bool) : Prop := ∀ (m : Mp) (Ω : Om) (H : Hp) (x : D) (v : V), CellsOk K m Ω H → Rl K m Ω H x v → chk x Ω = true → tyV K T v H
section
variable {X : Cx} {E : St → XK} {o e : Expr} {es : List Expr} {f : Den D} {r : Den (List D)} {apos cpos : Pos} {op : OpM} {rr : V → List V → Hp → VK → Prop} {chk : D → Om → Bool} {name : Str} {T id : String}
theorem de_bm (pa : PlainAttrs T) (slot : Slot T name id) (hty : typeOf (.builtin id) = pure (.type "method_descriptor")) (hm : MtR X id rr) (hc : RcvD X.K T chk) (hd : MthD X.K op rr) (ho : DE X E o f) (ha : DA X E (e :: es) r)
    (hbase : attributeBase o name X.env (eval o X.env) = eval o X.env := by rfl)
    (hfew : ((backTo cpos (starEach (e :: es) X.env)).all (fun x => !x.1) && (backToKw cpos (keywordEach [] X.env)).all (fun x => x.1.isSome)
      && decide ((e :: es).length + ([] : List Keyword).length + (if ([] : List Keyword).isEmpty then 0 else 1) < 30)) = true := by rfl)
    (hline : (apos.endLine == cpos.line) = true := by rfl) (hs : starEach (e :: es) X.env = (false, eval e X.env) :: starEach es X.env := by rfl) (hplain : (backTo cpos (starEach es X.env)).any (·.1) = false := by rfl) :
    DE X E (.Call (.Attribute o name apos) (e :: es) [] cpos) (fMt chk op f r) := PE.mono (pe_bm pa slot hty hm ho ha hbase hfew hline hs hplain) fun σ H Q h => by
  obtain ⟨m, Γ, Ω, s, h⟩ := h
  refine ⟨m, Γ, Ω, s, (Af.bind (R := Rl X.K) h).imp fun _ _ _ _ _ _ _ _ ⟨m1, Ω1, x, g1, r1, q⟩ => ?_⟩
  obtain ⟨hk, q⟩ := Af.guard q
  refine ⟨hc m1 Ω1 _ x _ g1.ok r1 hk, m1, Γ, Ω1, s.go g1, (Af.bind (R := RlL X.K) q).imp fun _ _ _ _ _ _ _ _ ⟨m2, Ω2, ds, g2, r2, q2⟩ => ?_⟩
  exact hd (E σ) m2 Ω2 _ x _ ds _ Q g2.ok (Rl.go g2.toGw g1.ok x _ r1) r2 q2
theorem de_bm0 (pa : PlainAttrs T) (slot : Slot T name id) (hty : typeOf (.builtin id) = pure (.type "method_descriptor")) (hm : MtR X id rr) (hc : RcvD X.K T chk) (hd : MthD X.K op rr) (ho : DE X E o f)
    (hbase : attributeBase o name X.env (eval o X.env) = eval o X.env := by rfl) (hline : (apos.endLine == cpos.line) = true := by rfl) :
    DE X E (.Call (.Attribute o name apos) [] [] cpos) (fMt0 chk op f) := PE.mono (pe_bm0 pa slot hty hm ho hbase hline) fun σ H Q h => by
  obtain ⟨m, Γ, Ω, s, h⟩ := h
  refine ⟨m, Γ, Ω, s, (Af.bind (R := Rl X.K) h).imp fun _ _ _ _ _ _ _ _ ⟨m1, Ω1, x, g1, r1, q⟩ => ?_⟩
  obtain ⟨hk, q⟩ := Af.guard q
  exact ⟨hc m1 Ω1 _ x _ g1.ok r1 hk, hd (E σ) m1 Ω1 _ x _ [] [] Q g1.ok r1 (by unfold RlL; rfl) q⟩
end
section
variable {K : PySem.W.Frag} {X : Cx}
def chkL (x : D) (Ω : Om) : Bool := match x with
  | .ref n => (cellL Ω n).isSome
  | _ => false
theorem rc_list : RcvD K "list" chkL := by
  intro m Ω H x v c r h
  cases x with
  | ref n =>
    obtain ⟨xs, e⟩ := Option.isSome_iff_exists.mp (show (cellL Ω n).isSome = true from h)
    obtain ⟨a, vs, ev, _, _, h1, _⟩ := cellL_ok c r e
    subst ev
    exact .inl ⟨rfl, vs, SqL.of h1⟩
  | _ => cases h
def chkK (x : D) (Ω : Om) : Bool := match x with
  | .ref n => (asK Ω (.ref n)).isSome
  | _ => false
theorem cellK_ok {m : Mp} {Ω : Om} {H : Hp} (c : CellsOk K m Ω H) {n : Nat} {v : V} {kvs : List (Key × D)} (r : Rl K m Ω H (.ref n) v) (h : asK Ω (.ref n) = some kvs) : ∃ a ws, v = .ref a ∧ m.l[n]? = some a ∧ Ω[n]? = some (.dct kvs) ∧ H a = some (.dK ws) ∧ RlK K m Ω H kvs ws := by
  unfold asK at h
  dsimp only at h
  cases q : Ω[n]? with
  | none => rw [q] at h; cases h
  | some x =>
    rw [q] at h
    cases x with
    | dct ys =>
      cases h
      unfold Rl at r
      obtain ⟨a, ev, ha⟩ := r
      obtain ⟨ws, h1, h2⟩ := c.at_ n _ a q ha
      exact ⟨a, ws, ev, ha, rfl, h1, h2⟩
    | _ => cases h
theorem rc_dict : RcvD K "dict" chkK := by
  intro m Ω H x v c r h
  cases x with
  | ref n =>
    obtain ⟨xs, e⟩ := Option.isSome_iff_exists.mp (show (asK Ω (.ref n)).isSome = true from h)
    obtain ⟨a, vs, ev, _, _, h1, _⟩ := cellK_ok c r e
    subst ev
    exact .inr (.inr (.inl ⟨rfl, .inl ⟨vs, h1⟩⟩))
  | _ => cases h
def mAppend : OpM := fun x ds Ω => match x with
  | .ref n => match cellL Ω n with
    | some xs => match ds with
      | [y] => if xs.length < 100000 then some (.ok .non, Ω.set n (.lst (xs ++ [y]))) else none
      | _ => none
    | none => none
  | _ => none
theorem md_append : MthD K mAppend rAppend := by
  intro E m Ω H x v ds vs Q c r rs q
  cases x with
  | ref n =>
    unfold mAppend at q
    dsimp only at q
    cases e : cellL Ω n with
    | none => rw [e] at q; exact q.elim
    | some xs =>
      rw [e] at q
      obtain ⟨a, ws, ev, ha, eΩ, h1, h2⟩ := cellL_ok c r e
      match ds, q, rs with
      | [y], q, rs =>
        obtain ⟨hz, q⟩ := Af.guard q
        obtain ⟨w, ew, hw⟩ := rs.single
        exact ⟨a, ws, w, ev, ew, h1, by rw [← h2.length]; exact Nat.lt_of_lt_of_le hz (by decide), q m _ _ (Go.setL c ha eΩ (h2.append (RlL.one hw))) (by unfold Rl; rfl)⟩
      | [], q, _ => exact q.elim
      | _ :: _ :: _, q, _ => exact q.elim
  | _ => exact q.elim
def mExtend : OpM := fun x ds Ω => match x with
  | .ref n => match cellL Ω n with
    | some xs => match ds with
      | [y] => match asL Ω y with
        | some ys => if xs.length + ys.length ≤ 100000 then some (.ok .non, Ω.set n (.lst (xs ++ ys))) else none
        | none => none
      | _ => none
    | none => none
  | _ => none
theorem md_extend : MthD K mExtend rExtend := by
  intro E m Ω H x v ds vs Q c r rs q
  cases x with
  | ref n =>
    unfold mExtend at q
    dsimp only at q
    cases e : cellL Ω n with
    | none => rw [e] at q; exact q.elim
    | some xs =>
      rw [e] at q
      obtain ⟨a, ws, ev, ha, eΩ, h1, h2⟩ := cellL_ok c r e
      match ds, q, rs with
      | [y], q, rs =>
        dsimp only at q
        cases e2 : asL Ω y with
        | none => rw [e2] at q; exact q.elim
        | some ys =>
          rw [e2] at q
          obtain ⟨hz, q⟩ := Af.guard q
          obtain ⟨w, ew, hw⟩ := rs.single
          obtain ⟨b, us, eb, h3, h4⟩ := asL_ok c hw e2
          subst eb
          exact ⟨a, b, ws, us, ev, ew, h1, h3, by rw [← h2.length, ← h4.length]; exact sz hz, q m _ _ (Go.setL c ha eΩ (h2.append h4)) (by unfold Rl; rfl)⟩
      | [], q, _ => exact q.elim
      | _ :: _ :: _, q, _ => exact q.elim
  | _ => exact q.elim
def mClear : OpM := fun x ds Ω => match x with
  | .ref n => match cellL Ω n with
    | some xs => match ds with
      | [] => some (.ok .non, Ω.set n (.lst []))
      | _ => none
    | none => none
  | _ => none
theorem md_clear : MthD K mClear rClear := by
  intro E m Ω H x v ds vs Q c r rs q
  cases x with
  | ref n =>
    unfold mClear at q
    dsimp only at q
    cases e : cellL Ω n with
    | none => rw [e] at q; exact q.elim
    | some xs =>
      rw [e] at q
      obtain ⟨a, ws, ev, ha, eΩ, h1, h2⟩ := cellL_ok c r e
      match ds, q, rs with
      | [], q, rs =>
        unfold RlL at rs
        exact ⟨a, ws, ev, rs, h1, q m _ _ (Go.setL c ha eΩ (by unfold RlL; rfl)) (by unfold Rl; rfl)⟩
      | _ :: _, q, _ => exact q.elim
  | _ => exact q.elim
/-- d.update(e), e another dict -/
def rDUpd : V → List V → Hp → VK → Prop := fun x vs H Q => ∃ (a b : Addr) (kvs more : List (Key × V)), x = .ref a ∧ vs = [.ref b] ∧ H a = some (.dK kvs) ∧ Rd H b (.dK more) ∧ a ≠ b ∧ kvs.length + more.length ≤ sizeLine ∧ Q .non (upd H a (.dK (mergeK kvs more)))
theorem mergeK_length (more : List (Key × V)) : ∀ kvs : List (Key × V), (mergeK kvs more).length ≤ kvs.length + more.length := by
  induction more with
  | nil => intro kvs; exact Nat.le_refl _
  | cons p more ih =>
    intro kvs
    have h := ih (putK kvs p.1 p.2)
    have h2 : (putK kvs p.1 p.2).length ≤ kvs.length + 1 := by
      unfold putK
      split
      · rw [List.length_map]; omega
      · rw [List.length_append]; simp
    show (mergeK (putK kvs p.1 p.2) more).length ≤ _
    rw [List.length_cons]
    omega
theorem mt_dupd : MtR X "dict.update" rDUpd := by
  intro pins s σ H x vs v us Q I rx rv h
  obtain ⟨a, b, kvs, more, ex, ev, e, eb, hab, hz, q⟩ := h
  subst ex ev
  obtain rfl : v = Value.ref a := rx
  obtain ⟨u, hu, ru⟩ := rv.one
  subst hu
  obtain rfl : u = Value.ref b := ru
  obtain ⟨z, hd, ws, rel, dd⟩ := dk_of I.hok e
  obtain ⟨z2, hd2, ws2, rel2, dd2⟩ := dk_rd I.hok eb
  have l1 : kvs.length = ws.length := Paired.length rel
  have l2 : more.length = ws2.length := Paired.length rel2
  refine call_meetsIn PySem.F.slot_dict_update dd.typeIs PySem.F.entry_dict_update (PySem.F.args_dict_update_2 _ _) (meets_dict_update (mixKind X.prog X.w) a b hab hd2) ⟨ws, ws2, dd, dd2, by rw [← l1, ← l2]; exact hz, fun h' dd' _ hs => ?_⟩
  have he : ∃ q, h'.get? a = some q := let ⟨q, _, _, hq, _⟩ := dd'; ⟨q, hq⟩
  exact ⟨.non, _, d_write (t' := s.toks) I (by rw [e]; exact True.intro) hs he (dk_new (Nat.le_trans (mergeK_length more kvs) hz) hd (KV.merge rel2 rel) dd'), rfl, q⟩
def mUpd : OpM := fun x ds Ω => match x with
  | .ref n => match asK Ω (.ref n) with
    | some kvs => match ds with
      | [y] => match y with
        | .dct more => if kvs.length + more.length ≤ 100000 then some (.ok .non, Ω.set n (.dct (mergeD kvs more))) else none
        | _ => none
      | _ => none
    | none => none
  | _ => none
theorem md_upd : MthD K mUpd rDUpd := by
  intro E m Ω H x v ds vs Q c r rs q
  cases x with
  | ref n =>
    unfold mUpd at q
    dsimp only at q
    cases e : asK Ω (.ref n) with
    | none => rw [e] at q; exact q.elim
    | some kvs =>
      rw [e] at q
      obtain ⟨a, ws, ev, ha, eΩ, h1, h2⟩ := cellK_ok c r e
      match ds, q, rs with
      | [y], q, rs =>
        cases y with
        | dct more =>
          obtain ⟨hz, q⟩ := Af.guard q
          obtain ⟨w, ew, hw⟩ := rs.single
          unfold Rl at hw
          obtain ⟨b, us, eb, h3, hl, h4⟩ := hw
          subst eb
          have hab : a ≠ b := fun z => hl (by rw [← z]; exact .inl ⟨n, _, ha, eΩ, fun z => by cases z⟩)
          refine ⟨a, b, ws, us, ev, ew, h1, h3, hab, by rw [← h2.length, ← h4.length]; exact sz hz, q m _ _ ?_ (by unfold Rl; rfl)⟩
          exact Go.set c ha eΩ (fun z => by cases z) fun g => ⟨_, upd_same, RlK.go g c _ _ (h4.merge h2)⟩
        | _ => exact q.elim
      | [], q, _ => exact q.elim
      | _ :: _ :: _, q, _ => exact q.elim
  | _ => exact q.elim
end
section
variable {X : Cx} {E : St → XK} {o e : Expr} {f g : Den D} {r : Den (List D)} {apos cpos : Pos}
theorem de_append (ho : DE X E o f) (ha : DA X E [e] r) (hbase : attributeBase o "append" X.env (eval o X.env) = eval o X.env := by rfl)
    (hfew : ((backTo cpos (starEach [e] X.env)).all (fun x => !x.1) && (backToKw cpos (keywordEach [] X.env)).all (fun x => x.1.isSome) && decide ([e].length + ([] : List Keyword).length + (if ([] : List Keyword).isEmpty then 0 else 1) < 30)) = true := by rfl)
    (hline : (apos.endLine == cpos.line) = true := by rfl) (hs : starEach [e] X.env = (false, eval e X.env) :: starEach [] X.env := by rfl) (hplain : (backTo cpos (starEach [] X.env)).any (·.1) = false := by rfl) : DE X E (.Call (.Attribute o "append" apos) [e] [] cpos) (fMt chkL mAppend f r) :=
  de_bm PySem.F.plainAttrs_list PySem.F.slot_list_append PySem.F.type_list_append mt_append rc_list md_append ho ha hbase hfew hline hs hplain
theorem de_extend (ho : DE X E o f) (ha : DA X E [e] r) (hbase : attributeBase o "extend" X.env (eval o X.env) = eval o X.env := by rfl)
    (hfew : ((backTo cpos (starEach [e] X.env)).all (fun x => !x.1) && (backToKw cpos (keywordEach [] X.env)).all (fun x => x.1.isSome) && decide ([e].length + ([] : List Keyword).length + (if ([] : List Keyword).isEmpty then 0 else 1) < 30)) = true := by rfl)
    (hline : (apos.endLine == cpos.line) = true := by rfl) (hs : starEach [e] X.env = (false, eval e X.env) :: starEach [] X.env := by rfl) (hplain : (backTo cpos (starEach [] X.env)).any (·.1) = false := by rfl) : DE X E (.Call (.Attribute o "extend" apos) [e] [] cpos) (fMt chkL mExtend f r) :=
  de_bm PySem.F.plainAttrs_list PySem.F.slot_list_extend PySem.F.type_list_extend mt_extend rc_list md_extend ho ha hbase hfew hline hs hplain
theorem de_update (ho : DE X E o f) (ha : DA X E [e] r) (hbase : attributeBase o "update" X.env (eval o X.env) = eval o X.env := by rfl)
    (hfew : ((backTo cpos (starEach [e] X.env)).all (fun x => !x.1) && (backToKw cpos (keywordEach [] X.env)).all (fun x => x.1.isSome) && decide ([e].length + ([] : List Keyword).length + (if ([] : List Keyword).isEmpty then 0 else 1) < 30)) = true := by rfl)
    (hline : (apos.endLine == cpos.line) = true := by rfl) (hs : starEach [e] X.env = (false, eval e X.env) :: starEach [] X.env := by rfl) (hplain : (backTo cpos (starEach [] X.env)).any (·.1) = false := by rfl) : DE X E (.Call (.Attribute o "update" apos) [e] [] cpos) (fMt chkK mUpd f r) :=
  de_bm PySem.F.plainAttrs_dict PySem.F.slot_dict_update PySem.F.type_dict_update mt_dupd rc_dict md_upd ho ha hbase hfew hline hs hplain
theorem de_clear (ho : DE X E o f) (hbase : attributeBase o "clear" X.env (eval o X.env) = eval o X.env := by rfl) (hline : (apos.endLine == cpos.line) = true := by rfl) : DE X E (.Call (.Attribute o "clear" apos) [] [] cpos) (fMt0 chkL mClear f) :=
  de_bm0 PySem.F.plainAttrs_list PySem.F.slot_list_clear PySem.F.type_list_clear mt_clear rc_list md_clear ho hbase hline
end
/-! ### o[i] = e on a list cell -/
def setIx (x y d : D) (Ω : Om) : Option Om := match x with
  | .ref n => match cellL Ω n with
    | some xs => match y with
      | .int i => match ixN xs.length i with
        | some j => some (Ω.set n (.lst (xs.set j d)))
        | none => none
      | _ => none
    | none => none
  | _ => none
def sSetIx (fo fi fe : Den D) : DenS := fun Γ Ω => eS (fe Γ Ω) Γ fun d Ω1 => eS (fo Γ Ω1) Γ fun x Ω2 => eS (fi Γ Ω2) Γ fun y Ω3 => match setIx x y d Ω3 with
  | some Ω4 => some (.nx, Γ, Ω4)
  | none => none
section
variable {K : PySem.W.Frag} {m : Mp} {Ω : Om} {H : Hp}
theorem setIx_ok (c : CellsOk K m Ω H) {x y d : D} {vx vy vd : V} {Ω' : Om} (rx : Rl K m Ω H x vx) (ry : Rl K m Ω H y vy) (rd : Rl K m Ω H d vd) (e : setIx x y d Ω = some Ω') {Q : Hp → Prop} (q : ∀ H', Go K m Ω H m Ω' H' → Q H') : rSetL vx vy vd H Q := by
  cases x with
  | ref n =>
    unfold setIx at e
    dsimp only at e
    cases e1 : cellL Ω n with
    | none => rw [e1] at e; cases e
    | some xs =>
      rw [e1] at e
      obtain ⟨a, ws, ev, ha, eΩ, h1, h2⟩ := cellL_ok c rx e1
      cases y with
      | int i =>
        dsimp only at e
        cases e2 : ixN xs.length i with
        | none => rw [e2] at e; cases e
        | some j =>
          rw [e2] at e
          cases e
          unfold Rl at ry
          exact ⟨a, ws, i, j, ev, ry, h1, by rw [← h2.length]; exact e2, q _ (Go.setL c ha eΩ (h2.set j rd))⟩
      | _ => cases e
  | _ => cases e
end
section
variable {X : Cx} {E : St → XK} {o i e : Expr} {fo fi fe : Den D} {pos tpos : Pos}
theorem ds_setix (he : DE X E e fe) (ho : DE X E o fo) (hi : DE X E i fi)
    (ha : ∀ v, assign (.Subscript o i tpos) X.env v = (do
      let ov ← holding [v] (eval o X.env)
      let iv ← holding [v, ov] (eval i X.env)
      standAt tpos
      holding [v, ov, iv] (setItem ov iv v)
      release [v, ov, iv] []) := by intro _; rfl)
    (hs : swapsWithSole [.Subscript o i tpos] e pos.line X.env = pure false := by rfl) (hw : swappedStores [.Subscript o i tpos] e X.env = pure none := by rfl)
    (h1 : (assignEach [.Subscript o i tpos] X.env).map (·.2) = [assign (.Subscript o i tpos) X.env] := by rfl) : DS X E (.Assign [.Subscript o i tpos] e pos) (sSetIx fo fi fe) :=
  PS.mono (ps_asg he (pg_sub ho hi set_list ha) hs hw h1) fun D σ H h => by
    obtain ⟨m, Γ, Ω, s, h⟩ := h
    refine ⟨m, Γ, Ω, s, (AfS.val s.slots s.cells h).imp fun _ _ _ _ _ _ _ _ ⟨m1, Ω1, d, g1, r1, q⟩ => ?_⟩
    refine ⟨m1, Γ, Ω1, s.go g1, (AfS.val (s.go g1).slots g1.ok q).imp fun _ _ _ _ _ _ _ _ ⟨m2, Ω2, x, g2, r2, q2⟩ => ?_⟩
    refine ⟨m2, Γ, Ω2, (s.go g1).go g2, (AfS.val ((s.go g1).go g2).slots g2.ok q2).imp fun _ _ _ _ _ _ _ _ ⟨m3, Ω3, y, g3, r3, q3⟩ => ?_⟩
    cases e4 : setIx x y d Ω3 with
    | none => rw [e4] at q3; exact q3.elim
    | some Ω4 =>
      rw [e4] at q3
      exact setIx_ok g3.ok (Rl.go g3.toGw g2.ok x _ r2) r3 (Rl.go (g2.trans g3).toGw g1.ok d _ r1) e4 fun H' g => q3 m3 σ H' g (((((s.go g1).go g2).go g3).go g).slots)
/-- o[i], x = e, e a new pair (divmod) -/
def sSetPair (fo fi : Den D) (j : Nat) (fe : Den D) : DenS := fun Γ Ω => eS (fe Γ Ω) Γ fun d Ω1 => match d with
  | .tup ds => match ds with
    | [d1, d2] => eS (fo Γ Ω1) Γ fun x Ω2 => eS (fi Γ Ω2) Γ fun y Ω3 => match setIx x y d1 Ω3 with
      | some Ω4 => some (.nx, Γ.set j (some d2), Ω4)
      | none => none
    | _ => none
  | _ => none
theorem ds_setpair (j : Nat) {x : Str} {k : Nat} {px ppos : Pos} (hc : X.calm = true) (hN : X.N.Nodup) (he : DE X E e fe) (ho : DE X E o fo) (hi : DE X E i fi)
    (hj : X.N[j]? = some x := by rfl) (hx : Loc X.env.scope x := by first | exact Or.inl rfl | exact Or.inr rfl) (hf : X.fn x = true ∨ X.env.scope.names.lookup x = some .local := by first | exact .inl rfl | exact .inr rfl | assumption)
    (ha : ∀ v, assign (.Subscript o i tpos) X.env v = (do
      let ov ← holding [v] (eval o X.env)
      let iv ← holding [v, ov] (eval i X.env)
      standAt tpos
      holding [v, ov, iv] (setItem ov iv v)
      release [v, ov, iv] []) := by intro _; rfl)
    (hs : swapsWithSole [.Tuple [.Subscript o i tpos, .Name x px] k ppos] e pos.line X.env = pure false := by rfl) (hw : swappedStores [.Tuple [.Subscript o i tpos, .Name x px] k ppos] e X.env = pure none := by rfl)
    (h1 : (assignEach [.Tuple [.Subscript o i tpos, .Name x px] k ppos] X.env).map (·.2) = [assign (.Tuple [.Subscript o i tpos, .Name x px] k ppos) X.env] := by rfl)
    (hn : (assignEach [.Subscript o i tpos, .Name x px] X.env).length = 2 := by rfl) (hst : (assignEach [.Subscript o i tpos, .Name x px] X.env).findIdx? (·.1) = none := by rfl)
    (hs1 : (assignEach [.Subscript o i tpos, .Name x px] X.env).map (·.2) = assign (.Subscript o i tpos) X.env :: (assignEach [.Name x px] X.env).map (·.2) := by rfl) (hs2 : (assignEach [.Name x px] X.env).map (·.2) = assign (.Name x px) X.env :: (assignEach [] X.env).map (·.2) := by rfl) :
    DS X E (.Assign [.Tuple [.Subscript o i tpos, .Name x px] k ppos] e pos) (sSetPair fo fi j fe) :=
  PS.mono (ps_asg he (pg_tup hc (pgs_cons (pg_sub ho hi set_list ha) (pgs_cons (pg_name (i := j) hN hj hx hf) pgs_nil hs2) hs1) hn hst) hs hw h1) fun D σ H h => by
    obtain ⟨m, Γ, Ω, s, h⟩ := h
    refine ⟨m, Γ, Ω, s, (AfS.val s.slots s.cells h).imp fun _ _ _ _ _ _ _ _ ⟨m1, Ω1, d, g1, r1, q⟩ => ?_⟩
    cases d with
    | tup ds =>
      match ds, q, r1 with
      | [d1, d2], q, r1 =>
        unfold Rl at r1
        obtain ⟨a, ws, ev, h3, h4⟩ := r1
        obtain ⟨v1, v2, ew, z1, z2⟩ := h4.two
        subst ew
        refine ⟨a, [v1, v2], ev, h3.sq, rfl, v1, [v2], rfl, ?_⟩
        refine ⟨m1, Γ, Ω1, s.go g1, (AfS.val (s.go g1).slots g1.ok q).imp fun _ _ _ _ _ _ _ _ ⟨m2, Ω2, x, g2, r2, q2⟩ => ?_⟩
        refine ⟨m2, Γ, Ω2, (s.go g1).go g2, (AfS.val ((s.go g1).go g2).slots g2.ok q2).imp fun _ _ _ _ _ _ _ _ ⟨m3, Ω3, y, g3, r3, q3⟩ => ?_⟩
        cases e4 : setIx x y d1 Ω3 with
        | none => rw [e4] at q3; exact q3.elim
        | some Ω4 =>
          rw [e4] at q3
          refine setIx_ok g3.ok (Rl.go g3.toGw g2.ok x _ r2) r3 (Rl.go (g2.trans g3).toGw g1.ok d1 _ z1) e4 fun H' g => ⟨v2, [], rfl, rfl, ?_⟩
          exact q3 m3 _ H' g ((((((s.go g1).go g2).go g3).go g).slots).set (Rl.go ((g2.trans g3).trans g).toGw g1.ok d2 _ z2))
      | [], q, _ => exact q.elim
      | [_], q, _ => exact q.elim
      | _ :: _ :: _ :: _, q, _ => exact q.elim
    | _ => exact q.elim
end
end Dn


set_option Elab.async false
set_option linter.all false
set_option maxRecDepth 100000
/-! DnObj: own classes: attributes, methods, making, isinstance. -/
namespace Dn
open PySem L2
/-- the class named c -/
abbrev cad (K : PySem.W.Frag) (c : Str) : Addr := He.ga K c
/-- the attributes of an object of the class c, pure or a cell -/
def asO (c : Str) (Ω : Om) : D → Option (List (Str × D))
  | .obj c' fs => if c' = c then some fs else none
  | .ref n => match Ω[n]? with
    | some (.ins c' fs) => if c' = c then some fs else none
    | _ => none
  | _ => none
def lkF (fs : List (Str × D)) (f : Str) : Option D := fs.lookup f
section
variable {K : PySem.W.Frag} {m : Mp} {Ω : Om} {H : Hp}
theorem asO_ok (cc : CellsOk K m Ω H) {c : Str} {d : D} {v : V} {fs : List (Str × D)} (r : Rl K m Ω H d v) (e : asO c Ω d = some fs) : ∃ a dx gs, v = .ref a ∧ H a = some (.ins (cad K c) dx gs) ∧ RlF K m Ω H fs gs := by
  cases d with
  | obj c' ys =>
    unfold Rl at r
    unfold asO at e
    dsimp only at e
    by_cases h : c' = c
    · rw [if_pos h] at e
      cases (Option.some.inj e)
      subst h
      obtain ⟨a, dx, vs, e1, h1, _, h2⟩ := r
      exact ⟨a, dx, vs, e1, h1, h2⟩
    · rw [if_neg h] at e; cases e
  | ref n =>
    unfold Rl at r
    obtain ⟨a, e1, h1⟩ := r
    unfold asO at e
    dsimp only at e
    cases q : Ω[n]? with
    | none => rw [q] at e; cases e
    | some x =>
      rw [q] at e
      cases x with
      | ins c' ys =>
        dsimp only at e
        by_cases h : c' = c
        · rw [if_pos h] at e
          cases (Option.some.inj e)
          subst h
          obtain ⟨dx, vs, h2, h3⟩ := cc.at_ n _ a q h1
          exact ⟨a, dx, vs, e1, h2, h3⟩
        · rw [if_neg h] at e; cases e
      | _ => cases e
  | _ => cases e
theorem RlF.lookup : ∀ {fs : List (Str × D)} {gs : List (Str × V)} {f : Str}, RlF K m Ω H fs gs → (∃ d v, fs.lookup f = some d ∧ gs.lookup f = some v ∧ Rl K m Ω H d v) ∨ (fs.lookup f = none ∧ gs.lookup f = none)
  | [], gs, f, h => by unfold RlF at h; subst h; exact .inr ⟨rfl, rfl⟩
  | (k, d) :: fs, gs, f, h => by
    unfold RlF at h
    obtain ⟨v, r, e, h1, h2⟩ := h
    subst e
    by_cases hk : f = k
    · have hb : (f == k) = true := beq_iff_eq.mpr hk
      exact .inl ⟨d, v, by simp only [List.lookup, hb], by simp only [List.lookup, hb], h1⟩
    · have hb : (f == k) = false := beq_eq_false_iff_ne.mpr hk
      simp only [List.lookup, hb]
      exact RlF.lookup h2
def putFD (f : Str) (v : D) : List (Str × D) → List (Str × D)
  | [] => [(f, v)]
  | (g, x) :: r => if g = f then (g, v) :: r else (g, x) :: putFD f v r
theorem RlF.put {f : Str} {d : D} {v : V} (hd : Rl K m Ω H d v) : ∀ {fs : List (Str × D)} {gs : List (Str × V)}, RlF K m Ω H fs gs → RlF K m Ω H (putFD f d fs) (putF f v gs)
  | [], gs, h => by
    unfold RlF at h
    subst h
    unfold putFD putF RlF
    exact ⟨v, [], rfl, hd, by unfold RlF; rfl⟩
  | (k, x) :: fs, gs, h => by
    unfold RlF at h
    obtain ⟨w, r, e, h1, h2⟩ := h
    subst e
    unfold putFD putF
    by_cases hk : k = f
    · rw [if_pos hk, if_pos hk]
      unfold RlF
      exact ⟨v, r, rfl, hd, h2⟩
    · rw [if_neg hk, if_neg hk]
      unfold RlF
      exact ⟨w, _, rfl, h1, RlF.put hd h2⟩
theorem RlF.length : ∀ {fs : List (Str × D)} {gs : List (Str × V)}, RlF K m Ω H fs gs → fs.length = gs.length
  | [], gs, h => by unfold RlF at h; subst h; rfl
  | (k, x) :: fs, gs, h => by
    unfold RlF at h
    obtain ⟨w, r, e, h1, h2⟩ := h
    subst e
    rw [List.length_cons, List.length_cons, RlF.length h2]
end
/-- e.f -/
def dFld (c f : Str) : Op1 := fun x Ω => match asO c Ω x with
  | some fs => match fs.lookup f with
    | some d => some (.ok d, Ω)
    | none => none
  | none => none
section
variable {X : Cx} {E : St → XK} {e o : Expr} {es : List Expr} {fo : Den D} {r : Den (List D)} {pos apos : Pos} {c f mt : Str} {k : Nat} {ps : List Str} {F : FD}
theorem de_fld (hc : Cls X.K (cad X.K c)) (hn : NoAttr X.K (cad X.K c) f) (he : DE X E e fo) (hb : attributeBase e f X.env (eval e X.env) = eval e X.env := by rfl) : DE X E (.Attribute e f pos) (fUn (dFld c f) fo) := PE.mono (pe_fld he hb) fun σ H Q h => by
  obtain ⟨m, Γ, Ω, s, h⟩ := h
  refine ⟨m, Γ, Ω, s, (Af.bind (R := Rl X.K) h).imp fun _ _ _ _ _ _ _ _ ⟨m1, Ω1, x, g1, r1, q⟩ => ?_⟩
  unfold dFld at q
  dsimp only at q
  cases e1 : asO c Ω1 x with
  | none => rw [e1] at q; exact q.elim
  | some fs =>
    rw [e1] at q
    dsimp only at q
    obtain ⟨a, dx, gs, ev, h1, h2⟩ := asO_ok g1.ok r1 e1
    rcases h2.lookup (f := f) with ⟨d, v, z1, z2, z3⟩ | ⟨z1, z2⟩
    · rw [z1] at q
      exact ⟨a, _, dx, gs, v, ev, h1, hc, hn, z2, q.now g1.ok z3⟩
    · rw [z1] at q
      exact q.elim
/-- self.f = e, self a cell -/
def sFldSet (c f : Str) (fo fe : Den D) : DenS := fun Γ Ω => eS (fe Γ Ω) Γ fun d Ω1 => eS (fo Γ Ω1) Γ fun x Ω2 => match x with
  | .ref n => match asO c Ω2 (.ref n) with
    | some fs => if fs.length < 1000 then some (.nx, Γ, Ω2.set n (.ins c (putFD f d fs))) else none
    | none => none
  | _ => none
theorem cellO_ok {K : PySem.W.Frag} {m : Mp} {Ω : Om} {H : Hp} (cc : CellsOk K m Ω H) {c : Str} {n : Nat} {v : V} {fs : List (Str × D)} (r : Rl K m Ω H (.ref n) v) (e : asO c Ω (.ref n) = some fs) : ∃ a dx gs, v = .ref a ∧ m.l[n]? = some a ∧ Ω[n]? = some (.ins c fs) ∧ H a = some (.ins (cad K c) dx gs) ∧ RlF K m Ω H fs gs := by
  unfold Rl at r
  obtain ⟨a, e1, h1⟩ := r
  unfold asO at e
  dsimp only at e
  cases q : Ω[n]? with
  | none => rw [q] at e; cases e
  | some x =>
    rw [q] at e
    cases x with
    | ins c' ys =>
      dsimp only at e
      by_cases h : c' = c
      · rw [if_pos h] at e
        cases (Option.some.inj e)
        subst h
        obtain ⟨dx, vs, h2, h3⟩ := cc.at_ n _ a q h1
        exact ⟨a, dx, vs, e1, h1, rfl, h2, h3⟩
      · rw [if_neg h] at e; cases e
    | _ => cases e
theorem ds_fld {fe : Den D} {pos' : Pos} {value : Expr} (hc : Cls X.K (cad X.K c)) (hn : NoAttr X.K (cad X.K c) f) (ho : DE X E o fo) (hv : DE X E value fe) (hs : swapsWith value (some (.Attribute o f pos')) pos.line X.env = pure false := by rfl) :
    DS X E (.Assign [.Attribute o f pos'] value pos) (sFldSet c f fo fe) := PS.mono (ps_fld ho hv hs) fun D σ H h => by
  obtain ⟨m, Γ, Ω, s, h⟩ := h
  refine ⟨m, Γ, Ω, s, (AfS.val s.slots s.cells h).imp fun _ _ _ _ _ _ _ _ ⟨m1, Ω1, d, g1, r1, q⟩ => ?_⟩
  refine ⟨m1, Γ, Ω1, s.go g1, (AfS.val (s.go g1).slots g1.ok q).imp fun _ _ _ _ _ _ _ _ ⟨m2, Ω2, x, g2, r2, q2⟩ => ?_⟩
  cases x with
  | ref n =>
    dsimp only at q2
    cases e1 : asO c Ω2 (.ref n) with
    | none => rw [e1] at q2; exact q2.elim
    | some fs =>
      rw [e1] at q2
      dsimp only at q2
      by_cases hz : fs.length < 1000
      · rw [if_pos hz] at q2
        obtain ⟨a, dx, gs, ev, ha, eΩ, h1, h2⟩ := cellO_ok g2.ok r2 e1
        refine ⟨a, _, dx, gs, ev, h1, hc, hn, by rw [← h2.length]; exact hz, ?_⟩
        have g3 : Go X.K m2 Ω2 _ m2 (Ω2.set n (.ins c (putFD f d fs))) _ := Go.set g2.ok ha eΩ (fun z => by cases z) (o := .ins (cad X.K c) dx (putF f _ gs)) fun g => ⟨dx, _, upd_same, RlF.go g g2.ok _ _ (RlF.put (Rl.go g2.toGw g1.ok d _ r1) h2)⟩
        exact q2 m2 σ _ g3 ((((s.go g1).go g2).go g3).slots)
      · rw [if_neg hz] at q2; exact q2.elim
  | _ => exact q2.elim

/-! ### methods -/
/-- the class c has the method mt with this denotation -/
structure MtG (P : Program) (w : World) (K : PySem.W.Frag) (mg : Str → Option Value) (base : Heap) (c mt : Str) (ps : List Str) (k : Nat) (F : FD) : Prop where
  ex : ∃ f fd, Meth K (cad K c) mt f ∧ FnOk P w K mg base (L2.CX P w) k f fd ps (spD K ps.length F) ∧ Binds K fd ps []
def fMeth (c mt : Str) (n : Nat) (F : FD) (fo : Den D) (r : Den (List D)) : Den D := bnd fo fun x Γ Ω => match asO c Ω x with
  | some fs => match fs.lookup mt with
    | none => bR (r Γ Ω) fun ds Ω1 => if (x :: ds).length = n then F (x :: ds) Ω1 else none
    | some _ => none
  | none => none
theorem meth_of {σ : St} {H : Hp} {Q : VK} {tr : TA} (h : tD X.K E (fMeth c mt ps.length F fo r) σ H Q) :
    tD X.K E fo σ H fun x H1 => ∃ a dx fs, x = .ref a ∧ H1 a = some (.ins (cad X.K c) dx fs) ∧ fs.lookup mt = none ∧ tDA X.K E r σ H1 fun vs H2 => spD X.K ps.length F (x :: vs) H2 Q (E σ) := by
  obtain ⟨m, Γ, Ω, s, h⟩ := h
  refine ⟨m, Γ, Ω, s, (Af.bind (R := Rl X.K) h).imp fun _ _ _ _ _ _ _ _ ⟨m1, Ω1, x, g1, r1, q⟩ => ?_⟩
  dsimp only at q
  cases e1 : asO c Ω1 x with
  | none => rw [e1] at q; exact q.elim
  | some fs =>
    rw [e1] at q
    dsimp only at q
    obtain ⟨a, dx, gs, ev, h1, h2⟩ := asO_ok g1.ok r1 e1
    rcases h2.lookup (f := mt) with ⟨d, v, z1, z2, z3⟩ | ⟨z1, z2⟩
    · rw [z1] at q; exact q.elim
    · rw [z1] at q
      refine ⟨a, dx, gs, ev, h1, z2, m1, Γ, Ω1, s.go g1, (Af.bind (R := RlL X.K) q).imp fun _ _ _ _ _ _ _ _ ⟨m2, Ω2, ds, g2, r2, q2⟩ => ?_⟩
      refine sp_of (ds := x :: ds) g2.ok ?_ q2
      unfold RlL
      exact ⟨_, _, rfl, Rl.go g2.toGw g1.ok x _ r1, r2⟩
theorem de_meth {pl : Sem Bool} (hc : Cls X.K (cad X.K c)) (G : MtG X.prog X.w X.K X.mg X.base c mt ps k F) (hr : Room k X.A) (hx : ∀ σ, PassesAt (L2.CX X.prog X.w) X σ (E σ)) (ho : DE X E o fo) (ha : DA X E (e :: es) r)
    (hst : starEach (e :: es) X.env = (false, eval e X.env) :: starEach es X.env := by rfl) (hpl : (backTo pos (starEach es X.env)).any (·.1) = false := by rfl)
    (ht : eval (.Call (.Attribute o mt apos) (e :: es) [] pos) X.env = (do
      let ov ← eval o X.env
      standAt apos.atName
      let (f, first) ← holding [ov] (getMethod ov mt pl)
      callWith pos f first (backTo pos (starEach (e :: es) X.env)) (backToKw pos (keywordEach [] X.env))) := by rfl) :
    DE X E (.Call (.Attribute o mt apos) (e :: es) [] pos) (fMeth c mt ps.length F fo r) := by
  obtain ⟨f, fd, hm, ok, bi⟩ := G.ex
  refine ⟨fun pins s σ H Q I h => ?_⟩
  have h2 := meth_of (tr := tNil) h
  refine PySem.W.methodCall_KW (pl := pl) (thn (ho.run pins s σ H _ I h2) fun u s1 ⟨x, H1, I1, rx, a, dx, fs, ex, ea, l, q⟩ => ?_) ht
  subst ex
  obtain rfl : u = Value.ref a := rx
  refine getmeth_ok I1 ea hc hm l ?_
  refine PySem.W.callWith_K (first := [.ref a]) (h₀ := X.base) I.ok.mod.kin hm.kp (thn (ha.run pos pins s1 σ H1 _ I1 q) fun us s2 ⟨vs, H2, I2, r, q2⟩ => ⟨I2.kIn, ?_⟩) hst hpl
  exact run_fnS (E := E) (us := .ref a :: us) (vs := .ref a :: vs) ok hr bi (hx σ) I2 (.cons rfl r) q2
theorem de_meth0 {pl : Sem Bool} (hc : Cls X.K (cad X.K c)) (G : MtG X.prog X.w X.K X.mg X.base c mt ps k F) (hr : Room k X.A) (hx : ∀ σ, PassesAt (L2.CX X.prog X.w) X σ (E σ)) (ho : DE X E o fo)
    (ht : eval (.Call (.Attribute o mt apos) [] [] pos) X.env = (do
      let ov ← eval o X.env
      standAt apos.atName
      let (f, first) ← holding [ov] (getMethod ov mt pl)
      callWith pos f first (backTo pos (starEach [] X.env)) (backToKw pos (keywordEach [] X.env))) := by rfl) :
    DE X E (.Call (.Attribute o mt apos) [] [] pos) (fMeth c mt ps.length F fo fNil) := by
  obtain ⟨f, fd, hm, ok, bi⟩ := G.ex
  refine ⟨fun pins s σ H Q I h => ?_⟩
  have h2 := meth_of (tr := tNil) h
  refine PySem.W.methodCall_KW (pl := pl) (thn (ho.run pins s σ H _ I h2) fun u s1 ⟨x, H1, I1, rx, a, dx, fs, ex, ea, l, q⟩ => ?_) ht
  subst ex
  obtain rfl : u = Value.ref a := rx
  refine getmeth_ok I1 ea hc hm l ?_
  obtain ⟨m, Γ, Ω, s', q⟩ := q
  have q2 := q m [] H1 (Go.refl s'.cells) (by unfold RlL; rfl)
  exact PySem.W.callWith_K0 (first := [.ref a]) I1.kIn hm.kp (run_fnS (E := E) (us := [.ref a]) (vs := [.ref a]) ok hr bi (hx σ) I1 (.cons rfl .nil) q2)
/-! ### making -/
structure MkG (P : Program) (w : World) (K : PySem.W.Frag) (mg : Str → Option Value) (base : Heap) (c : Str) (ps : List Str) (k : Nat) (F : FD) : Prop where
  ex : ∃ f fd, Mk K (cad K c) f ∧ mg c = some (.ref (cad K c)) ∧ FnOk P w K mg base (L2.CX P w) k f fd ps (spD K ps.length F) ∧ Binds K fd ps []
/-- C(..): the new instance is a cell while __init__ runs, then pure -/
def mkD (c : Str) (n : Nat) (F : FD) (ds : List D) (Ω : Om) : Option (Rs D × Om) := if ds.length + 1 = n then match F (.ref Ω.length :: ds) (Ω ++ [.ins c []]) with
  | none => none
  | some (.ok d, Ω') => match d with
    | .non => if below Ω.length (frz Ω.length Ω' (.ref Ω.length)) = true ∧ cellsBelow Ω.length Ω' = true then some (.ok (frz Ω.length Ω' (.ref Ω.length)), Ω'.take Ω.length) else none
    | _ => none
  | some (.ex e, Ω') => if belowF Ω.length e.fs = true ∧ cellsBelow Ω.length Ω' = true then some (.ex e, Ω'.take Ω.length) else none
  else none
def fMake (c : Str) (n : Nat) (F : FD) (r : Den (List D)) : Den D := bnd r fun ds _ Ω => mkD c n F ds Ω
theorem make_of {n : Nat} {E : XK} {m : Mp} {Ω : Om} {H : Hp} {ds : List D} {vs : List V} {Q : VK} {K : PySem.W.Frag} (cc : CellsOk K m Ω H) (rr : RlL K m Ω H ds vs) (q : Af K (Rl K) E Q m Ω H (mkD c n F ds Ω)) (x dx : Addr) (hx : H x = none) (hdx : H dx = none) (hne : dx ≠ x) :
    spD K n F (.ref x :: vs) (upd (upd H dx (.own x)) x (.ins (cad K c) dx [])) (fun v H2 => v = .non ∧ Q (.ref x) H2) E := by
  obtain ⟨hl, q⟩ := Af.guard q
  have g1 : Go K m Ω H m Ω (upd H dx (.own x)) := Go.new cc hdx
  have hx1 : upd H dx (.own x) x = none := by rw [upd_ne (Ne.symm hne)]; exact hx
  have g2 : Go K m Ω _ (m.add x) (Ω ++ [.ins c []]) (upd (upd H dx (.own x)) x (.ins (cad K c) dx [])) := Go.cell g1.ok hx1 fun g => ⟨dx, [], upd_same, by unfold RlF; rfl⟩
  have g := g1.trans g2
  refine ⟨by rw [List.length_cons, ← rr.length]; exact hl, m.add x, Ω ++ [.ins c []], .ref Ω.length :: ds, g2.ok, ?_, ?_⟩
  · unfold RlL
    exact ⟨_, _, rfl, rl_last cc, RlL.go g.toGw cc _ _ rr⟩
  · cases e : F (.ref Ω.length :: ds) (Ω ++ [.ins c []]) with
    | none => rw [e] at q; exact q
    | some z =>
      obtain ⟨rs, Ω'⟩ := z
      rw [e] at q
      have hlen : m.l.length = Ω.length := cc.len
      cases rs with
      | ex e =>
        obtain ⟨⟨b1, b2⟩, q⟩ := Af.guard q
        intro m' H' cls dd g3 r3
        exact q (Mp.take Ω.length m') H' cls dd (Go.take (g.trans g3) (by rw [hlen]; exact Nat.le_refl _) b2) (r3.take b1)
      | ok d =>
        cases d with
        | non =>
          obtain ⟨⟨b1, b2⟩, q⟩ := Af.guard q
          intro m' v H' g3 r3
          unfold Rl at r3
          refine ⟨r3, ?_⟩
          have rx : Rl K m' Ω' H' (.ref Ω.length) (.ref x) := Rl.go g3.toGw g2.ok _ _ (rl_last cc)
          exact q (Mp.take Ω.length m') _ H' (Go.take (g.trans g3) (by rw [hlen]; exact Nat.le_refl _) b2) (frz_ok g3.ok rx b1)
        | _ => exact q.elim
theorem run_makeS {pins : List (Addr × Obj)} {σ : St} {H : Hp} {s : Shared} {Q : VK} {us : List Value} {vs : List V} {C f : Addr} {fd : FuncData} {sp : Sp} {CX : CXT} (M : Mk X.K C f) (F : FnOk X.prog X.w X.K X.mg X.base CX k f fd ps sp) (hr : Room (k + 1) X.A) (hb : Binds X.K fd ps [])
    (hx : PassesAt CX X σ (E σ)) (I : Inv X pins σ H s) (r : Vals vs us)
    (h : ∀ x dx, H x = none → H dx = none → dx ≠ x → sp (.ref x :: vs) (upd (upd H dx (.own x)) x (.ins C dx [])) (fun v H2 => v = .non ∧ Q (.ref x) H2) (E σ)) :
    wpAny (model X.prog X.w) X.A (call (.ref C) us) (EP X pins σ Q) X.xe s := by
  have hq := h (s.heap.objs.size + 1) s.heap.objs.size (I.hok.fresh (Nat.le_succ _)) (I.hok.fresh (Nat.le_refl _)) (Nat.ne_of_lt (Nat.lt_succ_self _))
  have I2 := Inv.made (C := C) I
  have r2 : Vals (V.ref (s.heap.objs.size + 1) :: vs) (Value.ref (s.heap.objs.size + 1) :: us) := .cons rfl r
  have hl : (Value.ref (s.heap.objs.size + 1) :: us).length = ps.length := by
    have e := r2.length
    rw [F.len _ _ _ _ hq] at e
    exact e.symm
  have b := hb { s with heap := (s.heap.push PySem.W.emptyDict).push (PySem.W.instObj C s.heap.objs.size) } (Value.ref (s.heap.objs.size + 1) :: us) I2.kIn (by rw [List.append_nil]; exact hl)
  rw [List.append_nil] at b
  refine wpAny_call (make_map (f := f) I.kIn M.makes M.init (beq_iff_eq.mp M.fn) (codeAny_mono (F.run _ X.stack _ _ ⟨Value.ref (s.heap.objs.size + 1) :: us, []⟩ (Value.ref (s.heap.objs.size + 1) :: us) _ _ (E σ) (hr.make C us [])
    (I2.env0.make C us []) b r2 hq) fun r s' hq' => ?_))
  cases r with
  | error e => exact hx pins _ _ e s' I2 hq'
  | ok fl =>
    cases fl with
    | ret u =>
      obtain ⟨v, H', I3, rv, ev, q3⟩ := I2.after hq'
      subst ev
      exact ⟨rv, ⟨V.ref (s.heap.objs.size + 1), H', I3, rfl, q3⟩⟩
    | next => exact False.elim hq'
    | brk => exact False.elim hq'
    | cont => exact False.elim hq'
theorem de_make {p : Pos} (G : MkG X.prog X.w X.K X.mg X.base c ps k F) (hr : Room (k + 1) X.A) (hx : ∀ σ, PassesAt (L2.CX X.prog X.w) X σ (E σ)) (ha : DA X E (e :: es) r) (hg : Gl X c := by rfl)
    (hdb : (c == ("__debug__" : Str)) = false := by decide) (he : starEach (e :: es) X.env = (false, eval e X.env) :: starEach es X.env := by rfl) (hpl : (backTo pos (starEach es X.env)).any (·.1) = false := by rfl) :
    DE X E (.Call (.Name c p) (e :: es) [] pos) (fMake c ps.length F r) := by
  obtain ⟨f, fd, M, hm, ok, bi⟩ := G.ex
  refine ⟨fun pins s σ H Q I h => ?_⟩
  refine wpAny_Call_Name_kw (ld_glob I hg hm ?_ hdb)
  obtain ⟨m, Γ, Ω, s', h⟩ := h
  have h2 : tDA X.K E r σ H fun vs H1 => ∀ x dx, H1 x = none → H1 dx = none → dx ≠ x → spD X.K ps.length F (.ref x :: vs) (upd (upd H1 dx (.own x)) x (.ins (cad X.K c) dx [])) (fun v H2 => v = .non ∧ Q (.ref x) H2) (E σ) :=
    ⟨m, Γ, Ω, s', (Af.bind (R := RlL X.K) h).imp fun _ _ _ _ _ _ _ _ ⟨m1, Ω1, ds, g1, r1, q⟩ => make_of g1.ok r1 q⟩
  refine PySem.W.callWith_K (h₀ := X.base) I.ok.mod.kin M.kp (thn (ha.run pos pins s σ H _ I h2) fun us s1 ⟨vs, H1, I1, r, q⟩ => ⟨I1.kIn, ?_⟩) he hpl
  exact run_makeS (E := E) M ok hr bi (hx σ) I1 r q
end
end Dn


set_option Elab.async false
set_option linter.all false
set_option maxRecDepth 100000
/-! DnLast: keywords, isinstance, ==, dicts made of pairs, sorted. -/
namespace Dn
open PySem L2
/-! ### keywords -/
/-- f's parameters given by n positional values and keywords ks: perm puts them in the parameters' order (names by their place) -/
def reord {α : Type} (ix : List Nat) (xs : List α) : List α := ix.filterMap fun i => xs[i]?
structure KwB (K : PySem.W.Frag) (fd : FuncData) (ps : List Str) (n : Nat) (ks : List Str) (ix : List Nat) : Prop where
  to : ∀ (s : Shared) (us ws : List Value), K.In s.heap → us.length = n → ws.length = ks.length → BindsTo s fd ⟨us, ks.zip ws⟩ (ps.zip (reord ix (us ++ ws)))
theorem reord_vals {ix : List Nat} {vs : List V} {us : List Value} (r : Vals vs us) : Vals (reord ix vs) (reord ix us) := by
  unfold reord
  induction ix with
  | nil => exact .nil
  | cons i ix ih =>
    rw [List.filterMap_cons, List.filterMap_cons]
    cases e : vs[i]? with
    | none => rw [r.none_of e]; exact ih
    | some v =>
      obtain ⟨u, h1, h2⟩ := r.get e
      rw [h1]
      exact .cons h2 ih
theorem reord_rl {K : PySem.W.Frag} {m : Mp} {Ω : Om} {H : Hp} {ix : List Nat} {ds : List D} {vs : List V} (r : RlL K m Ω H ds vs) : RlL K m Ω H (reord ix ds) (reord ix vs) := by
  unfold reord
  induction ix with
  | nil => unfold RlL; rfl
  | cons i ix ih =>
    rw [List.filterMap_cons, List.filterMap_cons]
    cases e : ds[i]? with
    | none =>
      have : vs[i]? = none := by
        rw [List.getElem?_eq_none_iff] at e ⊢
        rw [← r.length]; exact e
      rw [this]; exact ih
    | some d =>
      obtain ⟨v, h1, h2⟩ := r.get e
      rw [h1]
      unfold RlL
      exact ⟨v, _, rfl, h2, ih⟩
abbrev DK (X : Cx) (E : St → XK) (kws : List Keyword) (f : Den (List D)) : Prop := PK X kws (tDA X.K E f)
theorem PK.mono {X : Cx} {e : List Keyword} {t t' : TA} (h : PK X e t) (i : ∀ σ H Q, t' σ H Q → t σ H Q) : PK X e t' := ⟨fun pos pins s σ H Q I q => h.run pos pins s σ H Q I (i σ H Q q)⟩
section
variable {X : Cx} {E : St → XK} {e o : Expr} {kws : List Keyword} {f fo : Den D} {r : Den (List D)} {nm : Option Str} {kpos pos apos : Pos} {c mt : Str} {ps ks : List Str} {k : Nat} {F : FD} {ix : List Nat}
theorem dk_nil : DK X E [] fNil := PK.mono pk_nil fun σ H Q h => by
  obtain ⟨m, Γ, Ω, s, h⟩ := h
  exact h m [] H (Go.refl s.cells) (by unfold RlL; rfl)
theorem dk_cons (h1 : DE X E e f) (h2 : DK X E kws r) : DK X E (⟨nm, e, kpos⟩ :: kws) (fCons f r) := PK.mono (pk_cons h1 h2) fun σ H Q h => by
  obtain ⟨m, Γ, Ω, s, h⟩ := h
  refine ⟨m, Γ, Ω, s, (Af.bind (R := Rl X.K) h).imp fun _ _ _ _ _ _ _ _ ⟨m1, Ω1, x, g1, r1, q⟩ => ⟨m1, Γ, Ω1, s.go g1, (Af.bind (R := RlL X.K) q).imp fun _ _ _ _ _ _ _ _ ⟨m2, Ω2, xs, g2, r2, q2⟩ => ?_⟩⟩
  refine q2 m2 _ _ (Go.refl g2.ok) ?_
  unfold RlL
  exact ⟨_, _, rfl, Rl.go g2.toGw g1.ok x _ r1, r2⟩
/-- o.m(k = e, ..), keywords alone -/
structure MtK (P : Program) (w : World) (K : PySem.W.Frag) (mg : Str → Option Value) (base : Heap) (c mt : Str) (ps : List Str) (ks : List Str) (ix : List Nat) (k : Nat) (F : FD) : Prop where
  ex : ∃ f fd, Meth K (cad K c) mt f ∧ FnOk P w K mg base (L2.CX P w) k f fd ps (spD K ps.length F) ∧ KwB K fd ps 1 ks ix
def fMethK (c mt : Str) (n l : Nat) (ix : List Nat) (F : FD) (fo : Den D) (r : Den (List D)) : Den D := bnd fo fun x Γ Ω => match asO c Ω x with
  | some fs => match fs.lookup mt with
    | none => bR (r Γ Ω) fun ds Ω1 => if ds.length = l ∧ (reord ix (x :: ds)).length = n then F (reord ix (x :: ds)) Ω1 else none
    | some _ => none
  | none => none
theorem de_methK {pl : Sem Bool} (hc : Cls X.K (cad X.K c)) (G : MtK X.prog X.w X.K X.mg X.base c mt ps ks ix k F) (hr : Room k X.A) (hx : ∀ σ, PassesAt (L2.CX X.prog X.w) X σ (E σ)) (ho : DE X E o fo) (ha : DK X E kws r)
    (hall : (backToKw pos (keywordEach kws X.env)).all (·.1.isSome) = true := by rfl) (hks : (backToKw pos (keywordEach kws X.env)).filterMap (·.1) = ks := by rfl)
    (hpl : ((backTo pos (starEach [] X.env)).any (·.1) || (backToKw pos (keywordEach kws X.env)).any (·.1.isNone)) = false := by rfl)
    (ht : eval (.Call (.Attribute o mt apos) [] kws pos) X.env = (do
      let ov ← eval o X.env
      standAt apos.atName
      let (f, first) ← holding [ov] (getMethod ov mt pl)
      callWith pos f first (backTo pos (starEach [] X.env)) (backToKw pos (keywordEach kws X.env))) := by rfl) :
    DE X E (.Call (.Attribute o mt apos) [] kws pos) (fMethK c mt ps.length ks.length ix F fo r) := by
  obtain ⟨f, fd, hm, ok, bi⟩ := G.ex
  refine ⟨fun pins s σ H Q I h => ?_⟩
  have h2 : tD X.K E fo σ H fun x H1 => ∃ a dx fs, x = .ref a ∧ H1 a = some (.ins (cad X.K c) dx fs) ∧ fs.lookup mt = none ∧ tDA X.K E r σ H1 fun vs H2 => vs.length = ks.length ∧ spD X.K ps.length F (reord ix (x :: vs)) H2 Q (E σ) := by
    obtain ⟨m, Γ, Ω, s, h⟩ := h
    refine ⟨m, Γ, Ω, s, (Af.bind (R := Rl X.K) h).imp fun _ _ _ _ v1 _ _ _ ⟨m1, Ω1, x, g1, r1, q⟩ => ?_⟩
    dsimp only at q
    cases e1 : asO c Ω1 x with
    | none => rw [e1] at q; exact q.elim
    | some fs =>
      rw [e1] at q
      dsimp only at q
      obtain ⟨a, dx, gs, ev, h1, h2⟩ := asO_ok g1.ok r1 e1
      rcases h2.lookup (f := mt) with ⟨d, v, z1, z2, z3⟩ | ⟨z1, z2⟩
      · rw [z1] at q; exact q.elim
      · rw [z1] at q
        refine ⟨a, dx, gs, ev, h1, z2, m1, Γ, Ω1, s.go g1, (Af.bind (R := RlL X.K) q).imp fun _ _ H2 _ vs2 _ _ _ ⟨m2, Ω2, ds, g2, r2, q2⟩ => ?_⟩
        obtain ⟨⟨hl, hn⟩, q2⟩ := Af.guard q2
        have rx : RlL X.K m2 Ω2 H2 (x :: ds) (v1 :: vs2) := by
          unfold RlL
          exact ⟨_, _, rfl, Rl.go g2.toGw g1.ok x _ r1, r2⟩
        exact ⟨by rw [← r2.length]; exact hl, by rw [← (reord_rl (ix := ix) rx).length]; exact hn, m2, Ω2, _, g2.ok, reord_rl rx, q2⟩
  refine PySem.W.methodCall_KW (pl := pl) (thn (ho.run pins s σ H _ I h2) fun u s1 ⟨x, H1, I1, rx, a, dx, fs, ex, ea, l, q⟩ => ?_) ht
  subst ex
  obtain rfl : u = Value.ref a := rx
  refine getmeth_ok I1 ea hc hm l ?_
  refine PySem.W.callWith_KW0 (first := [.ref a]) (h₀ := X.base) I.ok.mod.kin hm.kp hall (thn (ha.run pos pins s1 σ H1 _ I1 q) fun ws s2 ⟨zs, H2, I2, rz, l2, q2⟩ => ⟨I2.kIn, ?_⟩) hpl
  rw [hks, List.append_nil]
  have rr : Vals (reord ix (.ref a :: zs)) (reord ix ([Value.ref a] ++ ws)) := reord_vals (us := .ref a :: ws) (.cons rfl rz)
  refine wpAny_call (codeAny_mono (ok.run X.A X.stack s2 H2 ⟨[.ref a], ks.zip ws⟩ (reord ix ([Value.ref a] ++ ws)) (reord ix (.ref a :: zs)) Q (E σ) hr I2.env0 (bi.to s2 [.ref a] ws I2.kIn rfl (rz.length.symm.trans l2)) rr q2) fun r s' hq => ?_)
  cases r with
  | error e => exact hx σ pins H2 s2 e s' I2 hq
  | ok fl =>
    cases fl with
    | ret u => exact I2.after hq
    | next => exact False.elim hq
    | brk => exact False.elim hq
    | cont => exact False.elim hq
end
/-! ### isinstance -/
def tyD (Ω : Om) : D → Option String
  | .non => some "NoneType"
  | .bl _ => some "bool"
  | .int _ => some "int"
  | .str _ => some "str"
  | .tup xs => if 2 ≤ xs.length then some "tuple" else none
  | .lst _ => some "list"
  | .dct _ => some "dict"
  | .ref n => match Ω[n]? with
    | some (.lst _) => some "list"
    | some (.dct _) => some "dict"
    | _ => none
  | _ => none
def tys : List String := ["NoneType", "bool", "int", "str", "tuple", "list", "dict"]
def isT (t T : String) : Bool := t == T || (t == "bool" && T == "int")
theorem kitB_tab : ∀ t ∈ tys, ∀ T ∈ (["int", "bool", "str", "list", "tuple", "dict"] : List String), kitB t T = some (isT t T) := by decide +kernel
section
variable {K : PySem.W.Frag} {m : Mp} {Ω : Om} {H : Hp}
theorem tyD_ok (c : CellsOk K m Ω H) {d : D} {v : V} {t : String} (r : Rl K m Ω H d v) (e : tyD Ω d = some t) : TyX K H v (.type t) ∧ t ∈ tys := by
  cases d with
  | non => cases e; unfold Rl at r; subst r; exact ⟨.base .non, by decide⟩
  | bl b => cases e; unfold Rl at r; subst r; exact ⟨.base (.bl b), by decide⟩
  | int b => cases e; unfold Rl at r; subst r; exact ⟨.base (.int b), by decide⟩
  | str b => cases e; unfold Rl at r; subst r; exact ⟨.base (.str b), by decide⟩
  | tup xs =>
    unfold tyD at e
    dsimp only at e
    by_cases hl : 2 ≤ xs.length
    · rw [if_pos hl] at e
      cases e
      unfold Rl at r
      obtain ⟨a, vs, ev, h1, h2⟩ := r
      subst ev
      rcases h1 with h1 | h1
      · exact ⟨.base (.tup h1), by decide⟩
      · have := h2.length; have := h1.1; omega
    · rw [if_neg hl] at e; cases e
  | lst xs =>
    cases e
    unfold Rl at r
    obtain ⟨a, vs, ev, h1, _⟩ := r
    subst ev
    exact ⟨.base (.lst h1), by decide⟩
  | dct xs =>
    cases e
    unfold Rl at r
    obtain ⟨a, vs, ev, h1, _⟩ := r
    subst ev
    rcases h1 with h1 | ⟨o, h1⟩
    · exact ⟨.base (.dK h1), by decide⟩
    · exact ⟨.fDict h1, by decide⟩
  | ref n =>
    unfold Rl at r
    obtain ⟨a, ev, ha⟩ := r
    subst ev
    unfold tyD at e
    dsimp only at e
    cases q : Ω[n]? with
    | none => rw [q] at e; cases e
    | some x =>
      rw [q] at e
      cases x with
      | lst xs => cases e; obtain ⟨vs, h1, _⟩ := c.at_ n _ a q ha; exact ⟨.base (.lst h1), by decide⟩
      | dct xs => cases e; obtain ⟨vs, h1, _⟩ := c.at_ n _ a q ha; exact ⟨.base (.dK h1), by decide⟩
      | _ => cases e
  | _ => cases e
end
/-- what is known of own classes -/
structure IsaF (K : PySem.W.Frag) (CL : List Str) : Prop where
  ins : ∀ c ∈ CL, Cls K (cad K c) ∧ PySem.W.findIn K (.ref (cad K c)) "__class__" = some (some (.builtin "object.__class__")) ∧ PySem.W.mroIn K (cad K c) (.type "object") = some true
  gt : PySem.W.specialIn K (.builtin "object.__class__") "__get__" = some (some (.builtin "getset_descriptor.__get__"))
  tk : PySem.W.takesIn K (.builtin "object.__class__") = some true
  own : ∀ c ∈ CL, ∀ c' ∈ CL, PySem.W.kitOne K (.ref (cad K c)) (.ref (cad K c')) = some (decide (c = c'))
  blt : ∀ t ∈ tys, ∀ c ∈ CL, PySem.W.kitOne K (.type t) (.ref (cad K c)) = some false
  obj : ∀ c ∈ CL, ∀ T ∈ (["int", "bool", "str", "list", "tuple", "dict"] : List String), PySem.W.kitOne K (.ref (cad K c)) (.type T) = some false
def clsD (CL : List Str) (Ω : Om) : D → Option Str
  | .obj c _ => if c ∈ CL then some c else none
  | .ref n => match Ω[n]? with
    | some (.ins c _) => if c ∈ CL then some c else none
    | _ => none
  | _ => none
section
variable {K : PySem.W.Frag} {m : Mp} {Ω : Om} {H : Hp} {CL : List Str}
theorem clsD_ok (I : IsaF K CL) (c : CellsOk K m Ω H) {d : D} {v : V} {n : Str} (r : Rl K m Ω H d v) (e : clsD CL Ω d = some n) : TyX K H v (.ref (cad K n)) ∧ n ∈ CL := by
  have one : ∀ {a dx gs}, H a = some (.ins (cad K n) dx gs) → n ∈ CL → v = .ref a → TyX K H v (.ref (cad K n)) := fun h hn ev => by
    obtain ⟨z1, z2, z3⟩ := I.ins n hn
    subst ev
    exact .base (.ins h z1 z2 I.gt I.tk z3)
  cases d with
  | obj c' fs =>
    unfold clsD at e
    dsimp only at e
    by_cases h : c' ∈ CL
    · rw [if_pos h] at e
      cases e
      unfold Rl at r
      obtain ⟨a, dx, gs, ev, h1, _⟩ := r
      exact ⟨one h1 h ev, h⟩
    · rw [if_neg h] at e; cases e
  | ref k =>
    unfold Rl at r
    obtain ⟨a, ev, ha⟩ := r
    unfold clsD at e
    dsimp only at e
    cases q : Ω[k]? with
    | none => rw [q] at e; cases e
    | some x =>
      rw [q] at e
      cases x with
      | ins c' fs =>
        dsimp only at e
        by_cases h : c' ∈ CL
        · rw [if_pos h] at e
          cases e
          obtain ⟨dx, gs, h1, _⟩ := c.at_ k _ a q ha
          exact ⟨one h1 h ev, h⟩
        · rw [if_neg h] at e; cases e
      | _ => cases e
  | _ => cases e
def tyW (K : PySem.W.Frag) (CL : List Str) (Ω : Om) (d : D) : Option Value := match tyD Ω d with
  | some t => some (.type t)
  | none => (clsD CL Ω d).map fun n => .ref (cad K n)
/-- isinstance(x, T), T a built-in; isinstance(x, C) -/
def isB (CL : List Str) (T : String) (Ω : Om) (d : D) : Option Bool := match tyD Ω d with
  | some t => some (isT t T)
  | none => match clsD CL Ω d with
    | some _ => some false
    | none => none
def isC (CL : List Str) (c : Str) (Ω : Om) (d : D) : Option Bool := match tyD Ω d with
  | some _ => some false
  | none => match clsD CL Ω d with
    | some n => some (decide (n = c))
    | none => none
theorem isB_ok (I : IsaF K CL) (c : CellsOk K m Ω H) {d : D} {v : V} {T : String} {b : Bool} (hT : T ∈ (["int", "bool", "str", "list", "tuple", "dict"] : List String)) (r : Rl K m Ω H d v) (e : isB CL T Ω d = some b) : ∃ t, tyW K CL Ω d = some t ∧ TyX K H v t ∧ PySem.W.kitOne K t (.type T) = some b := by
  unfold isB at e
  unfold tyW
  cases e1 : tyD Ω d with
  | some t =>
    rw [e1] at e
    cases e
    obtain ⟨h1, h2⟩ := tyD_ok c r e1
    exact ⟨_, rfl, h1, kit_ty (kitB_tab t h2 T hT)⟩
  | none =>
    rw [e1] at e
    dsimp only at e
    cases e2 : clsD CL Ω d with
    | none => rw [e2] at e; cases e
    | some n =>
      rw [e2] at e
      cases e
      obtain ⟨h1, h2⟩ := clsD_ok I c r e2
      exact ⟨_, rfl, h1, I.obj n h2 T hT⟩
theorem isC_ok (I : IsaF K CL) (cc : CellsOk K m Ω H) {d : D} {v : V} {c : Str} {b : Bool} (hc : c ∈ CL) (r : Rl K m Ω H d v) (e : isC CL c Ω d = some b) : ∃ t, TyX K H v t ∧ PySem.W.kitOne K t (.ref (cad K c)) = some b := by
  unfold isC at e
  cases e1 : tyD Ω d with
  | some t =>
    rw [e1] at e
    cases e
    obtain ⟨h1, h2⟩ := tyD_ok cc r e1
    exact ⟨_, h1, I.blt t h2 c hc⟩
  | none =>
    rw [e1] at e
    dsimp only at e
    cases e2 : clsD CL Ω d with
    | none => rw [e2] at e; cases e
    | some n =>
      rw [e2] at e
      cases e
      obtain ⟨h1, h2⟩ := clsD_ok I cc r e2
      exact ⟨_, h1, I.own n h2 c hc⟩
end
def fIs (g : Om → D → Option Bool) (f : Den D) : Den D := bnd f fun d _ Ω => match g Ω d with
  | some b => some (.ok (.bl b), Ω)
  | none => none
section
variable {X : Cx} {E : St → XK} {e : Expr} {f : Den D} {p p2 p3 p4 pos pt : Pos} {CL : List Str} {T T2 : Str} {T' T2' : String} {c : Str}
theorem isi_of {g : Om → D → Option Bool} {cv : V} {u : Value} (ck : ClsV cv u) (hg : ∀ m Ω H d v b, CellsOk X.K m Ω H → Rl X.K m Ω H d v → g Ω d = some b → ∃ t, TyX X.K H v t ∧ PySem.W.kitOne X.K t u = some b) {σ : St} {H : Hp} {Q : VK} (h : tD X.K E (fIs g f) σ H Q) :
    tCB (rIsi X.K) (tCons (tD X.K E f) (tCons (tC cv) tNil)) σ H Q := by
  obtain ⟨m, Γ, Ω, s, h⟩ := h
  refine ⟨m, Γ, Ω, s, (Af.bind (R := Rl X.K) h).imp fun _ _ _ _ _ _ _ _ ⟨m1, Ω1, x, g1, r1, q⟩ => ?_⟩
  dsimp only at q
  cases e1 : g Ω1 x with
  | none => rw [e1] at q; exact q.elim
  | some b =>
    rw [e1] at q
    obtain ⟨t, h1, h2⟩ := hg m1 Ω1 _ x _ b g1.ok r1 e1
    exact ⟨_, cv, t, u, b, rfl, ck, h1, h2, q.now g1.ok rl_bl⟩
theorem de_isB (I : IsaF X.K CL) (he : DE X E e f) (hm : X.mg "isinstance" = none) (hmT : X.mg T = none) (hv : bootBuiltins T = some (.type T')) (hT : T' ∈ (["int", "bool", "str", "list", "tuple", "dict"] : List String) := by decide) (hg : Gl X "isinstance" := by rfl) (hgT : Gl X T := by rfl) (hnT : T ≠ "__name__" := by decide) (hdT : (T == ("__debug__" : Str)) = false := by decide)
    (hs : starEach [e, .Name T p2] X.env = (false, eval e X.env) :: starEach [.Name T p2] X.env := by rfl) (hs2 : starEach [.Name T p2] X.env = (false, eval (.Name T p2) X.env) :: starEach [] X.env := by rfl) (hpl : (backTo pos (starEach [.Name T p2] X.env)).any (·.1) = false := by rfl) :
    DE X E (.Call (.Name "isinstance" p) [e, .Name T p2] [] pos) (fIs (isB CL T') f) :=
  PE.mono (pe_callB (id := "isinstance") call_isi hg hm (by decide +kernel) (pa_cons he (pa_cons (pe_bltn (v := .ty T') hgT hmT hv rfl hnT hdT) pa_nil hs2) hs) (by decide) (by decide) hs hpl) fun σ H Q h => isi_of (.ty T') (fun m Ω H d v b c r e => let ⟨t, _, h⟩ := isB_ok I c hT r e; ⟨t, h⟩) h
theorem de_isC (I : IsaF X.K CL) (he : DE X E e f) (hm : X.mg "isinstance" = none) (hmC : X.mg c = some (.ref (cad X.K c))) (hc : c ∈ CL) (hg : Gl X "isinstance" := by rfl) (hgT : Gl X c := by rfl) (hdT : (c == ("__debug__" : Str)) = false := by decide)
    (hs : starEach [e, .Name c p2] X.env = (false, eval e X.env) :: starEach [.Name c p2] X.env := by rfl) (hs2 : starEach [.Name c p2] X.env = (false, eval (.Name c p2) X.env) :: starEach [] X.env := by rfl) (hpl : (backTo pos (starEach [.Name c p2] X.env)).any (·.1) = false := by rfl) :
    DE X E (.Call (.Name "isinstance" p) [e, .Name c p2] [] pos) (fIs (isC CL c) f) :=
  PE.mono (pe_callB (id := "isinstance") call_isi hg hm (by decide +kernel) (pa_cons he (pa_cons (pe_glob (v := .ref (cad X.K c)) hgT hmC rfl hdT) pa_nil hs2) hs) (by decide) (by decide) hs hpl) fun σ H Q h => isi_of (.own (cad X.K c)) (fun m Ω H d v b cc r e => isC_ok I cc hc r e) h
/-- isinstance(x, (T, T2)), built-ins -/
def isB2 (CL : List Str) (T T2 : String) (Ω : Om) (d : D) : Option Bool := match isB CL T Ω d with
  | some b => match isB CL T2 Ω d with
    | some b2 => some (b || b2)
    | none => none
  | none => none
theorem de_isB2 {k : Nat} (I : IsaF X.K CL) (he : DE X E e f) (hm : X.mg "isinstance" = none) (hmT : X.mg T = none) (hmT2 : X.mg T2 = none) (hv : bootBuiltins T = some (.type T')) (hv2 : bootBuiltins T2 = some (.type T2')) (hT : T' ∈ (["int", "bool", "str", "list", "tuple", "dict"] : List String) := by decide) (hT2 : T2' ∈ (["int", "bool", "str", "list", "tuple", "dict"] : List String) := by decide)
    (hg : Gl X "isinstance" := by rfl) (hgT : Gl X T := by rfl) (hgT2 : Gl X T2 := by rfl) (hnT : T ≠ "__name__" := by decide) (hdT : (T == ("__debug__" : Str)) = false := by decide) (hnT2 : T2 ≠ "__name__" := by decide) (hdT2 : (T2 == ("__debug__" : Str)) = false := by decide)
    (hs : starEach [e, .Tuple [.Name T p2, .Name T2 p3] k pt] X.env = (false, eval e X.env) :: starEach [.Tuple [.Name T p2, .Name T2 p3] k pt] X.env := by rfl) (hs2 : starEach [.Tuple [.Name T p2, .Name T2 p3] k pt] X.env = (false, eval (.Tuple [.Name T p2, .Name T2 p3] k pt) X.env) :: starEach [] X.env := by rfl)
    (hs3 : starEach [.Name T p2, .Name T2 p3] X.env = (false, eval (.Name T p2) X.env) :: starEach [.Name T2 p3] X.env := by rfl) (hs4 : starEach [.Name T2 p3] X.env = (false, eval (.Name T2 p3) X.env) :: starEach [] X.env := by rfl)
    (hpl : (backTo pos (starEach [.Tuple [.Name T p2, .Name T2 p3] k pt] X.env)).any (·.1) = false := by rfl) :
    DE X E (.Call (.Name "isinstance" p) [e, .Tuple [.Name T p2, .Name T2 p3] k pt] [] pos) (fIs (isB2 CL T' T2') f) :=
  PE.mono (pe_callB (id := "isinstance") call_isiT hg hm (by decide +kernel) (pa_cons he (pa_cons (pe_tup (pa_cons (pe_bltn (v := .ty T') hgT hmT hv rfl hnT hdT) (pa_cons (pe_bltn (v := .ty T2') hgT2 hmT2 hv2 rfl hnT2 hdT2) pa_nil hs4) hs3)) pa_nil hs2) hs) (by decide) (by decide) hs hpl) fun σ H Q h => by
    obtain ⟨m, Γ, Ω, s, h⟩ := h
    refine ⟨m, Γ, Ω, s, (Af.bind (R := Rl X.K) h).imp fun _ _ H1 _ v _ _ _ ⟨m1, Ω1, x, g1, r1, q⟩ => ⟨by show 2 ≤ sizeLine; decide, fun tp htp => ?_⟩⟩
    have g2 : Go X.K m1 Ω1 H1 m1 Ω1 (upd H1 tp (.tup [.ty T', .ty T2'])) := Go.new g1.ok htp
    have r2 := Rl.go g2.toGw g1.ok x _ r1
    unfold isB2 at q
    dsimp only at q
    cases e1 : isB CL T' Ω1 x with
    | none => rw [e1] at q; exact q.elim
    | some b =>
      rw [e1] at q
      dsimp only at q
      cases e2 : isB CL T2' Ω1 x with
      | none => rw [e2] at q; exact q.elim
      | some b2 =>
        rw [e2] at q
        obtain ⟨t, ht, h1, h2⟩ := isB_ok I g2.ok hT r2 e1
        obtain ⟨t', ht', h3, h4⟩ := isB_ok I g2.ok hT2 r2 e2
        have et : PySem.W.kitOne X.K t (.type T2') = some b2 := by
          rw [ht] at ht'
          cases ht'
          exact h4
        refine ⟨v, tp, [.ty T', .ty T2'], t, [.type T', .type T2'], b || b2, rfl, upd_same, .cons (.ty T') (.cons (.ty T2') .nil), h1, ?_, q _ _ _ g2 rl_bl⟩
        refine kitAny_cons h2 (fun hb => ?_) (fun hb => by rw [hb]; rfl)
        refine kitAny_cons et (fun hb2 => ?_) (fun hb2 => by rw [hb2, Bool.or_true])
        rw [hb, hb2]
        exact kitAny_nil
end
end Dn


set_option Elab.async false
set_option linter.all false
set_option maxRecDepth 100000
/-! DnTop: dicts made of pairs, sorted, slices, ==, class constants, walks over dicts. -/
namespace Dn
open PySem L2
section
variable {K : PySem.W.Frag} {m : Mp} {Ω : Om} {H : Hp} {X : Cx}
/-! ### dict(pairs) -/
def asPairs : List D → Option (List (Key × D))
  | [] => some []
  | d :: r => match d with
    | .tup xs => match xs with
      | [k, v] => match keyD k with
        | some k => match asPairs r with
          | some l => some ((k, v) :: l)
          | none => none
        | none => none
      | _ => none
    | _ => none
theorem asPairs_ok : ∀ {ds : List D} {vs : List V} {kvs : List (Key × D)}, RlL K m Ω H ds vs → asPairs ds = some kvs → ∃ (ps : List Addr) (ws : List (Key × V)), vs = ps.map V.ref ∧ Paired (fun p kv => SqT K H p [kV kv.1, kv.2]) ps ws ∧ RlK K m Ω H kvs ws
  | [], vs, kvs, r, e => by
    unfold RlL at r
    unfold asPairs at e
    cases e
    exact ⟨[], [], r, .nil, by unfold RlK; rfl⟩
  | d :: ds, vs, kvs, r, e => by
    unfold RlL at r
    obtain ⟨v, w, ev, h1, h2⟩ := r
    unfold asPairs at e
    cases d with
    | tup xs =>
      match xs, e, h1 with
      | [k, x], e, h1 =>
        dsimp only at e
        cases e1 : keyD k with
        | none => rw [e1] at e; cases e
        | some kk =>
          rw [e1] at e
          dsimp only at e
          cases e2 : asPairs ds with
          | none => rw [e2] at e; cases e
          | some l =>
            rw [e2] at e
            cases e
            obtain ⟨ps, ws, z1, z2, z3⟩ := asPairs_ok h2 e2
            unfold Rl at h1
            obtain ⟨a, us, ea, h3, h4⟩ := h1
            obtain ⟨u1, u2, eu, y1, y2⟩ := h4.two
            have ek := keyD_ok y1 e1
            subst ek eu
            refine ⟨a :: ps, (kk, u2) :: ws, by rw [ev, ea, z1]; rfl, .cons h3.sq z2, ?_⟩
            unfold RlK
            exact ⟨u2, ws, rfl, y2, z3⟩
      | [], e, _ => cases e
      | [_], e, _ => cases e
      | _ :: _ :: _ :: _, e, _ => cases e
    | _ => cases e
theorem rl_dctNew {p : Addr} {kvs : List (Key × D)} {ws : List (Key × V)} (c : CellsOk K m Ω H) (hp : H p = none) (h : RlK K m Ω H kvs ws) : Rl K m Ω (upd H p (.dK ws)) (.dct kvs) (.ref p) := by
  unfold Rl
  exact ⟨p, ws, rfl, .inl upd_same, c.freshL hp, RlK.go (Go.new c hp).toGw c _ _ h⟩
def dDict : OpA := op1 fun d Ω => match asL Ω d with
  | some xs => match asPairs xs with
    | some kvs => some (.ok (.dct (mergeD [] kvs)), Ω)
    | none => none
  | none => none
theorem cd_dict : CallD K dDict (fun xs H Q => ∃ (a : Addr) (ps : List Addr) (kvs : List (Key × V)), xs = [.ref a] ∧ SqL K H a (ps.map V.ref) ∧ Paired (fun p kv => SqT K H p [kV kv.1, kv.2]) ps kvs ∧ ∀ p, H p = none → Q (.ref p) (upd H p (.dK (mergeK [] kvs)))) := by
  intro E m Ω H ds vs Q c r q
  obtain ⟨d, v, ed, ev, h, q1⟩ := op1_of r q
  clear q
  subst ed ev
  cases e1 : asL Ω d with
  | none => rw [e1] at q1; exact q1.elim
  | some xs =>
    rw [e1] at q1
    obtain ⟨a, ws, ea, h1, h2⟩ := asL_ok c h e1
    subst ea
    dsimp only at q1
    cases e2 : asPairs xs with
    | none => rw [e2] at q1; exact q1.elim
    | some kvs =>
      rw [e2] at q1
      obtain ⟨ps, us, z1, z2, z3⟩ := asPairs_ok h2 e2
      subst z1
      exact ⟨a, ps, us, rfl, SqL.of h1, z2, fun p hp => q1 m _ _ (Go.new c hp) (rl_dctNew c hp (z3.merge (by unfold RlK; rfl)))⟩
/-! ### sorted(d), its keys ints, fewer than 64 -/
def intKeys : List (Key × D) → Option (List Int)
  | [] => some []
  | (k, _) :: r => match k with
    | .inl i => match intKeys r with
      | some l => some (i :: l)
      | none => none
    | .inr _ => none
theorem intKeys_ok : ∀ {kvs : List (Key × D)} {ns : List Int}, intKeys kvs = some ns → kvs.map (·.1) = ns.map Sum.inl
  | [], ns, e => by unfold intKeys at e; cases e; rfl
  | (k, d) :: r, ns, e => by
    unfold intKeys at e
    cases k with
    | inr x => cases e
    | inl i =>
      dsimp only at e
      cases e1 : intKeys r with
      | none => rw [e1] at e; cases e
      | some l =>
        rw [e1] at e
        cases e
        rw [List.map_cons, intKeys_ok e1]
        rfl
def dSortK : OpA := op1 fun d Ω => match asK Ω d with
  | some kvs => match intKeys kvs with
    | some ns => if ns.length < 64 then some (.ok (.lst ((sortI ns).map D.int)), Ω) else none
    | none => none
  | none => none
theorem cd_sortK : CallD K dSortK (fun xs H Q => ∃ (a : Addr) (kvs : List (Key × V)) (ks : List Int), xs = [.ref a] ∧ Rd H a (.dK kvs) ∧ kvs.map (·.1) = ks.map Sum.inl ∧ ks.length < 64 ∧
    ∀ (ys : List Int) (p : Addr), ys.Perm ks → ys.Pairwise (· ≤ ·) → H p = none → Q (.ref p) (upd H p (.lst (ys.map V.int)))) := by
  intro E m Ω H ds vs Q c r q
  obtain ⟨d, v, ed, ev, h, q1⟩ := op1_of r q
  clear q
  subst ed ev
  cases e1 : asK Ω d with
  | none => rw [e1] at q1; exact q1.elim
  | some kvs =>
    rw [e1] at q1
    obtain ⟨a, ws, ea, h1, h2⟩ := asK_ok c h e1
    subst ea
    dsimp only at q1
    cases e2 : intKeys kvs with
    | none => rw [e2] at q1; exact q1.elim
    | some ns =>
      rw [e2] at q1
      obtain ⟨hz, q1⟩ := Af.guard q1
      refine ⟨a, ws, ns, rfl, h1, by rw [← h2.keys]; exact intKeys_ok e2, hz, fun ys p hp hs hn => ?_⟩
      rw [sorted_unique (hp.trans (sortI_perm ns).symm) hs (sortI_le ns)]
      exact q1 m _ _ (Go.new c hn) (Rl.newL c hn (rlL_ints _))
/-! ### len(d) -/
def dLenK : OpA := op1 fun d Ω => match asK Ω d with
  | some kvs => some (.ok (.int kvs.length), Ω)
  | none => none
theorem call_lenR : CallR X (.builtin "len") (fun xs H Q => ∃ a kvs, xs = [V.ref a] ∧ Rd H a (.dK kvs) ∧ Q (.int kvs.length) H) := by
  intro pins s σ H xs us Q I r h
  obtain ⟨a, kvs, ex, ha, q⟩ := h
  subst ex
  obtain ⟨u, eu, ru⟩ := vals1 r
  subst eu
  obtain rfl : u = Value.ref a := ru
  exact d_len I ha fun t s' I' => ⟨.int kvs.length, H, I', ⟨t, rfl⟩, q⟩
theorem cd_lenK : CallD K dLenK (fun xs H Q => ∃ a kvs, xs = [V.ref a] ∧ Rd H a (.dK kvs) ∧ Q (.int kvs.length) H) := by
  intro E m Ω H ds vs Q c r q
  obtain ⟨d, v, ed, ev, h, q1⟩ := op1_of r q
  clear q
  subst ed ev
  cases e1 : asK Ω d with
  | none => rw [e1] at q1; exact q1.elim
  | some kvs =>
    rw [e1] at q1
    obtain ⟨a, ws, ea, h1, h2⟩ := asK_ok c h e1
    subst ea
    exact ⟨a, ws, rfl, h1, by rw [← h2.length]; exact q1.now c rl_int⟩
/-! ### sorted(pairs of ints) -/
def asPr : List D → Option (List (Int × Int))
  | [] => some []
  | d :: r => match d with
    | .tup xs => match xs with
      | [x, y] => match x, y with
        | .int i, .int j => match asPr r with
          | some l => some ((i, j) :: l)
          | none => none
        | _, _ => none
      | _ => none
    | _ => none
def prD (p : Int × Int) : D := .tup [.int p.1, .int p.2]
def leP (a b : Int × Int) : Bool := decide (a.1 < b.1 ∨ (a.1 = b.1 ∧ a.2 ≤ b.2))
def sortP (ps : List (Int × Int)) : List (Int × Int) := ps.mergeSort leP
/-- pairs at addresses -/
def PrAt (H : Hp) : List (Int × Int) → List V → Prop
  | [], vs => vs = []
  | p :: ps, vs => ∃ a r, vs = .ref a :: r ∧ H a = some (.tup [.int p.1, .int p.2]) ∧ PrAt H ps r
theorem asPr_ok : ∀ {ds : List D} {vs : List V} {ps : List (Int × Int)}, RlL K m Ω H ds vs → asPr ds = some ps → PrAt H ps vs
  | [], vs, ps, r, e => by unfold RlL at r; unfold asPr at e; cases e; exact r
  | d :: ds, vs, ps, r, e => by
    unfold RlL at r
    obtain ⟨v, w, ev, h1, h2⟩ := r
    unfold asPr at e
    cases d with
    | tup xs =>
      match xs, e, h1 with
      | [x, y], e, h1 =>
        cases x with
        | int i =>
          cases y with
          | int j =>
            dsimp only at e
            cases e1 : asPr ds with
            | none => rw [e1] at e; cases e
            | some l =>
              rw [e1] at e
              cases e
              unfold Rl at h1
              obtain ⟨a, us, ea, h3, h4⟩ := h1
              obtain ⟨u1, u2, eu, y1, y2⟩ := h4.two
              unfold Rl at y1 y2
              subst y1 y2 eu
              rcases h3 with h3 | h3
              · exact ⟨a, w, by rw [ev, ea], h3, asPr_ok h2 e1⟩
              · exact absurd h3.1 (by simp)
          | _ => cases e
        | _ => cases e
      | [], e, _ => cases e
      | [_], e, _ => cases e
      | _ :: _ :: _ :: _, e, _ => cases e
    | _ => cases e
theorem PrAt.mem {ps : List (Int × Int)} : ∀ {vs : List V}, PrAt H ps vs → ∀ x ∈ vs, ∃ t p, x = V.ref t ∧ p ∈ ps ∧ H t = some (.tup [.int p.1, .int p.2]) := by
  induction ps with
  | nil => intro vs h x hx; unfold PrAt at h; subst h; cases hx
  | cons p ps ih =>
    intro vs h x hx
    obtain ⟨a, r, e, h1, h2⟩ := h
    subst e
    rcases List.mem_cons.mp hx with e | hx
    · exact ⟨a, p, e, List.mem_cons_self .., h1⟩
    · obtain ⟨t, q, z1, z2, z3⟩ := ih h2 x hx
      exact ⟨t, q, z1, List.mem_cons_of_mem _ z2, z3⟩
/-- the pair at a value -/
def prOf (H : Hp) (v : V) : Int × Int := match v with
  | .ref a => match H a with
    | some (.tup [.int i, .int j]) => (i, j)
    | _ => (0, 0)
  | _ => (0, 0)
theorem prOf_at {a : Addr} {i j : Int} (h : H a = some (.tup [.int i, .int j])) : prOf H (.ref a) = (i, j) := by
  unfold prOf
  dsimp only
  rw [h]
theorem PrAt.map : ∀ {ps : List (Int × Int)} {vs : List V}, PrAt H ps vs → vs.map (prOf H) = ps
  | [], vs, h => by unfold PrAt at h; subst h; rfl
  | p :: ps, vs, h => by
    obtain ⟨a, r, e, h1, h2⟩ := h
    subst e
    rw [List.map_cons, PrAt.map h2, prOf_at h1]
theorem rl_of_pairs (hH : ∀ x ∈ vs, ∃ t, x = V.ref t ∧ H t = some (.tup [.int (prOf H x).1, .int (prOf H x).2])) : RlL K m Ω H ((vs.map (prOf H)).map prD) vs := by
  induction vs with
  | nil => unfold RlL; rfl
  | cons v vs ih =>
    obtain ⟨t, e, h⟩ := hH v (List.mem_cons_self ..)
    rw [List.map_cons, List.map_cons]
    unfold RlL
    refine ⟨v, vs, rfl, ?_, ih fun x hx => hH x (List.mem_cons_of_mem _ hx)⟩
    unfold prD Rl
    exact ⟨t, _, e, .inl h, rlL_2 rl_int rl_int⟩
theorem leP_total (a b : Int × Int) : leP a b || leP b a := by
  unfold leP
  simp only [Bool.or_eq_true, decide_eq_true_eq]
  omega
theorem leP_trans (a b c : Int × Int) (h1 : leP a b = true) (h2 : leP b c = true) : leP a c = true := by
  unfold leP at *
  simp only [decide_eq_true_eq] at *
  omega
theorem leP_anti {a b : Int × Int} (h1 : leP a b = true) (h2 : leP b a = true) : a = b := by
  unfold leP at *
  simp only [decide_eq_true_eq] at *
  exact Prod.ext (by omega) (by omega)
theorem sortedP_unique : ∀ {xs ys : List (Int × Int)}, xs.Perm ys → xs.Pairwise (fun a b => leP a b = true) → ys.Pairwise (fun a b => leP a b = true) → xs = ys
  | [], ys, p, _, _ => (List.Perm.nil_eq p)
  | x :: xs, ys, p, h1, h2 => by
    cases ys with
    | nil => exact absurd p.length_eq (by simp)
    | cons y ys =>
      have hx : x ∈ y :: ys := p.subset (List.mem_cons_self ..)
      have hy : y ∈ x :: xs := p.symm.subset (List.mem_cons_self ..)
      have e : x = y := by
        rw [List.pairwise_cons] at h1 h2
        rcases List.mem_cons.mp hx with e | hx
        · exact e
        · rcases List.mem_cons.mp hy with e | hy
          · exact e.symm
          · exact leP_anti (h1.1 y hy) (h2.1 x hx)
      subst e
      rw [sortedP_unique (List.Perm.cons_inv p) (List.pairwise_cons.mp h1).2 (List.pairwise_cons.mp h2).2]
def dSortP : OpA := op1 fun d Ω => match asL Ω d with
  | some xs => match asPr xs with
    | some ps => some (.ok (.lst ((sortP ps).map prD)), Ω)
    | none => none
  | none => none
theorem cd_sortP : CallD K dSortP (rSortedPO K) := by
  intro E m Ω H ds vs Q c r q
  obtain ⟨d, v, ed, ev, h, q1⟩ := op1_of r q
  clear q
  subst ed ev
  cases e1 : asL Ω d with
  | none => rw [e1] at q1; exact q1.elim
  | some xs =>
    rw [e1] at q1
    obtain ⟨a, ws, ea, h1, h2⟩ := asL_ok c h e1
    subst ea
    dsimp only at q1
    cases e2 : asPr xs with
    | none => rw [e2] at q1; exact q1.elim
    | some ps =>
      rw [e2] at q1
      have hp := asPr_ok h2 e2
      have at_ : ∀ x ∈ ws, ∃ t, x = V.ref t ∧ H t = some (.tup [.int (prOf H x).1, .int (prOf H x).2]) := fun x hx => by
        obtain ⟨t, p, z1, z2, z3⟩ := hp.mem x hx
        subst z1
        exact ⟨t, rfl, by rw [prOf_at z3]; exact z3⟩
      refine ⟨a, ws, prOf H, rfl, SqL.of h1, at_, fun ys p hs hb hn => ?_⟩
      have perm : (ys.map (prOf H)).Perm ps := by
        have := hb.perm.map (prOf H)
        rw [hp.map] at this
        exact this
      have srt : (ys.map (prOf H)).Pairwise (fun a b => leP a b = true) := by
        rw [List.pairwise_map]
        refine List.Pairwise.imp ?_ hs
        intro x y hxy
        have z := SrtO.lexB_no.mp hxy
        unfold leP
        simp only [decide_eq_true_eq]
        omega
      have e3 : ys.map (prOf H) = sortP ps := sortedP_unique (perm.trans (List.mergeSort_perm ps leP).symm) srt (List.pairwise_mergeSort leP_trans leP_total ps)
      dsimp only at q1
      rw [← e3] at q1
      have atY : ∀ x ∈ ys, ∃ t, x = V.ref t ∧ H t = some (.tup [.int (prOf H x).1, .int (prOf H x).2]) := fun x hx => at_ x (hb.perm.subset hx)
      exact q1 m _ _ (Go.new c hn) (Rl.newL c hn (rl_of_pairs atY))
end
/-! ### a walk over a dict in a comprehension -/
section
variable {K : PySem.W.Frag} {m : Mp} {Ω : Om} {H H' : Hp} {a : Addr} {ws : List (Key × V)}
theorem rd_inj {us : List (Key × V)} (h : Rd H a (.dK ws)) (h' : Rd H a (.dK us)) : us = ws := by
  rcases h with h | ⟨o, h⟩ <;> rcases h' with h' | ⟨o', h'⟩ <;> rw [h] at h' <;> cases h' <;> rfl
theorem rd_ne (h : Rd H a (.dK ws)) {b : Addr} {o : HO} (e : H b = some o) (h1 : ∀ us, o ≠ .dK us) (h2 : ∀ x us, o ≠ .frz x (.dK us)) : b ≠ a := fun z => by
  subst z
  rcases h with h | ⟨x, h⟩ <;> rw [h] at e <;> cases e
  · exact h1 _ rfl
  · exact h2 _ _ rfl
mutual
theorem Rl.lk (hb : ∀ b, b ≠ a → H b = H' b) (h : Rd H a (.dK ws)) (h' : Rd H' a (.dK ws)) : ∀ (d : D) (v : V), Rl K m Ω H d v → Rl K m Ω H' d v
  | .non, v, r => r
  | .bl _, v, r => r
  | .int _, v, r => r
  | .str _, v, r => r
  | .tup xs, v, r => by
    unfold Rl at r ⊢
    obtain ⟨b, vs, ev, h1, h2⟩ := r
    refine ⟨b, vs, ev, h1.imp (fun h1 => ?_) (fun z => z), RlL.lk hb h h' xs vs h2⟩
    rw [← hb b (rd_ne h h1 (fun _ z => by cases z) (fun _ _ z => by cases z))]; exact h1
  | .lst xs, v, r => by
    unfold Rl at r ⊢
    obtain ⟨b, vs, ev, h1, hl, h2⟩ := r
    exact ⟨b, vs, ev, by rw [← hb b (rd_ne h h1 (fun _ z => by cases z) (fun _ _ z => by cases z))]; exact h1, hl, RlL.lk hb h h' xs vs h2⟩
  | .dct xs, v, r => by
    unfold Rl at r ⊢
    obtain ⟨b, vs, ev, h1, hl, h2⟩ := r
    refine ⟨b, vs, ev, ?_, hl, RlK.lk hb h h' xs vs h2⟩
    by_cases e : b = a
    · subst e
      rw [rd_inj h h1]; exact h'
    · rcases h1 with h1 | ⟨o, h1⟩
      · exact .inl (by rw [← hb b e]; exact h1)
      · exact .inr ⟨o, by rw [← hb b e]; exact h1⟩
  | .obj c fs, v, r => by
    unfold Rl at r ⊢
    obtain ⟨b, dx, vs, ev, h1, hl, h2⟩ := r
    exact ⟨b, dx, vs, ev, by rw [← hb b (rd_ne h h1 (fun _ z => by cases z) (fun _ _ z => by cases z))]; exact h1, hl, RlF.lk hb h h' fs vs h2⟩
  | .ref n, v, r => by unfold Rl at r ⊢; exact r
  | .scr xs, v, r => by
    unfold Rl at r ⊢
    obtain ⟨b, ev, h1⟩ := r
    refine ⟨b, ev, ?_⟩
    rcases h1 with ⟨o, h1⟩ | h1
    · exact .inl ⟨o, by rw [← hb b (rd_ne h h1 (fun _ z => by cases z) (fun _ _ z => by cases z))]; exact h1⟩
    · exact .inr h1
theorem RlL.lk (hb : ∀ b, b ≠ a → H b = H' b) (h : Rd H a (.dK ws)) (h' : Rd H' a (.dK ws)) : ∀ (ds : List D) (vs : List V), RlL K m Ω H ds vs → RlL K m Ω H' ds vs
  | [], vs, r => by unfold RlL at r ⊢; exact r
  | d :: ds, vs, r => by
    unfold RlL at r ⊢
    obtain ⟨v, w, e, h1, h2⟩ := r
    exact ⟨v, w, e, Rl.lk hb h h' d v h1, RlL.lk hb h h' ds w h2⟩
theorem RlK.lk (hb : ∀ b, b ≠ a → H b = H' b) (h : Rd H a (.dK ws)) (h' : Rd H' a (.dK ws)) : ∀ (ds : List (Key × D)) (vs : List (Key × V)), RlK K m Ω H ds vs → RlK K m Ω H' ds vs
  | [], vs, r => by unfold RlK at r ⊢; exact r
  | (k, d) :: ds, vs, r => by
    unfold RlK at r ⊢
    obtain ⟨v, w, e, h1, h2⟩ := r
    exact ⟨v, w, e, Rl.lk hb h h' d v h1, RlK.lk hb h h' ds w h2⟩
theorem RlF.lk (hb : ∀ b, b ≠ a → H b = H' b) (h : Rd H a (.dK ws)) (h' : Rd H' a (.dK ws)) : ∀ (ds : List (Str × D)) (vs : List (Str × V)), RlF K m Ω H ds vs → RlF K m Ω H' ds vs
  | [], vs, r => by unfold RlF at r ⊢; exact r
  | (k, d) :: ds, vs, r => by
    unfold RlF at r ⊢
    obtain ⟨v, w, e, h1, h2⟩ := r
    exact ⟨v, w, e, Rl.lk hb h h' d v h1, RlF.lk hb h h' ds w h2⟩
end
theorem CellsOk.lk (c : CellsOk K m Ω H) (hl : ¬ Live m Ω a) (hb : ∀ b, b ≠ a → H b = H' b) (h : Rd H a (.dK ws)) (h' : Rd H' a (.dK ws)) : CellsOk K m Ω H' := by
  refine ⟨c.len, c.nd, fun n x b h1 h2 => ?_, fun b hh => ?_⟩
  · have q := c.at_ n x b h1 h2
    cases x with
    | dead =>
      by_cases e : b = a
      · subst e
        rcases h' with h' | ⟨o, h'⟩
        · exact ⟨_, h'⟩
        · exact ⟨_, h'⟩
      · obtain ⟨o, q⟩ := q
        exact ⟨o, by rw [← hb b e]; exact q⟩
    | lst xs =>
      have hn : b ≠ a := fun e => hl (by rw [← e]; exact .inl ⟨n, _, h2, h1, fun z => by cases z⟩)
      obtain ⟨vs, q1, q2⟩ := q
      exact ⟨vs, by rw [← hb b hn]; exact q1, RlL.lk hb h h' _ _ q2⟩
    | dct xs =>
      have hn : b ≠ a := fun e => hl (by rw [← e]; exact .inl ⟨n, _, h2, h1, fun z => by cases z⟩)
      obtain ⟨vs, q1, q2⟩ := q
      exact ⟨vs, by rw [← hb b hn]; exact q1, RlK.lk hb h h' _ _ q2⟩
    | ins cc xs =>
      have hn : b ≠ a := fun e => hl (by rw [← e]; exact .inl ⟨n, _, h2, h1, fun z => by cases z⟩)
      obtain ⟨dx, vs, q1, q2⟩ := q
      exact ⟨dx, vs, by rw [← hb b hn]; exact q1, RlF.lk hb h h' _ _ q2⟩
  · obtain ⟨⟨vs, q⟩, z⟩ := c.hl b hh
    have hn : b ≠ a := fun e => hl (by rw [← e]; exact .inr hh)
    exact ⟨⟨vs, by rw [← hb b hn]; exact q⟩, z⟩
def keysD (kvs : List (Key × D)) : List D := kvs.map fun kv => unkey kv.1
theorem yields_keys {o : Obj} {kvs : List (Key × D)} (c : CellsOk K m Ω H) (h1 : H a = some (.frz o (.dK ws))) (h2 : RlK K m Ω H kvs ws) : Yields K m Ω H (keysD kvs) (Itk a o ws) := fun i m' Ω' H' g ok => by
  have e1 := g.frame _ _ h1 (c.frz h1)
  have hk := h2.keys
  have hl := h2.length
  refine ⟨fun d hd => ?_, fun hi => ⟨e1, by unfold keysD at hi; rw [List.length_map] at hi; rw [← hl]; exact hi⟩⟩
  unfold keysD at hd
  rw [List.getElem?_map] at hd
  cases e : kvs[i]? with
  | none => rw [e] at hd; cases hd
  | some kv =>
    rw [e] at hd
    cases hd
    have hi : i < kvs.length := (List.getElem?_eq_some_iff.mp e).1
    refine ⟨⟨e1, by rw [← hl]; exact hi⟩, fun x H'' y => ?_⟩
    obtain ⟨eH, k, v, ek, ex⟩ := y
    subst eH ex
    have : k = kv.1 := by
      have z : (kvs.map (·.1))[i]? = (ws.map (·.1))[i]? := by rw [hk]
      rw [List.getElem?_map, List.getElem?_map, e, ek] at z
      exact (Option.some.inj z).symm
    rw [this]
    exact ⟨Go.refl ok, rl_unkey _⟩
end
def fKeys (i : Nat) : Den (List D) := fun Γ Ω => match Γ[i]? with
  | some (some (.dct kvs)) => some (.ok (keysD kvs), Ω)
  | _ => none
section
variable {X : Cx} {E : St → XK} {elt tg : Expr} {ifs : List Expr} {scope : Scope} {own : List (Str × Nat)} {pos xpos : Pos} {t : Tg} {ft : Den Bool} {fe : Den D} {i : Nat} {x : Str}
theorem keys_it {σ : St} {H : Hp} {R : It → Hp → Prop} {a : Addr} {o : Obj} {us : List (Key × V)} (hs : σ[i]? = some (some (.ref a))) (hf : H a = some (.frz o (.dK us))) (h : tIt X.K E (fKeys i) σ H R) : iKeys (tVar i) σ H R := by
  obtain ⟨m, Γ, Ω, s, h⟩ := h
  unfold fKeys at h
  cases e : Γ[i]? with
  | none => rw [e] at h; exact h.elim
  | some z =>
    rw [e] at h
    cases z with
    | none => exact h.elim
    | some d =>
      cases d with
      | dct kvs =>
        obtain ⟨v, h1, h2⟩ := s.slots.2 i _ e
        rw [hs] at h1
        cases h1
        unfold Rl at h2
        obtain ⟨b, ws, eb, hr, hl, hk⟩ := h2
        cases eb
        have ew := rd_inj (.inr ⟨o, hf⟩) hr
        subst ew
        exact ⟨_, hs, a, o, rfl, .inl ⟨ws, hf, h m _ H (Go.refl s.cells) (yields_keys s.cells hf hk)⟩⟩
      | _ => exact h.elim
theorem loopC_ok {tt : DenG} {Γ : Gm} : ∀ {ds acc : List D} {Ω Ω' : Om} {e : Xn}, loopC tt ft fe Γ ds acc Ω = some (.ex e, Ω') → False
  | [], acc, Ω, Ω', e, h => by unfold loopC at h; cases h
  | d :: ds, acc, Ω, Ω', e, h => by
    unfold loopC at h
    split at h
    · cases h
    · split at h
      · split at h
        · split at h
          · exact loopC_ok h
          · cases h
        · cases h
      · exact loopC_ok h
      · cases h
theorem lcK_of (hv : ∀ i ∈ t.slots, i ∈ own.map (·.2)) {σ : St} {H : Hp} {Q : VK} (h : tD X.K E (fLc (fKeys i) t ft fe (own.map (·.2))) σ H Q) :
    tLockE (tLc (iKeys (tVar i)) (t.rd X.K) (tDT X.K E0S ft) (tD X.K E0S fe) (own.map (·.2))) σ H Q ∨ tLc (iKeys (tVar i)) (t.rd X.K) (tDT X.K E0S ft) (tD X.K E0S fe) (own.map (·.2)) σ H Q := by
  have h0 := h
  obtain ⟨m, Γ, Ω, s, h⟩ := h
  unfold fLc fKeys at h
  cases e : Γ[i]? with
  | none => rw [e] at h; exact h.elim
  | some z =>
    rw [e] at h
    cases z with
    | none => exact h.elim
    | some d =>
      cases d with
      | dct kvs =>
        obtain ⟨v, h1, h2⟩ := s.slots.2 i _ e
        unfold Rl at h2
        obtain ⟨a, ws, eb, hr, hl, hk⟩ := h2
        subst eb
        rcases hr with hr | ⟨o, hr⟩
        · left
          refine ⟨a, .dK ws, hr, True.intro, fun od => ?_⟩
          have rf : Rd (upd H a (.frz od (.dK ws))) a (.dK ws) := .inr ⟨od, upd_same⟩
          have hb : ∀ b, b ≠ a → H b = upd H a (.frz od (.dK ws)) b := fun b hn => by rw [upd_ne hn]
          have c2 := s.cells.lk hl hb (.inl hr) rf
          have sr2 : SR X.K m Γ Ω σ (upd H a (.frz od (.dK ws))) := ⟨c2, s.slots.1, fun j d hd => let ⟨v, z1, z2⟩ := s.slots.2 j d hd; ⟨v, z1, Rl.lk hb (.inl hr) rf d v z2⟩⟩
          suffices hh : tD X.K E (fLc (fKeys i) t ft fe (own.map (·.2))) σ (upd H a (.frz od (.dK ws))) (fun v H' => H' a = some (.frz od (.dK ws)) ∧ Q v (upd H' a (.dK ws))) by
            have hh2 := lc_of (X := X) (E := E) hv hh
            exact keys_it (X := X) (E := E) h1 upd_same hh2
          refine ⟨m, Γ, Ω, sr2, ?_⟩
          have key : ∀ {m' Ω' H'}, Go X.K m Ω (upd H a (.frz od (.dK ws))) m' Ω' H' → H' a = some (.frz od (.dK ws)) ∧ Go X.K m Ω H m' Ω' (upd H' a (.dK ws)) ∧ (∀ d v, Rl X.K m' Ω' H' d v → Rl X.K m' Ω' (upd H' a (.dK ws)) d v) := fun {m' Ω' H'} g => by
            have ea : H' a = some (.frz od (.dK ws)) := g.frame _ _ upd_same hl
            have hb' : ∀ b, b ≠ a → H' b = upd H' a (.dK ws) b := fun b hn => by rw [upd_ne hn]
            have rf' : Rd H' a (.dK ws) := .inr ⟨od, ea⟩
            have ru : Rd (upd H' a (.dK ws)) a (.dK ws) := .inl upd_same
            have hl' : ¬ Live m' Ω' a := fun l => hl (g.norev a _ upd_same l)
            refine ⟨ea, ⟨⟨g.pre, fun b u q l => ?_, fun b u q l => ?_⟩, g.ok.lk hl' hb' rf' ru, fun b u hh q => ?_, g.hs⟩, fun d v r => Rl.lk hb' rf' ru d v r⟩
            · by_cases hn : b = a
              · subst hn; rw [hr] at q; cases q; exact upd_same
              · rw [upd_ne hn]; exact g.frame b u (by rw [upd_ne hn]; exact q) l
            · by_cases hn : b = a
              · subst hn; exact (hl' l).elim
              · exact g.norev b u (by rw [upd_ne hn]; exact q) l
            · have hn : b ≠ a := fun e => hl (by rw [← e]; exact .inr hh)
              rw [upd_ne hn]; exact g.hk b u hh (by rw [upd_ne hn]; exact q)
          have er : fLc (fKeys i) t ft fe (own.map (·.2)) Γ Ω = bR (some (.ok (keysD kvs), Ω)) (fun ds Ω1 => loopC t.den ft fe (wipeG Γ (own.map (·.2))) ds [] Ω1) := by
            unfold fLc fKeys
            rw [e]
          rw [er]
          have h : Af X.K (Rl X.K) (E σ) Q m Ω H (loopC t.den ft fe (wipeG Γ (own.map (·.2))) (keysD kvs) [] Ω) := h
          rw [bR_ok]
          generalize loopE : loopC t.den ft fe (wipeG Γ (own.map (·.2))) (keysD kvs) [] Ω = rr at h ⊢
          cases rr with
          | none => exact h
          | some z =>
            obtain ⟨q, Ω'⟩ := z
            cases q with
            | ok d =>
              intro m' v H' g r
              obtain ⟨z1, z2, z3⟩ := key g
              exact ⟨z1, h m' v _ z2 (z3 d v r)⟩
            | ex x =>
              intro m' H' cls dd g r
              exact (loopC_ok loopE).elim
        · right
          have hh2 := lc_of (X := X) (E := E) hv h0
          exact keys_it (X := X) (E := E) h1 hr hh2
      | _ => exact h.elim
theorem de_lcK (i : Nat) (hc : X.calm = true) (hN : X.N.Nodup) (ok : BlkOk X.N X.env.scope scope own) (hv : ∀ i ∈ t.slots, i ∈ own.map (·.2))
    (hg : ∀ (s : Shared) (H : Hp) (C : Addr) (cl : List (Str × Addr)) (fp : List Addr), PG (X.blk s H scope (compEnvC scope cl C X.env) fp) tg (t.rd X.K))
    (ht : ∀ (s : Shared) (H : Hp) (C : Addr) (cl : List (Str × Addr)) (fp : List Addr), DTs (X.blk s H scope (compEnvC scope cl C X.env) fp) E0S ifs ft)
    (he : ∀ (s : Shared) (H : Hp) (C : Addr) (cl : List (Str × Addr)) (fp : List Addr), DE (X.blk s H scope (compEnvC scope cl C X.env) fp) E0S elt fe)
    (hx : X.N[i]? = some x := by rfl) (hvx : Vis X.env.scope x := by first | exact Or.inl rfl | exact Or.inr (Or.inl rfl) | exact Or.inr (Or.inr rfl)) (hd : (x == ("__debug__" : Str)) = false := by decide) (hcd : (x == ("__classdict__" : Str)) = false := by decide)
    (hs : ∀ v, foldedSetIterable (.Name x xpos) X.env v = pure v := by intro _; rfl) : DE X E (.ListComp elt [⟨tg, .Name x xpos, ifs, 0⟩] scope pos) (fLc (fKeys i) t ft fe (own.map (·.2))) := by
  have h1 := pe_lc (elt := elt) (ifs := ifs) (tt := tDT X.K E0S ft) (te := tD X.K E0S fe) (pos := pos) hc hN (pi_keys (tg := tg) (pe_var (i := i) (pos := xpos) hx hvx hd hcd)) ok hg ht he hs
  have h2 := pe_lock h1
  refine ⟨fun pins s σ H Q I h => ?_⟩
  rcases lcK_of hv h with h | h
  · exact h2.run pins s σ H Q I h
  · exact h1.run pins s σ H Q I h
theorem ds_setLcK (i j : Nat) {y : Str} {py spos : Pos} (hc : X.calm = true) (hN : X.N.Nodup) (ok : BlkOk X.N X.env.scope scope own) (hv : ∀ i ∈ t.slots, i ∈ own.map (·.2))
    (hg : ∀ (s : Shared) (H : Hp) (C : Addr) (cl : List (Str × Addr)) (fp : List Addr), PG (X.blk s H scope (compEnvC scope cl C X.env) fp) tg (t.rd X.K))
    (ht : ∀ (s : Shared) (H : Hp) (C : Addr) (cl : List (Str × Addr)) (fp : List Addr), DTs (X.blk s H scope (compEnvC scope cl C X.env) fp) E0S ifs ft)
    (he : ∀ (s : Shared) (H : Hp) (C : Addr) (cl : List (Str × Addr)) (fp : List Addr), DE (X.blk s H scope (compEnvC scope cl C X.env) fp) E0S elt fe)
    (hsw : swapsWith (.ListComp elt [⟨tg, .Name x xpos, ifs, 0⟩] scope pos) (some (.Name y py)) spos.line X.env = pure true)
    (hy : X.N[j]? = some y := by rfl) (hyl : X.env.scope.names.lookup y = some .local := by rfl)
    (hx : X.N[i]? = some x := by rfl) (hvx : Vis X.env.scope x := by first | exact Or.inl rfl | exact Or.inr (Or.inl rfl) | exact Or.inr (Or.inr rfl)) (hd : (x == ("__debug__" : Str)) = false := by decide) (hcd : (x == ("__classdict__" : Str)) = false := by decide)
    (hs : ∀ v, foldedSetIterable (.Name x xpos) X.env v = pure v := by intro _; rfl) : DS X E (.Assign [.Name y py] (.ListComp elt [⟨tg, .Name x xpos, ifs, 0⟩] scope pos) spos) (sSet j (fLc (fKeys i) t ft fe (own.map (·.2)))) := by
  have h1 := ps_setLc (elt := elt) (ifs := ifs) (tt := tDT X.K E0S ft) (te := tD X.K E0S fe) (i := j) hc hN hy hyl hsw (pi_keys (tg := tg) (pe_var (i := i) (pos := xpos) hx hvx hd hcd)) ok hg ht he hs
  have h2 := ps_lock h1
  refine ⟨fun pins s σ H D I h => ?_⟩
  obtain ⟨m, Γ, Ω, s', h⟩ := h
  have h3 : tD X.K E (fLc (fKeys i) t ft fe (own.map (·.2))) σ H (fun v H1 => D.nx (σ.set j (some v)) H1) := ⟨m, Γ, Ω, s', (AfS.val s'.slots s'.cells h).imp fun _ _ _ _ _ _ _ _ ⟨m1, Ω1, d, g1, r1, q⟩ => q m1 _ _ (Go.refl g1.ok) ((s'.go g1).slots.set r1)⟩
  rcases lcK_of hv h3 with h | h
  · exact h2.run pins s σ H D I h
  · exact h1.run pins s σ H D I h
end
/-! ### slices -/
def fNo : Den (Option Int) := fC none
def fPt (f : Den D) : Den (Option Int) := bnd f fun d _ Ω => match d with
  | .int i => some (.ok (some i), Ω)
  | _ => none
def tDO (K : PySem.W.Frag) (E : St → XK) (f : Den (Option Int)) : TO := fun σ H Q => tG K (fun _ _ _ a b => a = b) E f σ H Q
theorem PO.mono {X : Cx} {e : Option Expr} {t t' : TO} (h : PO X e t) (i : ∀ σ H Q, t' σ H Q → t σ H Q) : PO X e t' := ⟨fun pins s σ H Q I q => h.run pins s σ H Q I (i σ H Q q)⟩
def cutD (xs : List D) (lo hi : Option Int) : List D := (xs.drop (HT.sIx xs.length 0 lo)).take (HT.sIx xs.length xs.length hi - HT.sIx xs.length 0 lo)
def fSl (f : Den D) (l h : Den (Option Int)) : Den D := bnd f fun x => bnd l fun lo => bnd h fun hi _ Ω => match asL Ω x with
  | some xs => some (.ok (.lst (cutD xs lo hi)), Ω)
  | none => none
section
variable {X : Cx} {E : St → XK} {e : Expr} {lo hi : Option Expr} {f : Den D} {fl fh : Den (Option Int)} {pos p2 : Pos}
theorem do_no : PO X none (tDO X.K E fNo) := PO.mono po_none fun σ H Q h => by
  obtain ⟨m, Γ, Ω, s, h⟩ := h
  exact h m none H (Go.refl s.cells) rfl
theorem do_pt (h : DE X E e f) : PO X (some e) (tDO X.K E (fPt f)) := PO.mono (po_some h) fun σ H Q h => by
  obtain ⟨m, Γ, Ω, s, h⟩ := h
  refine ⟨m, Γ, Ω, s, (Af.bind (R := Rl X.K) h).imp fun _ _ _ _ _ _ _ _ ⟨m1, Ω1, x, g1, r1, q⟩ => ?_⟩
  cases x with
  | int i => unfold Rl at r1; exact ⟨i, r1, q m1 _ _ (Go.refl g1.ok) rfl⟩
  | _ => exact q.elim
theorem RlL.drop {K : PySem.W.Frag} {m : Mp} {Ω : Om} {H : Hp} : ∀ {ds : List D} {vs : List V} (n : Nat), RlL K m Ω H ds vs → RlL K m Ω H (ds.drop n) (vs.drop n)
  | ds, vs, 0, h => h
  | [], vs, n + 1, h => by unfold RlL at h; subst h; unfold RlL; rfl
  | d :: ds, vs, n + 1, h => by
    unfold RlL at h
    obtain ⟨v, r, e, h1, h2⟩ := h
    subst e
    exact RlL.drop n h2
theorem RlL.takeN {K : PySem.W.Frag} {m : Mp} {Ω : Om} {H : Hp} : ∀ {ds : List D} {vs : List V} (n : Nat), RlL K m Ω H ds vs → RlL K m Ω H (ds.take n) (vs.take n)
  | ds, vs, 0, h => by rw [List.take_zero, List.take_zero]; unfold RlL; rfl
  | [], vs, n + 1, h => by unfold RlL at h; subst h; unfold RlL; rfl
  | d :: ds, vs, n + 1, h => by
    unfold RlL at h
    obtain ⟨v, r, e, h1, h2⟩ := h
    subst e
    rw [List.take_succ_cons, List.take_succ_cons]
    unfold RlL
    exact ⟨v, _, rfl, h1, RlL.takeN n h2⟩
theorem de_slice (he : DE X E e f) (hl : PO X lo (tDO X.K E fl)) (hh : PO X hi (tDO X.K E fh)) : DE X E (.Subscript e (.Slice lo hi none p2) pos) (fSl f fl fh) := PE.mono (pe_slice sl_list he hl hh) fun σ H Q h => by
  obtain ⟨m, Γ, Ω, s, h⟩ := h
  refine ⟨m, Γ, Ω, s, (Af.bind (R := Rl X.K) h).imp fun _ _ _ _ _ _ _ _ ⟨m1, Ω1, x, g1, r1, q⟩ => ⟨m1, Γ, Ω1, s.go g1, (Af.bind (R := fun _ _ _ a b => a = b) q).imp fun _ _ _ _ _ _ _ _ ⟨m2, Ω2, lo, g2, e2, q2⟩ => ?_⟩⟩
  subst e2
  refine ⟨m2, Γ, Ω2, (s.go g1).go g2, (Af.bind (R := fun _ _ _ a b => a = b) q2).imp fun _ _ _ _ _ _ _ _ ⟨m3, Ω3, hi, g3, e3, q3⟩ => ?_⟩
  subst e3
  dsimp only at q3
  cases e4 : asL Ω3 x with
  | none => rw [e4] at q3; exact q3.elim
  | some xs =>
    rw [e4] at q3
    obtain ⟨a, ws, ev, h1, h2⟩ := asL_ok g3.ok (Rl.go (g2.trans g3).toGw g1.ok x _ r1) e4
    refine ⟨a, ws, ev, SqL.of h1, fun p hp => q3 m3 _ _ (Go.new g3.ok hp) (Rl.newL g3.ok hp ?_)⟩
    unfold cutD cutV
    rw [h2.length]
    exact RlL.takeN _ (RlL.drop _ h2)
end
/-! ### own == -/
def dOwn (c : Str) (n : Nat) (F : FD) : Op2 := fun x y Ω => match asO c Ω x with
  | some _ => match asO c Ω y with
    | some _ => if [x, y].length = n then match F [x, y] Ω with
      | some (.ok d, Ω') => match d with
        | .bl b => some (.ok (.bl b), Ω')
        | _ => none
      | _ => none
      else none
    | none => none
  | none => none
structure OwnG (P : Program) (w : World) (K : PySem.W.Frag) (mg : Str → Option Value) (base : Heap) (c mt : Str) (ps : List Str) (k : Nat) (F : FD) : Prop where
  ex : ∃ f fd, PySem.W.findIn K (.ref (cad K c)) mt = some (some (.ref f)) ∧ PySem.W.isFn K (.ref f) = true ∧ FnOk P w K mg base (L2.CX P w) k f fd ps (spD K ps.length F) ∧ Binds K fd ps []
def rOwn (K : PySem.W.Frag) (c : Str) (n : Nat) (F : FD) : R2 := fun x y H Q => ∃ a b dx dy fs gs, x = .ref a ∧ y = .ref b ∧ H a = some (.ins (cad K c) dx fs) ∧ H b = some (.ins (cad K c) dy gs) ∧ spD K n F [x, y] H (fun v H' => (∃ b, v = .bl b) ∧ Q v H') fun _ _ _ => False
section
variable {X : Cx} {E : St → XK} {a b : Expr} {f g : Den D} {pos : Pos} {c : Str} {ps : List Str} {k : Nat} {F : FD}
theorem op_ownEq (G : OwnG X.prog X.w X.K X.mg X.base c "__eq__" ps k F) (hr : Room k X.A) : OpR X (compareOp .Eq) (rOwn X.K c ps.length F) := by
  intro pins s σ H x y v u Q I rx ry h
  obtain ⟨a, b, dx, dy, fs, gs, ex, ey, ha, hb, sp⟩ := h
  subst ex ey
  obtain rfl : v = Value.ref a := rx
  obtain rfl : u = Value.ref b := ry
  obtain ⟨f, fd, hs, hf, ok, bi⟩ := G.ex
  obtain ⟨mA, J, _⟩ := ins_get I.hok ha
  obtain ⟨mB, J', _⟩ := ins_get I.hok hb
  obtain ⟨od, J, _⟩ := J.look
  obtain ⟨od', J', _⟩ := J'.look
  obtain ⟨mm, hF⟩ := I.fr
  show wpAny (model X.prog X.w) X.A (richCompare .Eq (.ref a) (.ref b)) (EP X pins σ Q) X.xe s
  refine PySem.W.cmp_K (op := .Eq) (tb := .ref (cad X.K c)) hr.units0 hF I.ok.mod.kin J J'.type (by simp [PySem.W.notFirst]) hs hf ?_
  refine thn (run_fnS (E := fun _ => fun _ _ _ => False) (us := [.ref a, .ref b]) (vs := [.ref a, .ref b]) ok hr bi (fun pins H s e s' I h => by
    obtain ⟨_, _, _, _, _, _, _, _, _, _, _, _, z⟩ := h
    exact z.elim) I (.cons rfl (.cons rfl .nil)) sp) fun w s' ⟨z, H', I', rz, ⟨b', eb⟩, q⟩ => ?_
  subst eb
  cases rz
  exact ⟨.bl b', H', I', rfl, q⟩
theorem od_own : OpD X.K (dOwn c ps.length F) (rOwn X.K c ps.length F) := by
  intro E m Ω H x y v u Q cc rx ry q
  unfold dOwn at q
  cases e1 : asO c Ω x with
  | none => rw [e1] at q; exact q.elim
  | some fs =>
    rw [e1] at q
    dsimp only at q
    cases e2 : asO c Ω y with
    | none => rw [e2] at q; exact q.elim
    | some gs =>
      rw [e2] at q
      obtain ⟨hl, q⟩ := Af.guard q
      obtain ⟨a, dx, us, ea, h1, _⟩ := asO_ok cc rx e1
      obtain ⟨b, dy, ws, eb, h2, _⟩ := asO_ok cc ry e2
      refine ⟨a, b, dx, dy, us, ws, ea, eb, h1, h2, hl, m, Ω, [x, y], cc, rlL_2 rx ry, ?_⟩
      cases e3 : F [x, y] Ω with
      | none => rw [e3] at q; exact q
      | some z =>
        obtain ⟨r, Ω'⟩ := z
        rw [e3] at q
        cases r with
        | ex e => exact q.elim
        | ok d =>
          cases d with
          | bl bb =>
            intro m' v' H' g r
            have r0 := r
            unfold Rl at r
            exact ⟨⟨bb, r⟩, q m' v' H' g r0⟩
          | _ => exact q.elim
theorem de_ownEq (G : OwnG X.prog X.w X.K X.mg X.base c "__eq__" ps k F) (hr : Room k X.A) (ha : DE X E a f) (hb : DE X E b g) : DE X E (.Compare a [.Eq] [b] pos) (fBin (dOwn c ps.length F) f g) := de_cmp (op_ownEq G hr) od_own ha hb (nomark _)
theorem dt_ownEq (G : OwnG X.prog X.w X.K X.mg X.base c "__eq__" ps k F) (hr : Room k X.A) (ha : DE X E a f) (hb : DE X E b g) : DT X E (.Compare a [.Eq] [b] pos) (fT (fBin (dOwn c ps.length F) f g)) := dt_cmp (op_ownEq G hr) od_own ha hb (nomark _)
/-- C.f, a constant of the class -/
theorem de_cval {mc : Value} {ff : Str} {i : Int} {u : Value} {p : Pos} (r : ClX.CRead X.K (cad X.K c) mc) (kk : ClX.CVal X.K (cad X.K c) mc ff (.int i) u) (hm : X.mg c = some (.ref (cad X.K c))) (hg : Gl X c := by rfl) (hd : (c == ("__debug__" : Str)) = false := by decide)
    (hb : attributeBase (.Name c p) ff X.env (eval (.Name c p) X.env) = eval (.Name c p) X.env := by rfl) : DE X E (.Attribute (.Name c p) ff pos) (fC (.int i)) := PE.mono (ClX.pe_cval (pe_glob (v := .ref (cad X.K c)) hg hm rfl hd) hb) fun σ H Q h => by
  obtain ⟨m, Γ, Ω, s, h⟩ := h
  exact ⟨_, mc, .int i, u, rfl, r, kk, h m _ H (Go.refl s.cells) rl_int⟩
end
end Dn


set_option Elab.async false
set_option linter.all false
set_option maxRecDepth 100000
/-! DnGen: what the printed derivations name. -/
namespace Dn
open PySem L2
section
variable {K : PySem.W.Frag} {m : Mp} {Ω : Om} {H : Hp}
/-- a + b of lists, the new list a cell -/
def dAddC : Op2 := fun x y Ω => match asL Ω x with
    | some xs => match asL Ω y with
      | some ys => if xs.length + ys.length ≤ 100000 then some (.ok (.ref Ω.length), Ω ++ [.lst (xs ++ ys)]) else none
      | none => none
    | none => none
theorem od_addC : OpD K dAddC rCat := by
  intro E m Ω H x y v u Q c rx ry q
  unfold dAddC at q
  cases e1 : asL Ω x with
  | none => rw [e1] at q; exact q.elim
  | some xs =>
    rw [e1] at q
    dsimp only at q
    cases e2 : asL Ω y with
    | none => rw [e2] at q; exact q.elim
    | some ys =>
      rw [e2] at q
      obtain ⟨hz, q⟩ := Af.guard q
      obtain ⟨a, vs, e3, h1, h2⟩ := asL_ok c rx e1
      obtain ⟨b, ws, e4, h3, h4⟩ := asL_ok c ry e2
      exact ⟨a, b, vs, ws, e3, e4, h1, h3, by rw [← h2.length, ← h4.length]; exact sz hz, fun p hp => q (m.add p) _ _ (Go.cellL c hp (h2.append h4)) (rl_last c)⟩
end
section
variable {X : Cx} {E : St → XK} {a b : Expr} {f g : Den D} {pos : Pos} {c : Str}
theorem de_addC (ha : DE X E a f) (hb : DE X E b g) : DE X E (.BinOp a .Add b pos) (fBin dAddC f g) := de_bin op_cat od_addC ha hb
def CvE (K : PySem.W.Frag) (c f : Str) (i : Int) : Prop := ∃ mc u, ClX.CRead K (cad K c) mc ∧ ClX.CVal K (cad K c) mc f (.int i) u
theorem de_cvalE {ff : Str} {i : Int} {p : Pos} (h : CvE X.K c ff i) (hm : X.mg c = some (.ref (cad X.K c))) (hg : Gl X c := by rfl) (hd : (c == ("__debug__" : Str)) = false := by decide)
    (hb : attributeBase (.Name c p) ff X.env (eval (.Name c p) X.env) = eval (.Name c p) X.env := by rfl) : DE X E (.Attribute (.Name c p) ff pos) (fC (.int i)) := by
  obtain ⟨mc, u, r, k⟩ := h
  exact de_cval r k hm hg hd hb
end
/-! ### a cell's last change is behind it -/
def fFrz (f : Den D) : Den D := bnd f fun d _ Ω => match d with
  | .ref n => match Ω[n]? with
    | some (.lst xs) => some (.ok (.lst xs), Ω.set n .dead)
    | some (.dct kvs) => some (.ok (.dct kvs), Ω.set n .dead)
    | _ => none
  | _ => none
section
variable {K : PySem.W.Frag} {m : Mp} {Ω : Om} {H : Hp}
theorem upd_id {a : Addr} {o : HO} (h : H a = some o) : upd H a o = H := funext fun b => by
  by_cases e : b = a
  · subst e; rw [upd_same, h]
  · rw [upd_ne e]
theorem Go.kill (c : CellsOk K m Ω H) {n : Nat} {a : Addr} {x : Cell} (hm : m.l[n]? = some a) (hx : Ω[n]? = some x) (hl : x ≠ .dead) : Go K m Ω H m (Ω.set n .dead) H := by
  obtain ⟨o, ho⟩ := c.some hm
  have g := Go.set (o := o) (y := .dead) c hm hx hl fun _ => ⟨o, upd_same⟩
  rw [upd_id ho] at g
  exact g
theorem not_live_kill (c : CellsOk K m Ω H) {n : Nat} {a : Addr} (hm : m.l[n]? = some a) : ¬ Live m (Ω.set n .dead) a := by
  rintro (⟨k, z, h1, h2, h3⟩ | l)
  · obtain rfl := c.nodup_ix h1 hm
    have hk : k < Ω.length := by
      rw [← c.len]
      exact (List.getElem?_eq_some_iff.mp hm).1
    rw [List.getElem?_set_self hk] at h2
    cases h2
    exact h3 rfl
  · exact (c.hl a l).2 (List.mem_of_getElem? hm)
end
theorem de_frz {X : Cx} {E : St → XK} {e : Expr} {f : Den D} (h : DE X E e f) : DE X E e (fFrz f) := PE.mono h fun σ H Q h => by
  obtain ⟨m, Γ, Ω, s, h⟩ := h
  refine ⟨m, Γ, Ω, s, (Af.bind (R := Rl X.K) h).imp fun _ _ _ _ _ _ _ _ ⟨m1, Ω1, x, g1, r1, q⟩ => ?_⟩
  cases x with
  | ref n =>
    have r2 := r1
    unfold Rl at r2
    obtain ⟨a, ev, hm⟩ := r2
    dsimp only at q
    cases hx : Ω1[n]? with
    | none => rw [hx] at q; exact q.elim
    | some c =>
      rw [hx] at q
      have k := g1.ok.at_ n c a hx hm
      cases c with
      | lst xs =>
        obtain ⟨vs, h1, h2⟩ := k
        have g := Go.kill g1.ok hm hx (by intro z; cases z)
        refine q m1 _ _ g ?_
        unfold Rl
        exact ⟨a, vs, ev, h1, not_live_kill g1.ok hm, RlL.go g.toGw g1.ok xs vs h2⟩
      | dct xs =>
        obtain ⟨vs, h1, h2⟩ := k
        have g := Go.kill g1.ok hm hx (by intro z; cases z)
        refine q m1 _ _ g ?_
        unfold Rl
        exact ⟨a, vs, ev, .inl h1, not_live_kill g1.ok hm, RlK.go g.toGw g1.ok xs vs h2⟩
      | _ => exact q.elim
  | _ => exact q.elim
section
variable {P : Program} {w : World} {K : PySem.W.Frag} {mg : Str → Option Value} {base : Heap} {N : List Str} {qual : Str} {scope : Scope} {f : Addr} {cdv : Value} {A : Around} {outer : List Env} {s : Shared} {H : Hp} {E : XK}
theorem hx_of (σ : St) : PassesAt (L2.CX P w) (cxOf (L2.CX P w) P w K mg base N qual scope f cdv A outer s H E) σ E := passAt (W := fun cls d _ H => E cls d H) (takes_of rfl rfl rfl rfl) σ
theorem hp_of : PassesOwn (model P w) (cxOf (L2.CX P w) P w K mg base N qual scope f cdv A outer s H E).A (cxOf (L2.CX P w) P w K mg base N qual scope f cdv A outer s H E).env (cxOf (L2.CX P w) P w K mg base N qual scope f cdv A outer s H E).xe := passes_of (X := cxOf (L2.CX P w) P w K mg base N qual scope f cdv A outer s H E) rfl
end
section
variable {X : Cx} {E : St → XK} {x c mt : Str} {ps : List Str} {k n : Nat} {F : FD} {e o : Expr} {es : List Expr} {r : Den (List D)} {fo : Den D} {p pos apos : Pos}
theorem de_callN (G : FnG X.prog X.w X.K X.mg X.base x ps k F) (hr : Room k X.A) (hx : ∀ σ, PassesAt (L2.CX X.prog X.w) X σ (E σ)) (ha : DA X E (e :: es) r) (hn : ps.length = n := by rfl) (hg : Gl X x := by rfl)
    (hdb : (x == ("__debug__" : Str)) = false := by decide) (he : starEach (e :: es) X.env = (false, eval e X.env) :: starEach es X.env := by rfl) (hpl : (backTo pos (starEach es X.env)).any (·.1) = false := by rfl) :
    DE X E (.Call (.Name x p) (e :: es) [] pos) (fCall n F r) := by
  subst hn
  exact de_call G hr hx ha hg hdb he hpl
theorem de_makeN (G : MkG X.prog X.w X.K X.mg X.base c ps k F) (hr : Room (k + 1) X.A) (hx : ∀ σ, PassesAt (L2.CX X.prog X.w) X σ (E σ)) (ha : DA X E (e :: es) r) (hn : ps.length = n := by rfl) (hg : Gl X c := by rfl)
    (hdb : (c == ("__debug__" : Str)) = false := by decide) (he : starEach (e :: es) X.env = (false, eval e X.env) :: starEach es X.env := by rfl) (hpl : (backTo pos (starEach es X.env)).any (·.1) = false := by rfl) :
    DE X E (.Call (.Name c p) (e :: es) [] pos) (fMake c n F r) := by
  subst hn
  exact de_make G hr hx ha hg hdb he hpl
theorem de_methN {pl : Sem Bool} (hc : Cls X.K (cad X.K c)) (G : MtG X.prog X.w X.K X.mg X.base c mt ps k F) (hr : Room k X.A) (hx : ∀ σ, PassesAt (L2.CX X.prog X.w) X σ (E σ)) (ho : DE X E o fo) (ha : DA X E (e :: es) r) (hn : ps.length = n := by rfl)
    (hst : starEach (e :: es) X.env = (false, eval e X.env) :: starEach es X.env := by rfl) (hpl : (backTo pos (starEach es X.env)).any (·.1) = false := by rfl)
    (ht : eval (.Call (.Attribute o mt apos) (e :: es) [] pos) X.env = (do
      let ov ← eval o X.env
      standAt apos.atName
      let (f, first) ← holding [ov] (getMethod ov mt pl)
      callWith pos f first (backTo pos (starEach (e :: es) X.env)) (backToKw pos (keywordEach [] X.env))) := by rfl) :
    DE X E (.Call (.Attribute o mt apos) (e :: es) [] pos) (fMeth c mt n F fo r) := by
  subst hn
  exact de_meth hc G hr hx ho ha hst hpl ht
theorem de_meth0N {pl : Sem Bool} (hc : Cls X.K (cad X.K c)) (G : MtG X.prog X.w X.K X.mg X.base c mt ps k F) (hr : Room k X.A) (hx : ∀ σ, PassesAt (L2.CX X.prog X.w) X σ (E σ)) (ho : DE X E o fo) (hn : ps.length = n := by rfl)
    (ht : eval (.Call (.Attribute o mt apos) [] [] pos) X.env = (do
      let ov ← eval o X.env
      standAt apos.atName
      let (f, first) ← holding [ov] (getMethod ov mt pl)
      callWith pos f first (backTo pos (starEach [] X.env)) (backToKw pos (keywordEach [] X.env))) := by rfl) :
    DE X E (.Call (.Attribute o mt apos) [] [] pos) (fMeth c mt n F fo fNil) := by
  subst hn
  exact de_meth0 hc G hr hx ho ht
theorem de_methKN {pl : Sem Bool} {kws : List Keyword} {ks : List Str} {ix : List Nat} {l : Nat} (hc : Cls X.K (cad X.K c)) (G : MtK X.prog X.w X.K X.mg X.base c mt ps ks ix k F) (hr : Room k X.A) (hx : ∀ σ, PassesAt (L2.CX X.prog X.w) X σ (E σ)) (ho : DE X E o fo) (ha : DK X E kws r) (hn : ps.length = n := by rfl) (hl : ks.length = l := by rfl)
    (hall : (backToKw pos (keywordEach kws X.env)).all (·.1.isSome) = true := by rfl) (hks : (backToKw pos (keywordEach kws X.env)).filterMap (·.1) = ks := by rfl)
    (hpl : ((backTo pos (starEach [] X.env)).any (·.1) || (backToKw pos (keywordEach kws X.env)).any (·.1.isNone)) = false := by rfl)
    (ht : eval (.Call (.Attribute o mt apos) [] kws pos) X.env = (do
      let ov ← eval o X.env
      standAt apos.atName
      let (f, first) ← holding [ov] (getMethod ov mt pl)
      callWith pos f first (backTo pos (starEach [] X.env)) (backToKw pos (keywordEach kws X.env))) := by rfl) :
    DE X E (.Call (.Attribute o mt apos) [] kws pos) (fMethK c mt n l ix F fo r) := by
  subst hn hl
  exact de_methK hc G hr hx ho ha hall hks hpl ht
theorem de_ownEqN {a b : Expr} {f g : Den D} (G : OwnG X.prog X.w X.K X.mg X.base c "__eq__" ps k F) (hr : Room k X.A) (ha : DE X E a f) (hb : DE X E b g) (hn : ps.length = n := by rfl) : DE X E (.Compare a [.Eq] [b] pos) (fBin (dOwn c n F) f g) := by
  subst hn
  exact de_ownEq G hr ha hb
theorem dt_ownEqN {a b : Expr} {f g : Den D} (G : OwnG X.prog X.w X.K X.mg X.base c "__eq__" ps k F) (hr : Room k X.A) (ha : DE X E a f) (hb : DE X E b g) (hn : ps.length = n := by rfl) : DT X E (.Compare a [.Eq] [b] pos) (fT (fBin (dOwn c n F) f g)) := by
  subst hn
  exact dt_ownEq G hr ha hb
end
theorem bt_len : bootBuiltins "len" = some (.builtin "len") := by decide +kernel
theorem bt_sorted : bootBuiltins "sorted" = some (.builtin "sorted") := by decide +kernel
theorem bt_dict : bootBuiltins "dict" = some (.type "dict") := by decide +kernel
theorem bt_max : bootBuiltins "max" = some (.builtin "max") := by decide +kernel
theorem bt_min : bootBuiltins "min" = some (.builtin "min") := by decide +kernel
theorem bt_abs : bootBuiltins "abs" = some (.builtin "abs") := by decide +kernel
theorem bt_int : bootBuiltins "int" = some (.type "int") := by decide +kernel
theorem bt_bool : bootBuiltins "bool" = some (.type "bool") := by decide +kernel
theorem bt_str : bootBuiltins "str" = some (.type "str") := by decide +kernel
theorem bt_divmod : bootBuiltins "divmod" = some (.builtin "divmod") := by decide +kernel
theorem bt_tuple : bootBuiltins "tuple" = some (.type "tuple") := by decide +kernel
theorem bt_list : bootBuiltins "list" = some (.type "list") := by decide +kernel
theorem bt_all : bootBuiltins "all" = some (.builtin "all") := by decide +kernel
theorem bt_any : bootBuiltins "any" = some (.builtin "any") := by decide +kernel
theorem bt_sum : bootBuiltins "sum" = some (.builtin "sum") := by decide +kernel
end Dn


set_option Elab.async false
set_option linter.all false
set_option maxRecDepth 100000
/-! DnHead: the head's Hook with a Bool more, and what it tells. -/
namespace Dn
open PySem L2
section
variable {K : PySem.W.Frag} {x qual : Str} {params : Arguments} {body : List Stmt} {scope : Scope} {f : Addr} {fd : FuncData} {kws : List (Str × V)} {ps ks : List Str} {n : Nat} {ix : List Nat}
theorem kwB_of (F : FunD K x qual params body scope [] kws f fd)
    (h : ∀ (kV doc pm : Value) (an : Option Addr) (cdv ct : Value) (us ws : List Value), us.length = n → ws.length = ks.length → bindArgs (PySem.W.fnOf x qual params body scope .none kV doc pm an cdv ct) ⟨us, ks.zip ws⟩ = pure (ps.zip (reord ix (us ++ ws)))) : KwB K fd ps n ks ix := by
  obtain ⟨oc, od, dV, kV, doc, pm, an, cdv, ct, osl, rfl, lk, hcd, hD, hK⟩ := F.ex
  rcases hD with ⟨_, rfl⟩ | ⟨e, _⟩
  · exact ⟨fun s us ws _ h1 h2 => .of_eq (h kV doc pm an cdv ct us ws h1 h2)⟩
  · exact absurd rfl e
end
/-! ### the Hook -/
def asS (g : Addr → Option Obj) : Nat → List Addr
  | 0 => [mainGlobals, cStatics]
  | n + 1 => He.growD g (asS g n)
abbrev AlB : Type := He.AlD × Bool
def obsB (n : Nat) (fa : List He.Fa) (fn : List He.DefD) (ex : PySem.W.Frag → Bool) (g : Addr → Option Obj) : AlB := (He.obsD fa fn (He.frG g (asS g n)), ex (He.frG g (asS g n)))
structure SaysB (fa : List He.Fa) (fn : List He.DefD) (ex : PySem.W.Frag → Bool) (K : PySem.W.Frag) : Prop where
  d : He.SaysD fa fn K
  more : ex K = true
def hookB (n : Nat) (fa : List He.Fa) (fn : List He.DefD) (ex : PySem.W.Frag → Bool) : PySem.W.Hook where
  α := AlB
  obs := fun s => obsB n fa fn ex s.heap.get?
  val := fun _ => (He.valD fn, true)
  says := fun _ h => ∃ K : PySem.W.Frag, K.In h ∧ SaysB fa fn ex K
  of := fun _ _ e => ⟨_, He.frG_in, ⟨congrArg (fun z : AlB => z.1) e, congrArg (fun z : AlB => z.2) e⟩⟩
  keeps := fun _ _ _ ⟨K, hK, c⟩ k => ⟨K, PySem.W.Frag.In.keeps hK k, c⟩
theorem obsB_eq {n : Nat} {fa : List He.Fa} {fn : List He.DefD} {ex : PySem.W.Frag → Bool} {g : Addr → Option Obj} {s : Shared} (h : ∀ a, g a = s.heap.get? a) : obsB n fa fn ex g = (hookB n fa fn ex).obs s := by
  have e : g = s.heap.get? := funext h
  rw [e] <;> rfl
/-! ### own classes -/
def bTs : List String := ["int", "bool", "str", "list", "tuple", "dict"]
def isaB (CL : List Str) (K : PySem.W.Frag) : Bool :=
  (CL.all fun c => (He.Fa.cls c).ok K && (He.eqO (PySem.W.findIn K (.ref (cad K c)) "__class__") (some (some (.builtin "object.__class__"))) && decide (PySem.W.mroIn K (cad K c) (.type "object") = some true))) &&
  (He.eqO (PySem.W.specialIn K (.builtin "object.__class__") "__get__") (some (some (.builtin "getset_descriptor.__get__"))) && (decide (PySem.W.takesIn K (.builtin "object.__class__") = some true) &&
  ((CL.all fun c => CL.all fun c' => decide (PySem.W.kitOne K (.ref (cad K c)) (.ref (cad K c')) = some (decide (c = c')))) &&
  ((tys.all fun t => CL.all fun c => decide (PySem.W.kitOne K (.type t) (.ref (cad K c)) = some false)) &&
  (CL.all fun c => bTs.all fun T => decide (PySem.W.kitOne K (.ref (cad K c)) (.type T) = some false))))))
theorem isaB_ok {CL : List Str} {K : PySem.W.Frag} (h : isaB CL K = true) : IsaF K CL := by
  unfold isaB at h
  obtain ⟨h1, h⟩ := He.ba h
  obtain ⟨h2, h⟩ := He.ba h
  obtain ⟨h3, h⟩ := He.ba h
  obtain ⟨h4, h⟩ := He.ba h
  obtain ⟨h5, h6⟩ := He.ba h
  refine ⟨fun c hc => ?_, He.eqO_ok h2, of_decide_eq_true h3, fun c hc c' hc' => of_decide_eq_true (List.all_eq_true.mp (List.all_eq_true.mp h4 c hc) c' hc'), fun t ht c hc => of_decide_eq_true (List.all_eq_true.mp (List.all_eq_true.mp h5 t ht) c hc), fun c hc T hT => of_decide_eq_true (List.all_eq_true.mp (List.all_eq_true.mp h6 c hc) T hT)⟩
  obtain ⟨a1, a2⟩ := He.ba (List.all_eq_true.mp h1 c hc)
  obtain ⟨a3, a4⟩ := He.ba a2
  exact ⟨He.cls_ok a1, He.eqO_ok a3, of_decide_eq_true a4⟩
def cvB (c f : Str) (i : Int) (K : PySem.W.Frag) : Bool := PySem.W.readsIn K (cad K c) (.type "type") && (He.eqO (PySem.W.specialIn K (.ref (cad K c)) "__getattribute__") (some (some (.builtin "type.__getattribute__"))) &&
  (match PySem.W.findCls K (.ref (cad K c)) (.type "type") f with
    | some (.val (.int j _)) => decide (j = i)
    | _ => false))
theorem cvB_ok {c f : Str} {i : Int} {K : PySem.W.Frag} (h : cvB c f i K = true) : CvE K c f i := by
  unfold cvB at h
  obtain ⟨h1, h⟩ := He.ba h
  obtain ⟨h2, h⟩ := He.ba h
  split at h
  · rename_i j t e
    obtain rfl := of_decide_eq_true h
    exact ⟨_, _, ⟨h1, He.eqO_ok h2⟩, ⟨e, ⟨_, rfl⟩⟩⟩
  · cases h
end Dn


set_option Elab.async false
set_option linter.all false
set_option maxRecDepth 100000
/-! DnVal: what denotations come to. -/
namespace Dn
open PySem L2
/-! ### no cell is named -/
mutual
theorem below_up {k : Nat} : ∀ d : D, below 0 d = true → below k d = true
  | .tup xs, h => by unfold below at h ⊢; exact belowL_up xs h
  | .lst xs, h => by unfold below at h ⊢; exact belowL_up xs h
  | .dct xs, h => by unfold below at h ⊢; exact belowK_up xs h
  | .obj _ xs, h => by unfold below at h ⊢; exact belowF_up xs h
  | .ref n, h => by unfold below at h; exact absurd (of_decide_eq_true h) (Nat.not_lt_zero n)
  | .non, _ => rfl
  | .bl _, _ => rfl
  | .int _, _ => rfl
  | .str _, _ => rfl
  | .scr _, _ => rfl
theorem belowL_up {k : Nat} : ∀ d : List D, belowL 0 d = true → belowL k d = true
  | [], _ => rfl
  | d :: ds, h => by
    unfold belowL at h ⊢
    rw [Bool.and_eq_true] at h ⊢
    exact ⟨below_up d h.1, belowL_up ds h.2⟩
theorem belowK_up {k : Nat} : ∀ d : List (Key × D), belowK 0 d = true → belowK k d = true
  | [], _ => rfl
  | (_, d) :: ds, h => by
    unfold belowK at h ⊢
    rw [Bool.and_eq_true] at h ⊢
    exact ⟨below_up d h.1, belowK_up ds h.2⟩
theorem belowF_up {k : Nat} : ∀ d : List (Str × D), belowF 0 d = true → belowF k d = true
  | [], _ => rfl
  | (_, d) :: ds, h => by
    unfold belowF at h ⊢
    rw [Bool.and_eq_true] at h ⊢
    exact ⟨below_up d h.1, belowF_up ds h.2⟩
end
theorem belowL_all {k : Nat} : ∀ {ds : List D}, (∀ d ∈ ds, below k d = true) → belowL k ds = true
  | [], _ => rfl
  | d :: ds, h => by
    unfold belowL
    rw [Bool.and_eq_true]
    exact ⟨h d (by simp), belowL_all fun e he => h e (by simp [he])⟩
theorem belowL_map {α : Type} {k : Nat} {e : α → D} (h : ∀ a, below k (e a) = true) (xs : List α) : belowL k (xs.map e) = true := belowL_all fun d hd => by
  obtain ⟨a, _, rfl⟩ := List.mem_map.mp hd
  exact h a
theorem belowL_mem {k : Nat} : ∀ {ds : List D} {d : D}, belowL k ds = true → d ∈ ds → below k d = true
  | e :: ds, d, h, m => by
    unfold belowL at h
    rw [Bool.and_eq_true] at h
    rcases List.mem_cons.mp m with rfl | m
    · exact h.1
    · exact belowL_mem h.2 m
theorem cellBelow_up {k : Nat} {c : Cell} (h : cellBelow 0 c = true) : cellBelow k c = true := by
  cases c with
  | lst xs => exact belowL_up xs h
  | dct xs => exact belowK_up xs h
  | ins c xs => exact belowF_up xs h
  | dead => rfl
def PureΩ (Ω : Om) : Prop := ∀ c ∈ Ω, cellBelow 0 c = true
theorem PureΩ.below {Ω : Om} (h : PureΩ Ω) (k : Nat) : (Ω.all (cellBelow k)) = true := List.all_eq_true.mpr fun c hc => cellBelow_up (h c hc)
theorem PureΩ.add {Ω : Om} (h : PureΩ Ω) {c : Cell} (hc : cellBelow 0 c = true) : PureΩ (Ω ++ [c]) := fun x hx => by
  rcases List.mem_append.mp hx with hx | hx
  · exact h x hx
  · rw [List.mem_singleton.mp hx]; exact hc
theorem PureΩ.set {Ω : Om} (h : PureΩ Ω) {n : Nat} {c : Cell} (hc : cellBelow 0 c = true) : PureΩ (Ω.set n c) := fun x hx => by
  rcases List.mem_or_eq_of_mem_set hx with hx | rfl
  · exact h x hx
  · exact hc
theorem frz_pure {k : Nat} {Ω : Om} {d : D} (h : below 0 d = true) : frz k Ω d = d := by
  cases d with
  | ref n => unfold below at h; exact absurd (of_decide_eq_true h) (Nat.not_lt_zero n)
  | _ => rfl
/-- a pure answer -/
theorem clean_val {F : FD} {ds : List D} {Ω Ω1 W : Om} {d : D} (h : F ds Ω = some (.ok d, Ω1 ++ W)) (hl : Ω1.length = Ω.length) (hp : PureΩ Ω1) (hd : below 0 d = true) : clean F ds Ω = some (.ok d, Ω1) := by
  unfold clean
  rw [h]
  dsimp only
  rw [frz_pure hd, ← hl, List.take_left]
  have e : cellsBelow Ω1.length (Ω1 ++ W) = true := by
    unfold cellsBelow
    rw [List.take_left]
    exact hp.below _
  rw [if_pos ⟨below_up d hd, e⟩]
theorem clean_val0 {F : FD} {ds : List D} {Ω Ω1 : Om} {d : D} (h : F ds Ω = some (.ok d, Ω1)) (hl : Ω1.length = Ω.length) (hp : PureΩ Ω1) (hd : below 0 d = true) : clean F ds Ω = some (.ok d, Ω1) := clean_val (W := []) (by rw [h, List.append_nil]) hl hp hd
/-- the answer is a list of its own -/
theorem clean_lst {F : FD} {ds : List D} {Ω Ω1 W : Om} {n : Nat} {xs : List D} (h : F ds Ω = some (.ok (.ref n), Ω1 ++ W)) (hl : Ω1.length = Ω.length) (hn : Ω.length ≤ n) (he : (Ω1 ++ W)[n]? = some (.lst xs)) (hp : PureΩ Ω1) (hd : belowL 0 xs = true) : clean F ds Ω = some (.ok (.lst xs), Ω1) := by
  unfold clean
  rw [h]
  have ef : frz Ω.length (Ω1 ++ W) (.ref n) = .lst xs := by
    unfold frz
    dsimp only
    rw [if_neg (by omega), he]
  dsimp only
  rw [ef, ← hl, List.take_left]
  have e : cellsBelow Ω1.length (Ω1 ++ W) = true := by
    unfold cellsBelow
    rw [List.take_left]
    exact hp.below _
  rw [if_pos ⟨by unfold below; exact belowL_up xs hd, e⟩]
theorem clean_dct {F : FD} {ds : List D} {Ω Ω1 W : Om} {n : Nat} {xs : List (Key × D)} (h : F ds Ω = some (.ok (.ref n), Ω1 ++ W)) (hl : Ω1.length = Ω.length) (hn : Ω.length ≤ n) (he : (Ω1 ++ W)[n]? = some (.dct xs)) (hp : PureΩ Ω1) (hd : belowK 0 xs = true) : clean F ds Ω = some (.ok (.dct xs), Ω1) := by
  unfold clean
  rw [h]
  have ef : frz Ω.length (Ω1 ++ W) (.ref n) = .dct xs := by
    unfold frz
    dsimp only
    rw [if_neg (by omega), he]
  dsimp only
  rw [ef, ← hl, List.take_left]
  have e : cellsBelow Ω1.length (Ω1 ++ W) = true := by
    unfold cellsBelow
    rw [List.take_left]
    exact hp.below _
  rw [if_pos ⟨by unfold below; exact belowK_up xs hd, e⟩]
/-- C(..) -/
theorem mk_val {c : Str} {n : Nat} {F : FD} {ds : List D} {Ω Ω1 W : Om} {fs : List (Str × D)} (h : F (.ref Ω.length :: ds) (Ω ++ [.ins c []]) = some (.ok .non, Ω1 ++ .ins c fs :: W)) (hn : ds.length + 1 = n) (hl : Ω1.length = Ω.length) (hp : PureΩ Ω1) (hf : belowF 0 fs = true) : mkD c n F ds Ω = some (.ok (.obj c fs), Ω1) := by
  unfold mkD
  rw [if_pos hn, h]
  have ef : frz Ω.length (Ω1 ++ .ins c fs :: W) (.ref Ω.length) = .obj c fs := by
    unfold frz
    dsimp only
    rw [if_neg (by omega), ← hl]
    simp
  dsimp only
  rw [ef, ← hl, List.take_left]
  have e : cellsBelow Ω1.length (Ω1 ++ .ins c fs :: W) = true := by
    unfold cellsBelow
    rw [List.take_left]
    exact hp.below _
  rw [if_pos ⟨by unfold below; exact belowF_up fs hf, e⟩]
/-! ### cells at the end -/
@[simp] theorem at_end {Ω : Om} {c : Cell} : (Ω ++ [c])[Ω.length]? = some c := by simp
@[simp] theorem set_end {Ω : Om} {c c' : Cell} : (Ω ++ [c]).set Ω.length c' = Ω ++ [c'] := by simp
@[simp] theorem cellL_end {Ω : Om} {xs : List D} : cellL (Ω ++ [.lst xs]) Ω.length = some xs := by unfold cellL; simp
@[simp] theorem asL_end {Ω : Om} {xs : List D} : asL (Ω ++ [.lst xs]) (.ref Ω.length) = some xs := by unfold asL; simp
@[simp] theorem asK_end {Ω : Om} {xs : List (Key × D)} : asK (Ω ++ [.dct xs]) (.ref Ω.length) = some xs := by unfold asK; simp
@[simp] theorem atI_nat {α : Type} (xs : List α) (n : Nat) : L2.atI xs (n : Int) = xs[n]? := by
  unfold L2.atI ixN
  by_cases h : n < xs.length
  · simp [h]
  · simp [h]
    try omega
@[simp] theorem atI_0 {α : Type} (x : α) (xs : List α) : L2.atI (x :: xs) 0 = some x := atI_nat (x :: xs) 0
@[simp] theorem atI_1 {α : Type} (x y : α) (xs : List α) : L2.atI (x :: y :: xs) 1 = some y := atI_nat (x :: y :: xs) 1
@[simp] theorem atI_2 {α : Type} (x y z : α) (xs : List α) : L2.atI (x :: y :: z :: xs) 2 = some z := atI_nat (x :: y :: z :: xs) 2
@[simp] theorem ixN_last (n : Nat) : ixN (n + 1) (-1) = some n := by
  unfold ixN
  simp
  omega
@[simp] theorem atI_last {α : Type} (ys : List α) (z : α) : L2.atI (ys ++ [z]) (-1) = some z := by
  unfold L2.atI
  rw [List.length_append, List.length_singleton, ixN_last]
  simp
@[simp] theorem setIx_last {Ω : Om} {ys : List D} {z d : D} : setIx (.ref Ω.length) (.int (-1)) d (Ω ++ [.lst (ys ++ [z])]) = some (Ω ++ [.lst (ys ++ [d])]) := by
  unfold setIx
  simp
/-! ### steps -/
section
variable {Γ Γ1 : Gm} {Ω Ω1 Ω2 : Om} {g k : DenS} {f : Den D} {r : Den (List D)} {d : D} {ds : List D} {i n : Nat} {F : FD} {t : DenG} {b : DenS}
theorem seq_nx (h : g Γ Ω = some (.nx, Γ1, Ω1)) : sSeq g k Γ Ω = k Γ1 Ω1 := by unfold sSeq; rw [h]; rfl
theorem seq_rt (h : g Γ Ω = some (.rt d, Γ1, Ω1)) : sSeq g k Γ Ω = some (.rt d, Γ1, Ω1) := by unfold sSeq; rw [h]; rfl
theorem set_ok (h : f Γ Ω = some (.ok d, Ω1)) : sSet i f Γ Ω = some (.nx, Γ.set i (some d), Ω1) := by unfold sSet; rw [h]; rfl
theorem ret_ok (h : f Γ Ω = some (.ok d, Ω1)) : sRet f Γ Ω = some (.rt d, Γ, Ω1) := by unfold sRet; rw [h]; rfl
theorem exp_ok (h : f Γ Ω = some (.ok d, Ω1)) : sExp f Γ Ω = some (.nx, Γ, Ω1) := by unfold sExp; rw [h]; rfl
theorem if_t {c : Den Bool} (h : c Γ Ω = some (.ok true, Ω1)) : sIf c g k Γ Ω = g Γ Ω1 := by unfold sIf; rw [h]; rfl
theorem if_f {c : Den Bool} (h : c Γ Ω = some (.ok false, Ω1)) : sIf c g k Γ Ω = k Γ Ω1 := by unfold sIf; rw [h]; rfl
theorem for_ok {fi : Den (List D)} (h : fi Γ Ω = some (.ok ds, Ω1)) : sFor fi t b Γ Ω = loopS t b ds Γ Ω1 := by unfold sFor; rw [h]
theorem call_ok (h : r Γ Ω = some (.ok ds, Ω1)) (hn : ds.length = n) (hF : F ds Ω1 = some (.ok d, Ω2)) : fCall n F r Γ Ω = some (.ok d, Ω2) := by
  unfold fCall bnd
  rw [h]
  simp [hn, hF]
theorem cons_ok {f : Den D} {r : Den (List D)} (h1 : f Γ Ω = some (.ok d, Ω1)) (h2 : r Γ Ω1 = some (.ok ds, Ω2)) : fCons f r Γ Ω = some (.ok (d :: ds), Ω2) := by
  unfold fCons bnd
  rw [h1, bR_ok]
  dsimp only
  rw [h2, bR_ok]
  rfl
theorem nil_ok : fNil Γ Ω = some (.ok [], Ω) := rfl
theorem fn_rt (h : b (startG n ds) Ω = some (.rt d, Γ1, Ω1)) : fnD n b ds Ω = some (.ok d, Ω1) := by unfold fnD; rw [h]; rfl
theorem fn_nx (h : b (startG n ds) Ω = some (.nx, Γ1, Ω1)) : fnD n b ds Ω = some (.ok .non, Ω1) := by unfold fnD; rw [h]; rfl
theorem var_at (h : Γ[i]? = some (some d)) : fVar i Γ Ω = some (.ok d, Ω) := by unfold fVar; rw [h]
/-- a walk whose body runs on -/
theorem loop_nx {α β : Type} {e : α → D} (I : β → Gm → Om → Prop) (step : β → α → β) (ok : β → List α → Prop) (h : ∀ s x xs Γ Ω, ok s (x :: xs) → I s Γ Ω → ∃ Γ1, t (e x) Γ = some Γ1 ∧ ∃ Γ' Ω', b Γ1 Ω = some (.nx, Γ', Ω') ∧ I (step s x) Γ' Ω' ∧ ok (step s x) xs) :
    ∀ (xs : List α) (s : β) (Γ : Gm) (Ω : Om), ok s xs → I s Γ Ω → ∃ Γ' Ω', loopS t b (xs.map e) Γ Ω = some (.nx, Γ', Ω') ∧ I (xs.foldl step s) Γ' Ω'
  | [], s, Γ, Ω, _, hi => ⟨Γ, Ω, rfl, hi⟩
  | x :: xs, s, Γ, Ω, ho, hi => by
    obtain ⟨Γ1, e1, Γ2, Ω2, e2, hi2, ho2⟩ := h s x xs Γ Ω ho hi
    obtain ⟨Γ3, Ω3, e3, hi3⟩ := loop_nx I step ok h xs (step s x) Γ2 Ω2 ho2 hi2
    refine ⟨Γ3, Ω3, ?_, hi3⟩
    rw [List.map_cons]
    unfold loopS
    rw [e1]
    dsimp only
    rw [e2]
    exact e3
/-- a comprehension whose tests and items are plain -/
theorem loopC_map {α : Type} {e : α → D} {ft : Den Bool} {fe : Den D} (p : α → Bool) (y : α → D) : ∀ (xs : List α) (acc : List D), (∀ x ∈ xs, ∃ Γ1, t (e x) Γ = some Γ1 ∧ ft Γ1 Ω = some (.ok (p x), Ω) ∧ (p x = true → fe Γ1 Ω = some (.ok (y x), Ω))) → acc.length + xs.length ≤ 100000 →
    loopC t ft fe Γ (xs.map e) acc Ω = some (.ok (.lst (acc ++ (xs.filter p).map y)), Ω)
  | [], acc, _, _ => by simp [loopC]
  | x :: xs, acc, h, hl => by
    obtain ⟨Γ1, e1, e2, e3⟩ := h x (by simp)
    rw [List.map_cons]
    unfold loopC
    rw [e1]
    dsimp only
    rw [e2]
    rw [List.length_cons] at hl
    cases hp : p x with
    | true =>
      dsimp only
      rw [e3 hp]
      dsimp only
      rw [if_pos (by omega), loopC_map p y xs _ (fun z hz => h z (by simp [hz])) (by simp; omega)]
      simp [hp]
    | false =>
      dsimp only
      rw [loopC_map p y xs _ (fun z hz => h z (by simp [hz])) (by omega)]
      simp [hp]
end
/-! ### data that == reads -/
structure Emb {α : Type} [DecidableEq α] (e : α → D) (p : α → PyData) (n : Nat) : Prop where
  to : ∀ g a, toPg g (e a) = some (p a)
  lay : ∀ a, (p a).canLay0 = true
  dep : ∀ a, (p a).depth ≤ n
  eq : ∀ a b, PyData.eqv (p a) (p b) = decide (a = b)
section
variable {α : Type} [DecidableEq α] {e : α → D} {p : α → PyData} {n : Nat}
theorem Emb.toL (h : Emb e p n) (g : Nat → Option PyData) : ∀ xs : List α, toPLg g (xs.map e) = some (xs.map p)
  | [] => rfl
  | x :: xs => by
    rw [List.map_cons]
    unfold toPLg
    rw [h.to g x]
    dsimp only
    rw [Emb.toL h g xs]
    rfl
theorem Emb.layL (h : Emb e p n) : ∀ xs : List α, PyData.canLayAll0 (xs.map p) = true
  | [] => rfl
  | x :: xs => by
    rw [List.map_cons]
    unfold PyData.canLayAll0
    rw [h.lay x, Emb.layL h xs]
    rfl
theorem Emb.depL (h : Emb e p n) : ∀ xs : List α, PyData.depthAll (xs.map p) ≤ n
  | [] => Nat.zero_le _
  | x :: xs => by
    rw [List.map_cons]
    unfold PyData.depthAll
    exact Nat.max_le.mpr ⟨h.dep x, Emb.depL h xs⟩
theorem Emb.eqL (h : Emb e p n) : ∀ xs ys : List α, PyData.eqvAll (xs.map p) (ys.map p) = decide (xs = ys)
  | [], [] => rfl
  | [], _ :: _ => rfl
  | _ :: _, [] => rfl
  | x :: xs, y :: ys => by
    rw [List.map_cons, List.map_cons]
    unfold PyData.eqvAll
    rw [h.eq x y, Emb.eqL h xs ys]
    by_cases h1 : x = y <;> by_cases h2 : xs = ys <;> simp [h1, h2]
theorem Emb.lst (h : Emb e p n) : Emb (fun xs : List α => D.lst (xs.map e)) (fun xs => PyData.list (xs.map p)) (n + 1) :=
  ⟨fun g xs => by unfold toPg; rw [h.toL g xs]; rfl, fun xs => by unfold PyData.canLay0; exact h.layL xs, fun xs => by unfold PyData.depth; exact Nat.succ_le_succ (h.depL xs), fun xs ys => by unfold PyData.eqv; exact h.eqL xs ys⟩
theorem Emb.tup (h : Emb e p n) : Emb (fun xs : List α => D.tup (xs.map e)) (fun xs => PyData.tuple (xs.map p)) (n + 1) :=
  ⟨fun g xs => by unfold toPg; rw [h.toL g xs]; rfl, fun xs => by unfold PyData.canLay0; exact h.layL xs, fun xs => by unfold PyData.depth; exact Nat.succ_le_succ (h.depL xs), fun xs ys => by unfold PyData.eqv; exact h.eqL xs ys⟩
theorem Emb.shaped (h : Emb e p n) (hn : n ≤ 64) (a : α) : SeqAt.shaped (p a) = true := by
  unfold SeqAt.shaped
  rw [h.lay a]
  have := h.dep a
  simp
  omega
theorem Emb.toP (h : Emb e p n) {Ω : Om} {k : Nat} (a : α) : Dn.toP Ω k (e a) = some (p a) := by
  cases k <;> exact h.to _ a
theorem Emb.toPref (h : Emb e p n) {Ω : Om} {k m : Nat} {xs : List α} (hm : Ω[m]? = some (.lst (xs.map e))) : Dn.toP Ω (k + 1) (.ref m) = some (.list (xs.map p)) := by
  show toPg _ (.ref m) = _
  unfold toPg
  rw [hm]
  dsimp only
  rw [h.toL]
  rfl
end
theorem emb_int : Emb D.int PyData.int 0 := ⟨fun _ _ => rfl, fun _ => rfl, fun _ => by simp [PyData.depth], fun a b => by unfold PyData.eqv; by_cases h : a = b <;> simp [h]⟩
def stD (s : Int × Int × Int) : D := .tup [.int s.1, .int s.2.1, .int s.2.2]
def stP (s : Int × Int × Int) : PyData := .tuple [.int s.1, .int s.2.1, .int s.2.2]
def prP (s : Int × Int) : PyData := .tuple [.int s.1, .int s.2]
theorem emb_st : Emb stD stP 1 := ⟨fun _ _ => rfl, fun _ => rfl, fun _ => by simp [stP, PyData.depth, PyData.depthAll], fun a b => by
  obtain ⟨a1, a2, a3⟩ := a
  obtain ⟨b1, b2, b3⟩ := b
  by_cases h1 : a1 = b1 <;> by_cases h2 : a2 = b2 <;> by_cases h3 : a3 = b3 <;> simp [stP, PyData.eqv, PyData.eqvAll, h1, h2, h3]⟩
theorem emb_pr : Emb prD prP 1 := ⟨fun _ _ => rfl, fun _ => rfl, fun _ => by simp [prP, PyData.depth, PyData.depthAll], fun a b => by
  obtain ⟨a1, a2⟩ := a
  obtain ⟨b1, b2⟩ := b
  by_cases h1 : a1 = b1 <;> by_cases h2 : a2 = b2 <;> simp [prP, PyData.eqv, PyData.eqvAll, h1, h2]⟩
/-- x == y by what they are read as -/
theorem eqG_of {b : Bool → D} {x y : D} {Ω : Om} {p q : PyData} (h1 : toP Ω 3 x = some p) (h2 : toP Ω 3 y = some q) (s1 : SeqAt.shaped p = true) (s2 : SeqAt.shaped q = true) : eqG b x y Ω = some (.ok (b (PyData.eqv p q)), Ω) := by
  unfold eqG
  split
  · rename_i i j
    cases h1
    cases h2
    unfold PyData.eqv
    rfl
  · rw [h1]
    dsimp only
    rw [h2]
    dsimp only
    rw [if_pos ⟨s1, s2⟩]
section
variable {α : Type} [DecidableEq α] {e : α → D} {p : α → PyData} {n : Nat}
theorem ne_nil_end (E : Emb e p n) (hn : n ≤ 60) {Ω : Om} (acc : List α) : dNe (.ref Ω.length) (.lst []) (Ω ++ [.lst (acc.map e)]) = some (.ok (.bl (!decide (acc = []))), Ω ++ [.lst (acc.map e)]) := by
  unfold dNe
  have h := E.eqL acc []
  rw [eqG_of (p := .list (acc.map p)) (q := .list (([] : List α).map p)) (E.toPref (by simp)) (show toP _ 3 (.lst []) = _ from E.lst.toP ([] : List α)) (E.lst.shaped (by omega) acc) (E.lst.shaped (by omega) [])]
  unfold PyData.eqv
  rw [h]
theorem eq_emb (E : Emb e p n) (hn : n ≤ 60) {Ω : Om} (b : Bool → D) (x y : α) : eqG b (e x) (e y) Ω = some (.ok (b (decide (x = y))), Ω) := by
  rw [eqG_of (E.toP x) (E.toP y) (E.shaped (by omega) x) (E.shaped (by omega) y), E.eq]
end
end Dn


set_option Elab.async false
set_option linter.all false
set_option maxRecDepth 100000
set_option maxHeartbeats 2000000
/-! DnEnd: a law's end, what is let out told of the world. -/
namespace L2
open PySem PySem.Spec PyProof.Rows
theorem walk_ofW {l : PySem.W.OpenLaw} {n k : Nat} {q : Program} {loose : List Str} {XP : (Str → Option Value) → Heap → Prop} {YP : World → Heap → Prop} {d : DefRec} (CX : World → CXT) {x : Str}
    (hn : l.most = some n) (hn2 : n ≤ sizeLine) (hdf : d.params.defaults = []) (hr : Room k callerA)
    (F : ∀ (w : World) (mg : Str → Option Value) (fa : Addr) (h : Heap), YP w h → h.Ns mainGlobals mg → mg d.name = some (.ref fa) →
      ∃ (K : PySem.W.Frag) (fd : FuncData) (sp : Sp), K.In h ∧ (∀ (s : Shared) (u : Value), BindsTo s fd ⟨[u], []⟩ [(x, u)]) ∧
        (∀ (H : Hp) (a : Addr) (ns : List Int), ns.length ≤ n → Only H → SqL K H a (ns.map V.int) → sp [.ref a] H (fun v _ => v = .bl true) fun _ _ _ => False) ∧
        ∀ base : Heap, K.In base → base.Ns mainGlobals mg → FnOk l.prog w K mg base (CX w) k fa fd [x] sp)
    (hCX : ∀ (w : World) (H : Hp) (s : Shared) (e : Value) (s' : Shared), CX w [] H s (fun _ _ _ => False) e s' → False) :
    PySem.W.WalkO q loose XP YP l.row.toRowW d [] (fun f vs => PySem.call f vs) := by
  refine Att.attach_call hn hdf fun w s₀ s₁ mg mb fa o pm cd doc a vs ns G Y ho hd hcd hmg hobj hints hlen hg => ?_
  obtain ⟨K, fd, sp, KX, hb, hsp, hF⟩ := F w mg fa _ Y G.T.g hmg
  exact law_call KX G.T.g G.T.b G.T.builtins G.T.nolimit hg hobj hints (Nat.le_trans hlen hn2) hr hF hb (fun H hO hS => hsp H a ns hlen hO hS) fun H e s' => hCX w H s₁ e s'
theorem cx_none {P : Program} (w : World) (H : Hp) (s : Shared) (e : Value) (s' : Shared) (h : L2.CX P w [] H s (fun _ _ _ => False) e s') : False := by
  obtain ⟨_, _, _, _, _, _, _, _, _, _, _, _, z⟩ := h
  exact z.elim
end L2


set_option Elab.async false
set_option linter.all false
/-! StMath: steps, units, the one form; no program in sight. -/
namespace Stairs
abbrev Stp := Int × Int × Int
def push (acc : List Stp) (s : Stp) : List Stp := match acc.getLast? with
  | some z => if z.1 + z.2.2 = s.1 ∧ z.2.1 + z.2.2 = s.2.1 then acc.dropLast ++ [(z.1, z.2.1, z.2.2 + s.2.2)] else acc ++ [s]
  | none => [s]
theorem push_nil (s : Stp) : push [] s = [s] := rfl
theorem push_snoc (ys : List Stp) (z s : Stp) : push (ys ++ [z]) s = if z.1 + z.2.2 = s.1 ∧ z.2.1 + z.2.2 = s.2.1 then ys ++ [(z.1, z.2.1, z.2.2 + s.2.2)] else ys ++ [z] ++ [s] := by
  unfold push
  simp
theorem snoc_or {α : Type} (xs : List α) : xs = [] ∨ ∃ ys z, xs = ys ++ [z] := by
  rcases List.eq_nil_or_concat xs with h | ⟨ys, z, h⟩
  · exact .inl h
  · exact .inr ⟨ys, z, by rw [h]; simp⟩
def oneForm (xs : List Stp) : List Stp := xs.foldl push []
def unitsOf (s : Stp) : List (Int × Int) := (List.range s.2.2.toNat).map fun (i : Nat) => (s.1 + (i : Int), s.2.1 + (i : Int))
def U (xs : List Stp) : List (Int × Int) := xs.flatMap unitsOf
def u1 (p : Int × Int) : Stp := (p.1, p.2, 1)
def Pos1 (xs : List Stp) : Prop := ∀ s ∈ xs, 1 ≤ s.2.2
def Rise (ps : List (Int × Int)) : Prop := ps.Pairwise fun p q => p.1 < q.1 ∧ p.2 < q.2
theorem U_nil : U [] = [] := rfl
theorem U_cons (s : Stp) (xs : List Stp) : U (s :: xs) = unitsOf s ++ U xs := by unfold U; simp
theorem U_append (xs ys : List Stp) : U (xs ++ ys) = U xs ++ U ys := by unfold U; simp
theorem mem_units {s : Stp} {p : Int × Int} : p ∈ unitsOf s ↔ s.1 ≤ p.1 ∧ p.1 < s.1 + s.2.2 ∧ p.2 - p.1 = s.2.1 - s.1 := by
  unfold unitsOf
  rw [List.mem_map]
  obtain ⟨e, n, l⟩ := s
  obtain ⟨a, b⟩ := p
  constructor
  · rintro ⟨i, hi, h⟩
    rw [List.mem_range] at hi
    simp only [Prod.mk.injEq] at h
    dsimp only at *
    omega
  · rintro ⟨h1, h2, h3⟩
    dsimp only at *
    refine ⟨(a - e).toNat, List.mem_range.mpr (by omega), ?_⟩
    simp only [Prod.mk.injEq]
    omega
theorem units_add {e n l k : Int} (hl : 0 ≤ l) (hk : 0 ≤ k) : unitsOf (e, n, l + k) = unitsOf (e, n, l) ++ unitsOf (e + l, n + l, k) := by
  unfold unitsOf
  dsimp only
  rw [show (l + k).toNat = l.toNat + k.toNat by omega, List.range_add, List.map_append, List.map_map]
  congr 1
  refine List.map_congr_left fun i _ => ?_
  simp only [Function.comp_apply, Prod.mk.injEq]
  omega
theorem units_one {e n : Int} : unitsOf (e, n, 1) = [(e, n)] := by simp [unitsOf]
theorem push_push (acc : List Stp) (e n l k : Int) : push (push acc (e, n, l)) (e + l, n + l, k) = push acc (e, n, l + k) := by
  rcases snoc_or acc with rfl | ⟨ys, z, rfl⟩
  · rw [push_nil, push_nil]
    rw [show [(e, n, l)] = ([] : List Stp) ++ [(e, n, l)] from rfl, push_snoc]
    simp
  · rw [push_snoc, push_snoc]
    dsimp only
    by_cases h : z.1 + z.2.2 = e ∧ z.2.1 + z.2.2 = n
    · rw [if_pos h, if_pos h, push_snoc]
      dsimp only
      rw [if_pos (by omega)]
      simp
      omega
    · rw [if_neg h, if_neg h, push_snoc]
      simp
theorem fold_units (e n : Int) : ∀ (k : Nat) (acc : List Stp), ((unitsOf (e, n, (k : Int) + 1)).map u1).foldl push acc = push acc (e, n, (k : Int) + 1)
  | 0, acc => by
    rw [show ((0 : Nat) : Int) + 1 = 1 from rfl, units_one]
    rfl
  | k + 1, acc => by
    rw [show ((k + 1 : Nat) : Int) + 1 = ((k : Int) + 1) + 1 by omega, units_add (by omega) (by omega), units_one, List.map_append, List.foldl_append, fold_units e n k acc]
    exact push_push acc e n _ 1
theorem form_units : ∀ (xs : List Stp) (acc : List Stp), Pos1 xs → ((U xs).map u1).foldl push acc = xs.foldl push acc
  | [], acc, _ => rfl
  | (e, n, l) :: xs, acc, h => by
    rw [U_cons, List.map_append, List.foldl_append]
    have h1 : 1 ≤ l := h (e, n, l) (by simp)
    have h2 := fold_units e n (l - 1).toNat acc
    rw [show (((l - 1).toNat : Nat) : Int) + 1 = l by omega] at h2
    rw [h2, form_units xs _ fun s hs => h s (by simp [hs])]
    rfl
theorem oneForm_units {xs : List Stp} (h : Pos1 xs) : oneForm ((U xs).map u1) = oneForm xs := form_units xs [] h
theorem pos_push {acc : List Stp} {s : Stp} (h : Pos1 acc) (hs : 1 ≤ s.2.2) : Pos1 (push acc s) := by
  rcases snoc_or acc with rfl | ⟨ys, z, rfl⟩
  · intro t ht
    rw [push_nil, List.mem_singleton] at ht
    rw [ht]; exact hs
  · have hz : 1 ≤ z.2.2 := h z (by simp)
    intro t ht
    rw [push_snoc] at ht
    split at ht
    · rcases List.mem_append.mp ht with ht | ht
      · exact h t (by simp [ht])
      · rw [List.mem_singleton] at ht
        rw [ht]
        dsimp only
        omega
    · rcases List.mem_append.mp ht with ht | ht
      · exact h t ht
      · rw [List.mem_singleton] at ht
        rw [ht]; exact hs
theorem U_push {acc : List Stp} {s : Stp} (h : Pos1 acc) (hs : 1 ≤ s.2.2) : U (push acc s) = U acc ++ unitsOf s := by
  rcases snoc_or acc with rfl | ⟨ys, z, rfl⟩
  · rw [push_nil, U_cons, U_nil]; simp
  · have hz : 1 ≤ z.2.2 := h z (by simp)
    rw [push_snoc]
    obtain ⟨a, b, c⟩ := z
    obtain ⟨e, n, l⟩ := s
    dsimp only at *
    split
    · rename_i q
      rw [U_append, U_append, U_cons, U_cons, U_nil, units_add (by omega) (by omega), q.1, q.2]
      simp
    · rw [U_append, U_cons, U_nil]
      simp
theorem fold_push : ∀ (xs acc : List Stp), Pos1 xs → Pos1 acc → Pos1 (xs.foldl push acc) ∧ U (xs.foldl push acc) = U acc ++ U xs
  | [], acc, _, h => ⟨h, by rw [U_nil]; simp⟩
  | s :: xs, acc, h1, h2 => by
    have hs := h1 s (by simp)
    obtain ⟨a, b⟩ := fold_push xs (push acc s) (fun t ht => h1 t (by simp [ht])) (pos_push h2 hs)
    refine ⟨a, ?_⟩
    rw [List.foldl_cons, b, U_push h2 hs, U_cons]
    simp
theorem pos_nil : Pos1 [] := fun _ h => by cases h
theorem pos_oneForm {xs : List Stp} (h : Pos1 xs) : Pos1 (oneForm xs) := (fold_push xs [] h pos_nil).1
theorem U_oneForm {xs : List Stp} (h : Pos1 xs) : U (oneForm xs) = U xs := by
  have := (fold_push xs [] h pos_nil).2
  rw [U_nil, List.nil_append] at this
  exact this
/-- the one form is told by the units -/
theorem oneForm_of_U {xs ys : List Stp} (hx : Pos1 xs) (hy : Pos1 ys) (h : U xs = U ys) : oneForm xs = oneForm ys := by
  rw [← oneForm_units hx, ← oneForm_units hy, h]
theorem oneForm_oneForm {xs : List Stp} (h : Pos1 xs) : oneForm (oneForm xs) = oneForm xs := oneForm_of_U (pos_oneForm h) h (U_oneForm h)
theorem push_len (acc : List Stp) (s : Stp) : (push acc s).length ≤ acc.length + 1 := by
  rcases snoc_or acc with rfl | ⟨ys, z, rfl⟩
  · simp [push_nil]
  · rw [push_snoc]
    split <;> simp
theorem fold_len : ∀ (xs acc : List Stp), (xs.foldl push acc).length ≤ acc.length + xs.length
  | [], acc => by simp
  | s :: xs, acc => by
    have h1 := fold_len xs (push acc s)
    have h2 := push_len acc s
    rw [List.foldl_cons, List.length_cons]
    omega
theorem oneForm_len (xs : List Stp) : (oneForm xs).length ≤ xs.length := by
  have := fold_len xs []
  simpa [oneForm] using this
theorem len_U : ∀ {xs : List Stp}, Pos1 xs → xs.length ≤ (U xs).length
  | [], _ => by simp
  | s :: xs, h => by
    have h1 := h s (by simp)
    have h2 := len_U (xs := xs) fun t ht => h t (by simp [ht])
    rw [U_cons, List.length_append, List.length_cons]
    have h3 : 1 ≤ (unitsOf s).length := by
      unfold unitsOf
      rw [List.length_map, List.length_range]
      omega
    omega
/-! ### sorted lists -/
theorem sorted_ext : ∀ {xs ys : List (Int × Int)}, xs.Pairwise (fun p q => p.1 < q.1) → ys.Pairwise (fun p q => p.1 < q.1) → (∀ p, p ∈ xs ↔ p ∈ ys) → xs = ys
  | [], [], _, _, _ => rfl
  | [], y :: ys, _, _, h => absurd ((h y).mpr (by simp)) (by simp)
  | x :: xs, [], _, _, h => absurd ((h x).mp (by simp)) (by simp)
  | x :: xs, y :: ys, hx, hy, h => by
    rw [List.pairwise_cons] at hx hy
    have e : x = y := by
      rcases List.mem_cons.mp ((h x).mp (by simp)) with e | m1
      · exact e
      · rcases List.mem_cons.mp ((h y).mpr (by simp)) with e | m2
        · exact e.symm
        · have a := hy.1 x m1
          have b := hx.1 y m2
          omega
    subst e
    rw [sorted_ext hx.2 hy.2 fun p => ?_]
    constructor
    · intro hp
      rcases List.mem_cons.mp ((h p).mp (by simp [hp])) with e | m
      · subst e
        have := hx.1 p hp
        omega
      · exact m
    · intro hp
      rcases List.mem_cons.mp ((h p).mpr (by simp [hp])) with e | m
      · subst e
        have := hy.1 p hp
        omega
      · exact m
theorem Rise.fst {ps : List (Int × Int)} (h : Rise ps) : ps.Pairwise (fun p q => p.1 < q.1) := List.Pairwise.imp (fun h => h.1) h
theorem rise_units (s : Stp) : Rise (unitsOf s) := by
  unfold Rise unitsOf
  rw [List.pairwise_map]
  refine List.Pairwise.imp ?_ (List.pairwise_lt_range (n := s.2.2.toNat))
  intro a b hab
  dsimp only
  omega
/-! ### cut at both ends -/
def clip (s : Stp) (a b : Int) : List Stp := if max s.1 a < min (s.1 + s.2.2) b then [(max s.1 a, s.2.1 + max s.1 a - s.1, min (s.1 + s.2.2) b - max s.1 a)] else []
def inR (a b : Int) (p : Int × Int) : Bool := decide (a ≤ p.1 ∧ p.1 < b)
theorem pos_clip (s : Stp) (a b : Int) : Pos1 (clip s a b) := by
  intro t ht
  unfold clip at ht
  split at ht
  · rw [List.mem_singleton] at ht
    rw [ht]
    dsimp only
    omega
  · cases ht
theorem U_clip (s : Stp) (a b : Int) : U (clip s a b) = (unitsOf s).filter (inR a b) := by
  refine sorted_ext ?_ (List.Pairwise.filter _ (rise_units s).fst) fun p => ?_
  · unfold clip
    split
    · rw [U_cons, U_nil, List.append_nil]
      exact (rise_units _).fst
    · exact List.Pairwise.nil
  · rw [List.mem_filter, mem_units]
    unfold clip inR
    obtain ⟨e, n, l⟩ := s
    obtain ⟨x, y⟩ := p
    dsimp only
    rw [decide_eq_true_iff]
    split
    · rw [U_cons, U_nil, List.append_nil, mem_units]
      dsimp only
      omega
    · rw [U_nil]
      simp only [List.not_mem_nil, false_iff]
      omega
def cutS (xs : List Stp) (a b : Int) : List Stp := xs.flatMap fun s => clip s a b
theorem pos_cut (xs : List Stp) (a b : Int) : Pos1 (cutS xs a b) := fun t ht => by
  obtain ⟨s, _, h⟩ := List.mem_flatMap.mp ht
  exact pos_clip s a b t h
theorem U_cut (a b : Int) : ∀ xs : List Stp, U (cutS xs a b) = (U xs).filter (inR a b)
  | [] => rfl
  | s :: xs => by
    have ih := U_cut a b xs
    unfold cutS at ih ⊢
    rw [List.flatMap_cons, U_append, ih, U_clip, U_cons, List.filter_append]
def lim (xs : List Stp) (a b : Int) : List Stp := oneForm (cutS xs a b)
theorem U_lim (xs : List Stp) (a b : Int) : U (lim xs a b) = (U xs).filter (inR a b) := by
  unfold lim
  rw [U_oneForm (pos_cut xs a b), U_cut]
theorem pos_lim (xs : List Stp) (a b : Int) : Pos1 (lim xs a b) := pos_oneForm (pos_cut xs a b)
theorem clip_len (s : Stp) (a b : Int) : (clip s a b).length ≤ 1 := by unfold clip; split <;> simp
theorem cut_len (a b : Int) : ∀ xs : List Stp, (cutS xs a b).length ≤ xs.length
  | [] => by simp [cutS]
  | s :: xs => by
    have h1 := cut_len a b xs
    have h2 := clip_len s a b
    unfold cutS at h1 ⊢
    rw [List.flatMap_cons, List.length_append, List.length_cons]
    omega
/-! ### a stair's steps rise -/
def goesUp (a b : Stp) : Bool := decide (a.1 + a.2.2 ≤ b.1) && decide (a.2.1 + a.2.2 ≤ b.2.1)
def Steps : List Stp → Prop
  | [] => True
  | [s] => 1 ≤ s.2.2
  | s :: t :: r => 1 ≤ s.2.2 ∧ goesUp s t = true ∧ Steps (t :: r)
theorem steps_of : ∀ {xs : List Stp}, Pos1 xs → Rise (U xs) → Steps xs
  | [], _, _ => trivial
  | [s], h, _ => h s (by simp)
  | s :: t :: r, h, hr => by
    have hs := h s (by simp)
    have ht := h t (by simp)
    rw [U_cons] at hr
    unfold Rise at hr
    rw [List.pairwise_append] at hr
    refine ⟨hs, ?_, steps_of (fun x hx => h x (by simp at hx ⊢; exact .inr hx)) hr.2.1⟩
    have m1 : (s.1 + s.2.2 - 1, s.2.1 + s.2.2 - 1) ∈ unitsOf s := mem_units.mpr ⟨by dsimp only; omega, by dsimp only; omega, by dsimp only; omega⟩
    have m2 : (t.1, t.2.1) ∈ U (t :: r) := by
      rw [U_cons]
      exact List.mem_append_left _ (mem_units.mpr ⟨by dsimp only; omega, by dsimp only; omega, rfl⟩)
    have q := hr.2.2 _ m1 _ m2
    dsimp only at q
    unfold goesUp
    simp only [Bool.and_eq_true, decide_eq_true_eq]
    omega
/-! ### ranges -/
abbrev Pr := Int × Int
def pushR (acc : List Pr) (m : Int) : List Pr := match acc.getLast? with
  | some z => if z.2 = m then acc.dropLast ++ [(z.1, m + 1)] else acc ++ [(m, m + 1)]
  | none => [(m, m + 1)]
def pushG (acc : List Pr) (n e : Int) : List Pr := match acc.getLast? with
  | some z => if z.2 = n then acc.dropLast ++ [(z.1, e)] else acc ++ [(n, e)]
  | none => [(n, e)]
def pushJ (acc : List Pr) (p : Pr) : List Pr := match acc.getLast? with
  | some z => if p.1 ≤ z.2 then acc.dropLast ++ [(z.1, max z.2 p.2)] else acc ++ [p]
  | none => [p]
theorem pushR_nil (m : Int) : pushR [] m = [(m, m + 1)] := rfl
theorem pushR_snoc (ys : List Pr) (z : Pr) (m : Int) : pushR (ys ++ [z]) m = if z.2 = m then ys ++ [(z.1, m + 1)] else ys ++ [z] ++ [(m, m + 1)] := by
  unfold pushR
  simp
theorem pushG_nil (n e : Int) : pushG [] n e = [(n, e)] := rfl
theorem pushG_snoc (ys : List Pr) (z : Pr) (n e : Int) : pushG (ys ++ [z]) n e = if z.2 = n then ys ++ [(z.1, e)] else ys ++ [z] ++ [(n, e)] := by
  unfold pushG
  simp
theorem pushJ_nil (p : Pr) : pushJ [] p = [p] := rfl
theorem pushJ_snoc (ys : List Pr) (z p : Pr) : pushJ (ys ++ [z]) p = if p.1 ≤ z.2 then ys ++ [(z.1, max z.2 p.2)] else ys ++ [z] ++ [p] := by
  unfold pushJ
  simp
/-- the last range ends at m or below -/
def EndLe (acc : List Pr) (m : Int) : Prop := ∀ z, acc.getLast? = some z → z.2 ≤ m
theorem endLe_nil (m : Int) : EndLe [] m := fun z h => by cases h
theorem endLe_snoc {ys : List Pr} {z : Pr} {m : Int} : EndLe (ys ++ [z]) m ↔ z.2 ≤ m := by
  unfold EndLe
  simp
theorem endLe_pushG (acc : List Pr) (n e m : Int) : EndLe (pushG acc n e) m ↔ e ≤ m := by
  rcases snoc_or acc with rfl | ⟨ys, z, rfl⟩
  · rw [pushG_nil, show [(n, e)] = ([] : List Pr) ++ [(n, e)] from rfl, endLe_snoc]
  · rw [pushG_snoc]
    split
    · rw [endLe_snoc]
    · rw [endLe_snoc]
theorem pushJ_eq {acc : List Pr} {n e : Int} (h : EndLe acc n) (he : n ≤ e) : pushJ acc (n, e) = pushG acc n e := by
  rcases snoc_or acc with rfl | ⟨ys, z, rfl⟩
  · rfl
  · rw [endLe_snoc] at h
    rw [pushJ_snoc, pushG_snoc]
    dsimp only
    by_cases hz : z.2 = n
    · rw [if_pos (by omega), if_pos hz, show max z.2 e = e by omega]
    · rw [if_neg (by omega), if_neg hz]
def runI (lo : Int) (n : Nat) : List Int := (List.range n).map fun (i : Nat) => lo + (i : Int)
theorem runI_succ (lo : Int) (n : Nat) : runI lo (n + 1) = runI lo n ++ [lo + (n : Int)] := by
  unfold runI
  rw [List.range_succ, List.map_append]
  rfl
theorem runI_add (lo : Int) (n m : Nat) : runI lo (n + m) = runI lo n ++ runI (lo + (n : Int)) m := by
  unfold runI
  rw [List.range_add, List.map_append, List.map_map]
  congr 1
  refine List.map_congr_left fun i _ => ?_
  simp only [Function.comp_apply]
  omega
theorem mem_runI {lo : Int} {n : Nat} {m : Int} : m ∈ runI lo n ↔ lo ≤ m ∧ m < lo + (n : Int) := by
  unfold runI
  rw [List.mem_map]
  constructor
  · rintro ⟨i, hi, h⟩
    rw [List.mem_range] at hi
    omega
  · rintro ⟨h1, h2⟩
    exact ⟨(m - lo).toNat, List.mem_range.mpr (by omega), by omega⟩
theorem fold_run (lo : Int) : ∀ (n : Nat) (acc : List Pr), (runI lo (n + 1)).foldl pushR acc = pushG acc lo (lo + (n : Int) + 1)
  | 0, acc => by
    rcases snoc_or acc with rfl | ⟨ys, z, rfl⟩
    · simp [runI, pushR, pushG]
    · simp [runI, pushR, pushG]
  | n + 1, acc => by
    rw [runI_succ, List.foldl_append, fold_run lo n acc]
    rcases snoc_or acc with rfl | ⟨ys, z, rfl⟩
    · rw [pushG_nil, pushG_nil]
      simp [pushR]
      omega
    · rw [pushG_snoc, pushG_snoc]
      split
      · rw [List.foldl_cons, List.foldl_nil, pushR_snoc, if_pos (by dsimp only; omega)]
        try simp
        try omega
      · rw [List.foldl_cons, List.foldl_nil, pushR_snoc, if_pos (by dsimp only; omega)]
        try simp
        try omega
theorem units_snd (s : Stp) : (unitsOf s).map (·.2) = runI s.2.1 s.2.2.toNat := by
  unfold unitsOf runI
  rw [List.map_map]
  rfl
theorem units_fst (s : Stp) : (unitsOf s).map (·.1) = runI s.1 s.2.2.toNat := by
  unfold unitsOf runI
  rw [List.map_map]
  rfl
/-- the ranges that a rising stair carries to -/
theorem joined_eq : ∀ (xs : List Stp) (acc : List Pr), Pos1 xs → Rise (U xs) → (∀ p ∈ U xs, EndLe acc p.2) → (xs.map fun s => (s.2.1, s.2.1 + s.2.2)).foldl pushJ acc = ((U xs).map (·.2)).foldl pushR acc
  | [], acc, _, _, _ => rfl
  | s :: xs, acc, h, hr, hE => by
    have hs := h s (by simp)
    rw [U_cons] at hr hE ⊢
    unfold Rise at hr
    rw [List.pairwise_append] at hr
    have m1 : (s.1, s.2.1) ∈ unitsOf s := mem_units.mpr ⟨by dsimp only; omega, by dsimp only; omega, rfl⟩
    have m2 : (s.1 + s.2.2 - 1, s.2.1 + s.2.2 - 1) ∈ unitsOf s := mem_units.mpr ⟨by dsimp only; omega, by dsimp only; omega, by dsimp only; omega⟩
    have e1 := hE _ (List.mem_append_left _ m1)
    dsimp only at e1
    rw [List.map_cons, List.foldl_cons, pushJ_eq e1 (by omega), List.map_append, List.foldl_append, units_snd]
    have e2 := fold_run s.2.1 (s.2.2 - 1).toNat acc
    rw [show (s.2.2 - 1).toNat + 1 = s.2.2.toNat by omega, show s.2.1 + (((s.2.2 - 1).toNat : Nat) : Int) + 1 = s.2.1 + s.2.2 by omega] at e2
    rw [e2]
    refine joined_eq xs _ (fun t ht => h t (by simp [ht])) hr.2.1 fun p hp => ?_
    rw [endLe_pushG]
    have q := hr.2.2 _ m2 p hp
    dsimp only at q
    omega
/-- the gaps -/
def gapS (st : List Pr × Int) (s : Stp) : List Pr × Int := (if st.2 < s.1 then st.1 ++ [(st.2, s.1)] else st.1, s.1 + s.2.2)
def gapE (st : List Pr × Int) (b : Int) : List Pr := st.1 ++ if st.2 < b then [(st.2, b)] else []
def EndLt (acc : List Pr) (m : Int) : Prop := ∀ z, acc.getLast? = some z → z.2 < m
theorem pushG_lt {acc : List Pr} {n e : Int} (h : EndLt acc n) : pushG acc n e = acc ++ [(n, e)] := by
  rcases snoc_or acc with rfl | ⟨ys, z, rfl⟩
  · rfl
  · have : z.2 < n := h z (by simp)
    rw [pushG_snoc, if_neg (by omega)]
theorem fold_gap {acc : List Pr} {lo hi : Int} (h : EndLt acc lo) (hh : lo ≤ hi) : (runI lo (hi - lo).toNat).foldl pushR acc = if lo < hi then acc ++ [(lo, hi)] else acc := by
  by_cases e : lo < hi
  · rw [if_pos e]
    have q := fold_run lo (hi - lo - 1).toNat acc
    rw [show (hi - lo - 1).toNat + 1 = (hi - lo).toNat by omega, show lo + (((hi - lo - 1).toNat : Nat) : Int) + 1 = hi by omega] at q
    rw [q, pushG_lt h]
  · rw [if_neg e, show (hi - lo).toNat = 0 by omega]
    rfl
theorem gaps_eq (hi : Int) : ∀ (xs : List Stp) (acc : List Pr) (here : Int), Pos1 xs → Rise (U xs) → (∀ p ∈ U xs, here ≤ p.1 ∧ p.1 < hi) → here ≤ hi → EndLt acc here →
    ((runI here (hi - here).toNat).filter fun m => decide (m ∉ (U xs).map (·.1))).foldl pushR acc = gapE (xs.foldl gapS (acc, here)) hi
  | [], acc, here, _, _, _, hh, hE => by
    rw [U_nil]
    rw [List.filter_eq_self.mpr (fun m _ => by simp), List.foldl_nil, fold_gap hE hh]
    unfold gapE
    dsimp only
    split <;> simp
  | s :: xs, acc, here, h, hr, hI, hh, hE => by
    have hs := h s (by simp)
    rw [U_cons] at hr hI ⊢
    unfold Rise at hr
    rw [List.pairwise_append] at hr
    have m1 : (s.1, s.2.1) ∈ unitsOf s := mem_units.mpr ⟨by dsimp only; omega, by dsimp only; omega, rfl⟩
    have m2 : (s.1 + s.2.2 - 1, s.2.1 + s.2.2 - 1) ∈ unitsOf s := mem_units.mpr ⟨by dsimp only; omega, by dsimp only; omega, by dsimp only; omega⟩
    have i1 := hI _ (List.mem_append_left _ m1)
    have i2 := hI _ (List.mem_append_left _ m2)
    dsimp only at i1 i2
    rw [show (hi - here).toNat = (s.1 - here).toNat + (s.2.2.toNat + (hi - (s.1 + s.2.2)).toNat) by omega, runI_add, runI_add, List.filter_append, List.filter_append]
    rw [show here + ((s.1 - here).toNat : Int) = s.1 by omega, show s.1 + (s.2.2.toNat : Int) = s.1 + s.2.2 by omega]
    have f1 : ((runI here (s.1 - here).toNat).filter fun m => decide (m ∉ (unitsOf s ++ U xs).map (·.1))) = runI here (s.1 - here).toNat := by
      rw [List.filter_eq_self]
      intro m hm
      rw [mem_runI] at hm
      rw [decide_eq_true_iff, List.mem_map]
      rintro ⟨p, hp, rfl⟩
      rcases List.mem_append.mp hp with hp | hp
      · rw [mem_units] at hp
        omega
      · have := (hr.2.2 _ m1 p hp).1
        dsimp only at this
        omega
    have f2 : ((runI s.1 s.2.2.toNat).filter fun m => decide (m ∉ (unitsOf s ++ U xs).map (·.1))) = [] := by
      rw [List.filter_eq_nil_iff]
      intro m hm
      rw [decide_eq_true_iff, Classical.not_not, List.map_append]
      refine List.mem_append_left _ ?_
      rw [units_fst]
      exact hm
    have f3 : ((runI (s.1 + s.2.2) (hi - (s.1 + s.2.2)).toNat).filter fun m => decide (m ∉ (unitsOf s ++ U xs).map (·.1))) = ((runI (s.1 + s.2.2) (hi - (s.1 + s.2.2)).toNat).filter fun m => decide (m ∉ (U xs).map (·.1))) := by
      refine List.filter_congr fun m hm => ?_
      rw [mem_runI] at hm
      rw [decide_eq_decide, List.map_append, List.mem_append, units_fst, mem_runI]
      constructor
      · exact fun h1 h2 => h1 (.inr h2)
      · rintro h1 (h2 | h2)
        · omega
        · exact h1 h2
    rw [f1, f2, f3, List.nil_append, List.foldl_append, fold_gap hE i1.1, List.foldl_cons]
    have e3 : gapS (acc, here) s = (if here < s.1 then acc ++ [(here, s.1)] else acc, s.1 + s.2.2) := rfl
    rw [e3]
    refine gaps_eq hi xs _ _ (fun t ht => h t (by simp [ht])) hr.2.1 (fun p hp => ⟨?_, (hI p (List.mem_append_right _ hp)).2⟩) (by omega) fun z hz => ?_
    · have := (hr.2.2 _ m2 p hp).1
      dsimp only at this
      omega
    · split at hz
      · simp at hz
        rw [← hz]
        dsimp only
        omega
      · have := hE z hz
        omega
end Stairs


set_option Elab.async false
set_option linter.all false
set_option maxRecDepth 100000
set_option maxHeartbeats 4000000
namespace K13
open PySem PySem.Spec PyProof.Rows L2 Dn
def top (i : Nat) : Stmt := PySem.Challenge.pw_roadstairs_k13_ranges_carried_and_cut.main.body.getD i (.Pass ⟨0, 0, 0, 0⟩)
abbrev CL : List Str := ["Stair", "RightSteps"]
abbrev FnP (K : PySem.W.Frag) (x q : Str) (st : Stmt) (f : Addr) (fd : FuncData) : Prop := FunD K x q (defArgs st) (defBody st) (defScope st) [] [] f fd
structure Hd (K : PySem.W.Frag) (mg : Str → Option Value) : Prop where
  g_isinstance : mg "isinstance" = none
  isa : IsaF K CL
  g_int : mg "int" = none
  g_bool : mg "bool" = none
  g_list : mg "list" = none
  g_tuple : mg "tuple" = none
  g_sorted : mg "sorted" = none
  g_max : mg "max" = none
  g_len : mg "len" = none
  g_all : mg "all" = none
  g_enumerate : mg "enumerate" = none
  g_min : mg "min" = none
  c_RightSteps : Cls K (cad K "RightSteps")
  n_RightSteps_told_steps : NoAttr K (cad K "RightSteps") "told_steps"
  m_RightSteps : mg "RightSteps" = some (.ref (cad K "RightSteps"))
  c_Stair : Cls K (cad K "Stair")
  n_Stair_own_steps : NoAttr K (cad K "Stair") "own_steps"
  cv_Stair_MOST_STEPS : CvE K "Stair" "MOST_STEPS" 60
  m_Stair : mg "Stair" = some (.ref (cad K "Stair"))
  g_abs : mg "abs" = none
  g_divmod : mg "divmod" = none
  g_range : mg "range" = none
  g_dict : mg "dict" = none
variable {P : Program} {w : World} {K : PySem.W.Frag} {mg : Str → Option Value} {base : Heap}
abbrev s_is_integer : Stmt := top 9
theorem sc_is_integer : FnScope ["value"] ["value"] (defScope s_is_integer) := ⟨rfl, rfl, rfl, by decide +kernel, rfl, by decide +kernel, by decide +kernel⟩
-- slots: 0 value
def b_is_integer : DenS := (sRet (fAndV (fIs (isB CL "int") (fVar 0)) (fNotV (fIs (isB CL "bool") (fVar 0)))))
def F_is_integer : FD := clean (fnD 1 b_is_integer)
theorem ok_is_integer {f : Addr} {fd : FuncData} (hd : Hd K mg) (F : FnP K "is_integer" "is_integer" s_is_integer f fd) : FnOk P w K mg base (L2.CX P w) 1 f fd ["value"] (spD K 1 F_is_integer) :=
  FnOk.clean (fn_def F sc_is_integer fun cdv A outer s H E hr => (ds_one (ds_ret (de_and (de_isB (T' := "int") hd.isa (de_var 0) hd.g_isinstance hd.g_int bt_int) (de_one (de_not (de_isB (T' := "bool") hd.isa (de_var 0) hd.g_isinstance hd.g_bool bt_bool)))))))
abbrev s_is_list : Stmt := top 10
theorem sc_is_list : FnScope ["value"] ["value"] (defScope s_is_list) := ⟨rfl, rfl, rfl, by decide +kernel, rfl, by decide +kernel, by decide +kernel⟩
-- slots: 0 value
def b_is_list : DenS := (sRet (fIs (isB2 CL "list" "tuple") (fVar 0)))
def F_is_list : FD := clean (fnD 1 b_is_list)
theorem ok_is_list {f : Addr} {fd : FuncData} (hd : Hd K mg) (F : FnP K "is_list" "is_list" s_is_list f fd) : FnOk P w K mg base (L2.CX P w) 1 f fd ["value"] (spD K 1 F_is_list) :=
  FnOk.clean (fn_def F sc_is_list fun cdv A outer s H E hr => (ds_one (ds_ret (de_isB2 (T' := "list") (T2' := "tuple") hd.isa (de_var 0) hd.g_isinstance hd.g_list hd.g_tuple bt_list bt_tuple))))
abbrev s_want_range : Stmt := top 11
theorem sc_want_range : FnScope ["first", "end"] ["first", "end"] (defScope s_want_range) := ⟨rfl, rfl, rfl, by decide +kernel, rfl, by decide +kernel, by decide +kernel⟩
-- slots: 0 first, 1 end
def b_want_range : DenS := (sIf (fOr (fNot (fT (fCall 1 F_is_integer (fCons (fVar 0) fNil)))) (fOr (fNot (fT (fCall 1 F_is_integer (fCons (fVar 1) fNil)))) (fT (fBin dGe (fVar 0) (fVar 1))))) sNever sSkip)
def F_want_range : FD := clean (fnD 2 b_want_range)
theorem ok_want_range {f : Addr} {fd : FuncData} (hd : Hd K mg) (G_is_integer : FnG P w K mg base "is_integer" ["value"] 1 F_is_integer) (F : FnP K "want_range" "want_range" s_want_range f fd) : FnOk P w K mg base (L2.CX P w) 2 f fd ["first", "end"] (spD K 2 F_want_range) :=
  FnOk.clean (fn_def F sc_want_range fun cdv A outer s H E hr => (ds_one (ds_if (dt_w (dw_or (dt_not (dt_val (de_callN G_is_integer (hr.mono (by omega)) hx_of (da_cons (de_var 0) da_nil)))) (dw_or (dt_not (dt_val (de_callN G_is_integer (hr.mono (by omega)) hx_of (da_cons (de_var 1) da_nil)))) (dw_or1 (dt_ge (de_var 0) (de_var 1)))))) (ds_one ds_never) ds_nil)))
abbrev s_joined_ranges : Stmt := top 12
theorem sc_joined_ranges : FnScope ["ranges", "found", "first", "end"] ["ranges"] (defScope s_joined_ranges) := ⟨rfl, rfl, rfl, by decide +kernel, rfl, by decide +kernel, by decide +kernel⟩
-- slots: 0 ranges, 1 found, 2 first, 3 end
def b_joined_ranges_for : DenS := (sIf (fAnd (fT (fBin dNe (fVar 1) (fLst fNil))) (fT (fBin dLe (fVar 2) (fBin dIx (fBin dIx (fVar 1) (fUn dNeg (fC (.int 1)))) (fC (.int 1)))))) (sSetIx (fVar 1) (fUn dNeg (fC (.int 1))) (fTup (fCons (fBin dIx (fBin dIx (fVar 1) (fUn dNeg (fC (.int 1)))) (fC (.int 0))) (fCons (fCB dMax (fCons (fBin dIx (fBin dIx (fVar 1) (fUn dNeg (fC (.int 1)))) (fC (.int 1))) (fCons (fVar 3) fNil))) fNil)))) (sExp (fMt chkL mAppend (fVar 1) (fCons (fTup (fCons (fVar 2) (fCons (fVar 3) fNil))) fNil))))
def b_joined_ranges : DenS := (sSeq (sSet 1 (fLstC fNil)) (sSeq (sFor (fSeq (fCB dSortP (fCons (fVar 0) fNil))) (gT 2 (gCons (gN 2) (gCons (gN 3) gNil))) b_joined_ranges_for) (sRet (fVar 1))))
def F_joined_ranges : FD := (fnD 4 b_joined_ranges)
theorem ok_joined_ranges {f : Addr} {fd : FuncData} (hd : Hd K mg) (F : FnP K "joined_ranges" "joined_ranges" s_joined_ranges f fd) : FnOk P w K mg base (L2.CX P w) 1 f fd ["ranges"] (spD K 1 F_joined_ranges) :=
  (fn_def F sc_joined_ranges fun cdv A outer s H E hr => (ds_cons (by exact (ds_set 1 sc_joined_ranges.nd (de_lstC da_nil))) (by exact (ds_cons (by exact (ds_for hp_of rfl (di_seq (de_callB cr_sortedPO cd_sortP hd.g_sorted bt_sorted (da_cons (de_var 0) da_nil))) (dg_t rfl (dgs_cons (dg_n 2 sc_joined_ranges.nd) (dgs_cons (dg_n 3 sc_joined_ranges.nd) dgs_nil))) (ds_one (ds_if (dt_w (dw_and (dt_ne hr (de_var 1) (de_lst da_nil)) (dw_and1 (dt_le (de_var 2) (de_sq (de_sq (de_var 1) (de_neg de_int)) de_int))))) (ds_one (ds_setix (de_tup (da_cons (de_sq (de_sq (de_var 1) (de_neg de_int)) de_int) (da_cons (de_callB (call_max2 rfl) cd_max hd.g_max bt_max (da_cons (de_sq (de_sq (de_var 1) (de_neg de_int)) de_int) (da_cons (de_var 3) da_nil))) da_nil))) (de_var 1) (de_neg de_int))) (ds_one (ds_exp (de_append (de_var 1) (da_cons (de_tup (da_cons (de_var 2) (da_cons (de_var 3) da_nil))) da_nil)))))))) (by exact (ds_one (ds_ret (de_var 1))))))))
abbrev s_is_step : Stmt := top 14
theorem sc_is_step : FnScope ["value", "part"] ["value"] (defScope s_is_step) := ⟨rfl, rfl, rfl, by decide +kernel, rfl, by decide +kernel, by decide +kernel⟩
-- slots: 0 value, 1 part
def b_is_step : DenS := (sSeq (sIf (fOr (fNot (fT (fIs (isB CL "tuple") (fVar 0)))) (fOr (fT (fBin dNe (fCB dLen (fCons (fVar 0) fNil)) (fC (.int 3)))) (fNot (fT (fCB dAll (fCons (fLc (fSeq (fVar 0)) (.nm 1) (fC true) (fCall 1 F_is_integer (fCons (fVar 1) fNil)) [1]) fNil)))))) (sRet (fC (.bl false))) sSkip) (sRet (fBin dGe (fBin dIx (fVar 0) (fC (.int 2))) (fC (.int 1)))))
def F_is_step : FD := clean (fnD 2 b_is_step)
theorem ok_is_step {f : Addr} {fd : FuncData} (hd : Hd K mg) (G_is_integer : FnG P w K mg base "is_integer" ["value"] 1 F_is_integer) (F : FnP K "is_step" "is_step" s_is_step f fd) : FnOk P w K mg base (L2.CX P w) 2 f fd ["value"] (spD K 1 F_is_step) :=
  FnOk.clean (fn_def F sc_is_step fun cdv A outer s H E hr => (ds_cons (by exact (ds_if (dt_w (dw_or (dt_not (dt_val (de_isB (T' := "tuple") hd.isa (de_var 0) hd.g_isinstance hd.g_tuple bt_tuple))) (dw_or (dt_ne hr (de_callB call_len cd_len hd.g_len bt_len (da_cons (de_var 0) da_nil)) de_int) (dw_or1 (dt_not (dt_val (de_callB (cr_all rfl) cd_all hd.g_all bt_all (da_cons (de_lc (own := [("part", 1)]) (t := (.nm 1)) (ft := (fC true)) (fe := (fCall 1 F_is_integer (fCons (fVar 1) fNil))) rfl sc_is_step.nd (di_seq (de_var 0)) (blkOk_by rfl) (by decide) (by exact fun _ _ _ _ _ => (pg_nm 1 sc_is_step.nd)) (by exact fun _ _ _ _ _ => dts_nil) (by exact fun _ _ _ _ _ => (de_callN G_is_integer (hr.mono (by omega)) pass00 (da_cons (de_var 1) da_nil)))) da_nil)))))))) (ds_one (ds_ret de_bl)) ds_nil)) (by exact (ds_one (ds_ret (de_ge (de_sq (de_var 0) de_int) de_int))))))
abbrev s_does_rise : Stmt := top 15
theorem sc_does_rise : FnScope ["before", "step"] ["before", "step"] (defScope s_does_rise) := ⟨rfl, rfl, rfl, by decide +kernel, rfl, by decide +kernel, by decide +kernel⟩
-- slots: 0 before, 1 step
def b_does_rise : DenS := (sRet (fAndV (fBin dGe (fBin dIx (fVar 1) (fC (.int 0))) (fBin dAdd (fBin dIx (fVar 0) (fC (.int 0))) (fBin dIx (fVar 0) (fC (.int 2))))) (fBin dGe (fBin dIx (fVar 1) (fC (.int 1))) (fBin dAdd (fBin dIx (fVar 0) (fC (.int 1))) (fBin dIx (fVar 0) (fC (.int 2)))))))
def F_does_rise : FD := clean (fnD 2 b_does_rise)
theorem ok_does_rise {f : Addr} {fd : FuncData} (hd : Hd K mg) (F : FnP K "does_rise" "does_rise" s_does_rise f fd) : FnOk P w K mg base (L2.CX P w) 1 f fd ["before", "step"] (spD K 2 F_does_rise) :=
  FnOk.clean (fn_def F sc_does_rise fun cdv A outer s H E hr => (ds_one (ds_ret (de_and (de_ge (de_sq (de_var 1) de_int) (de_add (de_sq (de_var 0) de_int) (de_sq (de_var 0) de_int))) (de_one (de_ge (de_sq (de_var 1) de_int) (de_add (de_sq (de_var 0) de_int) (de_sq (de_var 0) de_int))))))))
abbrev s_want_steps : Stmt := top 16
theorem sc_want_steps : FnScope ["steps", "position", "step"] ["steps"] (defScope s_want_steps) := ⟨rfl, rfl, rfl, by decide +kernel, rfl, by decide +kernel, by decide +kernel⟩
-- slots: 0 steps, 1 position, 2 step
def b_want_steps_for : DenS := (sIf (fOr (fNot (fT (fCall 1 F_is_step (fCons (fVar 2) fNil)))) (fAnd (fT (fBin dGt (fVar 1) (fC (.int 0)))) (fNot (fT (fCall 2 F_does_rise (fCons (fBin dIx (fVar 0) (fBin dSub (fVar 1) (fC (.int 1)))) (fCons (fVar 2) fNil))))))) sNever sSkip)
def b_want_steps : DenS := (sSeq (sIf (fNot (fT (fCall 1 F_is_list (fCons (fVar 0) fNil)))) sNever sSkip) (sFor (fEnum (fCons (fVar 0) fNil)) (gT 2 (gCons (gN 1) (gCons (gN 2) gNil))) b_want_steps_for))
def F_want_steps : FD := clean (fnD 3 b_want_steps)
theorem ok_want_steps {f : Addr} {fd : FuncData} (hd : Hd K mg) (G_is_list : FnG P w K mg base "is_list" ["value"] 1 F_is_list) (G_is_step : FnG P w K mg base "is_step" ["value"] 2 F_is_step) (G_does_rise : FnG P w K mg base "does_rise" ["before", "step"] 1 F_does_rise) (F : FnP K "want_steps" "want_steps" s_want_steps f fd) : FnOk P w K mg base (L2.CX P w) 3 f fd ["steps"] (spD K 1 F_want_steps) :=
  FnOk.clean (fn_def F sc_want_steps fun cdv A outer s H E hr => (ds_cons (by exact (ds_if (dt_not (dt_val (de_callN G_is_list (hr.mono (by omega)) hx_of (da_cons (de_var 0) da_nil)))) (ds_one ds_never) ds_nil)) (by exact (ds_one (ds_for hp_of rfl (di_enum (da_cons (de_var 0) da_nil) hd.g_enumerate) (dg_t rfl (dgs_cons (dg_n 1 sc_want_steps.nd) (dgs_cons (dg_n 2 sc_want_steps.nd) dgs_nil))) (ds_one (ds_if (dt_w (dw_or (dt_not (dt_val (de_callN G_is_step (hr.mono (by omega)) hx_of (da_cons (de_var 2) da_nil)))) (dw_or1 (dt_w (dw_and (dt_gt (de_var 1) de_int) (dw_and1 (dt_not (dt_val (de_callN G_does_rise (hr.mono (by omega)) hx_of (da_cons (de_sq (de_var 0) (de_sub (de_var 1) de_int)) (da_cons (de_var 2) da_nil))))))))))) (ds_one ds_never) ds_nil)))))))
abbrev s_does_go_on : Stmt := top 18
theorem sc_does_go_on : FnScope ["step", "elder", "newer"] ["step", "elder", "newer"] (defScope s_does_go_on) := ⟨rfl, rfl, rfl, by decide +kernel, rfl, by decide +kernel, by decide +kernel⟩
-- slots: 0 step, 1 elder, 2 newer
def b_does_go_on : DenS := (sRet (fAndV (fBin dEq (fBin dAdd (fBin dIx (fVar 0) (fC (.int 0))) (fBin dIx (fVar 0) (fC (.int 2)))) (fVar 1)) (fBin dEq (fBin dAdd (fBin dIx (fVar 0) (fC (.int 1))) (fBin dIx (fVar 0) (fC (.int 2)))) (fVar 2))))
def F_does_go_on : FD := clean (fnD 3 b_does_go_on)
theorem ok_does_go_on {f : Addr} {fd : FuncData} (hd : Hd K mg) (F : FnP K "does_go_on" "does_go_on" s_does_go_on f fd) : FnOk P w K mg base (L2.CX P w) 1 f fd ["step", "elder", "newer"] (spD K 3 F_does_go_on) :=
  FnOk.clean (fn_def F sc_does_go_on fun cdv A outer s H E hr => (ds_one (ds_ret (de_and (de_eq hr (de_add (de_sq (de_var 0) de_int) (de_sq (de_var 0) de_int)) (de_var 1)) (de_one (de_eq hr (de_add (de_sq (de_var 0) de_int) (de_sq (de_var 0) de_int)) (de_var 2)))))))
abbrev s_one_form : Stmt := top 17
theorem sc_one_form : FnScope ["steps", "found", "elder", "newer", "length"] ["steps"] (defScope s_one_form) := ⟨rfl, rfl, rfl, by decide +kernel, rfl, by decide +kernel, by decide +kernel⟩
-- slots: 0 steps, 1 found, 2 elder, 3 newer, 4 length
def b_one_form_for : DenS := (sIf (fAnd (fT (fBin dNe (fVar 1) (fLst fNil))) (fT (fCall 3 F_does_go_on (fCons (fBin dIx (fVar 1) (fUn dNeg (fC (.int 1)))) (fCons (fVar 2) (fCons (fVar 3) fNil)))))) (sSetIx (fVar 1) (fUn dNeg (fC (.int 1))) (fTup (fCons (fBin dIx (fBin dIx (fVar 1) (fUn dNeg (fC (.int 1)))) (fC (.int 0))) (fCons (fBin dIx (fBin dIx (fVar 1) (fUn dNeg (fC (.int 1)))) (fC (.int 1))) (fCons (fBin dAdd (fBin dIx (fBin dIx (fVar 1) (fUn dNeg (fC (.int 1)))) (fC (.int 2))) (fVar 4)) fNil))))) (sExp (fMt chkL mAppend (fVar 1) (fCons (fTup (fCons (fVar 2) (fCons (fVar 3) (fCons (fVar 4) fNil)))) fNil))))
def b_one_form : DenS := (sSeq (sSet 1 (fLstC fNil)) (sSeq (sFor (fSeq (fVar 0)) (gT 3 (gCons (gN 2) (gCons (gN 3) (gCons (gN 4) gNil)))) b_one_form_for) (sRet (fCB dTuple (fCons (fVar 1) fNil)))))
def F_one_form : FD := clean (fnD 5 b_one_form)
theorem ok_one_form {f : Addr} {fd : FuncData} (hd : Hd K mg) (G_does_go_on : FnG P w K mg base "does_go_on" ["step", "elder", "newer"] 1 F_does_go_on) (F : FnP K "one_form" "one_form" s_one_form f fd) : FnOk P w K mg base (L2.CX P w) 2 f fd ["steps"] (spD K 1 F_one_form) :=
  FnOk.clean (fn_def F sc_one_form fun cdv A outer s H E hr => (ds_cons (by exact (ds_set 1 sc_one_form.nd (de_lstC da_nil))) (by exact (ds_cons (by exact (ds_for hp_of rfl (di_seq (de_var 0)) (dg_t rfl (dgs_cons (dg_n 2 sc_one_form.nd) (dgs_cons (dg_n 3 sc_one_form.nd) (dgs_cons (dg_n 4 sc_one_form.nd) dgs_nil)))) (ds_one (ds_if (dt_w (dw_and (dt_ne hr (de_var 1) (de_lst da_nil)) (dw_and1 (dt_val (de_callN G_does_go_on (hr.mono (by omega)) hx_of (da_cons (de_sq (de_var 1) (de_neg de_int)) (da_cons (de_var 2) (da_cons (de_var 3) da_nil)))))))) (ds_one (ds_setix (de_tup (da_cons (de_sq (de_sq (de_var 1) (de_neg de_int)) de_int) (da_cons (de_sq (de_sq (de_var 1) (de_neg de_int)) de_int) (da_cons (de_add (de_sq (de_sq (de_var 1) (de_neg de_int)) de_int) (de_var 4)) da_nil)))) (de_var 1) (de_neg de_int))) (ds_one (ds_exp (de_append (de_var 1) (da_cons (de_tup (da_cons (de_var 2) (da_cons (de_var 3) (da_cons (de_var 4) da_nil)))) da_nil)))))))) (by exact (ds_one (ds_ret (de_callTy call_tuple_of cd_tuple hd.g_tuple bt_tuple (da_cons (de_var 1) da_nil)))))))))
abbrev s_clipped : Stmt := top 19
theorem sc_clipped : FnScope ["step", "first", "end", "elder", "newer", "length", "low", "high"] ["step", "first", "end"] (defScope s_clipped) := ⟨rfl, rfl, rfl, by decide +kernel, rfl, by decide +kernel, by decide +kernel⟩
-- slots: 0 step, 1 first, 2 end, 3 elder, 4 newer, 5 length, 6 low, 7 high
def b_clipped : DenS := (sSeq (sAsg (fVar 0) (gT 3 (gCons (gN 3) (gCons (gN 4) (gCons (gN 5) gNil))))) (sSeq (sPar [6, 7] (fCons (fCB dMax (fCons (fVar 3) (fCons (fVar 1) fNil))) (fCons (fCB dMin (fCons (fBin dAdd (fVar 3) (fVar 5)) (fCons (fVar 2) fNil))) fNil))) (sRet (fIf (fT (fBin dLt (fVar 6) (fVar 7))) (fLst (fCons (fTup (fCons (fVar 6) (fCons (fBin dSub (fBin dAdd (fVar 4) (fVar 6)) (fVar 3)) (fCons (fBin dSub (fVar 7) (fVar 6)) fNil)))) fNil)) (fLst fNil)))))
def F_clipped : FD := clean (fnD 8 b_clipped)
theorem ok_clipped {f : Addr} {fd : FuncData} (hd : Hd K mg) (F : FnP K "clipped" "clipped" s_clipped f fd) : FnOk P w K mg base (L2.CX P w) 1 f fd ["step", "first", "end"] (spD K 3 F_clipped) :=
  FnOk.clean (fn_def F sc_clipped fun cdv A outer s H E hr => (ds_cons (by exact (ds_asg (de_var 0) (dg_t rfl (dgs_cons (dg_n 3 sc_clipped.nd) (dgs_cons (dg_n 4 sc_clipped.nd) (dgs_cons (dg_n 5 sc_clipped.nd) dgs_nil)))))) (by exact (ds_cons (by exact (ds_par2 6 7 rfl sc_clipped.nd (da_cons (de_callB (call_max2 rfl) cd_max hd.g_max bt_max (da_cons (de_var 3) (da_cons (de_var 1) da_nil))) (da_cons (de_callB (call_min2 rfl) cd_min hd.g_min bt_min (da_cons (de_add (de_var 3) (de_var 5)) (da_cons (de_var 2) da_nil))) da_nil)))) (by exact (ds_one (ds_ret (de_if (dt_lt (de_var 6) (de_var 7)) (de_lst (da_cons (de_tup (da_cons (de_var 6) (da_cons (de_sub (de_add (de_var 4) (de_var 6)) (de_var 3)) (da_cons (de_sub (de_var 7) (de_var 6)) da_nil)))) da_nil)) (de_lst da_nil)))))))))
abbrev s_RightStepsD_initD : Stmt := inClass (top 20) 0
theorem sc_RightStepsD_initD : FnScope ["self", "steps"] ["self", "steps"] (defScope s_RightStepsD_initD) := ⟨rfl, rfl, rfl, by decide +kernel, rfl, by decide +kernel, by decide +kernel⟩
-- slots: 0 self, 1 steps
def b_RightStepsD_initD : DenS := (sFldSet "RightSteps" "told_steps" (fVar 0) (fCall 1 F_one_form (fCons (fVar 1) fNil)))
def F_RightStepsD_initD : FD := clean (fnD 2 b_RightStepsD_initD)
theorem ok_RightStepsD_initD {f : Addr} {fd : FuncData} (hd : Hd K mg) (G_one_form : FnG P w K mg base "one_form" ["steps"] 2 F_one_form) (F : FnP K "__init__" "RightSteps.__init__" s_RightStepsD_initD f fd) : FnOk P w K mg base (L2.CX P w) 3 f fd ["self", "steps"] (spD K 2 F_RightStepsD_initD) :=
  FnOk.clean (fn_def F sc_RightStepsD_initD fun cdv A outer s H E hr => (ds_one (ds_fld hd.c_RightSteps hd.n_RightSteps_told_steps (de_var 0) (de_callN G_one_form (hr.mono (by omega)) hx_of (da_cons (de_var 1) da_nil)))))
abbrev s_StairD_initD : Stmt := inClass (top 23) 1
theorem sc_StairD_initD : FnScope ["self", "steps"] ["self", "steps"] (defScope s_StairD_initD) := ⟨rfl, rfl, rfl, by decide +kernel, rfl, by decide +kernel, by decide +kernel⟩
-- slots: 0 self, 1 steps
def b_StairD_initD : DenS := (sIf (fT (fIs (isC CL "RightSteps") (fVar 1))) (sFldSet "Stair" "own_steps" (fVar 0) (fUn (dFld "RightSteps" "told_steps") (fVar 1))) (sSeq (sExp (fCall 1 F_want_steps (fCons (fVar 1) fNil))) (sSeq (sIf (fT (fBin dGt (fCB dLen (fCons (fVar 1) fNil)) (fC (.int 60)))) sNever sSkip) (sFldSet "Stair" "own_steps" (fVar 0) (fCall 1 F_one_form (fCons (fVar 1) fNil))))))
def F_StairD_initD : FD := clean (fnD 2 b_StairD_initD)
theorem ok_StairD_initD {f : Addr} {fd : FuncData} (hd : Hd K mg) (G_want_steps : FnG P w K mg base "want_steps" ["steps"] 3 F_want_steps) (G_one_form : FnG P w K mg base "one_form" ["steps"] 2 F_one_form) (F : FnP K "__init__" "Stair.__init__" s_StairD_initD f fd) : FnOk P w K mg base (L2.CX P w) 4 f fd ["self", "steps"] (spD K 2 F_StairD_initD) :=
  FnOk.clean (fn_def F sc_StairD_initD fun cdv A outer s H E hr => (ds_one (ds_if (dt_val (de_isC hd.isa (de_var 1) hd.g_isinstance hd.m_RightSteps (by decide))) (ds_one (ds_fld hd.c_Stair hd.n_Stair_own_steps (de_var 0) (de_fld hd.c_RightSteps hd.n_RightSteps_told_steps (de_var 1)))) (ds_cons (by exact (ds_exp (de_callN G_want_steps (hr.mono (by omega)) hx_of (da_cons (de_var 1) da_nil)))) (by exact (ds_cons (by exact (ds_if (dt_gt (de_callB call_len cd_len hd.g_len bt_len (da_cons (de_var 1) da_nil)) (de_cvalE hd.cv_Stair_MOST_STEPS hd.m_Stair)) (ds_one ds_never) ds_nil)) (by exact (ds_one (ds_fld hd.c_Stair hd.n_Stair_own_steps (de_var 0) (de_callN G_one_form (hr.mono (by omega)) hx_of (da_cons (de_var 1) da_nil)))))))))))
abbrev s_stair_of : Stmt := top 21
theorem sc_stair_of : FnScope ["steps"] ["steps"] (defScope s_stair_of) := ⟨rfl, rfl, rfl, by decide +kernel, rfl, by decide +kernel, by decide +kernel⟩
-- slots: 0 steps
def b_stair_of : DenS := (sRet (fMake "Stair" 2 F_StairD_initD (fCons (fMake "RightSteps" 2 F_RightStepsD_initD (fCons (fVar 0) fNil)) fNil)))
def F_stair_of : FD := clean (fnD 1 b_stair_of)
theorem ok_stair_of {f : Addr} {fd : FuncData} (hd : Hd K mg) (K_Stair : MkG P w K mg base "Stair" ["self", "steps"] 4 F_StairD_initD) (K_RightSteps : MkG P w K mg base "RightSteps" ["self", "steps"] 3 F_RightStepsD_initD) (F : FnP K "stair_of" "stair_of" s_stair_of f fd) : FnOk P w K mg base (L2.CX P w) 6 f fd ["steps"] (spD K 1 F_stair_of) :=
  FnOk.clean (fn_def F sc_stair_of fun cdv A outer s H E hr => (ds_one (ds_ret (de_makeN K_Stair (hr.mono (by omega)) hx_of (da_cons (de_makeN K_RightSteps (hr.mono (by omega)) hx_of (da_cons (de_var 0) da_nil)) da_nil)))))
abbrev s_Stair_steps : Stmt := inClass (top 23) 3
theorem sc_Stair_steps : FnScope ["self"] ["self"] (defScope s_Stair_steps) := ⟨rfl, rfl, rfl, by decide +kernel, rfl, by decide +kernel, by decide +kernel⟩
-- slots: 0 self
def b_Stair_steps : DenS := (sRet (fCB dList (fCons (fUn (dFld "Stair" "own_steps") (fVar 0)) fNil)))
def F_Stair_steps : FD := clean (fnD 1 b_Stair_steps)
theorem ok_Stair_steps {f : Addr} {fd : FuncData} (hd : Hd K mg) (F : FnP K "steps" "Stair.steps" s_Stair_steps f fd) : FnOk P w K mg base (L2.CX P w) 1 f fd ["self"] (spD K 1 F_Stair_steps) :=
  FnOk.clean (fn_def F sc_Stair_steps fun cdv A outer s H E hr => (ds_one (ds_ret (de_callTy call_list_of cd_list hd.g_list bt_list (da_cons (de_fld hd.c_Stair hd.n_Stair_own_steps (de_var 0)) da_nil)))))
abbrev s_Stair_limited : Stmt := inClass (top 23) 13
theorem sc_Stair_limited : FnScope ["self", "first", "end", "found", "step"] ["self", "first", "end"] (defScope s_Stair_limited) := ⟨rfl, rfl, rfl, by decide +kernel, rfl, by decide +kernel, by decide +kernel⟩
-- slots: 0 self, 1 first, 2 end, 3 found, 4 step
def b_Stair_limited_for : DenS := (sExp (fMt chkL mExtend (fVar 3) (fCons (fCall 3 F_clipped (fCons (fVar 4) (fCons (fVar 1) (fCons (fVar 2) fNil)))) fNil)))
def b_Stair_limited : DenS := (sSeq (sExp (fCall 2 F_want_range (fCons (fVar 1) (fCons (fVar 2) fNil)))) (sSeq (sSet 3 (fLstC fNil)) (sSeq (sFor (fSeq (fUn (dFld "Stair" "own_steps") (fVar 0))) (gN 4) b_Stair_limited_for) (sRet (fCall 1 F_stair_of (fCons (fFrz (fVar 3)) fNil))))))
def F_Stair_limited : FD := clean (fnD 5 b_Stair_limited)
theorem ok_Stair_limited {f : Addr} {fd : FuncData} (hd : Hd K mg) (G_want_range : FnG P w K mg base "want_range" ["first", "end"] 2 F_want_range) (G_clipped : FnG P w K mg base "clipped" ["step", "first", "end"] 1 F_clipped) (G_stair_of : FnG P w K mg base "stair_of" ["steps"] 6 F_stair_of) (F : FnP K "limited" "Stair.limited" s_Stair_limited f fd) : FnOk P w K mg base (L2.CX P w) 7 f fd ["self", "first", "end"] (spD K 3 F_Stair_limited) :=
  FnOk.clean (fn_def F sc_Stair_limited fun cdv A outer s H E hr => (ds_cons (by exact (ds_exp (de_callN G_want_range (hr.mono (by omega)) hx_of (da_cons (de_var 1) (da_cons (de_var 2) da_nil))))) (by exact (ds_cons (by exact (ds_set 3 sc_Stair_limited.nd (de_lstC da_nil))) (by exact (ds_cons (by exact (ds_for hp_of rfl (di_seq (de_fld hd.c_Stair hd.n_Stair_own_steps (de_var 0))) (dg_n 4 sc_Stair_limited.nd) (ds_one (ds_exp (de_extend (de_var 3) (da_cons (de_callN G_clipped (hr.mono (by omega)) hx_of (da_cons (de_var 4) (da_cons (de_var 1) (da_cons (de_var 2) da_nil)))) da_nil)))))) (by exact (ds_one (ds_ret (de_callN G_stair_of (hr.mono (by omega)) hx_of (da_cons (de_frz (de_var 3)) da_nil)))))))))))
abbrev s_Stair_ranges : Stmt := inClass (top 23) 14
theorem sc_Stair_ranges : FnScope ["self", "first", "end", "some", "elder", "newer", "length"] ["self", "first", "end"] (defScope s_Stair_ranges) := ⟨rfl, rfl, rfl, by decide +kernel, rfl, by decide +kernel, by decide +kernel⟩
-- slots: 0 self, 1 first, 2 end, 3 some, 4 elder, 5 newer, 6 length
def b_Stair_ranges : DenS := (sSeq (sSet 3 (fMeth "Stair" "limited" 3 F_Stair_limited (fVar 0) (fCons (fVar 1) (fCons (fVar 2) fNil)))) (sRet (fCall 1 F_joined_ranges (fCons (fLc (fSeq (fUn (dFld "Stair" "own_steps") (fVar 3))) (.tp [4, 5, 6]) (fC true) (fTup (fCons (fVar 5) (fCons (fBin dAdd (fVar 5) (fVar 6)) fNil))) [4, 5, 6]) fNil))))
def F_Stair_ranges : FD := (fnD 7 b_Stair_ranges)
theorem ok_Stair_ranges {f : Addr} {fd : FuncData} (hd : Hd K mg) (M_Stair_limited : MtG P w K mg base "Stair" "limited" ["self", "first", "end"] 7 F_Stair_limited) (G_joined_ranges : FnG P w K mg base "joined_ranges" ["ranges"] 1 F_joined_ranges) (F : FnP K "ranges" "Stair.ranges" s_Stair_ranges f fd) : FnOk P w K mg base (L2.CX P w) 8 f fd ["self", "first", "end"] (spD K 3 F_Stair_ranges) :=
  (fn_def F sc_Stair_ranges fun cdv A outer s H E hr => (ds_cons (by exact (ds_set 3 sc_Stair_ranges.nd (de_methN hd.c_Stair M_Stair_limited (hr.mono (by omega)) hx_of (de_var 0) (da_cons (de_var 1) (da_cons (de_var 2) da_nil))))) (by exact (ds_one (ds_ret (de_callN G_joined_ranges (hr.mono (by omega)) hx_of (da_cons (de_lc (own := [("elder", 4), ("newer", 5), ("length", 6)]) (t := (.tp [4, 5, 6])) (ft := (fC true)) (fe := (fTup (fCons (fVar 5) (fCons (fBin dAdd (fVar 5) (fVar 6)) fNil)))) rfl sc_Stair_ranges.nd (di_seq (de_fld hd.c_Stair hd.n_Stair_own_steps (de_var 3))) (blkOk_by rfl) (by decide) (by exact fun _ _ _ _ _ => (pg_tp rfl (pgs_n1 4 sc_Stair_ranges.nd (pgs_n1 5 sc_Stair_ranges.nd (pgs_n1 6 sc_Stair_ranges.nd pgs_n0))))) (by exact fun _ _ _ _ _ => dts_nil) (by exact fun _ _ _ _ _ => (de_tup (da_cons (de_var 5) (da_cons (de_add (de_var 5) (de_var 6)) da_nil))))) da_nil)))))))
abbrev s_Stair_cut_in : Stmt := inClass (top 23) 15
theorem sc_Stair_cut_in : FnScope ["self", "first", "end", "found", "here", "elder", "newer", "length"] ["self", "first", "end"] (defScope s_Stair_cut_in) := ⟨rfl, rfl, rfl, by decide +kernel, rfl, by decide +kernel, by decide +kernel⟩
-- slots: 0 self, 1 first, 2 end, 3 found, 4 here, 5 elder, 6 newer, 7 length
def b_Stair_cut_in_for : DenS := (sSeq (sIf (fT (fBin dLt (fVar 4) (fVar 5))) (sExp (fMt chkL mAppend (fVar 3) (fCons (fTup (fCons (fVar 4) (fCons (fVar 5) fNil))) fNil))) sSkip) (sSet 4 (fBin dAdd (fVar 5) (fVar 7))))
def b_Stair_cut_in : DenS := (sSeq (sPar [3, 4] (fCons (fLstC fNil) (fCons (fVar 1) fNil))) (sSeq (sFor (fSeq (fUn (dFld "Stair" "own_steps") (fMeth "Stair" "limited" 3 F_Stair_limited (fVar 0) (fCons (fVar 1) (fCons (fVar 2) fNil))))) (gT 3 (gCons (gN 5) (gCons (gN 6) (gCons (gN 7) gNil)))) b_Stair_cut_in_for) (sRet (fBin dAddC (fVar 3) (fIf (fT (fBin dLt (fVar 4) (fVar 2))) (fLst (fCons (fTup (fCons (fVar 4) (fCons (fVar 2) fNil))) fNil)) (fLst fNil))))))
def F_Stair_cut_in : FD := (fnD 8 b_Stair_cut_in)
theorem ok_Stair_cut_in {f : Addr} {fd : FuncData} (hd : Hd K mg) (M_Stair_limited : MtG P w K mg base "Stair" "limited" ["self", "first", "end"] 7 F_Stair_limited) (F : FnP K "cut_in" "Stair.cut_in" s_Stair_cut_in f fd) : FnOk P w K mg base (L2.CX P w) 8 f fd ["self", "first", "end"] (spD K 3 F_Stair_cut_in) :=
  (fn_def F sc_Stair_cut_in fun cdv A outer s H E hr => (ds_cons (by exact (ds_par2 3 4 rfl sc_Stair_cut_in.nd (da_cons (de_lstC da_nil) (da_cons (de_var 1) da_nil)))) (by exact (ds_cons (by exact (ds_for hp_of rfl (di_seq (de_fld hd.c_Stair hd.n_Stair_own_steps (de_methN hd.c_Stair M_Stair_limited (hr.mono (by omega)) hx_of (de_var 0) (da_cons (de_var 1) (da_cons (de_var 2) da_nil))))) (dg_t rfl (dgs_cons (dg_n 5 sc_Stair_cut_in.nd) (dgs_cons (dg_n 6 sc_Stair_cut_in.nd) (dgs_cons (dg_n 7 sc_Stair_cut_in.nd) dgs_nil)))) (ds_cons (by exact (ds_if (dt_lt (de_var 4) (de_var 5)) (ds_one (ds_exp (de_append (de_var 3) (da_cons (de_tup (da_cons (de_var 4) (da_cons (de_var 5) da_nil))) da_nil)))) ds_nil)) (by exact (ds_one (ds_set 4 sc_Stair_cut_in.nd (de_add (de_var 5) (de_var 7)))))))) (by exact (ds_one (ds_ret (de_addC (de_var 3) (de_if (dt_lt (de_var 4) (de_var 2)) (de_lst (da_cons (de_tup (da_cons (de_var 4) (da_cons (de_var 2) da_nil))) da_nil)) (de_lst da_nil))))))))))
abbrev s_StairD_eqD : Stmt := inClass (top 23) 17
theorem sc_StairD_eqD : FnScope ["self", "other"] ["self", "other"] (defScope s_StairD_eqD) := ⟨rfl, rfl, rfl, by decide +kernel, rfl, by decide +kernel, by decide +kernel⟩
-- slots: 0 self, 1 other
def b_StairD_eqD : DenS := (sRet (fAndV (fIs (isC CL "Stair") (fVar 1)) (fBin dEq (fUn (dFld "Stair" "own_steps") (fVar 0)) (fUn (dFld "Stair" "own_steps") (fVar 1)))))
def F_StairD_eqD : FD := clean (fnD 2 b_StairD_eqD)
theorem ok_StairD_eqD {f : Addr} {fd : FuncData} (hd : Hd K mg) (F : FnP K "__eq__" "Stair.__eq__" s_StairD_eqD f fd) : FnOk P w K mg base (L2.CX P w) 1 f fd ["self", "other"] (spD K 2 F_StairD_eqD) :=
  FnOk.clean (fn_def F sc_StairD_eqD fun cdv A outer s H E hr => (ds_one (ds_ret (de_and (de_isC hd.isa (de_var 1) hd.g_isinstance hd.m_Stair (by decide)) (de_one (de_eq hr (de_fld hd.c_Stair hd.n_Stair_own_steps (de_var 0)) (de_fld hd.c_Stair hd.n_Stair_own_steps (de_var 1))))))))
abbrev s_law_pot : Stmt := top 25
theorem sc_law_pot : FnScope ["_law_script", "_law_k", "_law_cell"] ["_law_script", "_law_k"] (defScope s_law_pot) := ⟨rfl, rfl, rfl, by decide +kernel, rfl, by decide +kernel, by decide +kernel⟩
-- slots: 0 _law_script, 1 _law_k, 2 _law_cell
def b_law_pot : DenS := (sSeq (sSet 2 (fBin dAdd (fBin dMul (fC (.int 61)) (fVar 1)) (fC (.int 29)))) (sSeq (sIf (fT (fBin dLt (fVar 1) (fCB dLen (fCons (fVar 0) fNil)))) (sSet 2 (fCB dAbs (fCons (fBin dIx (fVar 0) (fVar 1)) fNil))) sSkip) (sRet (fLstC (fCons (fCB dMax (fCons (fC (.int 0)) (fCons (fBin dSub (fVar 2) (fBin dPow (fC (.int 10)) (fC (.int 18)))) fNil))) (fCons (fBin dAdd (fBin dMod (fBin dMul (fCB dInt (fCons (fBin dAdd (fBin dMod (fCB dInt (fCons (fVar 2) fNil)) (fC (.int 2147483549))) (fC (.int 7))) fNil)) (fBin dPow (fBin dAdd (fBin dMul (fC (.int 2)) (fVar 1)) (fC (.int 3))) (fC (.int 3)))) (fC (.int 2147483477))) (fC (.int 1))) fNil))))))
def F_law_pot : FD := (fnD 3 b_law_pot)
theorem ok_law_pot {f : Addr} {fd : FuncData} (hd : Hd K mg) (F : FnP K "_law_pot" "_law_pot" s_law_pot f fd) : FnOk P w K mg base (L2.CX P w) 1 f fd ["_law_script", "_law_k"] (spD K 2 F_law_pot) :=
  (fn_def F sc_law_pot fun cdv A outer s H E hr => (ds_cons (by exact (ds_set 2 sc_law_pot.nd (de_add (de_mul de_int (de_var 1)) de_int))) (by exact (ds_cons (by exact (ds_if (dt_lt (de_var 1) (de_callB call_len cd_len hd.g_len bt_len (da_cons (de_var 0) da_nil))) (ds_one (ds_set 2 sc_law_pot.nd (de_callB call_abs cd_abs hd.g_abs bt_abs (da_cons (de_sq (de_var 0) (de_var 1)) da_nil)))) ds_nil)) (by exact (ds_one (ds_ret (de_lstC (da_cons (de_callB (call_max2 rfl) cd_max hd.g_max bt_max (da_cons de_int (da_cons (de_sub (de_var 2) (de_pow de_int de_int)) da_nil))) (da_cons (de_add (de_mod (de_mul (de_callTy call_int1 cd_int hd.g_int bt_int (da_cons (de_add (de_mod (de_callTy call_int1 cd_int hd.g_int bt_int (da_cons (de_var 2) da_nil)) de_int) de_int) da_nil)) (de_pow (de_add (de_mul de_int (de_var 1)) de_int) de_int)) de_int) de_int) da_nil))))))))))
abbrev s_law_draw : Stmt := top 26
theorem sc_law_draw : FnScope ["_law_pot_here", "_law_size", "_law_digit"] ["_law_pot_here", "_law_size"] (defScope s_law_draw) := ⟨rfl, rfl, rfl, by decide +kernel, rfl, by decide +kernel, by decide +kernel⟩
-- slots: 0 _law_pot_here, 1 _law_size, 2 _law_digit
def b_law_draw : DenS := (sSeq (sIf (fT (fBin dGt (fBin dIx (fVar 0) (fC (.int 0))) (fC (.int 0)))) (sSeq (sSetPair (fVar 0) (fC (.int 0)) 2 (fCB dDivmod (fCons (fBin dIx (fVar 0) (fC (.int 0))) (fCons (fVar 1) fNil)))) (sRet (fVar 2))) sSkip) (sSeq (sSetIx (fVar 0) (fC (.int 1)) (fBin dMod (fCB dInt (fCons (fBin dAdd (fBin dMul (fBin dIx (fVar 0) (fC (.int 1))) (fC (.int 48271))) (fC (.int 14009))) fNil)) (fC (.int 2147483587)))) (sRet (fBin dMod (fCB dInt (fCons (fBin dFdiv (fBin dMod (fCB dInt (fCons (fBin dMul (fBin dIx (fVar 0) (fC (.int 1))) (fBin dIx (fVar 0) (fC (.int 1)))) fNil)) (fC (.int 2147483549))) (fC (.int 13))) fNil)) (fVar 1)))))
def F_law_draw : FD := clean (fnD 3 b_law_draw)
theorem ok_law_draw {f : Addr} {fd : FuncData} (hd : Hd K mg) (F : FnP K "_law_draw" "_law_draw" s_law_draw f fd) : FnOk P w K mg base (L2.CX P w) 1 f fd ["_law_pot_here", "_law_size"] (spD K 2 F_law_draw) :=
  FnOk.clean (fn_def F sc_law_draw fun cdv A outer s H E hr => (ds_cons (by exact (ds_if (dt_gt (de_sq (de_var 0) de_int) de_int) (ds_cons (by exact (ds_setpair 2 rfl sc_law_draw.nd (de_callB call_divmod cd_divmod hd.g_divmod bt_divmod (da_cons (de_sq (de_var 0) de_int) (da_cons (de_var 1) da_nil))) (de_var 0) de_int)) (by exact (ds_one (ds_ret (de_var 2))))) ds_nil)) (by exact (ds_cons (by exact (ds_setix (de_mod (de_callTy call_int1 cd_int hd.g_int bt_int (da_cons (de_add (de_mul (de_sq (de_var 0) de_int) de_int) de_int) da_nil)) de_int) (de_var 0) de_int)) (by exact (ds_one (ds_ret (de_mod (de_callTy call_int1 cd_int hd.g_int bt_int (da_cons (de_fdiv (de_mod (de_callTy call_int1 cd_int hd.g_int bt_int (da_cons (de_mul (de_sq (de_var 0) de_int) (de_sq (de_var 0) de_int)) da_nil)) de_int) de_int) da_nil)) (de_var 1)))))))))
abbrev s_law_pick : Stmt := top 27
theorem sc_law_pick : FnScope ["_law_pot_here", "_law_some"] ["_law_pot_here", "_law_some"] (defScope s_law_pick) := ⟨rfl, rfl, rfl, by decide +kernel, rfl, by decide +kernel, by decide +kernel⟩
-- slots: 0 _law_pot_here, 1 _law_some
def b_law_pick : DenS := (sRet (fBin dIx (fVar 1) (fCall 2 F_law_draw (fCons (fVar 0) (fCons (fCB dLen (fCons (fVar 1) fNil)) fNil)))))
def F_law_pick : FD := clean (fnD 2 b_law_pick)
theorem ok_law_pick {f : Addr} {fd : FuncData} (hd : Hd K mg) (G_law_draw : FnG P w K mg base "_law_draw" ["_law_pot_here", "_law_size"] 1 F_law_draw) (F : FnP K "_law_pick" "_law_pick" s_law_pick f fd) : FnOk P w K mg base (L2.CX P w) 2 f fd ["_law_pot_here", "_law_some"] (spD K 2 F_law_pick) :=
  FnOk.clean (fn_def F sc_law_pick fun cdv A outer s H E hr => (ds_one (ds_ret (de_sq (de_var 1) (de_callN G_law_draw (hr.mono (by omega)) hx_of (da_cons (de_var 0) (da_cons (de_callB call_len cd_len hd.g_len bt_len (da_cons (de_var 1) da_nil)) da_nil)))))))
abbrev s_law_steps : Stmt := top 28
theorem sc_law_steps : FnScope ["_law_pot_here", "_law_most", "_law_elder", "_law_newer", "_law_found", "_law_turn", "_law_size"] ["_law_pot_here", "_law_most"] (defScope s_law_steps) := ⟨rfl, rfl, rfl, by decide +kernel, rfl, by decide +kernel, by decide +kernel⟩
-- slots: 0 _law_pot_here, 1 _law_most, 2 _law_elder, 3 _law_newer, 4 _law_found, 5 _law_turn, 6 _law_size
def b_law_steps_for : DenS := (sSeq (sSet 6 (fBin dAdd (fC (.int 1)) (fCall 2 F_law_draw (fCons (fVar 0) (fCons (fC (.int 4)) fNil))))) (sSeq (sExp (fMt chkL mAppend (fVar 4) (fCons (fTup (fCons (fVar 2) (fCons (fVar 3) (fCons (fVar 6) fNil)))) fNil))) (sSeq (sSet 2 (fBin dAdd (fBin dAdd (fVar 2) (fVar 6)) (fBin dIx (fLst (fCons (fC (.int 0)) (fCons (fC (.int 0)) (fCons (fC (.int 1)) (fCons (fC (.int 3)) fNil))))) (fCall 2 F_law_draw (fCons (fVar 0) (fCons (fC (.int 4)) fNil)))))) (sSet 3 (fBin dAdd (fBin dAdd (fVar 3) (fVar 6)) (fBin dIx (fLst (fCons (fC (.int 0)) (fCons (fC (.int 0)) (fCons (fC (.int 1)) (fCons (fC (.int 2)) fNil))))) (fCall 2 F_law_draw (fCons (fVar 0) (fCons (fC (.int 4)) fNil)))))))))
def b_law_steps : DenS := (sSeq (sPar [2, 3, 4] (fCons (fBin dSub (fCall 2 F_law_draw (fCons (fVar 0) (fCons (fC (.int 9)) fNil))) (fC (.int 4))) (fCons (fBin dSub (fCall 2 F_law_draw (fCons (fVar 0) (fCons (fC (.int 9)) fNil))) (fC (.int 4))) (fCons (fLstC fNil) fNil)))) (sSeq (sFor (fRange1 (fCons (fCall 2 F_law_draw (fCons (fVar 0) (fCons (fBin dAdd (fVar 1) (fC (.int 1))) fNil))) fNil)) (gN 5) b_law_steps_for) (sRet (fVar 4))))
def F_law_steps : FD := clean (fnD 7 b_law_steps)
theorem ok_law_steps {f : Addr} {fd : FuncData} (hd : Hd K mg) (G_law_draw : FnG P w K mg base "_law_draw" ["_law_pot_here", "_law_size"] 1 F_law_draw) (F : FnP K "_law_steps" "_law_steps" s_law_steps f fd) : FnOk P w K mg base (L2.CX P w) 2 f fd ["_law_pot_here", "_law_most"] (spD K 2 F_law_steps) :=
  FnOk.clean (fn_def F sc_law_steps fun cdv A outer s H E hr => (ds_cons (by exact (ds_par3 2 3 4 rfl sc_law_steps.nd (da_cons (de_sub (de_callN G_law_draw (hr.mono (by omega)) hx_of (da_cons (de_var 0) (da_cons de_int da_nil))) de_int) (da_cons (de_sub (de_callN G_law_draw (hr.mono (by omega)) hx_of (da_cons (de_var 0) (da_cons de_int da_nil))) de_int) (da_cons (de_lstC da_nil) da_nil))))) (by exact (ds_cons (by exact (ds_for hp_of rfl (di_range1 (da_cons (de_callN G_law_draw (hr.mono (by omega)) hx_of (da_cons (de_var 0) (da_cons (de_add (de_var 1) de_int) da_nil))) da_nil) hd.g_range) (dg_n 5 sc_law_steps.nd) (ds_cons (by exact (ds_set 6 sc_law_steps.nd (de_add de_int (de_callN G_law_draw (hr.mono (by omega)) hx_of (da_cons (de_var 0) (da_cons de_int da_nil)))))) (by exact (ds_cons (by exact (ds_exp (de_append (de_var 4) (da_cons (de_tup (da_cons (de_var 2) (da_cons (de_var 3) (da_cons (de_var 6) da_nil)))) da_nil)))) (by exact (ds_cons (by exact (ds_set 2 sc_law_steps.nd (de_add (de_add (de_var 2) (de_var 6)) (de_sq (de_lst (da_cons de_int (da_cons de_int (da_cons de_int (da_cons de_int da_nil))))) (de_callN G_law_draw (hr.mono (by omega)) hx_of (da_cons (de_var 0) (da_cons de_int da_nil))))))) (by exact (ds_one (ds_set 3 sc_law_steps.nd (de_add (de_add (de_var 3) (de_var 6)) (de_sq (de_lst (da_cons de_int (da_cons de_int (da_cons de_int (da_cons de_int da_nil))))) (de_callN G_law_draw (hr.mono (by omega)) hx_of (da_cons (de_var 0) (da_cons de_int da_nil))))))))))))))) (by exact (ds_one (ds_ret (de_var 4))))))))
abbrev s_law_carry : Stmt := top 29
theorem sc_law_carry : FnScope ["_law_steps_here", "_law_found", "_law_elder", "_law_newer", "_law_size", "_law_k"] ["_law_steps_here"] (defScope s_law_carry) := ⟨rfl, rfl, rfl, by decide +kernel, rfl, by decide +kernel, by decide +kernel⟩
-- slots: 0 _law_steps_here, 1 _law_found, 2 _law_elder, 3 _law_newer, 4 _law_size, 5 _law_k
def b_law_carry_for : DenS := (sExp (fMt chkK mUpd (fVar 1) (fCons (fCB dDict (fCons (fLc (fRange1 (fCons (fVar 4) fNil)) (.nm 5) (fC true) (fTup (fCons (fBin dAdd (fVar 2) (fVar 5)) (fCons (fBin dAdd (fVar 3) (fVar 5)) fNil))) [5]) fNil)) fNil)))
def b_law_carry : DenS := (sSeq (sSet 1 fDnew) (sSeq (sFor (fSeq (fVar 0)) (gT 3 (gCons (gN 2) (gCons (gN 3) (gCons (gN 4) gNil)))) b_law_carry_for) (sRet (fVar 1))))
def F_law_carry : FD := clean (fnD 6 b_law_carry)
theorem ok_law_carry {f : Addr} {fd : FuncData} (hd : Hd K mg) (F : FnP K "_law_carry" "_law_carry" s_law_carry f fd) : FnOk P w K mg base (L2.CX P w) 1 f fd ["_law_steps_here"] (spD K 1 F_law_carry) :=
  FnOk.clean (fn_def F sc_law_carry fun cdv A outer s H E hr => (ds_cons (by exact (ds_set 1 sc_law_carry.nd de_dnew)) (by exact (ds_cons (by exact (ds_for hp_of rfl (di_seq (de_var 0)) (dg_t rfl (dgs_cons (dg_n 2 sc_law_carry.nd) (dgs_cons (dg_n 3 sc_law_carry.nd) (dgs_cons (dg_n 4 sc_law_carry.nd) dgs_nil)))) (ds_one (ds_exp (de_update (de_var 1) (da_cons (de_callTy (call_dictP rfl) cd_dict hd.g_dict bt_dict (da_cons (de_lc (own := [("_law_k", 5)]) (t := (.nm 5)) (ft := (fC true)) (fe := (fTup (fCons (fBin dAdd (fVar 2) (fVar 5)) (fCons (fBin dAdd (fVar 3) (fVar 5)) fNil)))) rfl sc_law_carry.nd (di_range1 (da_cons (de_var 4) da_nil) hd.g_range) (blkOk_by rfl) (by decide) (by exact fun _ _ _ _ _ => (pg_nm 5 sc_law_carry.nd)) (by exact fun _ _ _ _ _ => dts_nil) (by exact fun _ _ _ _ _ => (de_tup (da_cons (de_add (de_var 2) (de_var 5)) (da_cons (de_add (de_var 3) (de_var 5)) da_nil))))) da_nil)) da_nil)))))) (by exact (ds_one (ds_ret (de_var 1))))))))
abbrev s_law_form : Stmt := top 30
theorem sc_law_form : FnScope ["_law_carry_here", "_law_found", "_law_mark"] ["_law_carry_here"] (defScope s_law_form) := ⟨rfl, rfl, rfl, by decide +kernel, rfl, by decide +kernel, by decide +kernel⟩
-- slots: 0 _law_carry_here, 1 _law_found, 2 _law_mark
def b_law_form_for : DenS := (sIf (fAnd (fT (fBin dNe (fVar 1) (fLst fNil))) (fAnd (fT (fBin dEq (fBin dAdd (fBin dIx (fBin dIx (fVar 1) (fUn dNeg (fC (.int 1)))) (fC (.int 0))) (fBin dIx (fBin dIx (fVar 1) (fUn dNeg (fC (.int 1)))) (fC (.int 2)))) (fVar 2))) (fT (fBin dEq (fBin dAdd (fBin dIx (fBin dIx (fVar 1) (fUn dNeg (fC (.int 1)))) (fC (.int 1))) (fBin dIx (fBin dIx (fVar 1) (fUn dNeg (fC (.int 1)))) (fC (.int 2)))) (fBin dGet (fVar 0) (fVar 2)))))) (sSetIx (fVar 1) (fUn dNeg (fC (.int 1))) (fTup (fCons (fBin dIx (fBin dIx (fVar 1) (fUn dNeg (fC (.int 1)))) (fC (.int 0))) (fCons (fBin dIx (fBin dIx (fVar 1) (fUn dNeg (fC (.int 1)))) (fC (.int 1))) (fCons (fBin dAdd (fBin dIx (fBin dIx (fVar 1) (fUn dNeg (fC (.int 1)))) (fC (.int 2))) (fC (.int 1))) fNil))))) (sExp (fMt chkL mAppend (fVar 1) (fCons (fTup (fCons (fVar 2) (fCons (fBin dGet (fVar 0) (fVar 2)) (fCons (fC (.int 1)) fNil)))) fNil))))
def b_law_form : DenS := (sSeq (sSet 1 (fLstC fNil)) (sSeq (sFor (fSeq (fCB dSortK (fCons (fVar 0) fNil))) (gN 2) b_law_form_for) (sRet (fVar 1))))
def F_law_form : FD := clean (fnD 3 b_law_form)
theorem ok_law_form {f : Addr} {fd : FuncData} (hd : Hd K mg) (F : FnP K "_law_form" "_law_form" s_law_form f fd) : FnOk P w K mg base (L2.CX P w) 1 f fd ["_law_carry_here"] (spD K 1 F_law_form) :=
  FnOk.clean (fn_def F sc_law_form fun cdv A outer s H E hr => (ds_cons (by exact (ds_set 1 sc_law_form.nd (de_lstC da_nil))) (by exact (ds_cons (by exact (ds_for hp_of rfl (di_seq (de_callB (call_sortedDI rfl) cd_sortK hd.g_sorted bt_sorted (da_cons (de_var 0) da_nil))) (dg_n 2 sc_law_form.nd) (ds_one (ds_if (dt_w (dw_and (dt_ne hr (de_var 1) (de_lst da_nil)) (dw_and (dt_eq hr (de_add (de_sq (de_sq (de_var 1) (de_neg de_int)) de_int) (de_sq (de_sq (de_var 1) (de_neg de_int)) de_int)) (de_var 2)) (dw_and1 (dt_eq hr (de_add (de_sq (de_sq (de_var 1) (de_neg de_int)) de_int) (de_sq (de_sq (de_var 1) (de_neg de_int)) de_int)) (de_dget hr (de_var 0) (de_var 2))))))) (ds_one (ds_setix (de_tup (da_cons (de_sq (de_sq (de_var 1) (de_neg de_int)) de_int) (da_cons (de_sq (de_sq (de_var 1) (de_neg de_int)) de_int) (da_cons (de_add (de_sq (de_sq (de_var 1) (de_neg de_int)) de_int) de_int) da_nil)))) (de_var 1) (de_neg de_int))) (ds_one (ds_exp (de_append (de_var 1) (da_cons (de_tup (da_cons (de_var 2) (da_cons (de_dget hr (de_var 0) (de_var 2)) (da_cons de_int da_nil)))) da_nil)))))))) (by exact (ds_one (ds_ret (de_var 1))))))))
abbrev s_law_ranges : Stmt := top 31
theorem sc_law_ranges : FnScope ["_law_marks", "_law_found", "_law_mark"] ["_law_marks"] (defScope s_law_ranges) := ⟨rfl, rfl, rfl, by decide +kernel, rfl, by decide +kernel, by decide +kernel⟩
-- slots: 0 _law_marks, 1 _law_found, 2 _law_mark
def b_law_ranges_for : DenS := (sIf (fAnd (fT (fBin dNe (fVar 1) (fLst fNil))) (fT (fBin dEq (fBin dIx (fBin dIx (fVar 1) (fUn dNeg (fC (.int 1)))) (fC (.int 1))) (fVar 2)))) (sSetIx (fVar 1) (fUn dNeg (fC (.int 1))) (fTup (fCons (fBin dIx (fBin dIx (fVar 1) (fUn dNeg (fC (.int 1)))) (fC (.int 0))) (fCons (fBin dAdd (fVar 2) (fC (.int 1))) fNil)))) (sExp (fMt chkL mAppend (fVar 1) (fCons (fTup (fCons (fVar 2) (fCons (fBin dAdd (fVar 2) (fC (.int 1))) fNil))) fNil))))
def b_law_ranges : DenS := (sSeq (sSet 1 (fLstC fNil)) (sSeq (sFor (fSeq (fCB dSortI (fCons (fVar 0) fNil))) (gN 2) b_law_ranges_for) (sRet (fVar 1))))
def F_law_ranges : FD := clean (fnD 3 b_law_ranges)
theorem ok_law_ranges {f : Addr} {fd : FuncData} (hd : Hd K mg) (F : FnP K "_law_ranges" "_law_ranges" s_law_ranges f fd) : FnOk P w K mg base (L2.CX P w) 1 f fd ["_law_marks"] (spD K 1 F_law_ranges) :=
  FnOk.clean (fn_def F sc_law_ranges fun cdv A outer s H E hr => (ds_cons (by exact (ds_set 1 sc_law_ranges.nd (de_lstC da_nil))) (by exact (ds_cons (by exact (ds_for hp_of rfl (di_seq (de_callB cr_sortedI cd_sortI hd.g_sorted bt_sorted (da_cons (de_var 0) da_nil))) (dg_n 2 sc_law_ranges.nd) (ds_one (ds_if (dt_w (dw_and (dt_ne hr (de_var 1) (de_lst da_nil)) (dw_and1 (dt_eq hr (de_sq (de_sq (de_var 1) (de_neg de_int)) de_int) (de_var 2))))) (ds_one (ds_setix (de_tup (da_cons (de_sq (de_sq (de_var 1) (de_neg de_int)) de_int) (da_cons (de_add (de_var 2) de_int) da_nil))) (de_var 1) (de_neg de_int))) (ds_one (ds_exp (de_append (de_var 1) (da_cons (de_tup (da_cons (de_var 2) (da_cons (de_add (de_var 2) de_int) da_nil))) da_nil)))))))) (by exact (ds_one (ds_ret (de_var 1))))))))
abbrev s_law_range_right : Stmt := top 32
theorem sc_law_range_right : FnScope ["_law_made", "_law_carry_here", "_law_low", "_law_high", "_law_marks", "_law_due", "_law_heard", "_law_again", "_law_mark", "_law_some"] ["_law_made", "_law_carry_here", "_law_low", "_law_high"] (defScope s_law_range_right) := ⟨rfl, rfl, rfl, by decide +kernel, rfl, by decide +kernel, by decide +kernel⟩
-- slots: 0 _law_made, 1 _law_carry_here, 2 _law_low, 3 _law_high, 4 _law_marks, 5 _law_due, 6 _law_heard, 7 _law_again, 8 _law_mark, 9 _law_some
def b_law_range_right : DenS := (sSeq (sSet 4 (fLc (fKeys 1) (.nm 8) (fT (fChain dLe dLt (fVar 2) (fVar 8) (fVar 3))) (fVar 8) [8])) (sSeq (sSet 5 (fLstC (fCons (fCall 1 F_law_form (fCons (fCB dDict (fCons (fLc (fSeq (fVar 4)) (.nm 8) (fC true) (fTup (fCons (fVar 8) (fCons (fBin dGet (fVar 1) (fVar 8)) fNil))) [8]) fNil)) fNil)) (fCons (fCall 1 F_law_ranges (fCons (fLc (fSeq (fVar 4)) (.nm 8) (fC true) (fBin dGet (fVar 1) (fVar 8)) [8]) fNil)) fNil)))) (sSeq (sExp (fMt chkL mAppend (fVar 5) (fCons (fCall 1 F_law_ranges (fCons (fLc (fRange2 (fCons (fVar 2) (fCons (fVar 3) fNil))) (.nm 8) (fT (fNotIn (fVar 8) (fVar 1))) (fVar 8) [8]) fNil)) fNil))) (sSeq (sSet 6 (fLst (fCons (fMeth "Stair" "steps" 1 F_Stair_steps (fMeth "Stair" "limited" 3 F_Stair_limited (fVar 0) (fCons (fVar 2) (fCons (fVar 3) fNil))) fNil) (fCons (fMeth "Stair" "ranges" 3 F_Stair_ranges (fVar 0) (fCons (fVar 2) (fCons (fVar 3) fNil))) (fCons (fMeth "Stair" "cut_in" 3 F_Stair_cut_in (fVar 0) (fCons (fVar 2) (fCons (fVar 3) fNil))) fNil))))) (sSeq (sIf (fOr (fT (fBin dNe (fVar 6) (fVar 5))) (fNot (fT (fCB dAll (fCons (fLc (fSeq (fBin dAdd (fBin dIx (fVar 6) (fC (.int 1))) (fBin dIx (fVar 6) (fC (.int 2))))) (.nm 9) (fC true) (fIs (isB CL "tuple") (fVar 9)) [9]) fNil))))) (sRet (fC (.bl false))) sSkip) (sSeq (sExp (fMt chkL mAppend (fBin dIx (fVar 6) (fC (.int 1))) (fCons (fC .non) fNil))) (sSeq (sExp (fMt0 chkL mClear (fBin dIx (fVar 6) (fC (.int 2))))) (sSeq (sSet 7 (fLst (fCons (fMethK "Stair" "limited" 3 2 [0, 2, 1] F_Stair_limited (fVar 0) (fCons (fVar 3) (fCons (fVar 2) fNil))) (fCons (fMethK "Stair" "ranges" 3 2 [0, 2, 1] F_Stair_ranges (fVar 0) (fCons (fVar 3) (fCons (fVar 2) fNil))) (fCons (fMethK "Stair" "cut_in" 3 2 [0, 2, 1] F_Stair_cut_in (fVar 0) (fCons (fVar 3) (fCons (fVar 2) fNil))) fNil))))) (sRet (fAndV (fBin dEq (fLst (fCons (fMeth "Stair" "steps" 1 F_Stair_steps (fBin dIx (fVar 7) (fC (.int 0))) fNil) (fCons (fBin dIx (fVar 7) (fC (.int 1))) (fCons (fBin dIx (fVar 7) (fC (.int 2))) fNil)))) (fVar 5)) (fIs (isC CL "Stair") (fBin dIx (fVar 7) (fC (.int 0))))))))))))))
def F_law_range_right : FD := clean (fnD 10 b_law_range_right)
theorem ok_law_range_right {f : Addr} {fd : FuncData} (hd : Hd K mg) (G_law_form : FnG P w K mg base "_law_form" ["_law_carry_here"] 1 F_law_form) (G_law_ranges : FnG P w K mg base "_law_ranges" ["_law_marks"] 1 F_law_ranges) (M_Stair_limited : MtG P w K mg base "Stair" "limited" ["self", "first", "end"] 7 F_Stair_limited) (M_Stair_steps : MtG P w K mg base "Stair" "steps" ["self"] 1 F_Stair_steps) (M_Stair_ranges : MtG P w K mg base "Stair" "ranges" ["self", "first", "end"] 8 F_Stair_ranges) (M_Stair_cut_in : MtG P w K mg base "Stair" "cut_in" ["self", "first", "end"] 8 F_Stair_cut_in) (W_Stair_limited_end_first : MtK P w K mg base "Stair" "limited" ["self", "first", "end"] ["end", "first"] [0, 2, 1] 7 F_Stair_limited) (W_Stair_ranges_end_first : MtK P w K mg base "Stair" "ranges" ["self", "first", "end"] ["end", "first"] [0, 2, 1] 8 F_Stair_ranges) (W_Stair_cut_in_end_first : MtK P w K mg base "Stair" "cut_in" ["self", "first", "end"] ["end", "first"] [0, 2, 1] 8 F_Stair_cut_in) (F : FnP K "_law_range_right" "_law_range_right" s_law_range_right f fd) : FnOk P w K mg base (L2.CX P w) 9 f fd ["_law_made", "_law_carry_here", "_law_low", "_law_high"] (spD K 4 F_law_range_right) :=
  FnOk.clean (fn_def F sc_law_range_right fun cdv A outer s H E hr => (ds_cons (by exact (ds_setLcK (own := [("_law_mark", 8)]) (t := (.nm 8)) (ft := (fT (fChain dLe dLt (fVar 2) (fVar 8) (fVar 3)))) (fe := (fVar 8)) 1 4 rfl sc_law_range_right.nd (blkOk_by rfl) (by decide) (by exact fun _ _ _ _ _ => (pg_nm 8 sc_law_range_right.nd)) (by exact fun _ _ _ _ _ => (dts_one (dt_leLt (de_var 2) (de_var 8) (de_var 3)))) (by exact fun _ _ _ _ _ => (de_var 8)) rfl)) (by exact (ds_cons (by exact (ds_set 5 sc_law_range_right.nd (de_lstC (da_cons (de_callN G_law_form (hr.mono (by omega)) hx_of (da_cons (de_callTy (call_dictP rfl) cd_dict hd.g_dict bt_dict (da_cons (de_lc (own := [("_law_mark", 8)]) (t := (.nm 8)) (ft := (fC true)) (fe := (fTup (fCons (fVar 8) (fCons (fBin dGet (fVar 1) (fVar 8)) fNil)))) rfl sc_law_range_right.nd (di_seq (de_var 4)) (blkOk_by rfl) (by decide) (by exact fun _ _ _ _ _ => (pg_nm 8 sc_law_range_right.nd)) (by exact fun _ _ _ _ _ => dts_nil) (by exact fun _ _ _ _ _ => (de_tup (da_cons (de_var 8) (da_cons (de_dget hr (de_var 1) (de_var 8)) da_nil))))) da_nil)) da_nil)) (da_cons (de_callN G_law_ranges (hr.mono (by omega)) hx_of (da_cons (de_lc (own := [("_law_mark", 8)]) (t := (.nm 8)) (ft := (fC true)) (fe := (fBin dGet (fVar 1) (fVar 8))) rfl sc_law_range_right.nd (di_seq (de_var 4)) (blkOk_by rfl) (by decide) (by exact fun _ _ _ _ _ => (pg_nm 8 sc_law_range_right.nd)) (by exact fun _ _ _ _ _ => dts_nil) (by exact fun _ _ _ _ _ => (de_dget hr (de_var 1) (de_var 8)))) da_nil)) da_nil))))) (by exact (ds_cons (by exact (ds_exp (de_append (de_var 5) (da_cons (de_callN G_law_ranges (hr.mono (by omega)) hx_of (da_cons (de_lc (own := [("_law_mark", 8)]) (t := (.nm 8)) (ft := (fT (fNotIn (fVar 8) (fVar 1)))) (fe := (fVar 8)) rfl sc_law_range_right.nd (di_range2 (da_cons (de_var 2) (da_cons (de_var 3) da_nil)) hd.g_range) (blkOk_by rfl) (by decide) (by exact fun _ _ _ _ _ => (pg_nm 8 sc_law_range_right.nd)) (by exact fun _ _ _ _ _ => (dts_one (dt_notIn hr (de_var 8) (de_var 1)))) (by exact fun _ _ _ _ _ => (de_var 8))) da_nil)) da_nil)))) (by exact (ds_cons (by exact (ds_set 6 sc_law_range_right.nd (de_lst (da_cons (de_meth0N hd.c_Stair M_Stair_steps (hr.mono (by omega)) hx_of (de_methN hd.c_Stair M_Stair_limited (hr.mono (by omega)) hx_of (de_var 0) (da_cons (de_var 2) (da_cons (de_var 3) da_nil)))) (da_cons (de_methN hd.c_Stair M_Stair_ranges (hr.mono (by omega)) hx_of (de_var 0) (da_cons (de_var 2) (da_cons (de_var 3) da_nil))) (da_cons (de_methN hd.c_Stair M_Stair_cut_in (hr.mono (by omega)) hx_of (de_var 0) (da_cons (de_var 2) (da_cons (de_var 3) da_nil))) da_nil)))))) (by exact (ds_cons (by exact (ds_if (dt_w (dw_or (dt_ne hr (de_var 6) (de_var 5)) (dw_or1 (dt_not (dt_val (de_callB (cr_all rfl) cd_all hd.g_all bt_all (da_cons (de_lc (own := [("_law_some", 9)]) (t := (.nm 9)) (ft := (fC true)) (fe := (fIs (isB CL "tuple") (fVar 9))) rfl sc_law_range_right.nd (di_seq (de_add (de_sq (de_var 6) de_int) (de_sq (de_var 6) de_int))) (blkOk_by rfl) (by decide) (by exact fun _ _ _ _ _ => (pg_nm 9 sc_law_range_right.nd)) (by exact fun _ _ _ _ _ => dts_nil) (by exact fun _ _ _ _ _ => (de_isB (T' := "tuple") hd.isa (de_var 9) hd.g_isinstance hd.g_tuple bt_tuple))) da_nil))))))) (ds_one (ds_ret de_bl)) ds_nil)) (by exact (ds_cons (by exact (ds_exp (de_append (de_sq (de_var 6) de_int) (da_cons de_non da_nil)))) (by exact (ds_cons (by exact (ds_exp (de_clear (de_sq (de_var 6) de_int)))) (by exact (ds_cons (by exact (ds_set 7 sc_law_range_right.nd (de_lst (da_cons (de_methKN hd.c_Stair W_Stair_limited_end_first (hr.mono (by omega)) hx_of (de_var 0) (dk_cons (de_var 3) (dk_cons (de_var 2) dk_nil))) (da_cons (de_methKN hd.c_Stair W_Stair_ranges_end_first (hr.mono (by omega)) hx_of (de_var 0) (dk_cons (de_var 3) (dk_cons (de_var 2) dk_nil))) (da_cons (de_methKN hd.c_Stair W_Stair_cut_in_end_first (hr.mono (by omega)) hx_of (de_var 0) (dk_cons (de_var 3) (dk_cons (de_var 2) dk_nil))) da_nil)))))) (by exact (ds_one (ds_ret (de_and (de_eq hr (de_lst (da_cons (de_meth0N hd.c_Stair M_Stair_steps (hr.mono (by omega)) hx_of (de_sq (de_var 7) de_int)) (da_cons (de_sq (de_var 7) de_int) (da_cons (de_sq (de_var 7) de_int) da_nil)))) (de_var 5)) (de_one (de_isC hd.isa (de_sq (de_var 7) de_int) hd.g_isinstance hd.m_Stair (by decide)))))))))))))))))))))))
abbrev s_law_right : Stmt := top 33
theorem sc_law_right : FnScope ["_law_pot_here", "_law_rows", "_law_made", "_law_carry_here", "_law_edges", "_law_elder", "_law_newer", "_law_size", "_law_turn", "_law_low", "_law_high", "_law_middle", "_law_parts"] ["_law_pot_here"] (defScope s_law_right) := ⟨rfl, rfl, rfl, by decide +kernel, rfl, by decide +kernel, by decide +kernel⟩
-- slots: 0 _law_pot_here, 1 _law_rows, 2 _law_made, 3 _law_carry_here, 4 _law_edges, 5 _law_elder, 6 _law_newer, 7 _law_size, 8 _law_turn, 9 _law_low, 10 _law_high, 11 _law_middle, 12 _law_parts
def b_law_right_for : DenS := (sExp (fMt chkL mExtend (fVar 4) (fCons (fLst (fCons (fVar 5) (fCons (fBin dAdd (fVar 5) (fVar 7)) (fCons (fBin dAdd (fVar 5) (fCall 2 F_law_draw (fCons (fVar 0) (fCons (fVar 7) fNil)))) (fCons (fBin dAdd (fBin dAdd (fVar 5) (fVar 7)) (fC (.int 1))) fNil))))) fNil)))
def b_law_right_for2 : DenS := (sSeq (sPar [9, 10] (fCons (fCall 2 F_law_pick (fCons (fVar 0) (fCons (fVar 4) fNil))) (fCons (fCall 2 F_law_pick (fCons (fVar 0) (fCons (fVar 4) fNil))) fNil))) (sSeq (sIf (fT (fBin dGt (fVar 9) (fVar 10))) (sPar [9, 10] (fCons (fVar 10) (fCons (fVar 9) fNil))) sSkip) (sIf (fNot (fT (fCall 4 F_law_range_right (fCons (fVar 2) (fCons (fVar 3) (fCons (fVar 9) (fCons (fBin dAdd (fVar 10) (fCB dInt (fCons (fBin dEq (fVar 9) (fVar 10)) fNil))) fNil))))))) (sRet (fC (.bl false))) sSkip)))
def b_law_right : DenS := (sSeq (sSet 1 (fCall 2 F_law_steps (fCons (fVar 0) (fCons (fC (.int 9)) fNil)))) (sSeq (sPar [2, 3] (fCons (fMake "Stair" 2 F_StairD_initD (fCons (fVar 1) fNil)) (fCons (fCall 1 F_law_carry (fCons (fVar 1) fNil)) fNil))) (sSeq (sSet 4 (fLstC (fCons (fUn dNeg (fC (.int 9))) (fCons (fC (.int 70)) fNil)))) (sSeq (sFor (fSeq (fVar 1)) (gT 3 (gCons (gN 5) (gCons (gN 6) (gCons (gN 7) gNil)))) b_law_right_for) (sSeq (sFor (fRange1 (fCons (fC (.int 14)) fNil)) (gN 8) b_law_right_for2) (sSeq (sIf (fOr (fNot (fT (fCall 4 F_law_range_right (fCons (fVar 2) (fCons (fVar 3) (fCons (fUn dNeg (fC (.int 9))) (fCons (fC (.int 71)) fNil))))))) (fNot (fT (fBin (dOwn "Stair" 2 F_StairD_eqD) (fMeth "Stair" "limited" 3 F_Stair_limited (fVar 2) (fCons (fUn dNeg (fC (.int 9))) (fCons (fC (.int 71)) fNil))) (fVar 2))))) (sRet (fC (.bl false))) sSkip) (sSeq (sSet 11 (fCall 2 F_law_pick (fCons (fVar 0) (fCons (fBin dAdd (fLst (fCons (fC (.int 0)) (fCons (fC (.int 1)) (fCons (fC (.int 2)) fNil)))) (fSl (fVar 4) (fPt (fC (.int 2))) fNo)) fNil)))) (sSeq (sSet 12 (fBin dAdd (fMeth "Stair" "steps" 1 F_Stair_steps (fMeth "Stair" "limited" 3 F_Stair_limited (fVar 2) (fCons (fUn dNeg (fC (.int 9))) (fCons (fVar 11) fNil))) fNil) (fMeth "Stair" "steps" 1 F_Stair_steps (fMeth "Stair" "limited" 3 F_Stair_limited (fVar 2) (fCons (fVar 11) (fCons (fC (.int 71)) fNil))) fNil))) (sRet (fAndV (fBin (dOwn "Stair" 2 F_StairD_eqD) (fMake "Stair" 2 F_StairD_initD (fCons (fVar 12) fNil)) (fVar 2)) (fBin dEq (fMeth "Stair" "steps" 1 F_Stair_steps (fVar 2) fNil) (fCall 1 F_law_form (fCons (fVar 3) fNil)))))))))))))
def F_law_right : FD := clean (fnD 13 b_law_right)
theorem ok_law_right {f : Addr} {fd : FuncData} (hd : Hd K mg) (G_law_steps : FnG P w K mg base "_law_steps" ["_law_pot_here", "_law_most"] 2 F_law_steps) (K_Stair : MkG P w K mg base "Stair" ["self", "steps"] 4 F_StairD_initD) (G_law_carry : FnG P w K mg base "_law_carry" ["_law_steps_here"] 1 F_law_carry) (G_law_draw : FnG P w K mg base "_law_draw" ["_law_pot_here", "_law_size"] 1 F_law_draw) (G_law_pick : FnG P w K mg base "_law_pick" ["_law_pot_here", "_law_some"] 2 F_law_pick) (G_law_range_right : FnG P w K mg base "_law_range_right" ["_law_made", "_law_carry_here", "_law_low", "_law_high"] 9 F_law_range_right) (M_Stair_limited : MtG P w K mg base "Stair" "limited" ["self", "first", "end"] 7 F_Stair_limited) (O_Stair : OwnG P w K mg base "Stair" "__eq__" ["self", "other"] 1 F_StairD_eqD) (M_Stair_steps : MtG P w K mg base "Stair" "steps" ["self"] 1 F_Stair_steps) (G_law_form : FnG P w K mg base "_law_form" ["_law_carry_here"] 1 F_law_form) (F : FnP K "_law_right" "_law_right" s_law_right f fd) : FnOk P w K mg base (L2.CX P w) 10 f fd ["_law_pot_here"] (spD K 1 F_law_right) :=
  FnOk.clean (fn_def F sc_law_right fun cdv A outer s H E hr => (ds_cons (by exact (ds_set 1 sc_law_right.nd (de_callN G_law_steps (hr.mono (by omega)) hx_of (da_cons (de_var 0) (da_cons de_int da_nil))))) (by exact (ds_cons (by exact (ds_par2 2 3 rfl sc_law_right.nd (da_cons (de_makeN K_Stair (hr.mono (by omega)) hx_of (da_cons (de_var 1) da_nil)) (da_cons (de_callN G_law_carry (hr.mono (by omega)) hx_of (da_cons (de_var 1) da_nil)) da_nil)))) (by exact (ds_cons (by exact (ds_set 4 sc_law_right.nd (de_lstC (da_cons (de_neg de_int) (da_cons de_int da_nil))))) (by exact (ds_cons (by exact (ds_for hp_of rfl (di_seq (de_var 1)) (dg_t rfl (dgs_cons (dg_n 5 sc_law_right.nd) (dgs_cons (dg_n 6 sc_law_right.nd) (dgs_cons (dg_n 7 sc_law_right.nd) dgs_nil)))) (ds_one (ds_exp (de_extend (de_var 4) (da_cons (de_lst (da_cons (de_var 5) (da_cons (de_add (de_var 5) (de_var 7)) (da_cons (de_add (de_var 5) (de_callN G_law_draw (hr.mono (by omega)) hx_of (da_cons (de_var 0) (da_cons (de_var 7) da_nil)))) (da_cons (de_add (de_add (de_var 5) (de_var 7)) de_int) da_nil))))) da_nil)))))) (by exact (ds_cons (by exact (ds_for hp_of rfl (di_range1 (da_cons de_int da_nil) hd.g_range) (dg_n 8 sc_law_right.nd) (ds_cons (by exact (ds_par2 9 10 rfl sc_law_right.nd (da_cons (de_callN G_law_pick (hr.mono (by omega)) hx_of (da_cons (de_var 0) (da_cons (de_var 4) da_nil))) (da_cons (de_callN G_law_pick (hr.mono (by omega)) hx_of (da_cons (de_var 0) (da_cons (de_var 4) da_nil))) da_nil)))) (by exact (ds_cons (by exact (ds_if (dt_gt (de_var 9) (de_var 10)) (ds_one (ds_par2 9 10 rfl sc_law_right.nd (da_cons (de_var 10) (da_cons (de_var 9) da_nil)))) ds_nil)) (by exact (ds_one (ds_if (dt_not (dt_val (de_callN G_law_range_right (hr.mono (by omega)) hx_of (da_cons (de_var 2) (da_cons (de_var 3) (da_cons (de_var 9) (da_cons (de_add (de_var 10) (de_callTy call_int1 cd_int hd.g_int bt_int (da_cons (de_eq hr (de_var 9) (de_var 10)) da_nil))) da_nil))))))) (ds_one (ds_ret de_bl)) ds_nil)))))))) (by exact (ds_cons (by exact (ds_if (dt_w (dw_or (dt_not (dt_val (de_callN G_law_range_right (hr.mono (by omega)) hx_of (da_cons (de_var 2) (da_cons (de_var 3) (da_cons (de_neg de_int) (da_cons de_int da_nil))))))) (dw_or1 (dt_not (dt_ownEqN O_Stair (hr.mono (by omega)) (de_methN hd.c_Stair M_Stair_limited (hr.mono (by omega)) hx_of (de_var 2) (da_cons (de_neg de_int) (da_cons de_int da_nil))) (de_var 2)))))) (ds_one (ds_ret de_bl)) ds_nil)) (by exact (ds_cons (by exact (ds_set 11 sc_law_right.nd (de_callN G_law_pick (hr.mono (by omega)) hx_of (da_cons (de_var 0) (da_cons (de_add (de_lst (da_cons de_int (da_cons de_int (da_cons de_int da_nil)))) (de_slice (de_var 4) (do_pt de_int) do_no)) da_nil))))) (by exact (ds_cons (by exact (ds_set 12 sc_law_right.nd (de_add (de_meth0N hd.c_Stair M_Stair_steps (hr.mono (by omega)) hx_of (de_methN hd.c_Stair M_Stair_limited (hr.mono (by omega)) hx_of (de_var 2) (da_cons (de_neg de_int) (da_cons (de_var 11) da_nil)))) (de_meth0N hd.c_Stair M_Stair_steps (hr.mono (by omega)) hx_of (de_methN hd.c_Stair M_Stair_limited (hr.mono (by omega)) hx_of (de_var 2) (da_cons (de_var 11) (da_cons de_int da_nil))))))) (by exact (ds_one (ds_ret (de_and (de_ownEqN O_Stair (hr.mono (by omega)) (de_makeN K_Stair (hr.mono (by omega)) hx_of (da_cons (de_var 12) da_nil)) (de_var 2)) (de_one (de_eq hr (de_meth0N hd.c_Stair M_Stair_steps (hr.mono (by omega)) hx_of (de_var 2)) (de_callN G_law_form (hr.mono (by omega)) hx_of (da_cons (de_var 3) da_nil))))))))))))))))))))))))
abbrev s_law : Stmt := top 34
theorem sc_law : FnScope ["_law_script", "_law_k"] ["_law_script"] (defScope s_law) := ⟨rfl, rfl, rfl, by decide +kernel, rfl, by decide +kernel, by decide +kernel⟩
-- slots: 0 _law_script, 1 _law_k
def b_law : DenS := (sRet (fCB dAll (fCons (fLc (fRange1 (fCons (fCB dMax (fCons (fC (.int 1)) (fCons (fCB dMin (fCons (fCB dLen (fCons (fVar 0) fNil)) (fCons (fC (.int 4)) fNil))) fNil))) fNil)) (.nm 1) (fC true) (fCall 1 F_law_right (fCons (fCall 2 F_law_pot (fCons (fVar 0) (fCons (fVar 1) fNil))) fNil)) [1]) fNil)))
def F_law : FD := clean (fnD 2 b_law)
theorem ok_law {f : Addr} {fd : FuncData} (hd : Hd K mg) (G_law_right : FnG P w K mg base "_law_right" ["_law_pot_here"] 10 F_law_right) (G_law_pot : FnG P w K mg base "_law_pot" ["_law_script", "_law_k"] 1 F_law_pot) (F : FnP K "law" "law" s_law f fd) : FnOk P w K mg base (L2.CX P w) 11 f fd ["_law_script"] (spD K 1 F_law) :=
  FnOk.clean (fn_def F sc_law fun cdv A outer s H E hr => (ds_one (ds_ret (de_callB (cr_all rfl) cd_all hd.g_all bt_all (da_cons (de_lc (own := [("_law_k", 1)]) (t := (.nm 1)) (ft := (fC true)) (fe := (fCall 1 F_law_right (fCons (fCall 2 F_law_pot (fCons (fVar 0) (fCons (fVar 1) fNil))) fNil))) rfl sc_law.nd (di_range1 (da_cons (de_callB (call_max2 rfl) cd_max hd.g_max bt_max (da_cons de_int (da_cons (de_callB (call_min2 rfl) cd_min hd.g_min bt_min (da_cons (de_callB call_len cd_len hd.g_len bt_len (da_cons (de_var 0) da_nil)) (da_cons de_int da_nil))) da_nil))) da_nil) hd.g_range) (blkOk_by rfl) (by decide) (by exact fun _ _ _ _ _ => (pg_nm 1 sc_law.nd)) (by exact fun _ _ _ _ _ => dts_nil) (by exact fun _ _ _ _ _ => (de_callN G_law_right (hr.mono (by omega)) pass00 (da_cons (de_callN G_law_pot (hr.mono (by omega)) pass00 (da_cons (de_var 0) (da_cons (de_var 1) da_nil))) da_nil)))) da_nil)))))
end K13


set_option Elab.async false
set_option linter.all false
set_option maxRecDepth 100000
set_option maxHeartbeats 0
namespace K13
open PySem PySem.Spec PyProof.Rows L2 Dn
def d_is_integer : He.DefD := ⟨("is_integer", none), "is_integer", "is_integer", defArgs s_is_integer, defBody s_is_integer, defScope s_is_integer, [], []⟩
def d_is_list : He.DefD := ⟨("is_list", none), "is_list", "is_list", defArgs s_is_list, defBody s_is_list, defScope s_is_list, [], []⟩
def d_want_range : He.DefD := ⟨("want_range", none), "want_range", "want_range", defArgs s_want_range, defBody s_want_range, defScope s_want_range, [], []⟩
def d_joined_ranges : He.DefD := ⟨("joined_ranges", none), "joined_ranges", "joined_ranges", defArgs s_joined_ranges, defBody s_joined_ranges, defScope s_joined_ranges, [], []⟩
def d_is_step : He.DefD := ⟨("is_step", none), "is_step", "is_step", defArgs s_is_step, defBody s_is_step, defScope s_is_step, [], []⟩
def d_does_rise : He.DefD := ⟨("does_rise", none), "does_rise", "does_rise", defArgs s_does_rise, defBody s_does_rise, defScope s_does_rise, [], []⟩
def d_want_steps : He.DefD := ⟨("want_steps", none), "want_steps", "want_steps", defArgs s_want_steps, defBody s_want_steps, defScope s_want_steps, [], []⟩
def d_does_go_on : He.DefD := ⟨("does_go_on", none), "does_go_on", "does_go_on", defArgs s_does_go_on, defBody s_does_go_on, defScope s_does_go_on, [], []⟩
def d_one_form : He.DefD := ⟨("one_form", none), "one_form", "one_form", defArgs s_one_form, defBody s_one_form, defScope s_one_form, [], []⟩
def d_clipped : He.DefD := ⟨("clipped", none), "clipped", "clipped", defArgs s_clipped, defBody s_clipped, defScope s_clipped, [], []⟩
def d_RightStepsD_initD : He.DefD := ⟨("RightSteps", some "__init__"), "__init__", "RightSteps.__init__", defArgs s_RightStepsD_initD, defBody s_RightStepsD_initD, defScope s_RightStepsD_initD, [], []⟩
def d_StairD_initD : He.DefD := ⟨("Stair", some "__init__"), "__init__", "Stair.__init__", defArgs s_StairD_initD, defBody s_StairD_initD, defScope s_StairD_initD, [], []⟩
def d_stair_of : He.DefD := ⟨("stair_of", none), "stair_of", "stair_of", defArgs s_stair_of, defBody s_stair_of, defScope s_stair_of, [], []⟩
def d_Stair_steps : He.DefD := ⟨("Stair", some "steps"), "steps", "Stair.steps", defArgs s_Stair_steps, defBody s_Stair_steps, defScope s_Stair_steps, [], []⟩
def d_Stair_limited : He.DefD := ⟨("Stair", some "limited"), "limited", "Stair.limited", defArgs s_Stair_limited, defBody s_Stair_limited, defScope s_Stair_limited, [], []⟩
def d_Stair_ranges : He.DefD := ⟨("Stair", some "ranges"), "ranges", "Stair.ranges", defArgs s_Stair_ranges, defBody s_Stair_ranges, defScope s_Stair_ranges, [], []⟩
def d_Stair_cut_in : He.DefD := ⟨("Stair", some "cut_in"), "cut_in", "Stair.cut_in", defArgs s_Stair_cut_in, defBody s_Stair_cut_in, defScope s_Stair_cut_in, [], []⟩
def d_StairD_eqD : He.DefD := ⟨("Stair", some "__eq__"), "__eq__", "Stair.__eq__", defArgs s_StairD_eqD, defBody s_StairD_eqD, defScope s_StairD_eqD, [], []⟩
def d_law_pot : He.DefD := ⟨("_law_pot", none), "_law_pot", "_law_pot", defArgs s_law_pot, defBody s_law_pot, defScope s_law_pot, [], []⟩
def d_law_draw : He.DefD := ⟨("_law_draw", none), "_law_draw", "_law_draw", defArgs s_law_draw, defBody s_law_draw, defScope s_law_draw, [], []⟩
def d_law_pick : He.DefD := ⟨("_law_pick", none), "_law_pick", "_law_pick", defArgs s_law_pick, defBody s_law_pick, defScope s_law_pick, [], []⟩
def d_law_steps : He.DefD := ⟨("_law_steps", none), "_law_steps", "_law_steps", defArgs s_law_steps, defBody s_law_steps, defScope s_law_steps, [], []⟩
def d_law_carry : He.DefD := ⟨("_law_carry", none), "_law_carry", "_law_carry", defArgs s_law_carry, defBody s_law_carry, defScope s_law_carry, [], []⟩
def d_law_form : He.DefD := ⟨("_law_form", none), "_law_form", "_law_form", defArgs s_law_form, defBody s_law_form, defScope s_law_form, [], []⟩
def d_law_ranges : He.DefD := ⟨("_law_ranges", none), "_law_ranges", "_law_ranges", defArgs s_law_ranges, defBody s_law_ranges, defScope s_law_ranges, [], []⟩
def d_law_range_right : He.DefD := ⟨("_law_range_right", none), "_law_range_right", "_law_range_right", defArgs s_law_range_right, defBody s_law_range_right, defScope s_law_range_right, [], []⟩
def d_law_right : He.DefD := ⟨("_law_right", none), "_law_right", "_law_right", defArgs s_law_right, defBody s_law_right, defScope s_law_right, [], []⟩
def d_law : He.DefD := ⟨("law", none), "law", "law", defArgs s_law, defBody s_law, defScope s_law, [], []⟩
def fn : List He.DefD := [d_is_integer, d_is_list, d_want_range, d_joined_ranges, d_is_step, d_does_rise, d_want_steps, d_does_go_on, d_one_form, d_clipped, d_RightStepsD_initD, d_StairD_initD, d_stair_of, d_Stair_steps, d_Stair_limited, d_Stair_ranges, d_Stair_cut_in, d_StairD_eqD, d_law_pot, d_law_draw, d_law_pick, d_law_steps, d_law_carry, d_law_form, d_law_ranges, d_law_range_right, d_law_right, d_law]
def fa : List He.Fa := [.free "isinstance", .free "int", .free "bool", .free "list", .free "tuple", .free "sorted", .free "max", .free "len", .free "all", .free "enumerate", .free "min", .cls "RightSteps", .noat "RightSteps" "told_steps", .glo "RightSteps", .cls "Stair", .noat "Stair" "own_steps", .glo "Stair", .free "abs", .free "divmod", .free "range", .free "dict", .glo "is_integer", .glo "is_list", .glo "want_range", .glo "joined_ranges", .glo "is_step", .glo "does_rise", .glo "want_steps", .glo "does_go_on", .glo "one_form", .glo "clipped", .mkr "RightSteps", .mkr "Stair", .glo "stair_of", .meth "Stair" "steps", .meth "Stair" "limited", .meth "Stair" "ranges", .meth "Stair" "cut_in", .meth "Stair" "__eq__", .glo "_law_pot", .glo "_law_draw", .glo "_law_pick", .glo "_law_steps", .glo "_law_carry", .glo "_law_form", .glo "_law_ranges", .glo "_law_range_right", .glo "_law_right", .glo "law"]
def ex (K : PySem.W.Frag) : Bool := isaB CL K && (cvB "Stair" "MOST_STEPS" 60 K && (true))
def loose : List Str := ["_wall", "RoadError", "InvalidSteps", "InvalidMark", "InvalidRange", "LimitError", "TooMany", "is_integer", "is_list", "want_range", "joined_ranges", "is_step", "does_rise", "want_steps", "one_form", "does_go_on", "clipped", "RightSteps", "stair_of", "back_of_stair", "Stair", "_law_pot", "_law_draw", "_law_pick", "_law_steps", "_law_carry", "_law_form", "_law_ranges", "_law_range_right", "_law_right"]
abbrev R : PySem.W.OpenRow := PySem.W.OpenLaw.row PySem.Challenge.rw_roadstairs_k13_ranges_carried_and_cut
abbrev hk : PySem.W.Hook := hookB 5 fa fn ex
def ob (s : PySem.W.SharedT) : AlB := obsB 5 fa fn ex (HandSHeadRun.getT s)
theorem ob_eq (s : PySem.W.SharedT) : ob s = hk.obs s.abs := obsB_eq (HandSHeadRun.getT_eq s)
theorem run (w : World) : HandSHeadRun.RunEq R (PySem.W.view R.prog [34]) hk ob 9000 loose w := by
  intro os
  kernel_rfl
theorem facts {P : Program} {w : World} {K : PySem.W.Frag} {h : Heap} {mg : Str → Option Value} {f : Addr} (X : K.In h) (G : h.Ns mainGlobals mg) (hfa : mg ("law" : Str) = some (.ref f)) (c : SaysB fa fn ex K) :
    ∃ fd : FuncData, (∀ (s : Shared) (v : Value), BindsTo s fd ⟨[v], []⟩ [("_law_script", v)]) ∧ ∀ base : Heap, K.In base → base.Ns mainGlobals mg → FnOk P w K mg base (L2.CX P w) 11 f fd ["_law_script"] (spD K 1 F_law) := by
  obtain ⟨fd_is_integer, F_is_integer'⟩ := c.d.def_ 0 (d := d_is_integer) rfl
  obtain ⟨fd_is_list, F_is_list'⟩ := c.d.def_ 1 (d := d_is_list) rfl
  obtain ⟨fd_want_range, F_want_range'⟩ := c.d.def_ 2 (d := d_want_range) rfl
  obtain ⟨fd_joined_ranges, F_joined_ranges'⟩ := c.d.def_ 3 (d := d_joined_ranges) rfl
  obtain ⟨fd_is_step, F_is_step'⟩ := c.d.def_ 4 (d := d_is_step) rfl
  obtain ⟨fd_does_rise, F_does_rise'⟩ := c.d.def_ 5 (d := d_does_rise) rfl
  obtain ⟨fd_want_steps, F_want_steps'⟩ := c.d.def_ 6 (d := d_want_steps) rfl
  obtain ⟨fd_does_go_on, F_does_go_on'⟩ := c.d.def_ 7 (d := d_does_go_on) rfl
  obtain ⟨fd_one_form, F_one_form'⟩ := c.d.def_ 8 (d := d_one_form) rfl
  obtain ⟨fd_clipped, F_clipped'⟩ := c.d.def_ 9 (d := d_clipped) rfl
  obtain ⟨fd_RightStepsD_initD, F_RightStepsD_initD'⟩ := c.d.def_ 10 (d := d_RightStepsD_initD) rfl
  obtain ⟨fd_StairD_initD, F_StairD_initD'⟩ := c.d.def_ 11 (d := d_StairD_initD) rfl
  obtain ⟨fd_stair_of, F_stair_of'⟩ := c.d.def_ 12 (d := d_stair_of) rfl
  obtain ⟨fd_Stair_steps, F_Stair_steps'⟩ := c.d.def_ 13 (d := d_Stair_steps) rfl
  obtain ⟨fd_Stair_limited, F_Stair_limited'⟩ := c.d.def_ 14 (d := d_Stair_limited) rfl
  obtain ⟨fd_Stair_ranges, F_Stair_ranges'⟩ := c.d.def_ 15 (d := d_Stair_ranges) rfl
  obtain ⟨fd_Stair_cut_in, F_Stair_cut_in'⟩ := c.d.def_ 16 (d := d_Stair_cut_in) rfl
  obtain ⟨fd_StairD_eqD, F_StairD_eqD'⟩ := c.d.def_ 17 (d := d_StairD_eqD) rfl
  obtain ⟨fd_law_pot, F_law_pot'⟩ := c.d.def_ 18 (d := d_law_pot) rfl
  obtain ⟨fd_law_draw, F_law_draw'⟩ := c.d.def_ 19 (d := d_law_draw) rfl
  obtain ⟨fd_law_pick, F_law_pick'⟩ := c.d.def_ 20 (d := d_law_pick) rfl
  obtain ⟨fd_law_steps, F_law_steps'⟩ := c.d.def_ 21 (d := d_law_steps) rfl
  obtain ⟨fd_law_carry, F_law_carry'⟩ := c.d.def_ 22 (d := d_law_carry) rfl
  obtain ⟨fd_law_form, F_law_form'⟩ := c.d.def_ 23 (d := d_law_form) rfl
  obtain ⟨fd_law_ranges, F_law_ranges'⟩ := c.d.def_ 24 (d := d_law_ranges) rfl
  obtain ⟨fd_law_range_right, F_law_range_right'⟩ := c.d.def_ 25 (d := d_law_range_right) rfl
  obtain ⟨fd_law_right, F_law_right'⟩ := c.d.def_ 26 (d := d_law_right) rfl
  obtain ⟨fd_law, F_law'⟩ := c.d.def_ 27 (d := d_law) rfl
  have EX := c.more
  unfold ex at EX
  obtain ⟨EX0, EX⟩ := He.ba EX
  obtain ⟨EX1, EX⟩ := He.ba EX
  have hd : Hd K mg := ⟨He.free_ok X G (c.d.fact 0 (f := .free "isinstance") rfl), isaB_ok EX0, He.free_ok X G (c.d.fact 1 (f := .free "int") rfl), He.free_ok X G (c.d.fact 2 (f := .free "bool") rfl), He.free_ok X G (c.d.fact 3 (f := .free "list") rfl), He.free_ok X G (c.d.fact 4 (f := .free "tuple") rfl), He.free_ok X G (c.d.fact 5 (f := .free "sorted") rfl), He.free_ok X G (c.d.fact 6 (f := .free "max") rfl), He.free_ok X G (c.d.fact 7 (f := .free "len") rfl), He.free_ok X G (c.d.fact 8 (f := .free "all") rfl), He.free_ok X G (c.d.fact 9 (f := .free "enumerate") rfl), He.free_ok X G (c.d.fact 10 (f := .free "min") rfl), He.cls_ok (c.d.fact 11 (f := .cls "RightSteps") rfl), He.noat_ok (c.d.fact 12 (f := .noat "RightSteps" "told_steps") rfl), He.glo_ok X G (c.d.fact 13 (f := .glo "RightSteps") rfl), He.cls_ok (c.d.fact 14 (f := .cls "Stair") rfl), He.noat_ok (c.d.fact 15 (f := .noat "Stair" "own_steps") rfl), cvB_ok EX1, He.glo_ok X G (c.d.fact 16 (f := .glo "Stair") rfl), He.free_ok X G (c.d.fact 17 (f := .free "abs") rfl), He.free_ok X G (c.d.fact 18 (f := .free "divmod") rfl), He.free_ok X G (c.d.fact 19 (f := .free "range") rfl), He.free_ok X G (c.d.fact 20 (f := .free "dict") rfl)⟩
  have e := hfa.symm.trans (He.glo_ok X G (c.d.fact 48 (f := .glo "law") rfl))
  cases e
  have b := FunD.bindsA (ps := ["_law_script"]) F_law' fun _ _ _ _ _ _ us hl => match us, hl with | [_], _ => rfl
  refine ⟨fd_law, fun s v => b s [v] rfl, fun base _ _ => ?_⟩
  have o_is_integer := ok_is_integer (P := P) (w := w) (base := base) hd  F_is_integer'
  have G_is_integer : FnG P w K mg base "is_integer" ["value"] 1 F_is_integer := ⟨_, _, He.glo_ok X G (c.d.fact 21 (f := .glo "is_integer") rfl), o_is_integer, F_is_integer'.kp, (F_is_integer'.bindsN fun _ _ _ _ _ _ us hl => match us, hl with | [_], _ => rfl)⟩
  have o_is_list := ok_is_list (P := P) (w := w) (base := base) hd  F_is_list'
  have G_is_list : FnG P w K mg base "is_list" ["value"] 1 F_is_list := ⟨_, _, He.glo_ok X G (c.d.fact 22 (f := .glo "is_list") rfl), o_is_list, F_is_list'.kp, (F_is_list'.bindsN fun _ _ _ _ _ _ us hl => match us, hl with | [_], _ => rfl)⟩
  have o_want_range := ok_want_range (P := P) (w := w) (base := base) hd G_is_integer F_want_range'
  have G_want_range : FnG P w K mg base "want_range" ["first", "end"] 2 F_want_range := ⟨_, _, He.glo_ok X G (c.d.fact 23 (f := .glo "want_range") rfl), o_want_range, F_want_range'.kp, (F_want_range'.bindsN fun _ _ _ _ _ _ us hl => match us, hl with | [_, _], _ => rfl)⟩
  have o_joined_ranges := ok_joined_ranges (P := P) (w := w) (base := base) hd  F_joined_ranges'
  have G_joined_ranges : FnG P w K mg base "joined_ranges" ["ranges"] 1 F_joined_ranges := ⟨_, _, He.glo_ok X G (c.d.fact 24 (f := .glo "joined_ranges") rfl), o_joined_ranges, F_joined_ranges'.kp, (F_joined_ranges'.bindsN fun _ _ _ _ _ _ us hl => match us, hl with | [_], _ => rfl)⟩
  have o_is_step := ok_is_step (P := P) (w := w) (base := base) hd G_is_integer F_is_step'
  have G_is_step : FnG P w K mg base "is_step" ["value"] 2 F_is_step := ⟨_, _, He.glo_ok X G (c.d.fact 25 (f := .glo "is_step") rfl), o_is_step, F_is_step'.kp, (F_is_step'.bindsN fun _ _ _ _ _ _ us hl => match us, hl with | [_], _ => rfl)⟩
  have o_does_rise := ok_does_rise (P := P) (w := w) (base := base) hd  F_does_rise'
  have G_does_rise : FnG P w K mg base "does_rise" ["before", "step"] 1 F_does_rise := ⟨_, _, He.glo_ok X G (c.d.fact 26 (f := .glo "does_rise") rfl), o_does_rise, F_does_rise'.kp, (F_does_rise'.bindsN fun _ _ _ _ _ _ us hl => match us, hl with | [_, _], _ => rfl)⟩
  have o_want_steps := ok_want_steps (P := P) (w := w) (base := base) hd G_is_list G_is_step G_does_rise F_want_steps'
  have G_want_steps : FnG P w K mg base "want_steps" ["steps"] 3 F_want_steps := ⟨_, _, He.glo_ok X G (c.d.fact 27 (f := .glo "want_steps") rfl), o_want_steps, F_want_steps'.kp, (F_want_steps'.bindsN fun _ _ _ _ _ _ us hl => match us, hl with | [_], _ => rfl)⟩
  have o_does_go_on := ok_does_go_on (P := P) (w := w) (base := base) hd  F_does_go_on'
  have G_does_go_on : FnG P w K mg base "does_go_on" ["step", "elder", "newer"] 1 F_does_go_on := ⟨_, _, He.glo_ok X G (c.d.fact 28 (f := .glo "does_go_on") rfl), o_does_go_on, F_does_go_on'.kp, (F_does_go_on'.bindsN fun _ _ _ _ _ _ us hl => match us, hl with | [_, _, _], _ => rfl)⟩
  have o_one_form := ok_one_form (P := P) (w := w) (base := base) hd G_does_go_on F_one_form'
  have G_one_form : FnG P w K mg base "one_form" ["steps"] 2 F_one_form := ⟨_, _, He.glo_ok X G (c.d.fact 29 (f := .glo "one_form") rfl), o_one_form, F_one_form'.kp, (F_one_form'.bindsN fun _ _ _ _ _ _ us hl => match us, hl with | [_], _ => rfl)⟩
  have o_clipped := ok_clipped (P := P) (w := w) (base := base) hd  F_clipped'
  have G_clipped : FnG P w K mg base "clipped" ["step", "first", "end"] 1 F_clipped := ⟨_, _, He.glo_ok X G (c.d.fact 30 (f := .glo "clipped") rfl), o_clipped, F_clipped'.kp, (F_clipped'.bindsN fun _ _ _ _ _ _ us hl => match us, hl with | [_, _, _], _ => rfl)⟩
  have o_RightStepsD_initD := ok_RightStepsD_initD (P := P) (w := w) (base := base) hd G_one_form F_RightStepsD_initD'
  have K_RightSteps : MkG P w K mg base "RightSteps" ["self", "steps"] 3 F_RightStepsD_initD := ⟨_, _, He.mkr_ok (c.d.fact 31 (f := .mkr "RightSteps") rfl), He.glo_ok X G (c.d.fact 13 (f := .glo "RightSteps") rfl), o_RightStepsD_initD, (F_RightStepsD_initD'.bindsN fun _ _ _ _ _ _ us hl => match us, hl with | [_, _], _ => rfl)⟩
  have o_StairD_initD := ok_StairD_initD (P := P) (w := w) (base := base) hd G_want_steps G_one_form F_StairD_initD'
  have K_Stair : MkG P w K mg base "Stair" ["self", "steps"] 4 F_StairD_initD := ⟨_, _, He.mkr_ok (c.d.fact 32 (f := .mkr "Stair") rfl), He.glo_ok X G (c.d.fact 16 (f := .glo "Stair") rfl), o_StairD_initD, (F_StairD_initD'.bindsN fun _ _ _ _ _ _ us hl => match us, hl with | [_, _], _ => rfl)⟩
  have o_stair_of := ok_stair_of (P := P) (w := w) (base := base) hd K_Stair K_RightSteps F_stair_of'
  have G_stair_of : FnG P w K mg base "stair_of" ["steps"] 6 F_stair_of := ⟨_, _, He.glo_ok X G (c.d.fact 33 (f := .glo "stair_of") rfl), o_stair_of, F_stair_of'.kp, (F_stair_of'.bindsN fun _ _ _ _ _ _ us hl => match us, hl with | [_], _ => rfl)⟩
  have o_Stair_steps := ok_Stair_steps (P := P) (w := w) (base := base) hd  F_Stair_steps'
  have M_Stair_steps : MtG P w K mg base "Stair" "steps" ["self"] 1 F_Stair_steps := ⟨_, _, He.meth_ok (c.d.fact 34 (f := .meth "Stair" "steps") rfl), o_Stair_steps, (F_Stair_steps'.bindsN fun _ _ _ _ _ _ us hl => match us, hl with | [_], _ => rfl)⟩
  have o_Stair_limited := ok_Stair_limited (P := P) (w := w) (base := base) hd G_want_range G_clipped G_stair_of F_Stair_limited'
  have M_Stair_limited : MtG P w K mg base "Stair" "limited" ["self", "first", "end"] 7 F_Stair_limited := ⟨_, _, He.meth_ok (c.d.fact 35 (f := .meth "Stair" "limited") rfl), o_Stair_limited, (F_Stair_limited'.bindsN fun _ _ _ _ _ _ us hl => match us, hl with | [_, _, _], _ => rfl)⟩
  have W_Stair_limited_end_first : MtK P w K mg base "Stair" "limited" ["self", "first", "end"] ["end", "first"] [0, 2, 1] 7 F_Stair_limited := ⟨_, _, He.meth_ok (c.d.fact 35 (f := .meth "Stair" "limited") rfl), o_Stair_limited, kwB_of F_Stair_limited' fun _ _ _ _ _ _ us ws h1 h2 => match us, ws, h1, h2 with | [_], [_, _], _, _ => rfl⟩
  have o_Stair_ranges := ok_Stair_ranges (P := P) (w := w) (base := base) hd M_Stair_limited G_joined_ranges F_Stair_ranges'
  have M_Stair_ranges : MtG P w K mg base "Stair" "ranges" ["self", "first", "end"] 8 F_Stair_ranges := ⟨_, _, He.meth_ok (c.d.fact 36 (f := .meth "Stair" "ranges") rfl), o_Stair_ranges, (F_Stair_ranges'.bindsN fun _ _ _ _ _ _ us hl => match us, hl with | [_, _, _], _ => rfl)⟩
  have W_Stair_ranges_end_first : MtK P w K mg base "Stair" "ranges" ["self", "first", "end"] ["end", "first"] [0, 2, 1] 8 F_Stair_ranges := ⟨_, _, He.meth_ok (c.d.fact 36 (f := .meth "Stair" "ranges") rfl), o_Stair_ranges, kwB_of F_Stair_ranges' fun _ _ _ _ _ _ us ws h1 h2 => match us, ws, h1, h2 with | [_], [_, _], _, _ => rfl⟩
  have o_Stair_cut_in := ok_Stair_cut_in (P := P) (w := w) (base := base) hd M_Stair_limited F_Stair_cut_in'
  have M_Stair_cut_in : MtG P w K mg base "Stair" "cut_in" ["self", "first", "end"] 8 F_Stair_cut_in := ⟨_, _, He.meth_ok (c.d.fact 37 (f := .meth "Stair" "cut_in") rfl), o_Stair_cut_in, (F_Stair_cut_in'.bindsN fun _ _ _ _ _ _ us hl => match us, hl with | [_, _, _], _ => rfl)⟩
  have W_Stair_cut_in_end_first : MtK P w K mg base "Stair" "cut_in" ["self", "first", "end"] ["end", "first"] [0, 2, 1] 8 F_Stair_cut_in := ⟨_, _, He.meth_ok (c.d.fact 37 (f := .meth "Stair" "cut_in") rfl), o_Stair_cut_in, kwB_of F_Stair_cut_in' fun _ _ _ _ _ _ us ws h1 h2 => match us, ws, h1, h2 with | [_], [_, _], _, _ => rfl⟩
  have o_StairD_eqD := ok_StairD_eqD (P := P) (w := w) (base := base) hd  F_StairD_eqD'
  have O_Stair : OwnG P w K mg base "Stair" "__eq__" ["self", "other"] 1 F_StairD_eqD := ⟨_, _, (He.meth_ok (c.d.fact 38 (f := .meth "Stair" "__eq__") rfl)).at_, (He.meth_ok (c.d.fact 38 (f := .meth "Stair" "__eq__") rfl)).fn, o_StairD_eqD, (F_StairD_eqD'.bindsN fun _ _ _ _ _ _ us hl => match us, hl with | [_, _], _ => rfl)⟩
  have o_law_pot := ok_law_pot (P := P) (w := w) (base := base) hd  F_law_pot'
  have G_law_pot : FnG P w K mg base "_law_pot" ["_law_script", "_law_k"] 1 F_law_pot := ⟨_, _, He.glo_ok X G (c.d.fact 39 (f := .glo "_law_pot") rfl), o_law_pot, F_law_pot'.kp, (F_law_pot'.bindsN fun _ _ _ _ _ _ us hl => match us, hl with | [_, _], _ => rfl)⟩
  have o_law_draw := ok_law_draw (P := P) (w := w) (base := base) hd  F_law_draw'
  have G_law_draw : FnG P w K mg base "_law_draw" ["_law_pot_here", "_law_size"] 1 F_law_draw := ⟨_, _, He.glo_ok X G (c.d.fact 40 (f := .glo "_law_draw") rfl), o_law_draw, F_law_draw'.kp, (F_law_draw'.bindsN fun _ _ _ _ _ _ us hl => match us, hl with | [_, _], _ => rfl)⟩
  have o_law_pick := ok_law_pick (P := P) (w := w) (base := base) hd G_law_draw F_law_pick'
  have G_law_pick : FnG P w K mg base "_law_pick" ["_law_pot_here", "_law_some"] 2 F_law_pick := ⟨_, _, He.glo_ok X G (c.d.fact 41 (f := .glo "_law_pick") rfl), o_law_pick, F_law_pick'.kp, (F_law_pick'.bindsN fun _ _ _ _ _ _ us hl => match us, hl with | [_, _], _ => rfl)⟩
  have o_law_steps := ok_law_steps (P := P) (w := w) (base := base) hd G_law_draw F_law_steps'
  have G_law_steps : FnG P w K mg base "_law_steps" ["_law_pot_here", "_law_most"] 2 F_law_steps := ⟨_, _, He.glo_ok X G (c.d.fact 42 (f := .glo "_law_steps") rfl), o_law_steps, F_law_steps'.kp, (F_law_steps'.bindsN fun _ _ _ _ _ _ us hl => match us, hl with | [_, _], _ => rfl)⟩
  have o_law_carry := ok_law_carry (P := P) (w := w) (base := base) hd  F_law_carry'
  have G_law_carry : FnG P w K mg base "_law_carry" ["_law_steps_here"] 1 F_law_carry := ⟨_, _, He.glo_ok X G (c.d.fact 43 (f := .glo "_law_carry") rfl), o_law_carry, F_law_carry'.kp, (F_law_carry'.bindsN fun _ _ _ _ _ _ us hl => match us, hl with | [_], _ => rfl)⟩
  have o_law_form := ok_law_form (P := P) (w := w) (base := base) hd  F_law_form'
  have G_law_form : FnG P w K mg base "_law_form" ["_law_carry_here"] 1 F_law_form := ⟨_, _, He.glo_ok X G (c.d.fact 44 (f := .glo "_law_form") rfl), o_law_form, F_law_form'.kp, (F_law_form'.bindsN fun _ _ _ _ _ _ us hl => match us, hl with | [_], _ => rfl)⟩
  have o_law_ranges := ok_law_ranges (P := P) (w := w) (base := base) hd  F_law_ranges'
  have G_law_ranges : FnG P w K mg base "_law_ranges" ["_law_marks"] 1 F_law_ranges := ⟨_, _, He.glo_ok X G (c.d.fact 45 (f := .glo "_law_ranges") rfl), o_law_ranges, F_law_ranges'.kp, (F_law_ranges'.bindsN fun _ _ _ _ _ _ us hl => match us, hl with | [_], _ => rfl)⟩
  have o_law_range_right := ok_law_range_right (P := P) (w := w) (base := base) hd G_law_form G_law_ranges M_Stair_limited M_Stair_steps M_Stair_ranges M_Stair_cut_in W_Stair_limited_end_first W_Stair_ranges_end_first W_Stair_cut_in_end_first F_law_range_right'
  have G_law_range_right : FnG P w K mg base "_law_range_right" ["_law_made", "_law_carry_here", "_law_low", "_law_high"] 9 F_law_range_right := ⟨_, _, He.glo_ok X G (c.d.fact 46 (f := .glo "_law_range_right") rfl), o_law_range_right, F_law_range_right'.kp, (F_law_range_right'.bindsN fun _ _ _ _ _ _ us hl => match us, hl with | [_, _, _, _], _ => rfl)⟩
  have o_law_right := ok_law_right (P := P) (w := w) (base := base) hd G_law_steps K_Stair G_law_carry G_law_draw G_law_pick G_law_range_right M_Stair_limited O_Stair M_Stair_steps G_law_form F_law_right'
  have G_law_right : FnG P w K mg base "_law_right" ["_law_pot_here"] 10 F_law_right := ⟨_, _, He.glo_ok X G (c.d.fact 47 (f := .glo "_law_right") rfl), o_law_right, F_law_right'.kp, (F_law_right'.bindsN fun _ _ _ _ _ _ us hl => match us, hl with | [_], _ => rfl)⟩
  have o_law := ok_law (P := P) (w := w) (base := base) hd G_law_right G_law_pot F_law'
  exact o_law
end K13


set_option Elab.async false
set_option linter.all false
set_option maxRecDepth 100000
set_option maxHeartbeats 4000000
namespace K13
open PySem PySem.Spec PyProof.Rows L2 Dn Stairs
section
variable {Ω : Om}
theorem v_is_integer (h : PureΩ Ω) (i : Int) : F_is_integer [.int i] Ω = some (.ok (.bl true), Ω) := by
  refine clean_val0 ?_ rfl h rfl
  simp [b_is_integer, fnD, startG, sRet, sIf, sSeq, bS, sSet, eS, sExp, sSkip, sNever, sPar, sAsg, Dn.gT, Dn.gCons, Dn.gNil, Dn.gN, fAndV, fOrV, fNotV, fBl, fAnd, fOr, fNot, fIf, fT, fBin, fUn, bnd, fVar, fC, dIx, dAdd, dSub, dLt, dLe, dGt, dGe, Dn.opI, dNeg, fCons, fNil, fTup, fLst, fLstC, fCB, op1, op2, fIs, isB, isC, isB2, tyD, isT, asL, L2.atI, ixN, fChain]
theorem v_is_list (h : PureΩ Ω) (xs : List D) : F_is_list [.lst xs] Ω = some (.ok (.bl true), Ω) := by
  refine clean_val0 ?_ rfl h rfl
  simp [b_is_list, fnD, startG, sRet, sIf, sSeq, bS, sSet, eS, sExp, sSkip, sNever, sPar, sAsg, Dn.gT, Dn.gCons, Dn.gNil, Dn.gN, fAndV, fOrV, fNotV, fBl, fAnd, fOr, fNot, fIf, fT, fBin, fUn, bnd, fVar, fC, dIx, dAdd, dSub, dLt, dLe, dGt, dGe, Dn.opI, dNeg, fCons, fNil, fTup, fLst, fLstC, fCB, op1, op2, fIs, isB, isC, isB2, tyD, isT, asL, L2.atI, ixN, fChain]
theorem v_want_range (h : PureΩ Ω) {a b : Int} (hab : a < b) : F_want_range [.int a, .int b] Ω = some (.ok .non, Ω) := by
  refine clean_val0 ?_ rfl h rfl
  simp [b_want_range, fCall, v_is_integer h, fnD, startG, sRet, sIf, sSeq, bS, sSet, eS, sExp, sSkip, sNever, sPar, sAsg, Dn.gT, Dn.gCons, Dn.gNil, Dn.gN, fAndV, fOrV, fNotV, fBl, fAnd, fOr, fNot, fIf, fT, fBin, fUn, bnd, fVar, fC, dIx, dAdd, dSub, dLt, dLe, dGt, dGe, Dn.opI, dNeg, fCons, fNil, fTup, fLst, fLstC, fCB, op1, op2, fIs, isB, isC, isB2, tyD, isT, asL, L2.atI, ixN, fChain, show ¬ b ≤ a by omega]
theorem v_is_step (h : PureΩ Ω) {s : Stp} (hs : 1 ≤ s.2.2) : F_is_step [stD s] Ω = some (.ok (.bl true), Ω) := by
  refine clean_val0 ?_ rfl h rfl
  simp [b_is_step, stD, fCall, v_is_integer h, fnD, startG, sRet, sIf, sSeq, bS, sSet, eS, sExp, sSkip, sNever, sPar, sAsg, Dn.gT, Dn.gCons, Dn.gNil, Dn.gN, fAndV, fOrV, fNotV, fBl, fAnd, fOr, fNot, fIf, fT, fBin, fUn, bnd, fVar, fC, dIx, dAdd, dSub, dLt, dLe, dGt, dGe, Dn.opI, dNeg, fCons, fNil, fTup, fLst, fLstC, fCB, op1, op2, fIs, isB, isC, isB2, tyD, isT, asL, L2.atI, ixN, fChain, dLen, dNe, eqG, fLc, fSeq, loopC, Tg.den, wipeG, dAll, onBools, asBools, hs]
theorem v_does_rise (h : PureΩ Ω) (a b : Stp) : F_does_rise [stD a, stD b] Ω = some (.ok (.bl (goesUp a b)), Ω) := by
  refine clean_val0 ?_ rfl h rfl
  unfold goesUp
  by_cases h1 : a.1 + a.2.2 ≤ b.1 <;> simp [b_does_rise, stD, fnD, startG, sRet, sIf, sSeq, bS, sSet, eS, sExp, sSkip, sNever, sPar, sAsg, Dn.gT, Dn.gCons, Dn.gNil, Dn.gN, fAndV, fOrV, fNotV, fBl, fAnd, fOr, fNot, fIf, fT, fBin, fUn, bnd, fVar, fC, dIx, dAdd, dSub, dLt, dLe, dGt, dGe, Dn.opI, dNeg, fCons, fNil, fTup, fLst, fLstC, fCB, op1, op2, fIs, isB, isC, isB2, tyD, isT, asL, L2.atI, ixN, fChain, h1]
theorem v_does_go_on (h : PureΩ Ω) (a : Stp) (e n : Int) : F_does_go_on [stD a, .int e, .int n] Ω = some (.ok (.bl (decide (a.1 + a.2.2 = e ∧ a.2.1 + a.2.2 = n))), Ω) := by
  refine clean_val0 ?_ rfl h rfl
  by_cases h1 : a.1 + a.2.2 = e <;> simp [b_does_go_on, stD, fnD, startG, sRet, sIf, sSeq, bS, sSet, eS, sExp, sSkip, sNever, sPar, sAsg, Dn.gT, Dn.gCons, Dn.gNil, Dn.gN, fAndV, fOrV, fNotV, fBl, fAnd, fOr, fNot, fIf, fT, fBin, fUn, bnd, fVar, fC, dIx, dAdd, dSub, dLt, dLe, dGt, dGe, Dn.opI, dNeg, fCons, fNil, fTup, fLst, fLstC, fCB, op1, op2, fIs, isB, isC, isB2, tyD, isT, asL, L2.atI, ixN, fChain, dEq, eqG, h1]
theorem v_clipped (h : PureΩ Ω) (s : Stp) (a b : Int) : F_clipped [stD s, .int a, .int b] Ω = some (.ok (.lst ((clip s a b).map stD)), Ω) := by
  refine clean_val0 ?_ rfl h (belowL_map (fun _ => rfl) _)
  have e1 : (if a > s.1 then a else s.1) = max s.1 a := by split <;> omega
  have e2 : (if b < s.1 + s.2.2 then b else s.1 + s.2.2) = min (s.1 + s.2.2) b := by split <;> omega
  unfold clip
  by_cases h1 : max s.1 a < min (s.1 + s.2.2) b
  · simp [b_clipped, stD, fnD, startG, sRet, sIf, sSeq, bS, sSet, eS, sExp, sSkip, sNever, sPar, sAsg, Dn.gT, Dn.gCons, Dn.gNil, Dn.gN, fAndV, fOrV, fNotV, fBl, fAnd, fOr, fNot, fIf, fT, fBin, fUn, bnd, fVar, fC, dIx, dAdd, dSub, dLt, dLe, dGt, dGe, Dn.opI, dNeg, fCons, fNil, fTup, fLst, fLstC, fCB, op1, op2, fIs, isB, isC, isB2, tyD, isT, asL, L2.atI, ixN, fChain, dMax, dMin, e1, e2, h1]
  · simp [b_clipped, stD, fnD, startG, sRet, sIf, sSeq, bS, sSet, eS, sExp, sSkip, sNever, sPar, sAsg, Dn.gT, Dn.gCons, Dn.gNil, Dn.gN, fAndV, fOrV, fNotV, fBl, fAnd, fOr, fNot, fIf, fT, fBin, fUn, bnd, fVar, fC, dIx, dAdd, dSub, dLt, dLe, dGt, dGe, Dn.opI, dNeg, fCons, fNil, fTup, fLst, fLstC, fCB, op1, op2, fIs, isB, isC, isB2, tyD, isT, asL, L2.atI, ixN, fChain, dMax, dMin, e1, e2, h1]
/-! ### walks over steps -/
theorem push_map {acc : List Stp} {s : Stp} : (push acc s).length ≤ acc.length + 1 := push_len acc s
theorem v_one_form_list (h : PureΩ Ω) (d0 : D) (xs : List Stp) (hx : xs.length ≤ 50000) (hd : d0 = .lst (xs.map stD) ∨ d0 = .tup (xs.map stD)) : F_one_form [d0] Ω = some (.ok (.tup ((oneForm xs).map stD)), Ω) := by
  obtain ⟨Γ', Ω', e1, e2⟩ := loop_nx (t := gT 3 (Dn.gCons (gN 2) (Dn.gCons (gN 3) (Dn.gCons (gN 4) Dn.gNil)))) (b := b_one_form_for) (e := stD)
    (fun (acc : List Stp) Γ Ω' => (∃ a b c, Γ = [some d0, some (.ref Ω.length), a, b, c]) ∧ Ω' = Ω ++ [.lst (acc.map stD)]) push (fun acc xs => acc.length + xs.length ≤ 50000)
    (fun acc s xs Γ Ω' ho ⟨⟨a, b, c, eΓ⟩, eΩ⟩ => by
      subst eΓ eΩ
      have h1 : PureΩ (Ω ++ [.lst (acc.map stD)]) := h.add (belowL_map (fun _ => rfl) _)
      rw [List.length_cons] at ho
      have hl := push_len acc s
      refine ⟨[some d0, some (.ref Ω.length), some (.int s.1), some (.int s.2.1), some (.int s.2.2)], rfl, [some d0, some (.ref Ω.length), some (.int s.1), some (.int s.2.1), some (.int s.2.2)], _, ?_, ⟨⟨_, _, _, rfl⟩, rfl⟩, by omega⟩
      rcases snoc_or acc with rfl | ⟨ys, z, rfl⟩
      · have hne := ne_nil_end emb_st (by decide) (Ω := Ω) ([] : List Stp)
        rw [List.map_nil] at hne
        simp [b_one_form_for, fnD, startG, sRet, sIf, sSeq, bS, sSet, eS, sExp, sSkip, sNever, sPar, sAsg, Dn.gT, Dn.gCons, Dn.gNil, Dn.gN, fAndV, fOrV, fNotV, fBl, fAnd, fOr, fNot, fIf, fT, fBin, fUn, bnd, fVar, fC, dIx, dAdd, dSub, dLt, dLe, dGt, dGe, Dn.opI, dNeg, fCons, fNil, fTup, fLst, fLstC, fCB, op1, op2, fIs, isB, isC, isB2, tyD, isT, asL, fChain, hne, fMt, chkL, mAppend, push_nil, stD]
      · have hne := ne_nil_end emb_st (by decide) (Ω := Ω) (ys ++ [z])
        have hgo := v_does_go_on h1 z s.1 s.2.1
        rw [List.map_append, List.map_singleton] at hne hgo
        rw [List.length_append, List.length_singleton] at ho
        have hy : ys.length + 1 < 100000 := by omega
        rw [push_snoc]
        by_cases hz : z.1 + z.2.2 = s.1 ∧ z.2.1 + z.2.2 = s.2.1
        · rw [if_pos hz]
          simp [b_one_form_for, fnD, startG, sRet, sIf, sSeq, bS, sSet, eS, sExp, sSkip, sNever, sPar, sAsg, Dn.gT, Dn.gCons, Dn.gNil, Dn.gN, fAndV, fOrV, fNotV, fBl, fAnd, fOr, fNot, fIf, fT, fBin, fUn, bnd, fVar, fC, dIx, dAdd, dSub, dLt, dLe, dGt, dGe, Dn.opI, dNeg, fCons, fNil, fTup, fLst, fLstC, fCB, op1, op2, fIs, isB, isC, isB2, tyD, isT, asL, fChain, hne, fCall, hgo, hz, sSetIx]
          simp [stD]
        · rw [if_neg hz]
          simp [b_one_form_for, fnD, startG, sRet, sIf, sSeq, bS, sSet, eS, sExp, sSkip, sNever, sPar, sAsg, Dn.gT, Dn.gCons, Dn.gNil, Dn.gN, fAndV, fOrV, fNotV, fBl, fAnd, fOr, fNot, fIf, fT, fBin, fUn, bnd, fVar, fC, dIx, dAdd, dSub, dLt, dLe, dGt, dGe, Dn.opI, dNeg, fCons, fNil, fTup, fLst, fLstC, fCB, op1, op2, fIs, isB, isC, isB2, tyD, isT, asL, fChain, hne, fCall, hgo, hz, fMt, chkL, mAppend, hy]
          simp [stD]) xs [] _ _ (by simpa using hx) ⟨⟨none, none, none, rfl⟩, rfl⟩
  obtain ⟨⟨a, b, c, rfl⟩, rfl⟩ := e2
  have hl := oneForm_len xs
  refine clean_val (W := [.lst ((oneForm xs).map stD)]) ?_ rfl h (belowL_map (fun _ => rfl) _)
  have e3 : fSeq (fVar 0) [some d0, some (.ref Ω.length), none, none, none] (Ω ++ [.lst []]) = some (.ok (xs.map stD), Ω ++ [.lst []]) := by
    rcases hd with rfl | rfl <;> rfl
  have e4 : (List.foldl push [] xs) = oneForm xs := rfl
  rw [e4] at e1
  unfold b_one_form
  refine fn_rt (seq_nx (set_ok (d := .ref Ω.length) (Ω1 := Ω ++ [.lst []]) rfl) |>.trans ((seq_nx ((for_ok e3).trans e1)).trans (ret_ok ?_)))
  simp [fCB, fnD, startG, sRet, sIf, sSeq, bS, sSet, eS, sExp, sSkip, sNever, sPar, sAsg, Dn.gT, Dn.gCons, Dn.gNil, Dn.gN, fAndV, fOrV, fNotV, fBl, fAnd, fOr, fNot, fIf, fT, fBin, fUn, bnd, fVar, fC, dIx, dAdd, dSub, dLt, dLe, dGt, dGe, Dn.opI, dNeg, fCons, fNil, fTup, fLst, fLstC, fCB, op1, op2, fIs, isB, isC, isB2, tyD, isT, asL, fChain, dTuple]
end
end K13


set_option Elab.async false
set_option linter.all false
set_option maxRecDepth 100000
set_option maxHeartbeats 4000000
namespace K13
open PySem PySem.Spec PyProof.Rows L2 Dn Stairs
section
variable {Ω : Om}
theorem steps_at : ∀ {ys : List Stp}, Steps ys → (∀ (i : Nat) (s : Stp), ys[i]? = some s → 1 ≤ s.2.2) ∧ (∀ (i : Nat) (p s : Stp), ys[i]? = some p → ys[i + 1]? = some s → goesUp p s = true)
  | [], _ => ⟨fun i s h => by simp at h, fun i p s h => by simp at h⟩
  | [x], h => ⟨fun i s e => by
      cases i with
      | zero => simp at e; rw [← e]; exact h
      | succ i => simp at e, fun i p s e1 e2 => by simp at e2⟩
  | x :: y :: r, h => by
    obtain ⟨h1, h2, h3⟩ := h
    obtain ⟨a, b⟩ := steps_at (ys := y :: r) h3
    refine ⟨fun i s e => ?_, fun i p s e1 e2 => ?_⟩
    · cases i with
      | zero => simp at e; rw [← e]; exact h1
      | succ i => exact a i s (by simpa using e)
    · cases i with
      | zero => simp at e1 e2; rw [← e1, ← e2]; exact h2
      | succ i => exact b i p s (by simpa using e1) (by simpa using e2)
theorem ws_loop (h : PureΩ Ω) (ys : List Stp) (hy : ∀ (i : Nat) (s : Stp), ys[i]? = some s → 1 ≤ s.2.2) (hg : ∀ (i : Nat) (p s : Stp), ys[i]? = some p → ys[i + 1]? = some s → goesUp p s = true) : ∀ (post : List Stp) (k : Nat) (a b : Option D), (∀ i, post[i]? = ys[k + i]?) →
    ∃ Γ', loopS (gT 2 (Dn.gCons (gN 1) (Dn.gCons (gN 2) Dn.gNil))) b_want_steps_for (enumD k (post.map stD)) [some (.lst (ys.map stD)), a, b] Ω = some (.nx, Γ', Ω)
  | [], k, a, b, _ => ⟨_, rfl⟩
  | s :: post, k, a, b, hp => by
    have hs : ys[k]? = some s := by
      have := hp 0
      simpa using this.symm
    have body : b_want_steps_for [some (.lst (ys.map stD)), some (.int (k : Int)), some (stD s)] Ω = some (.nx, [some (.lst (ys.map stD)), some (.int (k : Int)), some (stD s)], Ω) := by
      cases k with
      | zero => simp [b_want_steps_for, fnD, startG, sRet, sIf, sSeq, bS, sSet, eS, sExp, sSkip, sNever, sPar, sAsg, Dn.gT, Dn.gCons, Dn.gNil, Dn.gN, fAndV, fOrV, fNotV, fBl, fAnd, fOr, fNot, fIf, fT, fBin, fUn, bnd, fVar, fC, dIx, dAdd, dSub, dLt, dLe, dGt, dGe, Dn.opI, dNeg, fCons, fNil, fTup, fLst, fLstC, fCB, op1, op2, fIs, isB, isC, isB2, tyD, isT, asL, fChain, fCall, v_is_step h (hy 0 s hs)]
      | succ k =>
        have hlt : k < ys.length := by
          have := (List.getElem?_eq_some_iff.mp hs).1
          omega
        have hq : ys[k]? = some ys[k] := List.getElem?_eq_getElem hlt
        have hr := v_does_rise h ys[k] s
        rw [hg k _ s hq hs] at hr
        have e0 : (0 : Int) < (k : Int) + 1 := by omega
        simp [b_want_steps_for, fnD, startG, sRet, sIf, sSeq, bS, sSet, eS, sExp, sSkip, sNever, sPar, sAsg, Dn.gT, Dn.gCons, Dn.gNil, Dn.gN, fAndV, fOrV, fNotV, fBl, fAnd, fOr, fNot, fIf, fT, fBin, fUn, bnd, fVar, fC, dIx, dAdd, dSub, dLt, dLe, dGt, dGe, Dn.opI, dNeg, fCons, fNil, fTup, fLst, fLstC, fCB, op1, op2, fIs, isB, isC, isB2, tyD, isT, asL, fChain, fCall, v_is_step h (hy _ s hs), e0, hlt, hr]
    obtain ⟨Γ', e⟩ := ws_loop h ys hy hg post (k + 1) (some (.int (k : Int))) (some (stD s)) (fun i => by
      have := hp (i + 1)
      simp at this
      rw [this]
      congr 1
      omega)
    refine ⟨Γ', ?_⟩
    rw [List.map_cons]
    unfold enumD loopS
    have et : gT 2 (Dn.gCons (gN 1) (Dn.gCons (gN 2) Dn.gNil)) (.tup [.int (k : Int), stD s]) [some (.lst (ys.map stD)), a, b] = some [some (.lst (ys.map stD)), some (.int (k : Int)), some (stD s)] := rfl
    rw [et]
    dsimp only
    rw [body]
    exact e
theorem v_want_steps (h : PureΩ Ω) {ys : List Stp} (hy : Steps ys) : F_want_steps [.lst (ys.map stD)] Ω = some (.ok .non, Ω) := by
  refine clean_val0 ?_ rfl h rfl
  obtain ⟨a, b⟩ := steps_at hy
  obtain ⟨Γ', e⟩ := ws_loop h ys a b ys 0 none none fun i => by rw [Nat.zero_add]
  unfold b_want_steps
  refine fn_nx ((seq_nx (Γ1 := [some (.lst (ys.map stD)), none, none]) (Ω1 := Ω) ?_).trans ((for_ok ?_).trans e))
  · simp [fnD, startG, sRet, sIf, sSeq, bS, sSet, eS, sExp, sSkip, sNever, sPar, sAsg, Dn.gT, Dn.gCons, Dn.gNil, Dn.gN, fAndV, fOrV, fNotV, fBl, fAnd, fOr, fNot, fIf, fT, fBin, fUn, bnd, fVar, fC, dIx, dAdd, dSub, dLt, dLe, dGt, dGe, Dn.opI, dNeg, fCons, fNil, fTup, fLst, fLstC, fCB, op1, op2, fIs, isB, isC, isB2, tyD, isT, asL, fChain, fCall, v_is_list h]
  · simp [fnD, startG, sRet, sIf, sSeq, bS, sSet, eS, sExp, sSkip, sNever, sPar, sAsg, Dn.gT, Dn.gCons, Dn.gNil, Dn.gN, fAndV, fOrV, fNotV, fBl, fAnd, fOr, fNot, fIf, fT, fBin, fUn, bnd, fVar, fC, dIx, dAdd, dSub, dLt, dLe, dGt, dGe, Dn.opI, dNeg, fCons, fNil, fTup, fLst, fLstC, fCB, op1, op2, fIs, isB, isC, isB2, tyD, isT, asL, fChain, fEnum]
theorem belowF_one (f : Str) (d : D) (h : below 0 d = true) : belowF 0 [(f, d)] = true := by
  unfold belowF
  rw [h]
  rfl
theorem below_tup (ys : List Stp) : below 0 (.tup (ys.map stD)) = true := belowL_map (fun _ => rfl) _
@[simp] theorem asO_end (c : Str) (fs : List (Str × D)) : asO c (Ω ++ [.ins c fs]) (.ref Ω.length) = some fs := by unfold asO; simp
def rsD (ys : List Stp) : D := .obj "RightSteps" [("told_steps", .tup (ys.map stD))]
def stairD (ys : List Stp) : D := .obj "Stair" [("own_steps", .tup (ys.map stD))]
theorem below_stair (ys : List Stp) : below 0 (stairD ys) = true := belowF_one "own_steps" _ (below_tup ys)
theorem v_rs_init (h : PureΩ Ω) (xs : List Stp) (hx : xs.length ≤ 50000) : F_RightStepsD_initD [.ref Ω.length, .lst (xs.map stD)] (Ω ++ [.ins "RightSteps" []]) = some (.ok .non, Ω ++ [.ins "RightSteps" [("told_steps", .tup ((oneForm xs).map stD))]]) := by
  have h1 : PureΩ (Ω ++ [.ins "RightSteps" []]) := h.add rfl
  have hf : cellBelow 0 (.ins "RightSteps" [("told_steps", .tup ((oneForm xs).map stD))]) = true := by
    exact belowF_one "told_steps" _ (below_tup (oneForm xs))
  refine clean_val0 ?_ (by simp) (h.add hf) rfl
  simp [b_RightStepsD_initD, fnD, startG, sRet, sIf, sSeq, bS, sSet, eS, sExp, sSkip, sNever, sPar, sAsg, Dn.gT, Dn.gCons, Dn.gNil, Dn.gN, fAndV, fOrV, fNotV, fBl, fAnd, fOr, fNot, fIf, fT, fBin, fUn, bnd, fVar, fC, dIx, dAdd, dSub, dLt, dLe, dGt, dGe, Dn.opI, dNeg, fCons, fNil, fTup, fLst, fLstC, fCB, op1, op2, fIs, isB, isC, isB2, tyD, isT, asL, fChain, fCall, v_one_form_list h1 (.lst (xs.map stD)) xs hx (.inl rfl), sFldSet, putFD]
theorem v_mk_rs (h : PureΩ Ω) (xs : List Stp) (hx : xs.length ≤ 50000) : mkD "RightSteps" 2 F_RightStepsD_initD [.lst (xs.map stD)] Ω = some (.ok (rsD (oneForm xs)), Ω) := by
  refine mk_val (W := []) (v_rs_init h xs hx) rfl rfl h ?_
  exact belowF_one _ _ (below_tup _)
theorem v_stair_init_rs (h : PureΩ Ω) (ys : List Stp) : F_StairD_initD [.ref Ω.length, rsD ys] (Ω ++ [.ins "Stair" []]) = some (.ok .non, Ω ++ [.ins "Stair" [("own_steps", .tup (ys.map stD))]]) := by
  have h1 : PureΩ (Ω ++ [.ins "Stair" []]) := h.add rfl
  have hf : cellBelow 0 (.ins "Stair" [("own_steps", .tup (ys.map stD))]) = true := by
    exact belowF_one "own_steps" _ (below_tup ys)
  refine clean_val0 ?_ (by simp) (h.add hf) rfl
  have e1 : isC CL "RightSteps" (Ω ++ [.ins "Stair" []]) (rsD ys) = some true := rfl
  have e2 : dFld "RightSteps" "told_steps" (rsD ys) (Ω ++ [.ins "Stair" []]) = some (.ok (.tup (ys.map stD)), Ω ++ [.ins "Stair" []]) := rfl
  simp [b_StairD_initD, fnD, startG, sIf, fT, fIs, bnd, fVar, e1, fUn, e2, sFldSet, eS, putFD]
theorem v_stair_init_lst (h : PureΩ Ω) {ys : List Stp} (hy : Steps ys) (hl : ys.length ≤ 60) : F_StairD_initD [.ref Ω.length, .lst (ys.map stD)] (Ω ++ [.ins "Stair" []]) = some (.ok .non, Ω ++ [.ins "Stair" [("own_steps", .tup ((oneForm ys).map stD))]]) := by
  have h1 : PureΩ (Ω ++ [.ins "Stair" []]) := h.add rfl
  have hf : cellBelow 0 (.ins "Stair" [("own_steps", .tup ((oneForm ys).map stD))]) = true := by
    exact belowF_one "own_steps" _ (below_tup (oneForm ys))
  refine clean_val0 ?_ (by simp) (h.add hf) rfl
  have e1 : isC CL "RightSteps" (Ω ++ [.ins "Stair" []]) (.lst (ys.map stD)) = some false := rfl
  have e3 : ¬ (60 : Int) < (ys.length : Int) := by omega
  simp [b_StairD_initD, fnD, startG, sRet, sIf, sSeq, bS, sSet, eS, sExp, sSkip, sNever, sPar, sAsg, Dn.gT, Dn.gCons, Dn.gNil, Dn.gN, fAndV, fOrV, fNotV, fBl, fAnd, fOr, fNot, fIf, fT, fBin, fUn, bnd, fVar, fC, dIx, dAdd, dSub, dLt, dLe, dGt, dGe, Dn.opI, dNeg, fCons, fNil, fTup, fLst, fLstC, fCB, op1, op2, fIs, isB, isC, isB2, tyD, isT, asL, fChain, e1, fCall, v_want_steps h1 hy, dLen, e3, v_one_form_list h1 (.lst (ys.map stD)) ys (by omega) (.inl rfl), sFldSet, putFD]
theorem v_mk_stair_rs (h : PureΩ Ω) (ys : List Stp) : mkD "Stair" 2 F_StairD_initD [rsD ys] Ω = some (.ok (stairD ys), Ω) := by
  refine mk_val (W := []) (v_stair_init_rs h ys) rfl rfl h ?_
  exact belowF_one _ _ (below_tup _)
theorem v_mk_stair (h : PureΩ Ω) {ys : List Stp} (hy : Steps ys) (hl : ys.length ≤ 60) : mkD "Stair" 2 F_StairD_initD [.lst (ys.map stD)] Ω = some (.ok (stairD (oneForm ys)), Ω) := by
  refine mk_val (W := []) (v_stair_init_lst h hy hl) rfl rfl h ?_
  exact belowF_one _ _ (below_tup _)
theorem v_stair_of (h : PureΩ Ω) (xs : List Stp) (hx : xs.length ≤ 50000) : F_stair_of [.lst (xs.map stD)] Ω = some (.ok (stairD (oneForm xs)), Ω) := by
  refine clean_val0 ?_ rfl h (below_stair _)
  simp [b_stair_of, fnD, startG, sRet, sIf, sSeq, bS, sSet, eS, sExp, sSkip, sNever, sPar, sAsg, Dn.gT, Dn.gCons, Dn.gNil, Dn.gN, fAndV, fOrV, fNotV, fBl, fAnd, fOr, fNot, fIf, fT, fBin, fUn, bnd, fVar, fC, dIx, dAdd, dSub, dLt, dLe, dGt, dGe, Dn.opI, dNeg, fCons, fNil, fTup, fLst, fLstC, fCB, op1, op2, fIs, isB, isC, isB2, tyD, isT, asL, fChain, fMake, v_mk_rs h xs hx, v_mk_stair_rs h]
theorem v_steps (h : PureΩ Ω) (ys : List Stp) : F_Stair_steps [stairD ys] Ω = some (.ok (.lst (ys.map stD)), Ω) := by
  refine clean_val0 ?_ rfl h (belowL_map (fun _ => rfl) _)
  have e2 : dFld "Stair" "own_steps" (stairD ys) Ω = some (.ok (.tup (ys.map stD)), Ω) := rfl
  simp [b_Stair_steps, fnD, startG, sRet, sIf, sSeq, bS, sSet, eS, sExp, sSkip, sNever, sPar, sAsg, Dn.gT, Dn.gCons, Dn.gNil, Dn.gN, fAndV, fOrV, fNotV, fBl, fAnd, fOr, fNot, fIf, fT, fBin, fUn, bnd, fVar, fC, dIx, dAdd, dSub, dLt, dLe, dGt, dGe, Dn.opI, dNeg, fCons, fNil, fTup, fLst, fLstC, fCB, op1, op2, fIs, isB, isC, isB2, tyD, isT, asL, fChain, e2, dList]
theorem v_limited (h : PureΩ Ω) (ys : List Stp) (hy : ys.length ≤ 50000) {a b : Int} (hab : a < b) : F_Stair_limited [stairD ys, .int a, .int b] Ω = some (.ok (stairD (lim ys a b)), Ω) := by
  obtain ⟨Γ', Ω', e1, e2⟩ := loop_nx (t := gN 4) (b := b_Stair_limited_for) (e := stD)
    (fun (acc : List Stp) Γ Ω' => (∃ x, Γ = [some (stairD ys), some (.int a), some (.int b), some (.ref Ω.length), x]) ∧ Ω' = Ω ++ [.lst (acc.map stD)]) (fun acc s => acc ++ clip s a b) (fun acc xs => acc.length + xs.length ≤ 50000)
    (fun acc s xs Γ Ω' ho ⟨⟨x, eΓ⟩, eΩ⟩ => by
      subst eΓ eΩ
      have h1 : PureΩ (Ω ++ [.lst (acc.map stD)]) := h.add (belowL_map (fun _ => rfl) _)
      rw [List.length_cons] at ho
      have hl := clip_len s a b
      have hz : acc.length + (clip s a b).length ≤ 100000 := by omega
      refine ⟨[some (stairD ys), some (.int a), some (.int b), some (.ref Ω.length), some (stD s)], rfl, [some (stairD ys), some (.int a), some (.int b), some (.ref Ω.length), some (stD s)], _, ?_, ⟨⟨_, rfl⟩, rfl⟩, by rw [List.length_append]; omega⟩
      simp [b_Stair_limited_for, fnD, startG, sRet, sIf, sSeq, bS, sSet, eS, sExp, sSkip, sNever, sPar, sAsg, Dn.gT, Dn.gCons, Dn.gNil, Dn.gN, fAndV, fOrV, fNotV, fBl, fAnd, fOr, fNot, fIf, fT, fBin, fUn, bnd, fVar, fC, dIx, dAdd, dSub, dLt, dLe, dGt, dGe, Dn.opI, dNeg, fCons, fNil, fTup, fLst, fLstC, fCB, op1, op2, fIs, isB, isC, isB2, tyD, isT, asL, fChain, fCall, v_clipped h1, fMt, chkL, mExtend, hz]) ys [] _ _ (by simpa using hy) ⟨⟨none, rfl⟩, rfl⟩
  obtain ⟨⟨x, rfl⟩, rfl⟩ := e2
  have e4 : (ys.foldl (fun acc s => acc ++ clip s a b) []) = Stairs.cutS ys a b := by
    unfold Stairs.cutS
    rw [List.flatMap_eq_foldl]
  rw [e4] at e1
  have hl := cut_len a b ys
  have h2 : PureΩ (Ω ++ [.dead]) := h.add rfl
  refine clean_val (W := [.dead]) ?_ rfl h (below_stair _)
  have e2 : dFld "Stair" "own_steps" (stairD ys) (Ω ++ [.lst []]) = some (.ok (.tup (ys.map stD)), Ω ++ [.lst []]) := rfl
  unfold b_Stair_limited
  refine fn_rt ((seq_nx (Γ1 := [some (stairD ys), some (.int a), some (.int b), none, none]) (Ω1 := Ω) ?_).trans ((seq_nx (Γ1 := [some (stairD ys), some (.int a), some (.int b), some (.ref Ω.length), none]) (Ω1 := Ω ++ [.lst []]) rfl).trans ((seq_nx ((for_ok (ds := ys.map stD) (Ω1 := Ω ++ [.lst []]) ?_).trans e1)).trans (ret_ok ?_))))
  · simp [fnD, startG, sRet, sIf, sSeq, bS, sSet, eS, sExp, sSkip, sNever, sPar, sAsg, Dn.gT, Dn.gCons, Dn.gNil, Dn.gN, fAndV, fOrV, fNotV, fBl, fAnd, fOr, fNot, fIf, fT, fBin, fUn, bnd, fVar, fC, dIx, dAdd, dSub, dLt, dLe, dGt, dGe, Dn.opI, dNeg, fCons, fNil, fTup, fLst, fLstC, fCB, op1, op2, fIs, isB, isC, isB2, tyD, isT, asL, fChain, fCall, v_want_range h hab]
  · simp [fnD, startG, sRet, sIf, sSeq, bS, sSet, eS, sExp, sSkip, sNever, sPar, sAsg, Dn.gT, Dn.gCons, Dn.gNil, Dn.gN, fAndV, fOrV, fNotV, fBl, fAnd, fOr, fNot, fIf, fT, fBin, fUn, bnd, fVar, fC, dIx, dAdd, dSub, dLt, dLe, dGt, dGe, Dn.opI, dNeg, fCons, fNil, fTup, fLst, fLstC, fCB, op1, op2, fIs, isB, isC, isB2, tyD, isT, asL, fChain, fSeq, e2]
  · have e5 := v_stair_of h2 (Stairs.cutS ys a b) (by omega)
    simp [fnD, startG, sRet, sIf, sSeq, bS, sSet, eS, sExp, sSkip, sNever, sPar, sAsg, Dn.gT, Dn.gCons, Dn.gNil, Dn.gN, fAndV, fOrV, fNotV, fBl, fAnd, fOr, fNot, fIf, fT, fBin, fUn, bnd, fVar, fC, dIx, dAdd, dSub, dLt, dLe, dGt, dGe, Dn.opI, dNeg, fCons, fNil, fTup, fLst, fLstC, fCB, op1, op2, fIs, isB, isC, isB2, tyD, isT, asL, fChain, fCall, fFrz, e5]
    rfl
end
end K13


set_option Elab.async false
set_option linter.all false
set_option maxRecDepth 100000
set_option maxHeartbeats 800000
namespace K13
open PySem PySem.Spec PyProof.Rows L2 Dn Stairs
section
variable {Ω Ω1 Ω2 Ω3 : Om} {Γ : Gm}
theorem meth_ok {c mt : Str} {n : Nat} {F : FD} {fo : Den D} {r : Den (List D)} {x d : D} {ds : List D} {fs : List (Str × D)} (ho : fo Γ Ω = some (.ok x, Ω1)) (ha : asO c Ω1 x = some fs) (hl : fs.lookup mt = none) (hr : r Γ Ω1 = some (.ok ds, Ω2)) (hn : ds.length + 1 = n) (hF : F (x :: ds) Ω2 = some (.ok d, Ω3)) : fMeth c mt n F fo r Γ Ω = some (.ok d, Ω3) := by
  unfold fMeth bnd
  rw [ho, bR_ok]
  dsimp only
  rw [ha]
  dsimp only
  rw [hl]
  dsimp only
  rw [hr, bR_ok, if_pos (by simpa using hn), hF]
theorem pushJ_len (acc : List Pr) (s : Pr) : (pushJ acc s).length ≤ acc.length + 1 := by
  rcases snoc_or acc with rfl | ⟨ys, z, rfl⟩
  · simp [pushJ_nil]
  · rw [pushJ_snoc]
    split <;> simp
theorem asPr_map : ∀ ps : List Pr, asPr (ps.map prD) = some ps
  | [] => rfl
  | p :: ps => by
    rw [List.map_cons, show prD p = .tup [.int p.1, .int p.2] from rfl]
    unfold asPr
    dsimp only
    rw [asPr_map ps]
theorem sortP_id {ps : List Pr} (h : ps.Pairwise fun a b => leP a b = true) : sortP ps = ps := by
  refine sortedP_unique (List.mergeSort_perm ps leP) ?_ h
  exact List.pairwise_mergeSort leP_trans leP_total ps
theorem v_joined (h : PureΩ Ω) {ps : List Pr} (hp : ps.Pairwise fun a b => leP a b = true) (hl : ps.length ≤ 50000) : F_joined_ranges [.lst (ps.map prD)] Ω = some (.ok (.ref Ω.length), Ω ++ [.lst ((ps.foldl pushJ []).map prD)]) := by
  obtain ⟨Γ', Ω', e1, e2⟩ := loop_nx (t := gT 2 (Dn.gCons (gN 2) (Dn.gCons (gN 3) Dn.gNil))) (b := b_joined_ranges_for) (e := prD)
    (fun (acc : List Pr) Γ Ω' => (∃ a b, Γ = [some (.lst (ps.map prD)), some (.ref Ω.length), a, b]) ∧ Ω' = Ω ++ [.lst (acc.map prD)]) pushJ (fun acc xs => acc.length + xs.length ≤ 50000)
    (fun acc s xs Γ Ω' ho ⟨⟨a, b, eΓ⟩, eΩ⟩ => by
      subst eΓ eΩ
      rw [List.length_cons] at ho
      have hl := pushJ_len acc s
      refine ⟨[some (.lst (ps.map prD)), some (.ref Ω.length), some (.int s.1), some (.int s.2)], rfl, [some (.lst (ps.map prD)), some (.ref Ω.length), some (.int s.1), some (.int s.2)], _, ?_, ⟨⟨_, _, rfl⟩, rfl⟩, by omega⟩
      rcases snoc_or acc with rfl | ⟨ys, z, rfl⟩
      · have hne := ne_nil_end emb_pr (by decide) (Ω := Ω) ([] : List Pr)
        rw [List.map_nil] at hne
        simp [b_joined_ranges_for, fnD, startG, sRet, sIf, sSeq, bS, sSet, eS, sExp, sSkip, sNever, sPar, sAsg, Dn.gT, Dn.gCons, Dn.gNil, Dn.gN, fAndV, fOrV, fNotV, fBl, fAnd, fOr, fNot, fIf, fT, fBin, fUn, bnd, fVar, fC, dIx, dAdd, dSub, dLt, dLe, dGt, dGe, Dn.opI, dNeg, fCons, fNil, fTup, fLst, fLstC, fCB, op1, op2, fIs, isB, isC, isB2, tyD, isT, asL, fChain, hne, fMt, chkL, mAppend, pushJ_nil, prD]
      · have hne := ne_nil_end emb_pr (by decide) (Ω := Ω) (ys ++ [z])
        rw [List.map_append, List.map_singleton] at hne
        rw [List.length_append, List.length_singleton] at ho
        have hy : ys.length + 1 < 100000 := by omega
        have ez : prD z = .tup [.int z.1, .int z.2] := rfl
        have em : (if s.2 > z.2 then s.2 else z.2) = max z.2 s.2 := by split <;> omega
        rw [pushJ_snoc]
        by_cases hz : s.1 ≤ z.2
        · rw [if_pos hz]
          simp [b_joined_ranges_for, fnD, startG, sRet, sIf, sSeq, bS, sSet, eS, sExp, sSkip, sNever, sPar, sAsg, Dn.gT, Dn.gCons, Dn.gNil, Dn.gN, fAndV, fOrV, fNotV, fBl, fAnd, fOr, fNot, fIf, fT, fBin, fUn, bnd, fVar, fC, dIx, dAdd, dSub, dLt, dLe, dGt, dGe, Dn.opI, dNeg, fCons, fNil, fTup, fLst, fLstC, fCB, op1, op2, fIs, isB, isC, isB2, tyD, isT, asL, fChain, hne]
          simp [ez, hz, sSetIx, fnD, startG, sRet, sIf, sSeq, bS, sSet, eS, sExp, sSkip, sNever, sPar, sAsg, Dn.gT, Dn.gCons, Dn.gNil, Dn.gN, fAndV, fOrV, fNotV, fBl, fAnd, fOr, fNot, fIf, fT, fBin, fUn, bnd, fVar, fC, dIx, dAdd, dSub, dLt, dLe, dGt, dGe, Dn.opI, dNeg, fCons, fNil, fTup, fLst, fLstC, fCB, op1, op2, fIs, isB, isC, isB2, tyD, isT, asL, fChain, dMax, em]
          simp [prD]
        · rw [if_neg hz]
          simp [b_joined_ranges_for, fnD, startG, sRet, sIf, sSeq, bS, sSet, eS, sExp, sSkip, sNever, sPar, sAsg, Dn.gT, Dn.gCons, Dn.gNil, Dn.gN, fAndV, fOrV, fNotV, fBl, fAnd, fOr, fNot, fIf, fT, fBin, fUn, bnd, fVar, fC, dIx, dAdd, dSub, dLt, dLe, dGt, dGe, Dn.opI, dNeg, fCons, fNil, fTup, fLst, fLstC, fCB, op1, op2, fIs, isB, isC, isB2, tyD, isT, asL, fChain, hne]
          simp [ez, hz, fnD, startG, sRet, sIf, sSeq, bS, sSet, eS, sExp, sSkip, sNever, sPar, sAsg, Dn.gT, Dn.gCons, Dn.gNil, Dn.gN, fAndV, fOrV, fNotV, fBl, fAnd, fOr, fNot, fIf, fT, fBin, fUn, bnd, fVar, fC, dIx, dAdd, dSub, dLt, dLe, dGt, dGe, Dn.opI, dNeg, fCons, fNil, fTup, fLst, fLstC, fCB, op1, op2, fIs, isB, isC, isB2, tyD, isT, asL, fChain, fMt, chkL, mAppend, hy]
          simp [prD]) ps [] _ _ (by simpa using hl) ⟨⟨none, none, rfl⟩, rfl⟩
  obtain ⟨⟨a, b, rfl⟩, rfl⟩ := e2
  unfold F_joined_ranges b_joined_ranges
  refine fn_rt ((seq_nx (set_ok (d := .ref Ω.length) (Ω1 := Ω ++ [.lst []]) rfl)).trans ((seq_nx ((for_ok (ds := ps.map prD) (Ω1 := Ω ++ [.lst []]) ?_).trans e1)).trans (ret_ok rfl)))
  simp [fnD, startG, sRet, sIf, sSeq, bS, sSet, eS, sExp, sSkip, sNever, sPar, sAsg, Dn.gT, Dn.gCons, Dn.gNil, Dn.gN, fAndV, fOrV, fNotV, fBl, fAnd, fOr, fNot, fIf, fT, fBin, fUn, bnd, fVar, fC, dIx, dAdd, dSub, dLt, dLe, dGt, dGe, Dn.opI, dNeg, fCons, fNil, fTup, fLst, fLstC, fCB, op1, op2, fIs, isB, isC, isB2, tyD, isT, asL, fChain, fSeq, dSortP, asPr_map, sortP_id hp]
theorem asO_stair (ys : List Stp) : asO "Stair" Ω (stairD ys) = some [(("own_steps" : Str), D.tup (ys.map stD))] := rfl
theorem fld_stair (ys : List Stp) : dFld "Stair" "own_steps" (stairD ys) Ω = some (.ok (.tup (ys.map stD)), Ω) := rfl
/-- the ranges that the steps reach -/
def rng (s : Stp) : Pr := (s.2.1, s.2.1 + s.2.2)
theorem rng_sorted : ∀ {xs : List Stp}, Pos1 xs → Rise (U xs) → (xs.map rng).Pairwise fun a b => leP a b = true
  | [], _, _ => List.Pairwise.nil
  | s :: xs, h, hr => by
    have hs := h s (by simp)
    rw [U_cons] at hr
    unfold Rise at hr
    rw [List.pairwise_append] at hr
    rw [List.map_cons, List.pairwise_cons]
    refine ⟨fun p hp => ?_, rng_sorted (fun t ht => h t (by simp [ht])) hr.2.1⟩
    obtain ⟨t, ht, rfl⟩ := List.mem_map.mp hp
    have ht1 := h t (by simp [ht])
    have m1 : (s.1, s.2.1) ∈ unitsOf s := mem_units.mpr ⟨by dsimp only; omega, by dsimp only; omega, rfl⟩
    have m2 : (t.1, t.2.1) ∈ U xs := List.mem_flatMap.mpr ⟨t, ht, mem_units.mpr ⟨by dsimp only; omega, by dsimp only; omega, rfl⟩⟩
    have q := (hr.2.2 _ m1 _ m2).2
    unfold leP rng
    dsimp only at q ⊢
    rw [decide_eq_true_iff]
    omega
theorem v_ranges (h : PureΩ Ω) (ys : List Stp) (hy : ys.length ≤ 50000) {a b : Int} (hab : a < b) (hr : Rise (U ys)) : F_Stair_ranges [stairD ys, .int a, .int b] Ω = some (.ok (.ref Ω.length), Ω ++ [.lst (((lim ys a b).map rng).foldl pushJ [] |>.map prD)]) := by
  have hl : (lim ys a b).length ≤ 50000 := Nat.le_trans (oneForm_len _) (Nat.le_trans (cut_len a b ys) hy)
  have hR : Rise (U (lim ys a b)) := by
    rw [U_lim]
    exact List.Pairwise.filter _ hr
  unfold F_Stair_ranges b_Stair_ranges
  refine fn_rt ((seq_nx (set_ok (d := stairD (lim ys a b)) (Ω1 := Ω) (meth_ok (x := stairD ys) (Ω1 := Ω) rfl (asO_stair ys) rfl (ds := [.int a, .int b]) (Ω2 := Ω) rfl rfl (v_limited h ys hy hab)))).trans (ret_ok (call_ok (ds := [.lst (((lim ys a b).map rng).map prD)]) (Ω1 := Ω) ?_ rfl (v_joined h (rng_sorted (pos_lim ys a b) hR) (by rw [List.length_map]; exact hl)))))
  have e := loopC_map (t := (Tg.tp [4, 5, 6]).den) (Γ := [some (stairD ys), some (.int a), some (.int b), some (stairD (lim ys a b)), none, none, none]) (Ω := Ω) (e := stD) (ft := fC true) (fe := fTup (fCons (fVar 5) (fCons (fBin dAdd (fVar 5) (fVar 6)) fNil))) (fun _ => true) (fun s => prD (rng s)) (lim ys a b) [] (fun s _ => ⟨_, rfl, rfl, fun _ => rfl⟩) (by simp; omega)
  rw [List.filter_eq_self.mpr (fun _ _ => rfl), List.nil_append] at e
  have e2 : fLc (fSeq (fUn (dFld "Stair" "own_steps") (fVar 3))) (.tp [4, 5, 6]) (fC true) (fTup (fCons (fVar 5) (fCons (fBin dAdd (fVar 5) (fVar 6)) fNil))) [4, 5, 6] [some (stairD ys), some (.int a), some (.int b), some (stairD (lim ys a b)), none, none, none] Ω = some (.ok (.lst (((lim ys a b).map rng).map prD)), Ω) := by
    rw [List.map_map]
    exact e
  exact cons_ok e2 nil_ok
theorem gap_len (st : List Pr × Int) (s : Stp) : (gapS st s).1.length ≤ st.1.length + 1 := by
  unfold gapS
  dsimp only
  split <;> simp
theorem gaps_len : ∀ (xs : List Stp) (st : List Pr × Int), (xs.foldl gapS st).1.length ≤ st.1.length + xs.length
  | [], st => by simp
  | s :: xs, st => by
    have h1 := gaps_len xs (gapS st s)
    have h2 := gap_len st s
    rw [List.foldl_cons, List.length_cons]
    omega
theorem v_cut_in (h : PureΩ Ω) (ys : List Stp) (hy : ys.length ≤ 50000) {a b : Int} (hab : a < b) : ∃ W, F_Stair_cut_in [stairD ys, .int a, .int b] Ω = some (.ok (.ref (Ω.length + 1)), Ω ++ [.lst (W : List D), .lst ((gapE ((lim ys a b).foldl gapS ([], a)) b).map prD)]) ∧ belowL 0 W = true := by
  have hl : (lim ys a b).length ≤ 50000 := Nat.le_trans (oneForm_len _) (Nat.le_trans (cut_len a b ys) hy)
  obtain ⟨Γ', Ω', e1, e2⟩ := loop_nx (t := gT 3 (Dn.gCons (gN 5) (Dn.gCons (gN 6) (Dn.gCons (gN 7) Dn.gNil)))) (b := b_Stair_cut_in_for) (e := stD)
    (fun (st : List Pr × Int) Γ Ω' => (∃ x y z, Γ = [some (stairD ys), some (.int a), some (.int b), some (.ref Ω.length), some (.int st.2), x, y, z]) ∧ Ω' = Ω ++ [.lst (st.1.map prD)]) gapS (fun st xs => st.1.length + xs.length ≤ 50000)
    (fun st s xs Γ Ω' ho ⟨⟨x, y, z, eΓ⟩, eΩ⟩ => by
      subst eΓ eΩ
      rw [List.length_cons] at ho
      have hg := gap_len st s
      have hy : st.1.length < 100000 := by omega
      refine ⟨[some (stairD ys), some (.int a), some (.int b), some (.ref Ω.length), some (.int st.2), some (.int s.1), some (.int s.2.1), some (.int s.2.2)], rfl, [some (stairD ys), some (.int a), some (.int b), some (.ref Ω.length), some (.int (s.1 + s.2.2)), some (.int s.1), some (.int s.2.1), some (.int s.2.2)], _, ?_, ⟨⟨_, _, _, rfl⟩, rfl⟩, by omega⟩
      unfold gapS
      by_cases hc : st.2 < s.1
      · simp [b_Stair_cut_in_for, fnD, startG, sRet, sIf, sSeq, bS, sSet, eS, sExp, sSkip, sNever, sPar, sAsg, Dn.gT, Dn.gCons, Dn.gNil, Dn.gN, fAndV, fOrV, fNotV, fBl, fAnd, fOr, fNot, fIf, fT, fBin, fUn, bnd, fVar, fC, dIx, dAdd, dSub, dLt, dLe, dGt, dGe, Dn.opI, dNeg, fCons, fNil, fTup, fLst, fLstC, fCB, op1, op2, fIs, isB, isC, isB2, tyD, isT, asL, fChain, hc, fMt, chkL, mAppend, hy]
        simp [prD]
      · simp [b_Stair_cut_in_for, fnD, startG, sRet, sIf, sSeq, bS, sSet, eS, sExp, sSkip, sNever, sPar, sAsg, Dn.gT, Dn.gCons, Dn.gNil, Dn.gN, fAndV, fOrV, fNotV, fBl, fAnd, fOr, fNot, fIf, fT, fBin, fUn, bnd, fVar, fC, dIx, dAdd, dSub, dLt, dLe, dGt, dGe, Dn.opI, dNeg, fCons, fNil, fTup, fLst, fLstC, fCB, op1, op2, fIs, isB, isC, isB2, tyD, isT, asL, fChain, hc]) (lim ys a b) ([], a) _ _ (by simpa using hl) ⟨⟨none, none, none, rfl⟩, rfl⟩
  obtain ⟨⟨x, y, z, rfl⟩, rfl⟩ := e2
  have hg := gaps_len (lim ys a b) ([], a)
  dsimp only [List.length_nil] at hg
  have hP : PureΩ (Ω ++ [.lst []]) := h.add rfl
  have a1 : sPar [3, 4] (fCons (fLstC fNil) (fCons (fVar 1) fNil)) (startG 8 [stairD ys, .int a, .int b]) Ω = some (.nx, [some (stairD ys), some (.int a), some (.int b), some (.ref Ω.length), some (.int a), none, none, none], Ω ++ [.lst []]) := by
    simp [fnD, startG, sRet, sIf, sSeq, bS, sSet, eS, sExp, sSkip, sNever, sPar, sAsg, Dn.gT, Dn.gCons, Dn.gNil, Dn.gN, fAndV, fOrV, fNotV, fBl, fAnd, fOr, fNot, fIf, fT, fBin, fUn, bnd, fVar, fC, dIx, dAdd, dSub, dLt, dLe, dGt, dGe, Dn.opI, dNeg, fCons, fNil, fTup, fLst, fLstC, fCB, op1, op2, fIs, isB, isC, isB2, tyD, isT, asL, fChain]
  have a2 : fCons (fVar 1) (fCons (fVar 2) fNil) [some (stairD ys), some (.int a), some (.int b), some (.ref Ω.length), some (.int a), none, none, none] (Ω ++ [.lst []]) = some (.ok [.int a, .int b], Ω ++ [.lst []]) := by
    simp [fnD, startG, sRet, sIf, sSeq, bS, sSet, eS, sExp, sSkip, sNever, sPar, sAsg, Dn.gT, Dn.gCons, Dn.gNil, Dn.gN, fAndV, fOrV, fNotV, fBl, fAnd, fOr, fNot, fIf, fT, fBin, fUn, bnd, fVar, fC, dIx, dAdd, dSub, dLt, dLe, dGt, dGe, Dn.opI, dNeg, fCons, fNil, fTup, fLst, fLstC, fCB, op1, op2, fIs, isB, isC, isB2, tyD, isT, asL, fChain]
  have a3 : fVar 0 [some (stairD ys), some (.int a), some (.int b), some (.ref Ω.length), some (.int a), none, none, none] (Ω ++ [.lst []]) = some (.ok (stairD ys), Ω ++ [.lst []]) := var_at rfl
  have a4 := meth_ok (n := 3) (c := "Stair") (mt := "limited") a3 (asO_stair ys) rfl a2 rfl (v_limited hP ys hy hab)
  have a5 : fSeq (fUn (dFld "Stair" "own_steps") (fMeth "Stair" "limited" 3 F_Stair_limited (fVar 0) (fCons (fVar 1) (fCons (fVar 2) fNil)))) [some (stairD ys), some (.int a), some (.int b), some (.ref Ω.length), some (.int a), none, none, none] (Ω ++ [.lst []]) = some (.ok ((lim ys a b).map stD), Ω ++ [.lst []]) := by
    unfold fSeq fUn
    simp only [bnd, a4, bR_ok, fld_stair]
  refine ⟨((lim ys a b).foldl gapS ([], a)).1.map prD, ?_, belowL_map (e := prD) (fun _ => rfl) _⟩
  unfold F_Stair_cut_in b_Stair_cut_in
  refine fn_rt ((seq_nx a1).trans ((seq_nx ((for_ok a5).trans e1)).trans (ret_ok ?_)))
  · unfold gapE
    have h1 : ((lim ys a b).foldl gapS ([], a)).1.length ≤ 60000 := by omega
    have h2 : ((lim ys a b).foldl gapS ([], a)).1.length + 1 ≤ 100000 := by omega
    have h3 : ((lim ys a b).foldl gapS ([], a)).1.length ≤ 100000 := by omega
    by_cases hc : ((lim ys a b).foldl gapS ([], a)).2 < b
    · simp [fnD, startG, sRet, sIf, sSeq, bS, sSet, eS, sExp, sSkip, sNever, sPar, sAsg, Dn.gT, Dn.gCons, Dn.gNil, Dn.gN, fAndV, fOrV, fNotV, fBl, fAnd, fOr, fNot, fIf, fT, fBin, fUn, bnd, fVar, fC, dIx, dAdd, dSub, dLt, dLe, dGt, dGe, Dn.opI, dNeg, fCons, fNil, fTup, fLst, fLstC, fCB, op1, op2, fIs, isB, isC, isB2, tyD, isT, asL, fChain, dAddC, hc, h2]
      simp [prD]
      try omega
    · simp [fnD, startG, sRet, sIf, sSeq, bS, sSet, eS, sExp, sSkip, sNever, sPar, sAsg, Dn.gT, Dn.gCons, Dn.gNil, Dn.gN, fAndV, fOrV, fNotV, fBl, fAnd, fOr, fNot, fIf, fT, fBin, fUn, bnd, fVar, fC, dIx, dAdd, dSub, dLt, dLe, dGt, dGe, Dn.opI, dNeg, fCons, fNil, fTup, fLst, fLstC, fCB, op1, op2, fIs, isB, isC, isB2, tyD, isT, asL, fChain, dAddC, hc, h3]
theorem v_eq (h : PureΩ Ω) (xs ys : List Stp) : F_StairD_eqD [stairD xs, stairD ys] Ω = some (.ok (.bl (decide (xs = ys))), Ω) := by
  refine clean_val0 ?_ rfl h rfl
  have e1 : isC CL "Stair" Ω (stairD ys) = some true := rfl
  have e2 : eqG (fun b => D.bl b) (.tup (xs.map stD)) (.tup (ys.map stD)) Ω = _ := eq_emb emb_st.tup (by decide) _ xs ys
  simp [b_StairD_eqD, fnD, startG, sRet, fAndV, fT, fIs, bnd, fVar, e1, fBin, fUn, fld_stair, dEq, e2, eS]
end
end K13


set_option Elab.async false
set_option linter.all false
set_option maxRecDepth 100000
set_option maxHeartbeats 800000
namespace K13
open PySem PySem.Spec PyProof.Rows L2 Dn Stairs
section
variable {A : Om} {n : Nat}
theorem PureΩ.append {A W : Om} (h : PureΩ A) (h' : PureΩ W) : PureΩ (A ++ W) := fun c hc => (List.mem_append.mp hc).elim (h c) (h' c)
/-- the pot stands in the cell n -/
structure Pt (n : Nat) (A : Om) : Prop where
  pure : PureΩ A
  at_ : ∃ p q : Int, A[n]? = some (.lst [.int p, .int q]) ∧ 0 ≤ q ∧ q < 4294967296
theorem Pt.lt (h : Pt n A) : n < A.length := by
  obtain ⟨p, q, e, _⟩ := h.at_
  exact (List.getElem?_eq_some_iff.mp e).1
theorem Pt.set (h : Pt n A) {p q : Int} (h1 : 0 ≤ q) (h2 : q < 4294967296) : Pt n (A.set n (.lst [.int p, .int q])) := ⟨PureΩ.set h.pure rfl, p, q, by rw [List.getElem?_set_self h.lt], h1, h2⟩
theorem v_draw (h : Pt n A) {size : Int} (hs : 0 < size) (hs2 : size < 1073741824) : ∃ (d : Int) (A' : Om), 0 ≤ d ∧ d < size ∧ Pt n A' ∧ A'.length = A.length ∧ ∀ W, PureΩ W → F_law_draw [.ref n, .int size] (A ++ W) = some (.ok (.int d), A' ++ W) := by
  obtain ⟨p, q, e, hq1, hq2⟩ := h.at_
  have hn := h.lt
  by_cases hp : 0 < p
  · refine ⟨p % size, A.set n (.lst [.int (p / size), .int q]), Int.emod_nonneg _ (by omega), Int.emod_lt_of_pos _ hs, h.set hq1 hq2, by simp, fun W hW => ?_⟩
    have hg : (A ++ W)[n]? = some (.lst [.int p, .int q]) := by rw [List.getElem?_append_left hn, e]
    have hc : cellL (A ++ W) n = some [.int p, .int q] := by unfold cellL; rw [hg]
    have hset : ∀ c, (A ++ W).set n c = A.set n c ++ W := fun c => List.set_append_left _ _ hn
    refine clean_val0 ?_ (by simp) (PureΩ.append (h.set hq1 hq2).pure hW) rfl
    simp [b_law_draw, fnD, startG, sRet, sIf, sSeq, bS, sSet, eS, sExp, sSkip, sNever, sPar, sAsg, Dn.gT, Dn.gCons, Dn.gNil, Dn.gN, fAndV, fOrV, fNotV, fBl, fAnd, fOr, fNot, fIf, fT, fBin, fUn, bnd, fVar, fC, dIx, dAdd, dSub, dLt, dLe, dGt, dGe, Dn.opI, dNeg, fCons, fNil, fTup, fLst, fLstC, fCB, op1, op2, fIs, isB, isC, isB2, tyD, isT, asL, L2.atI, ixN, fChain, hg, hp, sSetPair, setIx, hc, dDivmod, hs, hs2, hset]
  · have hr1 : 0 ≤ (q * 48271 + 14009) % 2147483587 := Int.emod_nonneg _ (by decide)
    have hr2 : (q * 48271 + 14009) % 2147483587 < 2147483587 := Int.emod_lt_of_pos _ (by decide)
    generalize er : (q * 48271 + 14009) % 2147483587 = r at hr1 hr2
    refine ⟨(r * r % 2147483549 / 13) % size, A.set n (.lst [.int p, .int r]), Int.emod_nonneg _ (by omega), Int.emod_lt_of_pos _ hs, h.set hr1 (by omega), by simp, fun W hW => ?_⟩
    have hg : (A ++ W)[n]? = some (.lst [.int p, .int q]) := by rw [List.getElem?_append_left hn, e]
    have hc : cellL (A ++ W) n = some [.int p, .int q] := by unfold cellL; rw [hg]
    have hset : ∀ c, (A ++ W).set n c = A.set n c ++ W := fun c => List.set_append_left _ _ hn
    have hg2 : ∀ c, (A.set n c ++ W)[n]? = some c := fun c => by rw [List.getElem?_append_left (by simpa using hn), List.getElem?_set_self hn]
    refine clean_val0 ?_ (by simp) (PureΩ.append (h.set hr1 (by omega)).pure hW) rfl
    have c1 : cMul q 48271 = true := by unfold cMul; rw [decide_eq_true_iff]; right; constructor <;> decide
    have c2 : cMul r r = true := by unfold cMul; rw [decide_eq_true_iff]; left; constructor <;> omega
    simp [b_law_draw, fnD, startG, sRet, sIf, sSeq, bS, sSet, eS, sExp, sSkip, sNever, sPar, sAsg, Dn.gT, Dn.gCons, Dn.gNil, Dn.gN, fAndV, fOrV, fNotV, fBl, fAnd, fOr, fNot, fIf, fT, fBin, fUn, bnd, fVar, fC, dIx, dAdd, dSub, dLt, dLe, dGt, dGe, Dn.opI, dNeg, fCons, fNil, fTup, fLst, fLstC, fCB, op1, op2, fIs, isB, isC, isB2, tyD, isT, asL, L2.atI, ixN, fChain, hg, hp, sSetIx, setIx, hc, hset, hg2, dMul, opIC, c1, c2, dMod, dFdiv, dInt, er, hs]
theorem dIx_asL {x : D} {Ω : Om} {i : Int} {xs : List D} (h : asL Ω x = some xs) : dIx x (.int i) Ω = match L2.atI xs i with
    | some d => some (.ok d, Ω)
    | none => none := by
  cases x with
  | lst ys => unfold dIx; dsimp only; rw [h] <;> rfl
  | ref n => unfold dIx; dsimp only; rw [h] <;> rfl
  | _ => cases h
theorem dLen_asL {x : D} {Ω : Om} {xs : List D} (h : asL Ω x = some xs) : dLen [x] Ω = some (.ok (.int (xs.length : Int)), Ω) := by
  cases x with
  | lst ys => unfold dLen op1; dsimp only; rw [h]
  | ref n => unfold dLen op1; dsimp only; rw [h]
  | _ => cases h
theorem bin_ok {Γ : Gm} {Ω Ω1 Ω2 Ω3 : Om} {op : Op2} {f g : Den D} {x y d : D} (h1 : f Γ Ω = some (.ok x, Ω1)) (h2 : g Γ Ω1 = some (.ok y, Ω2)) (h3 : op x y Ω2 = some (.ok d, Ω3)) : fBin op f g Γ Ω = some (.ok d, Ω3) := by
  unfold fBin bnd
  rw [h1, bR_ok]
  dsimp only
  rw [h2, bR_ok]
  exact h3
theorem cb_ok {Γ : Gm} {Ω Ω1 Ω2 : Om} {op : OpA} {r : Den (List D)} {ds : List D} {d : D} (h1 : r Γ Ω = some (.ok ds, Ω1)) (h2 : op ds Ω1 = some (.ok d, Ω2)) : fCB op r Γ Ω = some (.ok d, Ω2) := by
  unfold fCB bnd
  rw [h1, bR_ok]
  exact h2
theorem v_pick (h : Pt n A) {xs : List Int} (hx : xs ≠ []) (hl : xs.length < 1073741824) : ∃ (d : Int) (A' : Om), d ∈ xs ∧ Pt n A' ∧ A'.length = A.length ∧ ∀ W x, PureΩ W → (∀ B : Om, B.length = A.length → asL (B ++ W) x = some (xs.map D.int)) → F_law_pick [.ref n, x] (A ++ W) = some (.ok (.int d), A' ++ W) := by
  have hpos : 0 < xs.length := List.length_pos_iff.mpr hx
  obtain ⟨d, A', h1, h2, h3, h4, h5⟩ := v_draw h (size := (xs.length : Int)) (by omega) (by omega)
  have hi : d.toNat < xs.length := by omega
  refine ⟨xs[d.toNat], A', List.getElem_mem hi, h3, h4, fun W x hW hx => ?_⟩
  refine clean_val0 ?_ (by simp [h4]) (PureΩ.append h3.pure hW) rfl
  have l1 : dLen [x] (A ++ W) = some (.ok (.int (xs.length : Int)), A ++ W) := by
    rw [dLen_asL (hx A rfl), List.length_map]
  have l2 : dIx x (.int d) (A' ++ W) = some (.ok (.int xs[d.toNat]), A' ++ W) := by
    rw [dIx_asL (hx A' h4)]
    have e3 := Dn.atI_nat (xs.map D.int) d.toNat
    rw [show ((d.toNat : Nat) : Int) = d by omega] at e3
    rw [e3]
    simp [hi]
  unfold b_law_pick
  exact fn_rt (ret_ok (bin_ok (var_at rfl) (call_ok (ds := [.ref n, .int (xs.length : Int)]) (cons_ok (var_at rfl) (cons_ok (cb_ok (cons_ok (var_at rfl) nil_ok) l1) nil_ok)) rfl (h5 W hW)) l2))
theorem v_pot {Ω : Om} (ns : List Int) (k : Nat) (hk : k ≤ 4) : ∃ p q : Int, F_law_pot [.scr ns, .int (k : Int)] Ω = some (.ok (.ref Ω.length), Ω ++ [.lst [.int p, .int q]]) ∧ 0 ≤ q ∧ q < 4294967296 := by
  have key : ∀ c : Int, ∃ p q : Int, (sRet (fLstC (fCons (fCB dMax (fCons (fC (.int 0)) (fCons (fBin dSub (fVar 2) (fBin dPow (fC (.int 10)) (fC (.int 18)))) fNil))) (fCons (fBin dAdd (fBin dMod (fBin dMul (fCB dInt (fCons (fBin dAdd (fBin dMod (fCB dInt (fCons (fVar 2) fNil)) (fC (.int 2147483549))) (fC (.int 7))) fNil)) (fBin dPow (fBin dAdd (fBin dMul (fC (.int 2)) (fVar 1)) (fC (.int 3))) (fC (.int 3)))) (fC (.int 2147483477))) (fC (.int 1))) fNil))) : DenS) [some (.scr ns), some (.int (k : Int)), some (.int c)] Ω = some (.rt (.ref Ω.length), [some (.scr ns), some (.int (k : Int)), some (.int c)], Ω ++ [.lst [.int p, .int q]]) ∧ 0 ≤ q ∧ q < 4294967296 := by
    intro c
    have h1 : 0 ≤ c % 2147483549 := Int.emod_nonneg _ (by decide)
    have h2 : c % 2147483549 < 2147483549 := Int.emod_lt_of_pos _ (by decide)
    generalize ec : c % 2147483549 = r at h1 h2
    have c1 : cMul 2 (k : Int) = true := by unfold cMul; rw [decide_eq_true_iff]; left; constructor <;> decide
    have c2 : ∀ z : Int, cMul (r + 7) z = true := fun z => by unfold cMul; rw [decide_eq_true_iff]; left; constructor <;> omega
    have c3 : (2 * (k : Int) + 3).natAbs < 18446744073709551616 := by omega
    have g1 : 0 ≤ (r + 7) * (2 * (k : Int) + 3) ^ 3 % 2147483477 := Int.emod_nonneg _ (by decide)
    have g2 : (r + 7) * (2 * (k : Int) + 3) ^ 3 % 2147483477 < 2147483477 := Int.emod_lt_of_pos _ (by decide)
    refine ⟨if c - 1000000000000000000 > 0 then c - 1000000000000000000 else 0, (r + 7) * (2 * (k : Int) + 3) ^ 3 % 2147483477 + 1, ?_, by omega, by omega⟩
    simp [fnD, startG, sRet, sIf, sSeq, bS, sSet, eS, sExp, sSkip, sNever, sPar, sAsg, Dn.gT, Dn.gCons, Dn.gNil, Dn.gN, fAndV, fOrV, fNotV, fBl, fAnd, fOr, fNot, fIf, fT, fBin, fUn, bnd, fVar, fC, dIx, dAdd, dSub, dLt, dLe, dGt, dGe, Dn.opI, dNeg, fCons, fNil, fTup, fLst, fLstC, fCB, op1, op2, fIs, isB, isC, isB2, tyD, isT, asL, fChain, dMax, dMod, dMul, opIC, dInt, dPow, ec, c1, c2, c3]
  have c0 : cMul 61 (k : Int) = true := by unfold cMul; rw [decide_eq_true_iff]; left; constructor <;> decide
  by_cases hn : k < ns.length
  · obtain ⟨p, q, e, h1, h2⟩ := key (if ns[k] < 0 then -ns[k] else ns[k])
    refine ⟨p, q, ?_, h1, h2⟩
    unfold F_law_pot b_law_pot
    refine fn_rt ((seq_nx (Γ1 := [some (.scr ns), some (.int (k : Int)), some (.int (61 * (k : Int) + 29))]) (Ω1 := Ω) ?_).trans ((seq_nx (Γ1 := [some (.scr ns), some (.int (k : Int)), some (.int (if ns[k] < 0 then -ns[k] else ns[k]))]) (Ω1 := Ω) ?_).trans e))
    · simp [fnD, startG, sRet, sIf, sSeq, bS, sSet, eS, sExp, sSkip, sNever, sPar, sAsg, Dn.gT, Dn.gCons, Dn.gNil, Dn.gN, fAndV, fOrV, fNotV, fBl, fAnd, fOr, fNot, fIf, fT, fBin, fUn, bnd, fVar, fC, dIx, dAdd, dSub, dLt, dLe, dGt, dGe, Dn.opI, dNeg, fCons, fNil, fTup, fLst, fLstC, fCB, op1, op2, fIs, isB, isC, isB2, tyD, isT, asL, fChain, dMul, opIC, c0]
    · simp [fnD, startG, sRet, sIf, sSeq, bS, sSet, eS, sExp, sSkip, sNever, sPar, sAsg, Dn.gT, Dn.gCons, Dn.gNil, Dn.gN, fAndV, fOrV, fNotV, fBl, fAnd, fOr, fNot, fIf, fT, fBin, fUn, bnd, fVar, fC, dIx, dAdd, dSub, dLt, dLe, dGt, dGe, Dn.opI, dNeg, fCons, fNil, fTup, fLst, fLstC, fCB, op1, op2, fIs, isB, isC, isB2, tyD, isT, asL, fChain, dLen, hn, dAbs]
  · obtain ⟨p, q, e, h1, h2⟩ := key (61 * (k : Int) + 29)
    refine ⟨p, q, ?_, h1, h2⟩
    unfold F_law_pot b_law_pot
    refine fn_rt ((seq_nx (Γ1 := [some (.scr ns), some (.int (k : Int)), some (.int (61 * (k : Int) + 29))]) (Ω1 := Ω) ?_).trans ((seq_nx (Γ1 := [some (.scr ns), some (.int (k : Int)), some (.int (61 * (k : Int) + 29))]) (Ω1 := Ω) ?_).trans e))
    · simp [fnD, startG, sRet, sIf, sSeq, bS, sSet, eS, sExp, sSkip, sNever, sPar, sAsg, Dn.gT, Dn.gCons, Dn.gNil, Dn.gN, fAndV, fOrV, fNotV, fBl, fAnd, fOr, fNot, fIf, fT, fBin, fUn, bnd, fVar, fC, dIx, dAdd, dSub, dLt, dLe, dGt, dGe, Dn.opI, dNeg, fCons, fNil, fTup, fLst, fLstC, fCB, op1, op2, fIs, isB, isC, isB2, tyD, isT, asL, fChain, dMul, opIC, c0]
    · simp [fnD, startG, sRet, sIf, sSeq, bS, sSet, eS, sExp, sSkip, sNever, sPar, sAsg, Dn.gT, Dn.gCons, Dn.gNil, Dn.gN, fAndV, fOrV, fNotV, fBl, fAnd, fOr, fNot, fIf, fT, fBin, fUn, bnd, fVar, fC, dIx, dAdd, dSub, dLt, dLe, dGt, dGe, Dn.opI, dNeg, fCons, fNil, fTup, fLst, fLstC, fCB, op1, op2, fIs, isB, isC, isB2, tyD, isT, asL, fChain, dLen, hn]
end
end K13


set_option Elab.async false
set_option linter.all false
set_option maxRecDepth 100000
set_option maxHeartbeats 800000
namespace K13
open PySem PySem.Spec PyProof.Rows L2 Dn Stairs
section
variable {A Ω : Om} {n : Nat}
/-! ### rows drawn -/
structure RowsInv (k : Nat) (rows : List Stp) (el nw : Int) : Prop where
  len : rows.length = k
  pos : Pos1 rows
  rise : Rise (U rows)
  lt : ∀ p ∈ U rows, -4 ≤ p.1 ∧ p.1 < el ∧ p.2 < nw
  few : (U rows).length ≤ 4 * k
  lo : -4 ≤ el
  hi : el ≤ 4 + 7 * (k : Int)
  ends : ∀ s ∈ rows, -4 ≤ s.1 ∧ s.1 + s.2.2 ≤ 1 + 7 * (k : Int) ∧ s.2.2 ≤ 4
theorem RowsInv.step {k : Nat} {rows : List Stp} {el nw sz g h : Int} (r : RowsInv k rows el nw) (hs : 1 ≤ sz) (hs4 : sz ≤ 4) (hg : 0 ≤ g) (hg3 : g ≤ 3) (hh : 0 ≤ h) : RowsInv (k + 1) (rows ++ [(el, nw, sz)]) (el + sz + g) (nw + sz + h) := by
  have hlo := r.lo
  have hhi := r.hi
  have eU : U (rows ++ [(el, nw, sz)]) = U rows ++ unitsOf (el, nw, sz) := by rw [U_append, U_cons, U_nil, List.append_nil]
  refine ⟨by simp [r.len], fun s hs' => ?_, ?_, fun p hp => ?_, ?_, by omega, by push_cast; omega, fun s hs' => ?_⟩
  · rcases List.mem_append.mp hs' with h1 | h1
    · exact r.pos s h1
    · rw [List.mem_singleton.mp h1]; exact hs
  · rw [eU]
    refine List.pairwise_append.mpr ⟨r.rise, rise_units _, fun p hp q hq => ?_⟩
    have h1 := r.lt p hp
    have h2 := mem_units.mp hq
    dsimp only at h2
    omega
  · rw [eU] at hp
    rcases List.mem_append.mp hp with h1 | h1
    · have h2 := r.lt p h1
      omega
    · have h2 := mem_units.mp h1
      dsimp only at h2
      omega
  · rw [eU, List.length_append]
    have h1 := r.few
    have h2 : (unitsOf (el, nw, sz)).length ≤ 4 := by
      unfold Stairs.unitsOf
      rw [List.length_map, List.length_range]
      dsimp only
      omega
    omega
  · rcases List.mem_append.mp hs' with h1 | h1
    · have h2 := r.ends s h1
      push_cast
      omega
    · rw [List.mem_singleton.mp h1]
      dsimp only
      push_cast
      omega
theorem ix3 {d : Int} (h0 : 0 ≤ d) (h4 : d < 4) : ∃ g : Int, dIx (.lst [.int 0, .int 0, .int 1, .int 3]) (.int d) Ω = some (.ok (.int g), Ω) ∧ 0 ≤ g ∧ g ≤ 3 := by
  have e : d = 0 ∨ d = 1 ∨ d = 2 ∨ d = 3 := by omega
  rcases e with rfl | rfl | rfl | rfl <;> exact ⟨_, rfl, by decide, by decide⟩
theorem ix2 {d : Int} (h0 : 0 ≤ d) (h4 : d < 4) : ∃ g : Int, dIx (.lst [.int 0, .int 0, .int 1, .int 2]) (.int d) Ω = some (.ok (.int g), Ω) ∧ 0 ≤ g ∧ g ≤ 3 := by
  have e : d = 0 ∨ d = 1 ∨ d = 2 ∨ d = 3 := by omega
  rcases e with rfl | rfl | rfl | rfl <;> exact ⟨_, rfl, by decide, by decide⟩
theorem draw_call {A A' W : Om} {d : Int} {size : Int} {Γ : Gm} {f : Den D} (h5 : ∀ W, PureΩ W → F_law_draw [.ref n, .int size] (A ++ W) = some (.ok (.int d), A' ++ W)) (hW : PureΩ W) (h0 : Γ[0]? = some (some (.ref n))) (hf : f Γ (A ++ W) = some (.ok (.int size), A ++ W)) : fCall 2 F_law_draw (fCons (fVar 0) (fCons f fNil)) Γ (A ++ W) = some (.ok (.int d), A' ++ W) :=
  call_ok (ds := [.ref n, .int size]) (cons_ok (var_at h0) (cons_ok hf nil_ok)) rfl (h5 W hW)
theorem v_rows (hA : Pt n A) : ∃ (rows : List Stp) (k : Nat) (el nw : Int) (A' : Om), k ≤ 9 ∧ RowsInv k rows el nw ∧ Pt n A' ∧ A'.length = A.length ∧ F_law_steps [.ref n, .int 9] A = some (.ok (.lst (rows.map stD)), A') := by
  obtain ⟨d1, A1, a1, b1, c1, l1, e1⟩ := v_draw hA (size := 9) (by decide) (by decide)
  obtain ⟨d2, A2, a2, b2, c2, l2, e2⟩ := v_draw c1 (size := 9) (by decide) (by decide)
  obtain ⟨d3, A3, a3, b3, c3, l3, e3⟩ := v_draw c2 (size := 10) (by decide) (by decide)
  have hN : PureΩ [] := fun _ h => by cases h
  obtain ⟨Γ', Ω', q1, rows, el, nw, A4, x, y, q2, q3, q4, q5, q6⟩ := loop_nx (t := gN 5) (b := b_law_steps_for) (e := fun (i : Nat) => D.int (0 + (i : Int)))
    (fun (k : Nat) Γ Ω' => ∃ rows el nw A' x y, Γ = [some (.ref n), some (.int 9), some (.int el), some (.int nw), some (.ref A.length), x, y] ∧ Ω' = A' ++ [.lst (rows.map stD)] ∧ Pt n A' ∧ A'.length = A.length ∧ RowsInv k rows el nw) (fun k _ => k + 1) (fun k xs => k + xs.length ≤ 9)
    (fun k i is Γ Ω' ho ⟨rows, el, nw, A', x, y, eΓ, eΩ, hP, hL, hR⟩ => by
      subst eΓ eΩ
      rw [List.length_cons] at ho
      have hW : ∀ rs : List Stp, PureΩ [.lst (rs.map stD)] := fun rs c hc => by
        rw [List.mem_singleton.mp hc]
        exact belowL_map (fun _ => rfl) _
      obtain ⟨s1, B1, u1, v1, w1, m1, f1⟩ := v_draw hP (size := 4) (by decide) (by decide)
      obtain ⟨s2, B2, u2, v2, w2, m2, f2⟩ := v_draw w1 (size := 4) (by decide) (by decide)
      obtain ⟨s3, B3, u3, v3, w3, m3, f3⟩ := v_draw w2 (size := 4) (by decide) (by decide)
      obtain ⟨g, hg1, hg2, hg3⟩ := ix3 (Ω := B2 ++ [.lst ((rows ++ [(el, nw, 1 + s1)]).map stD)]) u2 v2
      obtain ⟨h, hh1, hh2, hh3⟩ := ix2 (Ω := B3 ++ [.lst ((rows ++ [(el, nw, 1 + s1)]).map stD)]) u3 v3
      have hlen : rows.length < 100000 := by rw [hR.len]; omega
      have hcell : cellL (B1 ++ [.lst (rows.map stD)]) A.length = some (rows.map stD) := by
        have : B1.length = A.length := by omega
        rw [← this]
        exact cellL_end
      have hset : ∀ c : Cell, (B1 ++ [Cell.lst (rows.map stD)]).set A.length c = B1 ++ [c] := fun c => by
        have : B1.length = A.length := by omega
        rw [← this]
        exact set_end
      refine ⟨[some (.ref n), some (.int 9), some (.int el), some (.int nw), some (.ref A.length), some (.int (0 + (i : Int))), y], rfl, [some (.ref n), some (.int 9), some (.int (el + (1 + s1) + g)), some (.int (nw + (1 + s1) + h)), some (.ref A.length), some (.int (0 + (i : Int))), some (.int (1 + s1))], B3 ++ [.lst ((rows ++ [(el, nw, 1 + s1)]).map stD)], ?_, ⟨_, _, _, B3, _, _, rfl, rfl, w3, by omega, hR.step (by omega) (by omega) hg2 hg3 hh2⟩, by omega⟩
      unfold b_law_steps_for
      refine (seq_nx (set_ok (bin_ok rfl (draw_call f1 (hW rows) rfl rfl) rfl))).trans ((seq_nx (Γ1 := [some (.ref n), some (.int 9), some (.int el), some (.int nw), some (.ref A.length), some (.int (0 + (i : Int))), some (.int (1 + s1))]) (Ω1 := B1 ++ [.lst ((rows ++ [(el, nw, 1 + s1)]).map stD)]) ?_).trans ((seq_nx (set_ok (bin_ok (bin_ok (x := .int el) (y := .int (1 + s1)) (var_at rfl) (var_at rfl) rfl) (bin_ok (x := .lst [.int 0, .int 0, .int 1, .int 3]) rfl (draw_call f2 (hW _) rfl rfl) hg1) rfl))).trans (set_ok (bin_ok (bin_ok (x := .int nw) (y := .int (1 + s1)) (var_at rfl) (var_at rfl) rfl) (bin_ok (x := .lst [.int 0, .int 0, .int 1, .int 2]) rfl (draw_call f3 (hW _) rfl rfl) hh1) rfl))))
      simp [fnD, startG, sRet, sIf, sSeq, bS, sSet, eS, sExp, sSkip, sNever, sPar, sAsg, Dn.gT, Dn.gCons, Dn.gNil, Dn.gN, fAndV, fOrV, fNotV, fBl, fAnd, fOr, fNot, fIf, fT, fBin, fUn, bnd, fVar, fC, dIx, dAdd, dSub, dLt, dLe, dGt, dGe, Dn.opI, dNeg, fCons, fNil, fTup, fLst, fLstC, fCB, op1, op2, fIs, isB, isC, isB2, tyD, isT, asL, fChain, fMt, chkL, mAppend, hcell, hlen, hset]
      simp [stD]) (List.range d3.toNat) 0 [some (.ref n), some (.int 9), some (.int (d1 - 4)), some (.int (d2 - 4)), some (.ref A.length), none, none] (A3 ++ [.lst []]) (by simp; omega) ⟨[], d1 - 4, d2 - 4, A3, none, none, rfl, rfl, c3, by omega, ⟨rfl, pos_nil, List.Pairwise.nil, fun p hp => (by cases hp), by simp [U_nil], by omega, by simp; omega, fun s hs => (by cases hs)⟩⟩
  have hk : (List.range d3.toNat).foldl (fun k _ => k + 1) 0 = d3.toNat := by
    have : ∀ (xs : List Nat) (k : Nat), xs.foldl (fun k _ => k + 1) k = k + xs.length := by
      intro xs
      induction xs with
      | nil => intro k; rfl
      | cons x xs ih => intro k; rw [List.foldl_cons, ih, List.length_cons]; omega
    rw [this, List.length_range, Nat.zero_add]
  rw [hk] at q6
  subst q2 q3
  refine ⟨rows, d3.toNat, el, nw, A4, by omega, q6, q4, q5, ?_⟩
  refine clean_lst (W := [.lst (rows.map stD)]) (n := A.length) ?_ q5 (Nat.le_refl _) (by rw [← q5]; exact at_end) q4.pure (belowL_map (fun _ => rfl) _)
  unfold b_law_steps
  have e2' : F_law_draw [.ref n, .int 9] A1 = some (.ok (.int d2), A2) := by
    have := e2 [] hN
    rwa [List.append_nil, List.append_nil] at this
  have e1' : F_law_draw [.ref n, .int 9] A = some (.ok (.int d1), A1) := by
    have := e1 [] hN
    rwa [List.append_nil, List.append_nil] at this
  have l2' : A2.length = A.length := by omega
  have hl3 : ∀ W, A2 ++ W = A2 ++ W := fun _ => rfl
  refine fn_rt ((seq_nx (Γ1 := [some (.ref n), some (.int 9), some (.int (d1 - 4)), some (.int (d2 - 4)), some (.ref A.length), none, none]) (Ω1 := A2 ++ [.lst []]) ?_).trans ((seq_nx ((for_ok (ds := (List.range d3.toNat).map fun (i : Nat) => D.int (0 + (i : Int))) (Ω1 := A3 ++ [.lst []]) ?_).trans q1)).trans (ret_ok (var_at rfl))))
  · simp [fnD, startG, sRet, sIf, sSeq, bS, sSet, eS, sExp, sSkip, sNever, sPar, sAsg, Dn.gT, Dn.gCons, Dn.gNil, Dn.gN, fAndV, fOrV, fNotV, fBl, fAnd, fOr, fNot, fIf, fT, fBin, fUn, bnd, fVar, fC, dIx, dAdd, dSub, dLt, dLe, dGt, dGe, Dn.opI, dNeg, fCons, fNil, fTup, fLst, fLstC, fCB, op1, op2, fIs, isB, isC, isB2, tyD, isT, asL, fChain, fCall, e1', e2', l2']
  · have hW : PureΩ [.lst []] := fun c hc => by rw [List.mem_singleton.mp hc]; rfl
    have e3' := e3 [.lst []] hW
    have h1 : d3 < 4611686018427387904 := by omega
    have h2 : -4611686018427387904 ≤ d3 := by omega
    simp [fRange1, fnD, startG, sRet, sIf, sSeq, bS, sSet, eS, sExp, sSkip, sNever, sPar, sAsg, Dn.gT, Dn.gCons, Dn.gNil, Dn.gN, fAndV, fOrV, fNotV, fBl, fAnd, fOr, fNot, fIf, fT, fBin, fUn, bnd, fVar, fC, dIx, dAdd, dSub, dLt, dLe, dGt, dGe, Dn.opI, dNeg, fCons, fNil, fTup, fLst, fLstC, fCB, op1, op2, fIs, isB, isC, isB2, tyD, isT, asL, fChain, fCall, e3', rangeD, h1, h2]
end
end K13


set_option Elab.async false
set_option linter.all false
set_option maxRecDepth 100000
set_option maxHeartbeats 800000
namespace K13
open PySem PySem.Spec PyProof.Rows L2 Dn Stairs
section
variable {A Ω : Om} {n : Nat}
/-! ### dicts of whole numbers -/
def kvOf (p : Int × Int) : Key × D := (.inl p.1, .int p.2)
def dctOf (ps : List (Int × Int)) : List (Key × D) := ps.map kvOf
theorem below_dct : ∀ ps : List (Int × Int), belowK 0 (dctOf ps) = true
  | [] => rfl
  | p :: ps => by
    have := below_dct ps
    unfold dctOf at this ⊢
    rw [List.map_cons]
    unfold belowK kvOf
    dsimp only
    rw [show below 0 (.int p.2) = true from rfl, Bool.true_and]
    exact this
theorem put_new {kvs : List (Key × D)} {k : Key} {v : D} (h : ∀ q ∈ kvs, q.1 ≠ k) : putD kvs k v = kvs ++ [(k, v)] := by
  unfold putD
  rw [if_neg]
  rw [List.any_eq_true]
  rintro ⟨q, hq, e⟩
  exact h q hq (of_decide_eq_true e)
theorem merge_new : ∀ (qs ps : List (Int × Int)), Rise (ps ++ qs) → mergeD (dctOf ps) (dctOf qs) = dctOf (ps ++ qs)
  | [], ps, _ => by rw [List.append_nil]; rfl
  | q :: qs, ps, h => by
    have h1 : mergeD (dctOf ps) (dctOf (q :: qs)) = mergeD (putD (dctOf ps) (.inl q.1) (.int q.2)) (dctOf qs) := rfl
    have h2 : putD (dctOf ps) (.inl q.1) (.int q.2) = dctOf (ps ++ [q]) := by
      rw [put_new]
      · unfold dctOf
        rw [List.map_append]
        rfl
      · intro z hz e
        obtain ⟨p, hp, rfl⟩ := List.mem_map.mp hz
        have := ((List.pairwise_append.mp h).2.2 p hp q (by simp)).1
        have e2 : p.1 = q.1 := Sum.inl.inj e
        omega
    rw [h1, h2, merge_new qs (ps ++ [q]) (by rw [List.append_assoc]; exact h), List.append_assoc]
    rfl
theorem asPairs_pr : ∀ ps : List (Int × Int), asPairs (ps.map prD) = some (dctOf ps)
  | [] => rfl
  | p :: ps => by
    rw [List.map_cons, show prD p = .tup [.int p.1, .int p.2] from rfl]
    unfold asPairs
    dsimp only [keyD]
    rw [asPairs_pr ps]
    rfl
theorem dict_new {ps : List (Int × Int)} (h : Rise ps) : dDict [.lst (ps.map prD)] Ω = some (.ok (.dct (dctOf ps)), Ω) := by
  unfold dDict op1
  dsimp only [asL]
  rw [asPairs_pr]
  dsimp only
  rw [show mergeD [] (dctOf ps) = dctOf ps from merge_new ps [] h]
theorem val_at : ∀ {ps : List (Int × Int)} {p : Int × Int}, Rise ps → p ∈ ps → valD (dctOf ps) (.inl p.1) = some (.int p.2)
  | q :: ps, p, h, hp => by
    unfold valD dctOf
    rw [List.map_cons, List.find?_cons]
    rcases List.mem_cons.mp hp with rfl | hp
    · simp [kvOf]
    · have h1 := (List.pairwise_cons.mp h).1 p hp
      have h2 := val_at (List.pairwise_cons.mp h).2 hp
      have e : ¬ (kvOf q).1 = Sum.inl p.1 := fun e => by
        have : q.1 = p.1 := Sum.inl.inj e
        omega
      simp only [e, decide_false]
      exact h2
theorem val_none : ∀ {ps : List (Int × Int)} {m : Int}, m ∉ ps.map (·.1) → valD (dctOf ps) (.inl m) = none
  | [], m, _ => rfl
  | q :: ps, m, h => by
    unfold valD dctOf
    rw [List.map_cons, List.find?_cons]
    rw [List.map_cons, List.mem_cons, not_or] at h
    have e : ¬ (kvOf q).1 = Sum.inl m := fun e => h.1 (Sum.inl.inj e).symm
    simp only [e, decide_false]
    exact val_none h.2
theorem intKeys_dct : ∀ ps : List (Int × Int), intKeys (dctOf ps) = some (ps.map (·.1))
  | [] => rfl
  | p :: ps => by
    have := intKeys_dct ps
    unfold dctOf at this ⊢
    rw [List.map_cons]
    unfold intKeys kvOf
    dsimp only
    rw [show (ps.map fun p => ((Sum.inl p.1 : Key), D.int p.2)) = ps.map kvOf from rfl, this]
    rfl
theorem sortI_id {ns : List Int} (h : ns.Pairwise (· < ·)) : sortI ns = ns := sorted_unique (sortI_perm ns) (sortI_le ns) (h.imp fun h => by omega)
theorem rise_keys {ps : List (Int × Int)} (h : Rise ps) : (ps.map (·.1)).Pairwise (· < ·) := List.pairwise_map.mpr (h.imp fun h => h.1)
theorem rise_vals {ps : List (Int × Int)} (h : Rise ps) : (ps.map (·.2)).Pairwise (· < ·) := List.pairwise_map.mpr (h.imp fun h => h.2)
theorem v_carry (h : PureΩ Ω) {rows : List Stp} (hp : Pos1 rows) (hr : Rise (U rows)) (hl : (U rows).length ≤ 1000) (h4 : ∀ s ∈ rows, 0 ≤ s.2.2 ∧ s.2.2 ≤ 1000) : F_law_carry [.lst (rows.map stD)] Ω = some (.ok (.dct (dctOf (U rows))), Ω) := by
  obtain ⟨Γ', Ω', e1, e2⟩ := loop_nx (t := gT 3 (Dn.gCons (gN 2) (Dn.gCons (gN 3) (Dn.gCons (gN 4) Dn.gNil)))) (b := b_law_carry_for) (e := stD)
    (fun (acc : List Stp) Γ Ω' => (∃ a b c, Γ = [some (.lst (rows.map stD)), some (.ref Ω.length), a, b, c, none]) ∧ Ω' = Ω ++ [.dct (dctOf (U acc))]) (fun acc s => acc ++ [s]) (fun acc xs => Rise (U (acc ++ xs)) ∧ (U (acc ++ xs)).length ≤ 1000 ∧ ∀ s ∈ xs, 0 ≤ s.2.2 ∧ s.2.2 ≤ 1000)
    (fun acc s xs Γ Ω' ho ⟨⟨a, b, c, eΓ⟩, eΩ⟩ => by
      subst eΓ eΩ
      obtain ⟨ho, hL, hs⟩ := ho
      have ea : acc ++ s :: xs = acc ++ [s] ++ xs := by simp
      rw [ea] at ho hL
      have hU : U (acc ++ [s]) = U acc ++ Stairs.unitsOf s := by rw [U_append, U_cons, U_nil, List.append_nil]
      have h1 : Rise (U acc ++ Stairs.unitsOf s) := by
        rw [U_append, hU] at ho
        exact (List.pairwise_append.mp ho).1
      have h2 : Rise (Stairs.unitsOf s) := (List.pairwise_append.mp h1).2.1
      have h3 : (U acc).length + (Stairs.unitsOf s).length ≤ 100000 := by
        rw [U_append, hU, List.length_append, List.length_append] at hL
        omega
      refine ⟨[some (.lst (rows.map stD)), some (.ref Ω.length), some (.int s.1), some (.int s.2.1), some (.int s.2.2), none], rfl, [some (.lst (rows.map stD)), some (.ref Ω.length), some (.int s.1), some (.int s.2.1), some (.int s.2.2), none], Ω ++ [.dct (dctOf (U (acc ++ [s])))], ?_, ⟨⟨_, _, _, rfl⟩, rfl⟩, ho, hL, fun t ht => hs t (by simp [ht])⟩
      have hs1 := hs s (by simp)
      have g1 : s.2.2 < 4611686018427387904 := by omega
      have e := loopC_map (t := (Tg.nm 5).den) (Γ := [some (.lst (rows.map stD)), some (.ref Ω.length), some (.int s.1), some (.int s.2.1), some (.int s.2.2), none]) (Ω := Ω ++ [.dct (dctOf (U acc))]) (e := fun (i : Nat) => D.int (0 + (i : Int))) (ft := fC true) (fe := fTup (fCons (fBin dAdd (fVar 2) (fVar 5)) (fCons (fBin dAdd (fVar 3) (fVar 5)) fNil))) (fun _ => true) (fun i => prD (s.1 + (0 + (i : Int)), s.2.1 + (0 + (i : Int)))) (List.range s.2.2.toNat) [] (fun i _ => ⟨_, rfl, rfl, fun _ => rfl⟩) (by simp; omega)
      rw [List.filter_eq_self.mpr (fun _ _ => rfl), List.nil_append] at e
      have e' : ((List.range s.2.2.toNat).map fun (i : Nat) => prD (s.1 + (0 + (i : Int)), s.2.1 + (0 + (i : Int)))) = (Stairs.unitsOf s).map prD := by
        unfold Stairs.unitsOf
        rw [List.map_map]
        refine List.map_congr_left fun i _ => ?_
        simp
      rw [e'] at e
      have g2 : -4611686018427387904 ≤ s.2.2 := by omega
      have er : fRange1 (fCons (fVar 4) fNil) [some (.lst (rows.map stD)), some (.ref Ω.length), some (.int s.1), some (.int s.2.1), some (.int s.2.2), none] (Ω ++ [.dct (dctOf (U acc))]) = some (.ok ((List.range s.2.2.toNat).map fun (i : Nat) => D.int (0 + (i : Int))), Ω ++ [.dct (dctOf (U acc))]) := by
        simp [fRange1, fnD, startG, sRet, sIf, sSeq, bS, sSet, eS, sExp, sSkip, sNever, sPar, sAsg, Dn.gT, Dn.gCons, Dn.gNil, Dn.gN, fAndV, fOrV, fNotV, fBl, fAnd, fOr, fNot, fIf, fT, fBin, fUn, bnd, fVar, fC, dIx, dAdd, dSub, dLt, dLe, dGt, dGe, Dn.opI, dNeg, fCons, fNil, fTup, fLst, fLstC, fCB, op1, op2, fIs, isB, isC, isB2, tyD, isT, asL, fChain, rangeD, g1, g2]
      have ec : fLc (fRange1 (fCons (fVar 4) fNil)) (.nm 5) (fC true) (fTup (fCons (fBin dAdd (fVar 2) (fVar 5)) (fCons (fBin dAdd (fVar 3) (fVar 5)) fNil))) [5] [some (.lst (rows.map stD)), some (.ref Ω.length), some (.int s.1), some (.int s.2.1), some (.int s.2.2), none] (Ω ++ [.dct (dctOf (U acc))]) = some (.ok (.lst ((Stairs.unitsOf s).map prD)), Ω ++ [.dct (dctOf (U acc))]) := by
        unfold fLc
        rw [er, bR_ok]
        exact e
      unfold b_law_carry_for
      refine exp_ok (d := .non) ?_
      have ed := cb_ok (op := dDict) (cons_ok ec nil_ok) (dict_new (Ω := Ω ++ [.dct (dctOf (U acc))]) h2)
      have ek : chkK (.ref Ω.length) (Ω ++ [.dct (dctOf (U acc))]) = true := by unfold chkK; simp
      have em : mUpd (.ref Ω.length) [.dct (dctOf (Stairs.unitsOf s))] (Ω ++ [.dct (dctOf (U acc))]) = some (.ok .non, Ω ++ [.dct (dctOf (U (acc ++ [s])))]) := by
        unfold mUpd
        dsimp only
        rw [asK_end]
        dsimp only
        rw [if_pos (by unfold dctOf; rw [List.length_map, List.length_map]; exact h3), merge_new _ _ h1, set_end, hU]
      unfold fMt bnd
      rw [var_at (d := .ref Ω.length) rfl, bR_ok]
      dsimp only
      rw [if_pos ek, cons_ok ed nil_ok, bR_ok, em]) rows [] [some (.lst (rows.map stD)), some (.ref Ω.length), none, none, none, none] (Ω ++ [.dct []]) ⟨hr, hl, h4⟩ ⟨⟨none, none, none, rfl⟩, rfl⟩
  obtain ⟨⟨a, b, c, rfl⟩, rfl⟩ := e2
  have e4 : ∀ (xs acc : List Stp), xs.foldl (fun acc s => acc ++ [s]) acc = acc ++ xs := by
    intro xs
    induction xs with
    | nil => intro acc; simp
    | cons x xs ih => intro acc; rw [List.foldl_cons, ih]; simp
  rw [e4, List.nil_append] at e1
  refine clean_dct (W := [.dct (dctOf (U rows))]) (n := Ω.length) ?_ rfl (Nat.le_refl _) at_end h (below_dct _)
  unfold b_law_carry
  exact fn_rt ((seq_nx (set_ok (d := .ref Ω.length) (Ω1 := Ω ++ [.dct []]) rfl)).trans ((seq_nx ((for_ok (ds := rows.map stD) (Ω1 := Ω ++ [.dct []]) rfl).trans e1)).trans (ret_ok rfl)))
theorem v_form (h : PureΩ Ω) {ps : List (Int × Int)} (hr : Rise ps) (hl : ps.length < 64) : F_law_form [.dct (dctOf ps)] Ω = some (.ok (.lst ((oneForm (ps.map u1)).map stD)), Ω) := by
  obtain ⟨Γ', Ω', e1, e2⟩ := loop_nx (t := gN 2) (b := b_law_form_for) (e := fun (p : Int × Int) => D.int p.1)
    (fun (acc : List Stp) Γ Ω' => (∃ a, Γ = [some (.dct (dctOf ps)), some (.ref Ω.length), a]) ∧ Ω' = Ω ++ [.lst (acc.map stD)]) (fun acc p => push acc (u1 p)) (fun acc xs => acc.length + xs.length < 64 ∧ ∀ p ∈ xs, p ∈ ps)
    (fun acc p xs Γ Ω' ho ⟨⟨a, eΓ⟩, eΩ⟩ => by
      subst eΓ eΩ
      obtain ⟨ho, hm⟩ := ho
      rw [List.length_cons] at ho
      have hpl := push_len acc (u1 p)
      have hv := val_at hr (hm p (by simp))
      have hg : ∀ W, dGet (.dct (dctOf ps)) (.int p.1) W = some (.ok (.int p.2), W) := fun W => by
        unfold dGet onKey
        dsimp only [asK, keyD]
        rw [hv]
      refine ⟨[some (.dct (dctOf ps)), some (.ref Ω.length), some (.int p.1)], rfl, [some (.dct (dctOf ps)), some (.ref Ω.length), some (.int p.1)], _, ?_, ⟨⟨_, rfl⟩, rfl⟩, by omega, fun q hq => hm q (by simp [hq])⟩
      rcases snoc_or acc with rfl | ⟨ys, z, rfl⟩
      · have hne := ne_nil_end emb_st (by decide) (Ω := Ω) ([] : List Stp)
        rw [List.map_nil] at hne
        simp [b_law_form_for, fnD, startG, sRet, sIf, sSeq, bS, sSet, eS, sExp, sSkip, sNever, sPar, sAsg, Dn.gT, Dn.gCons, Dn.gNil, Dn.gN, fAndV, fOrV, fNotV, fBl, fAnd, fOr, fNot, fIf, fT, fBin, fUn, bnd, fVar, fC, dIx, dAdd, dSub, dLt, dLe, dGt, dGe, Dn.opI, dNeg, fCons, fNil, fTup, fLst, fLstC, fCB, op1, op2, fIs, isB, isC, isB2, tyD, isT, asL, fChain, hne, fMt, chkL, mAppend, push_nil, hg]
        simp [stD, u1]
      · have hne := ne_nil_end emb_st (by decide) (Ω := Ω) (ys ++ [z])
        rw [List.map_append, List.map_singleton] at hne
        rw [List.length_append, List.length_singleton] at ho
        have hy : ys.length + 1 < 100000 := by omega
        have ez : stD z = .tup [.int z.1, .int z.2.1, .int z.2.2] := rfl
        rw [push_snoc]
        by_cases hz1 : z.1 + z.2.2 = p.1
        · by_cases hz2 : z.2.1 + z.2.2 = p.2
          · rw [if_pos ⟨hz1, hz2⟩]
            simp [b_law_form_for, fnD, startG, sRet, sIf, sSeq, bS, sSet, eS, sExp, sSkip, sNever, sPar, sAsg, Dn.gT, Dn.gCons, Dn.gNil, Dn.gN, fAndV, fOrV, fNotV, fBl, fAnd, fOr, fNot, fIf, fT, fBin, fUn, bnd, fVar, fC, dIx, dAdd, dSub, dLt, dLe, dGt, dGe, Dn.opI, dNeg, fCons, fNil, fTup, fLst, fLstC, fCB, op1, op2, fIs, isB, isC, isB2, tyD, isT, asL, fChain, hne]
            simp [ez, fnD, startG, sRet, sIf, sSeq, bS, sSet, eS, sExp, sSkip, sNever, sPar, sAsg, Dn.gT, Dn.gCons, Dn.gNil, Dn.gN, fAndV, fOrV, fNotV, fBl, fAnd, fOr, fNot, fIf, fT, fBin, fUn, bnd, fVar, fC, dIx, dAdd, dSub, dLt, dLe, dGt, dGe, Dn.opI, dNeg, fCons, fNil, fTup, fLst, fLstC, fCB, op1, op2, fIs, isB, isC, isB2, tyD, isT, asL, fChain, dEq, eqG, hz1, hz2, hg, sSetIx]
            simp [stD, u1]
          · rw [if_neg (fun q => hz2 q.2)]
            simp [b_law_form_for, fnD, startG, sRet, sIf, sSeq, bS, sSet, eS, sExp, sSkip, sNever, sPar, sAsg, Dn.gT, Dn.gCons, Dn.gNil, Dn.gN, fAndV, fOrV, fNotV, fBl, fAnd, fOr, fNot, fIf, fT, fBin, fUn, bnd, fVar, fC, dIx, dAdd, dSub, dLt, dLe, dGt, dGe, Dn.opI, dNeg, fCons, fNil, fTup, fLst, fLstC, fCB, op1, op2, fIs, isB, isC, isB2, tyD, isT, asL, fChain, hne]
            simp [ez, fnD, startG, sRet, sIf, sSeq, bS, sSet, eS, sExp, sSkip, sNever, sPar, sAsg, Dn.gT, Dn.gCons, Dn.gNil, Dn.gN, fAndV, fOrV, fNotV, fBl, fAnd, fOr, fNot, fIf, fT, fBin, fUn, bnd, fVar, fC, dIx, dAdd, dSub, dLt, dLe, dGt, dGe, Dn.opI, dNeg, fCons, fNil, fTup, fLst, fLstC, fCB, op1, op2, fIs, isB, isC, isB2, tyD, isT, asL, fChain, dEq, eqG, hz1, hz2, hg, fMt, chkL, mAppend, hy]
            simp [stD, u1]
        · rw [if_neg (fun q => hz1 q.1)]
          simp [b_law_form_for, fnD, startG, sRet, sIf, sSeq, bS, sSet, eS, sExp, sSkip, sNever, sPar, sAsg, Dn.gT, Dn.gCons, Dn.gNil, Dn.gN, fAndV, fOrV, fNotV, fBl, fAnd, fOr, fNot, fIf, fT, fBin, fUn, bnd, fVar, fC, dIx, dAdd, dSub, dLt, dLe, dGt, dGe, Dn.opI, dNeg, fCons, fNil, fTup, fLst, fLstC, fCB, op1, op2, fIs, isB, isC, isB2, tyD, isT, asL, fChain, hne]
          simp [ez, fnD, startG, sRet, sIf, sSeq, bS, sSet, eS, sExp, sSkip, sNever, sPar, sAsg, Dn.gT, Dn.gCons, Dn.gNil, Dn.gN, fAndV, fOrV, fNotV, fBl, fAnd, fOr, fNot, fIf, fT, fBin, fUn, bnd, fVar, fC, dIx, dAdd, dSub, dLt, dLe, dGt, dGe, Dn.opI, dNeg, fCons, fNil, fTup, fLst, fLstC, fCB, op1, op2, fIs, isB, isC, isB2, tyD, isT, asL, fChain, dEq, eqG, hz1, hg, fMt, chkL, mAppend, hy]
          simp [stD, u1]) ps [] [some (.dct (dctOf ps)), some (.ref Ω.length), none] (Ω ++ [.lst []]) ⟨by simpa using hl, fun p hp => hp⟩ ⟨⟨none, rfl⟩, rfl⟩
  obtain ⟨⟨a, rfl⟩, rfl⟩ := e2
  have e4 : (ps.foldl (fun acc p => push acc (u1 p)) []) = oneForm (ps.map u1) := by
    unfold oneForm
    rw [List.foldl_map]
  rw [e4] at e1
  refine clean_lst (W := [.lst ((oneForm (ps.map u1)).map stD)]) (n := Ω.length) ?_ rfl (Nat.le_refl _) at_end h (belowL_map (fun _ => rfl) _)
  unfold b_law_form
  refine fn_rt ((seq_nx (set_ok (d := .ref Ω.length) (Ω1 := Ω ++ [.lst []]) rfl)).trans ((seq_nx ((for_ok (ds := ps.map fun p => D.int p.1) (Ω1 := Ω ++ [.lst []]) ?_).trans e1)).trans (ret_ok rfl)))
  have hs := sortI_id (rise_keys hr)
  simp [fnD, startG, sRet, sIf, sSeq, bS, sSet, eS, sExp, sSkip, sNever, sPar, sAsg, Dn.gT, Dn.gCons, Dn.gNil, Dn.gN, fAndV, fOrV, fNotV, fBl, fAnd, fOr, fNot, fIf, fT, fBin, fUn, bnd, fVar, fC, dIx, dAdd, dSub, dLt, dLe, dGt, dGe, Dn.opI, dNeg, fCons, fNil, fTup, fLst, fLstC, fCB, op1, op2, fIs, isB, isC, isB2, tyD, isT, asL, fChain, fSeq, dSortK, asK, intKeys_dct, hs, hl]
theorem v_law_ranges (h : PureΩ Ω) {ms : List Int} (hs : ms.Pairwise (· < ·)) (hl : ms.length ≤ 50000) : F_law_ranges [.lst (ms.map D.int)] Ω = some (.ok (.lst ((ms.foldl pushR []).map prD)), Ω) := by
  obtain ⟨Γ', Ω', e1, e2⟩ := loop_nx (t := gN 2) (b := b_law_ranges_for) (e := D.int)
    (fun (acc : List Pr) Γ Ω' => (∃ a, Γ = [some (.lst (ms.map D.int)), some (.ref Ω.length), a]) ∧ Ω' = Ω ++ [.lst (acc.map prD)]) pushR (fun acc xs => acc.length + xs.length ≤ 50000)
    (fun acc m xs Γ Ω' ho ⟨⟨a, eΓ⟩, eΩ⟩ => by
      subst eΓ eΩ
      rw [List.length_cons] at ho
      have hpl : (pushR acc m).length ≤ acc.length + 1 := by
        rcases snoc_or acc with rfl | ⟨ys, z, rfl⟩
        · simp [pushR_nil]
        · rw [pushR_snoc]
          split <;> simp
      refine ⟨[some (.lst (ms.map D.int)), some (.ref Ω.length), some (.int m)], rfl, [some (.lst (ms.map D.int)), some (.ref Ω.length), some (.int m)], _, ?_, ⟨⟨_, rfl⟩, rfl⟩, by omega⟩
      rcases snoc_or acc with rfl | ⟨ys, z, rfl⟩
      · have hne := ne_nil_end emb_pr (by decide) (Ω := Ω) ([] : List Pr)
        rw [List.map_nil] at hne
        simp [b_law_ranges_for, fnD, startG, sRet, sIf, sSeq, bS, sSet, eS, sExp, sSkip, sNever, sPar, sAsg, Dn.gT, Dn.gCons, Dn.gNil, Dn.gN, fAndV, fOrV, fNotV, fBl, fAnd, fOr, fNot, fIf, fT, fBin, fUn, bnd, fVar, fC, dIx, dAdd, dSub, dLt, dLe, dGt, dGe, Dn.opI, dNeg, fCons, fNil, fTup, fLst, fLstC, fCB, op1, op2, fIs, isB, isC, isB2, tyD, isT, asL, fChain, hne, fMt, chkL, mAppend, pushR_nil]
        simp [prD]
      · have hne := ne_nil_end emb_pr (by decide) (Ω := Ω) (ys ++ [z])
        rw [List.map_append, List.map_singleton] at hne
        rw [List.length_append, List.length_singleton] at ho
        have hy : ys.length + 1 < 100000 := by omega
        have ez : prD z = .tup [.int z.1, .int z.2] := rfl
        rw [pushR_snoc]
        by_cases hz : z.2 = m
        · rw [if_pos hz]
          simp [b_law_ranges_for, fnD, startG, sRet, sIf, sSeq, bS, sSet, eS, sExp, sSkip, sNever, sPar, sAsg, Dn.gT, Dn.gCons, Dn.gNil, Dn.gN, fAndV, fOrV, fNotV, fBl, fAnd, fOr, fNot, fIf, fT, fBin, fUn, bnd, fVar, fC, dIx, dAdd, dSub, dLt, dLe, dGt, dGe, Dn.opI, dNeg, fCons, fNil, fTup, fLst, fLstC, fCB, op1, op2, fIs, isB, isC, isB2, tyD, isT, asL, fChain, hne]
          simp [ez, fnD, startG, sRet, sIf, sSeq, bS, sSet, eS, sExp, sSkip, sNever, sPar, sAsg, Dn.gT, Dn.gCons, Dn.gNil, Dn.gN, fAndV, fOrV, fNotV, fBl, fAnd, fOr, fNot, fIf, fT, fBin, fUn, bnd, fVar, fC, dIx, dAdd, dSub, dLt, dLe, dGt, dGe, Dn.opI, dNeg, fCons, fNil, fTup, fLst, fLstC, fCB, op1, op2, fIs, isB, isC, isB2, tyD, isT, asL, fChain, dEq, eqG, hz, sSetIx]
          simp [prD]
        · rw [if_neg hz]
          simp [b_law_ranges_for, fnD, startG, sRet, sIf, sSeq, bS, sSet, eS, sExp, sSkip, sNever, sPar, sAsg, Dn.gT, Dn.gCons, Dn.gNil, Dn.gN, fAndV, fOrV, fNotV, fBl, fAnd, fOr, fNot, fIf, fT, fBin, fUn, bnd, fVar, fC, dIx, dAdd, dSub, dLt, dLe, dGt, dGe, Dn.opI, dNeg, fCons, fNil, fTup, fLst, fLstC, fCB, op1, op2, fIs, isB, isC, isB2, tyD, isT, asL, fChain, hne]
          simp [ez, fnD, startG, sRet, sIf, sSeq, bS, sSet, eS, sExp, sSkip, sNever, sPar, sAsg, Dn.gT, Dn.gCons, Dn.gNil, Dn.gN, fAndV, fOrV, fNotV, fBl, fAnd, fOr, fNot, fIf, fT, fBin, fUn, bnd, fVar, fC, dIx, dAdd, dSub, dLt, dLe, dGt, dGe, Dn.opI, dNeg, fCons, fNil, fTup, fLst, fLstC, fCB, op1, op2, fIs, isB, isC, isB2, tyD, isT, asL, fChain, dEq, eqG, hz, fMt, chkL, mAppend, hy]
          simp [prD]) ms [] [some (.lst (ms.map D.int)), some (.ref Ω.length), none] (Ω ++ [.lst []]) (by simpa using hl) ⟨⟨none, rfl⟩, rfl⟩
  obtain ⟨⟨a, rfl⟩, rfl⟩ := e2
  refine clean_lst (W := [.lst ((ms.foldl pushR []).map prD)]) (n := Ω.length) ?_ rfl (Nat.le_refl _) at_end h (belowL_map (fun _ => rfl) _)
  unfold b_law_ranges
  refine fn_rt ((seq_nx (set_ok (d := .ref Ω.length) (Ω1 := Ω ++ [.lst []]) rfl)).trans ((seq_nx ((for_ok (ds := ms.map D.int) (Ω1 := Ω ++ [.lst []]) ?_).trans e1)).trans (ret_ok rfl)))
  have ea : ∀ ns : List Int, asInts (ns.map D.int) = some ns := by
    intro ns
    induction ns with
    | nil => rfl
    | cons x xs ih => rw [List.map_cons]; unfold asInts; rw [ih]
  simp [fnD, startG, sRet, sIf, sSeq, bS, sSet, eS, sExp, sSkip, sNever, sPar, sAsg, Dn.gT, Dn.gCons, Dn.gNil, Dn.gN, fAndV, fOrV, fNotV, fBl, fAnd, fOr, fNot, fIf, fT, fBin, fUn, bnd, fVar, fC, dIx, dAdd, dSub, dLt, dLe, dGt, dGe, Dn.opI, dNeg, fCons, fNil, fTup, fLst, fLstC, fCB, op1, op2, fIs, isB, isC, isB2, tyD, isT, asL, fChain, fSeq, dSortI, onInts, ea, sortI_id hs]
end
end K13


set_option Elab.async false
set_option linter.all false
set_option maxRecDepth 100000
set_option maxHeartbeats 800000
namespace K13
open PySem PySem.Spec PyProof.Rows L2 Dn Stairs
section
variable {A Ω Ω1 Ω2 Ω3 : Om} {n : Nat} {Γ : Gm}
theorem lst_ok {r : Den (List D)} {ds : List D} (h : r Γ Ω = some (.ok ds, Ω1)) (hl : ds.length ≤ 100000) : fLst r Γ Ω = some (.ok (.lst ds), Ω1) := by
  unfold fLst bnd
  rw [h, bR_ok]
  exact if_pos hl
theorem lstC_ok {r : Den (List D)} {ds : List D} (h : r Γ Ω = some (.ok ds, Ω1)) (hl : ds.length ≤ 100000) : fLstC r Γ Ω = some (.ok (.ref Ω1.length), Ω1 ++ [.lst ds]) := by
  unfold fLstC bnd
  rw [h, bR_ok]
  exact if_pos hl
theorem methK_ok {c mt : Str} {m l : Nat} {ix : List Nat} {F : FD} {fo : Den D} {r : Den (List D)} {x d : D} {ds es : List D} {fs : List (Str × D)} (ho : fo Γ Ω = some (.ok x, Ω1)) (ha : asO c Ω1 x = some fs) (hl : fs.lookup mt = none) (hr : r Γ Ω1 = some (.ok ds, Ω2)) (he : reord ix (x :: ds) = es) (hn : ds.length = l ∧ es.length = m) (hF : F es Ω2 = some (.ok d, Ω3)) : fMethK c mt m l ix F fo r Γ Ω = some (.ok d, Ω3) := by
  unfold fMethK bnd
  rw [ho, bR_ok]
  dsimp only
  rw [ha]
  dsimp only
  rw [hl]
  dsimp only
  rw [hr, bR_ok, he, if_pos hn, hF]
theorem at_k {W : Om} (k : Nat) : (Ω ++ W)[Ω.length + k]? = W[k]? := by
  rw [List.getElem?_append_right (by omega)]
  congr 1
  omega
theorem set_k {W : Om} (k : Nat) (c : Cell) : (Ω ++ W).set (Ω.length + k) c = Ω ++ W.set k c := by
  rw [List.set_append_right _ _ (by omega)]
  congr 2
  omega
theorem lc_ok {α : Type} {e : α → D} {fi : Den (List D)} {t : Tg} {ft : Den Bool} {fe : Den D} {vs : List Nat} (p : α → Bool) (y : α → D) (xs : List α) (h1 : fi Γ Ω = some (.ok (xs.map e), Ω)) (h : ∀ x ∈ xs, ∃ Γ1, t.den (e x) (wipeG Γ vs) = some Γ1 ∧ ft Γ1 Ω = some (.ok (p x), Ω) ∧ (p x = true → fe Γ1 Ω = some (.ok (y x), Ω))) (hl : xs.length ≤ 100000) : fLc fi t ft fe vs Γ Ω = some (.ok (.lst ((xs.filter p).map y)), Ω) := by
  unfold fLc
  rw [h1, bR_ok, loopC_map p y xs [] h (by simpa using hl), List.nil_append]
theorem asBools_true {α : Type} : ∀ xs : List α, asBools (xs.map fun _ => D.bl true) = some (xs.map fun _ => true)
  | [] => rfl
  | x :: xs => by
    rw [List.map_cons]
    unfold asBools
    rw [asBools_true xs]
    rfl
theorem all_true {α : Type} (xs : List α) : dAll [.lst (xs.map fun _ => D.bl true)] Ω = some (.ok (.bl true), Ω) := by
  unfold dAll onBools op1
  dsimp only [asL]
  rw [asBools_true]
  simp
/-- three lists, and the same three -/
def p3 (L : List Stp) (J G : List Pr) : PyData := .list [.list (L.map stP), .list (J.map prP), .list (G.map prP)]
theorem p3_shaped (L : List Stp) (J G : List Pr) : SeqAt.shaped (p3 L J G) = true := by
  have h1 := emb_st.layL L
  have h2 := emb_pr.layL J
  have h3 := emb_pr.layL G
  have d1 := emb_st.depL L
  have d2 := emb_pr.depL J
  have d3 := emb_pr.depL G
  unfold SeqAt.shaped p3
  simp [PyData.canLay0, PyData.canLayAll0, PyData.depth, PyData.depthAll, h1, h2, h3]
  omega
theorem p3_eq (L : List Stp) (J G : List Pr) : PyData.eqv (p3 L J G) (p3 L J G) = true := by
  unfold p3
  simp [PyData.eqv, PyData.eqvAll, emb_st.eqL, emb_pr.eqL]
theorem toP_due {k : Nat} {L : List Stp} {J G : List Pr} (h : Ω[k]? = some (.lst [.lst (L.map stD), .lst (J.map prD), .lst (G.map prD)])) : toP Ω 3 (.ref k) = some (p3 L J G) := by
  show toPg _ (.ref k) = _
  unfold toPg
  rw [h]
  dsimp only
  simp [toPLg, toPg, emb_st.toL, emb_pr.toL, p3]
theorem toP_heard {a b : Nat} {L : List Stp} {J G : List Pr} (h1 : Ω[a]? = some (.lst (J.map prD))) (h2 : Ω[b]? = some (.lst (G.map prD))) : toP Ω 3 (.lst [.lst (L.map stD), .ref a, .ref b]) = some (p3 L J G) := by
  show toPg _ (.lst _) = _
  simp [toPLg, toPg, emb_st.toL, h1, h2, emb_pr.toL, p3]
theorem dIx_lst {xs : List D} {k : Nat} {d : D} (h : xs[k]? = some d) : dIx (.lst xs) (.int (k : Int)) Ω = some (.ok d, Ω) := by
  rw [dIx_asL (xs := xs) rfl, Dn.atI_nat, h]
end
end K13


set_option Elab.async false
set_option linter.all false
set_option maxRecDepth 100000
set_option maxHeartbeats 800000
namespace K13
open PySem PySem.Spec PyProof.Rows L2 Dn Stairs
section
variable {A Ω Ω1 Ω2 Ω3 : Om} {n : Nat} {Γ : Gm}
theorem pure1 {c : Cell} (h : cellBelow 0 c = true) : PureΩ [c] := fun x hx => by
  rw [List.mem_singleton.mp hx]
  exact h
theorem lim_len (ys : List Stp) (a b : Int) : (lim ys a b).length ≤ ys.length := Nat.le_trans (oneForm_len _) (cut_len a b ys)
theorem range_eq (lo : Int) (k : Nat) : rangeD lo k = (runI lo k).map D.int := by
  unfold rangeD runI
  rw [List.map_map]
  rfl
theorem mt_ok {chk : D → Om → Bool} {op : OpM} {f : Den D} {r : Den (List D)} {x d : D} {ds : List D} (hf : f Γ Ω = some (.ok x, Ω1)) (hc : chk x Ω1 = true) (hr : r Γ Ω1 = some (.ok ds, Ω2)) (ho : op x ds Ω2 = some (.ok d, Ω3)) : fMt chk op f r Γ Ω = some (.ok d, Ω3) := by
  unfold fMt bnd
  rw [hf, bR_ok]
  dsimp only
  rw [if_pos hc, hr, bR_ok, ho]
theorem mt0_ok {chk : D → Om → Bool} {op : OpM} {f : Den D} {x d : D} (hf : f Γ Ω = some (.ok x, Ω1)) (hc : chk x Ω1 = true) (ho : op x [] Ω1 = some (.ok d, Ω3)) : fMt0 chk op f Γ Ω = some (.ok d, Ω3) := by
  unfold fMt0 bnd
  rw [hf, bR_ok]
  dsimp only
  rw [if_pos hc, ho]
theorem t_ok {f : Den D} {b : Bool} (h : f Γ Ω = some (.ok (.bl b), Ω1)) : fT f Γ Ω = some (.ok b, Ω1) := by
  unfold fT bnd
  rw [h, bR_ok]
theorem not_ok {f : Den Bool} {b : Bool} (h : f Γ Ω = some (.ok b, Ω1)) : fNot f Γ Ω = some (.ok (!b), Ω1) := by
  unfold fNot bnd
  rw [h, bR_ok]
  rfl
theorem or_f {f g : Den Bool} {r : Option (Rs Bool × Om)} (h : f Γ Ω = some (.ok false, Ω1)) (h2 : g Γ Ω1 = r) : fOr f g Γ Ω = r := by
  unfold fOr bnd
  rw [h, bR_ok]
  exact h2
theorem andV_t {f g : Den D} {r : Option (Rs D × Om)} (h : f Γ Ω = some (.ok (.bl true), Ω1)) (h2 : g Γ Ω1 = r) : fAndV f g Γ Ω = r := by
  unfold fAndV bnd
  rw [t_ok h, bR_ok]
  exact h2
theorem pushJs_len : ∀ (xs acc : List Pr), (xs.foldl pushJ acc).length ≤ acc.length + xs.length
  | [], acc => by simp
  | s :: xs, acc => by
    have h1 := pushJs_len xs (pushJ acc s)
    have h2 := pushJ_len acc s
    rw [List.foldl_cons, List.length_cons]
    omega
theorem chk_k {W : Om} {k : Nat} {xs : List D} (h : W[k]? = some (.lst xs)) : chkL (.ref (Ω.length + k)) (Ω ++ W) = true := by
  have e := at_k (Ω := Ω) (W := W) k
  rw [h] at e
  simp [chkL, cellL, e]
theorem app_k {W : Om} {k : Nat} {xs : List D} {d : D} (h : W[k]? = some (.lst xs)) (hl : xs.length < 100000) : mAppend (.ref (Ω.length + k)) [d] (Ω ++ W) = some (.ok .non, Ω ++ W.set k (.lst (xs ++ [d]))) := by
  have e := at_k (Ω := Ω) (W := W) k
  rw [h] at e
  unfold mAppend cellL
  dsimp only
  rw [e]
  dsimp only
  rw [if_pos hl, set_k]
theorem clr_k {W : Om} {k : Nat} {xs : List D} (h : W[k]? = some (.lst xs)) : mClear (.ref (Ω.length + k)) [] (Ω ++ W) = some (.ok .non, Ω ++ W.set k (.lst [])) := by
  have e := at_k (Ω := Ω) (W := W) k
  rw [h] at e
  unfold mClear cellL
  dsimp only
  rw [e]
  dsimp only
  rw [set_k]
theorem asL_k {W : Om} {k : Nat} {xs : List D} (h : W[k]? = some (.lst xs)) : asL (Ω ++ W) (.ref (Ω.length + k)) = some xs := by
  have e := at_k (Ω := Ω) (W := W) k
  rw [h] at e
  unfold asL
  dsimp only
  rw [e]
/-- the answers of a stair S with the units ps between lo and hi -/
theorem v_range_right (h : PureΩ Ω) {S : List Stp} {ps : List (Int × Int)} (hU : U S = ps) (hp : Pos1 S) (hr : Rise ps) (hl : ps.length < 64) (hS : S.length ≤ 1000) {lo hi : Int} (hlh : lo < hi) (hlo : -1000 ≤ lo) (hhi : hi ≤ 1000) :
    F_law_range_right [stairD S, .dct (dctOf ps), .int lo, .int hi] Ω = some (.ok (.bl true), Ω) := by
  have hL := lim_len S lo hi
  generalize eL : lim S lo hi = L at hL
  have hUL : U L = ps.filter (inR lo hi) := by rw [← eL, U_lim, hU]
  have hpL : Pos1 L := by rw [← eL]; exact pos_lim S lo hi
  have hrL : Rise (U L) := by rw [hUL]; exact List.Pairwise.filter _ hr
  have hLL : oneForm L = L := by
    rw [← eL]
    exact oneForm_oneForm (pos_cut S lo hi)
  generalize eq : ps.filter (inR lo hi) = qs at hUL
  have hrq : Rise qs := by rw [← hUL]; exact hrL
  have hql : qs.length < 64 := by
    rw [← eq]
    exact Nat.lt_of_le_of_lt (List.length_filter_le _ _) hl
  have hqp : ∀ p ∈ qs, p ∈ ps := fun p hp => by
    rw [← eq] at hp
    exact (List.mem_filter.mp hp).1
  have hform : oneForm (qs.map u1) = L := by rw [← hUL, oneForm_units hpL, hLL]
  generalize eJ : (L.map rng).foldl pushJ [] = J
  have hJ : (qs.map (·.2)).foldl pushR [] = J := by
    rw [← eJ, ← hUL]
    exact (joined_eq L [] hpL hrL fun p _ => endLe_nil _).symm
  generalize eG : gapE (L.foldl gapS ([], lo)) hi = G
  have hfl : ((runI lo (hi - lo).toNat).filter fun m => decide (m ∉ ps.map (·.1))) = ((runI lo (hi - lo).toNat).filter fun m => decide (m ∉ (U L).map (·.1))) := by
    refine List.filter_congr fun m hm => ?_
    rw [mem_runI] at hm
    rw [decide_eq_decide, hUL, ← eq]
    constructor
    · intro h1 h2
      obtain ⟨p, hp, rfl⟩ := List.mem_map.mp h2
      exact h1 (List.mem_map.mpr ⟨p, (List.mem_filter.mp hp).1, rfl⟩)
    · intro h1 h2
      obtain ⟨p, hp, rfl⟩ := List.mem_map.mp h2
      refine h1 (List.mem_map.mpr ⟨p, List.mem_filter.mpr ⟨hp, ?_⟩, rfl⟩)
      unfold Stairs.inR
      rw [decide_eq_true_iff]
      omega
  have hG : ((runI lo (hi - lo).toNat).filter fun m => decide (m ∉ ps.map (·.1))).foldl pushR [] = G := by
    rw [hfl, ← eG]
    refine gaps_eq hi L [] lo hpL hrL (fun p hp => ?_) (by omega) fun z hz => by cases hz
    rw [hUL, ← eq] at hp
    have := (List.mem_filter.mp hp).2
    unfold Stairs.inR at this
    rw [decide_eq_true_iff] at this
    exact this
  have hval : ∀ p ∈ ps, ∀ W, dGet (.dct (dctOf ps)) (.int p.1) W = some (.ok (.int p.2), W) := fun p hp W => by
    unfold dGet onKey
    dsimp only [asK, keyD]
    rw [val_at hr hp]
  -- the marks
  have k1 : fLc (fKeys 1) (.nm 8) (fT (fChain dLe dLt (fVar 2) (fVar 8) (fVar 3))) (fVar 8) [8] (startG 10 [stairD S, .dct (dctOf ps), .int lo, .int hi]) Ω = some (.ok (.lst (qs.map fun p => D.int p.1)), Ω) := by
    rw [← eq]
    refine lc_ok (e := fun (p : Int × Int) => D.int p.1) (inR lo hi) (fun p => D.int p.1) ps ?_ (fun p hp => ⟨[some (stairD S), some (.dct (dctOf ps)), some (.int lo), some (.int hi), none, none, none, none, some (.int p.1), none], rfl, ?_, fun _ => var_at rfl⟩) (by omega)
    · show some (Rs.ok (keysD (dctOf ps)), Ω) = _
      unfold keysD dctOf
      rw [List.map_map]
      rfl
    · unfold Stairs.inR
      by_cases h1 : lo ≤ p.1 <;> by_cases h2 : p.1 < hi <;> simp [fnD, startG, sRet, sIf, sSeq, bS, sSet, eS, sExp, sSkip, sNever, sPar, sAsg, Dn.gT, Dn.gCons, Dn.gNil, Dn.gN, fAndV, fOrV, fNotV, fBl, fAnd, fOr, fNot, fIf, fT, fBin, fUn, bnd, fVar, fC, dIx, dAdd, dSub, dLt, dLe, dGt, dGe, Dn.opI, dNeg, fCons, fNil, fTup, fLst, fLstC, fCB, op1, op2, fIs, isB, isC, isB2, tyD, isT, asL, fChain, h1, h2]
  -- what is due
  have k2 : fLc (fSeq (fVar 4)) (.nm 8) (fC true) (fTup (fCons (fVar 8) (fCons (fBin dGet (fVar 1) (fVar 8)) fNil))) [8] [some (stairD S), some (.dct (dctOf ps)), some (.int lo), some (.int hi), some (.lst (qs.map fun p => D.int p.1)), none, none, none, none, none] Ω = some (.ok (.lst (qs.map prD)), Ω) := by
    have := lc_ok (Γ := [some (stairD S), some (.dct (dctOf ps)), some (.int lo), some (.int hi), some (.lst (qs.map fun p => D.int p.1)), none, none, none, none, none]) (Ω := Ω) (fi := fSeq (fVar 4)) (t := .nm 8) (ft := fC true) (fe := fTup (fCons (fVar 8) (fCons (fBin dGet (fVar 1) (fVar 8)) fNil))) (vs := [8]) (e := fun (p : Int × Int) => D.int p.1) (fun _ => true) prD qs rfl (fun p hp => ⟨[some (stairD S), some (.dct (dctOf ps)), some (.int lo), some (.int hi), some (.lst (qs.map fun p => D.int p.1)), none, none, none, some (.int p.1), none], rfl, rfl, fun _ => by
      simp [fnD, startG, sRet, sIf, sSeq, bS, sSet, eS, sExp, sSkip, sNever, sPar, sAsg, Dn.gT, Dn.gCons, Dn.gNil, Dn.gN, fAndV, fOrV, fNotV, fBl, fAnd, fOr, fNot, fIf, fT, fBin, fUn, bnd, fVar, fC, dIx, dAdd, dSub, dLt, dLe, dGt, dGe, Dn.opI, dNeg, fCons, fNil, fTup, fLst, fLstC, fCB, op1, op2, fIs, isB, isC, isB2, tyD, isT, asL, fChain, hval p (hqp p hp)]
      simp [prD]⟩) (by omega)
    rw [List.filter_eq_self.mpr (fun _ _ => rfl)] at this
    exact this
  have k3 : fLc (fSeq (fVar 4)) (.nm 8) (fC true) (fBin dGet (fVar 1) (fVar 8)) [8] [some (stairD S), some (.dct (dctOf ps)), some (.int lo), some (.int hi), some (.lst (qs.map fun p => D.int p.1)), none, none, none, none, none] Ω = some (.ok (.lst ((qs.map (·.2)).map D.int)), Ω) := by
    have := lc_ok (Γ := [some (stairD S), some (.dct (dctOf ps)), some (.int lo), some (.int hi), some (.lst (qs.map fun p => D.int p.1)), none, none, none, none, none]) (Ω := Ω) (fi := fSeq (fVar 4)) (t := .nm 8) (ft := fC true) (fe := fBin dGet (fVar 1) (fVar 8)) (vs := [8]) (e := fun (p : Int × Int) => D.int p.1) (fun _ => true) (fun p => D.int p.2) qs rfl (fun p hp => ⟨[some (stairD S), some (.dct (dctOf ps)), some (.int lo), some (.int hi), some (.lst (qs.map fun p => D.int p.1)), none, none, none, some (.int p.1), none], rfl, rfl, fun _ => by
      simp [fnD, startG, sRet, sIf, sSeq, bS, sSet, eS, sExp, sSkip, sNever, sPar, sAsg, Dn.gT, Dn.gCons, Dn.gNil, Dn.gN, fAndV, fOrV, fNotV, fBl, fAnd, fOr, fNot, fIf, fT, fBin, fUn, bnd, fVar, fC, dIx, dAdd, dSub, dLt, dLe, dGt, dGe, Dn.opI, dNeg, fCons, fNil, fTup, fLst, fLstC, fCB, op1, op2, fIs, isB, isC, isB2, tyD, isT, asL, fChain, hval p (hqp p hp)]⟩) (by omega)
    rw [List.filter_eq_self.mpr (fun _ _ => rfl)] at this
    rw [List.map_map]
    exact this
  have f1 := v_form h hrq hql
  rw [hform] at f1
  have f2 := v_law_ranges h (rise_vals hrq) (by rw [List.length_map]; omega)
  rw [hJ] at f2
  have k4 := lstC_ok (cons_ok (call_ok (n := 1) (F := F_law_form) (cons_ok (cb_ok (cons_ok k2 nil_ok) (dict_new hrq)) nil_ok) rfl f1) (cons_ok (call_ok (n := 1) (F := F_law_ranges) (cons_ok k3 nil_ok) rfl f2) nil_ok)) (by simp)
  have P1 : PureΩ (Ω ++ [.lst [.lst (L.map stD), .lst (J.map prD)]]) := h.add (by
    show belowL 0 _ = true
    refine belowL_all fun d hd => ?_
    simp at hd
    rcases hd with rfl | rfl
    · exact belowL_map (fun _ => rfl) _
    · exact belowL_map (fun _ => rfl) _)
  have k5 : fLc (fRange2 (fCons (fVar 2) (fCons (fVar 3) fNil))) (.nm 8) (fT (fNotIn (fVar 8) (fVar 1))) (fVar 8) [8] [some (stairD S), some (.dct (dctOf ps)), some (.int lo), some (.int hi), some (.lst (qs.map fun p => D.int p.1)), some (.ref Ω.length), none, none, none, none] (Ω ++ [.lst [.lst (L.map stD), .lst (J.map prD)]]) = some (.ok (.lst (((runI lo (hi - lo).toNat).filter fun m => decide (m ∉ ps.map (·.1))).map D.int)), Ω ++ [.lst [.lst (L.map stD), .lst (J.map prD)]]) := by
    refine lc_ok (e := D.int) (fun m => decide (m ∉ ps.map (·.1))) D.int (runI lo (hi - lo).toNat) ?_ (fun m _ => ⟨[some (stairD S), some (.dct (dctOf ps)), some (.int lo), some (.int hi), some (.lst (qs.map fun p => D.int p.1)), some (.ref Ω.length), none, none, some (.int m), none], rfl, ?_, fun _ => var_at rfl⟩) (by unfold runI; simp; omega)
    · rw [← range_eq]
      have g1 : -4611686018427387904 ≤ lo := by omega
      have g2 : lo < 4611686018427387904 := by omega
      have g3 : -4611686018427387904 ≤ hi := by omega
      have g4 : hi < 4611686018427387904 := by omega
      simp [fRange2, fnD, startG, sRet, sIf, sSeq, bS, sSet, eS, sExp, sSkip, sNever, sPar, sAsg, Dn.gT, Dn.gCons, Dn.gNil, Dn.gN, fAndV, fOrV, fNotV, fBl, fAnd, fOr, fNot, fIf, fT, fBin, fUn, bnd, fVar, fC, dIx, dAdd, dSub, dLt, dLe, dGt, dGe, Dn.opI, dNeg, fCons, fNil, fTup, fLst, fLstC, fCB, op1, op2, fIs, isB, isC, isB2, tyD, isT, asL, fChain, g1, g2, g3, g4]
    · by_cases hm : m ∈ ps.map (·.1)
      · obtain ⟨p, hp, rfl⟩ := List.mem_map.mp hm
        have e1 := val_at hr hp
        have e2 : ∃ b, (p.1, b) ∈ ps := ⟨p.2, hp⟩
        simp [fnD, startG, sRet, sIf, sSeq, bS, sSet, eS, sExp, sSkip, sNever, sPar, sAsg, Dn.gT, Dn.gCons, Dn.gNil, Dn.gN, fAndV, fOrV, fNotV, fBl, fAnd, fOr, fNot, fIf, fT, fBin, fUn, bnd, fVar, fC, dIx, dAdd, dSub, dLt, dLe, dGt, dGe, Dn.opI, dNeg, fCons, fNil, fTup, fLst, fLstC, fCB, op1, op2, fIs, isB, isC, isB2, tyD, isT, asL, fChain, fNotIn, dHasNo, onKey, asK, keyD, e1, e2]
      · have e1 := val_none hm
        have e2 : ∀ b, (m, b) ∉ ps := fun b hb => hm (List.mem_map.mpr ⟨_, hb, rfl⟩)
        simp [fnD, startG, sRet, sIf, sSeq, bS, sSet, eS, sExp, sSkip, sNever, sPar, sAsg, Dn.gT, Dn.gCons, Dn.gNil, Dn.gN, fAndV, fOrV, fNotV, fBl, fAnd, fOr, fNot, fIf, fT, fBin, fUn, bnd, fVar, fC, dIx, dAdd, dSub, dLt, dLe, dGt, dGe, Dn.opI, dNeg, fCons, fNil, fTup, fLst, fLstC, fCB, op1, op2, fIs, isB, isC, isB2, tyD, isT, asL, fChain, fNotIn, dHasNo, onKey, asK, keyD, e1, e2]
  have f3 := v_law_ranges P1 (ms := (runI lo (hi - lo).toNat).filter fun m => decide (m ∉ ps.map (·.1))) (List.Pairwise.filter _ (by
    unfold runI
    refine List.pairwise_map.mpr (List.pairwise_lt_range.imp fun h => ?_)
    omega)) (Nat.le_trans (List.length_filter_le _ _) (by unfold runI; simp; omega))
  rw [hG] at f3
  have hJl : J.length ≤ 1000 := by
    have := pushJs_len (L.map rng) []
    rw [eJ] at this
    simp at this
    omega
  have hGl : G.length ≤ 1001 := by
    have := gaps_len L ([], lo)
    rw [← eG]
    unfold gapE
    rw [List.length_append]
    split <;> simp at this ⊢ <;> omega
  have hrS : Rise (U S) := by rw [hU]; exact hr
  have bL : below 0 (.lst (L.map stD)) = true := belowL_map (fun _ => rfl) _
  have bJ : below 0 (.lst (J.map prD)) = true := belowL_map (fun _ => rfl) _
  have bG : below 0 (.lst (G.map prD)) = true := belowL_map (fun _ => rfl) _
  have B0 : cellBelow 0 (.lst [.lst (L.map stD), .lst (J.map prD), .lst (G.map prD)]) = true := by
    show belowL 0 _ = true
    refine belowL_all fun d hd => ?_
    simp at hd
    rcases hd with rfl | rfl | rfl
    · exact bL
    · exact bJ
    · exact bG
  have PW : ∀ W : Om, (∀ c ∈ W, cellBelow 0 c = true) → PureΩ (Ω ++ W) := fun W hW => PureΩ.append h hW
  have k6 : sExp (fMt chkL mAppend (fVar 5) (fCons (fCall 1 F_law_ranges (fCons (fLc (fRange2 (fCons (fVar 2) (fCons (fVar 3) fNil))) (.nm 8) (fT (fNotIn (fVar 8) (fVar 1))) (fVar 8) [8]) fNil)) fNil)) [some (stairD S), some (.dct (dctOf ps)), some (.int lo), some (.int hi), some (.lst (qs.map fun p => D.int p.1)), some (.ref Ω.length), none, none, none, none] (Ω ++ [.lst [.lst (L.map stD), .lst (J.map prD)]]) = some (.nx, [some (stairD S), some (.dct (dctOf ps)), some (.int lo), some (.int hi), some (.lst (qs.map fun p => D.int p.1)), some (.ref Ω.length), none, none, none, none], Ω ++ [.lst [.lst (L.map stD), .lst (J.map prD), .lst (G.map prD)]]) :=
    exp_ok (mt_ok (x := .ref (Ω.length + 0)) (var_at rfl) (chk_k rfl) (cons_ok (call_ok (cons_ok k5 nil_ok) rfl f3) nil_ok) (app_k (xs := [.lst (L.map stD), .lst (J.map prD)]) rfl (by simp)))
  have P2 : PureΩ (Ω ++ [.lst [.lst (L.map stD), .lst (J.map prD), .lst (G.map prD)]]) := PW _ fun c hc => by
    rw [List.mem_singleton.mp hc]
    exact B0
  have a1 := v_limited P2 S (by omega) hlh
  rw [eL] at a1
  have a2 := v_steps P2 L
  have a3 := v_ranges P2 S (by omega) hlh hrS
  rw [eL, eJ, List.append_assoc, List.length_append] at a3
  have P3 : PureΩ (Ω ++ [.lst [.lst (L.map stD), .lst (J.map prD), .lst (G.map prD)], .lst (J.map prD)]) := PW _ fun c hc => by
    simp at hc
    rcases hc with rfl | rfl
    · exact B0
    · exact bJ
  obtain ⟨W, a4, hW⟩ := v_cut_in P3 S (by omega) hlh
  rw [eL, eG, List.append_assoc, List.length_append] at a4
  have k7 : sSet 6 (fLst (fCons (fMeth "Stair" "steps" 1 F_Stair_steps (fMeth "Stair" "limited" 3 F_Stair_limited (fVar 0) (fCons (fVar 2) (fCons (fVar 3) fNil))) fNil) (fCons (fMeth "Stair" "ranges" 3 F_Stair_ranges (fVar 0) (fCons (fVar 2) (fCons (fVar 3) fNil))) (fCons (fMeth "Stair" "cut_in" 3 F_Stair_cut_in (fVar 0) (fCons (fVar 2) (fCons (fVar 3) fNil))) fNil)))) [some (stairD S), some (.dct (dctOf ps)), some (.int lo), some (.int hi), some (.lst (qs.map fun p => D.int p.1)), some (.ref Ω.length), none, none, none, none] (Ω ++ [.lst [.lst (L.map stD), .lst (J.map prD), .lst (G.map prD)]]) = some (.nx, [some (stairD S), some (.dct (dctOf ps)), some (.int lo), some (.int hi), some (.lst (qs.map fun p => D.int p.1)), some (.ref Ω.length), some (.lst [.lst (L.map stD), .ref (Ω.length + 1), .ref (Ω.length + 3)]), none, none, none], Ω ++ [.lst [.lst (L.map stD), .lst (J.map prD), .lst (G.map prD)], .lst (J.map prD), .lst W, .lst (G.map prD)]) :=
    set_ok (lst_ok (cons_ok (meth_ok (meth_ok (x := stairD S) (ds := [.int lo, .int hi]) (var_at rfl) (asO_stair S) rfl (cons_ok (var_at rfl) (cons_ok (var_at rfl) nil_ok)) rfl a1) (asO_stair L) rfl nil_ok rfl a2) (cons_ok (meth_ok (x := stairD S) (ds := [.int lo, .int hi]) (var_at rfl) (asO_stair S) rfl (cons_ok (var_at rfl) (cons_ok (var_at rfl) nil_ok)) rfl a3) (cons_ok (meth_ok (x := stairD S) (ds := [.int lo, .int hi]) (var_at rfl) (asO_stair S) rfl (cons_ok (var_at rfl) (cons_ok (var_at rfl) nil_ok)) rfl a4) nil_ok))) (by simp))
  have k8 : fOr (fT (fBin dNe (fVar 6) (fVar 5))) (fNot (fT (fCB dAll (fCons (fLc (fSeq (fBin dAdd (fBin dIx (fVar 6) (fC (.int 1))) (fBin dIx (fVar 6) (fC (.int 2))))) (.nm 9) (fC true) (fIs (isB CL "tuple") (fVar 9)) [9]) fNil)))) [some (stairD S), some (.dct (dctOf ps)), some (.int lo), some (.int hi), some (.lst (qs.map fun p => D.int p.1)), some (.ref Ω.length), some (.lst [.lst (L.map stD), .ref (Ω.length + 1), .ref (Ω.length + 3)]), none, none, none] (Ω ++ [.lst [.lst (L.map stD), .lst (J.map prD), .lst (G.map prD)], .lst (J.map prD), .lst W, .lst (G.map prD)]) = some (.ok false, Ω ++ [.lst [.lst (L.map stD), .lst (J.map prD), .lst (G.map prD)], .lst (J.map prD), .lst W, .lst (G.map prD)]) := by
    have e1 : dNe (.lst [.lst (L.map stD), .ref (Ω.length + 1), .ref (Ω.length + 3)]) (.ref (Ω.length + 0)) (Ω ++ [.lst [.lst (L.map stD), .lst (J.map prD), .lst (G.map prD)], .lst (J.map prD), .lst W, .lst (G.map prD)]) = some (.ok (.bl false), Ω ++ [.lst [.lst (L.map stD), .lst (J.map prD), .lst (G.map prD)], .lst (J.map prD), .lst W, .lst (G.map prD)]) := by
      unfold dNe
      rw [eqG_of (toP_heard (at_k 1) (at_k 3)) (toP_due (at_k 0)) (p3_shaped L J G) (p3_shaped L J G), p3_eq]
      rfl
    have e2 : dAdd (.ref (Ω.length + 1)) (.ref (Ω.length + 3)) (Ω ++ [.lst [.lst (L.map stD), .lst (J.map prD), .lst (G.map prD)], .lst (J.map prD), .lst W, .lst (G.map prD)]) = some (.ok (.lst ((J ++ G).map prD)), Ω ++ [.lst [.lst (L.map stD), .lst (J.map prD), .lst (G.map prD)], .lst (J.map prD), .lst W, .lst (G.map prD)]) := by
      unfold dAdd
      dsimp only
      rw [asL_k (k := 1) rfl, asL_k (k := 3) rfl]
      dsimp only
      rw [if_pos (by simp; omega), List.map_append]
    have e3 : fSeq (fBin dAdd (fBin dIx (fVar 6) (fC (.int 1))) (fBin dIx (fVar 6) (fC (.int 2)))) [some (stairD S), some (.dct (dctOf ps)), some (.int lo), some (.int hi), some (.lst (qs.map fun p => D.int p.1)), some (.ref Ω.length), some (.lst [.lst (L.map stD), .ref (Ω.length + 1), .ref (Ω.length + 3)]), none, none, none] (Ω ++ [.lst [.lst (L.map stD), .lst (J.map prD), .lst (G.map prD)], .lst (J.map prD), .lst W, .lst (G.map prD)]) = some (.ok ((J ++ G).map prD), Ω ++ [.lst [.lst (L.map stD), .lst (J.map prD), .lst (G.map prD)], .lst (J.map prD), .lst W, .lst (G.map prD)]) := by
      unfold fSeq bnd
      rw [bin_ok (bin_ok (x := .lst [.lst (L.map stD), .ref (Ω.length + 1), .ref (Ω.length + 3)]) (y := .int 1) (var_at rfl) rfl (dIx_lst (k := 1) rfl)) (bin_ok (x := .lst [.lst (L.map stD), .ref (Ω.length + 1), .ref (Ω.length + 3)]) (y := .int 2) (var_at rfl) rfl (dIx_lst (k := 2) rfl)) e2, bR_ok]
    have e4 := lc_ok (t := .nm 9) (ft := fC true) (fe := fIs (isB CL "tuple") (fVar 9)) (vs := [9]) (fun _ => true) (fun _ => D.bl true) (J ++ G) e3 (fun p _ => ⟨[some (stairD S), some (.dct (dctOf ps)), some (.int lo), some (.int hi), some (.lst (qs.map fun p => D.int p.1)), some (.ref Ω.length), some (.lst [.lst (L.map stD), .ref (Ω.length + 1), .ref (Ω.length + 3)]), none, none, some (prD p)], rfl, rfl, fun _ => rfl⟩) (by simp; omega)
    rw [List.filter_eq_self.mpr (fun _ _ => rfl)] at e4
    exact or_f (t_ok (bin_ok (x := .lst [.lst (L.map stD), .ref (Ω.length + 1), .ref (Ω.length + 3)]) (y := .ref (Ω.length + 0)) (var_at rfl) (var_at rfl) e1)) (not_ok (t_ok (cb_ok (cons_ok e4 nil_ok) (all_true _))))
  have k9 : sExp (fMt chkL mAppend (fBin dIx (fVar 6) (fC (.int 1))) (fCons (fC .non) fNil)) [some (stairD S), some (.dct (dctOf ps)), some (.int lo), some (.int hi), some (.lst (qs.map fun p => D.int p.1)), some (.ref Ω.length), some (.lst [.lst (L.map stD), .ref (Ω.length + 1), .ref (Ω.length + 3)]), none, none, none] (Ω ++ [.lst [.lst (L.map stD), .lst (J.map prD), .lst (G.map prD)], .lst (J.map prD), .lst W, .lst (G.map prD)]) = some (.nx, [some (stairD S), some (.dct (dctOf ps)), some (.int lo), some (.int hi), some (.lst (qs.map fun p => D.int p.1)), some (.ref Ω.length), some (.lst [.lst (L.map stD), .ref (Ω.length + 1), .ref (Ω.length + 3)]), none, none, none], Ω ++ [.lst [.lst (L.map stD), .lst (J.map prD), .lst (G.map prD)], .lst (J.map prD ++ [.non]), .lst W, .lst (G.map prD)]) :=
    exp_ok (mt_ok (bin_ok (x := .lst [.lst (L.map stD), .ref (Ω.length + 1), .ref (Ω.length + 3)]) (y := .int 1) (var_at rfl) rfl (dIx_lst (k := 1) rfl)) (chk_k (k := 1) rfl) (cons_ok rfl nil_ok) (app_k (k := 1) rfl (by simp; omega)))
  have k10 : sExp (fMt0 chkL mClear (fBin dIx (fVar 6) (fC (.int 2)))) [some (stairD S), some (.dct (dctOf ps)), some (.int lo), some (.int hi), some (.lst (qs.map fun p => D.int p.1)), some (.ref Ω.length), some (.lst [.lst (L.map stD), .ref (Ω.length + 1), .ref (Ω.length + 3)]), none, none, none] (Ω ++ [.lst [.lst (L.map stD), .lst (J.map prD), .lst (G.map prD)], .lst (J.map prD ++ [.non]), .lst W, .lst (G.map prD)]) = some (.nx, [some (stairD S), some (.dct (dctOf ps)), some (.int lo), some (.int hi), some (.lst (qs.map fun p => D.int p.1)), some (.ref Ω.length), some (.lst [.lst (L.map stD), .ref (Ω.length + 1), .ref (Ω.length + 3)]), none, none, none], Ω ++ [.lst [.lst (L.map stD), .lst (J.map prD), .lst (G.map prD)], .lst (J.map prD ++ [.non]), .lst W, .lst []]) :=
    exp_ok (mt0_ok (bin_ok (x := .lst [.lst (L.map stD), .ref (Ω.length + 1), .ref (Ω.length + 3)]) (y := .int 2) (var_at rfl) rfl (dIx_lst (k := 2) rfl)) (chk_k (k := 3) rfl) (clr_k (k := 3) rfl))
  have BJ : cellBelow 0 (.lst (J.map prD ++ [.non])) = true := by
    show belowL 0 _ = true
    refine belowL_all fun d hd => ?_
    rcases List.mem_append.mp hd with hd | hd
    · exact belowL_mem (show belowL 0 (J.map prD) = true from bJ) hd
    · rw [List.mem_singleton.mp hd]
      rfl
  have P4 : PureΩ (Ω ++ [.lst [.lst (L.map stD), .lst (J.map prD), .lst (G.map prD)], .lst (J.map prD ++ [.non]), .lst W, .lst []]) := PW _ fun c hc => by
    simp at hc
    rcases hc with rfl | rfl | rfl | rfl
    · exact B0
    · exact BJ
    · exact hW
    · rfl
  have b1 := v_limited P4 S (by omega) hlh
  rw [eL] at b1
  have b3 := v_ranges P4 S (by omega) hlh hrS
  rw [eL, eJ, List.append_assoc, List.length_append] at b3
  have P5 : PureΩ (Ω ++ [.lst [.lst (L.map stD), .lst (J.map prD), .lst (G.map prD)], .lst (J.map prD ++ [.non]), .lst W, .lst [], .lst (J.map prD)]) := PW _ fun c hc => by
    simp at hc
    rcases hc with rfl | rfl | rfl | rfl | rfl
    · exact B0
    · exact BJ
    · exact hW
    · rfl
    · exact bJ
  obtain ⟨V, b4, hV⟩ := v_cut_in P5 S (by omega) hlh
  rw [eL, eG, List.append_assoc, List.length_append] at b4
  have P6 : PureΩ (Ω ++ [.lst [.lst (L.map stD), .lst (J.map prD), .lst (G.map prD)], .lst (J.map prD ++ [.non]), .lst W, .lst [], .lst (J.map prD), .lst V, .lst (G.map prD)]) := PW _ fun c hc => by
    simp at hc
    rcases hc with rfl | rfl | rfl | rfl | rfl | rfl | rfl
    · exact B0
    · exact BJ
    · exact hW
    · rfl
    · exact bJ
    · exact hV
    · exact bG
  have k11 : sSet 7 (fLst (fCons (fMethK "Stair" "limited" 3 2 [0, 2, 1] F_Stair_limited (fVar 0) (fCons (fVar 3) (fCons (fVar 2) fNil))) (fCons (fMethK "Stair" "ranges" 3 2 [0, 2, 1] F_Stair_ranges (fVar 0) (fCons (fVar 3) (fCons (fVar 2) fNil))) (fCons (fMethK "Stair" "cut_in" 3 2 [0, 2, 1] F_Stair_cut_in (fVar 0) (fCons (fVar 3) (fCons (fVar 2) fNil))) fNil)))) [some (stairD S), some (.dct (dctOf ps)), some (.int lo), some (.int hi), some (.lst (qs.map fun p => D.int p.1)), some (.ref Ω.length), some (.lst [.lst (L.map stD), .ref (Ω.length + 1), .ref (Ω.length + 3)]), none, none, none] (Ω ++ [.lst [.lst (L.map stD), .lst (J.map prD), .lst (G.map prD)], .lst (J.map prD ++ [.non]), .lst W, .lst []]) = some (.nx, [some (stairD S), some (.dct (dctOf ps)), some (.int lo), some (.int hi), some (.lst (qs.map fun p => D.int p.1)), some (.ref Ω.length), some (.lst [.lst (L.map stD), .ref (Ω.length + 1), .ref (Ω.length + 3)]), some (.lst [stairD L, .ref (Ω.length + 4), .ref (Ω.length + 6)]), none, none], Ω ++ [.lst [.lst (L.map stD), .lst (J.map prD), .lst (G.map prD)], .lst (J.map prD ++ [.non]), .lst W, .lst [], .lst (J.map prD), .lst V, .lst (G.map prD)]) :=
    set_ok (lst_ok (cons_ok (methK_ok (x := stairD S) (ds := [.int hi, .int lo]) (var_at rfl) (asO_stair S) rfl (cons_ok (var_at rfl) (cons_ok (var_at rfl) nil_ok)) rfl ⟨rfl, rfl⟩ b1) (cons_ok (methK_ok (x := stairD S) (ds := [.int hi, .int lo]) (var_at rfl) (asO_stair S) rfl (cons_ok (var_at rfl) (cons_ok (var_at rfl) nil_ok)) rfl ⟨rfl, rfl⟩ b3) (cons_ok (methK_ok (x := stairD S) (ds := [.int hi, .int lo]) (var_at rfl) (asO_stair S) rfl (cons_ok (var_at rfl) (cons_ok (var_at rfl) nil_ok)) rfl ⟨rfl, rfl⟩ b4) nil_ok))) (by simp))
  have k12 : fAndV (fBin dEq (fLst (fCons (fMeth "Stair" "steps" 1 F_Stair_steps (fBin dIx (fVar 7) (fC (.int 0))) fNil) (fCons (fBin dIx (fVar 7) (fC (.int 1))) (fCons (fBin dIx (fVar 7) (fC (.int 2))) fNil)))) (fVar 5)) (fIs (isC CL "Stair") (fBin dIx (fVar 7) (fC (.int 0)))) [some (stairD S), some (.dct (dctOf ps)), some (.int lo), some (.int hi), some (.lst (qs.map fun p => D.int p.1)), some (.ref Ω.length), some (.lst [.lst (L.map stD), .ref (Ω.length + 1), .ref (Ω.length + 3)]), some (.lst [stairD L, .ref (Ω.length + 4), .ref (Ω.length + 6)]), none, none] (Ω ++ [.lst [.lst (L.map stD), .lst (J.map prD), .lst (G.map prD)], .lst (J.map prD ++ [.non]), .lst W, .lst [], .lst (J.map prD), .lst V, .lst (G.map prD)]) = some (.ok (.bl true), Ω ++ [.lst [.lst (L.map stD), .lst (J.map prD), .lst (G.map prD)], .lst (J.map prD ++ [.non]), .lst W, .lst [], .lst (J.map prD), .lst V, .lst (G.map prD)]) := by
    have i0 : fBin dIx (fVar 7) (fC (.int 0)) [some (stairD S), some (.dct (dctOf ps)), some (.int lo), some (.int hi), some (.lst (qs.map fun p => D.int p.1)), some (.ref Ω.length), some (.lst [.lst (L.map stD), .ref (Ω.length + 1), .ref (Ω.length + 3)]), some (.lst [stairD L, .ref (Ω.length + 4), .ref (Ω.length + 6)]), none, none] (Ω ++ [.lst [.lst (L.map stD), .lst (J.map prD), .lst (G.map prD)], .lst (J.map prD ++ [.non]), .lst W, .lst [], .lst (J.map prD), .lst V, .lst (G.map prD)]) = some (.ok (stairD L), Ω ++ [.lst [.lst (L.map stD), .lst (J.map prD), .lst (G.map prD)], .lst (J.map prD ++ [.non]), .lst W, .lst [], .lst (J.map prD), .lst V, .lst (G.map prD)]) := bin_ok (x := .lst [stairD L, .ref (Ω.length + 4), .ref (Ω.length + 6)]) (y := .int 0) (var_at rfl) rfl (dIx_lst (k := 0) rfl)
    have e1 : dEq (.lst [.lst (L.map stD), .ref (Ω.length + 4), .ref (Ω.length + 6)]) (.ref (Ω.length + 0)) (Ω ++ [.lst [.lst (L.map stD), .lst (J.map prD), .lst (G.map prD)], .lst (J.map prD ++ [.non]), .lst W, .lst [], .lst (J.map prD), .lst V, .lst (G.map prD)]) = some (.ok (.bl true), Ω ++ [.lst [.lst (L.map stD), .lst (J.map prD), .lst (G.map prD)], .lst (J.map prD ++ [.non]), .lst W, .lst [], .lst (J.map prD), .lst V, .lst (G.map prD)]) := by
      unfold dEq
      rw [eqG_of (toP_heard (at_k 4) (at_k 6)) (toP_due (at_k 0)) (p3_shaped L J G) (p3_shaped L J G), p3_eq]
    refine andV_t (bin_ok (y := .ref (Ω.length + 0)) (lst_ok (cons_ok (meth_ok i0 (asO_stair L) rfl nil_ok rfl (v_steps P6 L)) (cons_ok (bin_ok (x := .lst [stairD L, .ref (Ω.length + 4), .ref (Ω.length + 6)]) (y := .int 1) (var_at rfl) rfl (dIx_lst (k := 1) rfl)) (cons_ok (bin_ok (x := .lst [stairD L, .ref (Ω.length + 4), .ref (Ω.length + 6)]) (y := .int 2) (var_at rfl) rfl (dIx_lst (k := 2) rfl)) nil_ok))) (by simp)) (var_at rfl) e1) ?_
    unfold fIs bnd
    rw [i0, bR_ok]
    rfl
  refine clean_val (W := [.lst [.lst (L.map stD), .lst (J.map prD), .lst (G.map prD)], .lst (J.map prD ++ [.non]), .lst W, .lst [], .lst (J.map prD), .lst V, .lst (G.map prD)]) ?_ rfl h rfl
  unfold b_law_range_right
  exact fn_rt ((seq_nx (set_ok k1)).trans ((seq_nx (set_ok k4)).trans ((seq_nx k6).trans ((seq_nx k7).trans ((seq_nx (if_f k8)).trans ((seq_nx k9).trans ((seq_nx k10).trans ((seq_nx k11).trans (ret_ok k12)))))))))
end
end K13


set_option Elab.async false
set_option linter.all false
set_option maxRecDepth 100000
set_option maxHeartbeats 1500000
namespace K13
open PySem PySem.Spec PyProof.Rows L2 Dn Stairs
section
variable {A Ω Ω1 Ω2 Ω3 : Om} {n : Nat} {Γ : Gm}
theorem make_ok {c : Str} {k : Nat} {F : FD} {r : Den (List D)} {ds : List D} {d : D} (h : r Γ Ω = some (.ok ds, Ω1)) (h2 : mkD c k F ds Ω1 = some (.ok d, Ω2)) : fMake c k F r Γ Ω = some (.ok d, Ω2) := by
  unfold fMake bnd
  rw [h, bR_ok]
  exact h2
theorem own_ok {c : Str} {k : Nat} {F : FD} {x y : D} {fs gs : List (Str × D)} {b : Bool} (h1 : asO c Ω x = some fs) (h2 : asO c Ω y = some gs) (hk : k = 2) (hF : F [x, y] Ω = some (.ok (.bl b), Ω1)) : dOwn c k F x y Ω = some (.ok (.bl b), Ω1) := by
  unfold dOwn
  rw [h1]
  dsimp only
  rw [h2]
  dsimp only
  rw [if_pos (show [x, y].length = k from hk.symm), hF]
theorem pureInts (es : List Int) : PureΩ [.lst (es.map D.int)] := pure1 (belowL_map (fun _ => rfl) _)
/-- the edges -/
structure Edges (es : List Int) : Prop where
  all : ∀ e ∈ es, -9 ≤ e ∧ e ≤ 70
  rest : ∀ e ∈ es.drop 2, -9 < e ∧ e < 71
  two : 2 ≤ es.length
theorem Edges.more {es fs : List Int} (h : Edges es) (hf : ∀ e ∈ fs, -9 < e ∧ e < 71) : Edges (es ++ fs) := by
  refine ⟨fun e he => ?_, fun e he => ?_, by have := h.two; simp; omega⟩
  · rcases List.mem_append.mp he with he | he
    · exact h.all e he
    · have := hf e he
      omega
  · rw [List.drop_append_of_le_length h.two] at he
    rcases List.mem_append.mp he with he | he
    · exact h.rest e he
    · exact hf e he
/-- what the stair's parts come to -/
structure Facts13 (S : List Stp) (ps : List (Int × Int)) : Prop where
  u : U S = ps
  pos : Pos1 S
  rise : Rise ps
  few : ps.length ≤ 36
  len : S.length ≤ 1000
  inn : ∀ p ∈ ps, -9 < p.1 ∧ p.1 < 71
  form : oneForm (ps.map u1) = S
  self : oneForm S = S
theorem facts_rows {rows : List Stp} {k : Nat} {el nw : Int} (hk : k ≤ 9) (r : RowsInv k rows el nw) : Facts13 (oneForm rows) (U rows) := by
  refine ⟨U_oneForm r.pos, pos_oneForm r.pos, r.rise, ?_, ?_, fun p hp => ?_, oneForm_units r.pos, oneForm_oneForm r.pos⟩
  · have := r.few
    omega
  · have := oneForm_len rows
    have := r.len
    omega
  · have h1 := r.lt p hp
    have h2 := r.hi
    omega
theorem Facts13.whole {S : List Stp} {ps : List (Int × Int)} (f : Facts13 S ps) : lim S (-9) 71 = S := by
  have e : U (Stairs.cutS S (-9) 71) = U S := by
    rw [U_cut, List.filter_eq_self]
    intro p hp
    rw [f.u] at hp
    have := f.inn p hp
    unfold Stairs.inR
    rw [decide_eq_true_iff]
    omega
  show oneForm (Stairs.cutS S (-9) 71) = S
  rw [oneForm_of_U (pos_cut _ _ _) f.pos e, f.self]
theorem Facts13.parts {S : List Stp} {ps : List (Int × Int)} (f : Facts13 S ps) (m : Int) : U (lim S (-9) m ++ lim S m 71) = ps := by
  rw [U_append, U_lim, U_lim, f.u]
  refine sorted_ext ?_ f.rise.fst fun p => ?_
  · refine List.pairwise_append.mpr ⟨List.Pairwise.filter _ f.rise.fst, List.Pairwise.filter _ f.rise.fst, fun p hp q hq => ?_⟩
    have h1 := (List.mem_filter.mp hp).2
    have h2 := (List.mem_filter.mp hq).2
    unfold Stairs.inR at h1 h2
    rw [decide_eq_true_iff] at h1 h2
    omega
  · rw [List.mem_append, List.mem_filter, List.mem_filter]
    unfold Stairs.inR
    rw [decide_eq_true_iff, decide_eq_true_iff]
    constructor
    · rintro (h | h) <;> exact h.1
    · intro h
      have := f.inn p h
      by_cases hm : p.1 < m
      · exact .inl ⟨h, by omega, hm⟩
      · exact .inr ⟨h, by omega, by omega⟩
theorem v_right_tail {A3 : Om} {rows S : List Stp} {ps : List (Int × Int)} {es : List Int} {mm : Nat} {x5 x6 x7 y8 y9 y10 : Option D} (fx : Facts13 S ps) (hE : Edges es) (hEl2 : es.length ≤ 1000) (p3 : Pt n A3) (l3 : A3.length = mm) :
    ∃ (A4 : Om) (Γ' : Gm), Pt n A4 ∧ A4.length = A3.length ∧ (sSeq (sIf (fOr (fNot (fT (fCall 4 F_law_range_right (fCons (fVar 2) (fCons (fVar 3) (fCons (fUn dNeg (fC (.int 9))) (fCons (fC (.int 71)) fNil))))))) (fNot (fT (fBin (dOwn "Stair" 2 F_StairD_eqD) (fMeth "Stair" "limited" 3 F_Stair_limited (fVar 2) (fCons (fUn dNeg (fC (.int 9))) (fCons (fC (.int 71)) fNil))) (fVar 2))))) (sRet (fC (.bl false))) sSkip) (sSeq (sSet 11 (fCall 2 F_law_pick (fCons (fVar 0) (fCons (fBin dAdd (fLst (fCons (fC (.int 0)) (fCons (fC (.int 1)) (fCons (fC (.int 2)) fNil)))) (fSl (fVar 4) (fPt (fC (.int 2))) fNo)) fNil)))) (sSeq (sSet 12 (fBin dAdd (fMeth "Stair" "steps" 1 F_Stair_steps (fMeth "Stair" "limited" 3 F_Stair_limited (fVar 2) (fCons (fUn dNeg (fC (.int 9))) (fCons (fVar 11) fNil))) fNil) (fMeth "Stair" "steps" 1 F_Stair_steps (fMeth "Stair" "limited" 3 F_Stair_limited (fVar 2) (fCons (fVar 11) (fCons (fC (.int 71)) fNil))) fNil))) (sRet (fAndV (fBin (dOwn "Stair" 2 F_StairD_eqD) (fMake "Stair" 2 F_StairD_initD (fCons (fVar 12) fNil)) (fVar 2)) (fBin dEq (fMeth "Stair" "steps" 1 F_Stair_steps (fVar 2) fNil) (fCall 1 F_law_form (fCons (fVar 3) fNil)))))))) [some (.ref n), some (.lst (rows.map stD)), some (stairD S), some (.dct (dctOf ps)), some (.ref mm), x5, x6, x7, y8, y9, y10, none, none] (A3 ++ [.lst (es.map D.int)]) = some (.rt (.bl true), Γ', A4 ++ [.lst (es.map D.int)]) := by
  have few := fx.few
  have PP : PureΩ (A3 ++ [.lst (es.map D.int)]) := PureΩ.append p3.pure (pureInts es)
  have r := v_range_right PP fx.u fx.pos fx.rise (by omega) fx.len (lo := -9) (hi := 71) (by decide) (by decide) (by decide)
  have lw := v_limited PP S (by have := fx.len; omega) (a := -9) (b := 71) (by decide)
  rw [fx.whole] at lw
  have eqS := v_eq PP S S
  rw [decide_eq_true rfl] at eqS
  have k1 : fOr (fNot (fT (fCall 4 F_law_range_right (fCons (fVar 2) (fCons (fVar 3) (fCons (fUn dNeg (fC (.int 9))) (fCons (fC (.int 71)) fNil))))))) (fNot (fT (fBin (dOwn "Stair" 2 F_StairD_eqD) (fMeth "Stair" "limited" 3 F_Stair_limited (fVar 2) (fCons (fUn dNeg (fC (.int 9))) (fCons (fC (.int 71)) fNil))) (fVar 2)))) [some (.ref n), some (.lst (rows.map stD)), some (stairD S), some (.dct (dctOf ps)), some (.ref mm), x5, x6, x7, y8, y9, y10, none, none] (A3 ++ [.lst (es.map D.int)]) = some (.ok false, A3 ++ [.lst (es.map D.int)]) :=
    or_f (not_ok (b := true) (t_ok (call_ok (ds := [stairD S, .dct (dctOf ps), .int (-9), .int 71]) (cons_ok (var_at rfl) (cons_ok (var_at rfl) (cons_ok rfl (cons_ok rfl nil_ok)))) rfl r))) (not_ok (b := true) (t_ok (bin_ok (meth_ok (x := stairD S) (ds := [.int (-9), .int 71]) (var_at rfl) (asO_stair S) rfl (cons_ok rfl (cons_ok rfl nil_ok)) rfl lw) (var_at rfl) (own_ok (asO_stair S) (asO_stair S) rfl eqS))))
  obtain ⟨mid, A4, hm, p4, l4, pk⟩ := v_pick p3 (xs := [0, 1, 2] ++ es.drop 2) (by simp) (by simp; omega)
  have hmid : -9 < mid ∧ mid < 71 := by
    rcases List.mem_append.mp hm with h | h
    · simp at h
      omega
    · exact hE.rest mid h
  have pk1 := pk _ (.lst (([0, 1, 2] ++ es.drop 2).map D.int)) (pureInts es) (fun B _ => rfl)
  have as3 : asL (A3 ++ [.lst (es.map D.int)]) (.ref mm) = some (es.map D.int) := by
    rw [← l3]
    exact asL_end
  have sl : fSl (fVar 4) (fPt (fC (.int 2))) fNo [some (.ref n), some (.lst (rows.map stD)), some (stairD S), some (.dct (dctOf ps)), some (.ref mm), x5, x6, x7, y8, y9, y10, none, none] (A3 ++ [.lst (es.map D.int)]) = some (.ok (.lst ((es.drop 2).map D.int)), A3 ++ [.lst (es.map D.int)]) := by
    have e2 : fVar 4 [some (.ref n), some (.lst (rows.map stD)), some (stairD S), some (.dct (dctOf ps)), some (.ref mm), x5, x6, x7, y8, y9, y10, none, none] (A3 ++ [.lst (es.map D.int)]) = some (.ok (.ref mm), A3 ++ [.lst (es.map D.int)]) := var_at rfl
    have e3 : fPt (fC (.int 2)) [some (.ref n), some (.lst (rows.map stD)), some (stairD S), some (.dct (dctOf ps)), some (.ref mm), x5, x6, x7, y8, y9, y10, none, none] (A3 ++ [.lst (es.map D.int)]) = some (.ok (some 2), A3 ++ [.lst (es.map D.int)]) := rfl
    have e4 : fNo [some (.ref n), some (.lst (rows.map stD)), some (stairD S), some (.dct (dctOf ps)), some (.ref mm), x5, x6, x7, y8, y9, y10, none, none] (A3 ++ [.lst (es.map D.int)]) = some (.ok none, A3 ++ [.lst (es.map D.int)]) := rfl
    unfold fSl
    simp only [bnd, e2, e3, e4, bR_ok, as3]
    have e5 : Dn.cutD (es.map D.int) (some 2) none = (es.drop 2).map D.int := by
      have two := hE.two
      unfold Dn.cutD
      rw [show (some (2 : Int)) = some ((2 : Nat) : Int) from rfl, HT.sIx_nat, HT.sIx_none, List.length_map, show min 2 es.length = 2 by omega, List.map_drop, List.take_of_length_le (by simp)]
    rw [e5]
  have k2 : sSet 11 (fCall 2 F_law_pick (fCons (fVar 0) (fCons (fBin dAdd (fLst (fCons (fC (.int 0)) (fCons (fC (.int 1)) (fCons (fC (.int 2)) fNil)))) (fSl (fVar 4) (fPt (fC (.int 2))) fNo)) fNil))) [some (.ref n), some (.lst (rows.map stD)), some (stairD S), some (.dct (dctOf ps)), some (.ref mm), x5, x6, x7, y8, y9, y10, none, none] (A3 ++ [.lst (es.map D.int)]) = some (.nx, [some (.ref n), some (.lst (rows.map stD)), some (stairD S), some (.dct (dctOf ps)), some (.ref mm), x5, x6, x7, y8, y9, y10, some (.int mid), none], A4 ++ [.lst (es.map D.int)]) := by
    have k2a : fBin dAdd (fLst (fCons (fC (.int 0)) (fCons (fC (.int 1)) (fCons (fC (.int 2)) fNil)))) (fSl (fVar 4) (fPt (fC (.int 2))) fNo) [some (.ref n), some (.lst (rows.map stD)), some (stairD S), some (.dct (dctOf ps)), some (.ref mm), x5, x6, x7, y8, y9, y10, none, none] (A3 ++ [.lst (es.map D.int)]) = some (.ok (.lst (([0, 1, 2] ++ es.drop 2).map D.int)), A3 ++ [.lst (es.map D.int)]) := by
      refine bin_ok (x := .lst [.int 0, .int 1, .int 2]) (lst_ok (cons_ok rfl (cons_ok rfl (cons_ok rfl nil_ok))) (by simp)) sl ?_
      unfold dAdd
      dsimp only [asL]
      rw [if_pos (by simp; omega)]
      simp
    have k2b := cons_ok (f := fVar 0) (d := .ref n) (var_at rfl) (cons_ok k2a nil_ok)
    generalize ([0, 1, 2] ++ es.drop 2).map D.int = zs at k2b pk1
    exact set_ok (call_ok k2b rfl pk1)
  have P4 : PureΩ (A4 ++ [.lst (es.map D.int)]) := PureΩ.append p4.pure (pureInts es)
  have la := v_limited P4 S (by have := fx.len; omega) (a := -9) (b := mid) (by omega)
  have lb := v_limited P4 S (by have := fx.len; omega) (a := mid) (b := 71) (by omega)
  have hLa := lim_len S (-9) mid
  have hLb := lim_len S mid 71
  have hlenS := fx.len
  have k3 : sSet 12 (fBin dAdd (fMeth "Stair" "steps" 1 F_Stair_steps (fMeth "Stair" "limited" 3 F_Stair_limited (fVar 2) (fCons (fUn dNeg (fC (.int 9))) (fCons (fVar 11) fNil))) fNil) (fMeth "Stair" "steps" 1 F_Stair_steps (fMeth "Stair" "limited" 3 F_Stair_limited (fVar 2) (fCons (fVar 11) (fCons (fC (.int 71)) fNil))) fNil)) [some (.ref n), some (.lst (rows.map stD)), some (stairD S), some (.dct (dctOf ps)), some (.ref mm), x5, x6, x7, y8, y9, y10, some (.int mid), none] (A4 ++ [.lst (es.map D.int)]) = some (.nx, [some (.ref n), some (.lst (rows.map stD)), some (stairD S), some (.dct (dctOf ps)), some (.ref mm), x5, x6, x7, y8, y9, y10, some (.int mid), some (.lst ((lim S (-9) mid ++ lim S mid 71).map stD))], A4 ++ [.lst (es.map D.int)]) := by
    refine set_ok (bin_ok (meth_ok (meth_ok (x := stairD S) (ds := [.int (-9), .int mid]) (var_at rfl) (asO_stair S) rfl (cons_ok rfl (cons_ok (var_at rfl) nil_ok)) rfl la) (asO_stair _) rfl nil_ok rfl (v_steps P4 _)) (meth_ok (meth_ok (x := stairD S) (ds := [.int mid, .int 71]) (var_at rfl) (asO_stair S) rfl (cons_ok (var_at rfl) (cons_ok rfl nil_ok)) rfl lb) (asO_stair _) rfl nil_ok rfl (v_steps P4 _)) ?_)
    unfold dAdd
    dsimp only [asL]
    rw [if_pos (by simp; omega), List.map_append]
  have hUp := fx.parts mid
  have hPp : Pos1 (lim S (-9) mid ++ lim S mid 71) := fun s hs => by
    rcases List.mem_append.mp hs with h | h
    · exact pos_lim _ _ _ s h
    · exact pos_lim _ _ _ s h
  have hlen : (lim S (-9) mid ++ lim S mid 71).length ≤ 60 := by
    have := len_U hPp
    rw [hUp] at this
    omega
  have mk2 := v_mk_stair P4 (steps_of hPp (by rw [hUp]; exact fx.rise)) hlen
  rw [oneForm_of_U hPp fx.pos (by rw [hUp, fx.u]), fx.self] at mk2
  have eqS4 := v_eq P4 S S
  rw [decide_eq_true rfl] at eqS4
  have fm := v_form P4 fx.rise (by omega)
  rw [fx.form] at fm
  have eqL : dEq (.lst (S.map stD)) (.lst (S.map stD)) (A4 ++ [.lst (es.map D.int)]) = some (.ok (.bl true), A4 ++ [.lst (es.map D.int)]) := by
    have := eq_emb emb_st.lst (by decide) (Ω := A4 ++ [.lst (es.map D.int)]) (fun b => D.bl b) S S
    rw [decide_eq_true rfl] at this
    exact this
  have k4 : fAndV (fBin (dOwn "Stair" 2 F_StairD_eqD) (fMake "Stair" 2 F_StairD_initD (fCons (fVar 12) fNil)) (fVar 2)) (fBin dEq (fMeth "Stair" "steps" 1 F_Stair_steps (fVar 2) fNil) (fCall 1 F_law_form (fCons (fVar 3) fNil))) [some (.ref n), some (.lst (rows.map stD)), some (stairD S), some (.dct (dctOf ps)), some (.ref mm), x5, x6, x7, y8, y9, y10, some (.int mid), some (.lst ((lim S (-9) mid ++ lim S mid 71).map stD))] (A4 ++ [.lst (es.map D.int)]) = some (.ok (.bl true), A4 ++ [.lst (es.map D.int)]) :=
    andV_t (bin_ok (make_ok (cons_ok (var_at rfl) nil_ok) mk2) (var_at rfl) (own_ok (asO_stair S) (asO_stair S) rfl eqS4)) (bin_ok (meth_ok (x := stairD S) (var_at rfl) (asO_stair S) rfl nil_ok rfl (v_steps P4 S)) (call_ok (cons_ok (var_at rfl) nil_ok) rfl fm) eqL)
  exact ⟨A4, _, p4, l4, (seq_nx (if_f k1)).trans ((seq_nx k2).trans ((seq_nx k3).trans (ret_ok k4)))⟩
end
end K13


set_option Elab.async false
set_option linter.all false
set_option maxRecDepth 100000
set_option maxHeartbeats 3000000
namespace K13
open PySem PySem.Spec PyProof.Rows L2 Dn Stairs
section
variable {A Ω Ω1 Ω2 Ω3 : Om} {n : Nat} {Γ : Gm}
theorem v_right (hA : Pt n A) : ∃ A', Pt n A' ∧ A'.length = A.length ∧ F_law_right [.ref n] A = some (.ok (.bl true), A') := by
  obtain ⟨rows, k, el, nw, A1, hk, hR, p1, l1, s1⟩ := v_rows hA
  have fx := facts_rows hk hR
  generalize eS : oneForm rows = S at fx
  generalize eps : U rows = ps at fx
  have hst : Steps rows := steps_of hR.pos hR.rise
  have mk := v_mk_stair p1.pure hst (by rw [hR.len]; omega)
  rw [eS] at mk
  have cy := v_carry p1.pure hR.pos hR.rise (by have := hR.few; omega) (fun s hs => ⟨by have := hR.pos s hs; omega, by have := (hR.ends s hs).2.2; omega⟩)
  rw [eps] at cy
  -- the edges
  obtain ⟨Γ1, Ω1, q1, A2, es, x5, x6, x7, rfl, rfl, p2, l2, hE, hEl⟩ := loop_nx (t := gT 3 (Dn.gCons (gN 5) (Dn.gCons (gN 6) (Dn.gCons (gN 7) Dn.gNil)))) (b := b_law_right_for) (e := stD)
    (fun (j : Nat) Γ Ω' => ∃ A' es x y z, Γ = [some (.ref n), some (.lst (rows.map stD)), some (stairD S), some (.dct (dctOf ps)), some (.ref A1.length), x, y, z, none, none, none, none, none] ∧ Ω' = A' ++ [.lst (es.map D.int)] ∧ Pt n A' ∧ A'.length = A1.length ∧ Edges es ∧ es.length = 2 + 4 * j) (fun j _ => j + 1) (fun j xs => (∀ s ∈ xs, s ∈ rows) ∧ j + xs.length ≤ 9)
    (fun j s xs Γ Ω' ho ⟨A', es, x, y, z, eΓ, eΩ, hP, hL, hE, hEl⟩ => by
      subst eΓ eΩ
      obtain ⟨ho, hj⟩ := ho
      rw [List.length_cons] at hj
      have hs := ho s (by simp)
      have h1 := hR.pos s hs
      have h2 := hR.ends s hs
      obtain ⟨d, B, u1, v1, w1, m1, f1⟩ := v_draw hP (size := s.2.2) (by omega) (by omega)
      have hEd : Edges (es ++ [s.1, s.1 + s.2.2, s.1 + d, s.1 + s.2.2 + 1]) := hE.more fun e he => by
        simp at he
        omega
      refine ⟨[some (.ref n), some (.lst (rows.map stD)), some (stairD S), some (.dct (dctOf ps)), some (.ref A1.length), some (.int s.1), some (.int s.2.1), some (.int s.2.2), none, none, none, none, none], rfl, [some (.ref n), some (.lst (rows.map stD)), some (stairD S), some (.dct (dctOf ps)), some (.ref A1.length), some (.int s.1), some (.int s.2.1), some (.int s.2.2), none, none, none, none, none], B ++ [.lst ((es ++ [s.1, s.1 + s.2.2, s.1 + d, s.1 + s.2.2 + 1]).map D.int)], ?_, ⟨B, _, _, _, _, rfl, rfl, w1, by omega, hEd, by simp [hEl]; omega⟩, fun t ht => ho t (by simp [ht]), by omega⟩
      have hc : chkL (.ref A1.length) (A' ++ [.lst (es.map D.int)]) = true := by
        rw [← hL]
        simp [chkL]
      have hm : mExtend (.ref A1.length) [.lst [.int s.1, .int (s.1 + s.2.2), .int (s.1 + d), .int (s.1 + s.2.2 + 1)]] (B ++ [.lst (es.map D.int)]) = some (.ok .non, B ++ [.lst ((es ++ [s.1, s.1 + s.2.2, s.1 + d, s.1 + s.2.2 + 1]).map D.int)]) := by
        have e : A1.length = B.length := by omega
        have hz : es.length + 4 ≤ 100000 := by omega
        rw [e]
        simp [mExtend, asL]
        omega
      unfold b_law_right_for
      exact exp_ok (mt_ok (x := .ref A1.length) (var_at rfl) hc (cons_ok (lst_ok (cons_ok (var_at rfl) (cons_ok (bin_ok (x := .int s.1) (y := .int s.2.2) (var_at rfl) (var_at rfl) rfl) (cons_ok (bin_ok (x := .int s.1) (var_at rfl) (draw_call f1 (pureInts es) rfl (var_at rfl)) rfl) (cons_ok (bin_ok (y := .int 1) (bin_ok (x := .int s.1) (y := .int s.2.2) (var_at rfl) (var_at rfl) rfl) rfl rfl) nil_ok)))) (by simp)) nil_ok) hm)) rows 0 [some (.ref n), some (.lst (rows.map stD)), some (stairD S), some (.dct (dctOf ps)), some (.ref A1.length), none, none, none, none, none, none, none, none] (A1 ++ [.lst [.int (-9), .int 70]]) ⟨fun s hs => hs, by rw [hR.len]; omega⟩ ⟨A1, [-9, 70], none, none, none, rfl, rfl, p1, rfl, ⟨fun e he => by simp at he; omega, fun e he => by simp at he, by simp⟩, rfl⟩
  have hne : es ≠ [] := fun e => by
    have := hE.two
    rw [e] at this
    simp at this
  have hEl2 : es.length ≤ 1000 := by
    have e : ∀ (xs : List Stp) (j : Nat), xs.foldl (fun j _ => j + 1) j = j + xs.length := by
      intro xs
      induction xs with
      | nil => intro j; rfl
      | cons x xs ih => intro j; rw [List.foldl_cons, ih, List.length_cons]; omega
    rw [e, hR.len] at hEl
    omega
  have l2' : A2.length = A1.length := l2
  -- the turns
  obtain ⟨Γ2, Ω2, q2, A3, y8, y9, y10, rfl, rfl, p3, l3⟩ := loop_nx (t := gN 8) (b := b_law_right_for2) (e := fun (i : Nat) => D.int (0 + (i : Int)))
    (fun (_ : Unit) Γ Ω' => ∃ A' y8 y9 y10, Γ = [some (.ref n), some (.lst (rows.map stD)), some (stairD S), some (.dct (dctOf ps)), some (.ref A1.length), x5, x6, x7, y8, y9, y10, none, none] ∧ Ω' = A' ++ [.lst (es.map D.int)] ∧ Pt n A' ∧ A'.length = A1.length) (fun u _ => u) (fun _ _ => True)
    (fun u i is Γ Ω' _ ⟨A', y8, y9, y10, eΓ, eΩ, hP, hL⟩ => by
      subst eΓ eΩ
      obtain ⟨d1, B1, m1, w1, t1, f1⟩ := v_pick hP hne (by omega)
      obtain ⟨d2, B2, m2, w2, t2, f2⟩ := v_pick w1 hne (by omega)
      have hx : ∀ (C B : Om), C.length = A1.length → B.length = C.length → asL (B ++ [.lst (es.map D.int)]) (.ref A1.length) = some (es.map D.int) := fun C B h1 h2 => by
        rw [← h1, ← h2]
        exact asL_end
      have g1 := f1 _ (.ref A1.length) (pureInts es) (fun B hB => hx A' B hL hB)
      have g2 := f2 _ (.ref A1.length) (pureInts es) (fun B hB => hx B1 B (by omega) hB)
      have e1 := hE.all d1 m1
      have e2 := hE.all d2 m2
      have PP : PureΩ (B2 ++ [.lst (es.map D.int)]) := PureΩ.append w2.pure (pureInts es)
      have s2 : sPar [9, 10] (fCons (fCall 2 F_law_pick (fCons (fVar 0) (fCons (fVar 4) fNil))) (fCons (fCall 2 F_law_pick (fCons (fVar 0) (fCons (fVar 4) fNil))) fNil)) [some (.ref n), some (.lst (rows.map stD)), some (stairD S), some (.dct (dctOf ps)), some (.ref A1.length), x5, x6, x7, some (.int (0 + (i : Int))), y9, y10, none, none] (A' ++ [.lst (es.map D.int)]) = some (.nx, [some (.ref n), some (.lst (rows.map stD)), some (stairD S), some (.dct (dctOf ps)), some (.ref A1.length), x5, x6, x7, some (.int (0 + (i : Int))), some (.int d1), some (.int d2), none, none], B2 ++ [.lst (es.map D.int)]) := by
        have c := cons_ok (call_ok (n := 2) (F := F_law_pick) (Γ := [some (.ref n), some (.lst (rows.map stD)), some (stairD S), some (.dct (dctOf ps)), some (.ref A1.length), x5, x6, x7, some (.int (0 + (i : Int))), y9, y10, none, none]) (r := fCons (fVar 0) (fCons (fVar 4) fNil)) (ds := [.ref n, .ref A1.length]) (cons_ok (var_at rfl) (cons_ok (var_at rfl) nil_ok)) rfl g1) (cons_ok (call_ok (n := 2) (F := F_law_pick) (r := fCons (fVar 0) (fCons (fVar 4) fNil)) (ds := [.ref n, .ref A1.length]) (cons_ok (var_at rfl) (cons_ok (var_at rfl) nil_ok)) rfl g2) nil_ok)
        unfold sPar
        rw [c]
        rfl
      have fin : ∀ lo hi : Int, lo ≤ hi → -9 ≤ lo → hi ≤ 70 → sIf (fNot (fT (fCall 4 F_law_range_right (fCons (fVar 2) (fCons (fVar 3) (fCons (fVar 9) (fCons (fBin dAdd (fVar 10) (fCB dInt (fCons (fBin dEq (fVar 9) (fVar 10)) fNil))) fNil))))))) (sRet (fC (.bl false))) sSkip [some (.ref n), some (.lst (rows.map stD)), some (stairD S), some (.dct (dctOf ps)), some (.ref A1.length), x5, x6, x7, some (.int (0 + (i : Int))), some (.int lo), some (.int hi), none, none] (B2 ++ [.lst (es.map D.int)]) = some (.nx, [some (.ref n), some (.lst (rows.map stD)), some (stairD S), some (.dct (dctOf ps)), some (.ref A1.length), x5, x6, x7, some (.int (0 + (i : Int))), some (.int lo), some (.int hi), none, none], B2 ++ [.lst (es.map D.int)]) := fun lo hi h1 h2 h3 => by
        by_cases he : lo = hi
        · have r := v_range_right PP fx.u fx.pos fx.rise (by have := fx.few; omega) fx.len (lo := lo) (hi := hi + 1) (by omega) (by omega) (by omega)
          refine (if_f (not_ok (b := true) (t_ok (call_ok (ds := [stairD S, .dct (dctOf ps), .int lo, .int (hi + 1)]) (Ω1 := B2 ++ [.lst (es.map D.int)]) ?_ rfl r)))).trans rfl
          refine cons_ok (var_at rfl) (cons_ok (var_at rfl) (cons_ok (var_at rfl) (cons_ok (bin_ok (x := .int hi) (y := .int 1) (var_at rfl) (cb_ok (ds := [.bl true]) (cons_ok (bin_ok (x := .int lo) (y := .int hi) (var_at rfl) (var_at rfl) ?_) nil_ok) rfl) rfl) nil_ok)))
          simp [dEq, eqG, he]
        · have r := v_range_right PP fx.u fx.pos fx.rise (by have := fx.few; omega) fx.len (lo := lo) (hi := hi + 0) (by omega) (by omega) (by omega)
          refine (if_f (not_ok (b := true) (t_ok (call_ok (ds := [stairD S, .dct (dctOf ps), .int lo, .int (hi + 0)]) (Ω1 := B2 ++ [.lst (es.map D.int)]) ?_ rfl r)))).trans rfl
          refine cons_ok (var_at rfl) (cons_ok (var_at rfl) (cons_ok (var_at rfl) (cons_ok (bin_ok (x := .int hi) (y := .int 0) (var_at rfl) (cb_ok (ds := [.bl false]) (cons_ok (bin_ok (x := .int lo) (y := .int hi) (var_at rfl) (var_at rfl) ?_) nil_ok) rfl) rfl) nil_ok)))
          simp [dEq, eqG, he]
      refine ⟨[some (.ref n), some (.lst (rows.map stD)), some (stairD S), some (.dct (dctOf ps)), some (.ref A1.length), x5, x6, x7, some (.int (0 + (i : Int))), y9, y10, none, none], rfl, ?_⟩
      unfold b_law_right_for2
      by_cases hd : d2 < d1
      · refine ⟨_, _, (seq_nx s2).trans ((seq_nx ((if_t (t_ok (bin_ok (x := .int d1) (y := .int d2) (op := dGt) (var_at rfl) (var_at rfl) (show dGt _ _ _ = some (.ok (.bl true), _) by simp [dGt, Dn.opI, hd])))).trans (show sPar [9, 10] (fCons (fVar 10) (fCons (fVar 9) fNil)) _ _ = some (.nx, [some (.ref n), some (.lst (rows.map stD)), some (stairD S), some (.dct (dctOf ps)), some (.ref A1.length), x5, x6, x7, some (.int (0 + (i : Int))), some (.int d2), some (.int d1), none, none], B2 ++ [.lst (es.map D.int)]) from rfl))).trans (fin d2 d1 (by omega) (by omega) (by omega))), ⟨B2, _, _, _, rfl, rfl, w2, by omega⟩, trivial⟩
      · refine ⟨_, _, (seq_nx s2).trans ((seq_nx ((if_f (t_ok (bin_ok (x := .int d1) (y := .int d2) (op := dGt) (var_at rfl) (var_at rfl) (show dGt _ _ _ = some (.ok (.bl false), _) by simp [dGt, Dn.opI]; omega)))).trans rfl)).trans (fin d1 d2 (by omega) (by omega) (by omega))), ⟨B2, _, _, _, rfl, rfl, w2, by omega⟩, trivial⟩) (List.range 14) () _ _ trivial ⟨A2, none, none, none, rfl, rfl, p2, l2⟩
  obtain ⟨A4, Γ4, p4, l4, qt⟩ := v_right_tail (rows := rows) (x5 := x5) (x6 := x6) (x7 := x7) (y8 := y8) (y9 := y9) (y10 := y10) fx hE hEl2 p3 l3
  refine ⟨A4, p4, by omega, ?_⟩
  refine clean_val (W := [.lst (es.map D.int)]) ?_ (by omega) p4.pure rfl
  have k0 : sPar [2, 3] (fCons (fMake "Stair" 2 F_StairD_initD (fCons (fVar 1) fNil)) (fCons (fCall 1 F_law_carry (fCons (fVar 1) fNil)) fNil)) [some (.ref n), some (.lst (rows.map stD)), none, none, none, none, none, none, none, none, none, none, none] A1 = some (.nx, [some (.ref n), some (.lst (rows.map stD)), some (stairD S), some (.dct (dctOf ps)), none, none, none, none, none, none, none, none, none], A1) := by
    have c := cons_ok (Γ := [some (.ref n), some (.lst (rows.map stD)), none, none, none, none, none, none, none, none, none, none, none]) (make_ok (r := fCons (fVar 1) fNil) (cons_ok (var_at rfl) nil_ok) mk) (cons_ok (call_ok (n := 1) (r := fCons (fVar 1) fNil) (cons_ok (var_at rfl) nil_ok) rfl cy) nil_ok)
    unfold sPar
    rw [c]
    rfl
  unfold b_law_right
  exact fn_rt ((seq_nx (set_ok (call_ok (ds := [.ref n, .int 9]) (cons_ok (var_at rfl) (cons_ok rfl nil_ok)) rfl s1))).trans ((seq_nx k0).trans ((seq_nx (set_ok (lstC_ok (ds := [.int (-9), .int 70]) (cons_ok rfl (cons_ok rfl nil_ok)) (by simp)))).trans ((seq_nx ((for_ok (ds := rows.map stD) rfl).trans q1)).trans ((seq_nx ((for_ok (ds := (List.range 14).map fun (i : Nat) => D.int (0 + (i : Int))) rfl).trans q2)).trans qt)))))
theorem v_law_loop (ns : List Int) : ∀ (ks : List Nat) (acc : List D) (Ω : Om), (∀ k ∈ ks, k ≤ 4) → PureΩ Ω → acc.length + ks.length ≤ 1000 → ∃ Ω', PureΩ Ω' ∧ loopC (Tg.nm 1).den (fC true) (fCall 1 F_law_right (fCons (fCall 2 F_law_pot (fCons (fVar 0) (fCons (fVar 1) fNil))) fNil)) [some (.scr ns), none] (ks.map fun (i : Nat) => D.int (0 + (i : Int))) acc Ω = some (.ok (.lst (acc ++ ks.map fun _ => D.bl true)), Ω')
  | [], acc, Ω, _, h, _ => ⟨Ω, h, by simp [loopC]⟩
  | k :: ks, acc, Ω, hk, h, hl => by
    rw [List.length_cons] at hl
    obtain ⟨p, q, e1, hq1, hq2⟩ := v_pot (Ω := Ω) ns k (hk k (by simp))
    have pt : Pt Ω.length (Ω ++ [.lst [.int p, .int q]]) := ⟨h.add rfl, p, q, at_end, hq1, hq2⟩
    obtain ⟨A', p', l', e2⟩ := v_right pt
    obtain ⟨Ω', h', e3⟩ := v_law_loop ns ks (acc ++ [.bl true]) A' (fun j hj => hk j (by simp [hj])) p'.pure (by simp; omega)
    refine ⟨Ω', h', ?_⟩
    rw [List.map_cons]
    unfold loopC
    have e4 : (Tg.nm 1).den (.int (0 + (k : Int))) [some (.scr ns), none] = some [some (.scr ns), some (.int (0 + (k : Int)))] := rfl
    rw [e4, show (0 + (k : Int)) = (k : Int) by omega]
    dsimp only
    have e5 : fCall 1 F_law_right (fCons (fCall 2 F_law_pot (fCons (fVar 0) (fCons (fVar 1) fNil))) fNil) [some (.scr ns), some (.int (k : Int))] Ω = some (.ok (.bl true), A') := call_ok (cons_ok (call_ok (ds := [.scr ns, .int (k : Int)]) (cons_ok (var_at rfl) (cons_ok (var_at rfl) nil_ok)) rfl e1) nil_ok) rfl e2
    show (match fC true [some (.scr ns), some (.int (k : Int))] Ω with
      | some (.ok true, Ω1) => match fCall 1 F_law_right (fCons (fCall 2 F_law_pot (fCons (fVar 0) (fCons (fVar 1) fNil))) fNil) [some (.scr ns), some (.int (k : Int))] Ω1 with
        | some (.ok y, Ω2) => if acc.length < 100000 then loopC (Tg.nm 1).den (fC true) (fCall 1 F_law_right (fCons (fCall 2 F_law_pot (fCons (fVar 0) (fCons (fVar 1) fNil))) fNil)) [some (.scr ns), none] (ks.map fun (i : Nat) => D.int (0 + (i : Int))) (acc ++ [y]) Ω2 else none
        | _ => none
      | some (.ok false, Ω1) => loopC (Tg.nm 1).den (fC true) (fCall 1 F_law_right (fCons (fCall 2 F_law_pot (fCons (fVar 0) (fCons (fVar 1) fNil))) fNil)) [some (.scr ns), none] (ks.map fun (i : Nat) => D.int (0 + (i : Int))) acc Ω1
      | _ => none) = _
    have e6 : fC true [some (.scr ns), some (.int (k : Int))] Ω = some (.ok true, Ω) := rfl
    rw [e6]
    dsimp only
    rw [e5]
    dsimp only
    rw [if_pos (by omega), e3]
    simp
theorem v_law (ns : List Int) : F_law [.scr ns] [] = some (.ok (.bl true), []) := by
  have hN : PureΩ [] := fun _ h => by cases h
  have hc : ∃ c : Nat, c ≤ 4 ∧ fRange1 (fCons (fCB dMax (fCons (fC (.int 1)) (fCons (fCB dMin (fCons (fCB dLen (fCons (fVar 0) fNil)) (fCons (fC (.int 4)) fNil))) fNil))) fNil) (startG 2 [.scr ns]) [] = some (.ok ((List.range c).map fun (i : Nat) => D.int (0 + (i : Int))), []) := by
    have key : ∀ z : Int, 1 ≤ z → z ≤ 4 → fCons (fCB dMax (fCons (fC (.int 1)) (fCons (fCB dMin (fCons (fCB dLen (fCons (fVar 0) fNil)) (fCons (fC (.int 4)) fNil))) fNil))) fNil (startG 2 [.scr ns]) [] = some (.ok [.int z], []) → fRange1 (fCons (fCB dMax (fCons (fC (.int 1)) (fCons (fCB dMin (fCons (fCB dLen (fCons (fVar 0) fNil)) (fCons (fC (.int 4)) fNil))) fNil))) fNil) (startG 2 [.scr ns]) [] = some (.ok ((List.range z.toNat).map fun (i : Nat) => D.int (0 + (i : Int))), []) := fun z h1 h2 e => by
      unfold fRange1 bnd
      rw [e, bR_ok]
      dsimp only
      rw [if_pos ⟨by omega, by omega⟩]
      rfl
    refine ⟨(if (if (4 : Int) < (ns.length : Int) then 4 else (ns.length : Int)) > 1 then (if (4 : Int) < (ns.length : Int) then 4 else (ns.length : Int)) else 1).toNat, ?_, key _ ?_ ?_ (cons_ok (cb_ok (ds := [.int 1, .int (if (4 : Int) < (ns.length : Int) then 4 else (ns.length : Int))]) (cons_ok rfl (cons_ok (cb_ok (ds := [.int (ns.length : Int), .int 4]) (cons_ok (cb_ok (cons_ok (var_at rfl) nil_ok) rfl) (cons_ok rfl nil_ok)) rfl) nil_ok)) rfl) nil_ok)⟩
    · split <;> split <;> omega
    · split <;> split <;> omega
    · split <;> split <;> omega
  obtain ⟨c, hc4, hr⟩ := hc
  obtain ⟨Ω', h', e⟩ := v_law_loop ns (List.range c) [] [] (fun k hk => by have := List.mem_range.mp hk; omega) hN (by simp; omega)
  refine clean_val (Ω1 := []) (W := Ω') ?_ rfl hN rfl
  unfold b_law
  rw [List.nil_append] at e ⊢
  refine fn_rt (ret_ok (cb_ok (cons_ok ?_ nil_ok) (all_true (List.range c))))
  unfold fLc
  rw [hr, bR_ok]
  exact e
end
end K13


set_option Elab.async false
set_option linter.all false
set_option maxRecDepth 100000
set_option maxHeartbeats 0
namespace K13
open PySem PySem.Spec PyProof.Rows L2 Dn Stairs
theorem scr_of {K : PySem.W.Frag} {H : Hp} {a : Addr} {vs : List V} (hO : Only H) (h : SqL K H a vs) : ScrL K H a vs := by
  rcases h with (h | h) | h
  · rcases hO a with e | ⟨o, xs, e⟩
    · rw [e] at h; cases h
    · rw [e] at h; cases h
  · exact .inl h
  · exact .inr h
theorem sp_law {K : PySem.W.Frag} {H : Hp} {a : Addr} {ns : List Int} (hO : Only H) (h : SqL K H a (ns.map V.int)) : spD K 1 F_law [.ref a] H (fun v _ => v = .bl true) fun _ _ _ => False := by
  refine ⟨rfl, ⟨[], fun _ => False⟩, [], [.scr ns], ⟨rfl, List.nodup_nil, fun n c a h => by simp at h, fun a h => h.elim⟩, ?_, ?_⟩
  · unfold RlL
    exact ⟨_, _, rfl, by unfold Rl; exact ⟨a, rfl, scr_of hO h⟩, by unfold RlL; rfl⟩
  · rw [v_law]
    intro m' v H' g r
    unfold Rl at r
    exact r
end K13
open PySem PySem.W PySem.Calls PyProof.Rows
theorem PySem.Challenge.cw_roadstairs_k13_ranges_carried_and_cut_holds : PySem.Challenge.rw_roadstairs_k13_ranges_carried_and_cut.Holds := by
  w_on; o_law
  refine HandSHeadRun.head_any (r := OpenLaw.row PySem.Challenge.rw_roadstairs_k13_ranges_carried_and_cut) (q := view (OpenLaw.row PySem.Challenge.rw_roadstairs_k13_ranges_carried_and_cut).prog [34]) (H := K13.hk) (ob := K13.ob) (M := 9000) (loose := K13.loose) (d := HandSHeadRun.topDef (OpenLaw.row PySem.Challenge.rw_roadstairs_k13_ranges_carried_and_cut).prog 34) (kwd := []) K13.ob_eq
    (by kernel_rfl) (fun s => by kernel_rfl) K13.run (by kernel_rfl) (by kernel_rfl) (by kernel_rfl) (by rfl) (by first | assumption | decide +kernel) (by decide +kernel) ⟨rfl, rfl, rfl, rfl, rfl, by decide +kernel⟩ ?hw ?hc
  case hw => w_witness2
  case hc =>
    refine L2.walk_ofW (l := PySem.Challenge.rw_roadstairs_k13_ranges_carried_and_cut) (n := 63) (k := 11) (x := "_law_script") (fun w => L2.CX (PySem.Challenge.rw_roadstairs_k13_ranges_carried_and_cut).prog w) rfl (by decide) (by kernel_rfl) ⟨rfl, by decide, by decide⟩ ?F (fun w H s e s' h => L2.cx_none w H s e s' h)
    intro w mg fa h Y G hmg0
    obtain ⟨K, KX, c⟩ := Y
    have hmg : mg ("law" : PySem.Str) = some (.ref fa) := by
      have e : (HandSHeadRun.topDef (OpenLaw.row PySem.Challenge.rw_roadstairs_k13_ranges_carried_and_cut).prog 34).name = ("law" : PySem.Str) := by kernel_rfl
      rw [← e]
      exact hmg0
    obtain ⟨fd, hb, hF⟩ := K13.facts (P := (PySem.Challenge.rw_roadstairs_k13_ranges_carried_and_cut).prog) (w := w) KX G hmg c
    exact ⟨K, fd, Dn.spD K 1 K13.F_law, KX, hb, fun H a ns hl hO hS => K13.sp_law hO hS, hF⟩

